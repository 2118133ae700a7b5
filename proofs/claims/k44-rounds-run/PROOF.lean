import PyProof.Rows.All
import Wide.All
import OpenK.AllK
import Wide.FinOn
import HandS.ForMost
import HandS.ForExc
import HandS.Deep
import HandS.IsInst
import HandS.Walk
import HandS.Zip
import HandS.Wide
import HandS.Style
import HandS.TupAny
import HandS.TupMul
import HandS.TupLe
import HandS.More
import HandS.Conv
import HandS.Flow
import HandS.TryMany
import HandS.ExcInit
import HandS.ExcField
import HandS.ExcIs
import HandS.CallSlots
import KE.DataMinMax
import KE.KDictKeyed
import HandS.NoneIn
import HandS.TupLen
import HandS.Defaults
import HandS.WideBits
import HandS.SortInts
import KE.GoesMore
import HandS.DictComp
import KE.KExcIs
import HandS.EndBits
import PySem.Challenge.RW_shallowsums_k44_rounds_run
set_option Elab.async false
set_option linter.all false
set_option maxRecDepth 100000
set_option maxHeartbeats 4000000
/-! DlA: data as trees, how a heap bears them, results, the bind of readings. -/
namespace Dl
open PySem PySem.Spec PyProof.Rows L2

/-- a datum: a Python value seen as a tree (c: the class's name, ns: its attributes' names) -/
inductive D where
  | non | bl (b : Bool) | int (i : Int) | str (x : Str) | tup (xs : List D) | lst (xs : List D) | ins (c : Str) (ns : List Str) (ds : List D) | dct (ks vs : List D)
  deriving Inhabited
/-- what comes of it: nothing is said, a value, an exception of the class named -/
inductive R (α : Type) where
  | un | ok (a : α) | ex (c : Str) (ns : List Str) (ds : List D)
def R.bind {α β : Type} : R α → (α → R β) → R β
  | .un, _ => .un
  | .ok a, f => f a
  | .ex c ns ds, _ => .ex c ns ds
mutual
/-- a datum as a key -/
def dKey : D → Option NestedKey
  | .non => some .none
  | .int i => some (.num i)
  | .str x => some (.text x)
  | .tup ds => (dKeys ds).map .tup
  | _ => none
def dKeys : List D → Option (List NestedKey)
  | [] => some []
  | d :: ds => (dKey d).bind fun k => (dKeys ds).map fun ks => k :: ks
end
/-- keys of the two kinds -/
def tupOk (d : D) : Bool := match dKey d with
  | some (.tup l) => decide ((NestedKey.tup l).depth ≤ 8)
  | _ => false
def flatOk (d : D) : Bool := match dKey d with
  | some (.tup _) => false
  | some _ => true
  | none => false
/-- the place of a key -/
def dIdx (ks : List D) (k : D) : R (Option Nat) :=
  if (ks.all flatOk && flatOk k) = true ∨ (ks.all tupOk && tupOk k) = true then (match dKeys ks, dKey k with
    | some nks, some nk => .ok (nks.findIdx? fun y => decide (y = nk))
    | _, _ => .un) else .un
def entOf (w : World) (x : NestedKey × Addr × Value) : DictEntry := ⟨x.1.hash w, .ref x.2.1, x.2.2⟩
def rawP (a : Addr) (es : Array DictEntry) (ep : Nat) (h : Heap) : Prop := ∃ o, h.get? a = some o ∧ o.ExactDict ∧ o.data = .dict es ep
def rawO (a : Addr) (es : Array DictEntry) (ep : Nat) : HO := .ext (rawP a es ep)
theorem rawP_stay {a : Addr} {es : Array DictEntry} {ep : Nat} {h1 h2 : Heap} (x : rawP a es ep h1) (k : ∀ o, h1.get? a = some o → h2.get? a = some o) : rawP a es ep h2 := by
  obtain ⟨o, ho, r⟩ := x
  exact ⟨o, k o ho, r⟩
theorem rawO_ok {P : Program} {w : World} {H : Hp} {h : Heap} {a : Addr} {es : Array DictEntry} {ep : Nat} (x : rawP a es ep h) : ObjOk P w H h a (rawO a es ep) := by
  refine ⟨x, ?_, fun h1 h2 y k => rawP_stay y k⟩
  obtain ⟨o, ho, _⟩ := x
  exact ⟨o, ho⟩
theorem raw_mut {H : Hp} {a : Addr} {es : Array DictEntry} {ep : Nat} (h : H a = some (rawO a es ep)) : Mut (H a) := by
  rw [h]; exact True.intro
abbrev SD := List (Option D)

/-- the object of a dict at a: its keys as values kv and as keys nks, its values vv -/
def DctAt (w : World) (o : HO) (a : Addr) (kv vv : List V) (nks : List NestedKey) : Prop :=
  ∃ (es : Array DictEntry) (ep : Nat), o = rawO a es ep ∧ (a == sysModules) = false ∧ es.size ≤ sizeLine ∧ Vals kv (es.toList.map (·.key)) ∧ Vals vv (es.toList.map (·.val)) ∧ es.toList.map (·.hash) = nks.map (NestedKey.hash w) ∧ nks.Nodup
section
variable (w : World) (K : PySem.W.Frag) (mg : Str → Option Value)
mutual
inductive Rep (F : Hp) : V → D → Prop
  | non : Rep F .non .non
  | bl (b : Bool) : Rep F (.bl b) (.bl b)
  | int (i : Int) : Rep F (.int i) (.int i)
  | str (x : Str) : Rep F (.str x) (.str x)
  | lst {a : Addr} {xs : List V} {ds : List D} : SqL K F a xs → Reps F xs ds → Rep F (.ref a) (.lst ds)
  | tup {a : Addr} {xs : List V} {ds : List D} : SqT K F a xs → Reps F xs ds → Rep F (.ref a) (.tup ds)
  | ins {a C dx : Addr} {fs : List (Str × V)} {c : Str} {ns : List Str} {ds : List D} : F a = some (.ins C dx fs) → mg c = some (.ref C) → fs.map (·.1) = ns → Reps F (fs.map (·.2)) ds → Rep F (.ref a) (.ins c ns ds)
  | dct {a : Addr} {o : HO} {kv vv : List V} {ks vs : List D} {nks : List NestedKey} : F a = some o → DctAt w o a kv vv nks → dKeys ks = some nks → Reps F kv ks → Reps F vv vs → Rep F (.ref a) (.dct ks vs)
inductive Reps (F : Hp) : List V → List D → Prop
  | nil : Reps F [] []
  | cons {v : V} {vs : List V} {d : D} {ds : List D} : Rep F v d → Reps F vs ds → Reps F (v :: vs) (d :: ds)
end
end

theorem Same.seqT {K : PySem.W.Frag} {H H' : Hp} {a : Addr} {xs : List V} (e : Same H H') (h : SqT K H a xs) : SqT K H' a xs := by
  rcases h with h | h
  · refine .inl ?_
    rcases h with h | ⟨o, h⟩
    · exact .inl (e _ _ h)
    · exact .inr ⟨o, e _ _ h⟩
  · exact .inr h

section
variable {w : World} {K : PySem.W.Frag} {mg : Str → Option Value} {F F' : Hp}
mutual
theorem Rep.mono (e : Same F F') : ∀ (d : D) {v : V}, Rep w K mg F v d → Rep w K mg F' v d
  | .non, _, h => by cases h; exact .non
  | .bl b, _, h => by cases h; exact .bl _
  | .int i, _, h => by cases h; exact .int _
  | .str x, _, h => by cases h; exact .str _
  | .tup ds, _, h => by
    cases h with
    | tup h1 h2 => exact .tup (Same.seqT e h1) (Reps.mono e ds h2)
  | .lst ds, _, h => by
    cases h with
    | lst h1 h2 => exact .lst (Same.seq e h1) (Reps.mono e ds h2)
  | .ins c ns ds, _, h => by
    cases h with
    | ins h1 h2 h3 h4 => exact .ins (e _ _ h1) h2 h3 (Reps.mono e ds h4)
  | .dct ks vs, _, h => by
    cases h with
    | dct h1 h2 h3 h4 h5 => exact .dct (e _ _ h1) h2 h3 (Reps.mono e ks h4) (Reps.mono e vs h5)
theorem Reps.mono (e : Same F F') : ∀ (ds : List D) {vs : List V}, Reps w K mg F vs ds → Reps w K mg F' vs ds
  | [], _, h => by cases h; exact .nil
  | d :: ds, _, h => by
    cases h with
    | cons h1 h2 => exact .cons (Rep.mono e d h1) (Reps.mono e ds h2)
end
theorem Reps.length : ∀ {vs : List V} {ds : List D}, Reps w K mg F vs ds → vs.length = ds.length
  | _, _, .nil => rfl
  | _, _, .cons _ t => by simp [Reps.length t]
theorem Reps.get : ∀ {vs : List V} {ds : List D} {i : Nat} {d : D}, Reps w K mg F vs ds → ds[i]? = some d → ∃ v, vs[i]? = some v ∧ Rep w K mg F v d
  | _, _, _, _, .nil, e => by simp at e
  | _, _, 0, _, .cons r _, e => by simp at e; subst e; exact ⟨_, rfl, r⟩
  | _, _, i + 1, d, .cons _ t, e => by
    obtain ⟨u, h1, h2⟩ := Reps.get (i := i) (d := d) t (by simpa using e)
    exact ⟨u, by simpa using h1, h2⟩
theorem Reps.get' : ∀ {vs : List V} {ds : List D} {i : Nat} {v : V}, Reps w K mg F vs ds → vs[i]? = some v → ∃ d, ds[i]? = some d ∧ Rep w K mg F v d
  | _, _, _, _, .nil, e => by simp at e
  | _, _, 0, _, .cons r _, e => by simp at e; subst e; exact ⟨_, rfl, r⟩
  | _, _, i + 1, d, .cons _ t, e => by
    obtain ⟨u, h1, h2⟩ := Reps.get' (i := i) (v := d) t (by simpa using e)
    exact ⟨u, by simpa using h1, h2⟩
theorem Reps.append : ∀ {vs ws : List V} {ds es : List D}, Reps w K mg F vs ds → Reps w K mg F ws es → Reps w K mg F (vs ++ ws) (ds ++ es)
  | _, _, _, _, .nil, s => s
  | _, _, _, _, .cons r t, s => .cons r (Reps.append t s)
theorem Reps.take : ∀ {vs : List V} {ds : List D} (n : Nat), Reps w K mg F vs ds → Reps w K mg F (vs.take n) (ds.take n)
  | _, _, 0, _ => .nil
  | _, _, _ + 1, .nil => .nil
  | _, _, n + 1, .cons r t => .cons r (Reps.take n t)
theorem Reps.drop : ∀ {vs : List V} {ds : List D} (n : Nat), Reps w K mg F vs ds → Reps w K mg F (vs.drop n) (ds.drop n)
  | _, _, 0, r => r
  | _, _, _ + 1, .nil => .nil
  | _, _, n + 1, .cons _ t => Reps.drop n t
theorem Reps.set {v : V} {d : D} (r : Rep w K mg F v d) : ∀ {vs : List V} {ds : List D} (i : Nat), Reps w K mg F vs ds → Reps w K mg F (vs.set i v) (ds.set i d)
  | _, _, _, .nil => .nil
  | _, _, 0, .cons _ t => .cons r t
  | _, _, i + 1, .cons q t => .cons q (Reps.set r i t)
theorem Reps.eraseIdx : ∀ {vs : List V} {ds : List D} (i : Nat), Reps w K mg F vs ds → Reps w K mg F (vs.eraseIdx i) (ds.eraseIdx i)
  | _, _, _, .nil => .nil
  | _, _, 0, .cons _ t => t
  | _, _, i + 1, .cons q t => .cons q (Reps.eraseIdx i t)
theorem Reps.reverse {vs : List V} {ds : List D} (h : Reps w K mg F vs ds) : Reps w K mg F vs.reverse ds.reverse := by
  induction vs generalizing ds with
  | nil => cases h; exact .nil
  | cons v vs ih =>
    cases h with
    | cons r t => simp only [List.reverse_cons]; exact (ih t).append (.cons r .nil)
theorem Reps.rep {vs : List V} {ds : List D} (h : Reps w K mg F vs ds) : ∀ k : Nat, Reps w K mg F (List.replicate k vs).flatten (List.replicate k ds).flatten
  | 0 => .nil
  | k + 1 => by simp only [List.replicate_succ, List.flatten_cons]; exact h.append (Reps.rep h k)
theorem Reps.nil_iff {vs : List V} {ds : List D} (h : Reps w K mg F vs ds) : vs = [] ↔ ds = [] := by
  cases h <;> simp
theorem Reps.isEmpty {vs : List V} {ds : List D} (h : Reps w K mg F vs ds) : vs.isEmpty = ds.isEmpty := by
  cases h <;> rfl
theorem Reps.ints : ∀ {ns : List Int} {vs : List V}, Reps w K mg F vs (ns.map D.int) → vs = ns.map V.int
  | [], _, h => by cases h; rfl
  | n :: ns, _, h => by
    cases h with
    | cons r t => cases r; rw [Reps.ints t]; rfl
theorem Reps.of_ints : ∀ (ns : List Int), Reps w K mg F (ns.map V.int) (ns.map D.int)
  | [] => .nil
  | n :: ns => .cons (.int n) (Reps.of_ints ns)
end

/-! ### how the known part of the heap grows -/
/-- F: what is never written again; H: all that is tracked -/
structure Step (F H F1 H1 : Hp) : Prop where
  ff : Same F F1
  hh : Same H H1
  fh : Same F1 H1
  nw : ∀ p, H p ≠ none → F p = none → F1 p = none
theorem Step.refl {F H : Hp} (h : Same F H) : Step F H F H := ⟨Same.refl F, Same.refl H, h, fun _ _ e => e⟩
theorem Step.trans {F H F1 H1 F2 H2 : Hp} (a : Step F H F1 H1) (b : Step F1 H1 F2 H2) : Step F H F2 H2 :=
  ⟨a.ff.trans b.ff, a.hh.trans b.hh, b.fh, fun p h e => b.nw p (fun z => h (a.hh.free z)) (a.nw p h e)⟩
theorem Same.none {F H : Hp} (s : Same F H) {p : Addr} (h : H p = none) : F p = none := s.free h
/-- a new object that is never written again -/
theorem Step.new {F H : Hp} (s : Same F H) {p : Addr} {o : HO} (h : H p = none) : Step F H (upd F p o) (upd H p o) := by
  refine ⟨fun b u e => ?_, fun b u e => ?_, fun b u e => ?_, fun q hq e => ?_⟩
  · rw [upd_ne (ne_of_none e (Same.none s h))]; exact e
  · rw [upd_ne (ne_of_none e h)]; exact e
  · by_cases hb : b = p
    · subst hb; rw [upd_same] at e ⊢; exact e
    · rw [upd_ne hb] at e ⊢; exact s b u e
  · have hb : q ≠ p := fun z => hq (z ▸ h)
    rw [upd_ne hb]; exact e
/-- a new object of one's own -/
theorem Step.own {F H : Hp} (s : Same F H) {p : Addr} {o : HO} (h : H p = none) : Step F H F (upd H p o) := by
  refine ⟨Same.refl F, fun b u e => ?_, fun b u e => ?_, fun q _ e => e⟩
  · rw [upd_ne (ne_of_none e h)]; exact e
  · rw [upd_ne (ne_of_none e (Same.none s h))]; exact s b u e
/-- an own object is laid down for good -/
theorem Step.lay {F0 H0 F H : Hp} (s : Step F0 H0 F H) {p : Addr} {o : HO} (h : H p = some o) (h0 : H0 p = none) (hf : F p = none) : Step F0 H0 (upd F p o) H := by
  refine ⟨fun b u e => ?_, s.hh, fun b u e => ?_, fun q hq e => ?_⟩
  · have := s.ff b u e
    rw [upd_ne (ne_of_none this hf)]; exact this
  · by_cases hb : b = p
    · subst hb; rw [upd_same] at e; cases e; exact h
    · rw [upd_ne hb] at e; exact s.fh b u e
  · have hb : q ≠ p := fun z => hq (z ▸ h0)
    rw [upd_ne hb]; exact s.nw q hq e
/-- an own object is written -/
theorem Step.write {F0 H0 F H : Hp} (s : Step F0 H0 F H) {p : Addr} {o : HO} (h0 : H0 p = none) (hf : F p = none) : Step F0 H0 F (upd H p o) := by
  refine ⟨s.ff, fun b u e => ?_, fun b u e => ?_, s.nw⟩
  · rw [upd_ne (ne_of_none e h0)]; exact s.hh b u e
  · rw [upd_ne (ne_of_none e hf)]; exact s.fh b u e

/-! ### a reading at a state, and what it gives -/
section
variable (w : World) (K : PySem.W.Frag) (mg : Str → Option Value)
/-- an exception as it lies -/
def ExAt (F1 H1 : Hp) (c : Str) (ns : List Str) (ds : List D) (cls : Value) (d : Option Addr) : Prop :=
  ∃ C : Addr, cls = .ref C ∧ mg c = some (.ref C) ∧ ((ns = [] ∧ ds = [] ∧ d = none) ∨ (ns ≠ [] ∧ ∃ (dd : Addr) (fs : List (Str × V)), d = some dd ∧ H1 dd = some (.xd fs) ∧ fs.map (·.1) = ns ∧ Reps w K mg F1 (fs.map (·.2)) ds))
def At {α β : Type} (W : WX) (σ : L2.St) (F H : Hp) (T : (β → Hp → Prop) → Prop) (r : R α) (rel : Hp → Hp → β → α → Prop) : Prop :=
  match r with
  | .un => True
  | .ok a => ∀ Q : β → Hp → Prop, (∀ b F1 H1, Step F H F1 H1 → rel F1 H1 b a → Q b H1) → T Q
  | .ex c ns ds => ∀ Q : β → Hp → Prop, (∀ cls d F1 H1, Step F H F1 H1 → ExAt w K mg F1 H1 c ns ds cls d → W cls d σ H1) → T Q
end
section
variable {w : World} {K : PySem.W.Frag} {mg : Str → Option Value} {α β γ δ : Type} {W : WX} {σ : L2.St} {F H : Hp}
theorem At.bind {T : (β → Hp → Prop) → Prop} {r : R α} {rel : Hp → Hp → β → α → Prop} {U : β → Hp → (γ → Hp → Prop) → Prop} {g : α → R δ} {rel2 : Hp → Hp → γ → δ → Prop}
    (h1 : At w K mg W σ F H T r rel) (h2 : ∀ b a F1 H1, Step F H F1 H1 → rel F1 H1 b a → At w K mg W σ F1 H1 (U b H1) (g a) rel2) :
    At w K mg W σ F H (fun Q => T fun b H1 => U b H1 Q) (r.bind g) rel2 := by
  cases r with
  | un => trivial
  | ex c ns ds => exact fun Q hQ => h1 (fun b H1 => U b H1 Q) hQ
  | ok a =>
    have h1' : ∀ Q : β → Hp → Prop, (∀ b F1 H1, Step F H F1 H1 → rel F1 H1 b a → Q b H1) → T Q := h1
    have h2' := fun b F1 H1 s q => h2 b a F1 H1 s q
    show At w K mg W σ F H (fun Q => T fun b H1 => U b H1 Q) (g a) rel2
    cases e : g a with
    | un => trivial
    | ok c =>
      refine fun Q hQ => h1' _ fun b F1 H1 s q => ?_
      have h3 := h2' b F1 H1 s q
      rw [e] at h3
      exact h3 Q fun c' F2 H2 s2 q2 => hQ c' F2 H2 (s.trans s2) q2
    | ex c ns ds =>
      refine fun Q hQ => h1' _ fun b F1 H1 s q => ?_
      have h3 := h2' b F1 H1 s q
      rw [e] at h3
      exact h3 Q fun c' d' F2 H2 s2 q2 => hQ c' d' F2 H2 (s.trans s2) q2
theorem At.ret {T : (β → Hp → Prop) → Prop} {a : α} {rel : Hp → Hp → β → α → Prop} (h : ∀ Q : β → Hp → Prop, (∀ b F1 H1, Step F H F1 H1 → rel F1 H1 b a → Q b H1) → T Q) : At w K mg W σ F H T (.ok a) rel := h
/-- the value is there, the heap as it was -/
theorem At.pure {a : α} {b : β} {rel : Hp → Hp → β → α → Prop} (s : Same F H) (h : rel F H b a) : At w K mg W σ F H (fun Q => Q b H) (.ok a) rel := fun _ hQ => hQ b F H (Step.refl s) h
theorem At.weak {T : (β → Hp → Prop) → Prop} {r : R α} {rel rel' : Hp → Hp → β → α → Prop} (h : At w K mg W σ F H T r rel) (wz : ∀ b a F1 H1, Step F H F1 H1 → rel F1 H1 b a → ∃ F2, Step F H F2 H1 ∧ rel' F2 H1 b a) : At w K mg W σ F H T r rel' := by
  cases r with
  | un => trivial
  | ex c ns ds => exact h
  | ok a =>
    refine fun Q hQ => (show ∀ Q : β → Hp → Prop, (∀ b F1 H1, Step F H F1 H1 → rel F1 H1 b a → Q b H1) → T Q from h) Q fun b F1 H1 s q => ?_
    obtain ⟨F2, s2, q2⟩ := wz b a F1 H1 s q
    exact hQ b F2 H1 s2 q2
theorem At.map {T : (β → Hp → Prop) → Prop} {r : R α} {rel : Hp → Hp → β → α → Prop} {T' : (γ → Hp → Prop) → Prop} {f : β → γ} {rel' : Hp → Hp → γ → α → Prop} (h : At w K mg W σ F H T r rel) (e : ∀ Q, T (fun b H1 => Q (f b) H1) → T' Q)
    (wz : ∀ b a F1 H1, Step F H F1 H1 → rel F1 H1 b a → rel' F1 H1 (f b) a) : At w K mg W σ F H T' r rel' := by
  cases r with
  | un => trivial
  | ex c ns ds => exact fun Q hQ => e Q ((show ∀ Q : β → Hp → Prop, (∀ cls d F1 H1, Step F H F1 H1 → ExAt w K mg F1 H1 c ns ds cls d → W cls d σ H1) → T Q from h) _ hQ)
  | ok a => exact fun Q hQ => e Q ((show ∀ Q : β → Hp → Prop, (∀ b F1 H1, Step F H F1 H1 → rel F1 H1 b a → Q b H1) → T Q from h) _ fun b F1 H1 s q => hQ _ _ _ s (wz b a F1 H1 s q))
end
end Dl

/-! DlB: the primitives on data; the judgement of expressions. -/
namespace Dl
open PySem PySem.Spec PyProof.Rows L2

/-! ### data as the library's PyData -/
mutual
def D.py : D → PyData
  | .non => .none
  | .bl b => .bool b
  | .int i => .int i
  | .str x => .str x
  | .tup xs => .tuple (D.pys xs)
  | .lst xs => .list (D.pys xs)
  | .ins _ _ _ => .none
  | .dct _ _ => .none
def D.pys : List D → List PyData
  | [] => []
  | x :: xs => D.py x :: D.pys xs
end
mutual
/-- no own instance in it -/
def D.plain : D → Bool
  | .non | .bl _ | .int _ | .str _ => true
  | .tup xs | .lst xs => D.plains xs
  | .ins _ _ _ => false
  | .dct _ _ => false
def D.plains : List D → Bool
  | [] => true
  | x :: xs => D.plain x && D.plains xs
end
/-- data whose equality the library tells -/
def D.okE (d : D) : Bool := d.plain && (d.py.canLay0 && decide (d.py.depth ≤ 64))
def D.eqv (a b : D) : Bool := PyData.eqv a.py b.py
theorem D.okE_shaped {d : D} (h : d.okE = true) : d.plain = true ∧ SeqAt.shaped d.py = true := by
  unfold D.okE at h
  rw [Bool.and_eq_true] at h
  exact ⟨h.1, h.2⟩

/-! ### primitives -/
def addD : D → D → R D
  | .int a, .int b => .ok (.int (a + b))
  | .str a, .str b => if a.length + b.length ≤ 16777216 then .ok (.str (a ++ b)) else .un
  | .lst a, .lst b => if a.length + b.length ≤ 16777216 then .ok (.lst (a ++ b)) else .un
  | .tup a, .tup b => if a.length + b.length ≤ 16777216 then .ok (.tup (a ++ b)) else .un
  | _, _ => .un
def subD : D → D → R D
  | .int a, .int b => .ok (.int (a - b))
  | _, _ => .un
def mulD : D → D → R D
  | .int a, .int b => if a.natAbs.log2 + b.natAbs.log2 < 1000000 then .ok (.int (a * b)) else .un
  | .tup a, .int k => if a.isEmpty = false ∧ 2 ≤ k ∧ k ≤ 1000 ∧ a.length ≤ 1000 then .ok (.tup (List.replicate k.toNat a).flatten) else .un
  | _, _ => .un
/-- a new list times an int -/
def repD : D → D → R D
  | .lst a, .int k => if -(2 ^ 63) ≤ k ∧ k < 2 ^ 63 ∧ a.length * k.toNat ≤ 16777216 then .ok (.lst (List.replicate k.toNat a).flatten) else .un
  | _, _ => .un
def fdivD : D → D → R D
  | .int a, .int b => if 0 < b ∧ b.natAbs.log2 < 9000 then .ok (.int (a / b)) else .un
  | _, _ => .un
def modD : D → D → R D
  | .int a, .int b => if 0 < b then .ok (.int (a % b)) else .un
  | _, _ => .un
def powD : D → D → R D
  | .int a, .int b => if 0 ≤ b ∧ b ≤ 1000000 ∧ a.natAbs < 2 ^ 64 then .ok (.int (a ^ b.toNat)) else .un
  | _, _ => .un
def borD : D → D → R D
  | .int a, .int b => .ok (.int (Builtin.bitOr a b))
  | _, _ => .un
def bandD : D → D → R D
  | .int a, .int b => .ok (.int (Builtin.bitAnd a b))
  | _, _ => .un
def bxorD : D → D → R D
  | .int a, .int b => .ok (.int (Builtin.bitXor a b))
  | _, _ => .un
def shlD : D → D → R D
  | .int a, .int b => if 0 ≤ b ∧ b ≤ 1000000 ∧ a.natAbs < 2 ^ 64 then .ok (.int (a * 2 ^ b.toNat)) else .un
  | _, _ => .un
def negD : D → R D
  | .int a => .ok (.int (-a))
  | _ => .un
def ltD : D → D → R D
  | .int a, .int b => .ok (.bl (decide (a < b)))
  | .str a, .str b => .ok (.bl (decide (a.cps.toList < b.cps.toList)))
  | _, _ => .un
def leD : D → D → R D
  | .int a, .int b => .ok (.bl (decide (a ≤ b)))
  | _, _ => .un
def gtD : D → D → R D
  | .int a, .int b => .ok (.bl (decide (b < a)))
  | _, _ => .un
def geD : D → D → R D
  | .int a, .int b => .ok (.bl (decide (b ≤ a)))
  | _, _ => .un
/-- two texts -/
def D.strs : D → D → Bool
  | .str _, .str _ => true
  | _, _ => false
def D.okQ (a b : D) : Bool := (a.okE && b.okE) || D.strs a b
def eqD (a b : D) : R D := if D.okQ a b = true then .ok (.bl (D.eqv a b)) else .un
def neD (a b : D) : R D := if D.okQ a b = true then .ok (.bl (!D.eqv a b)) else .un
def isND : D → R D
  | .non => .ok (.bl true)
  | _ => .ok (.bl false)
def notND : D → R D
  | .non => .ok (.bl false)
  | _ => .ok (.bl true)
/-- x is True, x is False -/
def isBD (b : Bool) : D → R D
  | .bl c => .ok (.bl (decide (c = b)))
  | _ => .ok (.bl false)
def notBD (b : Bool) : D → R D
  | .bl c => .ok (.bl (!decide (c = b)))
  | _ => .ok (.bl true)
def inD : D → D → R D
  | x, .lst ds => if x.okE = true ∧ (D.lst ds).okE = true then .ok (.bl (ds.any fun z => D.eqv z x)) else .un
  | x, .tup ds => if x.okE = true ∧ (D.tup ds).okE = true then .ok (.bl (ds.any fun z => D.eqv z x)) else .un
  | x, .dct ks _ => (dIdx ks x).bind fun o => .ok (.bl o.isSome)
  | .str x, .str z => if x.cps.size = 1 then .ok (.bl (decide (x.cps.getD 0 0 ∈ z.cps.toList))) else .un
  | _, _ => .un
def notInD : D → D → R D
  | x, .lst ds => if x.okE = true ∧ (D.lst ds).okE = true then .ok (.bl (!ds.any fun z => D.eqv z x)) else .un
  | x, .tup ds => if x.okE = true ∧ (D.tup ds).okE = true then .ok (.bl (!ds.any fun z => D.eqv z x)) else .un
  | x, .dct ks _ => (dIdx ks x).bind fun o => .ok (.bl (!o.isSome))
  | .str x, .str z => if x.cps.size = 1 then .ok (.bl (!decide (x.cps.getD 0 0 ∈ z.cps.toList))) else .un
  | _, _ => .un
def ofO {α β : Type} (f : α → β) : Option α → R β
  | some a => .ok (f a)
  | none => .un
/-- the value at a key's place -/
def valD (vs : List D) : Option Nat → R D
  | some j => ofO id vs[j]?
  | none => .un
def idxD : D → D → R D
  | .dct ks vs, k => (dIdx ks k).bind fun o => valD vs o
  | .lst ds, .int i => ofO id (atI ds i)
  | .tup ds, .int i => ofO id (atI ds i)
  | .str z, .int i => if z.length ≤ 16777216 then ofO (fun c => D.str ⟨#[c]⟩) (atI z.cps.toList i) else .un
  | _, _ => .un
def cutD {α : Type} (xs : List α) (lo hi : Option Int) : List α := (xs.drop (HT.sIx xs.length 0 lo)).take (HT.sIx xs.length xs.length hi - HT.sIx xs.length 0 lo)
def partD : Option D → R (Option Int)
  | none => .ok none
  | some (.int i) => .ok (some i)
  | _ => .un
def sliceD (x : D) (lo hi : Option Int) : R D :=
  match x with
  | .lst ds => .ok (.lst (cutD ds lo hi))
  | .tup ds => .ok (.tup (cutD ds lo hi))
  | .str z => if z.length ≤ 16777216 then .ok (.str (cutS z lo hi)) else .un
  | _ => .un
def truthD : D → R Bool
  | .non => .ok false
  | .bl b => .ok b
  | .int i => .ok (i != 0)
  | .str y => if y.length ≤ 16777216 then .ok ((y.length : Int) != 0) else .un
  | .tup ds => .ok (!ds.isEmpty)
  | .lst ds => .ok (!ds.isEmpty)
  | .ins _ _ _ => .un
  | .dct _ _ => .un
def lenD : D → R D
  | .lst ds => .ok (.int ds.length)
  | .tup ds => .ok (.int ds.length)
  | .dct ks _ => if ks.all flatOk = true ∨ ks.all tupOk = true then .ok (.int ks.length) else .un
  | .str z => if z.length ≤ 16777216 then .ok (.int z.length) else .un
  | _ => .un
def intD : D → R D
  | .int i => .ok (.int i)
  | .bl b => .ok (.int (if b then 1 else 0))
  | _ => .un
def absD : D → R D
  | .int i => .ok (.int (if i < 0 then -i else i))
  | _ => .un
def listD : D → R D
  | .lst ds => .ok (.lst ds)
  | .tup ds => .ok (.lst ds)
  | _ => .un
def tupleD : D → R D
  | .lst ds => .ok (.tup ds)
  | .tup ds => .ok (.tup ds)
  | _ => .un
def max2D : D → D → R D
  | .int i, .int j => .ok (.int (if j > i then j else i))
  | _, _ => .un
def min2D : D → D → R D
  | .int i, .int j => .ok (.int (if j < i then j else i))
  | _, _ => .un
/-- the ints of a list of ints -/
def intsD : List D → Option (List Int)
  | [] => some []
  | .int i :: r => (intsD r).map (i :: ·)
  | _ :: _ => none
def blsD : List D → Option (List Bool)
  | [] => some []
  | .bl i :: r => (blsD r).map (i :: ·)
  | _ :: _ => none
theorem intsD_eq : ∀ {ds : List D} {ns : List Int}, intsD ds = some ns → ds = ns.map D.int
  | [], _, h => by simp [intsD] at h; subst h; rfl
  | .int i :: r, ns, h => by
    simp only [intsD, Option.map_eq_some_iff] at h
    obtain ⟨ms, h1, rfl⟩ := h
    rw [intsD_eq h1]; rfl
  | .non :: _, _, h | .bl _ :: _, _, h | .str _ :: _, _, h | .tup _ :: _, _, h | .lst _ :: _, _, h | .ins _ _ _ :: _, _, h => by simp [intsD] at h
theorem intsD_map (ns : List Int) : intsD (ns.map D.int) = some ns := by
  induction ns with
  | nil => rfl
  | cons n ns ih => simp [intsD, ih]
theorem blsD_eq : ∀ {ds : List D} {ns : List Bool}, blsD ds = some ns → ds = ns.map D.bl
  | [], _, h => by simp [blsD] at h; subst h; rfl
  | .bl i :: r, ns, h => by
    simp only [blsD, Option.map_eq_some_iff] at h
    obtain ⟨ms, h1, rfl⟩ := h
    rw [blsD_eq h1]; rfl
  | .non :: _, _, h | .int _ :: _, _, h | .str _ :: _, _, h | .tup _ :: _, _, h | .lst _ :: _, _, h | .ins _ _ _ :: _, _, h => by simp [blsD] at h
theorem blsD_map (ns : List Bool) : blsD (ns.map D.bl) = some ns := by
  induction ns with
  | nil => rfl
  | cons n ns ih => simp [blsD, ih]
def maxI : List Int → Int
  | [] => 0
  | [a] => a
  | a :: r => max a (maxI r)
def minI : List Int → Int
  | [] => 0
  | [a] => a
  | a :: r => min a (minI r)
theorem maxI_mem : ∀ {l : List Int}, l ≠ [] → maxI l ∈ l ∧ ∀ y ∈ l, y ≤ maxI l
  | [], h => absurd rfl h
  | [a], _ => by simp [maxI]
  | a :: b :: r, _ => by
    obtain ⟨h1, h2⟩ := maxI_mem (l := b :: r) (by simp)
    have e : maxI (a :: b :: r) = max a (maxI (b :: r)) := rfl
    rw [e]
    refine ⟨?_, fun y hy => ?_⟩
    · by_cases h : a ≤ maxI (b :: r)
      · rw [Int.max_eq_right h]; exact List.mem_cons_of_mem _ h1
      · rw [Int.max_eq_left (by omega)]; exact List.mem_cons_self
    · rcases List.mem_cons.mp hy with rfl | hy
      · exact Int.le_max_left _ _
      · exact Int.le_trans (h2 y hy) (Int.le_max_right _ _)
theorem minI_mem : ∀ {l : List Int}, l ≠ [] → minI l ∈ l ∧ ∀ y ∈ l, minI l ≤ y
  | [], h => absurd rfl h
  | [a], _ => by simp [minI]
  | a :: b :: r, _ => by
    obtain ⟨h1, h2⟩ := minI_mem (l := b :: r) (by simp)
    have e : minI (a :: b :: r) = min a (minI (b :: r)) := rfl
    rw [e]
    refine ⟨?_, fun y hy => ?_⟩
    · by_cases h : a ≤ minI (b :: r)
      · rw [Int.min_eq_left h]; exact List.mem_cons_self
      · rw [Int.min_eq_right (by omega)]; exact List.mem_cons_of_mem _ h1
    · rcases List.mem_cons.mp hy with rfl | hy
      · exact Int.min_le_left _ _
      · exact Int.le_trans (Int.min_le_right _ _) (h2 y hy)
def seqI : D → Option (List Int)
  | .lst ds => intsD ds
  | _ => none
def maxD : D → R D
  | .lst ds => match intsD ds with
    | some (n :: ns) => .ok (.int (maxI (n :: ns)))
    | _ => .un
  | .tup ds => match intsD ds with
    | some (n :: ns) => .ok (.int (maxI (n :: ns)))
    | _ => .un
  | _ => .un
def minD : D → R D
  | .lst ds => match intsD ds with
    | some (n :: ns) => .ok (.int (minI (n :: ns)))
    | _ => .un
  | .tup ds => match intsD ds with
    | some (n :: ns) => .ok (.int (minI (n :: ns)))
    | _ => .un
  | _ => .un
def sumD : D → R D
  | .lst ds => ofO (fun ns => D.int ns.sum) (intsD ds)
  | _ => .un
def anyD : D → R D
  | .lst ds => ofO (fun bs => D.bl (bs.any id)) (blsD ds)
  | _ => .un
def allD : D → R D
  | .lst ds => ofO (fun bs => D.bl (bs.all id)) (blsD ds)
  | _ => .un
/-- isinstance(x, T), T a built-in type by its name -/
inductive Ty where
  | int | bool | str | list | tuple
  deriving DecidableEq
def Ty.name : Ty → String
  | .int => "int"
  | .bool => "bool"
  | .str => "str"
  | .list => "list"
  | .tuple => "tuple"
def isiD : Ty → D → R D
  | _, .ins _ _ _ => .un
  | _, .dct _ _ => .un
  | .int, .int _ => .ok (.bl true)
  | .int, .bl _ => .ok (.bl true)
  | .bool, .bl _ => .ok (.bl true)
  | .str, .str _ => .ok (.bl true)
  | .list, .lst _ => .ok (.bl true)
  | .tuple, .tup _ => .ok (.bl true)
  | _, _ => .ok (.bl false)
/-- repr -/
def reprD (d : D) : R D := if (d.plain && d.py.showable && decide (d.py.depth ≤ 64) && (d.py.shown.length ≤ 16777216)) = true then
    (match d with
      | .lst _ | .tup _ => .ok (.str d.py.shown)
      | _ => .un) else .un

/-! ### the slots -/
/-- the instance that is under way: made behind all that is tracked, but for its own dict -/
def TopAt (H0 : Hp) (p : Addr) : Prop := (∃ dx : Addr, p = dx + 1 ∧ H0 dx = some (.own p)) ∧ (∀ q : Addr, p < q → H0 q = none) ∧ ∀ q : Addr, H0 p ≠ some (.own q)
theorem lt_pred {p q dx : Nat} (hl : p < q) (e1 : q = dx + 1) (e : dx ≠ p) : p < dx := by omega
theorem TopAt.one {H0 : Hp} {p q : Addr} (h : TopAt H0 p) (g : TopAt H0 q) : p = q := by
  have key : ∀ {p q : Nat}, TopAt H0 p → TopAt H0 q → ¬ p < q := fun {p q} h g hl => by
    obtain ⟨⟨dx, e1, e2⟩, _, _⟩ := g
    obtain ⟨_, h1, h2⟩ := h
    by_cases e : dx = p
    · rw [e] at e2
      exact h2 _ e2
    · rw [h1 dx (lt_pred hl e1 e)] at e2
      cases e2
  rcases Nat.lt_trichotomy p q with e | e | e
  · exact (key h g e).elim
  · exact e
  · exact (key g h e).elim
inductive Md where
  | fresh | keep | read
  deriving DecidableEq
section
variable (w : World) (K : PySem.W.Frag) (mg : Str → Option Value)
/-- an own list lies outside what is kept -/
def OwnR (H0 F H : Hp) (v : V) : D → Prop
  | .lst ds => ∃ p xs, v = .ref p ∧ H p = some (.lst xs) ∧ F p = none ∧ H0 p = none ∧ Reps w K mg F xs ds
  | .dct ks vs => ∃ p o kv vv nks, v = .ref p ∧ H p = some o ∧ F p = none ∧ H0 p = none ∧ DctAt w o p kv vv nks ∧ dKeys ks = some nks ∧ Reps w K mg F kv ks ∧ Reps w K mg F vv vs
  | d => Rep w K mg F v d
/-- what lies as an object of its own that may be written -/
def D.heapy : D → Bool
  | .lst _ | .dct _ _ => true
  | _ => false
structure SRel (own : List Nat) (H0 F H : Hp) (σ : L2.St) (st : SD) : Prop where
  len : σ.length = st.length
  val : ∀ (i : Nat) (d : D), st[i]? = some (some d) → ∃ v, σ[i]? = some (some v) ∧ ((i ∈ own ∧ OwnR w K mg H0 F H v d) ∨ (i ∉ own ∧ Rep w K mg F v d))
  sep : ∀ (i j : Nat) (p : Addr) (di dj : D), i ∈ own → j ∈ own → i ≠ j → di.heapy = true → dj.heapy = true → st[i]? = some (some di) → st[j]? = some (some dj) → σ[i]? = some (some (.ref p)) → σ[j]? = some (some (.ref p)) → False
  pin : 1000 ∈ own → 0 ∈ own → ∀ p, TopAt H0 p → σ[0]? = some (some (.ref p))
def RelF (H F1 H1 : Hp) (v : V) : D → Prop
  | .lst ds => ∃ p xs, v = .ref p ∧ H1 p = some (.lst xs) ∧ F1 p = none ∧ H p = none ∧ Reps w K mg F1 xs ds
  | .dct ks vs => ∃ p o kv vv nks, v = .ref p ∧ H1 p = some o ∧ F1 p = none ∧ H p = none ∧ DctAt w o p kv vv nks ∧ dKeys ks = some nks ∧ Reps w K mg F1 kv ks ∧ Reps w K mg F1 vv vs
  | d => Rep w K mg F1 v d
def RelR (F1 H1 : Hp) (v : V) (d : D) : Prop := Rep w K mg F1 v d ∨ (∃ p xs ds, v = .ref p ∧ d = .lst ds ∧ H1 p = some (.lst xs) ∧ Reps w K mg F1 xs ds) ∨ ∃ p o kv vv nks ks vs, v = .ref p ∧ d = .dct ks vs ∧ H1 p = some o ∧ DctAt w o p kv vv nks ∧ dKeys ks = some nks ∧ Reps w K mg F1 kv ks ∧ Reps w K mg F1 vv vs
def RelM (m : Md) (H F1 H1 : Hp) (v : V) (d : D) : Prop :=
  match m with
  | .keep => Rep w K mg F1 v d
  | .read => RelR w K mg F1 H1 v d
  | .fresh => RelF w K mg H F1 H1 v d
end
section
variable {w : World} {K : PySem.W.Frag} {mg : Str → Option Value} {F H F1 H1 : Hp} {v : V} {d : D} {m : Md}
theorem OwnR.heap {H0 : Hp} (hd : d.heapy = true) (h : OwnR w K mg H0 F H v d) : ∃ p o, v = .ref p ∧ H p = some o ∧ F p = none ∧ H0 p = none ∧ Rep w K mg (upd F p o) v d := by
  cases d with
  | lst ds =>
    obtain ⟨p, xs, rfl, h1, h2, h3, r⟩ := h
    have up : Same F (upd F p (.lst xs)) := fun b u e => by rw [upd_ne (ne_of_none e h2)]; exact e
    exact ⟨p, _, rfl, h1, h2, h3, .lst (SqL.of upd_same) (Reps.mono up _ r)⟩
  | dct ks vs =>
    obtain ⟨p, o, kv, vv, nks, rfl, h1, h2, h3, h4, h5, r1, r2⟩ := h
    have up : Same F (upd F p o) := fun b u e => by rw [upd_ne (ne_of_none e h2)]; exact e
    exact ⟨p, _, rfl, h1, h2, h3, .dct upd_same h4 h5 (Reps.mono up _ r1) (Reps.mono up _ r2)⟩
  | _ => cases hd
theorem OwnR.mono {H0 F2 : Hp} (s : Same F F2) (hn : d.heapy = true → ∀ p, v = .ref p → F2 p = none) (h : OwnR w K mg H0 F H v d) : OwnR w K mg H0 F2 H v d := by
  cases d with
  | lst ds => obtain ⟨p, xs, e, h1, h2, h3, r⟩ := h; exact ⟨p, xs, e, h1, hn rfl p e, h3, Reps.mono s _ r⟩
  | dct ks vs => obtain ⟨p, o, kv, vv, nks, e, h1, h2, h3, h4, h5, r1, r2⟩ := h; exact ⟨p, o, kv, vv, nks, e, h1, hn rfl p e, h3, h4, h5, Reps.mono s _ r1, Reps.mono s _ r2⟩
  | _ => exact Rep.mono s _ h
theorem OwnR.hupd {H0 : Hp} {p : Addr} {o : HO} (hq : d.heapy = true → ∀ q, v = .ref q → q ≠ p) (h : OwnR w K mg H0 F H v d) : OwnR w K mg H0 F (upd H p o) v d := by
  cases d with
  | lst ds => obtain ⟨q, xs, e, h1, h2, h3, r⟩ := h; exact ⟨q, xs, e, by rw [upd_ne (hq rfl q e)]; exact h1, h2, h3, r⟩
  | dct ks vs => obtain ⟨q, o, kv, vv, nks, e, h1, r⟩ := h; exact ⟨q, o, kv, vv, nks, e, by rw [upd_ne (hq rfl q e)]; exact h1, r⟩
  | _ => exact h
theorem OwnR.flat {H0 : Hp} (hd : d.heapy = false) (h : OwnR w K mg H0 F H v d) : Rep w K mg F v d := by
  cases d with
  | lst ds => cases hd
  | dct ks vs => cases hd
  | _ => exact h
theorem RelF.heap (hd : d.heapy = true) (h : RelF w K mg H F1 H1 v d) : ∃ p o, v = .ref p ∧ H1 p = some o ∧ F1 p = none ∧ H p = none := by
  cases d with
  | lst ds => obtain ⟨p, xs, e, h1, h2, h3, r⟩ := h; exact ⟨p, _, e, h1, h2, h3⟩
  | dct ks vs => obtain ⟨p, o, kv, vv, nks, e, h1, h2, h3, _⟩ := h; exact ⟨p, o, e, h1, h2, h3⟩
  | _ => cases hd
theorem RelF.own {H0 : Hp} (s0 : Same H0 H) (h : RelF w K mg H F1 H1 v d) : OwnR w K mg H0 F1 H1 v d := by
  cases d with
  | lst ds => obtain ⟨p, xs, e, h1, h2, h3, r⟩ := h; exact ⟨p, xs, e, h1, h2, s0.free h3, r⟩
  | dct ks vs => obtain ⟨p, o, kv, vv, nks, e, h1, h2, h3, h4, h5, r1, r2⟩ := h; exact ⟨p, o, kv, vv, nks, e, h1, h2, s0.free h3, h4, h5, r1, r2⟩
  | _ => exact h
theorem RelM.toRead (h : RelM w K mg m H F1 H1 v d) : RelR w K mg F1 H1 v d := by
  cases m with
  | keep => exact .inl h
  | read => exact h
  | fresh =>
    cases d with
    | lst ds => obtain ⟨p, xs, e, h1, _, _, r⟩ := h; exact .inr (.inl ⟨p, xs, ds, e, rfl, h1, r⟩)
    | dct ks vs => obtain ⟨p, o, kv, vv, nks, e, h1, _, _, h4, h5, r1, r2⟩ := h; exact .inr (.inr ⟨p, o, kv, vv, nks, ks, vs, e, rfl, h1, h4, h5, r1, r2⟩)
    | _ => exact .inl h
theorem RelF.toKeep (s : Step F H F1 H1) (h : RelF w K mg H F1 H1 v d) : ∃ F2, Step F H F2 H1 ∧ Rep w K mg F2 v d := by
  cases d with
  | lst ds =>
    obtain ⟨p, xs, e, h1, h2, h3, r⟩ := h
    subst e
    refine ⟨upd F1 p (.lst xs), s.lay h1 h3 h2, .lst (SqL.of upd_same) (Reps.mono (fun b u e => ?_) _ r)⟩
    rw [upd_ne (ne_of_none e h2)]; exact e
  | dct ks vs =>
    obtain ⟨p, o, kv, vv, nks, e, h1, h2, h3, h4, h5, r1, r2⟩ := h
    subst e
    have up : Same F1 (upd F1 p o) := fun b u e => by rw [upd_ne (ne_of_none e h2)]; exact e
    exact ⟨upd F1 p o, s.lay h1 h3 h2, .dct upd_same h4 h5 (Reps.mono up _ r1) (Reps.mono up _ r2)⟩
  | _ => exact ⟨F1, s, h⟩
theorem RelF.mono0 {H0 : Hp} (s : Same H0 H) (h : RelF w K mg H F1 H1 v d) : RelF w K mg H0 F1 H1 v d := by
  cases d with
  | lst ds => obtain ⟨p, xs, e, h1, h2, h3, r⟩ := h; exact ⟨p, xs, e, h1, h2, s.free h3, r⟩
  | dct ks vs => obtain ⟨p, o, kv, vv, nks, e, h1, h2, h3, h4, h5, r1, r2⟩ := h; exact ⟨p, o, kv, vv, nks, e, h1, h2, s.free h3, h4, h5, r1, r2⟩
  | _ => exact h
theorem RelR.step {F2 H2 : Hp} (s : Step F1 H1 F2 H2) (h : RelR w K mg F1 H1 v d) : RelR w K mg F2 H2 v d := by
  rcases h with h | ⟨p, xs, ds, e, e2, h1, r⟩ | ⟨p, o, kv, vv, nks, ks, vs, e, e2, h1, h2, h3, r1, r2⟩
  · exact .inl (h.mono s.ff)
  · exact .inr (.inl ⟨p, xs, ds, e, e2, s.hh _ _ h1, Reps.mono s.ff _ r⟩)
  · exact .inr (.inr ⟨p, o, kv, vv, nks, ks, vs, e, e2, s.hh _ _ h1, h2, h3, Reps.mono s.ff _ r1, Reps.mono s.ff _ r2⟩)
theorem RelR.int {i : Int} (h : RelR w K mg F1 H1 v (.int i)) : v = .int i := by
  rcases h with h | ⟨_, _, _, _, e, _⟩ | ⟨_, _, _, _, _, _, _, _, e, _⟩
  · cases h; rfl
  · cases e
  · cases e
theorem RelR.str {x : Str} (h : RelR w K mg F1 H1 v (.str x)) : v = .str x := by
  rcases h with h | ⟨_, _, _, _, e, _⟩ | ⟨_, _, _, _, _, _, _, _, e, _⟩
  · cases h; rfl
  · cases e
  · cases e
theorem RelR.bl {b : Bool} (h : RelR w K mg F1 H1 v (.bl b)) : v = .bl b := by
  rcases h with h | ⟨_, _, _, _, e, _⟩ | ⟨_, _, _, _, _, _, _, _, e, _⟩
  · cases h; rfl
  · cases e
  · cases e
theorem RelR.non (h : RelR w K mg F1 H1 v .non) : v = .non := by
  rcases h with h | ⟨_, _, _, _, e, _⟩ | ⟨_, _, _, _, _, _, _, _, e, _⟩
  · cases h; rfl
  · cases e
  · cases e
theorem RelR.tup {ds : List D} (s : Same F1 H1) (h : RelR w K mg F1 H1 v (.tup ds)) : ∃ a xs, v = .ref a ∧ SqT K F1 a xs ∧ SqT K H1 a xs ∧ Reps w K mg F1 xs ds := by
  rcases h with h | ⟨_, _, _, _, e, _⟩ | ⟨_, _, _, _, _, _, _, _, e, _⟩
  · cases h with
    | tup h1 h2 => exact ⟨_, _, rfl, h1, Same.seqT s h1, h2⟩
  · cases e
  · cases e
theorem RelR.lst {ds : List D} (s : Same F1 H1) (h : RelR w K mg F1 H1 v (.lst ds)) : ∃ a xs, v = .ref a ∧ SqL K H1 a xs ∧ Reps w K mg F1 xs ds := by
  rcases h with h | ⟨p, xs, ds', e, e2, h1, r⟩ | ⟨_, _, _, _, _, _, _, _, e2, _⟩
  · cases h with
    | lst h1 h2 => exact ⟨_, _, rfl, Same.seq s h1, h2⟩
  · cases e2
    exact ⟨p, xs, e, SqL.of h1, r⟩
  · cases e2
theorem RelR.dct {ks vs : List D} (s : Same F1 H1) (h : RelR w K mg F1 H1 v (.dct ks vs)) : ∃ a o kv vv nks, v = .ref a ∧ H1 a = some o ∧ DctAt w o a kv vv nks ∧ dKeys ks = some nks ∧ Reps w K mg F1 kv ks ∧ Reps w K mg F1 vv vs := by
  rcases h with h | ⟨_, _, _, _, e2, _⟩ | ⟨p, o, kv, vv, nks, ks', vs', e, e2, h1, h2, h3, r1, r2⟩
  · cases h with
    | dct h1 h2 h3 h4 h5 => exact ⟨_, _, _, _, _, rfl, s _ _ h1, h2, h3, h4, h5⟩
  · cases e2
  · cases e2
    exact ⟨p, o, kv, vv, nks, e, h1, h2, h3, r1, r2⟩
theorem RelM.keep' (h : Rep w K mg F1 v d) (hd : d.heapy = false) : RelM w K mg m H F1 H1 v d := by
  cases m with
  | keep => exact h
  | read => exact .inl h
  | fresh =>
    cases d with
    | lst ds => cases hd
    | dct ks vs => cases hd
    | _ => exact h
end
mutual
theorem Rep.dp {w : World} {K : PySem.W.Frag} {mg : Str → Option Value} {F H : Hp} (s : Same F H) : ∀ (d : D) {v : V}, d.plain = true → Rep w K mg F v d → Dp K H v d.py
  | .non, _, _, h => by cases h; exact .non
  | .bl _, _, _, h => by cases h; exact .bl _
  | .int _, _, _, h => by cases h; exact .int _
  | .str _, _, _, h => by cases h; exact .str _
  | .tup ds, _, p, h => by
    cases h with
    | tup h1 h2 => exact .tup (Same.seqT s h1) (Reps.dp s ds (by simpa [D.plain] using p) h2)
  | .lst ds, _, p, h => by
    cases h with
    | lst h1 h2 => exact .lst (Same.seq s h1) (Reps.dp s ds (by simpa [D.plain] using p) h2)
  | .ins _ _ _, _, p, _ => by simp [D.plain] at p
  | .dct _ _, _, p, _ => by simp [D.plain] at p
theorem Reps.dp {w : World} {K : PySem.W.Frag} {mg : Str → Option Value} {F H : Hp} (s : Same F H) : ∀ (ds : List D) {vs : List V}, D.plains ds = true → Reps w K mg F vs ds → DpAll K H vs (D.pys ds)
  | [], _, _, h => by cases h; exact .nil
  | d :: ds, _, p, h => by
    simp only [D.plains, Bool.and_eq_true] at p
    cases h with
    | cons h1 h2 => exact .cons (Rep.dp s d p.1 h1) (Reps.dp s ds p.2 h2)
end
theorem RelR.dp {w : World} {K : PySem.W.Frag} {mg : Str → Option Value} {F H : Hp} (s : Same F H) {d : D} {v : V} (p : d.plain = true) (h : RelR w K mg F H v d) : Dp K H v d.py := by
  rcases h with h | ⟨q, xs, ds, rfl, rfl, h1, r⟩ | ⟨_, _, _, _, _, _, _, _, rfl, _⟩
  rotate_right
  · simp [D.plain] at p
  · exact Rep.dp s d p h
  · exact .lst (SqL.of h1) (Reps.dp s ds (by simpa [D.plain] using p) r)
theorem D.pys_any (ds : List D) (x : D) : (D.pys ds).any (fun z => PyData.eqv z x.py) = ds.any (fun z => D.eqv z x) := by
  induction ds with
  | nil => rfl
  | cons d ds ih => simp only [D.pys, List.any_cons, ih]; rfl

/-! ### the judgement of expressions -/
/-- e's value is told by f; m: how it lies -/
def EV (X : Cx) (W : WX) (own : List Nat) (m : Md) (e : Expr) (f : SD → R D) : Prop :=
  ∃ t : TE, PE X e t ∧ ∀ (H0 F H : Hp) (σ : L2.St) (st : SD), Same F H → SRel X.w X.K X.mg own H0 F H σ st → At X.w X.K X.mg W σ F H (t σ H) (f st) (RelM X.w X.K X.mg m H)
/-- several -/
def EVs (X : Cx) (W : WX) (own : List Nat) (es : List Expr) (f : SD → R (List D)) : Prop :=
  ∃ t : TA, PA X es t ∧ ∀ (H0 F H : Hp) (σ : L2.St) (st : SD), Same F H → SRel X.w X.K X.mg own H0 F H σ st → At X.w X.K X.mg W σ F H (t σ H) (f st) (fun F1 H1 vs ds => Reps X.w X.K X.mg F1 vs ds)
/-- arguments that are only read (those of built-ins) -/
def EVr (X : Cx) (W : WX) (own : List Nat) (es : List Expr) (f : SD → R (List D)) : Prop :=
  ∃ t : TA, PA X es t ∧ ∀ (H0 F H : Hp) (σ : L2.St) (st : SD), Same F H → SRel X.w X.K X.mg own H0 F H σ st → At X.w X.K X.mg W σ F H (t σ H) (f st) (fun F1 H1 vs ds => Paired (RelR X.w X.K X.mg F1 H1) vs ds)
/-- a test -/
def ET (X : Cx) (W : WX) (own : List Nat) (e : Expr) (f : SD → R Bool) : Prop :=
  ∃ t : TT, PT X e t ∧ ∀ (H0 F H : Hp) (σ : L2.St) (st : SD), Same F H → SRel X.w X.K X.mg own H0 F H σ st → At X.w X.K X.mg W σ F H (t σ H) (f st) (fun _ _ b a => b = a)
def EW (X : Cx) (W : WX) (own : List Nat) (e : Expr) (f : SD → R Bool) : Prop :=
  ∃ t : TT, PW X e t ∧ ∀ (H0 F H : Hp) (σ : L2.St) (st : SD), Same F H → SRel X.w X.K X.mg own H0 F H σ st → At X.w X.K X.mg W σ F H (t σ H) (f st) (fun _ _ b a => b = a)

theorem SRel.step {w : World} {K : PySem.W.Frag} {mg : Str → Option Value} {own : List Nat} {H0 F H F1 H1 : Hp} {σ : L2.St} {st : SD} (s : SRel w K mg own H0 F H σ st) (t : Step F H F1 H1) : SRel w K mg own H0 F1 H1 σ st := by
  refine ⟨s.len, fun i d e => ?_, s.sep, s.pin⟩
  obtain ⟨v, e1, h⟩ := s.val i d e
  refine ⟨v, e1, ?_⟩
  rcases h with ⟨hi, h⟩ | ⟨hi, h⟩
  · refine .inl ⟨hi, ?_⟩
    cases d with
    | lst ds => obtain ⟨p, xs, e2, h1, h2, h3, r⟩ := h; exact ⟨p, xs, e2, t.hh _ _ h1, t.nw p (by rw [h1]; exact fun z => nomatch z) h2, h3, Reps.mono t.ff _ r⟩
    | dct ks vs => obtain ⟨p, o, kv, vv, nks, e2, h1, h2, h3, h4, h5, r1, r2⟩ := h; exact ⟨p, o, kv, vv, nks, e2, t.hh _ _ h1, t.nw p (by rw [h1]; exact fun z => nomatch z) h2, h3, h4, h5, Reps.mono t.ff _ r1, Reps.mono t.ff _ r2⟩
    | _ => exact Rep.mono t.ff _ h
  · exact .inr ⟨hi, Rep.mono t.ff _ h⟩

section
variable {X : Cx} {W : WX} {own : List Nat} {m : Md} {e : Expr} {f : SD → R D}
/-- what the modes tell of one another -/
def Md.ge : Md → Md → Bool
  | .fresh, _ => true
  | .keep, .keep => true
  | .keep, .read => true
  | .read, .read => true
  | _, _ => false
theorem EV.coe {m' : Md} (h : EV X W own m e f) (hm : m.ge m' = true) : EV X W own m' e f := by
  obtain ⟨t, p, q⟩ := h
  refine ⟨t, p, fun H0 F H σ st s r => (q H0 F H σ st s r).weak fun b a F1 H1 s1 z => ?_⟩
  cases m' with
  | read => exact ⟨F1, s1, z.toRead⟩
  | keep =>
    cases m with
    | keep => exact ⟨F1, s1, z⟩
    | fresh => exact RelF.toKeep s1 z
    | read => simp [Md.ge] at hm
  | fresh =>
    cases m with
    | fresh => exact ⟨F1, s1, z⟩
    | keep => simp [Md.ge] at hm
    | read => simp [Md.ge] at hm
theorem EV.toRead (h : EV X W own m e f) : EV X W own .read e f := h.coe (by cases m <;> rfl)
theorem EV.congr {g : SD → R D} (h : EV X W own m e f) (hg : ∀ st, f st = g st) : EV X W own m e g := by
  have : f = g := funext hg
  subst this; exact h
end
end Dl

/-! DlDa: data as keys of a dict; a dict's object by its entries; what in, [] and a store do there. -/
namespace Dl
open PySem PySem.Spec PyProof.Rows L2

section
variable {X : Cx} {pins : List (Addr × Obj)} {σ : L2.St} {F H : Hp} {s : Shared}
mutual
theorem key_is (I : Inv X pins σ H s) (e : Same F H) : ∀ (d : D) {v : V} {u : Value} {k : NestedKey}, Rep X.w X.K X.mg F v d → RelV v u → dKey d = some k → NestedIs s.heap k u
  | .non, _, _, _, h, r, hk => by
    cases h; cases r
    have hk' : some NestedKey.none = some _ := hk
    cases hk'
    exact .none
  | .int i, _, _, _, h, r, hk => by
    cases h
    obtain ⟨t, rfl⟩ := r
    have hk' : some (NestedKey.num i) = some _ := hk
    cases hk'
    exact .int i t
  | .str x, _, _, _, h, r, hk => by
    cases h
    obtain ⟨t, rfl⟩ := r
    have hk' : some (NestedKey.text x) = some _ := hk
    cases hk'
    exact .text x t
  | .tup ds, _, _, _, h, r, hk => by
    cases h with
    | tup h1 h2 =>
      cases r
      have hk' : (dKeys ds).map NestedKey.tup = some _ := hk
      obtain ⟨ks, e1, rfl⟩ := Option.map_eq_some_iff.mp hk'
      obtain ⟨its, rv, ⟨o, ho, hc, n, hd⟩, _⟩ := I.tuple (Same.seqT e h1)
      exact .tup ho hc hd (keys_are I e ds h2 rv e1)
  | .bl _, _, _, _, _, _, hk => by cases hk
  | .lst _, _, _, _, _, _, hk => by cases hk
  | .ins _ _ _, _, _, _, _, _, hk => by cases hk
  | .dct _ _, _, _, _, _, _, hk => by cases hk
theorem keys_are (I : Inv X pins σ H s) (e : Same F H) : ∀ (ds : List D) {vs : List V} {us : List Value} {ks : List NestedKey}, Reps X.w X.K X.mg F vs ds → Vals vs us → dKeys ds = some ks → NestedAll s.heap ks us
  | [], _, _, _, h, r, hk => by
    cases h; cases r
    have hk' : some ([] : List NestedKey) = some _ := hk
    cases hk'
    exact .nil
  | d :: ds, _, _, _, h, r, hk => by
    cases h with
    | cons h1 h2 =>
      cases r with
      | cons r1 r2 =>
        have hk' : ((dKey d).bind fun k => (dKeys ds).map fun ks => k :: ks) = some _ := hk
        obtain ⟨k, e1, e2⟩ := Option.bind_eq_some_iff.mp hk'
        obtain ⟨ks, e3, rfl⟩ := Option.map_eq_some_iff.mp e2
        exact .cons (key_is I e d h1 r1 e1) (keys_are I e ds h2 r2 e3)
end
end
/-! ### the object of a dict: an exact dict with these entries -/
/-! ### what in, not in, [] do -/
section
variable {X : Cx}
/-- the value stands for the key -/
def KeyV (X : Cx) (H : Hp) (y : V) (k : NestedKey) : Prop := ∃ (F : Hp) (d : D), Same F H ∧ Rep X.w X.K X.mg F y d ∧ dKey d = some k
theorem KeyV.is {pins : List (Addr × Obj)} {σ : L2.St} {H : Hp} {s : Shared} {y : V} {u : Value} {k : NestedKey} (h : KeyV X H y k) (I : Inv X pins σ H s) (r : RelV y u) : NestedIs s.heap k u := by
  obtain ⟨F, d, e, rep, hk⟩ := h
  exact key_is I e d rep r hk
/-- at a stands a dict; its keys are tuples (k, where the key's tuple stands, the value) -/
structure DicT (X : Cx) (H : Hp) (a : Addr) (xs : List (NestedKey × Addr × Value)) : Prop where
  at_ : ∃ es ep, H a = some (rawO a es ep) ∧ es.toList = xs.map (entOf X.w)
  low : (a == sysModules) = false
  len : xs.length ≤ sizeLine
  keys : ∀ z ∈ xs, KeyV X H (.ref z.2.1) z.1 ∧ z.1.depth ≤ 8
  nd : (xs.map (·.1)).Nodup
theorem DicT.of {pins : List (Addr × Obj)} {σ : L2.St} {H : Hp} {s : Shared} {a : Addr} {xs : List (NestedKey × Addr × Value)} (h : DicT X H a xs) (I : Inv X pins σ H s) : s.heap.DictOfH (nestedKind X.prog X.w) a xs := by
  obtain ⟨es, ep, e, he⟩ := h.at_
  obtain ⟨o, ho, hc, hd⟩ := (I.hok a _ e).1
  exact ⟨o, es, ep, ho, hc, hd, he, fun z hz => ⟨(h.keys z hz).1.is I rfl, (h.keys z hz).2⟩, h.nd⟩
theorem DicT.mut {H : Hp} {a : Addr} {xs : List (NestedKey × Addr × Value)} (h : DicT X H a xs) : Mut (H a) := by
  obtain ⟨es, ep, e, _⟩ := h.at_
  exact raw_mut e
theorem tup_ref {h : Heap} {ks : List NestedKey} {v : Value} (x : NestedIs h (.tup ks) v) : ∃ b, v = .ref b := by
  cases x with
  | tup _ _ _ _ => exact ⟨_, rfl⟩
def rInT (X : Cx) : R2 := fun y x H Q => ∃ a xs ks, x = .ref a ∧ DicT X H a xs ∧ KeyV X H y (.tup ks) ∧ (NestedKey.tup ks).depth ≤ 8 ∧ Q (.bl (atKey xs (.tup ks)).isSome) H
def rNinT (X : Cx) : R2 := fun y x H Q => ∃ a xs ks, x = .ref a ∧ DicT X H a xs ∧ KeyV X H y (.tup ks) ∧ (NestedKey.tup ks).depth ≤ 8 ∧ Q (.bl (!(atKey xs (.tup ks)).isSome)) H
theorem op_inT (hu : X.A.in1.units + 8 < cLine) : OpR X (compareOp .In) (rInT X) := by
  intro pins s σ H y x v u Q I ry rx h
  obtain ⟨a, xs, ks, rfl, hd, hk, h8, q⟩ := h
  cases rx
  have k1 := hk.is I ry
  obtain ⟨b, rfl⟩ := tup_ref k1
  exact wpAny_in_heap (knd := nestedKind X.prog X.w) hu ⟨k1, h8⟩ hd.low (hd.of I) ⟨.bl _, H, I.tok _, rfl, q⟩
theorem op_ninT (hu : X.A.in1.units + 8 < cLine) : OpR X (compareOp .NotIn) (rNinT X) := by
  intro pins s σ H y x v u Q I ry rx h
  obtain ⟨a, xs, ks, rfl, hd, hk, h8, q⟩ := h
  cases rx
  have k1 := hk.is I ry
  obtain ⟨b, rfl⟩ := tup_ref k1
  show wpAny _ _ (do return Value.bool (!(← contains (.ref a) (.ref b)))) _ _ s
  exact wpAny_bind (wpAny_contains_heap (knd := nestedKind X.prog X.w) hu ⟨k1, h8⟩ hd.low (hd.of I) (wpAny_pure ⟨.bl _, H, I.tok _, rfl, q⟩))
/-- d[k]: v what the value there is -/
def rIxT (X : Cx) : R2 := fun x y H Q => ∃ a xs ks b u v, x = .ref a ∧ DicT X H a xs ∧ KeyV X H y (.tup ks) ∧ (NestedKey.tup ks).depth ≤ 8 ∧ atKey xs (.tup ks) = some (b, u) ∧ RelV v u ∧ Q v H
theorem op_ixT (hu : X.A.in1.units + 8 < cLine) : OpR X getItem (rIxT X) := by
  intro pins s σ H x y v u Q I rx ry h
  obtain ⟨a, xs, ks, b, w, z, rfl, hd, hk, h8, hat, rz, q⟩ := h
  cases rx
  have k1 := hk.is I ry
  obtain ⟨c, rfl⟩ := tup_ref k1
  exact wpAny_getItem_heap (knd := nestedKind X.prog X.w) hu ⟨k1, h8⟩ (hd.of I) hat ⟨z, H, I.tok _, rz, q⟩
/-- d[k] = v -/
def rSetDT (X : Cx) : TSet := fun o i v H Q => ∃ a xs ks, o = .ref a ∧ DicT X H a xs ∧ KeyV X H i (.tup ks) ∧ (NestedKey.tup ks).depth ≤ 8 ∧ ∀ b u es ep, i = .ref b → RelV v u → es.toList = (storedH xs (.tup ks) b u).map (entOf X.w) → Q (L2.upd H a (rawO a es ep))
theorem set_dicT (hu : X.A.in1.units + 8 < cLine) : PSet X (rSetDT X) := by
  intro pins s σ H o i v ov iv u Q I ro ri rv h
  obtain ⟨a, xs, ks, rfl, hd, hk, h8, q⟩ := h
  cases (show ov = Value.ref a from ro)
  have k1 := hk.is I ri
  obtain ⟨b, rfl⟩ := tup_ref k1
  have hb : i = .ref b := by cases i <;> first | (cases ri <;> rfl) | (obtain ⟨_, z⟩ := ri; cases z)
  refine wpAny_setItem_heap (knd := nestedKind X.prog X.w) (hsz := hd.len) hu ⟨k1, h8⟩ (hd.of I) fun h' dd hs => ?_
  obtain ⟨o, es, ep, ho, hc, hdt, he, _⟩ := dd
  exact ⟨_, d_write I hd.mut hs ⟨o, ho⟩ (rawO_ok ⟨o, ho, hc, hdt⟩), q b u es ep hb rv he⟩
/-! the same where the keys are None, ints, texts -/
def nkKey : Option Key → NestedKey
  | none => .none
  | some (.inl i) => .num i
  | some (.inr x) => .text x
theorem nkKey_inj : ∀ {a b : Option Key}, nkKey a = nkKey b → a = b
  | none, none, _ => rfl
  | some (.inl _), some (.inl _), e => by injection e with e; rw [e]
  | some (.inr _), some (.inr _), e => by injection e with e; rw [e]
  | none, some (.inl _), e => nomatch e
  | none, some (.inr _), e => nomatch e
  | some (.inl _), none, e => nomatch e
  | some (.inl _), some (.inr _), e => nomatch e
  | some (.inr _), none, e => nomatch e
  | some (.inr _), some (.inl _), e => nomatch e
def nkV : Option Key → V
  | none => .non
  | some k => kV k
theorem nkV_rel {l : Option Key} {u : Value} (h : nkIs l u = true) : RelV (nkV l) u := by
  cases l with
  | none => exact nk_none h
  | some k => exact relV_key (show keyIs k u = true from h)
def leafV : V → Option (Option Key)
  | .non => some none
  | .int i => some (some (.inl i))
  | .str x => some (some (.inr x))
  | _ => none
theorem leafV_nk {y : V} {l : Option Key} (h : leafV y = some l) : y = nkV l := by
  cases y <;> first | (cases h; rfl) | cases h
theorem leaf_is {y : V} {l : Option Key} {u : Value} (h : leafV y = some l) (r : RelV y u) : nkIs l u = true := by
  cases y with
  | non => cases h; cases r; rfl
  | int i => cases h; obtain ⟨t, rfl⟩ := r; show Value.isInt i (.int i t) = true; simp [Value.isInt]
  | str x => cases h; obtain ⟨t, rfl⟩ := r; show Value.isStrOf x (.str x t) = true; simp [Value.isStrOf]
  | _ => cases h
/-- at a stands a dict; its keys are None, ints, texts -/
structure DicL (X : Cx) (H : Hp) (a : Addr) (kvs : List (Option Key × Value)) : Prop where
  at_ : ∃ es ep, H a = some (rawO a es ep) ∧ KeysOf (noneKind X.prog X.w) es ∧ Pairs (noneKind X.prog X.w) es.toList kvs
  low : (a == sysModules) = false
  len : kvs.length ≤ sizeLine
  nd : (kvs.map (·.1)).Nodup
theorem DicL.of {pins : List (Addr × Obj)} {σ : L2.St} {H : Hp} {s : Shared} {a : Addr} {kvs : List (Option Key × Value)} (h : DicL X H a kvs) (I : Inv X pins σ H s) : s.heap.DictOf (noneKind X.prog X.w) a kvs := by
  obtain ⟨es, ep, e, hk, hp⟩ := h.at_
  obtain ⟨o, ho, hc, hd⟩ := (I.hok a _ e).1
  exact ⟨o, es, ep, ho, hc, hd, hk, hp, h.nd⟩
theorem DicL.mut {H : Hp} {a : Addr} {kvs : List (Option Key × Value)} (h : DicL X H a kvs) : Mut (H a) := by
  obtain ⟨es, ep, e, _⟩ := h.at_
  exact raw_mut e
def rInL (X : Cx) : R2 := fun y x H Q => ∃ a kvs l, x = .ref a ∧ DicL X H a kvs ∧ leafV y = some l ∧ Q (.bl (valueAt kvs l).isSome) H
def rNinL (X : Cx) : R2 := fun y x H Q => ∃ a kvs l, x = .ref a ∧ DicL X H a kvs ∧ leafV y = some l ∧ Q (.bl (!(valueAt kvs l).isSome)) H
def rIxL (X : Cx) : R2 := fun x y H Q => ∃ a kvs l u v, x = .ref a ∧ DicL X H a kvs ∧ leafV y = some l ∧ valueAt kvs l = some u ∧ RelV v u ∧ Q v H
def rSetDL (X : Cx) : TSet := fun o i v H Q => ∃ a kvs l, o = .ref a ∧ DicL X H a kvs ∧ leafV i = some l ∧ ∀ u es ep, RelV v u → KeysOf (noneKind X.prog X.w) es → Pairs (noneKind X.prog X.w) es.toList (stored kvs l u) → Q (L2.upd H a (rawO a es ep))
theorem op_inL : OpR X (compareOp .In) (rInL X) := by
  intro pins s σ H y x v u Q I ry rx h
  obtain ⟨a, kvs, l, rfl, hd, hk, q⟩ := h
  cases rx
  exact wpAny_in_of (knd := noneKind X.prog X.w) (leaf_is hk ry) hd.low (hd.of I).mapOf ⟨.bl _, H, I.tok _, rfl, q⟩
theorem op_ninL : OpR X (compareOp .NotIn) (rNinL X) := by
  intro pins s σ H y x v u Q I ry rx h
  obtain ⟨a, kvs, l, rfl, hd, hk, q⟩ := h
  cases rx
  exact wpAny_notIn_of (knd := noneKind X.prog X.w) (leaf_is hk ry) hd.low (hd.of I).mapOf ⟨.bl _, H, I.tok _, rfl, q⟩
theorem op_ixL : OpR X getItem (rIxL X) := by
  intro pins s σ H x y v u Q I rx ry h
  obtain ⟨a, kvs, l, w, z, rfl, hd, hk, hat, rz, q⟩ := h
  cases rx
  exact wpAny_getItem_of (knd := noneKind X.prog X.w) (leaf_is hk ry) (hd.of I).mapOf hat ⟨z, H, I.tok _, rz, q⟩
theorem set_dicL : PSet X (rSetDL X) := by
  intro pins s σ H o i v ov iv u Q I ro ri rv h
  obtain ⟨a, kvs, l, rfl, hd, hk, q⟩ := h
  cases (show ov = Value.ref a from ro)
  refine wpAny_setItem_pairs (knd := noneKind X.prog X.w) (hsz := hd.len) (leaf_is hk ri) (hd.of I) fun h' dd hs => ?_
  obtain ⟨o, es, ep, ho, hc, hdt, hk2, hp2, _⟩ := dd
  exact ⟨_, d_write I hd.mut hs ⟨o, ho⟩ (rawO_ok ⟨o, ho, hc, hdt⟩), q u es ep rv hk2 hp2⟩
/-! {}, get, len -/
def IsDic (X : Cx) (H : Hp) (a : Addr) : Prop := (∃ xs, DicT X H a xs) ∨ ∃ kvs, DicL X H a kvs
theorem IsDic.is {pins : List (Addr × Obj)} {σ : L2.St} {H : Hp} {s : Shared} {a : Addr} (h : IsDic X H a) (I : Inv X pins σ H s) : s.TypeIs (.ref a) "dict" ∧ ∀ b, Value.ref a = .ref b → ∃ ob, s.heap.get? b = some ob ∧ ob.dict = none := by
  rcases h with ⟨xs, h⟩ | ⟨kvs, h⟩
  · obtain ⟨o, es, ep, ho, hc, r⟩ := h.of I
    exact ⟨⟨o, ho, hc.1⟩, fun b e => by injection e with e; subst e; exact ⟨o, ho, hc.2.1⟩⟩
  · obtain ⟨o, es, ep, ho, hc, r⟩ := h.of I
    exact ⟨⟨o, ho, hc.1⟩, fun b e => by injection e with e; subst e; exact ⟨o, ho, hc.2.1⟩⟩
theorem pe_dnew {pos : Pos} : PE X (.Dict [] [] pos) (fun _ H Q => ∀ p, H p = none → (p == sysModules) = false → Q (.ref p) (L2.upd H p (rawO p #[] 0))) := ⟨fun pins s σ H Q I h =>
  wpAny_Dict_empty ⟨.ref s.heap.objs.size, _, I.laid (a := s.heap.objs.size) (o := rawO s.heap.objs.size #[] 0) (t' := s.toks) (fun _ _ q => Heap.get?_push_of_some _ q) (Nat.le_refl _)
    (rawO_ok ⟨_, Heap.get?_push_size _ rfl, ⟨rfl, rfl, rfl⟩, rfl⟩), rfl, h _ (I.hok.fresh (Nat.le_refl _)) (by
      have := (dt_empty (P := X.prog) (w := X.w) (H := L2.upd H s.heap.objs.size (.dT [])) s.heap I.big)
      exact this.2.1)⟩⟩
/-- what stands under y, if anything -/
def AtD (X : Cx) (H : Hp) (a : Addr) (y : V) (r : Option Value) : Prop := (∃ xs ks, DicT X H a xs ∧ KeyV X H y (.tup ks) ∧ (NestedKey.tup ks).depth ≤ 8 ∧ r = (atKey xs (.tup ks)).map (·.2)) ∨ (∃ kvs l, DicL X H a kvs ∧ leafV y = some l ∧ r = valueAt kvs l)
/-- d.get(y), d.get(y, z) -/
def rGet (X : Cx) : V → List V → Hp → VK → Prop := fun x xs H Q => ∃ a y z r v, x = .ref a ∧ (xs = [y, z] ∨ (xs = [y] ∧ z = .non)) ∧ AtD X H a y r ∧ (∀ u, r = some u → RelV v u) ∧ (r = none → v = z) ∧ Q v H
theorem rel_getD {r : Option Value} {v z : V} {u : Value} (h1 : ∀ u, r = some u → RelV v u) (h2 : r = none → v = z) (h3 : RelV z u) : RelV v (r.getD u) := by
  cases r with
  | none => rw [h2 rfl]; exact h3
  | some w => exact h1 w rfl
theorem mt_get (hu : X.A.in1.units + 8 < cLine) : MtR X "dict.get" (rGet X) := by
  intro pins s σ H x xs v us Q I rx rxs h
  obtain ⟨a, y, z, r, w, rfl, hx, hr, h1, h2, q⟩ := h
  cases (show v = Value.ref a from rx)
  rcases hx with rfl | ⟨rfl, rfl⟩
  · cases rxs with
    | cons ry rt =>
      cases rt with
      | cons rz rt =>
        cases rt
        rcases hr with ⟨xs, ks, hd, hk, h8, rfl⟩ | ⟨kvs, l, hd, hk, rfl⟩
        · have k1 := hk.is I ry
          obtain ⟨b, rfl⟩ := tup_ref k1
          exact call_meetsIn PySem.F.slot_dict_get (hd.of I).typeIs PySem.F.entry_dict_get (PySem.F.args_dict_get_3 _ _ _) (meetsH_dict_get_default (nestedKind X.prog X.w) a b hd.low _) ⟨hu, .tup ks, xs, ⟨k1, h8⟩, hd.of I, ⟨w, H, I.tok _, rel_getD h1 h2 rz, q⟩⟩
        · exact call_meetsIn PySem.F.slot_dict_get (hd.of I).mapOf.typeIs PySem.F.entry_dict_get (PySem.F.args_dict_get_3 _ _ _) (meets_dict_get_default (noneKind X.prog X.w) a (leaf_is hk ry) hd.low _) ⟨_, (hd.of I).mapOf, ⟨w, H, I.tok _, rel_getD h1 h2 rz, q⟩⟩
  · cases rxs with
    | cons ry rt =>
      cases rt
      rcases hr with ⟨xs, ks, hd, hk, h8, rfl⟩ | ⟨kvs, l, hd, hk, rfl⟩
      · have k1 := hk.is I ry
        obtain ⟨b, rfl⟩ := tup_ref k1
        exact call_meetsIn PySem.F.slot_dict_get (hd.of I).typeIs PySem.F.entry_dict_get (PySem.F.args_dict_get_2 _ _) (meetsH_dict_get (nestedKind X.prog X.w) a b hd.low) ⟨hu, .tup ks, xs, ⟨k1, h8⟩, hd.of I, ⟨w, H, I.tok _, rel_getD h1 h2 rfl, q⟩⟩
      · exact call_meetsIn PySem.F.slot_dict_get (hd.of I).mapOf.typeIs PySem.F.entry_dict_get (PySem.F.args_dict_get_2 _ _) (meets_dict_get (noneKind X.prog X.w) a (leaf_is hk ry) hd.low) ⟨_, (hd.of I).mapOf, ⟨w, H, I.tok _, rel_getD h1 h2 rfl, q⟩⟩
/-- len(d) -/
def rLenD (X : Cx) : List V → Hp → VK → Prop := fun vs H Q => ∃ a, vs = [.ref a] ∧ ((∃ xs, DicT X H a xs ∧ Q (.int (xs.length : Nat)) H) ∨ ∃ kvs, DicL X H a kvs ∧ Q (.int (kvs.length : Nat)) H)
theorem cr_lenD : CallR X (.builtin "len") (rLenD X) := by
  intro pins s σ H xs us Q I r h
  obtain ⟨a, rfl, h⟩ := h
  obtain ⟨u, rfl, ru⟩ := vals1 r
  cases (show u = Value.ref a from ru)
  rcases h with ⟨xs, hd, q⟩ | ⟨kvs, hd, q⟩
  · have z := hd.len
    rw [sizeLine_eq] at z
    exact PySem.call_len_dictH hd.low (hd.of I) (by omega) ⟨.int (xs.length : Nat), H, I.tok _, ⟨_, rfl⟩, q⟩
  · have z := hd.len
    rw [sizeLine_eq] at z
    exact call_len_dict hd.low (hd.of I) (by omega) ⟨.int (kvs.length : Nat), H, I.tok _, ⟨_, rfl⟩, q⟩
/-- d.name(e, ..) -/
theorem pe_bmD {o e : Expr} {es : List Expr} {to : TE} {t : TA} {name : Str} {apos cpos : Pos} {id : String} {r : V → List V → Hp → VK → Prop} (slot : Slot "dict" name id) (hty : typeOf (.builtin id) = pure (.type "method_descriptor")) (hm : MtR X id r) (ho : PE X o to) (ha : PA X (e :: es) t)
    (hbase : attributeBase o name X.env (eval o X.env) = eval o X.env)
    (hfew : ((backTo cpos (starEach (e :: es) X.env)).all (fun x => !x.1) && (backToKw cpos (keywordEach [] X.env)).all (fun x => x.1.isSome)
      && decide ((e :: es).length + ([] : List Keyword).length + (if ([] : List Keyword).isEmpty then 0 else 1) < 30)) = true)
    (hline : (apos.endLine == cpos.line) = true) (hs : starEach (e :: es) X.env = (false, eval e X.env) :: starEach es X.env) (hplain : (backTo cpos (starEach es X.env)).any (·.1) = false) :
    PE X (.Call (.Attribute o name apos) (e :: es) [] cpos) (fun σ H Q => to σ H fun x H1 => (∃ a, x = .ref a ∧ IsDic X H1 a) ∧ t σ H1 fun xs H2 => r x xs H2 Q) := by
  refine ⟨fun pins s σ H Q I h => ?_⟩
  refine wpAny_Call_method_late hbase hfew hline rfl (thn (ho.run pins s σ H _ I h) fun v s1 ⟨x, H1, I1, r1, ty, q1⟩ => ?_)
  obtain ⟨a, rfl, hd⟩ := ty
  cases (show v = Value.ref a from r1)
  obtain ⟨h1, h2⟩ := hd.is I1
  refine ⟨"dict", id, PySem.F.plainAttrs_dict, slot, hty, h1, h2, ?_⟩
  have hA := ha.run cpos pins s1 σ H1 _ I1 q1
  rw [hs] at hA ⊢
  refine Calls.callWith_builtin (by show (false || (backTo cpos (starEach es X.env)).any (·.1)) = false; rw [hplain] <;> rfl) (Calls.evalArgs_plain ?_)
  exact thn hA fun us s2 ⟨vs, H2, I2, r2, q2⟩ => hm pins s2 σ H2 (.ref a) vs _ us Q I2 rfl r2 q2
/-! for k in d -/
/-- the keys of the entries, one behind another -/
def ItD (d : Addr) (es : Array DictEntry) (ep : Nat) (kv : List V) : It :=
  ⟨fun i H => H d = some (rawO d es ep) ∧ i < kv.length, fun i H x H' => H' = H ∧ kv[i]? = some x, fun i H => H d = some (rawO d es ep) ∧ kv.length ≤ i⟩
theorem turn_keysD {P : Program} {w : World} {K : PySem.W.Frag} {tg : Expr} {d : Addr} {es : Array DictEntry} {ep : Nat} {kv : List V} (it : Addr) (hv : Vals kv (es.toList.map (·.key))) : Turn P w K tg (ItD d es ep kv) [it] it (fun i h => h.IsKeyIter it d i kv.length ep) where
  mem := by simp
  obj := fun i h st b hb => by
    have e : b = it := by simpa using hb
    subst e
    obtain ⟨oi, e, c, dd⟩ := st
    exact ⟨oi, e, fun v z => by rw [dd] at z; cases z⟩
  keep := fun i h h' st k => st.at fun oi e => k it (by simp) oi e
  item := by
    intro X hP hw hK hc i pins s σ H E I hf st hg
    subst hP hw hK
    obtain ⟨hd, hi⟩ := hg
    obtain ⟨f0, f1, f2, f3, f4, f5⟩ := hf it (by simp)
    obtain ⟨o, hgd, hx, hdt⟩ := (I.hok d _ hd).1
    have hsz : es.size = kv.length := by have := hv.length; simpa using this.symm
    have hie : i < es.size := by omega
    have hen : es[i]? = some es[i] := Array.getElem?_eq_getElem hie
    obtain ⟨u, hu, ru⟩ := hv.get (List.getElem?_eq_getElem hi)
    have hu' : es[i].key = u := by
      rw [List.getElem?_map, Array.getElem?_toList, hen] at hu
      exact Option.some.inj hu
    refine next_key_item st hgd hdt hsz hen fun h' st' sb => ?_
    have I1 : Inv X pins σ H { s with heap := h' } := I.turned (t' := s.toks) (fun b ob hb e => (sb.2 b hb).trans e) f0 f1 f3 f4 f5
    obtain ⟨oi, e, c, dd⟩ := id st'
    exact ⟨_, rfl, go_of (s := { s with heap := h' }) e c dd (by decide) ⟨kv[i], H, I1, hu' ▸ ru, ⟨rfl, List.getElem?_eq_getElem hi⟩, st', fun b hb => (hf b hb).1⟩⟩
  done := by
    intro X hP hw hK hc i pins s σ H E I hf st hg
    subst hP hw hK
    obtain ⟨hd, hi⟩ := hg
    obtain ⟨f0, f1, f2, f3, f4, f5⟩ := hf it (by simp)
    obtain ⟨o, hgd, hx, hdt⟩ := (I.hok d _ hd).1
    have hsz : es.size = kv.length := by have := hv.length; simpa using this.symm
    exact next_key_end (I.ok.hd hc) st hgd hdt hsz hi fun h' eb => ⟨rfl, I.turned (t' := s.toks) (fun b ob hb e => eb b ob hb e) f0 f1 f3 f4 f5⟩
  self := fun A i s Q E st h => wpAny_pyIter_keyiter st h
theorem pi_keysD {tg e : Expr} {td : TE} (he : PE X e td) : PI X tg e (fun σ H R => td σ H fun x H1 => ∃ d es ep kv, x = .ref d ∧ (d == sysModules) = false ∧ H1 d = some (rawO d es ep) ∧ Vals kv (es.toList.map (·.key)) ∧ R (ItD d es ep kv) H1) := by
  refine ⟨fun pins s σ H R I h => ?_⟩
  refine thn (he.run pins s σ H _ I h) fun u s1 ⟨x, H1, I1, rx, d, es, ep, kv, ex, hs, hd, hv, q⟩ => ?_
  subst ex
  obtain rfl : u = Value.ref d := rx
  obtain ⟨o, hgd, hx, hdt⟩ := (I1.hok d _ hd).1
  have hsz : es.size = kv.length := by have := hv.length; simpa using this.symm
  refine iter_keys hs hgd hx hdt (pi_one (tk := s1.toks) I1 _ (turn_keysD _ hv) ⟨_, Heap.get?_push_size _ rfl, rfl, ?_⟩ q)
  rw [hsz] <;> rfl
/-! from the entries to the kit's words -/
theorem dKey_tup {d : D} {l : List NestedKey} (h : dKey d = some (.tup l)) : ∃ ds, d = .tup ds := by
  cases d with
  | tup ds => exact ⟨ds, rfl⟩
  | non => have h' : some NestedKey.none = some (NestedKey.tup l) := h; cases h'
  | int i => have h' : some (NestedKey.num i) = some (NestedKey.tup l) := h; cases h'
  | str x => have h' : some (NestedKey.text x) = some (NestedKey.tup l) := h; cases h'
  | bl _ => cases h
  | lst _ => cases h
  | ins _ _ _ => cases h
  | dct _ _ => cases h
theorem dKeys_cons {d : D} {ds : List D} {nks : List NestedKey} (h : dKeys (d :: ds) = some nks) : ∃ k ks, dKey d = some k ∧ dKeys ds = some ks ∧ nks = k :: ks := by
  have h' : ((dKey d).bind fun k => (dKeys ds).map fun ks => k :: ks) = some nks := h
  obtain ⟨k, e1, e2⟩ := Option.bind_eq_some_iff.mp h'
  obtain ⟨ks, e3, rfl⟩ := Option.map_eq_some_iff.mp e2
  exact ⟨k, ks, e1, e3, rfl⟩
theorem ents_T {w : World} {K : PySem.W.Frag} {mg : Str → Option Value} {F : Hp} : ∀ (es : List DictEntry) {kv : List V} {ks : List D} {nks : List NestedKey}, Vals kv (es.map (·.key)) → Reps w K mg F kv ks → dKeys ks = some nks → es.map (·.hash) = nks.map (NestedKey.hash w) → (∀ k ∈ nks, ∃ l, k = .tup l) →
    ∃ xs : List (NestedKey × Addr × Value), es = xs.map (entOf w) ∧ xs.map (·.1) = nks ∧ xs.map (·.2.2) = es.map (·.val) ∧ kv = xs.map (fun x => V.ref x.2.1) ∧ ∀ z ∈ xs, ∃ d, Rep w K mg F (.ref z.2.1) d ∧ dKey d = some z.1
  | [], kv, ks, nks, hv, rk, hk, hh, tp => by
    cases hv
    cases rk
    have hk' : some ([] : List NestedKey) = some nks := hk
    cases hk'
    exact ⟨[], rfl, rfl, rfl, rfl, fun z hz => by cases hz⟩
  | e :: es, kv, ks, nks, hv, rk, hk, hh, tp => by
    rw [List.map_cons] at hv
    cases hv with
    | @cons v u vs us r1 r2 =>
      cases rk with
      | @cons _ _ d ds h1 h2 =>
        obtain ⟨k, ks', e1, e2, rfl⟩ := dKeys_cons hk
        rw [List.map_cons, List.map_cons] at hh
        injection hh with hh1 hh2
        obtain ⟨l, rfl⟩ := tp k (List.mem_cons_self ..)
        obtain ⟨dd, rfl⟩ := dKey_tup e1
        obtain ⟨b, rfl⟩ : ∃ b, v = .ref b := by cases h1; exact ⟨_, rfl⟩
        have ek : e.key = .ref b := r1
        obtain ⟨xs, q1, q2, q3, q4, q5⟩ := ents_T es r2 h2 e2 hh2 fun k hk => tp k (List.mem_cons_of_mem _ hk)
        refine ⟨(.tup l, b, e.val) :: xs, ?_, by rw [List.map_cons, q2], by rw [List.map_cons, List.map_cons, q3], by rw [List.map_cons, q4], fun z hz => ?_⟩
        · rw [List.map_cons, ← q1]
          have : e = entOf w (.tup l, b, e.val) := by
            obtain ⟨eh, ek', ev⟩ := e
            simp only at hh1 ek
            subst hh1; subst ek
            rfl
          rw [← this]
        · rcases List.mem_cons.mp hz with rfl | hz
          · exact ⟨_, h1, e1⟩
          · exact q5 z hz
/-- the kit's word of a dict with tuple keys -/
theorem dicT_of {F H : Hp} {a : Addr} {es : Array DictEntry} {ep : Nat} {kv : List V} {ks : List D} {nks : List NestedKey} (s : Same F H) (e : H a = some (rawO a es ep)) (low : (a == sysModules) = false) (len : es.size ≤ sizeLine)
    (hv : Vals kv (es.toList.map (·.key))) (rk : Reps X.w X.K X.mg F kv ks) (hk : dKeys ks = some nks) (hh : es.toList.map (·.hash) = nks.map (NestedKey.hash X.w)) (nd : nks.Nodup) (tp : ∀ k ∈ nks, (∃ l, k = .tup l) ∧ k.depth ≤ 8) :
    ∃ xs : List (NestedKey × Addr × Value), DicT X H a xs ∧ xs.map (·.1) = nks ∧ xs.map (·.2.2) = es.toList.map (·.val) ∧ kv = xs.map (fun x => V.ref x.2.1) := by
  obtain ⟨xs, q1, q2, q3, q4, q5⟩ := ents_T (w := X.w) es.toList hv rk hk hh fun k hk => (tp k hk).1
  have hl : xs.length = es.size := by rw [← Array.length_toList, q1, List.length_map]
  refine ⟨xs, ⟨⟨es, ep, e, q1⟩, low, by omega, fun z hz => ⟨?_, ?_⟩, by rw [q2]; exact nd⟩, q2, q3, q4⟩
  · obtain ⟨d, h1, h2⟩ := q5 z hz
    exact ⟨F, d, s, h1, h2⟩
  · exact (tp z.1 (by rw [← q2]; exact List.mem_map_of_mem hz)).2
theorem key_leaf {K : PySem.W.Frag} {mg : Str → Option Value} {F : Hp} {v : V} {d : D} {k : NestedKey} (r : Rep w K mg F v d) (h : dKey d = some k) (n : ∀ l, k ≠ .tup l) : ∃ l : Option Key, k = nkKey l ∧ leafV v = some l := by
  cases d with
  | tup ds =>
    have h' : (dKeys ds).map NestedKey.tup = some k := h
    obtain ⟨ks, _, rfl⟩ := Option.map_eq_some_iff.mp h'
    exact absurd rfl (n ks)
  | non => cases r; have h' : some NestedKey.none = some k := h; cases h'; exact ⟨none, rfl, rfl⟩
  | int i => cases r; have h' : some (NestedKey.num i) = some k := h; cases h'; exact ⟨some (.inl i), rfl, rfl⟩
  | str x => cases r; have h' : some (NestedKey.text x) = some k := h; cases h'; exact ⟨some (.inr x), rfl, rfl⟩
  | bl _ => cases h
  | lst _ => cases h
  | ins _ _ _ => cases h
  | dct _ _ => cases h
theorem nk_hash {P : Program} {w : World} (l : Option Key) : (nkKey l).hash w = (noneKind P w).hash l := by
  cases l with
  | none => rfl
  | some k => cases k <;> rfl
theorem ents_L {P : Program} {w : World} {K : PySem.W.Frag} {mg : Str → Option Value} {F : Hp} : ∀ (es : List DictEntry) {kv : List V} {ks : List D} {nks : List NestedKey}, Vals kv (es.map (·.key)) → Reps w K mg F kv ks → dKeys ks = some nks → es.map (·.hash) = nks.map (NestedKey.hash w) → (∀ k ∈ nks, ∀ l, k ≠ .tup l) →
    ∃ kvs : List (Option Key × Value), (∀ e ∈ es, ∃ l, (noneKind P w).is l e.key = true ∧ e.hash = (noneKind P w).hash l) ∧ Pairs (noneKind P w) es kvs ∧ kvs.map (fun x => nkKey x.1) = nks ∧ kvs.map (·.2) = es.map (·.val) ∧ kv = kvs.map (fun x => nkV x.1)
  | [], kv, ks, nks, hv, rk, hk, hh, tp => by
    cases hv
    cases rk
    have hk' : some ([] : List NestedKey) = some nks := hk
    cases hk'
    exact ⟨[], fun e h => (by cases h), .nil, rfl, rfl, rfl⟩
  | e :: es, kv, ks, nks, hv, rk, hk, hh, tp => by
    rw [List.map_cons] at hv
    cases hv with
    | @cons v u vs us r1 r2 =>
      cases rk with
      | @cons _ _ d ds h1 h2 =>
        obtain ⟨k, ks', e1, e2, rfl⟩ := dKeys_cons hk
        rw [List.map_cons, List.map_cons] at hh
        injection hh with hh1 hh2
        obtain ⟨l, rfl, hl⟩ := key_leaf h1 e1 (tp k (List.mem_cons_self ..))
        have hi : nkIs l e.key = true := leaf_is hl r1
        obtain ⟨kvs, q1, q2, q3, q4, q5⟩ := ents_L es r2 h2 e2 hh2 fun k hk => tp k (List.mem_cons_of_mem _ hk)
        refine ⟨(l, e.val) :: kvs, fun e' he => ?_, .cons hi rfl q2, by rw [List.map_cons, q3], by rw [List.map_cons, List.map_cons, q4], by rw [List.map_cons, ← q5, leafV_nk hl]⟩
        rcases List.mem_cons.mp he with rfl | he
        · exact ⟨l, hi, hh1.trans (nk_hash l)⟩
        · exact q1 e' he
/-- the kit's word of a dict with flat keys -/
theorem dicL_of {F H : Hp} {a : Addr} {es : Array DictEntry} {ep : Nat} {kv : List V} {ks : List D} {nks : List NestedKey} (s : Same F H) (e : H a = some (rawO a es ep)) (low : (a == sysModules) = false) (len : es.size ≤ sizeLine)
    (hv : Vals kv (es.toList.map (·.key))) (rk : Reps X.w X.K X.mg F kv ks) (hk : dKeys ks = some nks) (hh : es.toList.map (·.hash) = nks.map (NestedKey.hash X.w)) (nd : nks.Nodup) (tp : ∀ k ∈ nks, ∀ l, k ≠ .tup l) :
    ∃ kvs : List (Option Key × Value), DicL X H a kvs ∧ kvs.map (fun x => nkKey x.1) = nks ∧ kvs.map (·.2) = es.toList.map (·.val) ∧ kv = kvs.map (fun x => nkV x.1) := by
  obtain ⟨kvs, q1, q2, q3, q4, q5⟩ := ents_L (P := X.prog) (w := X.w) es.toList hv rk hk hh tp
  have hl : kvs.length = es.size := by
    have := congrArg List.length q4
    simpa using this
  refine ⟨kvs, ⟨⟨es, ep, e, fun e he => q1 e (Array.mem_toList_iff.mpr he), q2⟩, low, by omega, ?_⟩, q3, q4, q5⟩
  have : ((kvs.map (·.1)).map nkKey).Nodup := by
    rw [List.map_map]
    show (kvs.map fun x => nkKey x.1).Nodup
    rw [q3]
    exact nd
  exact List.Pairwise.of_map nkKey (fun a b h e => h (congrArg nkKey e)) this
/-- back from the kit's word -/
theorem pairs_back {P : Program} {w : World} {es : List DictEntry} {kvs : List (Option Key × Value)} (h : Pairs (noneKind P w) es kvs) (hk : ∀ e ∈ es, ∃ l, (noneKind P w).is l e.key = true ∧ e.hash = (noneKind P w).hash l) :
    Vals (kvs.map fun x => nkV x.1) (es.map (·.key)) ∧ es.map (·.hash) = (kvs.map fun x => nkKey x.1).map (NestedKey.hash w) ∧ es.map (·.val) = kvs.map (·.2) := by
  induction h with
  | nil => exact ⟨.nil, rfl, rfl⟩
  | @cons e kv es kvs h1 h2 _ ih =>
    obtain ⟨q1, q2, q3⟩ := ih fun e he => hk e (List.mem_cons_of_mem _ he)
    obtain ⟨l, hl, hh⟩ := hk e (List.mem_cons_self ..)
    have : l = kv.1 := (noneKind P w).inj _ _ _ hl h1
    subst this
    refine ⟨.cons (nkV_rel h1) q1, ?_, ?_⟩
    · simp only [List.map_cons, List.cons.injEq]
      exact ⟨hh.trans (nk_hash (P := P) kv.1).symm, q2⟩
    · simp only [List.map_cons, List.cons.injEq]
      exact ⟨h2, q3⟩
/-! {k: v, ..} with flat keys -/
theorem nk_rel {l : Option Key} {u : Value} (r : RelV (nkV l) u) : nkIs l u = true := by
  refine leaf_is (y := nkV l) ?_ r
  cases l with
  | none => rfl
  | some k => cases k <;> rfl
theorem carries_nk {P : Program} {w : World} : ∀ {kvs : List (Option Key × V)} {ws : List (Value × Value)}, VV (kvs.map fun kv => (nkV kv.1, kv.2)) ws → ∃ rs : List (Option Key × Value), Carries (noneKind P w) ws rs ∧ rs.map (·.1) = kvs.map (·.1) ∧ Vals (kvs.map (·.2)) (rs.map (·.2))
  | [], _, r => by rw [List.map_nil] at r; cases r; exact ⟨[], True.intro, rfl, .nil⟩
  | p :: kvs, _, r => by
    rw [List.map_cons] at r
    cases r with
    | @cons a b as bs h t =>
      obtain ⟨rs, c, q1, q2⟩ := carries_nk (P := P) (w := w) t
      obtain ⟨b1, b2⟩ := b
      exact ⟨(p.1, b2) :: rs, ⟨nk_rel h.1, rfl, c⟩, by rw [List.map_cons, List.map_cons, q1], .cons h.2 q2⟩
def tDispD (X : Cx) (trs : List (TE × TE)) : TE := fun σ H Q => ∀ p, H p = none → (p == sysModules) = false → tPairs trs σ (L2.upd H p (rawO p #[] 0)) fun ps H2 => H2 p = some (rawO p #[] 0) ∧ ∃ kvs : List (Option Key × V), ps = kvs.map (fun kv => (nkV kv.1, kv.2)) ∧
  ∀ (rs : List (Option Key × Value)) es ep, rs.map (·.1) = kvs.map (·.1) → Vals (kvs.map (·.2)) (rs.map (·.2)) → KeysOf (noneKind X.prog X.w) es → Pairs (noneKind X.prog X.w) es.toList (merged [] rs) → ((merged [] rs).map (·.1)).Nodup → Q (.ref p) (L2.upd H2 p (rawO p es ep))
theorem pe_dispD {pos : Pos} {keys : List (Option Expr)} {values : List Expr} {trs : List (TE × TE)} (h : PPs X pos keys values trs) (hall : keys.all (·.isSome) = true) (hl : keys.length = values.length) (h0 : keys ≠ [])
    (h15 : keys.length ≤ 15) : PE X (.Dict keys values pos) (tDispD X trs) := by
  refine ⟨fun pins s σ H Q I q => ?_⟩
  have hn := I.hok.fresh (Nat.le_refl s.heap.objs.size)
  have hlow : (s.heap.objs.size == sysModules) = false := (dt_empty (P := X.prog) (w := X.w) (H := L2.upd H s.heap.objs.size (.dT [])) s.heap I.big).2.1
  have I1 := I.laid (a := s.heap.objs.size) (o := rawO s.heap.objs.size #[] 0) (h' := s.heap.push { cls := .type "dict", data := .dict #[] }) (t' := s.toks) (fun _ _ q => Heap.get?_push_of_some _ q) (Nat.le_refl _)
    (rawO_ok ⟨_, Heap.get?_push_size _ rfl, ⟨rfl, rfl, rfl⟩, rfl⟩)
  refine wpAny_Dict_walk (knd := noneKind X.prog X.w) hall hl h0 h15 (thn (h.run pins _ σ _ _ I1 (q _ hn hlow)) fun ws s2 ⟨ps, H2, I2, rel, e, kvs, ep, q2⟩ => ?_)
  subst ep
  obtain ⟨rs, c, r1, r2⟩ := carries_nk (P := X.prog) (w := X.w) rel
  have d0 : DicL X H2 s.heap.objs.size [] := ⟨⟨#[], 0, e, fun e h => (by simp at h), .nil⟩, hlow, Nat.zero_le _, List.nodup_nil⟩
  refine ⟨rs, c, d0.of I2, fun h' dd' hs => ?_⟩
  obtain ⟨o, es, ep, ho, hc, hdt, hk, hp, nd⟩ := dd'
  exact ⟨.ref s.heap.objs.size, _, d_write I2 d0.mut hs ⟨o, ho⟩ (rawO_ok ⟨o, ho, hc, hdt⟩), rfl, q2 rs es ep r1 r2 hk hp nd⟩
/-- dict(d), flat keys -/
def rDictD (X : Cx) : List V → Hp → VK → Prop := fun vs H Q => ∃ a kvs, vs = [.ref a] ∧ DicL X H a kvs ∧ ∀ p es ep, H p = none → (p == sysModules) = false → KeysOf (noneKind X.prog X.w) es → Pairs (noneKind X.prog X.w) es.toList kvs → Q (.ref p) (L2.upd H p (rawO p es ep))
theorem cr_dictD : CallR X (.type "dict") (rDictD X) := by
  intro pins s σ H xs us Q I r q
  obtain ⟨a, kvs, rfl, hd, q⟩ := q
  obtain ⟨u, rfl, rx⟩ := vals1 r
  cases (show u = Value.ref a from rx)
  have dd := hd.of I
  refine kt_call_dict hd.low dd hd.len fun h' d' hs => ?_
  have hm : (s.heap.objs.size == sysModules) = false := beq_eq_false_iff_ne.mpr (Nat.ne_of_gt I.big)
  obtain ⟨o, es, ep, ho, hc, hdt, hk, hp, nd⟩ := d'
  exact ⟨.ref s.heap.objs.size, L2.upd H s.heap.objs.size (rawO s.heap.objs.size es ep), I.laid (t' := s.toks) (fun b u e => (hs.2 b (Nat.ne_of_lt (Heap.lt_size e))).trans (Heap.get?_push_of_some _ e)) (Nat.le_refl _)
    (rawO_ok ⟨o, ho, hc, hdt⟩), rfl, q _ es ep (I.hok.fresh (Nat.le_refl _)) hm hk hp⟩
/-! a store by the machine's own dictSet (comprehensions) -/
theorem d_dictSetL {pins : List (Addr × Obj)} {σ : L2.St} {H : Hp} {s : Shared} {E : Value → Shared → Prop} {D : Addr} {kvs : List (Option Key × Value)} {y : V} {l : Option Key} {v : V} {u r : Value} {Q : Unit → Shared → Prop} (I : Inv X pins σ H s) (hd : DicL X H D kvs)
    (hl : leafV y = some l) (ry : RelV y u) (rv : RelV v r) (h : ∀ s' es ep, Inv X pins σ (L2.upd H D (rawO D es ep)) s' → KeysOf (noneKind X.prog X.w) es → Pairs (noneKind X.prog X.w) es.toList (stored kvs l r) → Q () s') : wpAny (model X.prog X.w) X.A (dictSet D u r) Q E s := by
  refine wpAny_dictSet_pairs (knd := noneKind X.prog X.w) (hsz := hd.len) (leaf_is hl ry) (hd.of I) fun h' dd hs => ?_
  obtain ⟨o, es, ep, ho, hc, hdt, hk, hp, _⟩ := dd
  exact h _ es ep (d_write I hd.mut hs ⟨o, ho⟩ (rawO_ok ⟨o, ho, hc, hdt⟩)) hk hp
theorem d_dictSetT (hu : X.A.units + 8 < cLine) {pins : List (Addr × Obj)} {σ : L2.St} {H : Hp} {s : Shared} {E : Value → Shared → Prop} {D : Addr} {xs : List (NestedKey × Addr × Value)} {y : V} {ks : List NestedKey} {v : V} {u r : Value} {Q : Unit → Shared → Prop} (I : Inv X pins σ H s) (hd : DicT X H D xs)
    (hk : KeyV X H y (.tup ks)) (h8 : (NestedKey.tup ks).depth ≤ 8) (ry : RelV y u) (rv : RelV v r) (h : ∀ b s' es ep, y = .ref b → Inv X pins σ (L2.upd H D (rawO D es ep)) s' → es.toList = (storedH xs (.tup ks) b r).map (entOf X.w) → Q () s') : wpAny (model X.prog X.w) X.A (dictSet D u r) Q E s := by
  have k1 := hk.is I ry
  obtain ⟨b, rfl⟩ := tup_ref k1
  have hb : y = .ref b := by cases y <;> first | (cases ry <;> rfl) | (obtain ⟨_, z⟩ := ry; cases z)
  refine wpAny_dictSet_heap (knd := nestedKind X.prog X.w) (hsz := hd.len) hu ⟨k1, h8⟩ (hd.of I) fun h' dd hs => ?_
  obtain ⟨o, es, ep, ho, hc, hdt, he, _⟩ := dd
  exact h b _ es ep hb (d_write I hd.mut hs ⟨o, ho⟩ (rawO_ok ⟨o, ho, hc, hdt⟩)) he
end
/-! ### by places -/
section
variable {α β : Type} [DecidableEq α]
theorem find_idx (k : α) : ∀ l : List (α × β), (l.find? fun x => decide (x.1 = k)) = ((l.map (·.1)).findIdx? fun y => decide (y = k)).bind fun j => l[j]?
  | [] => rfl
  | x :: l => by
    rw [List.find?_cons, List.map_cons, List.findIdx?_cons]
    by_cases h : x.1 = k
    · simp [h]
    · simp only [decide_eq_false h, Bool.false_eq_true, if_false]
      rw [find_idx k l]
      cases (l.map (·.1)).findIdx? fun y => decide (y = k) <;> rfl
theorem map_put (k : α) (v : β) : ∀ (l : List (α × β)) (j : Nat), (l.map (·.1)).Nodup → ((l.map (·.1)).findIdx? fun y => decide (y = k)) = some j → (l.map fun x => if x.1 = k then (x.1, v) else x).map (·.2) = (l.map (·.2)).set j v
  | [], _, _, e => by simp at e
  | x :: l, j, nd, e => by
    rw [List.map_cons, List.nodup_cons] at nd
    rw [List.map_cons, List.findIdx?_cons] at e
    by_cases h : x.1 = k
    · simp only [decide_eq_true h, if_true, Option.some.injEq] at e
      subst e
      simp only [List.map_cons, h, if_true, List.set_cons_zero, List.cons.injEq, true_and]
      rw [List.map_map]
      refine List.map_congr_left fun y hy => ?_
      have : y.1 ≠ k := fun z => nd.1 (by rw [h, ← z]; exact List.mem_map_of_mem hy)
      simp [this]
    · simp only [decide_eq_false h, Bool.false_eq_true, if_false, Option.map_eq_some_iff] at e
      obtain ⟨i, e, rfl⟩ := e
      simp only [List.map_cons, h, if_false, List.set_cons_succ, List.cons.injEq, true_and]
      exact map_put k v l i nd.2 e
end
section
variable {α : Type} [DecidableEq α]
theorem atKey_idx (k : α) (xs : List (α × Addr × Value)) : atKey xs k = (((xs.map (·.1)).findIdx? fun y => decide (y = k)).bind fun j => xs[j]?).map (·.2) := by
  show (xs.find? fun x => decide (x.1 = k)).map (·.2) = _
  rw [find_idx k xs]
theorem valueAt_idx (k : α) (kvs : List (α × Value)) : valueAt kvs k = (((kvs.map (·.1)).findIdx? fun y => decide (y = k)).bind fun j => kvs[j]?).map (·.2) := by
  show (kvs.find? fun x => decide (x.1 = k)).map (·.2) = _
  rw [find_idx k kvs]
theorem find_some {k : α} {l : List α} {j : Nat} (e : (l.findIdx? fun y => decide (y = k)) = some j) : l[j]? = some k := by
  obtain ⟨h, h1, _⟩ := List.findIdx?_eq_some_iff_getElem.mp e
  rw [List.getElem?_eq_getElem h]
  exact congrArg some (of_decide_eq_true h1)
/-- a store under a new key -/
theorem storedH_new' {k : α} {xs : List (α × Addr × Value)} (b : Addr) (u : Value) (e : ((xs.map (·.1)).findIdx? fun y => decide (y = k)) = none) : storedH xs k b u = xs ++ [(k, b, u)] :=
  storedH_new (by rw [atKey_idx, e]; rfl) b u
/-- a store under a key that is there -/
theorem storedH_old {k : α} {xs : List (α × Addr × Value)} {j : Nat} (b : Addr) (u : Value) (nd : (xs.map (·.1)).Nodup) (e : ((xs.map (·.1)).findIdx? fun y => decide (y = k)) = some j) :
    (storedH xs k b u).map (·.1) = xs.map (·.1) ∧ (storedH xs k b u).map (·.2.1) = xs.map (·.2.1) ∧ (storedH xs k b u).map (·.2.2) = (xs.map (·.2.2)).set j u := by
  have hj := find_some e
  have hs : (atKey xs k).isSome = true := by
    rw [atKey_idx, e]
    rw [List.getElem?_map] at hj
    cases ex : xs[j]? with
    | none => rw [ex] at hj; cases hj
    | some x => simp [ex]
  have hst : storedH xs k b u = xs.map (putAt k u) := by unfold storedH; rw [if_pos hs]
  rw [hst]
  refine ⟨?_, ?_, ?_⟩
  · rw [List.map_map]; exact List.map_congr_left fun x _ => by show (putAt k u x).1 = x.1; unfold putAt; split <;> rfl
  · rw [List.map_map]; exact List.map_congr_left fun x _ => by show (putAt k u x).2.1 = x.2.1; unfold putAt; split <;> rfl
  · have := map_put k u (xs.map fun x => (x.1, x.2.2)) j (by rw [List.map_map]; exact nd) (by rw [List.map_map]; exact e)
    simp only [List.map_map] at this ⊢
    have e1 : (xs.map ((fun x : α × Addr × Value => x.2.2) ∘ putAt k u)) = xs.map ((fun x : α × Value => x.2) ∘ (fun x : α × Value => if x.1 = k then (x.1, u) else x) ∘ fun x : α × Addr × Value => (x.1, x.2.2)) := by
      refine List.map_congr_left fun x _ => ?_
      show (putAt k u x).2.2 = (if x.1 = k then (x.1, u) else (x.1, x.2.2)).2
      unfold putAt
      split <;> rfl
    rw [e1]
    exact this
theorem stored_new' {k : α} {kvs : List (α × Value)} (u : Value) (e : ((kvs.map (·.1)).findIdx? fun y => decide (y = k)) = none) : stored kvs k u = kvs ++ [(k, u)] := by
  have hn : kvs.any (fun kv => decide (kv.1 = k)) = false := by
    rw [List.any_eq_false]
    intro x hx
    have := List.findIdx?_eq_none_iff.mp e x.1 (List.mem_map_of_mem hx)
    simpa using this
  unfold stored
  rw [hn]
  rfl
theorem stored_old {k : α} {kvs : List (α × Value)} {j : Nat} (u : Value) (nd : (kvs.map (·.1)).Nodup) (e : ((kvs.map (·.1)).findIdx? fun y => decide (y = k)) = some j) :
    (stored kvs k u).map (·.1) = kvs.map (·.1) ∧ (stored kvs k u).map (·.2) = (kvs.map (·.2)).set j u := by
  have hj := find_some e
  have hs : kvs.any (fun kv => decide (kv.1 = k)) = true := by
    rw [List.getElem?_map] at hj
    cases ex : kvs[j]? with
    | none => rw [ex] at hj; cases hj
    | some x =>
      rw [ex] at hj
      exact List.any_eq_true.mpr ⟨x, List.mem_of_getElem? ex, by simpa using hj⟩
  have hst : stored kvs k u = kvs.map fun kv => if kv.1 = k then (kv.1, u) else kv := by unfold stored; rw [if_pos hs]
  rw [hst]
  refine ⟨?_, map_put k u kvs j nd e⟩
  rw [List.map_map]
  exact List.map_congr_left fun x _ => by
    show (if x.1 = k then (x.1, u) else x).1 = x.1
    split <;> rfl
end
/-! ### a dict of data -/
section
variable {X : Cx} {F H : Hp}
theorem keys_tup : ∀ {ks : List D} {nks : List NestedKey}, dKeys ks = some nks → ks.all tupOk = true → ∀ k ∈ nks, (∃ l, k = .tup l) ∧ k.depth ≤ 8
  | [], nks, h, _ => by
    have h' : some ([] : List NestedKey) = some nks := h
    cases h'
    exact fun k hk => by cases hk
  | d :: ds, nks, h, c => by
    obtain ⟨k, ks, e1, e2, rfl⟩ := dKeys_cons h
    rw [List.all_cons, Bool.and_eq_true] at c
    intro k' hk'
    rcases List.mem_cons.mp hk' with rfl | hk'
    · have c1 := c.1
      unfold tupOk at c1
      rw [e1] at c1
      cases k' <;> first | cases c1 | exact ⟨⟨_, rfl⟩, of_decide_eq_true c1⟩
    · exact keys_tup e2 c.2 k' hk'
theorem keys_flat : ∀ {ks : List D} {nks : List NestedKey}, dKeys ks = some nks → ks.all flatOk = true → ∀ k ∈ nks, ∀ l, k ≠ .tup l
  | [], nks, h, _ => by
    have h' : some ([] : List NestedKey) = some nks := h
    cases h'
    exact fun k hk => by cases hk
  | d :: ds, nks, h, c => by
    obtain ⟨k, ks, e1, e2, rfl⟩ := dKeys_cons h
    rw [List.all_cons, Bool.and_eq_true] at c
    intro k' hk'
    rcases List.mem_cons.mp hk' with rfl | hk'
    · have c1 := c.1
      unfold flatOk at c1
      rw [e1] at c1
      intro l e
      subst e
      cases c1
    · exact keys_flat e2 c.2 k' hk'
theorem dKeys_len : ∀ {ks : List D} {nks : List NestedKey}, dKeys ks = some nks → nks.length = ks.length
  | [], nks, h => by
    have h' : some ([] : List NestedKey) = some nks := h
    cases h'
    rfl
  | d :: ds, nks, h => by
    obtain ⟨k, ks, e1, e2, rfl⟩ := dKeys_cons h
    exact congrArg Nat.succ (dKeys_len e2)
theorem dct_T {a : Addr} {o : HO} {kv vv : List V} {ks : List D} {nks : List NestedKey} (s : Same F H) (e : H a = some o) (h : DctAt X.w o a kv vv nks) (hk : dKeys ks = some nks) (rk : Reps X.w X.K X.mg F kv ks) (c : ks.all tupOk = true) :
    ∃ xs : List (NestedKey × Addr × Value), DicT X H a xs ∧ xs.map (·.1) = nks ∧ Vals vv (xs.map (·.2.2)) ∧ kv = xs.map (fun x => V.ref x.2.1) := by
  obtain ⟨es, ep, rfl, low, len, hv, hw, hh, nd⟩ := h
  obtain ⟨xs, h1, h2, h3, h4⟩ := dicT_of s e low len hv rk hk hh nd (keys_tup hk c)
  exact ⟨xs, h1, h2, by rw [h3]; exact hw, h4⟩
theorem dct_L {a : Addr} {o : HO} {kv vv : List V} {ks : List D} {nks : List NestedKey} (s : Same F H) (e : H a = some o) (h : DctAt X.w o a kv vv nks) (hk : dKeys ks = some nks) (rk : Reps X.w X.K X.mg F kv ks) (c : ks.all flatOk = true) :
    ∃ kvs : List (Option Key × Value), DicL X H a kvs ∧ kvs.map (fun x => nkKey x.1) = nks ∧ Vals vv (kvs.map (·.2)) ∧ kv = kvs.map (fun x => nkV x.1) := by
  obtain ⟨es, ep, rfl, low, len, hv, hw, hh, nd⟩ := h
  obtain ⟨kvs, h1, h2, h3, h4⟩ := dicL_of s e low len hv rk hk hh nd (keys_flat hk c)
  exact ⟨kvs, h1, h2, by rw [h3]; exact hw, h4⟩
theorem atKey_find {k : NestedKey} {xs : List (NestedKey × Addr × Value)} {nks : List NestedKey} (h : xs.map (·.1) = nks) : (atKey xs k).map (·.2) = ((nks.findIdx? fun y => decide (y = k)).bind fun j => (xs.map (·.2.2))[j]?) := by
  rw [atKey_idx, h]
  cases (nks.findIdx? fun y => decide (y = k)) with
  | none => rfl
  | some j =>
    simp only [Option.bind_some, List.getElem?_map]
    cases xs[j]? <;> rfl
theorem valueAt_find {l : Option Key} {kvs : List (Option Key × Value)} {nks : List NestedKey} (h : kvs.map (fun x => nkKey x.1) = nks) : valueAt kvs l = ((nks.findIdx? fun y => decide (y = nkKey l)).bind fun j => (kvs.map (·.2))[j]?) := by
  have e : (kvs.map (·.1)).findIdx? (fun y => decide (y = l)) = nks.findIdx? fun y => decide (y = nkKey l) := by
    rw [← h]
    clear h
    induction kvs with
    | nil => rfl
    | cons x kvs ih =>
      rw [List.map_cons, List.map_cons, List.findIdx?_cons, List.findIdx?_cons, ih]
      have : decide (x.1 = l) = decide (nkKey x.1 = nkKey l) := decide_eq_decide.mpr ⟨fun z => by rw [z], nkKey_inj⟩
      rw [this]
  rw [valueAt_idx, e]
  cases (nks.findIdx? fun y => decide (y = nkKey l)) with
  | none => rfl
  | some j =>
    simp only [Option.bind_some, List.getElem?_map]
theorem dKey_flat {d : D} {k : NestedKey} (h : dKey d = some k) : d.heapy = false := by
  cases d <;> first | rfl | cases h
theorem dIdx_ex (ks : List D) (k : D) {c : Str} {ns : List Str} {ds : List D} : dIdx ks k ≠ .ex c ns ds := by
  unfold dIdx
  intro e
  split at e
  · cases h1 : dKeys ks <;> cases h2 : dKey k <;> rw [h1, h2] at e <;> cases e
  · cases e
/-- what a look finds -/
theorem dct_look {ks vs : List D} {x : D} {xv yv : V} {r : Option Nat} (s : Same F H) (ry : RelR X.w X.K X.mg F H yv (.dct ks vs)) (rx : RelR X.w X.K X.mg F H xv x) (e : dIdx ks x = .ok r) :
    ∃ a ro, yv = .ref a ∧ IsDic X H a ∧ AtD X H a xv ro ∧ (r = none → ro = none) ∧ ∀ j, r = some j → ∃ u v d, ro = some u ∧ RelV v u ∧ vs[j]? = some d ∧ Rep X.w X.K X.mg F v d := by
  obtain ⟨a, o, kv, vv, nks, rfl, h1, h2, h3, r1, r2⟩ := ry.dct s
  unfold dIdx at e
  rw [h3] at e
  cases ek : dKey x with
  | none =>
    rw [ek] at e
    split at e <;> cases e
  | some nk =>
    rw [ek] at e
    have rx' : Rep X.w X.K X.mg F xv x := by
      rcases rx with h | ⟨_, _, _, _, rfl, _⟩ | ⟨_, _, _, _, _, _, _, _, rfl, _⟩
      · exact h
      · cases ek
      · cases ek
    split at e
    rotate_left
    · cases e
    rename_i hc
    have er : (nks.findIdx? fun y => decide (y = nk)) = r := by
      have e' : (R.ok (nks.findIdx? fun y => decide (y = nk)) : R (Option Nat)) = .ok r := e
      exact R.ok.inj e'
    have vals : ∀ {us : List Value}, Vals vv us → us.length = nks.length → ∀ j, r = some j → ∃ u v d, us[j]? = some u ∧ RelV v u ∧ vs[j]? = some d ∧ Rep X.w X.K X.mg F v d := fun {us} hv hl j hj => by
      rw [← er] at hj
      have hjl : j < nks.length := (List.findIdx?_eq_some_iff_getElem.mp hj).1
      have hjv : j < vv.length := by rw [hv.length, hl]; exact hjl
      obtain ⟨u, e1, e2⟩ := hv.get (List.getElem?_eq_getElem hjv)
      obtain ⟨d, e3, e4⟩ := r2.get' (List.getElem?_eq_getElem hjv)
      exact ⟨u, _, d, e1, e2, e3, e4⟩
    rcases hc with hc | hc
    · rw [Bool.and_eq_true] at hc
      obtain ⟨kvs, d1, d2, d3, d4⟩ := dct_L s h1 h2 h3 r1 hc.1
      have nt : ∀ l, nk ≠ .tup l := fun l z => by
        have := hc.2
        unfold flatOk at this
        rw [ek, z] at this
        cases this
      obtain ⟨l, rfl, hl⟩ := key_leaf rx' ek nt
      have hv := valueAt_find (l := l) d2
      rw [er] at hv
      refine ⟨a, valueAt kvs l, rfl, .inr ⟨kvs, d1⟩, .inr ⟨kvs, l, d1, hl, rfl⟩, fun z => by rw [hv, z]; rfl, fun j hj => ?_⟩
      obtain ⟨u, v, d, q1, q2, q3, q4⟩ := vals d3 (by rw [← d2, List.length_map, List.length_map]) j hj
      exact ⟨u, v, d, by rw [hv, hj]; exact q1, q2, q3, q4⟩
    · rw [Bool.and_eq_true] at hc
      obtain ⟨xs, d1, d2, d3, d4⟩ := dct_T s h1 h2 h3 r1 hc.1
      have ht : ∃ l, nk = .tup l ∧ (NestedKey.tup l).depth ≤ 8 := by
        have := hc.2
        unfold tupOk at this
        rw [ek] at this
        cases nk <;> first | cases this | exact ⟨_, rfl, of_decide_eq_true this⟩
      obtain ⟨l, rfl, h8⟩ := ht
      have hv := atKey_find (k := .tup l) d2
      rw [er] at hv
      refine ⟨a, (atKey xs (.tup l)).map (·.2), rfl, .inl ⟨xs, d1⟩, .inl ⟨xs, l, d1, ⟨F, x, s, rx', ek⟩, h8, rfl⟩, fun z => by rw [hv, z]; rfl, fun j hj => ?_⟩
      obtain ⟨u, v, d, q1, q2, q3, q4⟩ := vals d3 (by rw [← d2, List.length_map, List.length_map]) j hj
      exact ⟨u, v, d, by rw [hv, hj]; exact q1, q2, q3, q4⟩
def rInD (X : Cx) (neg : Bool) : R2 := fun y x H Q => ∃ a r, x = .ref a ∧ AtD X H a y r ∧ Q (.bl (if neg then !r.isSome else r.isSome)) H
theorem op_inD (hu : X.A.units + 65 < cLine) : OpR X (compareOp .In) (rInD X false) := by
  intro pins s σ H y x v u Q I ry rx h
  obtain ⟨a, r, rfl, hr, q⟩ := h
  rcases hr with ⟨xs, ks, hd, hk, h8, rfl⟩ | ⟨kvs, l, hd, hk, rfl⟩
  · exact op_inT (by rw [Around.in1_units]; omega) pins s σ H y _ v u Q I ry rx ⟨a, xs, ks, rfl, hd, hk, h8, by simpa using q⟩
  · exact op_inL pins s σ H y _ v u Q I ry rx ⟨a, kvs, l, rfl, hd, hk, q⟩
theorem op_ninD (hu : X.A.units + 65 < cLine) : OpR X (compareOp .NotIn) (rInD X true) := by
  intro pins s σ H y x v u Q I ry rx h
  obtain ⟨a, r, rfl, hr, q⟩ := h
  rcases hr with ⟨xs, ks, hd, hk, h8, rfl⟩ | ⟨kvs, l, hd, hk, rfl⟩
  · exact op_ninT (by rw [Around.in1_units]; omega) pins s σ H y _ v u Q I ry rx ⟨a, xs, ks, rfl, hd, hk, h8, by simpa using q⟩
  · exact op_ninL pins s σ H y _ v u Q I ry rx ⟨a, kvs, l, rfl, hd, hk, q⟩
def rIxD (X : Cx) : R2 := fun x y H Q => ∃ a u v, x = .ref a ∧ AtD X H a y (some u) ∧ RelV v u ∧ Q v H
theorem ix_D (hu : X.A.units + 65 < cLine) : IxR X (rIxD X) := by
  intro value slice pins s σ H x y v u Q I rx ry h hs
  obtain ⟨a, w, z, rfl, hr, rz, q⟩ := h
  rcases hr with ⟨xs, ks, hd, hk, h8, hr⟩ | ⟨kvs, l, hd, hk, hr⟩
  · obtain ⟨⟨b, w'⟩, e1, e2⟩ := Option.map_eq_some_iff.mp hr.symm
    cases e2
    obtain rfl : v = Value.ref a := rx
    exact tail_any (hd.of I).typeIs slot_dict_getitem.lookup (op_ixT (by rw [Around.in1_units]; omega) pins s σ H (.ref a) y (.ref a) u Q I rfl ry ⟨a, xs, ks, b, w', z, rfl, hd, hk, h8, e1, rz, q⟩) hs
  · obtain rfl : v = Value.ref a := rx
    exact tail_any (hd.of I).mapOf.typeIs slot_dict_getitem.lookup (op_ixL pins s σ H (.ref a) y (.ref a) u Q I rfl ry ⟨a, kvs, l, w, z, rfl, hd, hk, hr.symm, rz, q⟩) hs
/-! a store -/
theorem findIdx_none {nks : List NestedKey} {nk : NestedKey} (h : (nks.findIdx? fun y => decide (y = nk)) = none) : nk ∉ nks := fun hm => by
  have := List.findIdx?_eq_none_iff.mp h nk hm
  simp at this
theorem nodup_snoc {nks : List NestedKey} {nk : NestedKey} (nd : nks.Nodup) (h : nk ∉ nks) : (nks ++ [nk]).Nodup := by
  rw [List.nodup_append]
  refine ⟨nd, List.nodup_cons.mpr ⟨by simp, List.nodup_nil⟩, fun a ha b hb => ?_⟩
  rw [List.mem_singleton] at hb
  subst hb
  exact fun e => h (e ▸ ha)
theorem keys_fst {w : World} (xs : List (NestedKey × Addr × Value)) : (xs.map (entOf w)).map (·.key) = xs.map (fun x => Value.ref x.2.1) ∧ (xs.map (entOf w)).map (·.val) = xs.map (·.2.2) ∧ (xs.map (entOf w)).map (·.hash) = (xs.map (·.1)).map (NestedKey.hash w) := by
  refine ⟨?_, ?_, ?_⟩ <;> rw [List.map_map] <;> (try rw [List.map_map]) <;> rfl
theorem refs_rel : ∀ (xs : List (NestedKey × Addr × Value)), Vals (xs.map fun x => V.ref x.2.1) (xs.map fun x => Value.ref x.2.1)
  | [] => .nil
  | _ :: xs => .cons rfl (refs_rel xs)
theorem dctT_put {a : Addr} {o : HO} {kv vv : List V} {nks : List NestedKey} {xs : List (NestedKey × Addr × Value)} {k : NestedKey} {b : Addr} {u : Value} {v : V} {es : Array DictEntry} {ep : Nat} (h : DctAt X.w o a kv vv nks) (d2 : xs.map (·.1) = nks) (d3 : Vals vv (xs.map (·.2.2))) (d4 : kv = xs.map (fun x => V.ref x.2.1)) (he : es.toList = (storedH xs k b u).map (entOf X.w)) (rv : RelV v u) :
    ((nks.findIdx? fun y => decide (y = k)) = none → nks.length < sizeLine → DctAt X.w (rawO a es ep) a (kv ++ [.ref b]) (vv ++ [v]) (nks ++ [k])) ∧ ∀ j, (nks.findIdx? fun y => decide (y = k)) = some j → DctAt X.w (rawO a es ep) a kv (vv.set j v) nks := by
  obtain ⟨es0, ep0, rfl, low, len0, hk0, _, _, nd⟩ := h
  have hsz : es.size = (storedH xs k b u).length := by rw [← Array.length_toList, he, List.length_map]
  obtain ⟨k1, k2, k3⟩ := keys_fst (w := X.w) (storedH xs k b u)
  have hxl : xs.length = nks.length := by rw [← d2, List.length_map]
  have hh0 : es0.size = nks.length := by
    have := hk0.length
    rw [d4] at this
    simp at this
    omega
  refine ⟨fun e hl => ?_, fun j e => ?_⟩
  · have e' := e
    rw [← d2] at e'
    have hs := storedH_new' (xs := xs) b u e'
    refine ⟨es, ep, rfl, low, ?_, ?_, ?_, ?_, nodup_snoc nd (findIdx_none e)⟩
    · rw [hsz, hs, List.length_append]; simp only [List.length_cons, List.length_nil]; omega
    · rw [he, k1, hs, List.map_append, d4]; exact (refs_rel xs).append (.cons rfl .nil)
    · rw [he, k2, hs, List.map_append]; exact d3.append (.cons rv .nil)
    · rw [he, k3, hs, List.map_append, d2]; rfl
  · have e' := e
    rw [← d2] at e'
    obtain ⟨q1, q2, q3⟩ := storedH_old (xs := xs) b u (by rw [d2]; exact nd) e'
    have hln : (storedH xs k b u).length = xs.length := by
      have := congrArg List.length q1
      simpa using this
    refine ⟨es, ep, rfl, low, ?_, ?_, ?_, ?_, nd⟩
    · rw [hsz, hln, hxl]
      have hz := hh0 ▸ len0
      exact hz
    · have e2 : (storedH xs k b u).map (fun x => Value.ref x.2.1) = xs.map fun x => Value.ref x.2.1 := by
        have := congrArg (List.map Value.ref) q2
        simpa [List.map_map, Function.comp_def] using this
      rw [he, k1, e2, d4]; exact refs_rel xs
    · rw [he, k2, q3]; exact Vals.set rv j d3
    · rw [he, k3, q1, d2]
theorem dctL_put {a : Addr} {o : HO} {kv vv : List V} {nks : List NestedKey} {kvs : List (Option Key × Value)} {l : Option Key} {i : V} {u : Value} {v : V} {es : Array DictEntry} {ep : Nat} (h : DctAt X.w o a kv vv nks) (d2 : kvs.map (fun x => nkKey x.1) = nks) (d3 : Vals vv (kvs.map (·.2))) (d4 : kv = kvs.map fun x => nkV x.1) (hi : leafV i = some l)
    (hk : KeysOf (noneKind X.prog X.w) es) (hp : Pairs (noneKind X.prog X.w) es.toList (stored kvs l u)) (rv : RelV v u) :
    ((nks.findIdx? fun y => decide (y = nkKey l)) = none → nks.length < sizeLine → DctAt X.w (rawO a es ep) a (kv ++ [i]) (vv ++ [v]) (nks ++ [nkKey l])) ∧ ∀ j, (nks.findIdx? fun y => decide (y = nkKey l)) = some j → DctAt X.w (rawO a es ep) a kv (vv.set j v) nks := by
  obtain ⟨es0, ep0, rfl, low, len0, hk0, _, _, nd⟩ := h
  obtain ⟨p1, p2, p3⟩ := pairs_back hp fun e he => hk e (Array.mem_toList_iff.mp he)
  have hsz : es.size = (stored kvs l u).length := by
    have := congrArg List.length p3
    simpa using this
  have hxl : kvs.length = nks.length := by rw [← d2, List.length_map]
  have hh0 : es0.size = nks.length := by
    have := hk0.length
    rw [d4] at this
    simp at this
    omega
  have nk : ∀ y : List (Option Key × Value), y.map (fun x => nkKey x.1) = (y.map (·.1)).map nkKey := fun y => by rw [List.map_map]; rfl
  have ef : (nks.findIdx? fun y => decide (y = nkKey l)) = (kvs.map (·.1)).findIdx? fun y => decide (y = l) := by
    rw [← d2]
    clear d2 d3 d4 hp p1 p2 p3 hsz hxl
    induction kvs with
    | nil => rfl
    | cons x kvs ih =>
      rw [List.map_cons, List.map_cons, List.findIdx?_cons, List.findIdx?_cons, ih]
      have : decide (x.1 = l) = decide (nkKey x.1 = nkKey l) := decide_eq_decide.mpr ⟨fun z => by rw [z], nkKey_inj⟩
      rw [this]
  refine ⟨fun e hl => ?_, fun j e => ?_⟩
  · have e' := e
    rw [ef] at e'
    have hs := stored_new' (kvs := kvs) u e'
    rw [hs] at p1 p2 p3 hsz
    refine ⟨es, ep, rfl, low, ?_, ?_, ?_, ?_, nodup_snoc nd (findIdx_none e)⟩
    · rw [hsz, List.length_append]; simp only [List.length_cons, List.length_nil]; omega
    · rw [List.map_append] at p1
      rw [d4, leafV_nk hi]
      exact p1
    · rw [p3, List.map_append]; exact d3.append (.cons rv .nil)
    · rw [p2, List.map_append, d2]; rfl
  · have e' := e
    rw [ef] at e'
    have ndk : (kvs.map (·.1)).Nodup := by
      rw [← d2, nk] at nd
      exact List.Pairwise.of_map nkKey (fun a b h e => h (congrArg nkKey e)) nd
    obtain ⟨q1, q2⟩ := stored_old (kvs := kvs) u ndk e'
    have hln : (stored kvs l u).length = kvs.length := by
      have := congrArg List.length q1
      simpa using this
    refine ⟨es, ep, rfl, low, ?_, ?_, ?_, ?_, nd⟩
    · rw [hsz, hln, hxl]
      have hz := hh0 ▸ len0
      exact hz
    · have : (stored kvs l u).map (fun x => nkV x.1) = kvs.map fun x => nkV x.1 := by
        have := congrArg (List.map nkV) q1
        simpa [List.map_map, Function.comp_def] using this
      rw [d4, ← this]; exact p1
    · rw [p3, q2]; exact Vals.set rv j d3
    · rw [p2, nk, q1, ← nk, d2]
end
end Dl

/-! DlC: rules of expressions. -/
namespace Dl
open PySem PySem.Spec PyProof.Rows L2

section
variable {X : Cx} {W : WX} {own : List Nat} {m : Md} {e : Expr} {f : SD → R D} {pos : Pos}

theorem ev_const {e : Expr} {v : V} {d : D} (p : PE X e (tC v)) (r : ∀ F, Rep X.w X.K X.mg F v d) (hd : d.heapy = false) : EV X W own .fresh e (fun _ => .ok d) :=
  ⟨_, p, fun H0 F H σ st s _ => At.pure s (RelM.keep' (r F) hd)⟩
theorem ev_int {i j} : EV X W own .fresh (.Constant (.int i) j pos) (fun _ => .ok (.int i)) := ev_const pe_int (fun _ => .int i) rfl
theorem ev_bl {b j} : EV X W own .fresh (.Constant (.bool b) j pos) (fun _ => .ok (.bl b)) := ev_const pe_bl (fun _ => .bl b) rfl
theorem ev_non {j} : EV X W own .fresh (.Constant .none j pos) (fun _ => .ok .non) := ev_const pe_non (fun _ => .non) rfl
theorem ev_str {x j} : EV X W own .fresh (.Constant (.str x) j pos) (fun _ => .ok (.str x)) := ev_const pe_str (fun _ => .str x) rfl

/-! ### names -/
def getSt (st : SD) (i : Nat) : R D := match st[i]? with
  | some (some d) => .ok d
  | _ => .un
theorem getSt_cases (st : SD) (i : Nat) : getSt st i = .un ∨ ∃ d, st[i]? = some (some d) ∧ getSt st i = .ok d := by
  unfold getSt
  cases hs : st[i]? with
  | none => exact .inl rfl
  | some o =>
    cases o with
    | none => exact .inl rfl
    | some d => exact .inr ⟨d, rfl, rfl⟩
theorem ev_var {i : Nat} {x : Str} (hN : X.N[i]? = some x) (hv : Vis X.env.scope x) (hd : (x == ("__debug__" : Str)) = false) (hcd : (x == ("__classdict__" : Str)) = false) (ho : i ∉ own) : EV X W own .keep (.Name x pos) (fun st => getSt st i) := by
  refine ⟨_, pe_var hN hv hd hcd, fun H0 F H σ st s r => ?_⟩
  show At _ _ _ W σ F H _ (getSt st i) _
  rcases getSt_cases st i with e | ⟨d, hs, e⟩
  · rw [e]; trivial
  · rw [e]
    obtain ⟨v, e1, h⟩ := r.val i d hs
    rcases h with ⟨hi, _⟩ | ⟨_, h⟩
    · exact absurd hi ho
    · exact fun Q hQ => ⟨v, e1, hQ v F H (Step.refl s) h⟩
theorem ev_varR {i : Nat} {x : Str} (hN : X.N[i]? = some x) (hv : Vis X.env.scope x) (hd : (x == ("__debug__" : Str)) = false) (hcd : (x == ("__classdict__" : Str)) = false) : EV X W own .read (.Name x pos) (fun st => getSt st i) := by
  refine ⟨_, pe_var hN hv hd hcd, fun H0 F H σ st s r => ?_⟩
  show At _ _ _ W σ F H _ (getSt st i) _
  rcases getSt_cases st i with e | ⟨d, hs, e⟩
  · rw [e]; trivial
  · rw [e]
    obtain ⟨v, e1, h⟩ := r.val i d hs
    refine fun Q hQ => ⟨v, e1, hQ v F H (Step.refl s) ?_⟩
    rcases h with ⟨_, h⟩ | ⟨_, h⟩
    · cases d with
      | lst ds => obtain ⟨p, xs, e2, h1, _, _, r2⟩ := h; exact .inr (.inl ⟨p, xs, ds, e2, rfl, h1, r2⟩)
      | dct ks vs => obtain ⟨p, o, kv, vv, nks, e2, h1, _, _, h4, h5, r1, r2⟩ := h; exact .inr (.inr ⟨p, o, kv, vv, nks, ks, vs, e2, rfl, h1, h4, h5, r1, r2⟩)
      | _ => exact .inl h
    · exact .inl h
/-- a module's constant -/
theorem ev_glob {x : Str} {v : V} {u : Value} {d : D} (hg : Gl X x) (hm : X.mg x = some u) (r : RelV v u) (hr : ∀ F, Rep X.w X.K X.mg F v d) (hd : (x == ("__debug__" : Str)) = false) : EV X W own .keep (.Name x pos) (fun _ => .ok d) :=
  ⟨_, pe_glob hg hm r hd, fun H0 F H σ st s _ => At.pure s (hr F)⟩

/-! ### operators -/
/-- by values: what r asks and g tells -/
def Leaf2 (X : Cx) (r : R2) (g : D → D → R D) : Prop :=
  ∀ (W : WX) (σ : L2.St) (F H : Hp) (x y : D) (v u : V), Same F H → RelR X.w X.K X.mg F H v x → RelR X.w X.K X.mg F H u y → At X.w X.K X.mg W σ F H (fun Q => r v u H Q) (g x y) (RelM X.w X.K X.mg .fresh H)
theorem At.fresh {w : World} {K : PySem.W.Frag} {mg : Str → Option Value} {σ : L2.St} {F H H0 : Hp} {T : (V → Hp → Prop) → Prop} {r : R D} (s : Same H0 H) (h : At w K mg W σ F H T r (RelM w K mg .fresh H)) : At w K mg W σ F H T r (RelM w K mg .fresh H0) :=
  h.weak fun b a F1 H1 s1 q => ⟨F1, s1, RelF.mono0 s q⟩
theorem ev_op2 {a b : Expr} {fa fb : SD → R D} {e : Expr} {r : R2} {g : D → D → R D} (mk : ∀ {ta tb : TE}, PE X a ta → PE X b tb → PE X e (tOp r ta tb)) (L : Leaf2 X r g) (ha : EV X W own .read a fa) (hb : EV X W own .read b fb) :
    EV X W own .fresh e (fun st => (fa st).bind fun x => (fb st).bind fun y => g x y) := by
  obtain ⟨ta, pa, qa⟩ := ha
  obtain ⟨tb, pb, qb⟩ := hb
  refine ⟨_, mk pa pb, fun H0 F H σ st s rl => ?_⟩
  show At X.w X.K X.mg W σ F H (fun Q => ta σ H fun v H1 => tb σ H1 fun u H2 => r v u H2 Q) ((fa st).bind fun x => (fb st).bind fun y => g x y) (RelM X.w X.K X.mg .fresh H)
  refine At.bind (qa H0 F H σ st s rl) fun v x F1 H1 s1 r1 => ?_
  refine At.bind (qb H0 F1 H1 σ st s1.fh (rl.step s1)) fun u y F2 H2 s2 r2 => ?_
  exact At.fresh (s1.hh.trans s2.hh) (L W σ F2 H2 x y v u s2.fh (RelR.step s2 r1) r2)
theorem ev_bin {a b : Expr} {fa fb : SD → R D} {op : Operator} {r : R2} {g : D → D → R D} (ho : OpR X (binaryOp op) r) (L : Leaf2 X r g) (ha : EV X W own .read a fa) (hb : EV X W own .read b fb) :
    EV X W own .fresh (.BinOp a op b pos) (fun st => (fa st).bind fun x => (fb st).bind fun y => g x y) := ev_op2 (fun p q => pe_op ho p q) L ha hb
theorem ev_cmp {a b : Expr} {fa fb : SD → R D} {op : CmpOp} {r : R2} {g : D → D → R D} (ho : OpR X (compareOp op) r) (hm : behindInMarks op b = false) (L : Leaf2 X r g) (ha : EV X W own .read a fa) (hb : EV X W own .read b fb) :
    EV X W own .fresh (.Compare a [op] [b] pos) (fun st => (fa st).bind fun x => (fb st).bind fun y => g x y) := ev_op2 (fun p q => pe_cmpR ho p q hm) L ha hb

section leaves
variable {r r' : R2} {g : D → D → R D}
/-- an answer that is no list -/
theorem at_flat {W : WX} {σ : L2.St} {F H H0 : Hp} {T : (V → Hp → Prop) → Prop} {v : V} {d : D} (s : Same F H) (h : ∀ Q, Q v H → T Q) (r : Rep X.w X.K X.mg F v d) (hd : d.heapy = false) : At X.w X.K X.mg W σ F H T (.ok d) (RelM X.w X.K X.mg m H0) :=
  fun Q hQ => h Q (hQ v F H (Step.refl s) (RelM.keep' r hd))
theorem leaf_add : Leaf2 X (fun x y H Q => ((rI0 fun i j => .int (i + j)) x y H Q) ∨ (∃ i j, x = .str i ∧ y = .str j ∧ i.length + j.length ≤ sizeLine ∧ Q (.str (i ++ j)) H) ∨
    (∃ l b xs zs, x = .ref l ∧ y = .ref b ∧ SqL X.K H l xs ∧ SqL X.K H b zs ∧ xs.length + zs.length ≤ sizeLine ∧ ∀ p, H p = none → Q (.ref p) (upd H p (.lst (xs ++ zs)))) ∨ rCatA X.K x y H Q) addD := by
  intro W σ F H x y v u s rx ry
  cases x with
  | int i =>
    cases y with
    | int j =>
      cases rx.int; cases ry.int
      exact at_flat s (fun Q q => .inl ⟨i, j, rfl, rfl, q⟩) (.int _) rfl
    | _ => trivial
  | str i =>
    cases y with
    | str j =>
      cases rx.str; cases ry.str
      show At _ _ _ W σ F H _ (if i.length + j.length ≤ 16777216 then .ok (D.str (i ++ j)) else .un) _
      split
      · rename_i hz
        exact at_flat s (fun Q q => .inr (.inl ⟨i, j, rfl, rfl, by rw [sizeLine_eq]; exact hz, q⟩)) (.str _) rfl
      · trivial
    | _ => trivial
  | lst ds =>
    cases y with
    | lst es =>
      obtain ⟨a, xs, rfl, h1, r1⟩ := rx.lst s
      obtain ⟨b, ys, rfl, h2, r2⟩ := ry.lst s
      show At _ _ _ W σ F H _ (if ds.length + es.length ≤ 16777216 then .ok (D.lst (ds ++ es)) else .un) _
      split
      · rename_i hz
        intro Q hQ
        refine .inr (.inr (.inl ⟨a, b, xs, ys, rfl, rfl, h1, h2, by rw [sizeLine_eq, r1.length, r2.length]; exact hz, fun p hp => ?_⟩))
        exact hQ _ F _ (Step.own s hp) ⟨p, _, rfl, upd_same, Same.none s hp, hp, r1.append r2⟩
      · trivial
    | _ => trivial
  | tup ds =>
    cases y with
    | tup es =>
      obtain ⟨a, xs, rfl, k1, h1, r1⟩ := rx.tup s
      obtain ⟨b, ys, rfl, k2, h2, r2⟩ := ry.tup s
      show At _ _ _ W σ F H _ (if ds.length + es.length ≤ 16777216 then .ok (D.tup (ds ++ es)) else .un) _
      split
      · rename_i hz
        intro Q hQ
        refine .inr (.inr (.inr ⟨a, b, xs, ys, rfl, rfl, h1, h2, by rw [sizeLine_eq, r1.length, r2.length]; exact hz, fun e => ?_, fun e1 e2 => ?_, fun e1 e2 p hp => ?_⟩))
        · have : ds = [] := r1.nil_iff.mp e
          subst this
          exact hQ _ F H (Step.refl s) (show Rep X.w X.K X.mg F (.ref b) (.tup ([] ++ es)) from .tup k2 r2)
        · have : es = [] := r2.nil_iff.mp e2
          subst this
          exact hQ _ F H (Step.refl s) (show Rep X.w X.K X.mg F (.ref a) (.tup (ds ++ [])) from by rw [List.append_nil]; exact .tup k1 r1)
        · exact hQ _ _ _ (Step.new s hp) (show Rep X.w X.K X.mg _ (.ref p) (.tup (ds ++ es)) from .tup (SqT.of upd_same) (Reps.mono (Step.new s hp).ff _ (r1.append r2)))
      · trivial
    | _ => trivial
  | _ => cases y <;> trivial
theorem leaf_i {C : Int → Int → Prop} {k : Int → Int → V} {g : D → D → R D} (h : ∀ i j, (∃ d, g (.int i) (.int j) = .ok d ∧ C i j ∧ (∀ F, Rep X.w X.K X.mg F (k i j) d) ∧ d.heapy = false) ∨ g (.int i) (.int j) = .un)
    (hn : ∀ x y, (∀ i j, x = .int i → y = .int j → False) → g x y = .un) : Leaf2 X (rI C k) g := by
  intro W σ F H x y v u s rx ry
  by_cases hx : ∃ i j, x = .int i ∧ y = .int j
  · obtain ⟨i, j, rfl, rfl⟩ := hx
    cases rx.int; cases ry.int
    rcases h i j with ⟨d, e, c, hr, hd⟩ | e
    · rw [e]
      exact at_flat s (fun Q q => ⟨i, j, rfl, rfl, c, q⟩) (hr F) hd
    · rw [e]; trivial
  · rw [hn x y fun i j e1 e2 => hx ⟨i, j, e1, e2⟩]; trivial
theorem leaf_i0 {k : Int → Int → V} {g : D → D → R D} (h : ∀ i j, ∃ d, g (.int i) (.int j) = .ok d ∧ (∀ F, Rep X.w X.K X.mg F (k i j) d) ∧ d.heapy = false)
    (hn : ∀ x y, (∀ i j, x = .int i → y = .int j → False) → g x y = .un) : Leaf2 X (rI0 k) g := by
  intro W σ F H x y v u s rx ry
  by_cases hx : ∃ i j, x = .int i ∧ y = .int j
  · obtain ⟨i, j, rfl, rfl⟩ := hx
    cases rx.int; cases ry.int
    obtain ⟨d, e, hr, hd⟩ := h i j
    rw [e]
    exact at_flat s (fun Q q => ⟨i, j, rfl, rfl, q⟩) (hr F) hd
  · rw [hn x y fun i j e1 e2 => hx ⟨i, j, e1, e2⟩]; trivial
theorem not_ints {g : D → D → R D} (h : ∀ x y, g x y = .un ∨ (∃ i j, x = .int i ∧ y = .int j)) : ∀ x y, (∀ i j, x = .int i → y = .int j → False) → g x y = .un := fun x y n => by
  rcases h x y with e | ⟨i, j, e1, e2⟩
  · exact e
  · exact (n i j e1 e2).elim
theorem leaf_sub : Leaf2 X (rI0 fun i j => .int (i - j)) subD := leaf_i0 (fun i j => ⟨_, rfl, fun _ => .int _, rfl⟩) (not_ints fun x y => by cases x <;> cases y <;> first | exact .inl rfl | exact .inr ⟨_, _, rfl, rfl⟩)
theorem leaf_bor : Leaf2 X (rI0 fun i j => .int (Builtin.bitOr i j)) borD := leaf_i0 (fun i j => ⟨_, rfl, fun _ => .int _, rfl⟩) (not_ints fun x y => by cases x <;> cases y <;> first | exact .inl rfl | exact .inr ⟨_, _, rfl, rfl⟩)
theorem leaf_band : Leaf2 X (rI0 fun i j => .int (Builtin.bitAnd i j)) bandD := leaf_i0 (fun i j => ⟨_, rfl, fun _ => .int _, rfl⟩) (not_ints fun x y => by cases x <;> cases y <;> first | exact .inl rfl | exact .inr ⟨_, _, rfl, rfl⟩)
theorem leaf_bxor : Leaf2 X (rI0 fun i j => .int (Builtin.bitXor i j)) bxorD := leaf_i0 (fun i j => ⟨_, rfl, fun _ => .int _, rfl⟩) (not_ints fun x y => by cases x <;> cases y <;> first | exact .inl rfl | exact .inr ⟨_, _, rfl, rfl⟩)
theorem leaf_fdiv : Leaf2 X (rI CDivW fun i j => .int (i / j)) fdivD := leaf_i (fun i j => by
  by_cases h : 0 < j ∧ j.natAbs.log2 < 9000
  · exact .inl ⟨.int (i / j), if_pos h, h, fun _ => .int _, rfl⟩
  · exact .inr (if_neg h)) (not_ints fun x y => by cases x <;> cases y <;> first | exact .inl rfl | exact .inr ⟨_, _, rfl, rfl⟩)
theorem leaf_mod : Leaf2 X (rI (fun _ j => 0 < j) fun i j => .int (i % j)) modD := leaf_i (fun i j => by
  by_cases h : 0 < j
  · exact .inl ⟨.int (i % j), if_pos h, h, fun _ => .int _, rfl⟩
  · exact .inr (if_neg h)) (not_ints fun x y => by cases x <;> cases y <;> first | exact .inl rfl | exact .inr ⟨_, _, rfl, rfl⟩)
theorem leaf_pow : Leaf2 X (rI CPow fun i j => .int (i ^ j.toNat)) powD := leaf_i (fun i j => by
  by_cases h : 0 ≤ j ∧ j ≤ 1000000 ∧ i.natAbs < 2 ^ 64
  · exact .inl ⟨.int (i ^ j.toNat), if_pos h, h, fun _ => .int _, rfl⟩
  · exact .inr (if_neg h)) (not_ints fun x y => by cases x <;> cases y <;> first | exact .inl rfl | exact .inr ⟨_, _, rfl, rfl⟩)
theorem leaf_shl : Leaf2 X (rI CPow fun i j => .int (i * 2 ^ j.toNat)) shlD := leaf_i (fun i j => by
  by_cases h : 0 ≤ j ∧ j ≤ 1000000 ∧ i.natAbs < 2 ^ 64
  · exact .inl ⟨.int (i * 2 ^ j.toNat), if_pos h, h, fun _ => .int _, rfl⟩
  · exact .inr (if_neg h)) (not_ints fun x y => by cases x <;> cases y <;> first | exact .inl rfl | exact .inr ⟨_, _, rfl, rfl⟩)
theorem leaf_le : Leaf2 X (rI0 fun i j => .bl (decide (i ≤ j))) leD := leaf_i0 (fun i j => ⟨_, rfl, fun _ => .bl _, rfl⟩) (not_ints fun x y => by cases x <;> cases y <;> first | exact .inl rfl | exact .inr ⟨_, _, rfl, rfl⟩)
theorem leaf_gt : Leaf2 X (rI0 fun i j => .bl (decide (j < i))) gtD := leaf_i0 (fun i j => ⟨_, rfl, fun _ => .bl _, rfl⟩) (not_ints fun x y => by cases x <;> cases y <;> first | exact .inl rfl | exact .inr ⟨_, _, rfl, rfl⟩)
theorem leaf_ge : Leaf2 X (rI0 fun i j => .bl (decide (j ≤ i))) geD := leaf_i0 (fun i j => ⟨_, rfl, fun _ => .bl _, rfl⟩) (not_ints fun x y => by cases x <;> cases y <;> first | exact .inl rfl | exact .inr ⟨_, _, rfl, rfl⟩)
theorem leaf_lt : Leaf2 X (fun x y H Q => (rI0 fun i j => .bl (decide (i < j))) x y H Q ∨ ∃ i j, x = .str i ∧ y = .str j ∧ Q (.bl (decide (i.cps.toList < j.cps.toList))) H) ltD := by
  intro W σ F H x y v u s rx ry
  cases x with
  | int i =>
    cases y with
    | int j =>
      cases rx.int; cases ry.int
      exact at_flat s (fun Q q => .inl ⟨i, j, rfl, rfl, q⟩) (.bl _) rfl
    | _ => trivial
  | str i =>
    cases y with
    | str j =>
      cases rx.str; cases ry.str
      exact at_flat s (fun Q q => .inr ⟨i, j, rfl, rfl, q⟩) (.bl _) rfl
    | _ => trivial
  | _ => cases y <;> trivial
theorem D.okQ_cases {a b : D} (h : D.okQ a b = true) : (a.okE = true ∧ b.okE = true) ∨ ∃ x y, a = .str x ∧ b = .str y := by
  unfold D.okQ at h
  rw [Bool.or_eq_true, Bool.and_eq_true] at h
  rcases h with h | h
  · exact .inl h
  · cases a <;> cases b <;> first | exact .inr ⟨_, _, rfl, rfl⟩ | cases h
theorem eqv_strs {i j : Str} : D.eqv (.str i) (.str j) = decide (V.str i = V.str j) := by
  rw [dec_str]
  show PyData.eqv (.str i) (.str j) = _
  simp only [PyData.eqv]
theorem leaf_eq : Leaf2 X (fun x y H Q => rEqD X.K x y H Q ∨ rEq x y H Q) eqD := by
  intro W σ F H x y v u s rx ry
  unfold eqD
  split
  · rename_i h
    rcases D.okQ_cases h with h | ⟨i, j, rfl, rfl⟩
    · obtain ⟨p1, s1⟩ := D.okE_shaped h.1
      obtain ⟨p2, s2⟩ := D.okE_shaped h.2
      exact at_flat s (fun Q q => .inl ⟨x.py, y.py, rx.dp s p1, ry.dp s p2, s1, s2, q⟩) (.bl _) rfl
    · cases rx.str; cases ry.str
      rw [eqv_strs]
      exact at_flat s (fun Q q => .inr ⟨rfl, q⟩) (.bl _) rfl
  · trivial
theorem leaf_ne : Leaf2 X (fun x y H Q => rNeD X.K x y H Q ∨ rNe x y H Q) neD := by
  intro W σ F H x y v u s rx ry
  unfold neD
  split
  · rename_i h
    rcases D.okQ_cases h with h | ⟨i, j, rfl, rfl⟩
    · obtain ⟨p1, s1⟩ := D.okE_shaped h.1
      obtain ⟨p2, s2⟩ := D.okE_shaped h.2
      exact at_flat s (fun Q q => .inl ⟨x.py, y.py, rx.dp s p1, ry.dp s p2, s1, s2, q⟩) (.bl _) rfl
    · cases rx.str; cases ry.str
      rw [eqv_strs]
      exact at_flat s (fun Q q => .inr ⟨rfl, q⟩) (.bl _) rfl
  · trivial
end leaves

/-! ### list + list of any lists -/
theorem op_catS : OpR X (binaryOp .Add) (fun x y H Q => ∃ l b xs zs, x = .ref l ∧ y = .ref b ∧ SqL X.K H l xs ∧ SqL X.K H b zs ∧ xs.length + zs.length ≤ sizeLine ∧ ∀ p, H p = none → Q (.ref p) (upd H p (.lst (xs ++ zs)))) := by
  intro pins s σ H x y v u Q I rx ry h
  obtain ⟨l, b, xs, zs, rfl, rfl, hl, hb, hz, q⟩ := h
  cases rx
  cases ry
  obtain ⟨its, r, pl, _⟩ := I.list hl
  obtain ⟨its2, r2, pl2, _⟩ := I.list hb
  obtain ⟨⟨cls, dd, data, sl⟩, n, ho, hc, _, hd⟩ := pl
  obtain ⟨⟨cls2, dd2, data2, sl2⟩, n2, ho2, hc2, _, hd2⟩ := pl2
  simp only at hc hd hc2 hd2
  subst hc hd hc2 hd2
  have hn := r.length
  have hn2 := r2.length
  have ea : its.toArray ++ its2.toArray = (its ++ its2).toArray := by simp
  refine concat_meets ⟨_, ho, rfl⟩ ⟨_, ho2, rfl⟩ noFill_list_add seq_list_add PySem.F.slot_list_add PySem.F.entry_list_add (PySem.F.args_list_add_2 _ _) (list_addW l b its.toArray its2.toArray n n2 dd dd2 sl sl2 (by simp only [List.size_toArray]; omega)) ⟨ho, ho2, ?_⟩
  rw [ea]
  exact ⟨.ref _, _, I.lnew (t' := s.toks) (r.append r2) (by rw [List.length_append]; omega), rfl, q _ I.fresh⟩
theorem op_addAll : OpR X (binaryOp .Add) (fun x y H Q => ((rI0 fun i j => .int (i + j)) x y H Q) ∨ (∃ i j, x = .str i ∧ y = .str j ∧ i.length + j.length ≤ sizeLine ∧ Q (.str (i ++ j)) H) ∨
    (∃ l b xs zs, x = .ref l ∧ y = .ref b ∧ SqL X.K H l xs ∧ SqL X.K H b zs ∧ xs.length + zs.length ≤ sizeLine ∧ ∀ p, H p = none → Q (.ref p) (upd H p (.lst (xs ++ zs)))) ∨ rCatA X.K x y H Q) := op_add.or (op_add_str.or (op_catS.or op_catA))
theorem ev_add {a b : Expr} {fa fb : SD → R D} (ha : EV X W own .read a fa) (hb : EV X W own .read b fb) : EV X W own .fresh (.BinOp a .Add b pos) (fun st => (fa st).bind fun x => (fb st).bind fun y => addD x y) := ev_bin op_addAll leaf_add ha hb

/-! ### `*` -/
theorem op_mulAll : OpR X (binaryOp .Mult) (fun x y H Q => (rI CMulW fun i j => .int (i * j)) x y H Q ∨ rRepT X.K x y H Q) := op_mulW.or op_repT
theorem leaf_mul : Leaf2 X (fun x y H Q => (rI CMulW fun i j => .int (i * j)) x y H Q ∨ rRepT X.K x y H Q) mulD := by
  intro W σ F H x y v u s rx ry
  cases x with
  | int i =>
    cases y with
    | int j =>
      cases rx.int; cases ry.int
      show At _ _ _ W σ F H _ (if i.natAbs.log2 + j.natAbs.log2 < 1000000 then .ok (D.int (i * j)) else .un) _
      split
      · rename_i hz
        exact at_flat s (fun Q q => .inl ⟨i, j, rfl, rfl, hz, q⟩) (.int _) rfl
      · trivial
    | _ => trivial
  | tup ds =>
    cases y with
    | int j =>
      obtain ⟨a, xs, rfl, k1, h1, r1⟩ := rx.tup s
      cases ry.int
      show At _ _ _ W σ F H _ (if ds.isEmpty = false ∧ 2 ≤ j ∧ j ≤ 1000 ∧ ds.length ≤ 1000 then .ok (D.tup (List.replicate j.toNat ds).flatten) else .un) _
      split
      · rename_i hz
        intro Q hQ
        refine .inr ⟨a, j, xs, rfl, rfl, h1, fun e => ?_, hz.2.1, hz.2.2.1, by rw [r1.length]; exact hz.2.2.2, fun p hp => ?_⟩
        · have := r1.nil_iff.mp e
          subst this
          simp at hz
        · exact hQ _ _ _ (Step.new s hp) (show Rep X.w X.K X.mg _ (.ref p) (.tup _) from .tup (SqT.of upd_same) (Reps.mono (Step.new s hp).ff _ (r1.rep _)))
      · trivial
    | _ => trivial
  | _ => cases y <;> trivial
theorem ev_mul {a b : Expr} {fa fb : SD → R D} (ha : EV X W own .read a fa) (hb : EV X W own .read b fb) : EV X W own .fresh (.BinOp a .Mult b pos) (fun st => (fa st).bind fun x => (fb st).bind fun y => mulD x y) := ev_bin op_mulAll leaf_mul ha hb
theorem list_mulW (l : Addr) (items : Array Value) (n : Nat) (dd : Option Addr) (sl : Array (Option Value)) (x : Int) (u : Tok) (hc0 : ¬(!Builtin.List.listFitsIndex x) = true) (hc1 : ¬items.size * x.toNat > (2 ^ 63 - 1) / 8) (hc2 : ¬Builtin.List.listTooLong (items.size * x.toNat) = true) :
    Meets (Builtin.«list.__mul__» ⟨[.ref l, .int x u], []⟩) (fun _ R s => s.heap.get? l = some { cls := .type "list", dict := dd, data := .seq items n, slots := sl } ∧ R (.ok (.ret (Value.ref s.heap.objs.size))) { s with heap := s.heap.push { cls := Value.type "list", data := Data.seq (List.foldl (fun x1 x2 => x1 ++ x2) #[] (List.replicate (if items.isEmpty = true then 0 else x.toNat) items)) }, toks := s.toks }) :=
  .of_wp fun prog w A R s h => by
    obtain ⟨hp, g, d, tk, os⟩ := s; obtain ⟨hl, h⟩ := h
    have hsz := PySem.AutoListH.joined_fits hc2
    wp_walk; refine wpAny_ite_false (decide_eq_false (Nat.not_lt.mpr hsz)) ?_; wp_walk; exact ⟨_, rfl, h⟩
theorem int_rmulW (a : Int) (t : Tok) (l : Addr) (items : Array Value) (n : Nat) (dd : Option Addr) (sl : Array (Option Value)) :
    Meets (Builtin.«int.__rmul__» ⟨[.int a t, .ref l], []⟩) (fun _ R s => s.heap.get? l = some { cls := .type "list", dict := dd, data := .seq items n, slots := sl } ∧ R (.ok (.ret Value.notImplemented)) s) :=
  .of_wp fun prog w A R s h => by obtain ⟨hp, g, d, tk, os⟩ := s; obtain ⟨hl, h⟩ := h; wp_walk; exact ⟨_, rfl, h⟩
/-- list * int, of a list that is only read -/
def rRepL (K : PySem.W.Frag) : R2 := fun x y H Q => ∃ l k xs, x = .ref l ∧ y = .int k ∧ SqL K H l xs ∧ -(2 ^ 63) ≤ k ∧ k < 2 ^ 63 ∧ xs.length * k.toNat ≤ sizeLine ∧
  ∀ p, H p = none → Q (.ref p) (upd H p (.lst (List.replicate k.toNat xs).flatten))
theorem op_repL : OpR X (binaryOp .Mult) (rRepL X.K) := by
  intro pins s σ H x y v u Q I rx ry h
  obtain ⟨l, k, xs, rfl, rfl, hH, h1, h2, hz, q⟩ := h
  cases rx
  obtain ⟨t, rfl⟩ := ry
  obtain ⟨its, r, ⟨⟨cls, dd, data, sl⟩, n, e, hc, _, hd⟩, hl⟩ := I.list hH
  simp only at hc hd
  subst hc hd
  have hlen : its.toArray.size * k.toNat ≤ sizeLine := by rw [List.size_toArray, ← r.length]; exact hz
  have hcap : ¬ its.toArray.size * k.toNat > (2 ^ 63 - 1) / 8 := by
    have : (sizeLine : Nat) ≤ (2 ^ 63 - 1) / 8 := by decide
    omega
  have hfit : ¬ (!Builtin.List.listFitsIndex k) = true := by
    rw [fitsIndex_both h1 h2]
    exact Bool.false_ne_true
  have hlong : ¬ Builtin.List.listTooLong (its.toArray.size * k.toNat) = true := by
    rw [notLongL hlen]
    exact Bool.false_ne_true
  have hnew : List.foldl (fun x1 x2 => x1 ++ x2) #[] (List.replicate (if its.toArray.isEmpty = true then 0 else k.toNat) its.toArray) = (List.replicate k.toNat its).flatten.toArray := by
    have f0 : ∀ m : Nat, List.foldl (fun x1 x2 => x1 ++ x2) #[] (List.replicate m its.toArray) = (List.replicate m its).flatten.toArray := fun m => by
      have := foldl_rep its m []
      rw [List.nil_append] at this
      exact this
    rw [f0]
    cases its with
    | nil => simp
    | cons a r' => rw [if_neg (by simp)]
  refine wpAny_binaryOp_repeat_ref (T := "list") (U := "int") (by decide) ⟨_, e, rfl⟩ (fun s' => typeIs_int s' k t) noFill_list_mul F.fills_int_mul F.slot_int_rmul repeat_list F.slot_int_index.lookup
    (call_meets F.slot_int_rmul (typeIs_int s k t) F.entry_int_rmul (F.args_int_rmul_2 _ _) (int_rmulW k t l its.toArray n dd sl)
      ⟨e, rfl, ⟨_, e, rfl⟩, call_meets F.slot_list_mul ⟨_, e, rfl⟩ F.entry_list_mul (F.args_list_mul_2 _ _) (list_mulW l its.toArray n dd sl k t hfit hcap hlong) ⟨e, ?_⟩⟩)
  rw [hnew]
  exact ⟨.ref _, _, I.lnew (t' := s.toks) (r.rep k.toNat) (by rw [PyProof.Rows.lm_len_rep_flat, Nat.mul_comm]; exact hz), rfl, q _ I.fresh⟩
theorem ev_rep {a b : Expr} {fa fb : SD → R D} (ha : EV X W own .read a fa) (hb : EV X W own .read b fb) : EV X W own .fresh (.BinOp a .Mult b pos) (fun st => (fa st).bind fun x => (fb st).bind fun y => repD x y) := by
  obtain ⟨ta, pa, qa⟩ := ha
  obtain ⟨tb, pb, qb⟩ := hb
  refine ⟨_, pe_op op_repL pa pb, fun H0 F H σ st s rl => ?_⟩
  show At X.w X.K X.mg W σ F H (fun Q => ta σ H fun v H1 => tb σ H1 fun u H2 => rRepL X.K v u H2 Q) ((fa st).bind fun x => (fb st).bind fun y => repD x y) (RelM X.w X.K X.mg .fresh H)
  refine At.bind (U := fun v H1 Q => tb σ H1 fun u H2 => rRepL X.K v u H2 Q) (qa H0 F H σ st s rl) fun v x F1 H1 s1 r1 => ?_
  refine At.bind (U := fun u H2 Q => rRepL X.K v u H2 Q) (qb H0 F1 H1 σ st s1.fh (rl.step s1)) fun u y F2 H2 s2 r2 => ?_
  cases x with
  | lst ds =>
    cases y with
    | int k =>
      obtain ⟨p, xs, rfl, h1, r3⟩ := RelR.lst s2.fh (RelR.step s2 r1)
      cases r2.int
      show At _ _ _ W σ F2 H2 _ (if -(2 ^ 63) ≤ k ∧ k < 2 ^ 63 ∧ ds.length * k.toNat ≤ 16777216 then .ok (D.lst (List.replicate k.toNat ds).flatten) else .un) _
      split
      · rename_i hz
        intro Q hQ
        refine ⟨p, k, xs, rfl, rfl, h1, hz.1, hz.2.1, by rw [sizeLine_eq, r3.length]; exact hz.2.2, fun q hq => ?_⟩
        exact hQ _ F2 _ (Step.own s2.fh hq) ⟨q, _, rfl, upd_same, Same.none s2.fh hq, (s1.hh.trans s2.hh).free hq, r3.rep _⟩
      · trivial
    | _ => trivial
  | _ => cases y <;> trivial
end
end Dl

/-! DlD: rules of expressions: tests, displays, items, built-ins, calls. -/
namespace Dl
open PySem PySem.Spec PyProof.Rows L2

section
variable {X : Cx} {W : WX} {own : List Nat} {m : Md} {e : Expr} {f : SD → R D} {pos : Pos}

/-! ### is -/
theorem op_isC (b : Bool) : OpR X (compareOp .Is) (fun x y H Q => y = .bl b ∧ Q (.bl (decide (x = .bl b))) H) := by
  intro pins s σ H x y v u Q I rx ry h
  obtain ⟨rfl, q⟩ := h
  cases (show u = Value.bool b from ry)
  cases x with
  | bl c =>
    cases (show v = Value.bool c from rx)
    exact wpAny_is_plain rfl (fin_bl I q (by cases b <;> cases c <;> rfl))
  | non => cases rx; exact wpAny_is_plain rfl (fin_bl I q rfl)
  | ref a => cases rx; exact wpAny_is_plain rfl (fin_bl I q rfl)
  | ty n => cases rx; exact wpAny_is_plain rfl (fin_bl I q rfl)
  | int i => obtain ⟨t, rfl⟩ := rx; exact wpAny_is_plain rfl (fin_bl I q rfl)
  | str i => obtain ⟨t, rfl⟩ := rx; exact wpAny_is_plain rfl (fin_bl I q rfl)
  | byt i => obtain ⟨t, rfl⟩ := rx; exact wpAny_is_plain rfl (fin_bl I q rfl)
  | flt i => obtain ⟨t, rfl⟩ := rx; exact wpAny_is_plain rfl (fin_bl I q rfl)
theorem op_isntC (b : Bool) : OpR X (compareOp .IsNot) (fun x y H Q => y = .bl b ∧ Q (.bl (!decide (x = .bl b))) H) := by
  intro pins s σ H x y v u Q I rx ry h
  obtain ⟨rfl, q⟩ := h
  cases (show u = Value.bool b from ry)
  cases x with
  | bl c =>
    cases (show v = Value.bool c from rx)
    exact wpAny_isNot_plain rfl (fin_bl I q (by cases b <;> cases c <;> rfl))
  | non => cases rx; exact wpAny_isNot_plain rfl (fin_bl I q rfl)
  | ref a => cases rx; exact wpAny_isNot_plain rfl (fin_bl I q rfl)
  | ty n => cases rx; exact wpAny_isNot_plain rfl (fin_bl I q rfl)
  | int i => obtain ⟨t, rfl⟩ := rx; exact wpAny_isNot_plain rfl (fin_bl I q rfl)
  | str i => obtain ⟨t, rfl⟩ := rx; exact wpAny_isNot_plain rfl (fin_bl I q rfl)
  | byt i => obtain ⟨t, rfl⟩ := rx; exact wpAny_isNot_plain rfl (fin_bl I q rfl)
  | flt i => obtain ⟨t, rfl⟩ := rx; exact wpAny_isNot_plain rfl (fin_bl I q rfl)
/-- the V of a datum that is no reference -/
theorem RelR.notBl {w : World} {K : PySem.W.Frag} {mg : Str → Option Value} {F H : Hp} {v : V} {d : D} (h : RelR w K mg F H v d) : (∃ b, d = .bl b ∧ v = .bl b) ∨ ((∀ b, d ≠ .bl b) ∧ ∀ b, v ≠ .bl b) := by
  rcases h with h | ⟨p, xs, ds, rfl, rfl, _⟩ | ⟨_, _, _, _, _, _, _, rfl, rfl, _⟩
  · cases h <;> first | exact .inl ⟨_, rfl, rfl⟩ | exact .inr ⟨(fun _ z => nomatch z), (fun _ z => nomatch z)⟩
  · exact .inr ⟨(fun _ z => nomatch z), (fun _ z => nomatch z)⟩
  · exact .inr ⟨(fun _ z => nomatch z), (fun _ z => nomatch z)⟩
theorem RelR.notNon {w : World} {K : PySem.W.Frag} {mg : Str → Option Value} {F H : Hp} {v : V} {d : D} (h : RelR w K mg F H v d) : (d = .non ∧ v = .non) ∨ (d ≠ .non ∧ v ≠ .non) := by
  rcases h with h | ⟨p, xs, ds, rfl, rfl, _⟩ | ⟨_, _, _, _, _, _, _, rfl, rfl, _⟩
  · cases h <;> first | exact .inl ⟨rfl, rfl⟩ | exact .inr ⟨(fun z => nomatch z), (fun z => nomatch z)⟩
  · exact .inr ⟨(fun z => nomatch z), (fun z => nomatch z)⟩
  · exact .inr ⟨(fun z => nomatch z), (fun z => nomatch z)⟩
/-- one operand -/
def Leaf1 (X : Cx) (r : V → Hp → VK → Prop) (g : D → R D) : Prop :=
  ∀ (W : WX) (σ : L2.St) (F H : Hp) (x : D) (v : V), Same F H → RelR X.w X.K X.mg F H v x → At X.w X.K X.mg W σ F H (fun Q => r v H Q) (g x) (RelM X.w X.K X.mg .fresh H)
theorem ev_op1 {a : Expr} {fa : SD → R D} {e : Expr} {r : V → Hp → VK → Prop} {g : D → R D} (mk : ∀ {ta : TE}, PE X a ta → PE X e (fun σ H Q => ta σ H fun v H1 => r v H1 Q)) (L : Leaf1 X r g) (ha : EV X W own .read a fa) :
    EV X W own .fresh e (fun st => (fa st).bind fun x => g x) := by
  obtain ⟨ta, pa, qa⟩ := ha
  refine ⟨_, mk pa, fun H0 F H σ st s rl => ?_⟩
  show At X.w X.K X.mg W σ F H (fun Q => ta σ H fun v H1 => r v H1 Q) ((fa st).bind fun x => g x) (RelM X.w X.K X.mg .fresh H)
  refine At.bind (qa H0 F H σ st s rl) fun v x F1 H1 s1 r1 => ?_
  exact At.fresh s1.hh (L W σ F1 H1 x v s1.fh r1)
theorem leaf_isN : Leaf1 X (fun v H Q => Q (.bl (decide (v = .non))) H) isND := by
  intro W σ F H x v s rx
  rcases rx.notNon with ⟨rfl, rfl⟩ | ⟨h1, h2⟩
  · exact at_flat s (fun Q q => by simpa using q) (.bl true) rfl
  · have e : isND x = .ok (.bl false) := by cases x <;> first | rfl | exact absurd rfl h1
    rw [e]
    exact at_flat s (fun Q q => by simpa [h2] using q) (.bl false) rfl
theorem leaf_notN : Leaf1 X (fun v H Q => Q (.bl (!decide (v = .non))) H) notND := by
  intro W σ F H x v s rx
  rcases rx.notNon with ⟨rfl, rfl⟩ | ⟨h1, h2⟩
  · exact at_flat s (fun Q q => by simpa using q) (.bl false) rfl
  · have e : notND x = .ok (.bl true) := by cases x <;> first | rfl | exact absurd rfl h1
    rw [e]
    exact at_flat s (fun Q q => by simpa [h2] using q) (.bl true) rfl
theorem leaf_isB (b : Bool) : Leaf1 X (fun v H Q => Q (.bl (decide (v = .bl b))) H) (isBD b) := by
  intro W σ F H x v s rx
  rcases rx.notBl with ⟨c, rfl, rfl⟩ | ⟨h1, h2⟩
  · exact at_flat s (fun Q q => by have : decide (V.bl c = V.bl b) = decide (c = b) := by cases b <;> cases c <;> rfl
                                   show Q (.bl (decide (V.bl c = V.bl b))) H
                                   rw [this]; exact q) (.bl _) rfl
  · have e : isBD b x = .ok (.bl false) := by cases x <;> first | rfl | exact absurd rfl (h1 _)
    rw [e]
    exact at_flat s (fun Q q => by simpa [h2 b] using q) (.bl false) rfl
theorem leaf_notB (b : Bool) : Leaf1 X (fun v H Q => Q (.bl (!decide (v = .bl b))) H) (notBD b) := by
  intro W σ F H x v s rx
  rcases rx.notBl with ⟨c, rfl, rfl⟩ | ⟨h1, h2⟩
  · exact at_flat s (fun Q q => by have : decide (V.bl c = V.bl b) = decide (c = b) := by cases b <;> cases c <;> rfl
                                   show Q (.bl (!decide (V.bl c = V.bl b))) H
                                   rw [this]; exact q) (.bl _) rfl
  · have e : notBD b x = .ok (.bl true) := by cases x <;> first | rfl | exact absurd rfl (h1 _)
    rw [e]
    exact at_flat s (fun Q q => by simpa [h2 b] using q) (.bl true) rfl
theorem ev_isN {a : Expr} {fa : SD → R D} {j p} (ha : EV X W own .read a fa) : EV X W own .fresh (.Compare a [.Is] [.Constant .none j p] pos) (fun st => (fa st).bind fun x => isND x) :=
  ev_op1 (r := fun v H Q => Q (V.bl (decide (v = V.non))) H) (fun {ta} p => pe_cmp (pc_isN p) rfl) leaf_isN ha
theorem ev_notN {a : Expr} {fa : SD → R D} {j p} (ha : EV X W own .read a fa) : EV X W own .fresh (.Compare a [.IsNot] [.Constant .none j p] pos) (fun st => (fa st).bind fun x => notND x) :=
  ev_op1 (r := fun v H Q => Q (V.bl (!decide (v = V.non))) H) (fun {ta} p => pe_cmp (pc_notN p) rfl) leaf_notN ha
theorem pe_isC {a : Expr} {ta : TE} {b : Bool} {j p} (h : PE X a ta) : PE X (.Compare a [.Is] [.Constant (.bool b) j p] pos) (fun σ H Q => ta σ H fun v H1 => Q (.bl (decide (v = .bl b))) H1) :=
  ⟨fun pins s σ H Q I q => (pe_cmpR (op_isC b) h (pe_bl (b := b)) (nomark _)).run pins s σ H Q I (by
    obtain ⟨hr⟩ := h
    show ta σ H fun x H1 => (V.bl b = V.bl b ∧ Q (.bl (decide (x = .bl b))) H1)
    have e : (fun (x : V) (H1 : Hp) => (V.bl b = V.bl b ∧ Q (V.bl (decide (x = V.bl b))) H1)) = (fun x H1 => Q (V.bl (decide (x = V.bl b))) H1) := by
      funext x H1; simp
    rw [e]; exact q)⟩
theorem pe_isntC {a : Expr} {ta : TE} {b : Bool} {j p} (h : PE X a ta) : PE X (.Compare a [.IsNot] [.Constant (.bool b) j p] pos) (fun σ H Q => ta σ H fun v H1 => Q (.bl (!decide (v = .bl b))) H1) :=
  ⟨fun pins s σ H Q I q => (pe_cmpR (op_isntC b) h (pe_bl (b := b)) (nomark _)).run pins s σ H Q I (by
    show ta σ H fun x H1 => (V.bl b = V.bl b ∧ Q (.bl (!decide (x = .bl b))) H1)
    have e : (fun (x : V) (H1 : Hp) => (V.bl b = V.bl b ∧ Q (V.bl (!decide (x = V.bl b))) H1)) = (fun x H1 => Q (V.bl (!decide (x = V.bl b))) H1) := by
      funext x H1; simp
    rw [e]; exact q)⟩
theorem ev_isB {a : Expr} {fa : SD → R D} {b : Bool} {j p} (ha : EV X W own .read a fa) : EV X W own .fresh (.Compare a [.Is] [.Constant (.bool b) j p] pos) (fun st => (fa st).bind fun x => isBD b x) := ev_op1 (fun p => pe_isC p) (leaf_isB b) ha
theorem ev_notB {a : Expr} {fa : SD → R D} {b : Bool} {j p} (ha : EV X W own .read a fa) : EV X W own .fresh (.Compare a [.IsNot] [.Constant (.bool b) j p] pos) (fun st => (fa st).bind fun x => notBD b x) := ev_op1 (fun p => pe_isntC p) (leaf_notB b) ha

/-! ### in -/
def rInA (X : Cx) (neg : Bool) : R2 := fun x y H Q => (∃ d ds, Dp X.K H x d ∧ (Dp X.K H y (.list ds) ∨ Dp X.K H y (.tuple ds)) ∧ SeqAt.shaped d = true ∧ SeqAt.shaped (.list ds) = true ∧ Q (.bl (if neg then !ds.any fun z => PyData.eqv z d else ds.any fun z => PyData.eqv z d)) H) ∨
  (∃ (c : Nat) (z : Str), x = .str ⟨#[c]⟩ ∧ y = .str z ∧ Q (.bl (if neg then !decide (c ∈ z.cps.toList) else decide (c ∈ z.cps.toList))) H) ∨ rInD X neg x y H Q
theorem op_inA (hu : X.A.units + 65 < cLine) : OpR X (compareOp .In) (rInA X false) := by
  intro pins s σ H x y v u Q I rx ry h
  rcases h with ⟨d, ds, hd, he, sd, se, q⟩ | ⟨c, z, e1, e2, q⟩ | q
  · obtain ⟨as, r1⟩ := Dp.reads I d x v hd rx
    rcases he with he | he
    · obtain ⟨bs, r2⟩ := Dp.reads I (.list ds) y u he ry
      exact SeqAt.in_list_reads r2 r1 (SeqAt.canLay_of_shaped se) (SeqAt.canLay_of_shaped sd) (room_in_shaped sd hu) ⟨.bl _, H, I, rfl, q⟩
    · obtain ⟨bs, r2⟩ := Dp.reads I (.tuple ds) y u he ry
      exact SeqAt.in_tuple_reads r2 r1 (SeqAt.canLay_of_shaped se) (SeqAt.canLay_of_shaped sd) (room_in_shaped sd hu) ⟨.bl _, H, I, rfl, q⟩
  · exact op_in_sign pins s σ H x y v u Q I rx ry ⟨c, z, e1, e2, q⟩
  · exact op_inD hu pins s σ H x y v u Q I rx ry q
theorem op_notInA (hu : X.A.units + 65 < cLine) : OpR X (compareOp .NotIn) (rInA X true) := by
  intro pins s σ H x y v u Q I rx ry h
  rcases h with ⟨d, ds, hd, he, sd, se, q⟩ | ⟨c, z, e1, e2, q⟩ | q
  · obtain ⟨as, r1⟩ := Dp.reads I d x v hd rx
    rcases he with he | he
    · obtain ⟨bs, r2⟩ := Dp.reads I (.list ds) y u he ry
      exact SeqAt.notIn_list_reads r2 r1 (SeqAt.canLay_of_shaped se) (SeqAt.canLay_of_shaped sd) (room_in_shaped sd hu) ⟨.bl _, H, I, rfl, q⟩
    · obtain ⟨bs, r2⟩ := Dp.reads I (.tuple ds) y u he ry
      exact SeqAt.notIn_tuple_reads r2 r1 (SeqAt.canLay_of_shaped se) (SeqAt.canLay_of_shaped sd) (room_in_shaped sd hu) ⟨.bl _, H, I, rfl, q⟩
  · exact op_notIn_sign pins s σ H x y v u Q I rx ry ⟨c, z, e1, e2, q⟩
  · exact op_ninD hu pins s σ H x y v u Q I rx ry q
theorem shaped_tl {ds : List PyData} (h : SeqAt.shaped (.tuple ds) = true) : SeqAt.shaped (.list ds) = true := by
  unfold SeqAt.shaped at h ⊢
  simpa [PyData.canLay0, PyData.depth] using h
theorem sign_of {x : Str} (h : x.cps.size = 1) : x = ⟨#[x.cps.getD 0 0]⟩ := by
  obtain ⟨cps⟩ := x
  obtain ⟨l⟩ := cps
  match l, h with
  | [a], _ => rfl
theorem leaf_in : Leaf2 X (rInA X false) inD := by
  intro W σ F H x y v u s rx ry
  cases y with
  | lst ds =>
    show At _ _ _ W σ F H _ (if x.okE = true ∧ (D.lst ds).okE = true then .ok (D.bl (ds.any fun z => D.eqv z x)) else .un) _
    split
    · rename_i h
      obtain ⟨p1, s1⟩ := D.okE_shaped h.1
      obtain ⟨p2, s2⟩ := D.okE_shaped h.2
      exact at_flat s (fun Q q => .inl ⟨x.py, D.pys ds, rx.dp s p1, .inl (ry.dp s p2), s1, s2, by show Q (.bl _) H; rw [D.pys_any]; exact q⟩) (.bl _) rfl
    · trivial
  | tup ds =>
    show At _ _ _ W σ F H _ (if x.okE = true ∧ (D.tup ds).okE = true then .ok (D.bl (ds.any fun z => D.eqv z x)) else .un) _
    split
    · rename_i h
      obtain ⟨p1, s1⟩ := D.okE_shaped h.1
      obtain ⟨p2, s2⟩ := D.okE_shaped h.2
      exact at_flat s (fun Q q => .inl ⟨x.py, D.pys ds, rx.dp s p1, .inr (ry.dp s p2), s1, shaped_tl s2, by show Q (.bl _) H; rw [D.pys_any]; exact q⟩) (.bl _) rfl
    · trivial
  | str z =>
    cases x with
    | str x =>
      cases rx.str; cases ry.str
      show At _ _ _ W σ F H _ (if x.cps.size = 1 then .ok (D.bl (decide (x.cps.getD 0 0 ∈ z.cps.toList))) else .un) _
      split
      · rename_i h
        exact at_flat s (fun Q q => .inr (.inl ⟨x.cps.getD 0 0, z, by rw [← sign_of h], rfl, q⟩)) (.bl _) rfl
      · trivial
    | _ => trivial
  | dct ks vs =>
    have e0 : inD x (.dct ks vs) = (dIdx ks x).bind fun o => .ok (.bl (o.isSome)) := by cases x <;> rfl
    rw [e0]
    cases e : dIdx ks x with
    | un => trivial
    | ex _ _ _ => exact absurd e (dIdx_ex _ _)
    | ok r =>
      obtain ⟨a, ro, rfl, _, h1, h2, h3⟩ := dct_look s ry rx e
      have er : ro.isSome = r.isSome := by
        cases r with
        | none => rw [h2 rfl]; rfl
        | some j => obtain ⟨u, _, _, q, _⟩ := h3 j rfl; rw [q]; rfl
      exact at_flat s (fun Q q => .inr (.inr ⟨a, ro, rfl, h1, by rw [er]; exact q⟩)) (.bl _) rfl
  | _ => cases x <;> trivial
theorem leaf_notIn : Leaf2 X (rInA X true) notInD := by
  intro W σ F H x y v u s rx ry
  cases y with
  | lst ds =>
    show At _ _ _ W σ F H _ (if x.okE = true ∧ (D.lst ds).okE = true then .ok (D.bl (!ds.any fun z => D.eqv z x)) else .un) _
    split
    · rename_i h
      obtain ⟨p1, s1⟩ := D.okE_shaped h.1
      obtain ⟨p2, s2⟩ := D.okE_shaped h.2
      exact at_flat s (fun Q q => .inl ⟨x.py, D.pys ds, rx.dp s p1, .inl (ry.dp s p2), s1, s2, by show Q (.bl (!_)) H; rw [D.pys_any]; exact q⟩) (.bl _) rfl
    · trivial
  | tup ds =>
    show At _ _ _ W σ F H _ (if x.okE = true ∧ (D.tup ds).okE = true then .ok (D.bl (!ds.any fun z => D.eqv z x)) else .un) _
    split
    · rename_i h
      obtain ⟨p1, s1⟩ := D.okE_shaped h.1
      obtain ⟨p2, s2⟩ := D.okE_shaped h.2
      exact at_flat s (fun Q q => .inl ⟨x.py, D.pys ds, rx.dp s p1, .inr (ry.dp s p2), s1, shaped_tl s2, by show Q (.bl (!_)) H; rw [D.pys_any]; exact q⟩) (.bl _) rfl
    · trivial
  | str z =>
    cases x with
    | str x =>
      cases rx.str; cases ry.str
      show At _ _ _ W σ F H _ (if x.cps.size = 1 then .ok (D.bl (!decide (x.cps.getD 0 0 ∈ z.cps.toList))) else .un) _
      split
      · rename_i h
        exact at_flat s (fun Q q => .inr (.inl ⟨x.cps.getD 0 0, z, by rw [← sign_of h], rfl, q⟩)) (.bl _) rfl
      · trivial
    | _ => trivial
  | dct ks vs =>
    have e0 : notInD x (.dct ks vs) = (dIdx ks x).bind fun o => .ok (.bl (!o.isSome)) := by cases x <;> rfl
    rw [e0]
    cases e : dIdx ks x with
    | un => trivial
    | ex _ _ _ => exact absurd e (dIdx_ex _ _)
    | ok r =>
      obtain ⟨a, ro, rfl, _, h1, h2, h3⟩ := dct_look s ry rx e
      have er : ro.isSome = r.isSome := by
        cases r with
        | none => rw [h2 rfl]; rfl
        | some j => obtain ⟨u, _, _, q, _⟩ := h3 j rfl; rw [q]; rfl
      exact at_flat s (fun Q q => .inr (.inr ⟨a, ro, rfl, h1, by rw [er]; exact q⟩)) (.bl _) rfl
  | _ => cases x <;> trivial

/-! ### two comparisons in a row -/
theorem ev_chain {a b c : Expr} {fa fb fc : SD → R D} {op op' : CmpOp} {r r' : R2} {g g' : D → D → R D} (ho : OpR X (compareOp op) r) (ho' : OpR X (compareOp op') r') (hm : lastMarks [op, op'] [b, c] = false) (L : Leaf2 X r g) (L' : Leaf2 X r' g')
    (ha : EV X W own .read a fa) (hb : EV X W own .read b fb) (hc : EV X W own .read c fc) (hbl : ∀ x y, g x y = .un ∨ ∃ k, g x y = .ok (.bl k)) :
    EV X W own .fresh (.Compare a [op, op'] [b, c] pos) (fun st => (fa st).bind fun x => (fb st).bind fun y => (g x y).bind fun z => match z with
      | .bl true => (fc st).bind fun w => g' y w
      | .bl false => .ok (.bl false)
      | _ => .un) := by
  obtain ⟨ta, pa, qa⟩ := ha
  obtain ⟨tb, pb, qb⟩ := hb
  obtain ⟨tc, pc, qc⟩ := hc
  refine ⟨_, pe_chain ho ho' pa pb pc hm, fun H0 F H σ st s rl => ?_⟩
  show At X.w X.K X.mg W σ F H (fun Q => ta σ H fun v H1 => tb σ H1 fun u H2 => r v u H2 fun z H3 => ∃ k, z = .bl k ∧ (if k = true then tc σ H3 fun w' H4 => r' u w' H4 Q else Q (.bl false) H3))
    ((fa st).bind fun x => (fb st).bind fun y => (g x y).bind fun z => match z with
      | .bl true => (fc st).bind fun w => g' y w
      | .bl false => .ok (.bl false)
      | _ => .un) (RelM X.w X.K X.mg .fresh H)
  refine At.bind (qa H0 F H σ st s rl) fun v x F1 H1 s1 r1 => ?_
  refine At.bind (qb H0 F1 H1 σ st s1.fh (rl.step s1)) fun u y F2 H2 s2 r2 => ?_
  refine At.bind (U := fun z H3 Q => ∃ k, z = .bl k ∧ (if k = true then tc σ H3 fun w' H4 => r' u w' H4 Q else Q (.bl false) H3)) (L W σ F2 H2 x y v u s2.fh (RelR.step s2 r1) r2) fun z d F3 H3 s3 r3 => ?_
  cases d with
  | bl k =>
    have ez : z = .bl k := (RelM.toRead (m := .fresh) r3).bl
    subst ez
    cases k with
    | true =>
      refine (At.bind (qc H0 F3 H3 σ st s3.fh ((rl.step s1).step (s2.trans s3))) fun w' w F4 H4 s4 r4 => At.fresh (((s1.hh.trans s2.hh).trans s3.hh).trans s4.hh) (L' W σ F4 H4 y w u w' s4.fh (RelR.step (s3.trans s4) r2) r4)).map (f := id) (fun Q q => ⟨true, rfl, by rw [if_pos rfl]; exact q⟩) fun b a F1 H1 _ z => z
    | false => exact fun Q hQ => ⟨false, rfl, by rw [if_neg Bool.false_ne_true]; exact hQ _ F3 H3 (Step.refl s3.fh) (show Rep X.w X.K X.mg F3 (.bl false) (.bl false) from .bl _)⟩
  | _ => trivial

/-! ### truth -/
theorem tru_of {F H : Hp} {x : D} {v : V} {k : Bool} (s : Same F H) (r : RelR X.w X.K X.mg F H v x) (h : truthD x = .ok k) : TruV X.K v H k := by
  cases x with
  | non => cases r.non; cases h; rfl
  | bl b => cases r.bl; cases h; rfl
  | int i => cases r.int; cases h; rfl
  | str y =>
    cases r.str
    by_cases hz : y.length ≤ 16777216
    · have : truthD (.str y) = .ok ((y.length : Int) != 0) := if_pos hz
      rw [this] at h; cases h
      exact ⟨by rw [sizeLine_eq]; exact hz, rfl⟩
    · have : truthD (.str y) = .un := if_neg hz
      rw [this] at h; cases h
  | tup ds =>
    obtain ⟨a, xs, rfl, k1, h1, r1⟩ := r.tup s
    cases h
    exact .inr (.inl ⟨xs, h1, by rw [r1.isEmpty]⟩)
  | lst ds =>
    obtain ⟨a, xs, rfl, h1, r1⟩ := r.lst s
    cases h
    exact .inl ⟨xs, h1, by rw [r1.isEmpty]⟩
  | ins c ns ds => cases h
  | dct ks vs => cases h
theorem truthD_ex (x : D) : truthD x = .un ∨ ∃ k, truthD x = .ok k := by
  cases x with
  | str y =>
    by_cases hz : y.length ≤ 16777216
    · exact .inr ⟨_, if_pos hz⟩
    · exact .inl (if_neg hz)
  | ins c ns ds => exact .inl rfl
  | dct ks vs => exact .inl rfl
  | _ => exact .inr ⟨_, rfl⟩
theorem et_truth {a : Expr} {fa : SD → R D} (ha : EV X W own .read a fa) (he : ∀ whole, isTrue a X.env whole = (do let v ← whole; standAt a.pos; holding [v] (truthy v))) : ET X W own a (fun st => (fa st).bind truthD) := by
  obtain ⟨ta, pa, qa⟩ := ha
  refine ⟨_, pt_truth pa he, fun H0 F H σ st s rl => ?_⟩
  show At X.w X.K X.mg W σ F H (fun Q => ta σ H fun x H' => ∃ k, TruV X.K x H' k ∧ Q k H') ((fa st).bind truthD) (fun _ _ b a => b = a)
  refine At.bind (U := fun x H' Q => ∃ k, TruV X.K x H' k ∧ Q k H') (qa H0 F H σ st s rl) fun v x F1 H1 s1 r1 => ?_
  rcases truthD_ex x with e | ⟨k, e⟩
  · rw [e]; trivial
  · rw [e]; exact fun Q hQ => ⟨k, tru_of s1.fh r1 e, hQ k F1 H1 (Step.refl s1.fh) rfl⟩
theorem et_cmp {a b : Expr} {fa fb : SD → R D} {op : CmpOp} {r : R2} {g : D → D → R D} (ho : OpR X (compareOp op) r) (hm : behindInMarks op b = false) (L : Leaf2 X r g) (ha : EV X W own .read a fa) (hb : EV X W own .read b fb) (hbl : ∀ x y, g x y = .un ∨ ∃ k, g x y = .ok (.bl k)) :
    ET X W own (.Compare a [op] [b] pos) (fun st => ((fa st).bind fun x => (fb st).bind fun y => g x y).bind truthD) := by
  obtain ⟨ta, pa, qa⟩ := ha
  obtain ⟨tb, pb, qb⟩ := hb
  refine ⟨_, pt_cmpR ho pa pb hm, fun H0 F H σ st s rl => ?_⟩
  show At X.w X.K X.mg W σ F H (fun Q => (fun Q' => ta σ H fun v H1 => tb σ H1 fun u H2 => r v u H2 Q') fun x H' => ∃ k, x = .bl k ∧ Q k H') (((fa st).bind fun x => (fb st).bind fun y => g x y).bind truthD) (fun _ _ b a => b = a)
  have e0 : (((fa st).bind fun x => (fb st).bind fun y => g x y).bind truthD) = ((fa st).bind fun x => (fb st).bind fun y => (g x y).bind truthD) := by
    cases fa st with
    | ok x => show ((fb st).bind fun y => g x y).bind truthD = _; cases fb st <;> rfl
    | un => rfl
    | ex c ns ds => rfl
  rw [e0]
  refine At.bind (U := fun v H1 Q => tb σ H1 fun u H2 => r v u H2 fun x H' => ∃ k, x = .bl k ∧ Q k H') (qa H0 F H σ st s rl) fun v x F1 H1 s1 r1 => ?_
  refine At.bind (U := fun u H2 Q => r v u H2 fun x H' => ∃ k, x = .bl k ∧ Q k H') (qb H0 F1 H1 σ st s1.fh (rl.step s1)) fun u y F2 H2 s2 r2 => ?_
  have hl := L W σ F2 H2 x y v u s2.fh (RelR.step s2 r1) r2
  rcases hbl x y with e | ⟨k, e⟩
  · rw [e]; trivial
  · rw [e] at hl ⊢
    exact fun Q hQ => hl _ fun z F3 H3 s3 r3 => ⟨k, (RelM.toRead (m := .fresh) r3).bl, hQ k F3 H3 s3 rfl⟩
end
end Dl

/-! DlE: and, or, not, displays, items, slices, built-ins, calls, fields. -/
namespace Dl
open PySem PySem.Spec PyProof.Rows L2

section
variable {X : Cx} {W : WX} {own : List Nat} {m : Md} {e : Expr} {f : SD → R D} {pos : Pos}

theorem RelM.flat {w : World} {K : PySem.W.Frag} {mg : Str → Option Value} {H F1 H1 : Hp} {v : V} {d : D} (h : RelM w K mg m H F1 H1 v d) (hd : d.heapy = false) : Rep w K mg F1 v d := by
  cases m with
  | keep => exact h
  | read =>
    rcases h with h | ⟨_, _, ds, _, e, _⟩ | ⟨_, _, _, _, _, _, _, _, e, _⟩
    · exact h
    · rw [e] at hd; cases hd
    · rw [e] at hd; cases hd
  | fresh =>
    cases d with
    | lst ds => cases hd
    | dct ks vs => cases hd
    | _ => exact h
/-- the same value seen from an earlier heap -/
theorem RelM.back {w : World} {K : PySem.W.Frag} {mg : Str → Option Value} {H0 H F1 H1 : Hp} {v : V} {d : D} (s : Same H0 H) (h : RelM w K mg m H F1 H1 v d) : RelM w K mg m H0 F1 H1 v d := by
  cases m with
  | keep => exact h
  | read => exact h
  | fresh => exact RelF.mono0 s h
theorem At.back {σ : L2.St} {F H H0 : Hp} {T : (V → Hp → Prop) → Prop} {r : R D} (s : Same H0 H) (h : At X.w X.K X.mg W σ F H T r (RelM X.w X.K X.mg m H)) : At X.w X.K X.mg W σ F H T r (RelM X.w X.K X.mg m H0) :=
  h.weak fun b a F1 H1 s1 q => ⟨F1, s1, RelM.back s q⟩

/-! ### and, or, not, if else -/
def andR (a b : R D) : R D := a.bind fun x => (truthD x).bind fun k => if k = true then b else .ok x
def orR (a b : R D) : R D := a.bind fun x => (truthD x).bind fun k => if k = true then .ok x else b
def iteR {α : Type} (c : R Bool) (a b : R α) : R α := c.bind fun k => if k = true then a else b
theorem RelM.step {w : World} {K : PySem.W.Frag} {mg : Str → Option Value} {H F1 H1 F2 H2 : Hp} {v : V} {d : D} (s : Step F1 H1 F2 H2) (h : RelM w K mg m H F1 H1 v d) : RelM w K mg m H F2 H2 v d := by
  cases m with
  | keep => exact Rep.mono s.ff _ h
  | read => exact RelR.step s h
  | fresh =>
    cases d with
    | lst ds => obtain ⟨p, xs, e, h1, h2, h3, r⟩ := h; exact ⟨p, xs, e, s.hh _ _ h1, s.nw p (by rw [h1]; exact fun z => nomatch z) h2, h3, Reps.mono s.ff _ r⟩
    | dct ks vs => obtain ⟨p, o, kv, vv, nks, e, h1, h2, h3, h4, h5, r1, r2⟩ := h; exact ⟨p, o, kv, vv, nks, e, s.hh _ _ h1, s.nw p (by rw [h1]; exact fun z => nomatch z) h2, h3, h4, h5, Reps.mono s.ff _ r1, Reps.mono s.ff _ r2⟩
    | _ => exact Rep.mono s.ff _ h
theorem ev_one {op} {a : Expr} {fa : SD → R D} (h : EV X W own m a fa) : EV X W own m (.BoolOp op [a] pos) fa := by
  obtain ⟨t, p, q⟩ := h
  exact ⟨t, pe_one p, q⟩
theorem ev_and {a b : Expr} {rest : List Expr} {fa fb : SD → R D} (ha : EV X W own m a fa) (hb : EV X W own m (.BoolOp .And (b :: rest) pos) fb) : EV X W own m (.BoolOp .And (a :: b :: rest) pos) (fun st => andR (fa st) (fb st)) := by
  obtain ⟨ta, pa, qa⟩ := ha
  obtain ⟨tb, pb, qb⟩ := hb
  refine ⟨_, pe_andT pa pb, fun H0 F H σ st s rl => ?_⟩
  show At X.w X.K X.mg W σ F H (fun Q => ta σ H fun x H1 => ∃ k, TruV X.K x H1 k ∧ if k = true then tb σ H1 Q else Q x H1) ((fa st).bind fun x => (truthD x).bind fun k => if k = true then fb st else .ok x) (RelM X.w X.K X.mg m H)
  refine At.bind (U := fun x H1 Q => ∃ k, TruV X.K x H1 k ∧ if k = true then tb σ H1 Q else Q x H1) (qa H0 F H σ st s rl) fun v x F1 H1 s1 r1 => ?_
  rcases truthD_ex x with e | ⟨k, e⟩
  · rw [e]; trivial
  · rw [e]
    have tr := tru_of s1.fh (RelM.toRead r1) e
    cases k with
    | true => exact (At.back s1.hh (qb H0 F1 H1 σ st s1.fh (rl.step s1))).map (f := id) (fun Q q => ⟨true, tr, by rw [if_pos rfl]; exact q⟩) fun b a F2 H2 _ z => z
    | false => exact fun Q hQ => ⟨false, tr, by rw [if_neg Bool.false_ne_true]; exact hQ v F1 H1 (Step.refl s1.fh) r1⟩
theorem ev_or {a b : Expr} {rest : List Expr} {fa fb : SD → R D} (ha : EV X W own m a fa) (hb : EV X W own m (.BoolOp .Or (b :: rest) pos) fb) : EV X W own m (.BoolOp .Or (a :: b :: rest) pos) (fun st => orR (fa st) (fb st)) := by
  obtain ⟨ta, pa, qa⟩ := ha
  obtain ⟨tb, pb, qb⟩ := hb
  refine ⟨_, pe_orT pa pb, fun H0 F H σ st s rl => ?_⟩
  show At X.w X.K X.mg W σ F H (fun Q => ta σ H fun x H1 => ∃ k, TruV X.K x H1 k ∧ if k = true then Q x H1 else tb σ H1 Q) ((fa st).bind fun x => (truthD x).bind fun k => if k = true then .ok x else fb st) (RelM X.w X.K X.mg m H)
  refine At.bind (U := fun x H1 Q => ∃ k, TruV X.K x H1 k ∧ if k = true then Q x H1 else tb σ H1 Q) (qa H0 F H σ st s rl) fun v x F1 H1 s1 r1 => ?_
  rcases truthD_ex x with e | ⟨k, e⟩
  · rw [e]; trivial
  · rw [e]
    have tr := tru_of s1.fh (RelM.toRead r1) e
    cases k with
    | false => exact (At.back s1.hh (qb H0 F1 H1 σ st s1.fh (rl.step s1))).map (f := id) (fun Q q => ⟨false, tr, by rw [if_neg Bool.false_ne_true]; exact q⟩) fun b a F2 H2 _ z => z
    | true => exact fun Q hQ => ⟨true, tr, by rw [if_pos rfl]; exact hQ v F1 H1 (Step.refl s1.fh) r1⟩
theorem ev_not {a : Expr} {fa : SD → R D} (ha : EV X W own .read a fa) : EV X W own .fresh (.UnaryOp .Not a pos) (fun st => (fa st).bind fun x => (truthD x).bind fun k => .ok (.bl (!k))) := by
  refine ev_op1 (r := fun v H Q => ∃ k, TruV X.K v H k ∧ Q (V.bl (!k)) H) (g := fun x => (truthD x).bind fun k => .ok (.bl (!k))) (fun p => pe_notT p) (fun W σ F H x v s rx => ?_) ha
  dsimp only
  rcases truthD_ex x with e | ⟨k, e⟩
  · rw [e]; trivial
  · rw [e]; exact at_flat s (fun Q q => ⟨k, tru_of s rx e, q⟩) (.bl _) rfl
theorem ev_ite {c a b : Expr} {fc : SD → R Bool} {fa fb : SD → R D} (hc : ET X W own c fc) (ha : EV X W own m a fa) (hb : EV X W own m b fb) : EV X W own m (.IfExp c a b pos) (fun st => iteR (fc st) (fa st) (fb st)) := by
  obtain ⟨tc, pc, qc⟩ := hc
  obtain ⟨ta, pa, qa⟩ := ha
  obtain ⟨tb, pb, qb⟩ := hb
  refine ⟨_, pe_ifExp pc pa pb, fun H0 F H σ st s rl => ?_⟩
  show At X.w X.K X.mg W σ F H (fun Q => tc σ H fun k H1 => if k = true then ta σ H1 Q else tb σ H1 Q) ((fc st).bind fun k => if k = true then fa st else fb st) (RelM X.w X.K X.mg m H)
  refine At.bind (U := fun k H1 Q => if k = true then ta σ H1 Q else tb σ H1 Q) (qc H0 F H σ st s rl) fun k k' F1 H1 s1 r1 => ?_
  subst r1
  cases k with
  | true => exact (At.back s1.hh (qa H0 F1 H1 σ st s1.fh (rl.step s1))).map (f := id) (fun Q q => by rw [if_pos rfl]; exact q) fun b a F2 H2 _ z => z
  | false => exact (At.back s1.hh (qb H0 F1 H1 σ st s1.fh (rl.step s1))).map (f := id) (fun Q q => by rw [if_neg Bool.false_ne_true]; exact q) fun b a F2 H2 _ z => z
/-- .. as tests -/
theorem EW.et {c : Expr} {g : SD → R Bool} (h : EW X W own c g) : ET X W own c g := let ⟨t, p, q⟩ := h; ⟨t, p.pt, q⟩
theorem ew_and1 {a : Expr} {fa : SD → R Bool} (ha : ET X W own a fa) : EW X W own (.BoolOp .And [a] pos) fa := let ⟨t, p, q⟩ := ha; ⟨t, pw_and1 p, q⟩
theorem ew_or1 {a : Expr} {fa : SD → R Bool} (ha : ET X W own a fa) : EW X W own (.BoolOp .Or [a] pos) fa := let ⟨t, p, q⟩ := ha; ⟨t, pw_or1 p, q⟩
theorem ew_and {a b : Expr} {rest : List Expr} {fa fb : SD → R Bool} (ha : ET X W own a fa) (hb : EW X W own (.BoolOp .And (b :: rest) pos) fb) : EW X W own (.BoolOp .And (a :: b :: rest) pos) (fun st => (fa st).bind fun k => if k = true then fb st else .ok false) := by
  obtain ⟨ta, pa, qa⟩ := ha
  obtain ⟨tb, pb, qb⟩ := hb
  refine ⟨_, pw_and pa pb, fun H0 F H σ st s rl => ?_⟩
  show At X.w X.K X.mg W σ F H (fun Q => ta σ H fun k H1 => if k = true then tb σ H1 Q else Q false H1) _ _
  refine At.bind (U := fun k H1 Q => if k = true then tb σ H1 Q else Q false H1) (qa H0 F H σ st s rl) fun k k' F1 H1 s1 r1 => ?_
  subst r1
  cases k with
  | true => exact (qb H0 F1 H1 σ st s1.fh (rl.step s1)).map (f := id) (fun Q q => by rw [if_pos rfl]; exact q) fun b a F2 H2 _ z => z
  | false => exact fun Q hQ => by dsimp only; rw [if_neg Bool.false_ne_true]; exact hQ false F1 H1 (Step.refl s1.fh) rfl
theorem ew_or {a b : Expr} {rest : List Expr} {fa fb : SD → R Bool} (ha : ET X W own a fa) (hb : EW X W own (.BoolOp .Or (b :: rest) pos) fb) : EW X W own (.BoolOp .Or (a :: b :: rest) pos) (fun st => (fa st).bind fun k => if k = true then .ok true else fb st) := by
  obtain ⟨ta, pa, qa⟩ := ha
  obtain ⟨tb, pb, qb⟩ := hb
  refine ⟨_, pw_or pa pb, fun H0 F H σ st s rl => ?_⟩
  show At X.w X.K X.mg W σ F H (fun Q => ta σ H fun k H1 => if k = true then Q true H1 else tb σ H1 Q) _ _
  refine At.bind (U := fun k H1 Q => if k = true then Q true H1 else tb σ H1 Q) (qa H0 F H σ st s rl) fun k k' F1 H1 s1 r1 => ?_
  subst r1
  cases k with
  | false => exact (qb H0 F1 H1 σ st s1.fh (rl.step s1)).map (f := id) (fun Q q => by rw [if_neg Bool.false_ne_true]; exact q) fun b a F2 H2 _ z => z
  | true => exact fun Q hQ => by dsimp only; rw [if_pos rfl]; exact hQ true F1 H1 (Step.refl s1.fh) rfl
theorem et_not {a : Expr} {fa : SD → R Bool} (ha : ET X W own a fa) : ET X W own (.UnaryOp .Not a pos) (fun st => (fa st).bind fun k => .ok (!k)) := by
  obtain ⟨ta, pa, qa⟩ := ha
  refine ⟨_, pt_not pa, fun H0 F H σ st s rl => ?_⟩
  show At X.w X.K X.mg W σ F H (fun Q => ta σ H fun k H1 => Q (!k) H1) _ _
  refine At.bind (U := fun k H1 Q => Q (!k) H1) (qa H0 F H σ st s rl) fun k k' F1 H1 s1 r1 => ?_
  subst r1
  exact fun Q hQ => hQ _ F1 H1 (Step.refl s1.fh) rfl

/-! ### several expressions -/
def nostar : Expr → Bool
  | .Starred _ _ => false
  | _ => true
theorem starEach_cons {e : Expr} {es : List Expr} {env : Env} (h : nostar e = true) : starEach (e :: es) env = (false, eval e env) :: starEach es env := by
  cases e <;> first | rfl | cases h
theorem backTo_plain {pos : Pos} {env : Env} : ∀ {es : List Expr}, es.all nostar = true → (backTo pos (starEach es env)).any (·.1) = false
  | [], _ => rfl
  | e :: es, h => by
    simp only [List.all_cons, Bool.and_eq_true] at h
    rw [starEach_cons h.1]
    have ih := backTo_plain (pos := pos) (env := env) h.2
    unfold backTo at ih ⊢
    simp only [List.map_cons, List.any_cons, Bool.false_or]
    exact ih
theorem evs_nil : EVs X W own [] (fun _ => .ok []) := ⟨_, pa_nil, fun H0 F H σ st s rl => At.pure (rel := fun F1 H1 vs ds => Reps X.w X.K X.mg F1 vs ds) s .nil⟩
theorem evs_cons {e : Expr} {es : List Expr} {fe : SD → R D} {fs : SD → R (List D)} (hn : nostar e = true) (he : EV X W own .keep e fe) (hs : EVs X W own es fs) : EVs X W own (e :: es) (fun st => (fe st).bind fun d => (fs st).bind fun ds => .ok (d :: ds)) := by
  obtain ⟨te, pe, qe⟩ := he
  obtain ⟨ts, ps, qs⟩ := hs
  refine ⟨_, pa_cons pe ps (starEach_cons hn), fun H0 F H σ st s rl => ?_⟩
  show At X.w X.K X.mg W σ F H (fun Q => te σ H fun x H1 => ts σ H1 fun xs H2 => Q (x :: xs) H2) _ _
  refine At.bind (U := fun x H1 Q => ts σ H1 fun xs H2 => Q (x :: xs) H2) (qe H0 F H σ st s rl) fun v x F1 H1 s1 r1 => ?_
  refine At.bind (U := fun xs H2 Q => Q (v :: xs) H2) (qs H0 F1 H1 σ st s1.fh (rl.step s1)) fun vs xs F2 H2 s2 r2 => ?_
  exact fun Q hQ => hQ _ F2 H2 (Step.refl s2.fh) (.cons (Rep.mono s2.ff _ r1) r2)
theorem evr_nil : EVr X W own [] (fun _ => .ok []) := ⟨_, pa_nil, fun H0 F H σ st s rl => At.pure (rel := fun F1 H1 vs ds => Paired (RelR X.w X.K X.mg F1 H1) vs ds) s .nil⟩
theorem paired_step {F1 H1 F2 H2 : Hp} (s : Step F1 H1 F2 H2) : ∀ {vs : List V} {ds : List D}, Paired (RelR X.w X.K X.mg F1 H1) vs ds → Paired (RelR X.w X.K X.mg F2 H2) vs ds
  | _, _, .nil => .nil
  | _, _, .cons r t => .cons (RelR.step s r) (paired_step s t)
theorem evr_cons {e : Expr} {es : List Expr} {fe : SD → R D} {fs : SD → R (List D)} (hn : nostar e = true) (he : EV X W own .read e fe) (hs : EVr X W own es fs) : EVr X W own (e :: es) (fun st => (fe st).bind fun d => (fs st).bind fun ds => .ok (d :: ds)) := by
  obtain ⟨te, pe, qe⟩ := he
  obtain ⟨ts, ps, qs⟩ := hs
  refine ⟨_, pa_cons pe ps (starEach_cons hn), fun H0 F H σ st s rl => ?_⟩
  show At X.w X.K X.mg W σ F H (fun Q => te σ H fun x H1 => ts σ H1 fun xs H2 => Q (x :: xs) H2) _ _
  refine At.bind (U := fun x H1 Q => ts σ H1 fun xs H2 => Q (x :: xs) H2) (qe H0 F H σ st s rl) fun v x F1 H1 s1 r1 => ?_
  refine At.bind (U := fun xs H2 Q => Q (v :: xs) H2) (qs H0 F1 H1 σ st s1.fh (rl.step s1)) fun vs xs F2 H2 s2 r2 => ?_
  exact fun Q hQ => hQ _ F2 H2 (Step.refl s2.fh) (.cons (RelR.step s2 r1) r2)

/-! ### displays -/
theorem ev_tup {es : List Expr} {x1} {fs : SD → R (List D)} (h : EVs X W own es fs) : EV X W own .fresh (.Tuple es x1 pos) (fun st => (fs st).bind fun ds => if ds.length ≤ 16777216 then .ok (.tup ds) else .un) := by
  obtain ⟨t, p, q⟩ := h
  refine ⟨_, pe_tup p, fun H0 F H σ st s rl => ?_⟩
  show At X.w X.K X.mg W σ F H (fun Q => t σ H fun xs H1 => xs.length ≤ sizeLine ∧ ∀ p, H1 p = none → Q (V.ref p) (upd H1 p (.tup xs))) _ _
  refine At.bind (U := fun xs H1 Q => xs.length ≤ sizeLine ∧ ∀ p, H1 p = none → Q (V.ref p) (upd H1 p (.tup xs))) (q H0 F H σ st s rl) fun xs ds F1 H1 s1 r1 => ?_
  split
  · rename_i hz
    refine fun Q hQ => ⟨by rw [sizeLine_eq, r1.length]; exact hz, fun p hp => hQ _ _ _ (Step.new s1.fh hp) ?_⟩
    show Rep X.w X.K X.mg _ (.ref p) (.tup ds)
    exact .tup (SqT.of upd_same) (Reps.mono (Step.new s1.fh hp).ff _ r1)
  · trivial
theorem ev_lst {es : List Expr} {fs : SD → R (List D)} (h : EVs X W own es fs) : EV X W own .fresh (.List es pos) (fun st => (fs st).bind fun ds => if ds.length ≤ 16777216 then .ok (.lst ds) else .un) := by
  obtain ⟨t, p, q⟩ := h
  refine ⟨_, pe_lst p, fun H0 F H σ st s rl => ?_⟩
  show At X.w X.K X.mg W σ F H (fun Q => t σ H fun xs H1 => xs.length ≤ sizeLine ∧ ∀ p, H1 p = none → Q (V.ref p) (upd H1 p (.lst xs))) _ _
  refine At.bind (U := fun xs H1 Q => xs.length ≤ sizeLine ∧ ∀ p, H1 p = none → Q (V.ref p) (upd H1 p (.lst xs))) (q H0 F H σ st s rl) fun xs ds F1 H1 s1 r1 => ?_
  split
  · rename_i hz
    refine fun Q hQ => ⟨by rw [sizeLine_eq, r1.length]; exact hz, fun p hp => hQ _ F1 _ (Step.own s1.fh hp) ?_⟩
    exact ⟨p, xs, rfl, upd_same, Same.none s1.fh hp, s1.hh.free hp, r1⟩
  · trivial

/-! ### items -/
theorem atI_rep {F : Hp} {xs : List V} {ds : List D} {i : Int} {d : D} (r : Reps X.w X.K X.mg F xs ds) (h : atI ds i = some d) : ∃ v, atI xs i = some v ∧ Rep X.w X.K X.mg F v d := by
  unfold atI at h ⊢
  rw [r.length]
  cases e : ixN ds.length i with
  | none => rw [e] at h; cases h
  | some j =>
    rw [e] at h
    exact r.get h
/-- an answer that was there -/
def Leaf2K (X : Cx) (r : R2) (g : D → D → R D) : Prop :=
  ∀ (W : WX) (σ : L2.St) (F H : Hp) (x y : D) (v u : V), Same F H → RelR X.w X.K X.mg F H v x → RelR X.w X.K X.mg F H u y → At X.w X.K X.mg W σ F H (fun Q => r v u H Q) (g x y) (RelM X.w X.K X.mg .keep H)
theorem ev_op2K {a b : Expr} {fa fb : SD → R D} {e : Expr} {r : R2} {g : D → D → R D} (mk : ∀ {ta tb : TE}, PE X a ta → PE X b tb → PE X e (tOp r ta tb)) (L : Leaf2K X r g) (ha : EV X W own .read a fa) (hb : EV X W own .read b fb) :
    EV X W own .keep e (fun st => (fa st).bind fun x => (fb st).bind fun y => g x y) := by
  obtain ⟨ta, pa, qa⟩ := ha
  obtain ⟨tb, pb, qb⟩ := hb
  refine ⟨_, mk pa pb, fun H0 F H σ st s rl => ?_⟩
  show At X.w X.K X.mg W σ F H (fun Q => ta σ H fun v H1 => tb σ H1 fun u H2 => r v u H2 Q) ((fa st).bind fun x => (fb st).bind fun y => g x y) (RelM X.w X.K X.mg .keep H)
  refine At.bind (qa H0 F H σ st s rl) fun v x F1 H1 s1 r1 => ?_
  refine At.bind (qb H0 F1 H1 σ st s1.fh (rl.step s1)) fun u y F2 H2 s2 r2 => ?_
  exact L W σ F2 H2 x y v u s2.fh (RelR.step s2 r1) r2
theorem leaf_idx0 {W : WX} {σ : L2.St} {F H : Hp} {x y : D} {v u : V} (s : Same F H) (rx : RelR X.w X.K X.mg F H v x) (ry : RelR X.w X.K X.mg F H u y) (hd : ¬∃ ks vs, x = .dct ks vs) : At X.w X.K X.mg W σ F H (fun Q => rIx X.K v u H Q) (idxD x y) (RelM X.w X.K X.mg .keep H) := by
  cases y with
  | int i =>
    cases ry.int
    cases x with
    | lst ds =>
      obtain ⟨a, xs, rfl, h1, r1⟩ := rx.lst s
      show At _ _ _ W σ F H _ (ofO id (atI ds i)) _
      cases e : atI ds i with
      | none => trivial
      | some d =>
        obtain ⟨w', e2, r2⟩ := atI_rep r1 e
        exact fun Q hQ => .inl ⟨a, xs, i, w', rfl, rfl, h1, e2, hQ w' F H (Step.refl s) r2⟩
    | tup ds =>
      obtain ⟨a, xs, rfl, _, h1, r1⟩ := rx.tup s
      show At _ _ _ W σ F H _ (ofO id (atI ds i)) _
      cases e : atI ds i with
      | none => trivial
      | some d =>
        obtain ⟨w', e2, r2⟩ := atI_rep r1 e
        exact fun Q hQ => .inr (.inl ⟨a, xs, i, w', rfl, rfl, h1, e2, hQ w' F H (Step.refl s) r2⟩)
    | str z =>
      cases rx.str
      show At _ _ _ W σ F H _ (if z.length ≤ 16777216 then ofO (fun c => D.str ⟨#[c]⟩) (atI z.cps.toList i) else .un) _
      split
      · rename_i hz
        cases e : atI z.cps.toList i with
        | none => trivial
        | some c => exact fun Q hQ => .inr (.inr ⟨z, i, c, rfl, rfl, by rw [sizeLine_eq]; exact hz, e, hQ _ F H (Step.refl s) (.str _)⟩)
      · trivial
    | dct ks vs => exact absurd ⟨ks, vs, rfl⟩ hd
    | _ => trivial
  | _ =>
    cases x with
    | dct ks vs => exact absurd ⟨ks, vs, rfl⟩ hd
    | _ => trivial
theorem leaf_idx : Leaf2K X (fun x y H Q => rIx X.K x y H Q ∨ rIxD X x y H Q) idxD := by
  intro W σ F H x y v u s rx ry
  by_cases hd : ∃ ks vs, x = .dct ks vs
  · obtain ⟨ks, vs, rfl⟩ := hd
    show At _ _ _ W σ F H _ ((dIdx ks y).bind fun o => valD vs o) _
    cases e : dIdx ks y with
    | un => trivial
    | ex _ _ _ => exact absurd e (dIdx_ex _ _)
    | ok r =>
      obtain ⟨a, ro, rfl, _, h1, h2, h3⟩ := dct_look s rx ry e
      cases r with
      | none => trivial
      | some j =>
        obtain ⟨w', z, d, rfl, q2, q3, q4⟩ := h3 j rfl
        show At _ _ _ W σ F H _ (ofO id vs[j]?) _
        rw [q3]
        exact fun Q hQ => .inr ⟨a, w', z, rfl, h1, q2, hQ z F H (Step.refl s) q4⟩
  have key : At X.w X.K X.mg W σ F H (fun Q => rIx X.K v u H Q) (idxD x y) (RelM X.w X.K X.mg .keep H) := leaf_idx0 s rx ry hd
  exact key.map (f := id) (fun Q q => .inl q) fun b a F1 H1 _ z => z
def plainIx : Expr → Bool
  | .Slice _ _ _ _ => false
  | _ => true
theorem plainIx_ok {b : Expr} (h : plainIx b = true) : PlainIx b := by
  intro o i
  cases b <;> first | rfl | cases h
theorem ev_idx {a b : Expr} {fa fb : SD → R D} (hu : X.A.units + 65 < cLine) (hb' : plainIx b = true) (ha : EV X W own .read a fa) (hb : EV X W own .read b fb) : EV X W own .keep (.Subscript a b pos) (fun st => (fa st).bind fun x => (fb st).bind fun y => idxD x y) :=
  ev_op2K (fun p q => pe_ix (ix_seq.or (ix_D hu)) p q (plainIx_ok hb')) leaf_idx ha hb

/-! ### slices -/
def EO (X : Cx) (W : WX) (own : List Nat) (e : Option Expr) (f : SD → R (Option Int)) : Prop :=
  ∃ t : TO, PO X e t ∧ ∀ (H0 F H : Hp) (σ : L2.St) (st : SD), Same F H → SRel X.w X.K X.mg own H0 F H σ st → At X.w X.K X.mg W σ F H (t σ H) (f st) (fun _ _ b a => b = a)
theorem eo_none : EO X W own none (fun _ => .ok none) := ⟨_, po_none, fun H0 F H σ st s rl => At.pure (rel := fun _ _ b a => b = a) s rfl⟩
theorem eo_some {e : Expr} {fe : SD → R D} (h : EV X W own .read e fe) : EO X W own (some e) (fun st => (fe st).bind fun d => match d with
    | .int i => .ok (some i)
    | _ => .un) := by
  obtain ⟨t, p, q⟩ := h
  refine ⟨_, po_some p, fun H0 F H σ st s rl => ?_⟩
  show At X.w X.K X.mg W σ F H (fun Q => t σ H fun x H1 => ∃ i, x = V.int i ∧ Q (some i) H1) _ _
  refine At.bind (U := fun x H1 Q => ∃ i, x = V.int i ∧ Q (some i) H1) (q H0 F H σ st s rl) fun v x F1 H1 s1 r1 => ?_
  cases x with
  | int i => exact fun Q hQ => ⟨i, (RelM.toRead r1).int, hQ _ F1 H1 (Step.refl s1.fh) rfl⟩
  | _ => trivial
theorem ev_slice {a : Expr} {lo hi : Option Expr} {p2 : Pos} {fa : SD → R D} {fl fh : SD → R (Option Int)} (ha : EV X W own .read a fa) (hl : EO X W own lo fl) (hh : EO X W own hi fh) :
    EV X W own .fresh (.Subscript a (.Slice lo hi none p2) pos) (fun st => (fa st).bind fun x => (fl st).bind fun l => (fh st).bind fun h => sliceD x l h) := by
  obtain ⟨ta, pa, qa⟩ := ha
  obtain ⟨tl, pl, ql⟩ := hl
  obtain ⟨th, ph, qh⟩ := hh
  refine ⟨_, pe_slice (sl_list.or (sl_tupA.or sl_str)) pa pl ph, fun H0 F H σ st s rl => ?_⟩
  show At X.w X.K X.mg W σ F H (fun Q => ta σ H fun x H1 => tl σ H1 fun l H2 => th σ H2 fun u H3 => (rSlL X.K x l u H3 Q ∨ rSlA X.K x l u H3 Q ∨ rSlS x l u H3 Q)) _ _
  refine At.bind (U := fun x H1 Q => tl σ H1 fun l H2 => th σ H2 fun u H3 => (rSlL X.K x l u H3 Q ∨ rSlA X.K x l u H3 Q ∨ rSlS x l u H3 Q)) (qa H0 F H σ st s rl) fun v x F1 H1 s1 r1 => ?_
  refine At.bind (U := fun l H2 Q => th σ H2 fun u H3 => (rSlL X.K v l u H3 Q ∨ rSlA X.K v l u H3 Q ∨ rSlS v l u H3 Q)) (ql H0 F1 H1 σ st s1.fh (rl.step s1)) fun l l' F2 H2 s2 r2 => ?_
  subst r2
  refine At.bind (U := fun u H3 Q => (rSlL X.K v l u H3 Q ∨ rSlA X.K v l u H3 Q ∨ rSlS v l u H3 Q)) (qh H0 F2 H2 σ st s2.fh (rl.step (s1.trans s2))) fun h h' F3 H3 s3 r3 => ?_
  subst r3
  have rx := RelR.step (s2.trans s3) r1
  cases x with
  | lst ds =>
    obtain ⟨a, xs, rfl, h1, r1⟩ := RelR.lst s3.fh rx
    refine fun Q hQ => .inl ⟨a, xs, rfl, h1, fun p hp => hQ _ F3 _ (Step.own s3.fh hp) ⟨p, _, rfl, upd_same, Same.none s3.fh hp, ((s1.hh.trans s2.hh).trans s3.hh).free hp, ?_⟩⟩
    unfold cutV cutD
    rw [r1.length]
    exact (r1.drop _).take _
  | tup ds =>
    obtain ⟨a, xs, rfl, k1, h1, r1⟩ := RelR.tup s3.fh rx
    refine fun Q hQ => .inr (.inl ⟨a, xs, rfl, h1, fun hw => hQ _ F3 H3 (Step.refl s3.fh) ?_, fun hw p hp => hQ _ _ _ (Step.new s3.fh hp) ?_⟩)
    · show Rep X.w X.K X.mg F3 (.ref a) (.tup (cutD ds l h))
      have e : cutD ds l h = ds := by
        unfold cutD
        rw [← r1.length, hw.1, hw.2, List.drop_zero, Nat.sub_zero, List.take_of_length_le (Nat.le_of_eq r1.length.symm)]
      rw [e]
      exact .tup k1 r1
    · show Rep X.w X.K X.mg _ (.ref p) (.tup (cutD ds l h))
      refine .tup (SqT.of upd_same) (Reps.mono (Step.new s3.fh hp).ff _ ?_)
      unfold cutV cutD
      rw [r1.length]
      exact (r1.drop _).take _
  | str z =>
    cases RelR.str rx
    show At _ _ _ W σ F3 H3 _ (if z.length ≤ 16777216 then .ok (D.str (cutS z l h)) else .un) _
    split
    · rename_i hz
      exact at_flat s3.fh (fun Q q => .inr (.inr ⟨z, rfl, by rw [sizeLine_eq]; exact hz, q⟩)) (.str _) rfl
    · trivial
  | _ => trivial
end
end Dl

/-! DlE2: the promise of a def where no display of an object is under way (so that repr may be called within). -/
namespace Dl
open PySem PySem.Spec PyProof.Rows L2

/-- what a def promises, at every place with no guard up -/
structure FnG (P : Program) (w : World) (K : PySem.W.Frag) (mg : Str → Option Value) (base : Heap) (k : Nat) (f : Addr) (fd : FuncData) (ps : List Str) (sp : Sp) : Prop where
  len : ∀ vs H Q E, sp vs H Q E → vs.length = ps.length
  run : ∀ (A : Around) (up : List Env) (s : Shared) (H : Hp) (args : Args) (us : List Value) (vs : List V) (Q : VK) (E : XK), A.guards = some [] → Room k A → Env0 P w K mg base A up s H → BindsTo s fd args (ps.zip us) → Vals vs us → sp vs H Q E →
    codeAny (model P w) A (.call (.ref f) args) (CR (L2.CX P w) up P w H s Q E) s
theorem FnG.mono {P : Program} {w : World} {K : PySem.W.Frag} {mg : Str → Option Value} {base : Heap} {j k : Nat} {f : Addr} {fd : FuncData} {ps : List Str} {sp : Sp} (F : FnG P w K mg base j f fd ps sp) (h : j ≤ k) : FnG P w K mg base k f fd ps sp :=
  ⟨F.len, fun A up s H args us vs Q E gd room => F.run A up s H args us vs Q E gd (room.mono h)⟩
section
variable {X : Cx} {k : Nat} {f : Addr} {fd : FuncData} {ps : List Str} {sp : Sp} {E : L2.St → XK} {x : Str} {p pos : Pos} {e : Expr} {es : List Expr} {t : TA}
/-- from a body: the call itself -/
theorem runG {pins : List (Addr × Obj)} {σ : L2.St} {H : Hp} {s : Shared} {Q : VK} {us : List Value} {vs : List V} (F : FnG X.prog X.w X.K X.mg X.base k f fd ps sp) (gd : X.A.guards = some []) (room : Room k X.A) (bd : Binds X.K fd ps []) (out : PassesAt (L2.CX X.prog X.w) X σ (E σ))
    (I : Inv X pins σ H s) (r : Vals vs us) (h : sp vs H Q (E σ)) : wpAny (model X.prog X.w) X.A (call (.ref f) us) (EP X pins σ Q) X.xe s := by
  have len : us.length = ps.length := (r.length).symm.trans (F.len _ _ _ _ h)
  have bt := bd s us I.kIn (by rw [List.append_nil]; exact len)
  rw [List.append_nil] at bt
  refine wpAny_call (codeAny_mono (F.run X.A X.stack s H _ us vs Q (E σ) gd room I.env0 bt r h) fun end_ s2 got => ?_)
  match end_, got with
  | .error ev, got => exact out pins H s ev s2 I got
  | .ok (.ret uv), got => exact I.after got
theorem pe_callG (F : FnG X.prog X.w X.K X.mg X.base k f fd ps sp) (gd : X.A.guards = some []) (room : Room k X.A) (hg : Gl X x) (hm : X.mg x = some (.ref f)) (kp : PySem.W.keepIn X.K (.ref f) = true) (bd : Binds X.K fd ps []) (out : ∀ σ, PassesAt (L2.CX X.prog X.w) X σ (E σ))
    (ha : PA X (e :: es) t) (hdb : (x == ("__debug__" : Str)) = false) (he : starEach (e :: es) X.env = (false, eval e X.env) :: starEach es X.env) (hpl : (backTo pos (starEach es X.env)).any (·.1) = false) :
    PE X (.Call (.Name x p) (e :: es) [] pos) (fun σ H Q => t σ H fun vs H1 => sp vs H1 Q (E σ)) :=
  ⟨fun pins s σ H Q I h => wpAny_Call_Name_kw (ld_glob I hg hm (PySem.W.callWith_K (h₀ := X.base) I.ok.mod.kin kp (thn (ha.run pos pins s σ H _ I h) fun us s1 ⟨vs, H1, I1, r, q⟩ => ⟨I1.kIn, runG F gd room bd (out σ) I1 r q⟩) he hpl) hdb)⟩
theorem pe_callG0 (F : FnG X.prog X.w X.K X.mg X.base k f fd ps sp) (gd : X.A.guards = some []) (room : Room k X.A) (hg : Gl X x) (hm : X.mg x = some (.ref f)) (kp : PySem.W.keepIn X.K (.ref f) = true) (bd : Binds X.K fd ps []) (out : ∀ σ, PassesAt (L2.CX X.prog X.w) X σ (E σ)) (hdb : (x == ("__debug__" : Str)) = false) :
    PE X (.Call (.Name x p) [] [] pos) (fun σ H Q => sp [] H Q (E σ)) :=
  ⟨fun pins s σ H Q I h => wpAny_Call_Name_kw (ld_glob I hg hm (PySem.W.callWith_K0 I.kIn kp (runG (us := []) F gd room bd (out σ) I .nil h)) hdb)⟩
/-- the same where the rest of the parameters has defaults -/
theorem runGd {pins : List (Addr × Obj)} {σ : L2.St} {H : Hp} {s : Shared} {Q : VK} {us dus : List Value} {vs dvs : List V} (F : FnG X.prog X.w X.K X.mg X.base k f fd ps sp) (gd : X.A.guards = some []) (room : Room k X.A) (bd : Binds X.K fd ps dus) (rd : Vals dvs dus) (out : PassesAt (L2.CX X.prog X.w) X σ (E σ))
    (I : Inv X pins σ H s) (r : Vals vs us) (h : sp (vs ++ dvs) H Q (E σ)) : wpAny (model X.prog X.w) X.A (call (.ref f) us) (EP X pins σ Q) X.xe s := by
  have ra := r.append rd
  have len : (us ++ dus).length = ps.length := ra.length.symm.trans (F.len _ _ _ _ h)
  have bt := bd s us I.kIn len
  refine wpAny_call (codeAny_mono (F.run X.A X.stack s H _ (us ++ dus) (vs ++ dvs) Q (E σ) gd room I.env0 bt ra h) fun end_ s2 got => ?_)
  match end_, got with
  | .error ev, got => exact out pins H s ev s2 I got
  | .ok (.ret uv), got => exact I.after got
theorem pe_callGd {dus : List Value} {dvs : List V} (F : FnG X.prog X.w X.K X.mg X.base k f fd ps sp) (gd : X.A.guards = some []) (room : Room k X.A) (hg : Gl X x) (hm : X.mg x = some (.ref f)) (kp : PySem.W.keepIn X.K (.ref f) = true) (bd : Binds X.K fd ps dus) (rd : Vals dvs dus) (out : ∀ σ, PassesAt (L2.CX X.prog X.w) X σ (E σ))
    (ha : PA X (e :: es) t) (hdb : (x == ("__debug__" : Str)) = false) (he : starEach (e :: es) X.env = (false, eval e X.env) :: starEach es X.env) (hpl : (backTo pos (starEach es X.env)).any (·.1) = false) :
    PE X (.Call (.Name x p) (e :: es) [] pos) (fun σ H Q => t σ H fun vs H1 => sp (vs ++ dvs) H1 Q (E σ)) :=
  ⟨fun pins s σ H Q I h => wpAny_Call_Name_kw (ld_glob I hg hm (PySem.W.callWith_K (h₀ := X.base) I.ok.mod.kin kp (thn (ha.run pos pins s σ H _ I h) fun us s1 ⟨vs, H1, I1, r, q⟩ => ⟨I1.kIn, runGd F gd room bd rd (out σ) I1 r q⟩) he hpl) hdb)⟩
theorem pe_callGd0 {dus : List Value} {dvs : List V} (F : FnG X.prog X.w X.K X.mg X.base k f fd ps sp) (gd : X.A.guards = some []) (room : Room k X.A) (hg : Gl X x) (hm : X.mg x = some (.ref f)) (kp : PySem.W.keepIn X.K (.ref f) = true) (bd : Binds X.K fd ps dus) (rd : Vals dvs dus) (out : ∀ σ, PassesAt (L2.CX X.prog X.w) X σ (E σ)) (hdb : (x == ("__debug__" : Str)) = false) :
    PE X (.Call (.Name x p) [] [] pos) (fun σ H Q => sp ([] ++ dvs) H Q (E σ)) :=
  ⟨fun pins s σ H Q I h => wpAny_Call_Name_kw (ld_glob I hg hm (PySem.W.callWith_K0 I.kIn kp (runGd (us := []) F gd room bd rd (out σ) I .nil h)) hdb)⟩
/-- f(e, .., k = v, ..) -/
theorem pe_callGk {ks : List Str} {kws : List Keyword} {n : Nat} {g : List Value → List Value → List Value} {gV : List V → List V → List V} {tk : TA} (F : FnG X.prog X.w X.K X.mg X.base k f fd ps sp) (gd : X.A.guards = some []) (room : Room k X.A) (hg : Gl X x) (hm : X.mg x = some (.ref f)) (kp : PySem.W.keepIn X.K (.ref f) = true) (hb : KBn X.K fd ps n ks g gV) (out : ∀ σ, PassesAt (L2.CX X.prog X.w) X σ (E σ))
    (ha : PA X (e :: es) t) (hkw : PK X kws tk) (hall : (backToKw pos (keywordEach kws X.env)).all (·.1.isSome) = true) (hks : (backToKw pos (keywordEach kws X.env)).filterMap (·.1) = ks)
    (hdb : (x == ("__debug__" : Str)) = false) (he : starEach (e :: es) X.env = (false, eval e X.env) :: starEach es X.env)
    (hpl : ((backTo pos (starEach (e :: es) X.env)).any (·.1) || (backToKw pos (keywordEach kws X.env)).any (·.1.isNone)) = false) :
    PE X (.Call (.Name x p) (e :: es) kws pos) (fun σ H Q => t σ H fun vs H1 => tk σ H1 fun zs H2 => vs.length = n ∧ zs.length = ks.length ∧ sp (gV vs zs) H2 Q (E σ)) := by
  refine ⟨fun pins s σ H Q I h => ?_⟩
  refine wpAny_Call_Name_kw (ld_glob I hg hm ?_ hdb)
  refine PySem.W.callWith_KW (h₀ := X.base) I.ok.mod.kin kp hall (thn (ha.run pos pins s σ H _ I h) fun us s1 ⟨vs, H1, I1, r, q⟩ => ?_) hpl he
  refine thn (hkw.run pos pins s1 σ H1 _ I1 q) fun ws s2 ⟨zs, H2, I2, rz, l1, l2, q2⟩ => ⟨I2.kIn, ?_⟩
  rw [hks]
  refine wpAny_call (codeAny_mono (F.run X.A X.stack s2 H2 ⟨us, ks.zip ws⟩ (g us ws) (gV vs zs) Q (E σ) gd room I2.env0 (hb.to s2 us ws I2.kIn (r.length.symm.trans l1) (rz.length.symm.trans l2)) (hb.rel r rz) q2) fun end_ s3 got => ?_)
  match end_, got with
  | .error ev, got => exact out σ pins H2 s2 ev s3 I2 got
  | .ok (.ret uv), got => exact I2.after got
end
/-- a def of the text keeps its promise: its body as a term of rules, and the reading of that term -/
theorem fnG {P : Program} {w : World} {K : PySem.W.Frag} {mg : Str → Option Value} {base : Heap} {x qual : Str} {st : Stmt} {f : Addr} {fd : FuncData} {N ps : List Str} {k : Nat} {sp : Sp} (F : Fun K x qual st f fd) (S : FnScope N ps (defScope st)) (len : ∀ vs H Q E, sp vs H Q E → vs.length = ps.length)
    (body : ∀ (cdv : Value) (A : Around) (up : List Env) (s : Shared) (H : Hp) (vs : List V) (Q : VK) (E : XK), A.guards = some [] → Room k (A.deeper (envOfC qual (defScope st) s.heap.objs.size f cdv)) → sp vs H Q E →
      ∃ t, PSs (cxOf (L2.CX P w) P w K mg base N qual (defScope st) f cdv A up s H E) (defBody st) t ∧ t { nx := fun _ H' => Q .non H', rt := Q } (start N vs) H) : FnG P w K mg base (k + 1) f fd ps sp := by
  obtain ⟨oc, od, kV, doc, pm, an, cdv, ct, osl, rfl, lk, hcd⟩ := F.ex
  refine ⟨len, fun A up s H args us vs Q E gd room e0 bt r want => ?_⟩
  have inK : K.In s.heap := e0.mod.kin.keeps fun b o e => (e0.bs b o e).1
  have cellOk : ∀ y ∈ ps.zip us, (defScope st).names.lookup y.1 = some .local ∨ ((defScope st).names.lookup y.1 = some .cell ∧ ((cellsFrom (s.heap.objs.size + 1) (defScope st).names []).lookup y.1).isSome = true) := fun y hy =>
    (S.par y.1 (List.of_mem_zip hy).1).imp_right fun q => ⟨q, PySem.W.cellsFrom_some _ _ _ (.inl q)⟩
  refine codeAny_call_function room.depth (inK _ _ lk) rfl S.co S.gen rfl (PySem.W.codeRec_of inK hcd) (bt _ _ _ _ (wpAny_newFunctionEnv_cells S.kind cellOk fun env he s1 into => ?_))
  subst he
  refine ⟨(e0.mod.nolimit.keeps fun b o e => (e0.bs b o e).1).keeps into.toInCall.keep, codeAny_func ?_⟩
  obtain ⟨t, ht, hq⟩ := body cdv A up s H vs Q E gd (room.deeper _) want
  have I := inv_start (CX := L2.CX P w) (cd := cdv) (E := E) (mg := mg) S room.hd e0 (len _ _ _ _ want) r into
  refine wpAny_mono (ht.run [] s1 (start N vs) H _ I hq) (fun fl s2 got => ?_) fun _ _ z => z
  match fl, got with
  | .ret u, ⟨v, _, H2, J, rv, q⟩ => exact ⟨v, H2, J.os, J.bare, J.base, J.hok, rv, q⟩
  | .next, ⟨_, H2, J, q⟩ => exact ⟨.non, H2, J.os, J.bare, J.base, J.hok, rfl, q⟩
  | .brk, ⟨_, _, _, q⟩ => exact q.elim
  | .cont, ⟨_, _, _, q⟩ => exact q.elim
end Dl

/-! DlE3: methods of own instances and the making of instances, by promises that hold where no guard is up. -/
namespace Dl
open PySem PySem.Spec PyProof.Rows L2

theorem wp_meth {prog : Program} {w : World} {A : Around} {env : Env} {E : Value → Shared → Prop} {s : Shared} {o : Expr} {name : Str} {apos pos : Pos} {args : List Expr} {Q : Value → Shared → Prop}
    (hbase : attributeBase o name env (eval o env) = eval o env)
    (hfew : ((backTo pos (starEach args env)).all (fun x => !x.1) && (backToKw pos (keywordEach [] env)).all (fun x => x.1.isSome)
      && decide (args.length + ([] : List Keyword).length + (if ([] : List Keyword).isEmpty then 0 else 1) < 30)) = true)
    (hline : (apos.endLine == pos.line) = true)
    (h : wpAny (model prog w) A (eval o env) (fun ov s₁ => wpAny (model prog w) A (getMethod ov name (do return (← importBound o env).getD true)) (fun fx s₂ => wpAny (model prog w) A (callWith pos fx.1 fx.2 (backTo pos (starEach args env)) (backToKw pos (keywordEach [] env))) Q E s₂) E s₁) E s) :
    wpAny (model prog w) A (eval (.Call (.Attribute o name apos) args [] pos) env) Q E s := by
  rw [arm_eval_Call, hbase]
  refine wpAny_bind (wpAny_mono h (fun ov s₁ h₁ => ?_) fun _ _ e => e)
  refine wpAny_bind (wpAny_standAt ?_)
  have hform : methodCallForm (args.length + ([] : List Keyword).length) (backTo pos (starEach args env)) (backToKw pos (keywordEach [] env)) = true := hfew
  have hpos : methodCallPos true o env apos pos = pure pos := by unfold methodCallPos; simp [hline]
  unfold methodCall
  rw [hform]
  refine wpAny_bind (wpAny_holding (wpAny_mono h₁ (fun fx s₂ h₂ => ?_) fun _ _ e => e))
  exact wpAny_bind (wpAny_of_eq hpos h₂)
/-- a method as the program's text has it, with a promise -/
def MethG (P : Program) (w : World) (K : PySem.W.Frag) (mg : Str → Option Value) (base : Heap) (k : Nat) (C : Addr) (m : Str) (sp : Sp) : Prop :=
  ∃ (f : Addr) (fd : FuncData) (ps : List Str), Cls K C ∧ Meth K C m f ∧ FnG P w K mg base k f fd ps sp ∧ Binds K fd ps []
/-- a class and its __init__'s promise -/
def MakeG (P : Program) (w : World) (K : PySem.W.Frag) (mg : Str → Option Value) (base : Heap) (k : Nat) (C : Addr) (sp : Sp) : Prop :=
  ∃ (f : Addr) (fd : FuncData) (ps : List Str), Mk K C f ∧ FnG P w K mg base k f fd ps sp ∧ Binds K fd ps []
section
variable {X : Cx} {k : Nat} {E : L2.St → XK} {x m : Str} {C : Addr} {p pos apos : Pos} {o e : Expr} {es : List Expr} {ta : TE} {t : TA} {sp : Sp}
def tMethG (X : Cx) (k : Nat) (m : Str) (E : L2.St → XK) (ta : TE) (t : TA) : TE := fun σ H Q => ta σ H fun x H1 => ∃ a C dx fs sp, x = .ref a ∧ H1 a = some (.ins C dx fs) ∧ fs.lookup m = none ∧ MethG X.prog X.w X.K X.mg X.base k C m sp ∧ t σ H1 fun vs H2 => sp (x :: vs) H2 Q (E σ)
theorem pe_methG (gd : X.A.guards = some []) (room : Room k X.A) (out : ∀ σ, PassesAt (L2.CX X.prog X.w) X σ (E σ)) (ho : PE X o ta) (ha : PA X (e :: es) t)
    (hbase : attributeBase o m X.env (eval o X.env) = eval o X.env)
    (hfew : ((backTo pos (starEach (e :: es) X.env)).all (fun x => !x.1) && (backToKw pos (keywordEach [] X.env)).all (fun x => x.1.isSome)
      && decide ((e :: es).length + ([] : List Keyword).length + (if ([] : List Keyword).isEmpty then 0 else 1) < 30)) = true)
    (hline : (apos.endLine == pos.line) = true) (he : starEach (e :: es) X.env = (false, eval e X.env) :: starEach es X.env) (hpl : (backTo pos (starEach es X.env)).any (·.1) = false) :
    PE X (.Call (.Attribute o m apos) (e :: es) [] pos) (tMethG X k m E ta t) := by
  refine ⟨fun pins s σ H Q I h => ?_⟩
  refine wp_meth hbase hfew hline (thn (ho.run pins s σ H _ I h) fun u s1 ⟨x, H1, I1, rx, a, C, dx, fs, sp, ex, ea, l, ⟨f, fd, ps, c, hm, F, bd⟩, q⟩ => ?_)
  subst ex
  obtain rfl : u = Value.ref a := rx
  refine getmeth_ok I1 ea c hm l ?_
  refine PySem.W.callWith_K (first := [.ref a]) (h₀ := X.base) I.ok.mod.kin hm.kp (thn (ha.run pos pins s1 σ H1 _ I1 q) fun us s2 ⟨vs, H2, I2, r, q2⟩ => ⟨I2.kIn, ?_⟩) he hpl
  exact runG (us := .ref a :: us) (vs := .ref a :: vs) F gd room bd (out σ) I2 (.cons rfl r) q2
def tMethG0 (X : Cx) (k : Nat) (m : Str) (E : L2.St → XK) (ta : TE) : TE := fun σ H Q => ta σ H fun x H1 => ∃ a C dx fs sp, x = .ref a ∧ H1 a = some (.ins C dx fs) ∧ fs.lookup m = none ∧ MethG X.prog X.w X.K X.mg X.base k C m sp ∧ sp [x] H1 Q (E σ)
theorem pe_methG0 (gd : X.A.guards = some []) (room : Room k X.A) (out : ∀ σ, PassesAt (L2.CX X.prog X.w) X σ (E σ)) (ho : PE X o ta)
    (hbase : attributeBase o m X.env (eval o X.env) = eval o X.env) (hline : (apos.endLine == pos.line) = true) :
    PE X (.Call (.Attribute o m apos) [] [] pos) (tMethG0 X k m E ta) := by
  refine ⟨fun pins s σ H Q I h => ?_⟩
  refine wp_meth hbase rfl hline (thn (ho.run pins s σ H _ I h) fun u s1 ⟨x, H1, I1, rx, a, C, dx, fs, sp, ex, ea, l, ⟨f, fd, ps, c, hm, F, bd⟩, q⟩ => ?_)
  subst ex
  obtain rfl : u = Value.ref a := rx
  refine getmeth_ok I1 ea c hm l ?_
  exact PySem.W.callWith_K0 (first := [.ref a]) I1.kIn hm.kp (runG (us := [.ref a]) (vs := [.ref a]) F gd room bd (out σ) I1 (.cons rfl .nil) q)
/-- a new instance: its dict, and behind it the object -/
def NewAt (H : Hp) (p dx : Addr) : Prop := p = dx + 1 ∧ ∀ q : Addr, dx ≤ q → H q = none
theorem NewAt.at_p {H : Hp} {p dx : Addr} (h : NewAt H p dx) : H p = none := h.2 p (by rw [h.1]; exact Nat.le_succ dx)
theorem NewAt.at_d {H : Hp} {p dx : Addr} (h : NewAt H p dx) : H dx = none := h.2 dx (Nat.le_refl dx)
theorem NewAt.at_ne {H : Hp} {p dx : Addr} (h : NewAt H p dx) : dx ≠ p := by rw [h.1]; exact Nat.ne_of_lt (Nat.lt_succ_self dx)
def tMakeG (C : Addr) (sp : Sp) (E : L2.St → XK) (t : TA) : TE := fun σ H Q => t σ H fun vs H1 => ∀ p dx, NewAt H1 p dx → sp (.ref p :: vs) (upd (upd H1 dx (.own p)) p (.ins C dx [])) (fun v H2 => v = .non ∧ Q (.ref p) H2) (E σ)
theorem run_makeG {pins : List (Addr × Obj)} {σ : L2.St} {H : Hp} {s : Shared} {Q : VK} {us : List Value} {vs : List V} (M : MakeG X.prog X.w X.K X.mg X.base k C sp) (gd : X.A.guards = some []) (hr : Room (k + 1) X.A) (out : ∀ σ, PassesAt (L2.CX X.prog X.w) X σ (E σ))
    (I : Inv X pins σ H s) (r : Vals vs us)
    (h : ∀ p dx, NewAt H p dx → sp (.ref p :: vs) (upd (upd H dx (.own p)) p (.ins C dx [])) (fun v H2 => v = .non ∧ Q (.ref p) H2) (E σ)) :
    wpAny (model X.prog X.w) X.A (call (.ref C) us) (EP X pins σ Q) X.xe s := by
  obtain ⟨f, fd, ps, M, F, hb⟩ := M
  have hq := h (s.heap.objs.size + 1) s.heap.objs.size ⟨rfl, fun q hq => I.hok.fresh hq⟩
  have I2 := Inv.made (C := C) I
  have r2 : Vals (V.ref (s.heap.objs.size + 1) :: vs) (Value.ref (s.heap.objs.size + 1) :: us) := .cons rfl r
  have hl : (Value.ref (s.heap.objs.size + 1) :: us).length = ps.length := by
    have e := r2.length
    rw [F.len _ _ _ _ hq] at e
    exact e.symm
  have bt := hb _ (Value.ref (s.heap.objs.size + 1) :: us) I2.kIn (by rw [List.append_nil]; exact hl)
  rw [List.append_nil] at bt
  refine wpAny_call (make_map (f := f) I.kIn M.makes M.init (beq_iff_eq.mp M.fn) (codeAny_mono (F.run _ X.stack _ _ ⟨Value.ref (s.heap.objs.size + 1) :: us, []⟩ (Value.ref (s.heap.objs.size + 1) :: us) _ _ (E σ) gd (hr.make C us [])
    (I2.env0.make C us []) bt r2 hq) fun r s' hq' => ?_))
  match r, hq' with
  | .error ev, got => exact out σ pins _ _ ev s' I2 got
  | .ok (.ret u), got =>
    obtain ⟨v, H', I3, rv, ev, q3⟩ := I2.after got
    subst ev
    exact ⟨rv, ⟨V.ref (s.heap.objs.size + 1), H', I3, rfl, q3⟩⟩
theorem pe_makeG (M : MakeG X.prog X.w X.K X.mg X.base k C sp) (gd : X.A.guards = some []) (hr : Room (k + 1) X.A) (hg : Gl X x) (hm : X.mg x = some (.ref C)) (out : ∀ σ, PassesAt (L2.CX X.prog X.w) X σ (E σ))
    (ha : PA X (e :: es) t) (hdb : (x == ("__debug__" : Str)) = false) (he : starEach (e :: es) X.env = (false, eval e X.env) :: starEach es X.env) (hpl : (backTo pos (starEach es X.env)).any (·.1) = false) :
    PE X (.Call (.Name x p) (e :: es) [] pos) (tMakeG C sp E t) := by
  refine ⟨fun pins s σ H Q I h => ?_⟩
  have kp : PySem.W.keepIn X.K (.ref C) = true := by obtain ⟨f, fd, ps, M, F, hb⟩ := M; exact M.kp
  refine wpAny_Call_Name_kw (ld_glob I hg hm ?_ hdb)
  refine PySem.W.callWith_K (h₀ := X.base) I.ok.mod.kin kp (thn (ha.run pos pins s σ H _ I h) fun us s1 ⟨vs, H1, I1, r, q⟩ => ⟨I1.kIn, ?_⟩) he hpl
  exact run_makeG M gd hr out I1 r q
theorem pe_makeG0 (M : MakeG X.prog X.w X.K X.mg X.base k C sp) (gd : X.A.guards = some []) (hr : Room (k + 1) X.A) (hg : Gl X x) (hm : X.mg x = some (.ref C)) (out : ∀ σ, PassesAt (L2.CX X.prog X.w) X σ (E σ))
    (hdb : (x == ("__debug__" : Str)) = false) :
    PE X (.Call (.Name x p) [] [] pos) (tMakeG C sp E (fun σ H Q => Q [] H)) := by
  refine ⟨fun pins s σ H Q I h => ?_⟩
  have kp : PySem.W.keepIn X.K (.ref C) = true := by obtain ⟨f, fd, ps, M, F, hb⟩ := M; exact M.kp
  refine wpAny_Call_Name_kw (ld_glob I hg hm ?_ hdb)
  exact PySem.W.callWith_K0 I.kIn kp (run_makeG (us := []) M gd hr out I .nil h)
end
end Dl

/-! DlF: built-ins, isinstance, repr, calls of defs, fields. -/
namespace Dl
open PySem PySem.Spec PyProof.Rows L2

section
variable {X : Cx} {W : WX} {own : List Nat} {m : Md} {e : Expr} {f : SD → R D} {pos : Pos}

/-! ### built-ins of one argument -/
theorem ev_b1 {a : Expr} {fa : SD → R D} {x : Str} {id : String} {p : Pos} {r : List V → Hp → VK → Prop} {g : D → R D} (hc : CallR X (.builtin id) r) (hg : Gl X x) (hm : X.mg x = none) (hv : bootBuiltins x = some (.builtin id)) (hn : x ≠ "__name__") (hdb : (x == ("__debug__" : Str)) = false)
    (ns : nostar a = true) (L : Leaf1 X (fun v H Q => r [v] H Q) g) (ha : EV X W own .read a fa) : EV X W own .fresh (.Call (.Name x p) [a] [] pos) (fun st => (fa st).bind fun x => g x) :=
  ev_op1 (r := fun v H Q => r [v] H Q) (fun q => pe_callB hc hg hm hv (pa_cons q pa_nil (starEach_cons ns)) hn hdb (starEach_cons ns) (backTo_plain rfl)) L ha
theorem ev_t1 {a : Expr} {fa : SD → R D} {x : Str} {T : String} {p : Pos} {r : List V → Hp → VK → Prop} {g : D → R D} (hc : CallR X (.type T) r) (hg : Gl X x) (hm : X.mg x = none) (hv : bootBuiltins x = some (.type T)) (hn : x ≠ "__name__") (hdb : (x == ("__debug__" : Str)) = false)
    (ns : nostar a = true) (L : Leaf1 X (fun v H Q => r [v] H Q) g) (ha : EV X W own .read a fa) : EV X W own .fresh (.Call (.Name x p) [a] [] pos) (fun st => (fa st).bind fun x => g x) :=
  ev_op1 (r := fun v H Q => r [v] H Q) (fun q => pe_callTy hc hg hm hv (pa_cons q pa_nil (starEach_cons ns)) hn hdb (starEach_cons ns) (backTo_plain rfl)) L ha
theorem leaf_len : Leaf1 X (fun v H Q => ((∃ p ys, [v] = [V.ref p] ∧ (SqL X.K H p ys ∨ SqT X.K H p ys) ∧ Q (.int ys.length) H) ∨ (∃ z, [v] = [V.str z] ∧ z.length ≤ sizeLine ∧ Q (.int z.length) H) ∨ rLenD X [v] H Q)) lenD := by
  intro W σ F H x v s rx
  cases x with
  | lst ds =>
    obtain ⟨a, xs, rfl, h1, r1⟩ := rx.lst s
    refine fun Q hQ => .inl ⟨a, xs, rfl, .inl h1, ?_⟩
    rw [r1.length]
    exact hQ _ F H (Step.refl s) (Rep.int _)
  | tup ds =>
    obtain ⟨a, xs, rfl, _, h1, r1⟩ := rx.tup s
    refine fun Q hQ => .inl ⟨a, xs, rfl, .inr h1, ?_⟩
    rw [r1.length]
    exact hQ _ F H (Step.refl s) (Rep.int _)
  | str z =>
    cases rx.str
    show At _ _ _ W σ F H _ (if z.length ≤ 16777216 then .ok (D.int z.length) else .un) _
    split
    · rename_i hz
      exact at_flat s (fun Q q => .inr (.inl ⟨z, rfl, by rw [sizeLine_eq]; exact hz, q⟩)) (.int _) rfl
    · trivial
  | dct ks vs =>
    obtain ⟨a, o, kv, vv, nks, rfl, h1, h2, h3, r1, r2⟩ := rx.dct s
    show At _ _ _ W σ F H _ (if ks.all flatOk = true ∨ ks.all tupOk = true then .ok (D.int ks.length) else .un) _
    split
    · rename_i hc
      refine at_flat s (fun Q q => .inr (.inr ⟨a, rfl, ?_⟩)) (.int _) rfl
      rcases hc with hc | hc
      · obtain ⟨kvs, d1, d2, d3, d4⟩ := dct_L s h1 h2 h3 r1 hc
        refine .inr ⟨kvs, d1, ?_⟩
        have : kvs.length = ks.length := by rw [← dKeys_len h3, ← d2, List.length_map]
        rw [this]; exact q
      · obtain ⟨xs, d1, d2, d3, d4⟩ := dct_T s h1 h2 h3 r1 hc
        refine .inl ⟨xs, d1, ?_⟩
        have : xs.length = ks.length := by rw [← dKeys_len h3, ← d2, List.length_map]
        rw [this]; exact q
    · trivial
  | _ => trivial
theorem ev_len {a : Expr} {fa : SD → R D} {p : Pos} (hg : Gl X "len") (hm : X.mg "len" = none) (ns : nostar a = true) (ha : EV X W own .read a fa) : EV X W own .fresh (.Call (.Name "len" p) [a] [] pos) (fun st => (fa st).bind fun x => lenD x) :=
  ev_b1 (call_len_seq.or (call_len_str.or cr_lenD)) hg hm PySem.boot_len (by decide) (by decide) ns leaf_len ha
theorem leaf_int : Leaf1 X (fun v H Q => ((∃ i, [v] = [V.int i] ∧ Q (.int i) H) ∨ ∃ k, [v] = [V.bl k] ∧ Q (.int (if k then 1 else 0)) H)) intD := by
  intro W σ F H x v s rx
  cases x with
  | int i => cases rx.int; exact at_flat s (fun Q q => .inl ⟨i, rfl, q⟩) (.int _) rfl
  | bl k => cases rx.bl; exact at_flat s (fun Q q => .inr ⟨k, rfl, q⟩) (.int _) rfl
  | _ => trivial
theorem ev_intc {a : Expr} {fa : SD → R D} {p : Pos} (hg : Gl X "int") (hm : X.mg "int" = none) (ns : nostar a = true) (ha : EV X W own .read a fa) : EV X W own .fresh (.Call (.Name "int" p) [a] [] pos) (fun st => (fa st).bind fun x => intD x) :=
  ev_t1 call_int1 hg hm PyProof.Rows.boot_int (by decide) (by decide) ns leaf_int ha
theorem leaf_abs : Leaf1 X (fun v H Q => ∃ i, [v] = [V.int i] ∧ Q (.int (if i < 0 then -i else i)) H) absD := by
  intro W σ F H x v s rx
  cases x with
  | int i => cases rx.int; exact at_flat s (fun Q q => ⟨i, rfl, q⟩) (.int _) rfl
  | _ => trivial
theorem ev_abs {a : Expr} {fa : SD → R D} {p : Pos} (hg : Gl X "abs") (hm : X.mg "abs" = none) (ns : nostar a = true) (ha : EV X W own .read a fa) : EV X W own .fresh (.Call (.Name "abs" p) [a] [] pos) (fun st => (fa st).bind fun x => absD x) :=
  ev_b1 call_abs hg hm PyProof.Rows.boot_abs (by decide) (by decide) ns leaf_abs ha
theorem leaf_list : Leaf1 X (fun v H Q => ∃ p ys, [v] = [V.ref p] ∧ (SqL X.K H p ys ∨ SqT X.K H p ys) ∧ ∀ l, H l = none → Q (.ref l) (upd H l (.lst ys))) listD := by
  intro W σ F H x v s rx
  cases x with
  | lst ds =>
    obtain ⟨a, xs, rfl, h1, r1⟩ := rx.lst s
    exact fun Q hQ => ⟨a, xs, rfl, .inl h1, fun l hl => hQ _ F _ (Step.own s hl) ⟨l, xs, rfl, upd_same, Same.none s hl, hl, r1⟩⟩
  | tup ds =>
    obtain ⟨a, xs, rfl, _, h1, r1⟩ := rx.tup s
    exact fun Q hQ => ⟨a, xs, rfl, .inr h1, fun l hl => hQ _ F _ (Step.own s hl) ⟨l, xs, rfl, upd_same, Same.none s hl, hl, r1⟩⟩
  | _ => trivial
theorem ev_list {a : Expr} {fa : SD → R D} {p : Pos} (hg : Gl X "list") (hm : X.mg "list" = none) (ns : nostar a = true) (ha : EV X W own .read a fa) : EV X W own .fresh (.Call (.Name "list" p) [a] [] pos) (fun st => (fa st).bind fun x => listD x) :=
  ev_t1 call_list_of hg hm PyProof.Rows.boot_list (by decide) (by decide) ns leaf_list ha
theorem leaf_tuple : Leaf1 X (fun v H Q => ∃ p ys, [v] = [V.ref p] ∧ ((SqL X.K H p ys ∧ ∀ l, H l = none → Q (.ref l) (upd H l (.tup ys))) ∨ (SqT X.K H p ys ∧ Q (.ref p) H))) tupleD := by
  intro W σ F H x v s rx
  cases x with
  | lst ds =>
    obtain ⟨a, xs, rfl, h1, r1⟩ := rx.lst s
    exact fun Q hQ => ⟨a, xs, rfl, .inl ⟨h1, fun l hl => hQ _ _ _ (Step.new s hl) (show Rep X.w X.K X.mg _ (.ref l) (.tup ds) from .tup (SqT.of upd_same) (Reps.mono (Step.new s hl).ff _ r1))⟩⟩
  | tup ds =>
    obtain ⟨a, xs, rfl, k1, h1, r1⟩ := rx.tup s
    exact fun Q hQ => ⟨a, xs, rfl, .inr ⟨h1, hQ _ F H (Step.refl s) (show Rep X.w X.K X.mg F (.ref a) (.tup ds) from .tup k1 r1)⟩⟩
  | _ => trivial
theorem ev_tuple {a : Expr} {fa : SD → R D} {p : Pos} (hg : Gl X "tuple") (hm : X.mg "tuple" = none) (ns : nostar a = true) (ha : EV X W own .read a fa) : EV X W own .fresh (.Call (.Name "tuple" p) [a] [] pos) (fun st => (fa st).bind fun x => tupleD x) :=
  ev_t1 call_tuple_of hg hm PyProof.Rows.boot_tuple (by decide) (by decide) ns leaf_tuple ha
theorem lst_ints {F H : Hp} {ds : List D} {v : V} {ns : List Int} (s : Same F H) (rx : RelR X.w X.K X.mg F H v (.lst ds)) (e : intsD ds = some ns) : ∃ a, v = .ref a ∧ SqL X.K H a (ns.map V.int) := by
  obtain ⟨a, xs, rfl, h1, r1⟩ := rx.lst s
  rw [intsD_eq e] at r1
  rw [r1.ints] at h1
  exact ⟨a, rfl, h1⟩
theorem reps_bls {F : Hp} : ∀ {bs : List Bool} {vs : List V}, Reps X.w X.K X.mg F vs (bs.map D.bl) → vs = bs.map V.bl
  | [], _, h => by cases h; rfl
  | n :: ns, _, h => by
    cases h with
    | cons r t => cases r; rw [reps_bls t]; rfl
theorem lst_bls {F H : Hp} {ds : List D} {v : V} {ns : List Bool} (s : Same F H) (rx : RelR X.w X.K X.mg F H v (.lst ds)) (e : blsD ds = some ns) : ∃ a, v = .ref a ∧ SqL X.K H a (ns.map V.bl) := by
  obtain ⟨a, xs, rfl, h1, r1⟩ := rx.lst s
  rw [blsD_eq e] at r1
  rw [reps_bls r1] at h1
  exact ⟨a, rfl, h1⟩
theorem tup_ints {F H : Hp} {ds : List D} {v : V} {ns : List Int} (s : Same F H) (rx : RelR X.w X.K X.mg F H v (.tup ds)) (e : intsD ds = some ns) : ∃ a, v = .ref a ∧ SqT X.K H a (ns.map V.int) := by
  obtain ⟨a, xs, rfl, _, h1, r1⟩ := rx.tup s
  rw [intsD_eq e] at r1
  rw [r1.ints] at h1
  exact ⟨a, rfl, h1⟩
/-- max, min of a tuple of ints -/
def rMaxT (K : PySem.W.Frag) : List V → Hp → VK → Prop := fun vs H Q => ∃ (a : Addr) (n : Int) (ns : List Int), vs = [V.ref a] ∧ SqT K H a ((n :: ns).map V.int) ∧ Q (.int (ns.foldl max n)) H
def rMinT (K : PySem.W.Frag) : List V → Hp → VK → Prop := fun vs H Q => ∃ (a : Addr) (n : Int) (ns : List Int), vs = [V.ref a] ∧ SqT K H a ((n :: ns).map V.int) ∧ Q (.int (ns.foldl min n)) H
theorem dpAll_ints {K : PySem.W.Frag} {H : Hp} : ∀ ns : List Int, DpAll K H (ns.map V.int) (ns.map PyData.int)
  | [] => .nil
  | n :: ns => .cons (.int n) (dpAll_ints ns)
theorem alike_ints (ns : List Int) : PySem.W.AlikeAll (ns.map PyData.int) := by
  refine ⟨fun x hx y hy => ?_, fun x hx => ?_⟩
  · obtain ⟨i, _, rfl⟩ := List.mem_map.mp hx
    obtain ⟨j, _, rfl⟩ := List.mem_map.mp hy
    simp [PySem.W.alike]
  · obtain ⟨i, _, rfl⟩ := List.mem_map.mp hx
    exact fun z => nomatch z
theorem depth_ints : ∀ ns : List Int, PyData.depthAll (ns.map PyData.int) ≤ 1
  | [] => by simp [PyData.depthAll]
  | n :: ns => by
    have := depth_ints ns
    simp only [List.map_cons, PyData.depthAll, PyData.depth]
    omega
theorem reads_int {h : Heap} {v : Value} {n : Int} {as : List Addr} (r : Reads h v (.int n) as) : ∃ t, v = .int n t := by
  cases r with
  | int => exact ⟨_, rfl⟩
theorem cr_maxT (hc : X.calm = true) (hu : X.A.units + 65 < cLine) : CallR X (.builtin "max") (rMaxT X.K) := by
  intro pins s σ H vs us Q I r h
  obtain ⟨a, n, ns, rfl, hs, q⟩ := h
  obtain ⟨its, rv, hl, _⟩ := I.tuple hs
  rw [Vals.ref1 r]
  obtain ⟨as, hr⟩ := Dp.readsAll I _ _ _ (dpAll_ints (n :: ns)) rv
  have hd := depth_ints (n :: ns)
  refine PySem.W.max_tuple_data (x := .int n) (xs := ns.map .int) (vs := its.toArray) (as := as) (I.ok.hd hc) (show s.heap.IsTuple a its.toArray from hl) (by simpa using hr) (alike_ints (n :: ns)) (by simp only [List.map_cons] at hd; omega) fun i v h' tk bs _ hv hk => ?_
  rw [PySem.W.maxD_ints] at hv
  obtain ⟨t, rfl⟩ := reads_int hv
  exact ⟨.int _, H, I.kept hk, ⟨_, rfl⟩, q⟩
theorem cr_minT (hc : X.calm = true) (hu : X.A.units + 65 < cLine) : CallR X (.builtin "min") (rMinT X.K) := by
  intro pins s σ H vs us Q I r h
  obtain ⟨a, n, ns, rfl, hs, q⟩ := h
  obtain ⟨its, rv, hl, _⟩ := I.tuple hs
  rw [Vals.ref1 r]
  obtain ⟨as, hr⟩ := Dp.readsAll I _ _ _ (dpAll_ints (n :: ns)) rv
  have hd := depth_ints (n :: ns)
  refine PySem.W.min_tuple_data (x := .int n) (xs := ns.map .int) (vs := its.toArray) (as := as) (I.ok.hd hc) (show s.heap.IsTuple a its.toArray from hl) (by simpa using hr) (alike_ints (n :: ns)) (by simp only [List.map_cons] at hd; omega) fun i v h' tk bs _ hv hk => ?_
  rw [PySem.W.minD_ints] at hv
  obtain ⟨t, rfl⟩ := reads_int hv
  exact ⟨.int _, H, I.kept hk, ⟨_, rfl⟩, q⟩
theorem CallR.or {f : Value} {r r' : List V → Hp → VK → Prop} (h : CallR X f r) (h' : CallR X f r') : CallR X f (fun xs H Q => r xs H Q ∨ r' xs H Q) := fun pins s σ H vs us Q I rv q => by
  rcases q with q | q
  · exact h pins s σ H vs us Q I rv q
  · exact h' pins s σ H vs us Q I rv q
theorem foldl_max : ∀ (ns : List Int) (n : Int), ns.foldl max n = maxI (n :: ns)
  | [], n => rfl
  | k :: r, n => by
    rw [List.foldl_cons, foldl_max r (max n k)]
    have e : maxI (n :: k :: r) = max n (maxI (k :: r)) := rfl
    rw [e]
    cases r with
    | nil => rfl
    | cons a r =>
      show max (max n k) (maxI (a :: r)) = max n (max k (maxI (a :: r)))
      omega
theorem foldl_min : ∀ (ns : List Int) (n : Int), ns.foldl min n = minI (n :: ns)
  | [], n => rfl
  | k :: r, n => by
    rw [List.foldl_cons, foldl_min r (min n k)]
    have e : minI (n :: k :: r) = min n (minI (k :: r)) := rfl
    rw [e]
    cases r with
    | nil => rfl
    | cons a r =>
      show min (min n k) (minI (a :: r)) = min n (min k (minI (a :: r)))
      omega
theorem leaf_max : Leaf1 X (fun v H Q => rMax X.K [v] H Q ∨ rMaxT X.K [v] H Q) maxD := by
  intro W σ F H x v s rx
  cases x with
  | lst ds =>
    show At _ _ _ W σ F H _ (match intsD ds with
      | some (n :: ns) => .ok (D.int (maxI (n :: ns)))
      | _ => .un) _
    cases e : intsD ds with
    | none => trivial
    | some ns =>
      cases ns with
      | nil => trivial
      | cons n ns =>
        obtain ⟨a, rfl, h⟩ := lst_ints s rx e
        refine fun Q hQ => .inl ⟨a, n :: ns, rfl, h, Nat.succ_pos _, fun m hm hle => ?_⟩
        obtain ⟨g1, g2⟩ := maxI_mem (l := n :: ns) (by simp)
        have : m = maxI (n :: ns) := Int.le_antisymm (g2 m hm) (hle _ g1)
        rw [this]
        exact hQ _ F H (Step.refl s) (Rep.int _)
  | tup ds =>
    show At _ _ _ W σ F H _ (match intsD ds with
      | some (n :: ns) => .ok (D.int (maxI (n :: ns)))
      | _ => .un) _
    cases e : intsD ds with
    | none => trivial
    | some ns =>
      cases ns with
      | nil => trivial
      | cons n ns =>
        obtain ⟨a, rfl, h⟩ := tup_ints s rx e
        refine fun Q hQ => .inr ⟨a, n, ns, rfl, h, ?_⟩
        rw [foldl_max]
        exact hQ _ F H (Step.refl s) (Rep.int _)
  | _ => trivial
theorem leaf_min : Leaf1 X (fun v H Q => rMin X.K [v] H Q ∨ rMinT X.K [v] H Q) minD := by
  intro W σ F H x v s rx
  cases x with
  | lst ds =>
    show At _ _ _ W σ F H _ (match intsD ds with
      | some (n :: ns) => .ok (D.int (minI (n :: ns)))
      | _ => .un) _
    cases e : intsD ds with
    | none => trivial
    | some ns =>
      cases ns with
      | nil => trivial
      | cons n ns =>
        obtain ⟨a, rfl, h⟩ := lst_ints s rx e
        refine fun Q hQ => .inl ⟨a, n :: ns, rfl, h, Nat.succ_pos _, fun m hm hle => ?_⟩
        obtain ⟨g1, g2⟩ := minI_mem (l := n :: ns) (by simp)
        have : m = minI (n :: ns) := Int.le_antisymm (hle _ g1) (g2 m hm)
        rw [this]
        exact hQ _ F H (Step.refl s) (Rep.int _)
  | tup ds =>
    show At _ _ _ W σ F H _ (match intsD ds with
      | some (n :: ns) => .ok (D.int (minI (n :: ns)))
      | _ => .un) _
    cases e : intsD ds with
    | none => trivial
    | some ns =>
      cases ns with
      | nil => trivial
      | cons n ns =>
        obtain ⟨a, rfl, h⟩ := tup_ints s rx e
        refine fun Q hQ => .inr ⟨a, n, ns, rfl, h, ?_⟩
        rw [foldl_min]
        exact hQ _ F H (Step.refl s) (Rep.int _)
  | _ => trivial
theorem leaf_sum : Leaf1 X (fun v H Q => rSum X.K [v] H Q) sumD := by
  intro W σ F H x v s rx
  cases x with
  | lst ds =>
    show At _ _ _ W σ F H _ (ofO (fun ns => D.int ns.sum) (intsD ds)) _
    cases e : intsD ds with
    | none => trivial
    | some ns =>
      obtain ⟨a, rfl, h⟩ := lst_ints s rx e
      exact at_flat s (fun Q q => ⟨a, ns, rfl, h, q⟩) (.int _) rfl
  | _ => trivial
theorem leaf_any : Leaf1 X (fun v H Q => rAny X.K [v] H Q) anyD := by
  intro W σ F H x v s rx
  cases x with
  | lst ds =>
    show At _ _ _ W σ F H _ (ofO (fun ns => D.bl (ns.any id)) (blsD ds)) _
    cases e : blsD ds with
    | none => trivial
    | some ns =>
      obtain ⟨a, rfl, h⟩ := lst_bls s rx e
      exact at_flat s (fun Q q => ⟨a, ns, rfl, h, q⟩) (.bl _) rfl
  | _ => trivial
theorem leaf_all : Leaf1 X (fun v H Q => rAll X.K [v] H Q) allD := by
  intro W σ F H x v s rx
  cases x with
  | lst ds =>
    show At _ _ _ W σ F H _ (ofO (fun ns => D.bl (ns.all id)) (blsD ds)) _
    cases e : blsD ds with
    | none => trivial
    | some ns =>
      obtain ⟨a, rfl, h⟩ := lst_bls s rx e
      exact at_flat s (fun Q q => ⟨a, ns, rfl, h, q⟩) (.bl _) rfl
  | _ => trivial
theorem ev_max {a : Expr} {fa : SD → R D} {p : Pos} (hu : X.A.units + 65 < cLine) (hc : X.calm = true) (hg : Gl X "max") (hm : X.mg "max" = none) (ns : nostar a = true) (ha : EV X W own .read a fa) : EV X W own .fresh (.Call (.Name "max" p) [a] [] pos) (fun st => (fa st).bind fun x => maxD x) :=
  ev_b1 ((cr_max hc).or (cr_maxT hc hu)) hg hm PyProof.Rows.boot_max (by decide) (by decide) ns leaf_max ha
theorem ev_min {a : Expr} {fa : SD → R D} {p : Pos} (hu : X.A.units + 65 < cLine) (hc : X.calm = true) (hg : Gl X "min") (hm : X.mg "min" = none) (ns : nostar a = true) (ha : EV X W own .read a fa) : EV X W own .fresh (.Call (.Name "min" p) [a] [] pos) (fun st => (fa st).bind fun x => minD x) :=
  ev_b1 ((cr_min hc).or (cr_minT hc hu)) hg hm PyProof.Rows.boot_min (by decide) (by decide) ns leaf_min ha
theorem ev_sum {a : Expr} {fa : SD → R D} {p : Pos} (hc : X.calm = true) (hg : Gl X "sum") (hm : X.mg "sum" = none) (ns : nostar a = true) (ha : EV X W own .read a fa) : EV X W own .fresh (.Call (.Name "sum" p) [a] [] pos) (fun st => (fa st).bind fun x => sumD x) :=
  ev_b1 (cr_sum hc) hg hm PyProof.Rows.boot_sum (by decide) (by decide) ns leaf_sum ha
theorem ev_any {a : Expr} {fa : SD → R D} {p : Pos} (hc : X.calm = true) (hg : Gl X "any") (hm : X.mg "any" = none) (ns : nostar a = true) (ha : EV X W own .read a fa) : EV X W own .fresh (.Call (.Name "any" p) [a] [] pos) (fun st => (fa st).bind fun x => anyD x) :=
  ev_b1 (cr_any hc) hg hm PyProof.Rows.boot_any (by decide) (by decide) ns leaf_any ha
theorem ev_all {a : Expr} {fa : SD → R D} {p : Pos} (hc : X.calm = true) (hg : Gl X "all") (hm : X.mg "all" = none) (ns : nostar a = true) (ha : EV X W own .read a fa) : EV X W own .fresh (.Call (.Name "all" p) [a] [] pos) (fun st => (fa st).bind fun x => allD x) :=
  ev_b1 (cr_all hc) hg hm PyProof.Rows.boot_all (by decide) (by decide) ns leaf_all ha

/-! ### of two -/
theorem ev_b2 {a b : Expr} {fa fb : SD → R D} {x : Str} {id : String} {p : Pos} {r : List V → Hp → VK → Prop} {g : D → D → R D} (hc : CallR X (.builtin id) r) (hg : Gl X x) (hm : X.mg x = none) (hv : bootBuiltins x = some (.builtin id)) (hn : x ≠ "__name__") (hdb : (x == ("__debug__" : Str)) = false)
    (na : nostar a = true) (nb : nostar b = true) (L : Leaf2 X (fun v u H Q => r [v, u] H Q) g) (ha : EV X W own .read a fa) (hb : EV X W own .read b fb) : EV X W own .fresh (.Call (.Name x p) [a, b] [] pos) (fun st => (fa st).bind fun x => (fb st).bind fun y => g x y) :=
  ev_op2 (r := fun v u H Q => r [v, u] H Q) (fun q q' => pe_callB hc hg hm hv (pa_cons q (pa_cons q' pa_nil (starEach_cons nb)) (starEach_cons na)) hn hdb (starEach_cons na) (backTo_plain (by simp [nb]))) L ha hb
theorem leaf_max2 : Leaf2 X (fun v u H Q => ∃ i j, [v, u] = [V.int i, V.int j] ∧ Q (.int (if j > i then j else i)) H) max2D := by
  intro W σ F H x y v u s rx ry
  cases x with
  | int i =>
    cases y with
    | int j => cases rx.int; cases ry.int; exact at_flat s (fun Q q => ⟨i, j, rfl, q⟩) (.int _) rfl
    | _ => trivial
  | _ => cases y <;> trivial
theorem leaf_min2 : Leaf2 X (fun v u H Q => ∃ i j, [v, u] = [V.int i, V.int j] ∧ Q (.int (if j < i then j else i)) H) min2D := by
  intro W σ F H x y v u s rx ry
  cases x with
  | int i =>
    cases y with
    | int j => cases rx.int; cases ry.int; exact at_flat s (fun Q q => ⟨i, j, rfl, q⟩) (.int _) rfl
    | _ => trivial
  | _ => cases y <;> trivial
theorem ev_max2 {a b : Expr} {fa fb : SD → R D} {p : Pos} (hc : X.calm = true) (hg : Gl X "max") (hm : X.mg "max" = none) (na : nostar a = true) (nb : nostar b = true) (ha : EV X W own .read a fa) (hb : EV X W own .read b fb) : EV X W own .fresh (.Call (.Name "max" p) [a, b] [] pos) (fun st => (fa st).bind fun x => (fb st).bind fun y => max2D x y) :=
  ev_b2 (call_max2 hc) hg hm PyProof.Rows.boot_max (by decide) (by decide) na nb leaf_max2 ha hb
theorem ev_min2 {a b : Expr} {fa fb : SD → R D} {p : Pos} (hc : X.calm = true) (hg : Gl X "min") (hm : X.mg "min" = none) (na : nostar a = true) (nb : nostar b = true) (ha : EV X W own .read a fa) (hb : EV X W own .read b fb) : EV X W own .fresh (.Call (.Name "min" p) [a, b] [] pos) (fun st => (fa st).bind fun x => (fb st).bind fun y => min2D x y) :=
  ev_b2 (call_min2 hc) hg hm PyProof.Rows.boot_min (by decide) (by decide) na nb leaf_min2 ha hb

/-! ### isinstance -/
def tyName : D → String
  | .non => "NoneType"
  | .bl _ => "bool"
  | .int _ => "int"
  | .str _ => "str"
  | .tup _ => "tuple"
  | .lst _ => "list"
  | .ins _ _ _ => ""
  | .dct _ _ => ""
theorem sqL_ty {K : PySem.W.Frag} {H : Hp} {a : Addr} {xs : List V} (h : SqL K H a xs) : TyX K H (.ref a) (.type "list") := by
  rcases h with (h | ⟨o, h⟩) | ⟨o, its, n, hk, hc, _⟩
  · exact .base (.lst h)
  · exact .base (.frz h)
  · exact .kList hk hc
theorem sqT_ty {K : PySem.W.Frag} {H : Hp} {a : Addr} {xs : List V} (h : SqT K H a xs) : TyX K H (.ref a) (.type "tuple") := by
  rcases h with (h | ⟨o, h⟩) | ⟨o, its, n, hk, hc, _⟩
  · exact .base (.tup h)
  · exact .fTuple h
  · exact .kTuple hk hc
theorem tyx_of {F H : Hp} {d : D} {v : V} (s : Same F H) (h : RelR X.w X.K X.mg F H v d) (hn : ∀ c ns ds, d ≠ .ins c ns ds) (hn2 : ∀ ks vs, d ≠ .dct ks vs) : TyX X.K H v (.type (tyName d)) := by
  cases d with
  | non => cases h.non; exact .base .non
  | bl b => cases h.bl; exact .base (.bl b)
  | int i => cases h.int; exact .base (.int i)
  | str x => cases h.str; exact .base (.str x)
  | tup ds => obtain ⟨a, xs, rfl, _, h1, _⟩ := h.tup s; exact sqT_ty h1
  | lst ds => obtain ⟨a, xs, rfl, h1, _⟩ := h.lst s; exact sqL_ty h1
  | ins c ns ds => exact absurd rfl (hn c ns ds)
  | dct ks vs => exact absurd rfl (hn2 ks vs)
theorem kitB_all : ∀ t : Ty, kitB "NoneType" t.name = some false ∧ kitB "bool" t.name = some (match t with | .int => true | .bool => true | _ => false) ∧ kitB "int" t.name = some (match t with | .int => true | _ => false) ∧
    kitB "str" t.name = some (match t with | .str => true | _ => false) ∧ kitB "tuple" t.name = some (match t with | .tuple => true | _ => false) ∧ kitB "list" t.name = some (match t with | .list => true | _ => false) := by
  intro t
  cases t <;> decide +kernel
theorem isiD_kit (t : Ty) (d : D) (hn : ∀ c ns ds, d ≠ .ins c ns ds) (hn2 : ∀ ks vs, d ≠ .dct ks vs) : ∃ b, isiD t d = .ok (.bl b) ∧ kitB (tyName d) t.name = some b := by
  obtain ⟨h1, h2, h3, h4, h5, h6⟩ := kitB_all t
  cases d with
  | non => exact ⟨false, by cases t <;> rfl, h1⟩
  | bl b => exact ⟨_, by cases t <;> rfl, h2⟩
  | int i => exact ⟨_, by cases t <;> rfl, h3⟩
  | str x => exact ⟨_, by cases t <;> rfl, h4⟩
  | tup ds => exact ⟨_, by cases t <;> rfl, h5⟩
  | lst ds => exact ⟨_, by cases t <;> rfl, h6⟩
  | ins c ns ds => exact absurd rfl (hn c ns ds)
  | dct ks vs => exact absurd rfl (hn2 ks vs)
theorem boot_ty (t : Ty) : bootBuiltins (Str.ofString t.name) = some (.type t.name) := by cases t <;> decide +kernel
theorem ev_isi {a : Expr} {fa : SD → R D} {t : Ty} {p p2 : Pos} (hg : Gl X "isinstance") (hm : X.mg "isinstance" = none) (hg2 : Gl X (Str.ofString t.name)) (hm2 : X.mg (Str.ofString t.name) = none) (ns : nostar a = true) (ha : EV X W own .read a fa) :
    EV X W own .fresh (.Call (.Name "isinstance" p) [a, .Name (Str.ofString t.name) p2] [] pos) (fun st => (fa st).bind fun x => isiD t x) := by
  refine ev_op1 (r := fun v H Q => rIsi X.K [v, .ty t.name] H Q) (fun q => pe_callB call_isi hg hm PyProof.Rows.boot_isinstance (pa_cons q (pa_cons (pe_bltn (v := .ty t.name) hg2 hm2 (boot_ty t) rfl (by cases t <;> decide) (by cases t <;> decide)) pa_nil (starEach_cons rfl)) (starEach_cons ns)) (by decide) (by decide) (starEach_cons ns) (backTo_plain rfl)) (fun W σ F H x v s rx => ?_) ha
  by_cases hn : ∃ c ns ds, x = .ins c ns ds
  · obtain ⟨c, ns, ds, rfl⟩ := hn
    cases t <;> trivial
  by_cases hm : ∃ ks vs, x = .dct ks vs
  · obtain ⟨ks, vs, rfl⟩ := hm
    cases t <;> trivial
  · have hn' : ∀ c ns ds, x ≠ .ins c ns ds := fun c ns ds e => hn ⟨c, ns, ds, e⟩
    have hm' : ∀ ks vs, x ≠ .dct ks vs := fun ks vs e => hm ⟨ks, vs, e⟩
    obtain ⟨b, e, k⟩ := isiD_kit t x hn' hm'
    rw [e]
    exact at_flat s (fun Q q => ⟨v, .ty t.name, .type (tyName x), .type t.name, b, rfl, .ty _, tyx_of s rx hn' hm', kit_ty k, q⟩) (.bl _) rfl

/-! ### repr -/
theorem call_reprD (hg : X.A.guards = some []) (hu : X.A.units + 65 < cLine) : CallR X (.builtin "repr") (fun xs H Q => ∃ a d, xs = [V.ref a] ∧ Dp X.K H (.ref a) d ∧ d.showable = true ∧ d.hasDict = false ∧ d.depth ≤ 64 ∧ d.shown.length ≤ sizeLine ∧ Q (.str d.shown) H) := by
  intro pins s σ H xs us Q I r h
  obtain ⟨a, d, rfl, hd, h1, h2, h3, h4, q⟩ := h
  obtain ⟨u, rfl, rx⟩ := vals1 r
  cases rx
  obtain ⟨as, r1⟩ := Dp.reads I d _ _ hd rfl
  exact repr_of_reads' r1 h1 (PyData.noDict_hsm h2) hg (by omega) (fun _ _ e => e) (fun h' u tk hk => ⟨.str d.shown, H, I.kept (t' := tk) hk, ⟨_, rfl⟩, q⟩) h4
mutual
theorem py_noDict : ∀ d : D, d.py.hasDict = false
  | .non => rfl
  | .bl _ => rfl
  | .int _ => rfl
  | .str _ => rfl
  | .tup xs => by simp only [D.py, PyData.hasDict]; exact pys_noDict xs
  | .lst xs => by simp only [D.py, PyData.hasDict]; exact pys_noDict xs
  | .ins _ _ _ => rfl
  | .dct _ _ => rfl
theorem pys_noDict : ∀ ds : List D, PyData.hasDictAll (D.pys ds) = false
  | [] => rfl
  | d :: ds => by simp only [D.pys, PyData.hasDictAll, py_noDict d, pys_noDict ds, Bool.or_self]
end
theorem leaf_repr : Leaf1 X (fun v H Q => ∃ a d, [v] = [V.ref a] ∧ Dp X.K H (.ref a) d ∧ d.showable = true ∧ d.hasDict = false ∧ d.depth ≤ 64 ∧ d.shown.length ≤ sizeLine ∧ Q (.str d.shown) H) reprD := by
  intro W σ F H x v s rx
  unfold reprD
  split
  · rename_i h
    simp only [Bool.and_eq_true, decide_eq_true_eq] at h
    obtain ⟨⟨⟨h1, h2⟩, h3⟩, h4⟩ := h
    have hd := rx.dp s h1
    cases x with
    | lst ds =>
      obtain ⟨a, xs, rfl, _, _⟩ := rx.lst s
      exact at_flat s (fun Q q => ⟨a, _, rfl, hd, h2, py_noDict _, h3, by rw [sizeLine_eq]; exact h4, q⟩) (.str _) rfl
    | tup ds =>
      obtain ⟨a, xs, rfl, _, _, _⟩ := rx.tup s
      exact at_flat s (fun Q q => ⟨a, _, rfl, hd, h2, py_noDict _, h3, by rw [sizeLine_eq]; exact h4, q⟩) (.str _) rfl
    | _ => trivial
  · trivial
theorem ev_repr {a : Expr} {fa : SD → R D} {p : Pos} (hgd : X.A.guards = some []) (hu : X.A.units + 65 < cLine) (hg : Gl X "repr") (hm : X.mg "repr" = none) (ns : nostar a = true) (ha : EV X W own .read a fa) : EV X W own .fresh (.Call (.Name "repr" p) [a] [] pos) (fun st => (fa st).bind fun x => reprD x) :=
  ev_b1 (call_reprD hgd hu) hg hm PyProof.Rows.boot_repr (by decide) (by decide) ns leaf_repr ha

/-! ### list(range(..)) -/
def rgD (a b : Int) : R D := if -(2 ^ 62) ≤ a ∧ a < 2 ^ 62 ∧ -(2 ^ 62) ≤ b ∧ b < 2 ^ 62 ∧ (b - a).toNat ≤ 2 ^ 24 then .ok (.lst ((List.range (b - a).toNat).map fun i => D.int (a + (i : Nat)))) else .un
theorem reps_rg {F : Hp} (a b : Int) : Reps X.w X.K X.mg F (rgV a b) ((List.range (b - a).toNat).map fun i => D.int (a + (i : Nat))) := by
  unfold rgV
  induction (List.range (b - a).toNat) with
  | nil => exact .nil
  | cons i l ih => exact .cons (.int _) ih
theorem ev_listRg1 {a : Expr} {fa : SD → R D} {p p2 p3 : Pos} (hc : X.calm = true) (hg : Gl X "list") (hm : X.mg "list" = none) (hg2 : Gl X "range") (hm2 : X.mg "range" = none) (ns : nostar a = true) (ha : EV X W own .read a fa) :
    EV X W own .fresh (.Call (.Name "list" p) [.Call (.Name "range" p2) [a] [] p3] [] pos) (fun st => (fa st).bind fun x => match x with
      | .int n => rgD 0 n
      | _ => .un) := by
  refine ev_op1 (r := fun v H Q => ∃ n, v = V.int n ∧ RgOk 0 n ∧ ∀ q, H q = none → Q (V.ref q) (upd H q (.lst (rgV 0 n)))) (g := fun x => match x with
      | .int n => rgD 0 n
      | _ => .un) (fun q => pe_listRg hc hg hm (prg_1 hg2 hm2 q (starEach_cons ns)) (starEach_cons rfl)) (fun W σ F H x v s rx => ?_) ha
  cases x with
  | int n =>
    cases rx.int
    show At _ _ _ W σ F H _ (rgD 0 n) _
    unfold rgD
    split
    · rename_i h
      exact fun Q hQ => ⟨n, rfl, h, fun q hq => hQ _ F _ (Step.own s hq) ⟨q, _, rfl, upd_same, Same.none s hq, hq, reps_rg 0 n⟩⟩
    · trivial
  | _ => trivial

/-! ### a def's promise by a function on data -/
def spF (w : World) (K : PySem.W.Frag) (mg : Str → Option Value) (n : Nat) (f : List D → R D) : Sp := fun vs H Q E => vs.length = n ∧ ∃ (F : Hp) (ds : List D), Same F H ∧ Reps w K mg F vs ds ∧ (match f ds with
  | .un => False
  | .ok d => ∀ v F1 H1, Step F H F1 H1 → Rep w K mg F1 v d → Q v H1
  | .ex c ns es => ∀ cls d F1 H1, Step F H F1 H1 → ExAt w K mg F1 H1 c ns es cls d → E cls d H1)
/-- the def named x keeps the promise of f, called with n arguments (dd: the defaults of the rest) -/
structure FnD (P : Program) (w : World) (K : PySem.W.Frag) (mg : Str → Option Value) (base : Heap) (k : Nat) (x : Str) (n : Nat) (f : List D → R D) : Prop where
  ex : ∃ (fa : Addr) (fd : FuncData) (ps : List Str) (dus : List Value) (dvs : List V) (m : Nat) (g : List D → R D) (dd : List D), FnG P w K mg base k fa fd ps (spF w K mg m g) ∧ mg x = some (.ref fa) ∧ PySem.W.keepIn K (.ref fa) = true ∧ Binds K fd ps dus ∧ Vals dvs dus ∧ (∀ F : Hp, Reps w K mg F dvs dd) ∧ m = n + dd.length ∧ ∀ ds, ds.length = n → f ds = g (ds ++ dd)
theorem FnD.mk0 {P : Program} {w : World} {K : PySem.W.Frag} {mg : Str → Option Value} {base : Heap} {k : Nat} {x : Str} {n : Nat} {f : List D → R D} {fa : Addr} {fd : FuncData} {ps : List Str} (h : FnG P w K mg base k fa fd ps (spF w K mg n f)) (hm : mg x = some (.ref fa)) (hk : PySem.W.keepIn K (.ref fa) = true) (hb : Binds K fd ps []) : FnD P w K mg base k x n f :=
  ⟨fa, fd, ps, [], [], n, f, [], h, hm, hk, hb, .nil, fun _ => .nil, rfl, fun ds _ => by rw [List.append_nil]⟩
theorem FnD.mono {P : Program} {w : World} {K : PySem.W.Frag} {mg : Str → Option Value} {base : Heap} {j k : Nat} {x : Str} {n : Nat} {f : List D → R D} (h : FnD P w K mg base j x n f) (l : j ≤ k) : FnD P w K mg base k x n f := by
  obtain ⟨fa, fd, ps, dus, dvs, m, g, dd, h1, h2⟩ := h.ex
  exact ⟨fa, fd, ps, dus, dvs, m, g, dd, h1.mono l, h2⟩
theorem passAtX {E : XK} {σ : L2.St} (tk : Takes X W) (h : ∀ cls d H, E cls d H → W cls d σ H) : PassesAt (L2.CX X.prog X.w) X σ E := fun pins H s e s' I c => tk e s' (XE.of_call I (fun cls d H' z => h cls d H' z) c)
theorem call_at {k n : Nat} {g : List D → R D} {σ : L2.St} {F H : Hp} {vs : List V} {ds : List D} (s : Same F H) (r : Reps X.w X.K X.mg F vs ds) (hl : ds.length = n) :
    At X.w X.K X.mg W σ F H (fun Q => spF X.w X.K X.mg n g vs H Q fun cls d H => W cls d σ H) (g ds) (RelM X.w X.K X.mg .keep H) := by
  cases e2 : g ds with
  | un => trivial
  | ok d =>
    refine fun Q hQ => ⟨by rw [r.length]; exact hl, F, ds, s, r, ?_⟩
    rw [e2]
    exact fun v F2 H2 s2 r2 => hQ v F2 H2 s2 r2
  | ex c ns es =>
    refine fun Q hQ => ⟨by rw [r.length]; exact hl, F, ds, s, r, ?_⟩
    rw [e2]
    exact fun cls d F2 H2 s2 r2 => hQ cls d F2 H2 s2 r2
theorem ev_call {k : Nat} {x : Str} {p : Pos} {e : Expr} {es : List Expr} {fs : SD → R (List D)} {g : List D → R D} (tk : Takes X W) (gd : X.A.guards = some []) (hr : Room k X.A) (Fn : FnD X.prog X.w X.K X.mg X.base k x (e :: es).length g) (hg : Gl X x) (hdb : (x == ("__debug__" : Str)) = false) (ns : nostar e = true) (nss : es.all nostar = true)
    (hs : EVs X W own (e :: es) fs) : EV X W own .keep (.Call (.Name x p) (e :: es) [] pos) (fun st => (fs st).bind fun ds => if ds.length = (e :: es).length then g ds else .un) := by
  obtain ⟨t, pt, qt⟩ := hs
  obtain ⟨fa, fd, ps, dus, dvs, m, g', dd, F1, hm, hk, hb, rd, rdd, em, eg⟩ := Fn.ex
  refine ⟨_, pe_callGd (E := fun σ cls d H => W cls d σ H) F1 gd hr hg hm hk hb rd (fun σ => passAtX tk fun _ _ _ z => z) pt hdb (starEach_cons ns) (backTo_plain nss), fun H0 F H σ st s rl => ?_⟩
  refine At.bind (U := fun vs H1 Q => spF X.w X.K X.mg m g' (vs ++ dvs) H1 Q fun cls d H => W cls d σ H) (qt H0 F H σ st s rl) fun vs ds F1 H1 s1 r1 => ?_
  split
  · rename_i hl
    rw [eg ds hl]
    exact call_at (k := k) s1.fh (r1.append (rdd F1)) (by rw [List.length_append, hl, em])
  · trivial
theorem ev_call0 {k : Nat} {x : Str} {p : Pos} {g : List D → R D} (tk : Takes X W) (gd : X.A.guards = some []) (hr : Room k X.A) (Fn : FnD X.prog X.w X.K X.mg X.base k x 0 g) (hg : Gl X x) (hdb : (x == ("__debug__" : Str)) = false) : EV X W own .keep (.Call (.Name x p) [] [] pos) (fun st => g []) := by
  obtain ⟨fa, fd, ps, dus, dvs, m, g', dd, F1, hm, hk, hb, rd, rdd, em, eg⟩ := Fn.ex
  refine ⟨_, pe_callGd0 (E := fun σ cls d H => W cls d σ H) F1 gd hr hg hm hk hb rd (fun σ => passAtX tk fun _ _ _ z => z) hdb, fun H0 F H σ st s rl => ?_⟩
  rw [eg [] rfl]
  exact call_at (k := k) s (Reps.append .nil (rdd F)) (by rw [List.length_append, em]; rfl)

/-! ### fields of own instances -/
def lookD (f : Str) : List Str → List D → Option D
  | n :: ns, d :: ds => if f = n then some d else lookD f ns ds
  | _, _ => none
def fldD (cs : List Str) (f : Str) : D → R D
  | .ins c' ns ds => if c' ∈ cs then ofO id (lookD f ns ds) else .un
  | _ => .un
def FldD (K : PySem.W.Frag) (mg : Str → Option Value) (c f : Str) : Prop := ∃ C : Addr, mg c = some (.ref C) ∧ Cls K C ∧ NoAttr K C f
theorem lookD_rep {F : Hp} {f : Str} : ∀ {fs : List (Str × V)} {ns : List Str} {ds : List D} {d : D}, fs.map (·.1) = ns → Reps X.w X.K X.mg F (fs.map (·.2)) ds → lookD f ns ds = some d → ∃ v, fs.lookup f = some v ∧ Rep X.w X.K X.mg F v d
  | [], _, _, _, rfl, .nil, h => by cases h
  | (n, v) :: fs, _, _, d, rfl, .cons (d := d') (ds := ds) r t, h => by
    simp only [List.map_cons, lookD] at h
    by_cases e : f = n
    · rw [if_pos e] at h
      cases h
      subst e
      exact ⟨v, by simp [List.lookup], r⟩
    · rw [if_neg e] at h
      obtain ⟨v', h1, h2⟩ := lookD_rep (fs := fs) rfl t h
      refine ⟨v', ?_, h2⟩
      rw [List.lookup_cons]
      have : (f == n) = false := by simpa using e
      rw [this]; exact h1
def abase : Expr → Bool
  | .Call _ _ _ _ => false
  | _ => true
theorem abase_ok {o : Expr} {f : Str} {env : Env} (h : abase o = true) : attributeBase o f env (eval o env) = eval o env := by
  cases o <;> first | rfl | cases h
theorem ev_fld {a : Expr} {fa : SD → R D} {cs : List Str} {f : Str} (hb : abase a = true) (Fn : ∀ c ∈ cs, FldD X.K X.mg c f) (ha : EV X W own .read a fa) : EV X W own .keep (.Attribute a f pos) (fun st => (fa st).bind fun x => fldD cs f x) := by
  obtain ⟨ta, pa, qa⟩ := ha
  refine ⟨_, pe_fld pa (abase_ok hb), fun H0 F H σ st s rl => ?_⟩
  show At X.w X.K X.mg W σ F H (fun Q => ta σ H fun x H1 => ∃ a C dx fs v, x = V.ref a ∧ H1 a = some (.ins C dx fs) ∧ Cls X.K C ∧ NoAttr X.K C f ∧ fs.lookup f = some v ∧ Q v H1) _ _
  refine At.bind (U := fun x H1 Q => ∃ a C dx fs v, x = V.ref a ∧ H1 a = some (.ins C dx fs) ∧ Cls X.K C ∧ NoAttr X.K C f ∧ fs.lookup f = some v ∧ Q v H1) (qa H0 F H σ st s rl) fun v x F1 H1 s1 r1 => ?_
  cases x with
  | ins c' ns ds =>
    show At _ _ _ W σ F1 H1 _ (if c' ∈ cs then ofO id (lookD f ns ds) else .un) _
    split
    · rename_i ec
      obtain ⟨C, hm, cl, na⟩ := Fn c' ec
      cases e : lookD f ns ds with
      | none => trivial
      | some d =>
        have r2 : Rep X.w X.K X.mg F1 v (.ins c' ns ds) := by
          rcases RelM.toRead r1 with h | ⟨_, _, _, _, e, _⟩ | ⟨_, _, _, _, _, _, _, _, e, _⟩
          · exact h
          · cases e
          · cases e
        cases r2 with
        | ins h1 h2 h3 h4 =>
          obtain ⟨v', g1, g2⟩ := lookD_rep h3 h4 e
          rw [hm] at h2; cases h2
          exact fun Q hQ => ⟨_, C, _, _, v', rfl, s1.fh _ _ h1, cl, na, g1, hQ v' F1 H1 (Step.refl s1.fh) g2⟩
    · trivial
  | _ => trivial
end
end Dl

/-! DlF2: instances made, methods called, by functions on data. -/
namespace Dl
open PySem PySem.Spec PyProof.Rows L2

/-- sorted(x), x a list of ints -/
def sortI (ns : List Int) : List Int := ns.mergeSort fun a b => decide (a ≤ b)
theorem sortI_perm (ns : List Int) : (sortI ns).Perm ns := List.mergeSort_perm ns _
theorem sortI_pair (ns : List Int) : (sortI ns).Pairwise (· ≤ ·) := by
  have := List.pairwise_mergeSort (le := fun a b : Int => decide (a ≤ b)) (by intro a b c h1 h2; simp only [decide_eq_true_eq] at *; omega) (by intro a b; simp only [Bool.or_eq_true, decide_eq_true_eq]; omega) ns
  exact this.imp fun h => by simpa using h
theorem sortI_uniq {ns ms : List Int} (h1 : ms.Perm ns) (h2 : ms.Pairwise (· ≤ ·)) : ms = sortI ns :=
  List.Perm.eq_of_pairwise (le := fun a b : Int => a ≤ b) (fun a b _ _ h h' => by omega) h2 (sortI_pair ns) (h1.trans (sortI_perm ns).symm)
def sortD : D → R D
  | .lst ds => ofO (fun ns => D.lst ((sortI ns).map D.int)) (intsD ds)
  | _ => .un
theorem reps_ints {w : World} {K : PySem.W.Frag} {mg : Str → Option Value} {F : Hp} : ∀ ns : List Int, Reps w K mg F (ns.map V.int) (ns.map D.int)
  | [] => .nil
  | n :: ns => .cons (.int n) (reps_ints ns)
theorem leaf_sorted {X : Cx} : Leaf1 X (fun v H Q => rSortedI X.K [v] H Q) sortD := by
  intro W σ F H x v s rx
  cases x with
  | lst ds =>
    show At _ _ _ W σ F H _ (ofO (fun ns => D.lst ((sortI ns).map D.int)) (intsD ds)) _
    cases e : intsD ds with
    | none => trivial
    | some ns =>
      obtain ⟨a, rfl, h⟩ := lst_ints s rx e
      exact fun Q hQ => ⟨a, ns, rfl, h, fun ns' p h1 h2 hp => by
        rw [sortI_uniq h1 h2]
        exact hQ _ F _ (Step.own s hp) ⟨p, (sortI ns).map V.int, rfl, upd_same, Same.none s hp, hp, reps_ints _⟩⟩
  | _ => trivial
theorem ev_sorted {X : Cx} {W : WX} {own : List Nat} {a : Expr} {fa : SD → R D} {p pos : Pos} (hg : Gl X "sorted") (hm : X.mg "sorted" = none) (ns : nostar a = true) (ha : EV X W own .read a fa) : EV X W own .fresh (.Call (.Name "sorted" p) [a] [] pos) (fun st => (fa st).bind fun x => sortD x) :=
  ev_b1 cr_sortedI hg hm PyProof.Rows.boot_sorted (by decide) (by decide) ns leaf_sorted ha
/-- x.index(y), x a list of ints -/
def lstD : D → R D
  | .lst ds => .ok (.lst ds)
  | _ => .un
def ixOfD : D → D → R D
  | .lst ds, .int i => ofO (fun j : Nat => D.int (j : Nat)) ((intsD ds).bind fun ns => ns.findIdx? fun n => decide (n = i))
  | _, _ => .un
theorem leaf_ixOf {X : Cx} {W : WX} {σ : L2.St} {F H : Hp} {ds : List D} {y : D} {v u : V} (s : Same F H) (rx : RelR X.w X.K X.mg F H v (.lst ds)) (ry : RelR X.w X.K X.mg F H u y) : At X.w X.K X.mg W σ F H (fun Q => rIndex X.K v [u] H Q) (ixOfD (.lst ds) y) (RelM X.w X.K X.mg .fresh H) := by
  cases y with
  | int i =>
    cases ry.int
    show At _ _ _ W σ F H _ (ofO (fun j : Nat => D.int (j : Nat)) ((intsD ds).bind fun ns => ns.findIdx? fun n => decide (n = i))) _
    cases e : intsD ds with
    | none => trivial
    | some ns =>
      obtain ⟨a, rfl, h⟩ := lst_ints s rx e
      cases ej : ns.findIdx? (fun n => decide (n = i)) with
      | none =>
        have e2 : (some ns).bind (fun ns : List Int => ns.findIdx? fun n => decide (n = i)) = none := ej
        rw [e2]; trivial
      | some j =>
        have e2 : (some ns).bind (fun ns : List Int => ns.findIdx? fun n => decide (n = i)) = some j := ej
        rw [e2]
        obtain ⟨hj, h1, h2⟩ := List.findIdx?_eq_some_iff_getElem.mp ej
        refine at_flat s (fun Q q => ⟨a, ns.map V.int, .int i, j, .int ns[j], rfl, rfl, h, rfl, ?_, ?_, ?_, ?_, q⟩) (.int _) rfl
        · exact List.all_eq_true.mpr fun x hx => by
            obtain ⟨n, _, rfl⟩ := List.mem_map.mp hx
            rfl
        · rw [List.getElem?_map, List.getElem?_eq_getElem hj]; rfl
        · have := of_decide_eq_true h1
          show (ns[j] == i) = true
          simpa using this
        · intro m z' hm hz
          rw [List.getElem?_map, List.getElem?_eq_getElem (by omega)] at hz
          cases hz
          have := h2 m hm
          show (ns[m] == i) = false
          simpa using this
  | _ => trivial
theorem ev_ixOf {X : Cx} {W : WX} {own : List Nat} {a b : Expr} {fa fb : SD → R D} {apos pos : Pos} (hb : abase a = true) (hline : (apos.endLine == pos.line) = true) (nb : nostar b = true) (hfew : ((backTo pos (starEach [b] X.env)).all (fun x => !x.1) && (backToKw pos (keywordEach [] X.env)).all (fun x => x.1.isSome)
      && decide ([b].length + ([] : List Keyword).length + (if ([] : List Keyword).isEmpty then 0 else 1) < 30)) = true) (ha : EV X W own .read a fa) (hbv : EV X W own .read b fb) :
    EV X W own .fresh (.Call (.Attribute a "index" apos) [b] [] pos) (fun st => (fa st).bind fun x => (lstD x).bind fun x => (fb st).bind fun y => ixOfD x y) := by
  obtain ⟨ta, pa, qa⟩ := ha
  obtain ⟨tb, pb, qb⟩ := hbv
  refine ⟨_, pe_bm PySem.F.plainAttrs_list PySem.F.slot_list_index rfl mt_index pa (pa_cons pb pa_nil (starEach_cons nb)) (abase_ok hb) hfew hline (starEach_cons nb) (backTo_plain rfl), fun H0 F H σ st s rl => ?_⟩
  show At X.w X.K X.mg W σ F H (fun Q => ta σ H fun x H1 => tyV X.K "list" x H1 ∧ tb σ H1 fun y H2 => rIndex X.K x [y] H2 Q) ((fa st).bind fun x => (lstD x).bind fun x => (fb st).bind fun y => ixOfD x y) (RelM X.w X.K X.mg .fresh H)
  refine At.bind (U := fun x H1 Q => tyV X.K "list" x H1 ∧ tb σ H1 fun y H2 => rIndex X.K x [y] H2 Q) (qa H0 F H σ st s rl) fun v x F1 H1 s1 r1 => ?_
  cases x with
  | lst ds =>
    have key : At X.w X.K X.mg W σ F1 H1 (fun Q => tb σ H1 fun y H2 => rIndex X.K v [y] H2 Q) ((fb st).bind fun y => ixOfD (.lst ds) y) (RelM X.w X.K X.mg .fresh H) := by
      refine At.bind (U := fun y H2 Q => rIndex X.K v [y] H2 Q) (qb H0 F1 H1 σ st s1.fh (rl.step s1)) fun u y F2 H2 s2 r2 => ?_
      exact At.fresh (s1.hh.trans s2.hh) (leaf_ixOf s2.fh (RelR.step s2 r1) r2)
    have r1' : RelR X.w X.K X.mg F1 H1 v (.lst ds) := r1
    obtain ⟨p, xs, rfl, h1, _⟩ := r1'.lst s1.fh
    exact key.map (f := id) (fun Q q => ⟨.inl ⟨rfl, xs, h1⟩, q⟩) fun b a F2 H2 _ z => z
  | _ => trivial
/-- x.bit_length() -/
def bitsD : D → R D
  | .int i => .ok (.int (Builtin.Int.intBits i : Nat))
  | _ => .un
theorem leaf_bits {X : Cx} : Leaf1 X (fun v H Q => ∃ i, v = .int i ∧ Q (.int (Builtin.Int.intBits i : Nat)) H) bitsD := by
  intro W σ F H x v s rx
  cases x with
  | int i => cases rx.int; exact at_flat s (fun Q q => ⟨i, rfl, q⟩) (.int _) rfl
  | _ => trivial
theorem ev_bits {X : Cx} {W : WX} {own : List Nat} {a : Expr} {fa : SD → R D} {apos pos : Pos} (hb : abase a = true) (hline : (apos.endLine == pos.line) = true) (ha : EV X W own .read a fa) : EV X W own .fresh (.Call (.Attribute a "bit_length" apos) [] [] pos) (fun st => (fa st).bind fun x => bitsD x) :=
  ev_op1 (r := fun v H Q => ∃ i, v = .int i ∧ Q (.int (Builtin.Int.intBits i : Nat)) H) (fun p => pe_bits p (abase_ok hb) hline) leaf_bits ha
theorem lookup_mem {α β : Type} [BEq α] [LawfulBEq α] {a : α} {b : β} : ∀ {l : List (α × β)}, l.lookup a = some b → (a, b) ∈ l
  | [], h => by cases h
  | (x, y) :: l, h => by
    rw [List.lookup_cons] at h
    cases e : (a == x) with
    | true =>
      rw [e] at h
      cases h
      rw [eq_of_beq e]
      exact List.mem_cons_self
    | false =>
      rw [e] at h
      exact List.mem_cons_of_mem _ (lookup_mem h)
abbrev MTbl := List (Str × (List D → R D))
/-- the def that the method is, by the receiver's class -/
def recvD (m : Str) (tbl : MTbl) : D → R (List D → R D)
  | .ins c ns _ => if m ∈ ns then .un else (match tbl.lookup c with
    | some f => .ok f
    | none => .un)
  | _ => .un
section
variable (P : Program) (w : World) (K : PySem.W.Frag) (mg : Str → Option Value) (base : Heap) (k : Nat)
/-- the promise of an __init__: f tells the instance -/
def spI (c : Str) (n : Nat) (f : List D → R D) : Sp := fun vs H Q E => ∃ (p dx C : Addr) (ws : List V) (Hb : Hp), vs = .ref p :: ws ∧ ws.length = n ∧ mg c = some (.ref C) ∧ NewAt Hb p dx ∧ H = upd (upd Hb dx (.own p)) p (.ins C dx []) ∧ ∃ (F : Hp) (ds : List D), Same F Hb ∧ Reps w K mg F ws ds ∧ (match f ds with
  | .un => False
  | .ok d => ∀ F1 H1, Step F Hb F1 H1 → Rep w K mg F1 (.ref p) d → Q .non H1
  | .ex c ns es => ∀ cls d F1 H1, Step F Hb F1 H1 → ExAt w K mg F1 H1 c ns es cls d → E cls d H1)
/-- the class c, made with n arguments, keeps the promise of f -/
def MkD (c : Str) (n : Nat) (f : List D → R D) : Prop := (∃ (j : Nat) (C : Addr), j + 1 ≤ k ∧ mg c = some (.ref C) ∧ MakeG P w K mg base j C (spI w K mg c n f)) ∧ ∀ ds, ds.length ≠ n → f ds = .un
/-- the method m of class c, with n arguments (the receiver among them), keeps the promise of f -/
def MethD (c m : Str) (n : Nat) (f : List D → R D) : Prop := (∃ C : Addr, mg c = some (.ref C) ∧ MethG P w K mg base k C m (spF w K mg n f)) ∧ ∀ ds, ds.length ≠ n → f ds = .un
end
section
variable {P : Program} {w : World} {K : PySem.W.Frag} {mg : Str → Option Value} {base : Heap}
theorem MakeG.mono {j k : Nat} {C : Addr} {sp : Sp} (h : MakeG P w K mg base j C sp) (l : j ≤ k) : MakeG P w K mg base k C sp := by
  obtain ⟨f, fd, ps, h1, h2, h3⟩ := h
  exact ⟨f, fd, ps, h1, h2.mono l, h3⟩
theorem MethG.mono {j k : Nat} {C : Addr} {m : Str} {sp : Sp} (h : MethG P w K mg base j C m sp) (l : j ≤ k) : MethG P w K mg base k C m sp := by
  obtain ⟨f, fd, ps, h1, h2, h3, h4⟩ := h
  exact ⟨f, fd, ps, h1, h2, h3.mono l, h4⟩
theorem MkD.mono {j k : Nat} {c : Str} {n : Nat} {f : List D → R D} (h : MkD P w K mg base j c n f) (l : j ≤ k) : MkD P w K mg base k c n f := by
  obtain ⟨⟨i, C, h1, h2, h3⟩, h4⟩ := h
  exact ⟨⟨i, C, by omega, h2, h3⟩, h4⟩
theorem MethD.mono {j k : Nat} {c m : Str} {n : Nat} {f : List D → R D} (h : MethD P w K mg base j c m n f) (l : j ≤ k) : MethD P w K mg base k c m n f := by
  obtain ⟨⟨C, h1, h2⟩, h3⟩ := h
  exact ⟨⟨C, h1, h2.mono l⟩, h3⟩
end
section
variable {X : Cx} {W : WX} {own : List Nat} {pos : Pos}
theorem mk_at {j : Nat} {c : Str} {n : Nat} {g : List D → R D} {σ : L2.St} {F H : Hp} {vs : List V} {ds : List D} {C : Addr} (s : Same F H) (r : Reps X.w X.K X.mg F vs ds) (hl : ds.length = n) (hC : X.mg c = some (.ref C)) :
    At X.w X.K X.mg W σ F H (fun Q => ∀ p dx, NewAt H p dx → spI X.w X.K X.mg c n g (.ref p :: vs) (upd (upd H dx (.own p)) p (.ins C dx [])) (fun v H2 => v = .non ∧ Q (V.ref p) H2) fun cls d H => W cls d σ H) (g ds) (RelM X.w X.K X.mg .keep H) := by
  cases e2 : g ds with
  | un => trivial
  | ok d =>
    refine fun Q hQ p dx hn => ⟨p, dx, C, vs, H, rfl, by rw [r.length]; exact hl, hC, hn, rfl, F, ds, s, r, ?_⟩
    rw [e2]
    exact fun F1 H1 s1 r1 => ⟨rfl, hQ _ F1 H1 s1 r1⟩
  | ex c ns es =>
    refine fun Q hQ p dx hn => ⟨p, dx, C, vs, H, rfl, by rw [r.length]; exact hl, hC, hn, rfl, F, ds, s, r, ?_⟩
    rw [e2]
    exact fun cls d F2 H2 s2 r2 => hQ cls d F2 H2 s2 r2
theorem ev_mk {k : Nat} {x : Str} {p : Pos} {e : Expr} {es : List Expr} {fs : SD → R (List D)} {g : List D → R D} (tk : Takes X W) (gd : X.A.guards = some []) (hr : Room k X.A) (Fn : MkD X.prog X.w X.K X.mg X.base k x (e :: es).length g) (hg : Gl X x) (hdb : (x == ("__debug__" : Str)) = false) (ns : nostar e = true) (nss : es.all nostar = true)
    (hs : EVs X W own (e :: es) fs) : EV X W own .keep (.Call (.Name x p) (e :: es) [] pos) (fun st => (fs st).bind g) := by
  obtain ⟨t, pt, qt⟩ := hs
  obtain ⟨⟨j, C, hj, hC, M⟩, hun⟩ := Fn
  refine ⟨_, pe_makeG (k := j) (E := fun σ cls d H => W cls d σ H) M gd (hr.mono hj) hg hC (fun σ => passAtX tk fun _ _ _ z => z) pt hdb (starEach_cons ns) (backTo_plain nss), fun H0 F H σ st s rl => ?_⟩
  refine At.bind (U := fun vs H1 Q => ∀ p dx, NewAt H1 p dx → spI X.w X.K X.mg x (e :: es).length g (.ref p :: vs) (upd (upd H1 dx (.own p)) p (.ins C dx [])) (fun v H2 => v = .non ∧ Q (V.ref p) H2) fun cls d H => W cls d σ H) (qt H0 F H σ st s rl) fun vs ds F1 H1 s1 r1 => ?_
  by_cases hl : ds.length = (e :: es).length
  · exact mk_at (j := j) s1.fh r1 hl hC
  · rw [hun _ hl]; trivial
theorem ev_mk0 {k : Nat} {x : Str} {p : Pos} {g : List D → R D} (tk : Takes X W) (gd : X.A.guards = some []) (hr : Room k X.A) (Fn : MkD X.prog X.w X.K X.mg X.base k x 0 g) (hg : Gl X x) (hdb : (x == ("__debug__" : Str)) = false) : EV X W own .keep (.Call (.Name x p) [] [] pos) (fun st => g []) := by
  obtain ⟨⟨j, C, hj, hC, M⟩, hun⟩ := Fn
  refine ⟨_, pe_makeG0 (k := j) (E := fun σ cls d H => W cls d σ H) M gd (hr.mono hj) hg hC (fun σ => passAtX tk fun _ _ _ z => z) hdb, fun H0 F H σ st s rl => ?_⟩
  exact mk_at (j := j) s .nil rfl hC
theorem recv_un {m : Str} {tbl : MTbl} (x : D) : recvD m tbl x = .un ∨ ∃ c ns ds f, x = .ins c ns ds ∧ m ∉ ns ∧ tbl.lookup c = some f ∧ recvD m tbl x = .ok f := by
  cases x with
  | ins c ns ds =>
    by_cases h : m ∈ ns
    · exact .inl (if_pos h)
    · cases e : tbl.lookup c with
      | none => exact .inl ((if_neg h).trans (by rw [e]))
      | some f => exact .inr ⟨c, ns, ds, f, rfl, h, e, (if_neg h).trans (by rw [e])⟩
  | _ => exact .inl rfl
theorem look_none {f : Str} : ∀ {fs : List (Str × V)} {ns : List Str}, fs.map (·.1) = ns → f ∉ ns → fs.lookup f = none
  | [], _, _, _ => rfl
  | (n, v) :: fs, ns, h, hf => by
    subst h
    simp only [List.map_cons, List.mem_cons, not_or] at hf
    rw [List.lookup_cons]
    have : (f == n) = false := by simpa using hf.1
    rw [this]
    exact look_none rfl hf.2
theorem ev_meth {k : Nat} {m : Str} {apos : Pos} {o e : Expr} {es : List Expr} {fo : SD → R D} {fs : SD → R (List D)} {tbl : MTbl} (tk : Takes X W) (gd : X.A.guards = some []) (hr : Room k X.A) (Fn : ∀ q ∈ tbl, MethD X.prog X.w X.K X.mg X.base k q.1 m ((e :: es).length + 1) q.2)
    (hb : abase o = true) (hline : (apos.endLine == pos.line) = true) (ns : nostar e = true) (nss : es.all nostar = true) (hfew : ((backTo pos (starEach (e :: es) X.env)).all (fun x => !x.1) && (backToKw pos (keywordEach [] X.env)).all (fun x => x.1.isSome)
      && decide ((e :: es).length + ([] : List Keyword).length + (if ([] : List Keyword).isEmpty then 0 else 1) < 30)) = true)
    (ho : EV X W own .keep o fo) (hs : EVs X W own (e :: es) fs) : EV X W own .keep (.Call (.Attribute o m apos) (e :: es) [] pos) (fun st => (fo st).bind fun x => (recvD m tbl x).bind fun f => (fs st).bind fun ds => f (x :: ds)) := by
  obtain ⟨ta, pa, qa⟩ := ho
  obtain ⟨t, pt, qt⟩ := hs
  refine ⟨_, pe_methG (k := k) (E := fun σ cls d H => W cls d σ H) gd hr (fun σ => passAtX tk fun _ _ _ z => z) pa pt (abase_ok hb) hfew hline (starEach_cons ns) (backTo_plain nss), fun H0 F H σ st s rl => ?_⟩
  show At X.w X.K X.mg W σ F H (fun Q => ta σ H fun x H1 => ∃ a C dx fs sp, x = .ref a ∧ H1 a = some (.ins C dx fs) ∧ fs.lookup m = none ∧ MethG X.prog X.w X.K X.mg X.base k C m sp ∧ t σ H1 fun vs H2 => sp (x :: vs) H2 Q fun cls d H => W cls d σ H) _ _
  refine At.bind (U := fun x H1 Q => ∃ a C dx fs sp, x = .ref a ∧ H1 a = some (.ins C dx fs) ∧ fs.lookup m = none ∧ MethG X.prog X.w X.K X.mg X.base k C m sp ∧ t σ H1 fun vs H2 => sp (x :: vs) H2 Q fun cls d H => W cls d σ H) (qa H0 F H σ st s rl) fun v x F1 H1 s1 r1 => ?_
  rcases recv_un (m := m) (tbl := tbl) x with e0 | ⟨c, nms, vs0, f, rfl, hm, ht, e0⟩
  · rw [e0]; trivial
  · rw [e0]
    obtain ⟨⟨C, hC, MG⟩, hun⟩ := Fn _ (lookup_mem ht)
    have r1' : Rep X.w X.K X.mg F1 v (.ins c nms vs0) := r1
    cases r1' with
    | @ins a C' dx fl _ _ _ h1 h2 h3 h4 =>
      rw [hC] at h2; cases h2
      have key : At X.w X.K X.mg W σ F1 H1 (fun Q => t σ H1 fun vs H2 => spF X.w X.K X.mg ((e :: es).length + 1) f (.ref a :: vs) H2 Q fun cls d H => W cls d σ H) ((fs st).bind fun ds => f (.ins c nms vs0 :: ds)) (RelM X.w X.K X.mg .keep H) := by
        refine At.bind (U := fun vs H2 Q => spF X.w X.K X.mg ((e :: es).length + 1) f (.ref a :: vs) H2 Q fun cls d H => W cls d σ H) (qt H0 F1 H1 σ st s1.fh (rl.step s1)) fun vs ds F2 H2 s2 r2 => ?_
        by_cases hl : ds.length = (e :: es).length
        · exact call_at (k := k) s2.fh (.cons (Rep.mono s2.ff _ (.ins h1 hC h3 h4)) r2) (by rw [List.length_cons, hl])
        · have e9 : f (.ins c nms vs0 :: ds) = .un := hun _ (by rw [List.length_cons]; omega)
          rw [e9]; trivial
      exact key.map (f := id) (fun Q q => ⟨a, C, dx, fl, _, rfl, s1.fh _ _ h1, look_none h3 hm, MG, q⟩) fun b a F2 H2 _ z => z
theorem ev_meth0 {k : Nat} {m : Str} {apos : Pos} {o : Expr} {fo : SD → R D} {tbl : MTbl} (tk : Takes X W) (gd : X.A.guards = some []) (hr : Room k X.A) (Fn : ∀ q ∈ tbl, MethD X.prog X.w X.K X.mg X.base k q.1 m 1 q.2)
    (hb : abase o = true) (hline : (apos.endLine == pos.line) = true)
    (ho : EV X W own .keep o fo) : EV X W own .keep (.Call (.Attribute o m apos) [] [] pos) (fun st => (fo st).bind fun x => (recvD m tbl x).bind fun f => f [x]) := by
  obtain ⟨ta, pa, qa⟩ := ho
  refine ⟨_, pe_methG0 (k := k) (E := fun σ cls d H => W cls d σ H) gd hr (fun σ => passAtX tk fun _ _ _ z => z) pa (abase_ok hb) hline, fun H0 F H σ st s rl => ?_⟩
  show At X.w X.K X.mg W σ F H (fun Q => ta σ H fun x H1 => ∃ a C dx fs sp, x = .ref a ∧ H1 a = some (.ins C dx fs) ∧ fs.lookup m = none ∧ MethG X.prog X.w X.K X.mg X.base k C m sp ∧ sp [x] H1 Q fun cls d H => W cls d σ H) _ _
  refine At.bind (U := fun x H1 Q => ∃ a C dx fs sp, x = .ref a ∧ H1 a = some (.ins C dx fs) ∧ fs.lookup m = none ∧ MethG X.prog X.w X.K X.mg X.base k C m sp ∧ sp [x] H1 Q fun cls d H => W cls d σ H) (qa H0 F H σ st s rl) fun v x F1 H1 s1 r1 => ?_
  rcases recv_un (m := m) (tbl := tbl) x with e0 | ⟨c, nms, vs0, f, rfl, hm, ht, e0⟩
  · rw [e0]; trivial
  · rw [e0]
    obtain ⟨⟨C, hC, MG⟩, hun⟩ := Fn _ (lookup_mem ht)
    have r1' : Rep X.w X.K X.mg F1 v (.ins c nms vs0) := r1
    cases r1' with
    | @ins a C' dx fl _ _ _ h1 h2 h3 h4 =>
      rw [hC] at h2; cases h2
      have key : At X.w X.K X.mg W σ F1 H1 (fun Q => spF X.w X.K X.mg 1 f [.ref a] H1 Q fun cls d H => W cls d σ H) (f [.ins c nms vs0]) (RelM X.w X.K X.mg .keep H) := call_at (k := k) s1.fh (.cons (.ins h1 hC h3 h4) .nil) rfl
      exact key.map (f := id) (fun Q q => ⟨a, C, dx, fl, _, rfl, s1.fh _ _ h1, look_none h3 hm, MG, q⟩) fun b a F2 H2 _ z => z
end
/-! ### calls with keywords -/
def kwOk : List Keyword → List Str → Bool
  | [], [] => true
  | ⟨some n, _, _⟩ :: kws, x :: ks => decide (n = x) && kwOk kws ks
  | _, _ => false
theorem kw_names {pos : Pos} {env : Env} : ∀ {kws : List Keyword} {ks : List Str}, kwOk kws ks = true → (backToKw pos (keywordEach kws env)).all (·.1.isSome) = true ∧ (backToKw pos (keywordEach kws env)).filterMap (·.1) = ks ∧ (backToKw pos (keywordEach kws env)).any (·.1.isNone) = false
  | [], [], _ => ⟨rfl, rfl, rfl⟩
  | ⟨some n, e, kp⟩ :: kws, x :: ks, h => by
    simp only [kwOk, Bool.and_eq_true, decide_eq_true_eq] at h
    obtain ⟨rfl, h2⟩ := h
    obtain ⟨h3, h4, h5⟩ := kw_names (pos := pos) (env := env) h2
    unfold backToKw at h3 h4 h5 ⊢
    exact ⟨by simpa [keywordEach] using h3, by simpa [keywordEach] using h4, by simpa [keywordEach] using h5⟩
  | [], _ :: _, h => by cases h
  | ⟨none, _, _⟩ :: _, _, h => by simp [kwOk] at h
  | ⟨some _, _, _⟩ :: _, [], h => by cases h
/-- the values of keywords -/
def EVk (X : Cx) (W : WX) (own : List Nat) (kws : List Keyword) (f : SD → R (List D)) : Prop :=
  ∃ t : TA, PK X kws t ∧ ∀ (H0 F H : Hp) (σ : L2.St) (st : SD), Same F H → SRel X.w X.K X.mg own H0 F H σ st → At X.w X.K X.mg W σ F H (t σ H) (f st) (fun F1 H1 vs ds => Reps X.w X.K X.mg F1 vs ds)
theorem evk_nil {X : Cx} {W : WX} {own : List Nat} : EVk X W own [] (fun _ => .ok []) := ⟨_, pk_nil, fun H0 F H σ st s rl => At.pure (rel := fun F1 H1 vs ds => Reps X.w X.K X.mg F1 vs ds) s .nil⟩
theorem evk_cons {X : Cx} {W : WX} {own : List Nat} {nm : Option Str} {e : Expr} {kpos : Pos} {kws : List Keyword} {fe : SD → R D} {fs : SD → R (List D)} (he : EV X W own .keep e fe) (hs : EVk X W own kws fs) : EVk X W own (⟨nm, e, kpos⟩ :: kws) (fun st => (fe st).bind fun d => (fs st).bind fun ds => .ok (d :: ds)) := by
  obtain ⟨te, pe, qe⟩ := he
  obtain ⟨ts, ps, qs⟩ := hs
  refine ⟨_, pk_cons pe ps, fun H0 F H σ st s rl => ?_⟩
  show At X.w X.K X.mg W σ F H (fun Q => te σ H fun x H1 => ts σ H1 fun xs H2 => Q (x :: xs) H2) _ _
  refine At.bind (U := fun x H1 Q => ts σ H1 fun xs H2 => Q (x :: xs) H2) (qe H0 F H σ st s rl) fun v x F1 H1 s1 r1 => ?_
  refine At.bind (U := fun xs H2 Q => Q (v :: xs) H2) (qs H0 F1 H1 σ st s1.fh (rl.step s1)) fun vs xs F2 H2 s2 r2 => ?_
  exact fun Q hQ => hQ _ F2 H2 (Step.refl s2.fh) (.cons (Rep.mono s2.ff _ r1) r2)
/-- the def named x keeps the promise of f, called with n arguments and the keywords ks -/
structure FnK (P : Program) (w : World) (K : PySem.W.Frag) (mg : Str → Option Value) (base : Heap) (k : Nat) (x : Str) (n : Nat) (ks : List Str) (f : List D → R D) : Prop where
  ex : ∃ (fa : Addr) (fd : FuncData) (ps : List Str) (m : Nat) (f0 : List D → R D) (g : List Value → List Value → List Value) (gV : List V → List V → List V) (G : List D → List D → List D),
    FnG P w K mg base k fa fd ps (spF w K mg m f0) ∧ mg x = some (.ref fa) ∧ PySem.W.keepIn K (.ref fa) = true ∧ KBn K fd ps n ks g gV ∧
    (∀ (F : Hp) (vs zs : List V) (ds es : List D), ds.length = n → es.length = ks.length → Reps w K mg F vs ds → Reps w K mg F zs es → Reps w K mg F (gV vs zs) (G ds es) ∧ (G ds es).length = m) ∧ ∀ ds es, ds.length = n → es.length = ks.length → f (ds ++ es) = f0 (G ds es)
theorem FnK.mono {P : Program} {w : World} {K : PySem.W.Frag} {mg : Str → Option Value} {base : Heap} {j k : Nat} {x : Str} {n : Nat} {ks : List Str} {f : List D → R D} (h : FnK P w K mg base j x n ks f) (l : j ≤ k) : FnK P w K mg base k x n ks f := by
  obtain ⟨fa, fd, ps, m, f0, g, gV, G, h1, h2⟩ := h.ex
  exact ⟨fa, fd, ps, m, f0, g, gV, G, h1.mono l, h2⟩
theorem ev_callK {X : Cx} {W : WX} {own : List Nat} {k n : Nat} {x : Str} {p pos : Pos} {e : Expr} {es : List Expr} {kws : List Keyword} {ks : List Str} {fs gs : SD → R (List D)} {f : List D → R D} (tk : Takes X W) (gd : X.A.guards = some []) (hr : Room k X.A) (Fn : FnK X.prog X.w X.K X.mg X.base k x n ks f) (hg : Gl X x) (hdb : (x == ("__debug__" : Str)) = false) (ns : nostar e = true) (nss : es.all nostar = true)
    (hk : kwOk kws ks = true) (hs : EVs X W own (e :: es) fs) (hz : EVk X W own kws gs) : EV X W own .keep (.Call (.Name x p) (e :: es) kws pos) (fun st => (fs st).bind fun ds => (gs st).bind fun zs => if ds.length = n ∧ zs.length = ks.length then f (ds ++ zs) else .un) := by
  obtain ⟨t, pt, qt⟩ := hs
  obtain ⟨tk2, pk, qk⟩ := hz
  obtain ⟨fa, fd, ps, m, f0, g, gV, G, F1, hm, hkp, hb, hG, hf⟩ := Fn.ex
  obtain ⟨k1, k2, k3⟩ := kw_names (pos := pos) (env := X.env) hk
  have hpl : ((backTo pos (starEach (e :: es) X.env)).any (·.1) || (backToKw pos (keywordEach kws X.env)).any (·.1.isNone)) = false := by
    rw [k3, Bool.or_false]
    exact backTo_plain (by simp only [List.all_cons, Bool.and_eq_true]; exact ⟨ns, nss⟩)
  refine ⟨_, pe_callGk (E := fun σ cls d H => W cls d σ H) F1 gd hr hg hm hkp hb (fun σ => passAtX tk fun _ _ _ z => z) pt pk k1 k2 hdb (starEach_cons ns) hpl, fun H0 F H σ st s rl => ?_⟩
  refine At.bind (U := fun vs H1 Q => tk2 σ H1 fun zs H2 => vs.length = n ∧ zs.length = ks.length ∧ spF X.w X.K X.mg m f0 (gV vs zs) H2 Q fun cls d H => W cls d σ H) (qt H0 F H σ st s rl) fun vs ds F1 H1 s1 r1 => ?_
  refine At.bind (U := fun zs H2 Q => vs.length = n ∧ zs.length = ks.length ∧ spF X.w X.K X.mg m f0 (gV vs zs) H2 Q fun cls d H => W cls d σ H) (qk H0 F1 H1 σ st s1.fh (rl.step s1)) fun zs es F2 H2 s2 r2 => ?_
  split
  · rename_i hl
    have r1' := Reps.mono s2.ff _ r1
    obtain ⟨q1, q2⟩ := hG F2 vs zs ds es hl.1 hl.2 r1' r2
    rw [hf ds es hl.1 hl.2]
    have := call_at (W := W) (σ := σ) (k := k) (g := f0) s2.fh q1 q2
    exact this.map (f := id) (fun Q q => ⟨r1.length.trans hl.1, r2.length.trans hl.2, q⟩) fun b a F3 H3 _ z => z
  · trivial
end Dl

/-! DlG: what is walked, targets, comprehensions. -/
namespace Dl
open PySem PySem.Spec PyProof.Rows L2

/-! ### slots -/
def minus (own vs : List Nat) : List Nat := own.filter fun j => !vs.contains j
theorem mem_minus {own vs : List Nat} {j : Nat} : j ∈ minus own vs ↔ j ∈ own ∧ j ∉ vs := by
  unfold minus
  simp [List.mem_filter]
section
variable {w : World} {K : PySem.W.Frag} {mg : Str → Option Value} {own : List Nat} {H0 F0 F H : Hp} {σ : L2.St} {st : SD}
/-- a slot gets a kept value -/
theorem SRel.setK (r : SRel w K mg own H0 F H σ st) {i : Nat} {v : V} {d : D} (h : Rep w K mg F v d) : SRel w K mg (minus own [i]) H0 F H (σ.set i (some v)) (st.set i (some d)) := by
  refine ⟨by simp [r.len], fun j e hj => ?_, fun j k p dj dk hj hk hne y1 y2 e1 e2 e3 e4 => ?_, fun h1 h2 p hp => ?_⟩
  rotate_right
  · obtain ⟨g1, g2⟩ := mem_minus.mp h2
    rw [List.getElem?_set_ne (fun z => g2 (by simp [z]))]
    exact r.pin (mem_minus.mp h1).1 g1 p hp
  · by_cases hij : j = i
    · subst hij
      have hl : j < st.length := by
        have := (List.getElem?_eq_some_iff.mp hj).1
        simpa using this
      rw [List.getElem?_set_self hl] at hj
      cases hj
      refine ⟨v, by rw [List.getElem?_set_self (by rw [r.len]; exact hl)], .inr ⟨fun z => ?_, h⟩⟩
      rw [mem_minus] at z
      exact z.2 (by simp)
    · rw [List.getElem?_set_ne (Ne.symm hij)] at hj
      obtain ⟨u, e1, h1⟩ := r.val j e hj
      refine ⟨u, by rw [List.getElem?_set_ne (Ne.symm hij)]; exact e1, ?_⟩
      rcases h1 with ⟨a, b⟩ | ⟨a, b⟩
      · exact .inl ⟨mem_minus.mpr ⟨a, by simpa using hij⟩, b⟩
      · exact .inr ⟨fun z => a (mem_minus.mp z).1, b⟩
  · rw [mem_minus] at hj hk
    have n1 : i ≠ j := fun z => hj.2 (by simp [z])
    have n2 : i ≠ k := fun z => hk.2 (by simp [z])
    rw [List.getElem?_set_ne n1] at e1 e3
    rw [List.getElem?_set_ne n2] at e2 e4
    exact r.sep j k p dj dk hj.1 hk.1 hne y1 y2 e1 e2 e3 e4
/-- a slot gets a new value of its own -/
def okF (own : List Nat) (i : Nat) : Bool := decide (i ≠ 1000) && (decide (i ≠ 0) || !own.contains 1000)
theorem okF_ok {own : List Nat} {i : Nat} (h : okF own i = true) : i ≠ 1000 ∧ (i ≠ 0 ∨ 1000 ∉ own) := by
  unfold okF at h
  simpa [Bool.and_eq_true] using h
theorem SRel.setF (r : SRel w K mg own H0 F H σ st) (s0 : Same H0 H) {i : Nat} (hm : okF own i = true) {v : V} {d : D} {F1 H1 : Hp} (s : Step F H F1 H1) (h : RelF w K mg H F1 H1 v d) : SRel w K mg (i :: minus own [i]) H0 F1 H1 (σ.set i (some v)) (st.set i (some d)) := by
  have r1 := r.step s
  refine ⟨by simp [r.len], fun j e hj => ?_, fun j k p dj dk hj hk hne y1 y2 e1 e2 e3 e4 => ?_, fun h1 h2 p hp => ?_⟩
  rotate_right
  · obtain ⟨m1, m2⟩ := okF_ok hm
    have k1 : 1000 ∈ own := by
      rcases List.mem_cons.mp h1 with z | z
      · exact absurd z.symm m1
      · exact (mem_minus.mp z).1
    have m3 : i ≠ 0 := m2.resolve_right fun z => z k1
    have k2 : 0 ∈ own := by
      rcases List.mem_cons.mp h2 with z | z
      · exact absurd z.symm m3
      · exact (mem_minus.mp z).1
    rw [List.getElem?_set_ne m3]
    exact r.pin k1 k2 p hp
  · by_cases hij : j = i
    · subst hij
      have hl : j < st.length := by
        have := (List.getElem?_eq_some_iff.mp hj).1
        simpa using this
      rw [List.getElem?_set_self hl] at hj
      cases hj
      refine ⟨v, by rw [List.getElem?_set_self (by rw [r.len]; exact hl)], .inl ⟨by simp, ?_⟩⟩
      exact h.own s0
    · rw [List.getElem?_set_ne (Ne.symm hij)] at hj
      obtain ⟨u, e1, h1⟩ := r1.val j e hj
      refine ⟨u, by rw [List.getElem?_set_ne (Ne.symm hij)]; exact e1, ?_⟩
      rcases h1 with ⟨a, b⟩ | ⟨a, b⟩
      · exact .inl ⟨List.mem_cons_of_mem _ (mem_minus.mpr ⟨a, by simpa using hij⟩), b⟩
      · refine .inr ⟨fun z => ?_, b⟩
        rcases List.mem_cons.mp z with z | z
        · exact hij z
        · exact a (mem_minus.mp z).1
  · -- the new one stands apart from the elder ones
    have key : ∀ (a b : Nat) (da db : D), a = i → da.heapy = true → db.heapy = true → b ≠ i → b ∈ own → (σ.set i (some v))[a]? = some (some (.ref p)) → (st.set i (some d))[a]? = some (some da) → st[b]? = some (some db) → σ[b]? = some (some (.ref p)) → False := by
      intro a b da db ha ya yb hb hbo g1 g2 g3 g4
      subst ha
      have hl : a < st.length := by
        have := (List.getElem?_eq_some_iff.mp g2).1
        simpa using this
      rw [List.getElem?_set_self (by rw [r.len]; exact hl)] at g1
      rw [List.getElem?_set_self hl] at g2
      cases g1; cases g2
      obtain ⟨q, o, e1, h1, h2, h3⟩ := h.heap ya
      cases e1
      obtain ⟨u, e2, hu⟩ := r.val b _ g3
      rw [g4] at e2; cases e2
      rcases hu with ⟨_, hu⟩ | ⟨hu, _⟩
      · obtain ⟨q, o2, e3, k1, _⟩ := hu.heap yb
        cases e3
        rw [h3] at k1; cases k1
      · exact hu hbo
    by_cases hji : j = i
    · have hki : k ≠ i := fun z => hne (hji.trans z.symm)
      have hk' : k ∈ own := by
        rcases List.mem_cons.mp hk with z | z
        · exact absurd z hki
        · exact (mem_minus.mp z).1
      rw [List.getElem?_set_ne (Ne.symm hki)] at e2 e4
      exact key j k dj dk hji y1 y2 hki hk' e3 e1 e2 e4
    · have hj' : j ∈ own := by
        rcases List.mem_cons.mp hj with z | z
        · exact absurd z hji
        · exact (mem_minus.mp z).1
      rw [List.getElem?_set_ne (Ne.symm hji)] at e1 e3
      by_cases hki : k = i
      · exact key k j dk dj hki y2 y1 hji hj' e4 e2 e1 e3
      · have hk' : k ∈ own := by
          rcases List.mem_cons.mp hk with z | z
          · exact absurd z hki
          · exact (mem_minus.mp z).1
        rw [List.getElem?_set_ne (Ne.symm hki)] at e2 e4
        exact r1.sep j k p dj dk hj' hk' hne y1 y2 e1 e2 e3 e4
/-- an own object is laid down for good -/
theorem SRel.freeze (s0 : Step F0 H0 F H) (r : SRel w K mg own H0 F H σ st) (i : Nat) : ∃ F1, Step F0 H0 F1 H ∧ Same F F1 ∧ SRel w K mg (minus own [i]) H0 F1 H σ st := by
  have plain : (∀ d, st[i]? = some (some d) → d.heapy = false) ∨ i ∉ own → ∃ F1, Step F0 H0 F1 H ∧ Same F F1 ∧ SRel w K mg (minus own [i]) H0 F1 H σ st := fun hc => by
    refine ⟨F, s0, Same.refl F, r.len, fun j e hj => ?_, fun j k p dj dk hj hk => r.sep j k p dj dk (mem_minus.mp hj).1 (mem_minus.mp hk).1, fun h1 h2 p hp => r.pin (mem_minus.mp h1).1 (mem_minus.mp h2).1 p hp⟩
    obtain ⟨u, e1, h1⟩ := r.val j e hj
    refine ⟨u, e1, ?_⟩
    rcases h1 with ⟨a, b⟩ | ⟨a, b⟩
    · by_cases hij : j = i
      · subst hij
        refine .inr ⟨fun z => (mem_minus.mp z).2 (by simp), ?_⟩
        rcases hc with hc | hc
        · exact b.flat (hc _ hj)
        · exact absurd a hc
      · exact .inl ⟨mem_minus.mpr ⟨a, by simpa using hij⟩, b⟩
    · exact .inr ⟨fun z => a (mem_minus.mp z).1, b⟩
  by_cases hi : i ∈ own
  · by_cases hh : ∃ d, st[i]? = some (some d) ∧ d.heapy = true
    · obtain ⟨d, hs, hd⟩ := hh
      obtain ⟨v, e1, h⟩ := r.val i _ hs
      rcases h with ⟨_, h⟩ | ⟨h, _⟩
      · obtain ⟨p, o, rfl, h1, h2, h3, h4⟩ := h.heap hd
        have s1 : Step F0 H0 (upd F p o) H := s0.lay h1 h3 h2
        have sf : Same F (upd F p o) := fun b u e => by rw [upd_ne (ne_of_none e h2)]; exact e
        refine ⟨upd F p o, s1, sf, r.len, fun j e hj => ?_, fun j k p dj dk hj hk => r.sep j k p dj dk (mem_minus.mp hj).1 (mem_minus.mp hk).1, fun h1 h2 p hp => r.pin (mem_minus.mp h1).1 (mem_minus.mp h2).1 p hp⟩
        obtain ⟨u, g1, g2⟩ := r.val j e hj
        refine ⟨u, g1, ?_⟩
        by_cases hij : j = i
        · subst hij
          rw [hs] at hj; cases hj
          rw [e1] at g1; cases g1
          exact .inr ⟨fun z => (mem_minus.mp z).2 (by simp), h4⟩
        · rcases g2 with ⟨a, b⟩ | ⟨a, b⟩
          · refine .inl ⟨mem_minus.mpr ⟨a, by simpa using hij⟩, b.mono sf fun he q hq => ?_⟩
            obtain ⟨q', o', e2, _, k2, _⟩ := b.heap he
            rw [hq] at e2; cases e2
            have hqp : q ≠ p := fun z => by
              subst z
              subst hq
              exact r.sep i j q d e hi a (Ne.symm hij) hd he hs hj e1 g1
            rw [upd_ne hqp]; exact k2
          · exact .inr ⟨fun z => a (mem_minus.mp z).1, Rep.mono sf _ b⟩
      · exact absurd hi h
    · exact plain (.inl fun d hd => by
        cases e : d.heapy with
        | false => rfl
        | true => exact absurd ⟨d, hd, e⟩ hh)
  · exact plain (.inr hi)
/-- fewer are one's own -/
theorem SRel.weak (own' : List Nat) (hsub : ∀ j ∈ own', j ∈ own) (s0 : Step F0 H0 F H) (r : SRel w K mg own H0 F H σ st) : ∃ F1, Step F0 H0 F1 H ∧ Same F F1 ∧ SRel w K mg own' H0 F1 H σ st := by
  have go : ∀ (l : List Nat) {own1 : List Nat} {F1 : Hp}, Step F0 H0 F1 H → Same F F1 → SRel w K mg own1 H0 F1 H σ st → (∀ j ∈ own', j ∈ own1) → (∀ j ∈ own1, j ∈ own' ∨ j ∈ l) → (∀ j ∈ own', j ∉ l) → ∃ F2, Step F0 H0 F2 H ∧ Same F F2 ∧ SRel w K mg own' H0 F2 H σ st := by
    intro l
    induction l with
    | nil =>
      intro own1 F1 s1 sf r1 h1 h2 h3
      refine ⟨F1, s1, sf, r1.len, fun j e hj => ?_, fun j k p dj dk hj hk => r1.sep j k p dj dk (h1 j hj) (h1 k hk), fun g1 g2 p hp => r1.pin (h1 _ g1) (h1 _ g2) p hp⟩
      obtain ⟨u, e1, hu⟩ := r1.val j e hj
      refine ⟨u, e1, ?_⟩
      rcases hu with ⟨a, b⟩ | ⟨a, b⟩
      · rcases h2 j a with z | z
        · exact .inl ⟨z, b⟩
        · cases z
      · exact .inr ⟨fun z => a (h1 j z), b⟩
    | cons i l ih =>
      intro own1 F1 s1 sf r1 h1 h2 h3
      obtain ⟨F2, s2, sf2, r2⟩ := SRel.freeze s1 r1 i
      refine ih s2 (sf.trans sf2) r2 (fun j hj => mem_minus.mpr ⟨h1 j hj, fun z => h3 j hj (by simp at z; simp [z])⟩) (fun j hj => ?_) (fun j hj z => h3 j hj (List.mem_cons_of_mem _ z))
      obtain ⟨a, b⟩ := mem_minus.mp hj
      rcases h2 j a with z | z
      · exact .inl z
      · rcases List.mem_cons.mp z with z | z
        · exact absurd z (by simpa using b)
        · exact .inr z
  exact go (own.filter fun j => !own'.contains j) s0 (Same.refl F) r hsub (fun j hj => by
    by_cases h : j ∈ own'
    · exact .inl h
    · exact .inr (List.mem_filter.mpr ⟨hj, by simpa using h⟩)) (fun j hj z => by
    have := (List.mem_filter.mp z).2
    simp at this
    exact this hj)
theorem SRel.sub {own' : List Nat} (hsub : ∀ j, j ∈ own' ↔ j ∈ own) (r : SRel w K mg own H0 F H σ st) : SRel w K mg own' H0 F H σ st := by
  refine ⟨r.len, fun j e hj => ?_, fun j k p dj dk hj hk => r.sep j k p dj dk ((hsub j).mp hj) ((hsub k).mp hk), fun g1 g2 p hp => r.pin ((hsub _).mp g1) ((hsub _).mp g2) p hp⟩
  obtain ⟨u, e1, hu⟩ := r.val j e hj
  refine ⟨u, e1, ?_⟩
  rcases hu with ⟨a, b⟩ | ⟨a, b⟩
  · exact .inl ⟨(hsub j).mpr a, b⟩
  · exact .inr ⟨fun z => a ((hsub j).mp z), b⟩
end

/-! ### targets -/
inductive Tg where
  | nm (i : Nat)
  | tup (is : List Nat)
def Tg.vs : Tg → List Nat
  | .nm i => [i]
  | .tup is => is
def setAll : List Nat → List D → SD → SD
  | i :: is, d :: ds, st => setAll is ds (st.set i (some d))
  | _, _, st => st
def bindT : Tg → D → SD → R SD
  | .nm i, d, st => .ok (st.set i (some d))
  | .tup is, .tup ds, st => if ds.length = is.length then .ok (setAll is ds st) else .un
  | .tup _, _, _ => .un
def EG (X : Cx) (own : List Nat) (tg : Expr) (g : Tg) : Prop :=
  ∃ t : TG, PG X tg t ∧ ∀ (H0 F H : Hp) (σ : L2.St) (st : SD) (v : V) (d : D), Same F H → SRel X.w X.K X.mg own H0 F H σ st → Rep X.w X.K X.mg F v d → ∀ st1, bindT g d st = .ok st1 →
    ∀ Q : L2.St → Hp → Prop, (∀ σ1, SRel X.w X.K X.mg (minus own g.vs) H0 F H σ1 st1 → σ1.length = σ.length → (∀ j, j ∉ g.vs → σ1[j]? = σ[j]?) → Q σ1 H) → t v σ H Q
section
variable {X : Cx} {own : List Nat} {pos : Pos}
theorem eg_name {i : Nat} {x : Str} (hN : X.N.Nodup) (hi : X.N[i]? = some x) (hx : Loc X.env.scope x) (hf : X.fn x = true ∨ X.env.scope.names.lookup x = some .local) : EG X own (.Name x pos) (.nm i) := by
  refine ⟨_, pg_name hN hi hx hf, fun H0 F H σ st v d s rl r st1 e Q hQ => ?_⟩
  cases e
  refine hQ _ (rl.setK r) (by simp) fun j hj => ?_
  have : i ≠ j := fun z => hj (by simp [Tg.vs, z])
  exact List.getElem?_set_ne this
def EGs (X : Cx) (tgs : List Expr) (is : List Nat) : Prop :=
  ∃ t : TGs, PGs X tgs t ∧ ∀ (own : List Nat) (H0 F H : Hp) (σ : L2.St) (st : SD) (vs : List V) (ds : List D), Same F H → SRel X.w X.K X.mg own H0 F H σ st → Reps X.w X.K X.mg F vs ds → ds.length = is.length →
    ∀ Q : L2.St → Hp → Prop, (∀ σ1, SRel X.w X.K X.mg (minus own is) H0 F H σ1 (setAll is ds st) → σ1.length = σ.length → (∀ j, j ∉ is → σ1[j]? = σ[j]?) → Q σ1 H) → t vs σ H Q
theorem minus_nil (own : List Nat) : minus own [] = own := by
  unfold minus; simp
theorem minus_cons (own : List Nat) (i : Nat) (is : List Nat) : minus (minus own [i]) is = minus own (i :: is) := by
  unfold minus
  rw [List.filter_filter]
  congr 1
  funext j
  simp [List.contains_cons, Bool.not_or, Bool.and_comm]
theorem egs_nil : EGs X [] [] := by
  refine ⟨_, pgs_nil, fun own H0 F H σ st vs ds s rl r hl Q hQ => ?_⟩
  cases r with
  | nil => exact ⟨rfl, hQ σ (by rw [minus_nil]; exact rl) rfl fun _ _ => rfl⟩
  | cons _ _ => simp at hl
theorem assignEach_cons {e : Expr} {es : List Expr} {env : Env} (h : nostar e = true) : assignEach (e :: es) env = (false, assign e env) :: assignEach es env := by
  cases e <;> first | rfl | cases h
theorem egs_cons {i : Nat} {x : Str} {es : List Expr} {is : List Nat} (hN : X.N.Nodup) (hi : X.N[i]? = some x) (hx : Loc X.env.scope x) (hf : X.fn x = true ∨ X.env.scope.names.lookup x = some .local) (h : EGs X es is) : EGs X (.Name x pos :: es) (i :: is) := by
  obtain ⟨t, p, q⟩ := h
  refine ⟨_, pgs_cons (pg_name hN hi hx hf) p (by rw [assignEach_cons rfl]; rfl), fun own H0 F H σ st vs ds s rl r hl Q hQ => ?_⟩
  cases r with
  | nil => simp at hl
  | cons r1 r2 =>
    rename_i v vs d ds
    refine ⟨v, vs, rfl, ?_⟩
    refine q (minus own [i]) H0 F H _ (st.set i (some d)) vs ds s (rl.setK r1) r2 (by simpa using hl) Q fun σ1 g1 g2 g3 => hQ σ1 (by rw [← minus_cons]; exact g1) (by rw [g2]; simp) fun j hj => ?_
    rw [g3 j fun z => hj (List.mem_cons_of_mem _ z)]
    exact List.getElem?_set_ne fun z => hj (by simp [z])
theorem eg_tup {es : List Expr} {k : Nat} {is : List Nat} (hc : X.calm = true) (hn : (assignEach es X.env).length = is.length) (hst : (assignEach es X.env).findIdx? (·.1) = none) (h : EGs X es is) : EG X own (.Tuple es k pos) (.tup is) := by
  obtain ⟨t, p, q⟩ := h
  refine ⟨_, pg_tup hc p hn hst, fun H0 F H σ st v d s rl r st1 e Q hQ => ?_⟩
  cases d with
  | tup ds =>
    have e' : (if ds.length = is.length then R.ok (setAll is ds st) else R.un) = R.ok st1 := e
    by_cases hl : ds.length = is.length
    · rw [if_pos hl] at e'
      cases e'
      cases r with
      | tup h1 h2 => exact ⟨_, _, rfl, Same.seqT s h1, by rw [h2.length]; exact hl, q own H0 F H σ st _ ds s rl h2 hl Q hQ⟩
    · rw [if_neg hl] at e'; cases e'
  | _ => cases e
end

/-! ### what a loop walks -/
def SrcRel (w : World) (K : PySem.W.Frag) (mg : Str → Option Value) (F1 H1 : Hp) (J : It) (items : List D) : Prop :=
  ∃ (G : Hp → Prop) (Y : Nat → Hp → V → Hp → Prop), Walk J items.length G Y ∧ (∀ H2, Same F1 H2 → G H2) ∧
    ∀ i F2 H2 x H3, Same F1 F2 → Same F2 H2 → i < items.length → Y i H2 x H3 → ∃ d F3, items[i]? = some d ∧ Step F2 H2 F3 H3 ∧ Rep w K mg F3 x d
def EI (X : Cx) (W : WX) (own : List Nat) (tg iter : Expr) (f : SD → R (List D)) : Prop :=
  ∃ wi : TI, PI X tg iter wi ∧ ∀ (H0 F H : Hp) (σ : L2.St) (st : SD), Same F H → SRel X.w X.K X.mg own H0 F H σ st → At X.w X.K X.mg W σ F H (wi σ H) (f st) (SrcRel X.w X.K X.mg)
section
variable {X : Cx} {W : WX} {own : List Nat} {tg e : Expr} {f : SD → R D} {pos : Pos}
def iterD : D → R (List D)
  | .lst ds => .ok ds
  | .tup ds => .ok ds
  | .str z => .ok (z.cps.toList.map fun c => D.str ⟨#[c]⟩)
  | _ => .un
theorem pi_any {l : Expr} {tl : TE} (hl : PE X l tl) : PI X tg l (fun σ H R => tl σ H fun x H1 => (∃ a, x = .ref a ∧ (∃ xs, SqL X.K H1 a xs) ∧ R (Itl X.K a) H1) ∨ (∃ a, x = .ref a ∧ (∃ xs, SqT X.K H1 a xs) ∧ R (Itt X.K a) H1) ∨ ∃ z, x = .str z ∧ R (Its z) H1) := by
  refine ⟨fun pins s σ H R I h => ?_⟩
  refine thn (hl.run pins s σ H _ I h) fun v s1 ⟨x, H1, I1, r1, q1⟩ => ?_
  rcases q1 with ⟨a, e, ⟨xs, hq⟩, q⟩ | ⟨a, e, ⟨xs, hq⟩, q⟩ | ⟨z, e, q⟩
  · subst e
    cases r1
    obtain ⟨its, rv, p, hz⟩ := I1.list hq
    refine wpAny_pyIter_list p.isList ?_
    refine ⟨s1.heap.objs.size, [s1.heap.objs.size], _, _, H1, rfl, I1.kept (t' := s1.toks) fun b o e => Heap.get?_push_of_some _ e, turn_list a _, ⟨_, Heap.get?_push_size _ rfl, rfl, rfl⟩, fun b hb => ?_, q⟩
    have e : b = s1.heap.objs.size := by simpa using hb
    subst e
    exact I1.fpOk (Nat.le_refl _) (I1.hok.fresh (Nat.le_refl _))
  · subst e
    cases r1
    obtain ⟨its, rv, p, hz⟩ := I1.tuple hq
    refine wpAny_pyIter_tuple (show s1.heap.IsTuple a its.toArray from p) ?_
    refine ⟨s1.heap.objs.size, [s1.heap.objs.size], _, _, H1, rfl, I1.kept (t' := s1.toks) fun b o e => Heap.get?_push_of_some _ e, turn_tuple a _, ⟨_, Heap.get?_push_size _ rfl, rfl, rfl⟩, fun b hb => ?_, q⟩
    have e : b = s1.heap.objs.size := by simpa using hb
    subst e
    exact I1.fpOk (Nat.le_refl _) (I1.hok.fresh (Nat.le_refl _))
  · subst e
    obtain ⟨t, rfl⟩ := r1
    cases ha : z.cps.all (· < 128)
    · exact wpAny_pyIter_wide ha (pi_one (tk := s1.toks) I1 _ (turn_str _ z t "str_iterator" (.inr rfl)) ⟨_, Heap.get?_push_size _ rfl, rfl, rfl⟩ q)
    · exact wpAny_pyIter_ascii ha (pi_one (tk := s1.toks) I1 _ (turn_str _ z t "str_ascii_iterator" (.inl rfl)) ⟨_, Heap.get?_push_size _ rfl, rfl, rfl⟩ q)
theorem srcL {F1 H1 : Hp} {a : Addr} {xs : List V} {ds : List D} (h : SqL X.K F1 a xs) (r : Reps X.w X.K X.mg F1 xs ds) : SrcRel X.w X.K X.mg F1 H1 (Itl X.K a) ds := by
  refine ⟨_, _, by rw [← r.length]; exact walk_list (xs := xs), fun H2 s => Same.seq s h, fun i F2 H2 x H3 s1 s2 hi y => ?_⟩
  obtain ⟨rfl, hx⟩ := y
  obtain ⟨d, e, rd⟩ := r.get' hx
  exact ⟨d, F2, e, Step.refl s2, Rep.mono s1 _ rd⟩
theorem srcT {F1 H1 : Hp} {a : Addr} {xs : List V} {ds : List D} (h : SqT X.K F1 a xs) (r : Reps X.w X.K X.mg F1 xs ds) : SrcRel X.w X.K X.mg F1 H1 (Itt X.K a) ds := by
  refine ⟨_, _, by rw [← r.length]; exact walk_tup (xs := xs), fun H2 s => Same.seqT s h, fun i F2 H2 x H3 s1 s2 hi y => ?_⟩
  obtain ⟨rfl, hx⟩ := y
  obtain ⟨d, e, rd⟩ := r.get' hx
  exact ⟨d, F2, e, Step.refl s2, Rep.mono s1 _ rd⟩
theorem srcS {F1 H1 : Hp} {z : Str} : SrcRel X.w X.K X.mg F1 H1 (Its z) (z.cps.toList.map fun c => D.str ⟨#[c]⟩) := by
  have hw : Walk (Its z) (z.cps.toList.map fun c => D.str ⟨#[c]⟩).length (fun _ => True) (fun i H v H' => H' = H ∧ ∃ c, z.cps[i]? = some c ∧ v = .str ⟨#[c]⟩) := by
    rw [show (z.cps.toList.map fun c => D.str ⟨#[c]⟩).length = z.cps.size by simp]
    exact walk_str
  refine ⟨_, _, hw, fun _ _ => trivial, fun i F2 H2 x H3 g1 g2 hi y => ?_⟩
  obtain ⟨rfl, c, hc, rfl⟩ := y
  refine ⟨.str ⟨#[c]⟩, F2, ?_, Step.refl g2, .str _⟩
  rw [List.getElem?_map, Array.getElem?_toList, hc]; rfl
theorem ei_any (h : EV X W own .keep e f) : EI X W own tg e (fun st => (f st).bind iterD) := by
  obtain ⟨t, p, q⟩ := h
  refine ⟨_, pi_any p, fun H0 F H σ st s rl => ?_⟩
  refine At.bind (U := fun x H1 R => (∃ a, x = .ref a ∧ (∃ xs, SqL X.K H1 a xs) ∧ R (Itl X.K a) H1) ∨ (∃ a, x = .ref a ∧ (∃ xs, SqT X.K H1 a xs) ∧ R (Itt X.K a) H1) ∨ ∃ z, x = .str z ∧ R (Its z) H1) (q H0 F H σ st s rl) fun v x F1 H1 s1 r1 => ?_
  have r1' : Rep X.w X.K X.mg F1 v x := r1
  cases r1' with
  | lst h1 h2 => exact fun Q hQ => .inl ⟨_, rfl, ⟨_, Same.seq s1.fh h1⟩, hQ _ F1 H1 (Step.refl s1.fh) (srcL h1 h2)⟩
  | tup h1 h2 => exact fun Q hQ => .inr (.inl ⟨_, rfl, ⟨_, Same.seqT s1.fh h1⟩, hQ _ F1 H1 (Step.refl s1.fh) (srcT h1 h2)⟩)
  | str z => exact fun Q hQ => .inr (.inr ⟨z, rfl, hQ _ F1 H1 (Step.refl s1.fh) srcS⟩)
  | _ => trivial
/-- the same where the source may be an own list, which nothing writes meanwhile -/
def SrcRelR (w : World) (K : PySem.W.Frag) (mg : Str → Option Value) (F1 H1 : Hp) (J : It) (items : List D) : Prop :=
  ∃ (G : Hp → Prop) (Y : Nat → Hp → V → Hp → Prop), Walk J items.length G Y ∧ (∀ H2, Same H1 H2 → G H2) ∧
    ∀ i F2 H2 x H3, Same F1 F2 → Same H1 H2 → Same F2 H2 → i < items.length → Y i H2 x H3 → ∃ d F3, items[i]? = some d ∧ Step F2 H2 F3 H3 ∧ Rep w K mg F3 x d
def EIR (X : Cx) (W : WX) (own : List Nat) (tg iter : Expr) (f : SD → R (List D)) : Prop :=
  ∃ wi : TI, PI X tg iter wi ∧ ∀ (H0 F H : Hp) (σ : L2.St) (st : SD), Same F H → SRel X.w X.K X.mg own H0 F H σ st → At X.w X.K X.mg W σ F H (wi σ H) (f st) (SrcRelR X.w X.K X.mg)
theorem SrcRel.toR {F1 H1 : Hp} {J : It} {items : List D} (s : Same F1 H1) (h : SrcRel X.w X.K X.mg F1 H1 J items) : SrcRelR X.w X.K X.mg F1 H1 J items := by
  obtain ⟨G, Y, wk, hG, hY⟩ := h
  exact ⟨G, Y, wk, fun H2 s2 => hG H2 (s.trans s2), fun i F2 H2 x H3 s1 _ s3 => hY i F2 H2 x H3 s1 s3⟩
theorem EI.toR {f : SD → R (List D)} (h : EI X W own tg e f) : EIR X W own tg e f := by
  obtain ⟨t, p, q⟩ := h
  refine ⟨t, p, fun H0 F H σ st s rl => ?_⟩
  exact (q H0 F H σ st s rl).map (f := id) (fun Q q => q) fun b a F1 H1 s1 z => SrcRel.toR s1.fh z
theorem ei_anyR (h : EV X W own .read e f) : EIR X W own tg e (fun st => (f st).bind iterD) := by
  obtain ⟨t, p, q⟩ := h
  refine ⟨_, pi_any p, fun H0 F H σ st s rl => ?_⟩
  refine At.bind (U := fun x H1 R => (∃ a, x = .ref a ∧ (∃ xs, SqL X.K H1 a xs) ∧ R (Itl X.K a) H1) ∨ (∃ a, x = .ref a ∧ (∃ xs, SqT X.K H1 a xs) ∧ R (Itt X.K a) H1) ∨ ∃ z, x = .str z ∧ R (Its z) H1) (q H0 F H σ st s rl) fun v x F1 H1 s1 r1 => ?_
  have r1' : RelR X.w X.K X.mg F1 H1 v x := r1
  rcases r1' with r1' | ⟨p, xs, ds, rfl, rfl, h1, hr⟩ | ⟨_, _, _, _, _, _, _, rfl, rfl, _⟩
  rotate_right
  · trivial
  · cases r1' with
    | lst h1 h2 => exact fun Q hQ => .inl ⟨_, rfl, ⟨_, Same.seq s1.fh h1⟩, hQ _ F1 H1 (Step.refl s1.fh) (SrcRel.toR s1.fh (srcL h1 h2))⟩
    | tup h1 h2 => exact fun Q hQ => .inr (.inl ⟨_, rfl, ⟨_, Same.seqT s1.fh h1⟩, hQ _ F1 H1 (Step.refl s1.fh) (SrcRel.toR s1.fh (srcT h1 h2))⟩)
    | str z => exact fun Q hQ => .inr (.inr ⟨z, rfl, hQ _ F1 H1 (Step.refl s1.fh) (SrcRel.toR s1.fh srcS)⟩)
    | _ => trivial
  · refine fun Q hQ => .inl ⟨p, rfl, ⟨xs, SqL.of h1⟩, hQ _ F1 H1 (Step.refl s1.fh) ⟨_, _, by rw [← hr.length]; exact walk_list (K := X.K) (a := p) (xs := xs), fun H2 s => SqL.of (s _ _ h1), fun i F2 H2 x H3 g1 g2 g3 hi y => ?_⟩⟩
    obtain ⟨rfl, hx⟩ := y
    obtain ⟨d, e, rd⟩ := hr.get' hx
    exact ⟨d, F2, e, Step.refl g3, Rep.mono g1 _ rd⟩
/-! ranges -/
def rngD (a b : Int) : R (List D) := if -(2 ^ 62) ≤ a ∧ a < 2 ^ 62 ∧ -(2 ^ 62) ≤ b ∧ b < 2 ^ 62 then .ok ((List.range (b - a).toNat).map fun i => D.int (a + (i : Nat))) else .un
theorem srcR {F1 H1 : Hp} {lo : Int} {n : Nat} : SrcRel X.w X.K X.mg F1 H1 (Itr lo n) ((List.range n).map fun i => D.int (lo + (i : Nat))) := by
  refine ⟨_, _, by rw [List.length_map, List.length_range]; exact walk_range, fun _ _ => trivial, fun i F2 H2 x H3 g1 g2 hi y => ?_⟩
  obtain ⟨rfl, rfl⟩ := y
  rw [List.length_map, List.length_range] at hi
  refine ⟨.int (lo + i), F2, ?_, Step.refl g2, .int _⟩
  rw [List.getElem?_map, List.getElem?_range hi]; rfl
theorem ei_range1 {a : Expr} {fa : SD → R D} {p : Pos} (hg : Gl X "range") (hm : X.mg "range" = none) (ns : nostar a = true) (ha : EV X W own .read a fa) : EI X W own tg (.Call (.Name "range" p) [a] [] pos) (fun st => (fa st).bind fun x => match x with
    | .int n => rngD 0 n
    | _ => .un) := by
  obtain ⟨t, pa, qa⟩ := ha
  refine ⟨_, pi_range1 hg hm (pa_cons pa pa_nil (starEach_cons ns)) (starEach_cons ns), fun H0 F H σ st s rl => ?_⟩
  refine At.bind (U := fun x H1 R => ∃ j : Int, [x] = [V.int j] ∧ -(2 ^ 62) ≤ j ∧ j < 2 ^ 62 ∧ R (Itr 0 j.toNat) H1) (qa H0 F H σ st s rl) fun v x F1 H1 s1 r1 => ?_
  cases x with
  | int n =>
    cases (RelM.toRead r1).int
    show At _ _ _ W σ F1 H1 _ (rngD 0 n) _
    unfold rngD
    split
    · rename_i h
      refine fun Q hQ => ⟨n, rfl, h.2.2.1, h.2.2.2, hQ _ F1 H1 (Step.refl s1.fh) ?_⟩
      have := srcR (X := X) (F1 := F1) (H1 := H1) (lo := 0) (n := n.toNat)
      rw [show (n - 0).toNat = n.toNat by omega]
      exact this
    · trivial
  | _ => trivial
theorem ei_range2 {a b : Expr} {fa fb : SD → R D} {p : Pos} (hg : Gl X "range") (hm : X.mg "range" = none) (na : nostar a = true) (nb : nostar b = true) (ha : EV X W own .read a fa) (hb : EV X W own .read b fb) : EI X W own tg (.Call (.Name "range" p) [a, b] [] pos) (fun st => (fa st).bind fun x => (fb st).bind fun y => match x, y with
    | .int m, .int n => rngD m n
    | _, _ => .un) := by
  obtain ⟨t, pa, qa⟩ := ha
  obtain ⟨u, pb, qb⟩ := hb
  refine ⟨_, pi_range2 hg hm (pa_cons pa (pa_cons pb pa_nil (starEach_cons nb)) (starEach_cons na)) (by rw [starEach_cons na, starEach_cons nb]; rfl) (by rw [starEach_cons nb]; rfl), fun H0 F H σ st s rl => ?_⟩
  refine At.bind (U := fun x H1 R => u σ H1 fun y H2 => ∃ i j : Int, [x, y] = [V.int i, V.int j] ∧ (-(2 ^ 62) ≤ i ∧ i < 2 ^ 62 ∧ -(2 ^ 62) ≤ j ∧ j < 2 ^ 62) ∧ R (Itr i (j - i).toNat) H2) (qa H0 F H σ st s rl) fun v x F1 H1 s1 r1 => ?_
  refine At.bind (U := fun y H2 R => ∃ i j : Int, [v, y] = [V.int i, V.int j] ∧ (-(2 ^ 62) ≤ i ∧ i < 2 ^ 62 ∧ -(2 ^ 62) ≤ j ∧ j < 2 ^ 62) ∧ R (Itr i (j - i).toNat) H2) (qb H0 F1 H1 σ st s1.fh (rl.step s1)) fun v2 y F2 H2 s2 r2 => ?_
  cases x with
  | int m =>
    cases y with
    | int n =>
      cases (RelM.toRead r1).int
      cases (RelM.toRead r2).int
      show At _ _ _ W σ F2 H2 _ (rngD m n) _
      unfold rngD
      split
      · rename_i h
        exact fun Q hQ => ⟨m, n, rfl, h, hQ _ F2 H2 (Step.refl s2.fh) srcR⟩
      · trivial
    | _ => trivial
  | _ => cases y <;> trivial
/-! enumerate, zip -/
def lstOnly : D → R (List D)
  | .lst ds => .ok ds
  | _ => .un
def enumL : Nat → List D → List D
  | _, [] => []
  | k, d :: ds => D.tup [.int k, d] :: enumL (k + 1) ds
theorem enumL_length : ∀ (k : Nat) (ds : List D), (enumL k ds).length = ds.length
  | _, [] => rfl
  | k, d :: ds => by simp [enumL, enumL_length (k + 1) ds]
theorem enumL_get : ∀ (k : Nat) (ds : List D) (i : Nat), (enumL k ds)[i]? = (ds[i]?).map fun d => D.tup [.int ((k + i : Nat) : Int), d]
  | _, [], i => by simp [enumL]
  | k, d :: ds, 0 => by simp [enumL]
  | k, d :: ds, i + 1 => by
    simp only [enumL, List.getElem?_cons_succ, enumL_get (k + 1) ds i]
    congr 1
    funext d
    congr 3
    omega
theorem ei_enum {a : Expr} {fa : SD → R D} {p tpos : Pos} {elts : List Expr} {kk : Nat} (hg : Gl X "enumerate") (hm : X.mg "enumerate" = none) (ns : nostar a = true) (ha : EV X W own .keep a fa) : EI X W own (.Tuple elts kk tpos) (.Call (.Name "enumerate" p) [a] [] pos) (fun st => (fa st).bind fun x => (lstOnly x).bind fun ds => .ok (enumL 0 ds)) := by
  obtain ⟨t, pa, qa⟩ := ha
  refine ⟨_, pi_enum hg hm (pa_cons pa pa_nil (starEach_cons ns)) (starEach_cons ns), fun H0 F H σ st s rl => ?_⟩
  refine At.bind (U := fun x H1 R => ∃ a xs, [x] = [V.ref a] ∧ SqL X.K H1 a xs ∧ R (Ite X.K a) H1) (qa H0 F H σ st s rl) fun v x F1 H1 s1 r1 => ?_
  have r1' : Rep X.w X.K X.mg F1 v x := r1
  cases r1' with
  | @lst a xs ds h1 h2 =>
    refine fun Q hQ => ⟨_, _, rfl, Same.seq s1.fh h1, hQ _ F1 H1 (Step.refl s1.fh) ⟨_, _, by rw [enumL_length, ← h2.length]; exact walk_enum (xs := xs), fun H2 s => Same.seq s h1, fun i F2 H2 x H3 g1 g2 hi y => ?_⟩⟩
    obtain ⟨T, x1, x2, rfl, hT, rfl, e1, e2⟩ := y
    cases e1
    obtain ⟨d, e3, rd⟩ := h2.get' e2
    refine ⟨.tup [.int ((0 + i : Nat) : Int), d], _, by rw [enumL_get, e3]; rfl, Step.new g2 hT, .tup (SqT.of upd_same) (.cons ?_ (.cons (Rep.mono (g1.trans (Step.new g2 hT).ff) _ rd) .nil))⟩
    rw [Nat.zero_add]
    exact .int _
  | _ => trivial
def zipL : List D → List D → List D
  | x :: xs, y :: ys => D.tup [x, y] :: zipL xs ys
  | _, _ => []
theorem zipL_length : ∀ xs ys : List D, (zipL xs ys).length = min xs.length ys.length
  | [], ys => by simp [zipL]
  | x :: xs, [] => by simp [zipL]
  | x :: xs, y :: ys => by simp only [zipL, List.length_cons, zipL_length xs ys]; omega
theorem zipL_get : ∀ (xs ys : List D) (i : Nat) (x y : D), xs[i]? = some x → ys[i]? = some y → (zipL xs ys)[i]? = some (.tup [x, y])
  | [], _, _, _, _, h, _ => by simp at h
  | _ :: _, [], _, _, _, _, h => by simp at h
  | x :: xs, y :: ys, 0, _, _, h1, h2 => by simp at h1 h2; simp [zipL, h1, h2]
  | x :: xs, y :: ys, i + 1, a, b, h1, h2 => by
    simp only [List.getElem?_cons_succ] at h1 h2
    simp only [zipL, List.getElem?_cons_succ]
    exact zipL_get xs ys i a b h1 h2
def zipD : D → D → R (List D)
  | .lst a, .lst b => .ok (zipL a b)
  | .tup a, .tup b => .ok (zipL a b)
  | _, _ => .un
theorem walk_zipT {K : PySem.W.Frag} {a b : Addr} {xs ys : List V} {n : Nat} (hn : n = min xs.length ys.length) : Walk (RZ.ItzT K a b) n (fun H => SqT K H a xs ∧ SqT K H b ys) (YPair (fun i => xs[i]?) (fun i => ys[i]?)) := by
  subst hn
  refine ⟨fun i _ hi q => ?_, fun _ q => ⟨xs, ys, q.1, q.2, by omega⟩, fun i H v H' _ q y => ?_⟩
  · have h1 : i < xs.length := by omega
    have h2 : i < ys.length := by omega
    exact ⟨xs, ys, xs[i], ys[i], q.1, q.2, by simp [h1], by simp [h2]⟩
  · obtain ⟨T, x, y, h1, h2, h3, h4, h5⟩ := y
    exact ⟨T, x, y, h1, h2, h3, h4 xs q.1, h5 ys q.2⟩
theorem ei_zip {a b : Expr} {fa fb : SD → R D} {p tpos : Pos} {elts : List Expr} {kk : Nat} (hg : Gl X "zip") (hm : X.mg "zip" = none) (na : nostar a = true) (nb : nostar b = true) (ha : EV X W own .keep a fa) (hb : EV X W own .keep b fb) :
    EI X W own (.Tuple elts kk tpos) (.Call (.Name "zip" p) [a, b] [] pos) (fun st => (fa st).bind fun x => (fb st).bind fun y => zipD x y) := by
  obtain ⟨t, pa, qa⟩ := ha
  obtain ⟨u, pb, qb⟩ := hb
  refine ⟨_, RZ.pi_zipA hg hm (pa_cons pa (pa_cons pb pa_nil (starEach_cons nb)) (starEach_cons na)) (starEach_cons na) (backTo_plain (by simp [nb])), fun H0 F H σ st s rl => ?_⟩
  refine At.bind (U := fun x H1 R => u σ H1 fun y H2 => ∃ a b xs ys, [x, y] = [V.ref a, V.ref b] ∧ ((SqL X.K H2 a xs ∧ SqL X.K H2 b ys ∧ R (Itz X.K a b) H2) ∨ (SqT X.K H2 a xs ∧ SqT X.K H2 b ys ∧ R (RZ.ItzT X.K a b) H2))) (qa H0 F H σ st s rl) fun v x F1 H1 s1 r1 => ?_
  refine At.bind (U := fun y H2 R => ∃ a b xs ys, [v, y] = [V.ref a, V.ref b] ∧ ((SqL X.K H2 a xs ∧ SqL X.K H2 b ys ∧ R (Itz X.K a b) H2) ∨ (SqT X.K H2 a xs ∧ SqT X.K H2 b ys ∧ R (RZ.ItzT X.K a b) H2))) (qb H0 F1 H1 σ st s1.fh (rl.step s1)) fun v2 y F2 H2 s2 r2 => ?_
  have r1' : Rep X.w X.K X.mg F2 v x := Rep.mono s2.ff _ r1
  have r2' : Rep X.w X.K X.mg F2 v2 y := r2
  have pair : ∀ {xs ys : List V} {ds es : List D}, Reps X.w X.K X.mg F2 xs ds → Reps X.w X.K X.mg F2 ys es → ∀ i F3 H3 x H4, Same F2 F3 → Same F3 H3 → i < (zipL ds es).length → YPair (fun i => xs[i]?) (fun i => ys[i]?) i H3 x H4 → ∃ d F4, (zipL ds es)[i]? = some d ∧ Step F3 H3 F4 H4 ∧ Rep X.w X.K X.mg F4 x d := by
    intro xs ys ds es h2 k2 i F3 H3 x H4 g1 g2 hi y
    obtain ⟨T, x1, x2, rfl, hT, rfl, e1, e2⟩ := y
    obtain ⟨d, e3, rd⟩ := h2.get' e1
    obtain ⟨d', e4, rd'⟩ := k2.get' e2
    exact ⟨.tup [d, d'], _, zipL_get _ _ _ _ _ e3 e4, Step.new g2 hT, .tup (SqT.of upd_same) (.cons (Rep.mono (g1.trans (Step.new g2 hT).ff) _ rd) (.cons (Rep.mono (g1.trans (Step.new g2 hT).ff) _ rd') .nil))⟩
  cases r1' with
  | lst h1 h2 =>
    cases r2' with
    | lst k1 k2 => exact fun Q hQ => ⟨_, _, _, _, rfl, .inl ⟨Same.seq s2.fh h1, Same.seq s2.fh k1, hQ _ F2 H2 (Step.refl s2.fh) ⟨_, _, walk_zip (by rw [zipL_length, h2.length, k2.length]), fun H2 s => ⟨Same.seq s h1, Same.seq s k1⟩, pair h2 k2⟩⟩⟩
    | _ => trivial
  | tup h1 h2 =>
    cases r2' with
    | tup k1 k2 => exact fun Q hQ => ⟨_, _, _, _, rfl, .inr ⟨Same.seqT s2.fh h1, Same.seqT s2.fh k1, hQ _ F2 H2 (Step.refl s2.fh) ⟨_, _, walk_zipT (by rw [zipL_length, h2.length, k2.length]), fun H2 s => ⟨Same.seqT s h1, Same.seqT s k1⟩, pair h2 k2⟩⟩⟩
    | _ => trivial
  | _ => cases r2' <;> trivial
/-! reversed(list) -/
theorem ei_rev {a : Expr} {fa : SD → R D} {p : Pos} (hg : Gl X "reversed") (hm : X.mg "reversed" = none) (ns : nostar a = true) (ha : EV X W own .keep a fa) : EI X W own tg (.Call (.Name "reversed" p) [a] [] pos) (fun st => (fa st).bind fun x => (lstOnly x).bind fun ds => .ok ds.reverse) := by
  obtain ⟨t, pa, qa⟩ := ha
  refine ⟨_, pi_reversed hg hm (pa_cons pa pa_nil (starEach_cons ns)) (starEach_cons ns), fun H0 F H σ st s rl => ?_⟩
  refine At.bind (U := fun x H1 R => ∃ (a : Addr) (xs : List V), [x] = [V.ref a] ∧ SqL X.K H1 a xs ∧ R (Itv X.K a xs.length) H1) (qa H0 F H σ st s rl) fun v x F1 H1 s1 r1 => ?_
  have r1' : Rep X.w X.K X.mg F1 v x := r1
  cases r1' with
  | @lst a xs ds h1 h2 =>
    refine fun Q hQ => ⟨_, _, rfl, Same.seq s1.fh h1, hQ _ F1 H1 (Step.refl s1.fh) ⟨_, _, by rw [List.length_reverse, ← h2.length]; exact walk_rev (xs := xs), fun H2 s => Same.seq s h1, fun i F2 H2 x H3 g1 g2 hi y => ?_⟩⟩
    obtain ⟨rfl, e⟩ := y
    rw [List.length_reverse] at hi
    obtain ⟨d, e3, rd⟩ := h2.get' e
    refine ⟨d, F2, ?_, Step.refl g2, Rep.mono g1 _ rd⟩
    rw [List.getElem?_reverse hi, ← h2.length]; exact e3
  | _ => trivial
end
end Dl

/-! DlG2: enumerate over a tuple. -/
namespace Dl
open PySem PySem.Spec PyProof.Rows L2

theorem meets_enumT (l : Addr) (items : Array Value) (n : Nat) (dct : Option Addr) (sl : Array (Option Value)) :
    Meets (Builtin.«enumerate.__new__» ⟨[.type "enumerate", .ref l], []⟩) (fun _ R s => s.heap.get? l = some { cls := .type "tuple", dict := dct, data := .seq items n, slots := sl } ∧
      R (.ok (.ret (.ref (s.heap.push { cls := .type "tuple_iterator", data := .fields #[.ref l, .int 0 0] }).objs.size)))
        { s with heap := (s.heap.push { cls := .type "tuple_iterator", data := .fields #[.ref l, .int 0 0] }).push { cls := .type "enumerate", data := .fields #[.none, .bool false, .ref s.heap.objs.size, rawInt 0, .none, .none] } }) :=
  .of_wp fun prog w A R s h => by
    obtain ⟨hp, g, d, tk, os⟩ := s; obtain ⟨hl, h⟩ := h
    have hsub := sub_enumerate
    have hL : Heap.IsTuple (Shared.heap ⟨hp, g, d, tk, os⟩) l items := ⟨_, hl, rfl, n, rfl⟩
    wp_walk using AutoSeq1.wpAny_loadPart' hl
    refine wpAny_stack_any fun st => wpAny_pure ?_
    split
    · rename_i c _ _ _ _ _
      cases (c == Value.type "enumerate")
      · wp_walk using AutoSeq1.wpAny_loadPart' hl, wpAny_pyIter_tuple hL
        exact ⟨_, rfl, h⟩
      · wp_walk using AutoSeq1.wpAny_loadPart' hl, wpAny_pyIter_tuple hL
        exact ⟨_, rfl, h⟩
    · wp_walk using AutoSeq1.wpAny_loadPart' hl, wpAny_pyIter_tuple hL
      exact ⟨_, rfl, h⟩
theorem call_enumT {prog : Program} {w : World} {A : Around} {E : Value → Shared → Prop} {s : Shared} {l : Addr} {items : Array Value} {Q : Value → Shared → Prop} (hL : s.heap.IsTuple l items)
    (h : ∀ h', IsEnum h' (s.heap.objs.size + 1) s.heap.objs.size 0 .none → h'.IsTupleIter s.heap.objs.size l 0 → (∀ b o, s.heap.get? b = some o → h'.get? b = some o) → Q (.ref (s.heap.objs.size + 1)) { s with heap := h' }) :
    wpAny (model prog w) A (call (.type "enumerate") [.ref l]) Q E s := by
  obtain ⟨⟨c, dct, dt, sl⟩, hl, hc, n, hd⟩ := hL
  obtain rfl : c = .type "tuple" := hc
  obtain rfl : dt = .seq items n := hd
  have hz : (s.heap.push { cls := .type "tuple_iterator", data := .fields #[.ref l, .int 0 0] }).objs.size = s.heap.objs.size + 1 := Heap.size_push ..
  have he := Heap.get?_push_size (s.heap.push { cls := .type "tuple_iterator", data := .fields #[.ref l, .int 0 0] }) (o := { cls := .type "enumerate", data := .fields #[.none, .bool false, .ref s.heap.objs.size, rawInt 0, .none, .none] }) rfl
  rw [hz] at he
  refine callType_new F.called_enumerate (by decide) (F.typeCall_enumerate_1 _) (F.newCall_enumerate_1 _) (fun obj => F.args_object_init_2 obj _) F.entry_enumerate_new (meets_enumT l items n dct sl) ⟨hl, ?_⟩
  show _ ∧ _
  rw [hz]
  exact ⟨⟨_, he, rfl⟩, h _ he ⟨_, Heap.get?_push_of_some _ (Heap.get?_push_size _ rfl), rfl, rfl⟩ fun b o x => Heap.get?_push_of_some _ (Heap.get?_push_of_some _ x)⟩
/-- the tuple at a, each item in a new pair -/
def IteT (K : PySem.W.Frag) (a : Addr) : It :=
  ⟨fun i H => ∃ (xs : List V) (x : V), SqT K H a xs ∧ xs[i]? = some x, fun i H v H' => ∃ T x, v = .ref T ∧ H T = none ∧ H' = upd H T (.tup [.int (i : Nat), x]) ∧ ∀ xs, SqT K H a xs → xs[i]? = some x, fun i H => ∃ xs : List V, SqT K H a xs ∧ xs.length = i⟩
theorem turn_enumT {P : Program} {w : World} {K : PySem.W.Frag} {elts : List Expr} {kk : Nat} {tpos : Pos} (a e it : Addr) :
    Turn P w K (.Tuple elts kk tpos) (IteT K a) [e, it] e (fun i h => (∃ old, IsEnum h e it ((i : Nat) : Int) old) ∧ h.IsTupleIter it a i ∧ e ≠ it ∧ a ≠ it ∧ a ≠ e) where
  mem := by simp
  obj := fun i h st b hb => by
    obtain ⟨⟨old, he⟩, ⟨o, ho, hc, hd⟩, _⟩ := st
    have e' : b = e ∨ b = it := by simpa using hb
    rcases e' with rfl | rfl
    · exact ⟨_, he, fun v q => nomatch q⟩
    · exact ⟨o, ho, fun v q => by rw [hd] at q; cases q⟩
  keep := fun i h h' st k => let ⟨⟨old, he⟩, hi, hne⟩ := st; ⟨⟨old, k e (by simp) _ he⟩, hi.at fun o q => k it (by simp) o q, hne⟩
  item := by
    intro X hP hw hK hc i pins s σ H E I hf st hg
    subst hP hw hK
    obtain ⟨⟨old, he⟩, hit, hne, ha1, ha2⟩ := st
    obtain ⟨xs, x, hq, hx⟩ := hg
    obtain ⟨its, rv, p, hz⟩ := I.tuple hq
    obtain ⟨u, hu, ru⟩ := rv.get hx
    have hel : e < s.heap.objs.size := Heap.lt_size he
    have hil : it < s.heap.objs.size := by obtain ⟨_, q, _⟩ := hit; exact Heap.lt_size q
    have D := Draws.tuple (prog := X.prog) (w := X.w) (A := X.A.in1) (I.ok.hd hc) it a ha1 its.toArray
    have hi : i < its.toArray.size := by
      have := (List.getElem?_eq_some_iff.mp hu).1
      rw [List.size_toArray]; exact this
    refine wpAny_pyNext_enum_itemD D he ⟨hit, p⟩ hi hne (by simp [hne, Ne.symm ha2]) fun y h' tk hP ho hst' hT hsz hk => ?_
    have hy : y = u := by
      have : its.toArray[i]? = some y := hP
      rw [List.getElem?_toArray, hu] at this
      exact (Option.some.inj this).symm
    subst hy
    refine ⟨_, rfl, wpAny_letOwnedTupleGo_enum (s := { s with heap := h', toks := tk + 1 }) ho fun h'' he' sb => ?_⟩
    have hT2 : h''.get? s.heap.objs.size = some { cls := .type "tuple", data := .seq #[.int i tk, y] } := (sb.2 _ (Nat.ne_of_gt hel)).trans hT
    have new : ObjOk X.prog X.w (upd H s.heap.objs.size (.tup [.int (i : Nat), x])) h'' s.heap.objs.size (.tup [.int (i : Nat), x]) :=
      ⟨by show 2 ≤ sizeLine; decide, [.int i tk, y], .cons ⟨_, rfl⟩ (.cons ru .nil), ⟨_, hT2, rfl, _, rfl⟩⟩
    have I1 : Inv X pins σ (upd H s.heap.objs.size (.tup [.int (i : Nat), x])) { s with heap := h'', toks := tk + 1 } :=
      I.turnedNew (ch := [e, it]) (fun b ob hb q => (sb.2 b (fun z => hb (by simp [z]))).trans (hk b ob (fun z => hb (by simp [z])) (fun z => hb (by simp [z])) q)) hf (Nat.le_refl _) new
    refine ⟨.ref s.heap.objs.size, _, I1, rfl, ⟨_, x, rfl, I.hok.fresh (Nat.le_refl _), rfl, fun ys hy => by rw [I.tuple_inj hy hq]; exact hx⟩, ⟨⟨y, ?_⟩, hst'.1.at fun o q => (sb.2 it (Ne.symm hne)).trans q, hne, ha1, ha2⟩, fun b hb => ?_⟩
    · have e1 : ((i + 1 : Nat) : Int) = (i : Int) + 1 := by omega
      rw [e1]; exact he'
    · have hb' : b < s.heap.objs.size := by
        have e' : b = e ∨ b = it := by simpa using hb
        rcases e' with rfl | rfl
        · exact hel
        · exact hil
      rw [upd_ne (Nat.ne_of_lt hb')]
      exact (hf b hb).1
  done := by
    intro X hP hw hK hc i pins s σ H E I hf st hg
    subst hP hw hK
    obtain ⟨⟨old, he⟩, hit, hne, ha1, ha2⟩ := st
    obtain ⟨xs, hq, hx⟩ := hg
    obtain ⟨its, rv, p, hz⟩ := I.tuple hq
    obtain ⟨f0, f1, f2, f3, f4, f5⟩ := hf it (by simp)
    have hl := rv.length
    have D := Draws.tuple (prog := X.prog) (w := X.w) (A := X.A.in1) (I.ok.hd hc) it a ha1 its.toArray
    have hn : its.toArray.size = i := by rw [List.size_toArray, ← hl]; exact hx
    exact wpAny_pyNext_enum_endD D he ⟨by rw [hn]; exact hit, p⟩ fun h' eb => ⟨rfl, I.turned (t' := s.toks) (fun b o hb q => eb b o hb q) f0 f1 f3 f4 f5⟩
  self := fun A i s Q E st h => let ⟨⟨_, he⟩, _⟩ := st; wpAny_pyIter_enum he h
theorem walk_enumT {K : PySem.W.Frag} {a : Addr} {xs : List V} : Walk (IteT K a) xs.length (fun H => SqT K H a xs) (YPair (fun i => some (.int (i : Nat))) (fun i => xs[i]?)) := by
  refine ⟨fun i _ hi q => ⟨xs, xs[i], q, by simp [hi]⟩, fun _ q => ⟨xs, q, rfl⟩, fun i H v H' _ q y => ?_⟩
  obtain ⟨T, x, h1, h2, h3, h4⟩ := y
  exact ⟨T, .int (i : Nat), x, h1, h2, h3, rfl, h4 xs q⟩
/-- over a list or a tuple -/
theorem pi_enumA {X : Cx} {e : Expr} {ta : TA} {p pos tpos : Pos} {elts : List Expr} {kk : Nat} (hg : Gl X "enumerate") (hm : X.mg "enumerate" = none) (ha : PA X [e] ta) (hs : starEach [e] X.env = [(false, eval e X.env)]) :
    PI X (.Tuple elts kk tpos) (.Call (.Name "enumerate" p) [e] [] pos) (fun σ H R => ta σ H fun vs H1 => ∃ a xs, vs = [.ref a] ∧ ((SqL X.K H1 a xs ∧ R (Ite X.K a) H1) ∨ (SqT X.K H1 a xs ∧ R (IteT X.K a) H1))) := by
  refine ⟨fun pins s σ H R I h => ?_⟩
  refine Call_ (ld_blt I hg hm boot_enumerate (PyProof.Rows.callWith_type1 (thn (ha.run pos pins s σ H _ I h) fun us s1 ⟨vs, H1, I1, r1, q1⟩ => ?_) hs rfl))
  obtain ⟨a, xs, ex, hq⟩ := q1
  subst ex
  cases r1 with
  | cons r rr =>
    cases rr
    cases r
    have two : ∀ b ∈ [s1.heap.objs.size + 1, s1.heap.objs.size], FpOk X pins H1 b := fun b hb => by
      have e' : b = s1.heap.objs.size + 1 ∨ b = s1.heap.objs.size := by simpa using hb
      have hle : s1.heap.objs.size ≤ b := by rcases e' with rfl | rfl <;> omega
      exact I1.fpOk hle (I1.hok.fresh hle)
    rcases hq with ⟨hq, q⟩ | ⟨hq, q⟩
    · obtain ⟨its, rv, p', hz⟩ := I1.list hq
      refine call_enumerate_list p'.isList fun h' he hit hsz hk => wpAny_pyIter_enum he ?_
      exact ⟨s1.heap.objs.size + 1, [s1.heap.objs.size + 1, s1.heap.objs.size], _, _, H1, rfl, I1.kept (t' := s1.toks) hk, turn_enum a (s1.heap.objs.size + 1) s1.heap.objs.size, ⟨⟨.none, he⟩, hit, Nat.succ_ne_self _⟩, two, q⟩
    · obtain ⟨its, rv, p', hz⟩ := I1.tuple hq
      have hal : a < s1.heap.objs.size := by obtain ⟨_, e, _⟩ := p'; exact Heap.lt_size e
      refine call_enumT (show s1.heap.IsTuple a its.toArray from p') fun h' he hit hk => wpAny_pyIter_enum he ?_
      exact ⟨s1.heap.objs.size + 1, [s1.heap.objs.size + 1, s1.heap.objs.size], _, _, H1, rfl, I1.kept (t' := s1.toks) hk, turn_enumT a (s1.heap.objs.size + 1) s1.heap.objs.size, ⟨⟨.none, he⟩, hit, Nat.succ_ne_self _, Nat.ne_of_lt hal, Nat.ne_of_lt (Nat.lt_succ_of_lt hal)⟩, two, q⟩
def seqOnly : D → R (List D)
  | .lst ds => .ok ds
  | .tup ds => .ok ds
  | _ => .un
theorem ei_enumA {X : Cx} {W : WX} {own : List Nat} {pos : Pos} {a : Expr} {fa : SD → R D} {p tpos : Pos} {elts : List Expr} {kk : Nat} (hg : Gl X "enumerate") (hm : X.mg "enumerate" = none) (ns : nostar a = true) (ha : EV X W own .keep a fa) : EI X W own (.Tuple elts kk tpos) (.Call (.Name "enumerate" p) [a] [] pos) (fun st => (fa st).bind fun x => (seqOnly x).bind fun ds => .ok (enumL 0 ds)) := by
  obtain ⟨t, pa, qa⟩ := ha
  refine ⟨_, pi_enumA hg hm (pa_cons pa pa_nil (starEach_cons ns)) (starEach_cons ns), fun H0 F H σ st s rl => ?_⟩
  refine At.bind (U := fun x H1 R => ∃ a xs, [x] = [V.ref a] ∧ ((SqL X.K H1 a xs ∧ R (Ite X.K a) H1) ∨ (SqT X.K H1 a xs ∧ R (IteT X.K a) H1))) (qa H0 F H σ st s rl) fun v x F1 H1 s1 r1 => ?_
  have pair : ∀ {xs : List V} {ds : List D} (h2 : Reps X.w X.K X.mg F1 xs ds) (i : Nat) (F2 H2 : Hp) (x : V) (H3 : Hp), Same F1 F2 → Same F2 H2 → YPair (fun i => some (.int (i : Nat))) (fun i => xs[i]?) i H2 x H3 → ∃ d F3, (enumL 0 ds)[i]? = some d ∧ Step F2 H2 F3 H3 ∧ Rep X.w X.K X.mg F3 x d := by
    intro xs ds h2 i F2 H2 x H3 g1 g2 y
    obtain ⟨T, x1, x2, rfl, hT, rfl, e1, e2⟩ := y
    cases e1
    obtain ⟨d, e3, rd⟩ := h2.get' e2
    refine ⟨.tup [.int ((0 + i : Nat) : Int), d], _, by rw [enumL_get, e3]; rfl, Step.new g2 hT, .tup (SqT.of upd_same) (.cons ?_ (.cons (Rep.mono (g1.trans (Step.new g2 hT).ff) _ rd) .nil))⟩
    rw [Nat.zero_add]
    exact .int _
  have r1' : Rep X.w X.K X.mg F1 v x := r1
  cases r1' with
  | @lst a xs ds h1 h2 =>
    exact fun Q hQ => ⟨_, _, rfl, .inl ⟨Same.seq s1.fh h1, hQ _ F1 H1 (Step.refl s1.fh) ⟨_, _, by rw [enumL_length, ← h2.length]; exact walk_enum (xs := xs), fun H2 s => Same.seq s h1, fun i F2 H2 x H3 g1 g2 hi y => pair h2 i F2 H2 x H3 g1 g2 y⟩⟩⟩
  | @tup a xs ds h1 h2 =>
    exact fun Q hQ => ⟨_, _, rfl, .inr ⟨Same.seqT s1.fh h1, hQ _ F1 H1 (Step.refl s1.fh) ⟨_, _, by rw [enumL_length, ← h2.length]; exact walk_enumT (xs := xs), fun H2 s => Same.seqT s h1, fun i F2 H2 x H3 g1 g2 hi y => pair h2 i F2 H2 x H3 g1 g2 y⟩⟩⟩
  | _ => trivial
end Dl

/-! DlH: list comprehensions. -/
namespace Dl
open PySem PySem.Spec PyProof.Rows L2

def wipeS (st : SD) : List Nat → SD
  | [] => st
  | v :: vs => (wipeS st vs).set v none
section
variable {w : World} {K : PySem.W.Frag} {mg : Str → Option Value} {own : List Nat} {H0 F0 F H : Hp} {σ : L2.St} {st : SD}
theorem SRel.setN (r : SRel w K mg own H0 F H σ st) (i : Nat) : SRel w K mg (minus own [i]) H0 F H (σ.set i none) (st.set i none) := by
  refine ⟨by simp [r.len], fun j e hj => ?_, fun j k p dj dk hj hk hne y1 y2 e1 e2 e3 e4 => ?_, fun h1 h2 p hp => ?_⟩
  · by_cases hij : j = i
    · subst hij
      have hl : j < st.length := by
        have := (List.getElem?_eq_some_iff.mp hj).1
        simpa using this
      rw [List.getElem?_set_self hl] at hj
      cases hj
    · rw [List.getElem?_set_ne (Ne.symm hij)] at hj
      obtain ⟨u, e1, h1⟩ := r.val j e hj
      refine ⟨u, by rw [List.getElem?_set_ne (Ne.symm hij)]; exact e1, ?_⟩
      rcases h1 with ⟨a, b⟩ | ⟨a, b⟩
      · exact .inl ⟨mem_minus.mpr ⟨a, by simpa using hij⟩, b⟩
      · exact .inr ⟨fun z => a (mem_minus.mp z).1, b⟩
  · have n1 : i ≠ j := fun z => (mem_minus.mp hj).2 (by simp [z])
    have n2 : i ≠ k := fun z => (mem_minus.mp hk).2 (by simp [z])
    rw [List.getElem?_set_ne n1] at e1 e3
    rw [List.getElem?_set_ne n2] at e2 e4
    exact r.sep j k p dj dk (mem_minus.mp hj).1 (mem_minus.mp hk).1 hne y1 y2 e1 e2 e3 e4
  · obtain ⟨g1, g2⟩ := mem_minus.mp h2
    rw [List.getElem?_set_ne (fun z => g2 (by simp [z]))]
    exact r.pin (mem_minus.mp h1).1 g1 p hp
theorem SRel.wipe (r : SRel w K mg own H0 F H σ st) : ∀ vs : List Nat, SRel w K mg (minus own vs) H0 F H (L2.wipe σ vs) (wipeS st vs)
  | [] => by rw [minus_nil]; exact r
  | v :: vs => ((SRel.wipe r vs).setN v).sub fun j => by
    rw [mem_minus, mem_minus, mem_minus]
    simp only [List.mem_cons, List.not_mem_nil, or_false, not_or]
    exact ⟨fun ⟨a, b, c⟩ => ⟨⟨a, c⟩, b⟩, fun ⟨⟨a, c⟩, b⟩ => ⟨a, b, c⟩⟩
theorem wipeS_none : ∀ (vs : List Nat) (j : Nat), j ∈ vs → ∀ d, (wipeS st vs)[j]? ≠ some (some d)
  | [], _, h, _ => by cases h
  | v :: vs, j, h, d => by
    unfold wipeS
    by_cases hj : v = j
    · subst hj
      intro e
      by_cases hl : v < (wipeS st vs).length
      · rw [List.getElem?_set_self hl] at e; cases e
      · rw [List.getElem?_eq_none (by simpa using hl)] at e; cases e
    · rw [List.getElem?_set_ne hj]
      refine wipeS_none vs j ?_ d
      rcases List.mem_cons.mp h with z | z
      · exact absurd z.symm hj
      · exact z
theorem wipe_eq {σ2 : L2.St} (hl : σ2.length = σ.length) (vs : List Nat) (h : ∀ j, j ∉ vs → σ2[j]? = σ[j]?) : L2.wipe σ2 vs = L2.wipe σ vs := by
  have key : ∀ (vs : List Nat) (j : Nat) (σ : L2.St), (L2.wipe σ vs)[j]? = if j ∈ vs ∧ j < σ.length then some none else σ[j]? := by
    intro vs
    induction vs with
    | nil => intro j σ; simp [L2.wipe]
    | cons v vs ih =>
      intro j σ
      unfold L2.wipe
      by_cases hj : v = j
      · subst hj
        by_cases hl : v < σ.length
        · rw [List.getElem?_set_self (by rw [wipe_length]; exact hl)]; simp [hl]
        · rw [List.getElem?_eq_none (by rw [List.length_set, wipe_length]; omega)]
          simp [hl]
      · rw [List.getElem?_set_ne hj, ih]
        have : (j ∈ v :: vs) ↔ j ∈ vs := by simp [Ne.symm hj]
        simp only [this]
  apply List.ext_getElem?
  intro j
  rw [key, key, hl]
  by_cases hj : j ∈ vs
  · by_cases h2 : j < σ.length
    · simp [hj, h2]
    · simp only [hj, h2, and_false, if_false]
      rw [List.getElem?_eq_none (by omega), List.getElem?_eq_none (by omega)]
  · simp only [hj, false_and, if_false]
    exact h j hj
end

/-! ### the same reading at every block -/
abbrev blkX (X : Cx) (scope : Scope) (s : Shared) (H : Hp) (C : Addr) (cl : List (Str × Addr)) (fp : List Addr) : Cx := X.blk s H scope (compEnvC scope cl C X.env) fp
abbrev W0 : WX := fun _ _ _ _ => False
section
variable {X : Cx} {scope : Scope} {own : List Nat} {m : Md}
theorem fam_ev {e : Expr} {f : SD → R D} (h : ∀ s H C cl fp, EV (blkX X scope s H C cl fp) W0 own m e f) :
    ∃ te : TE, (∀ s H C cl fp, PE (blkX X scope s H C cl fp) e te) ∧ ∀ (H0 F H : Hp) (σ : L2.St) (st : SD), Same F H → SRel X.w X.K X.mg own H0 F H σ st → At X.w X.K X.mg W0 σ F H (te σ H) (f st) (RelM X.w X.K X.mg m H) := by
  refine ⟨fun σ H Q => ∀ s H' C cl fp, ∃ t, PE (blkX X scope s H' C cl fp) e t ∧ t σ H Q, fun s H C cl fp => ⟨fun pins s1 σ H1 Q I q => ?_⟩, fun H0 F H σ st s rl => ?_⟩
  · obtain ⟨t, p, q⟩ := q s H C cl fp
    exact p.run pins s1 σ H1 Q I q
  · cases e1 : f st with
    | un => trivial
    | ok a =>
      refine fun Q hQ s1 H1 C cl fp => ?_
      obtain ⟨t, p, q⟩ := h s1 H1 C cl fp
      have := q H0 F H σ st s rl
      rw [e1] at this
      exact ⟨t, p, this Q hQ⟩
    | ex c ns ds =>
      refine fun Q hQ s1 H1 C cl fp => ?_
      obtain ⟨t, p, q⟩ := h s1 H1 C cl fp
      have := q H0 F H σ st s rl
      rw [e1] at this
      exact ⟨t, p, this Q hQ⟩
/-- the tests of a clause -/
def ETs (X : Cx) (W : WX) (own : List Nat) (es : List Expr) (f : SD → R Bool) : Prop :=
  ∃ t : TT, PTs X es t ∧ ∀ (H0 F H : Hp) (σ : L2.St) (st : SD), Same F H → SRel X.w X.K X.mg own H0 F H σ st → At X.w X.K X.mg W σ F H (t σ H) (f st) (fun _ _ b a => b = a)
theorem ets_nil {W : WX} : ETs X W own [] (fun _ => .ok true) := ⟨_, pts_nil, fun H0 F H σ st s rl => At.pure (rel := fun _ _ b a => b = a) s rfl⟩
theorem ets_one {W : WX} {c : Expr} {f : SD → R Bool} (h : ET X W own c f) : ETs X W own [c] f := let ⟨t, p, q⟩ := h; ⟨t, pts_one p, q⟩
theorem fam_ets {es : List Expr} {f : SD → R Bool} (h : ∀ s H C cl fp, ETs (blkX X scope s H C cl fp) W0 own es f) :
    ∃ te : TT, (∀ s H C cl fp, PTs (blkX X scope s H C cl fp) es te) ∧ ∀ (H0 F H : Hp) (σ : L2.St) (st : SD), Same F H → SRel X.w X.K X.mg own H0 F H σ st → At X.w X.K X.mg W0 σ F H (te σ H) (f st) (fun _ _ b a => b = a) := by
  refine ⟨fun σ H Q => ∀ s H' C cl fp, ∃ t, PTs (blkX X scope s H' C cl fp) es t ∧ t σ H Q, fun s H C cl fp => ⟨fun pins s1 σ H1 Q I q => ?_⟩, fun H0 F H σ st s rl => ?_⟩
  · obtain ⟨t, p, q⟩ := q s H C cl fp
    exact p.run pins s1 σ H1 Q I q
  · cases e1 : f st with
    | un => trivial
    | ok a =>
      refine fun Q hQ s1 H1 C cl fp => ?_
      obtain ⟨t, p, q⟩ := h s1 H1 C cl fp
      have := q H0 F H σ st s rl
      rw [e1] at this
      exact ⟨t, p, this Q hQ⟩
    | ex c ns ds =>
      refine fun Q hQ s1 H1 C cl fp => ?_
      obtain ⟨t, p, q⟩ := h s1 H1 C cl fp
      have := q H0 F H σ st s rl
      rw [e1] at this
      exact ⟨t, p, this Q hQ⟩
theorem fam_eg {tg : Expr} {g : Tg} (h : ∀ s H C cl fp, EG (blkX X scope s H C cl fp) own tg g) :
    ∃ t : TG, (∀ s H C cl fp, PG (blkX X scope s H C cl fp) tg t) ∧ ∀ (H0 F H : Hp) (σ : L2.St) (st : SD) (v : V) (d : D), Same F H → SRel X.w X.K X.mg own H0 F H σ st → Rep X.w X.K X.mg F v d → ∀ st1, bindT g d st = .ok st1 →
      ∀ Q : L2.St → Hp → Prop, (∀ σ1, SRel X.w X.K X.mg (minus own g.vs) H0 F H σ1 st1 → σ1.length = σ.length → (∀ j, j ∉ g.vs → σ1[j]? = σ[j]?) → Q σ1 H) → t v σ H Q := by
  refine ⟨fun v σ H Q => ∀ s H' C cl fp, ∃ t, PG (blkX X scope s H' C cl fp) tg t ∧ t v σ H Q, fun s H C cl fp => ⟨fun pins s1 σ H1 v u Q I r q => ?_⟩, fun H0 F H σ st v d s rl r st1 e Q hQ s1 H1 C cl fp => ?_⟩
  · obtain ⟨t, p, q⟩ := q s H C cl fp
    exact p.run pins s1 σ H1 v u Q I r q
  · obtain ⟨t, p, q⟩ := h s1 H1 C cl fp
    exact ⟨t, p, q H0 F H σ st v d s rl r st1 e Q hQ⟩
end

/-! ### what a comprehension gives -/
def compL (g : Tg) (c : SD → R Bool) (f : SD → R D) (st : SD) : List D → Option (List D)
  | [] => some []
  | d :: ds => match bindT g d (wipeS st g.vs) with
    | .ok st1 => match c st1 with
      | .ok true => match f st1 with
        | .ok y => (compL g c f st ds).map (y :: ·)
        | _ => none
      | .ok false => compL g c f st ds
      | _ => none
    | _ => none
def compR (g : Tg) (c : SD → R Bool) (f : SD → R D) (st : SD) (items : List D) : R D := if items.length ≤ 16777216 then ofO D.lst (compL g c f st items) else .un
section
variable {X : Cx} {W : WX} {scope : Scope} {own : List Nat} {tg iter elt : Expr} {ifs : List Expr} {fs : SD → R (List D)} {fc : SD → R Bool} {fe : SD → R D} {g : Tg} {names : List (Str × Nat)} {pos : Pos}
theorem comp_core (hi : EIR X W own tg iter fs) (hv : names.map (·.2) = g.vs)
    (hg : ∀ s H C cl fp, EG (blkX X scope s H C cl fp) (minus own g.vs) tg g) (ht : ∀ s H C cl fp, ETs (blkX X scope s H C cl fp) W0 (minus own g.vs) ifs fc) (he : ∀ s H C cl fp, EV (blkX X scope s H C cl fp) W0 (minus own g.vs) .keep elt fe) :
    ∃ (wi : TI) (tgr : TG) (tt : TT) (te : TE), PI X tg iter wi ∧ (∀ s H C cl fp, PG (blkX X scope s H C cl fp) tg tgr) ∧ (∀ s H C cl fp, PTs (blkX X scope s H C cl fp) ifs tt) ∧ (∀ s H C cl fp, PE (blkX X scope s H C cl fp) elt te) ∧
      ∀ (H0 F H : Hp) (σ : L2.St) (st : SD), Same F H → SRel X.w X.K X.mg own H0 F H σ st → At X.w X.K X.mg W σ F H (tLc wi tgr tt te (names.map (·.2)) σ H) ((fs st).bind fun items => compR g fc fe st items) (RelM X.w X.K X.mg .fresh H) := by
  obtain ⟨wi, pi, qi⟩ := hi
  obtain ⟨tgr, pg, qg⟩ := fam_eg hg
  obtain ⟨tt, pt, qt⟩ := fam_ets ht
  obtain ⟨te, pe, qe⟩ := fam_ev he
  refine ⟨wi, tgr, tt, te, pi, pg, pt, pe, fun H0 F H σ st s rl => ?_⟩
  rw [hv]
  unfold tLc
  refine At.bind (U := fun J H1 (Q : V → Hp → Prop) => ∀ D, H1 D = none → ∃ W : Nat → Nat → Hp → Prop, (∃ m, W 0 m (upd H1 D (.lst []))) ∧ ∀ i m H, W i m H →
    (J.stop i H ∧ Q (.ref D) H) ∨ (J.go i H ∧ ∃ Nx : Hp → Prop, (∀ H', Nx H' → ∃ m', m' < m ∧ W (i + 1) m' H') ∧ ∀ x H', J.yld i H x H' → tgr x (wipe σ g.vs) H' fun σ2 H2 => wipe σ2 g.vs = wipe σ g.vs ∧ tt σ2 H2 fun b H3 =>
      if b = true then te σ2 H3 fun y H4 => ∃ acc, H4 D = some (.lst acc) ∧ acc.length < sizeLine ∧ Nx (upd H4 D (.lst (acc ++ [y]))) else Nx H3)) (qi H0 F H σ st s rl) fun J items F1 H1 s1 r1 => ?_
  show At _ _ _ W σ F1 H1 _ (if items.length ≤ 16777216 then ofO D.lst (compL g fc fe st items) else .un) _
  split
  · rename_i hz
    cases ec : compL g fc fe st items with
    | none => trivial
    | some ys =>
      obtain ⟨G, Y, wk, hG, hY⟩ := r1
      refine fun Q hQ D hD => ?_
      have rl1 := rl.step s1
      refine lc_it wk (fun i H2 => ∃ (F2 : Hp) (xs : List V) (acc rest : List Dl.D), Step F1 H1 F2 H2 ∧ F2 D = none ∧ H2 D = some (.lst xs) ∧ Reps X.w X.K X.mg F2 xs acc ∧ compL g fc fe st (items.drop i) = some rest ∧ acc ++ rest = ys ∧ acc.length ≤ i) ?_ (fun i H2 hi ⟨F2, xs, acc, rest, s2, _⟩ => hG H2 s2.hh) ?_ ?_
      · exact ⟨F1, [], [], ys, Step.own s1.fh hD, Same.none s1.fh hD, upd_same, .nil, ec, rfl, Nat.le_refl _⟩
      · rintro i x H2 H3 hi ⟨F2, xs, acc, rest, s2, hFD, hHD, ra, er, ey, hl⟩ y
        obtain ⟨d, F3, ed, s3, rd⟩ := hY i F2 H2 x H3 s2.ff s2.hh s2.fh hi y
        have hdrop : items.drop i = d :: items.drop (i + 1) := by
          obtain ⟨h1, h2⟩ := List.getElem?_eq_some_iff.mp ed
          rw [List.drop_eq_getElem_cons h1, h2]
        rw [hdrop] at er
        unfold compL at er
        have s13 := s2.trans s3
        have rlw : SRel X.w X.K X.mg (minus own g.vs) H0 F3 H3 (wipe σ g.vs) (wipeS st g.vs) := (rl1.step s13).wipe g.vs
        have hF3D : F3 D = none := s3.nw D (by rw [hHD]; exact fun z => nomatch z) hFD
        have hH3D : H3 D = some (.lst xs) := s3.hh _ _ hHD
        cases eb : bindT g d (wipeS st g.vs) with
        | un => rw [eb] at er; cases er
        | ex c ns ds => rw [eb] at er; cases er
        | ok st1 =>
          rw [eb] at er
          refine qg H0 F3 H3 (wipe σ g.vs) (wipeS st g.vs) x d s3.fh rlw rd st1 eb _ fun σ2 rl2 hl2 hs2 => ?_
          refine ⟨by rw [wipe_eq hl2 g.vs hs2]; exact wipe_eq (by rw [wipe_length]) g.vs (fun j hj => wipe_out hj), ?_⟩
          have rl2' : SRel X.w X.K X.mg (minus own g.vs) H0 F3 H3 σ2 st1 := rl2.sub fun j => by rw [mem_minus, mem_minus, mem_minus]; exact ⟨fun ⟨a, b⟩ => ⟨⟨a, b⟩, b⟩, fun ⟨a, b⟩ => a⟩
          have at1 := qt H0 F3 H3 σ2 st1 s3.fh rl2'
          cases ecd : fc st1 with
          | un => simp only [ecd] at er; cases er
          | ex c ns ds => simp only [ecd] at er; cases er
          | ok k =>
            simp only [ecd] at er
            rw [ecd] at at1
            refine at1 _ fun b F4 H4 s4 eb2 => ?_
            subst eb2
            have hF4D : F4 D = none := s4.nw D (by rw [hH3D]; exact fun z => nomatch z) hF3D
            have hH4D : H4 D = some (.lst xs) := s4.hh _ _ hH3D
            cases b with
            | false =>
              rw [if_neg Bool.false_ne_true]
              exact ⟨F4, xs, acc, rest, s13.trans s4, hF4D, hH4D, Reps.mono (s3.trans s4).ff _ ra, er, ey, by omega⟩
            | true =>
              rw [if_pos rfl]
              have at2 := qe H0 F4 H4 σ2 st1 s4.fh (rl2'.step s4)
              cases ee : fe st1 with
              | un => simp only [ee] at er; cases er
              | ex c ns ds => simp only [ee] at er; cases er
              | ok yv =>
                simp only [ee] at er
                rw [ee] at at2
                refine at2 _ fun v F5 H5 s5 rv => ?_
                have hF5D : F5 D = none := s5.nw D (by rw [hH4D]; exact fun z => nomatch z) hF4D
                have hH5D : H5 D = some (.lst xs) := s5.hh _ _ hH4D
                simp only [Option.map_eq_some_iff] at er
                obtain ⟨rest', er', erest⟩ := er
                subst erest
                have ra5 : Reps X.w X.K X.mg F5 xs acc := Reps.mono ((s3.trans s4).trans s5).ff _ ra
                refine ⟨xs, hH5D, by rw [sizeLine_eq, ra.length]; omega, ?_⟩
                exact ⟨F5, xs ++ [v], acc ++ [yv], rest', ((s13.trans s4).trans s5).write hD hF5D, hF5D, upd_same, ra5.append (.cons rv .nil), er', by rw [← ey]; simp, by simp; omega⟩
      · rintro H2 ⟨F2, xs, acc, rest, s2, hFD, hHD, ra, er, ey, hl⟩
        rw [List.drop_of_length_le (Nat.le_refl _)] at er
        cases er
        rw [List.append_nil] at ey
        subst ey
        exact hQ _ F2 H2 s2 ⟨D, xs, rfl, hHD, hFD, s1.hh.free hD, ra⟩
  · trivial
theorem ev_comp (hc : X.calm = true) (hN : X.N.Nodup) (ok : BlkOk X.N X.env.scope scope names) (hf : ∀ x, foldedSetIterable iter X.env x = pure x) (hi : EIR X W own tg iter fs) (hv : names.map (·.2) = g.vs)
    (hg : ∀ s H C cl fp, EG (blkX X scope s H C cl fp) (minus own g.vs) tg g) (ht : ∀ s H C cl fp, ETs (blkX X scope s H C cl fp) W0 (minus own g.vs) ifs fc) (he : ∀ s H C cl fp, EV (blkX X scope s H C cl fp) W0 (minus own g.vs) .keep elt fe) :
    EV X W own .fresh (.ListComp elt [⟨tg, iter, ifs, 0⟩] scope pos) (fun st => (fs st).bind fun items => compR g fc fe st items) := by
  obtain ⟨wi, tgr, tt, te, p1, p2, p3, p4, q⟩ := comp_core (names := names) hi hv hg ht he
  exact ⟨_, pe_lc hc hN p1 ok p2 p3 p4 hf, q⟩
end
end Dl

/-! DlI: statements. -/
namespace Dl
open PySem PySem.Spec PyProof.Rows L2

/-- what comes of a statement -/
inductive O where
  | un | nx (st : SD) | rt (d : D) | bk (st : SD) | ct (st : SD) | ex (st : SD) (c : Str) (ns : List Str) (ds : List D)
def R.toO {α : Type} : R α → SD → (α → O) → O
  | .un, _, _ => .un
  | .ok a, _, k => k a
  | .ex c ns ds, st, _ => .ex st c ns ds
def O.bind : O → (SD → O) → O
  | .nx st, k => k st
  | o, _ => o

/-- what is one's own behind it: by the next statement, at a break, at a continue -/
structure Ow where
  nx : List Nat
  bk : List Nat := []
  ct : List Nat := []
section
variable (X : Cx) (W : WX) (H0 F0 Fc : Hp)
def AtS (w : Ow) (T : Ends → Prop) (o : O) : Prop :=
  match o with
  | .un => True
  | .nx st1 => ∀ Dn : Ends, (∀ σ1 F1 H1, Step F0 H0 F1 H1 → Same Fc F1 → SRel X.w X.K X.mg w.nx H0 F1 H1 σ1 st1 → Dn.nx σ1 H1) → T Dn
  | .rt d => ∀ Dn : Ends, (∀ v F1 H1, Step F0 H0 F1 H1 → Same Fc F1 → Rep X.w X.K X.mg F1 v d → Dn.rt v H1) → T Dn
  | .bk st1 => ∀ Dn : Ends, (∀ σ1 F1 H1, Step F0 H0 F1 H1 → Same Fc F1 → SRel X.w X.K X.mg w.bk H0 F1 H1 σ1 st1 → Dn.bk σ1 H1) → T Dn
  | .ct st1 => ∀ Dn : Ends, (∀ σ1 F1 H1, Step F0 H0 F1 H1 → Same Fc F1 → SRel X.w X.K X.mg w.ct H0 F1 H1 σ1 st1 → Dn.ct σ1 H1) → T Dn
  | .ex st1 c ns ds => ∀ Dn : Ends, (∀ cls d σ1 F1 H1, Step F0 H0 F1 H1 → Same Fc F1 → SRel X.w X.K X.mg [] H0 F1 H1 σ1 st1 → ExAt X.w X.K X.mg F1 H1 c ns ds cls d → W cls d σ1 H1) → T Dn
end
def ES (X : Cx) (W : WX) (own : List Nat) (s : Stmt) (g : SD → O) (w : Ow) : Prop :=
  ∃ t : TS, PS X s t ∧ ∀ (H0 F0 F H : Hp) (σ : L2.St) (st : SD), Step F0 H0 F H → SRel X.w X.K X.mg own H0 F H σ st → AtS X W H0 F0 F w (fun Dn => t Dn σ H) (g st)
def ESs (X : Cx) (W : WX) (own : List Nat) (s : List Stmt) (g : SD → O) (w : Ow) : Prop :=
  ∃ t : TS, PSs X s t ∧ ∀ (H0 F0 F H : Hp) (σ : L2.St) (st : SD), Step F0 H0 F H → SRel X.w X.K X.mg own H0 F H σ st → AtS X W H0 F0 F w (fun Dn => t Dn σ H) (g st)
section
variable {X : Cx} {W : WX} {own : List Nat} {w : Ow} {H0 F0 F H : Hp} {σ : L2.St} {st : SD} {pos : Pos}

theorem ExAt.mono {w : World} {K : PySem.W.Frag} {mg : Str → Option Value} {F1 F2 H1 : Hp} {c : Str} {ns : List Str} {ds : List D} {cls : Value} {d : Option Addr} (s : Same F1 F2) (h : ExAt w K mg F1 H1 c ns ds cls d) : ExAt w K mg F2 H1 c ns ds cls d := by
  obtain ⟨C, h1, h2, h3⟩ := h
  refine ⟨C, h1, h2, ?_⟩
  rcases h3 with h | ⟨h, dd, fs, h4, h5, h6, h7⟩
  · exact .inl h
  · exact .inr ⟨h, dd, fs, h4, h5, h6, Reps.mono s _ h7⟩
/-- an expression, then the rest -/
theorem AtS.bind {α β : Type} {T : (β → Hp → Prop) → Prop} {r : R α} {rel : Hp → Hp → β → α → Prop} {U : β → Hp → Ends → Prop} {k : α → O} (s0 : Step F0 H0 F H) (rl : SRel X.w X.K X.mg own H0 F H σ st)
    (h1 : At X.w X.K X.mg W σ F H T r rel) (h2 : ∀ b a F1 H1, Step F H F1 H1 → rel F1 H1 b a → AtS X W H0 F0 F1 w (U b H1) (k a)) : AtS X W H0 F0 F w (fun Dn => T fun b H1 => U b H1 Dn) (r.toO st k) := by
  cases r with
  | un => trivial
  | ex c ns ds =>
    refine fun Dn hD => h1 (fun b H1 => U b H1 Dn) fun cls d F1 H1 s1 x => ?_
    obtain ⟨F2, s2, sf, r2⟩ := SRel.weak [] (fun j hj => by cases hj) (s0.trans s1) (rl.step s1)
    exact hD cls d σ F2 H1 s2 (s1.ff.trans sf) r2 (ExAt.mono sf x)
  | ok a =>
    have h1' : ∀ Q : β → Hp → Prop, (∀ b F1 H1, Step F H F1 H1 → rel F1 H1 b a → Q b H1) → T Q := h1
    show AtS X W H0 F0 F w (fun Dn => T fun b H1 => U b H1 Dn) (k a)
    cases e : k a with
    | un => trivial
    | nx st1 => exact fun Dn hD => h1' _ fun b F1 H1 s1 q => by have h3 := h2 b a F1 H1 s1 q; rw [e] at h3; exact h3 Dn fun σ1 F2 H2 g1 g2 => hD σ1 F2 H2 g1 (s1.ff.trans g2)
    | rt d => exact fun Dn hD => h1' _ fun b F1 H1 s1 q => by have h3 := h2 b a F1 H1 s1 q; rw [e] at h3; exact h3 Dn fun v F2 H2 g1 g2 => hD v F2 H2 g1 (s1.ff.trans g2)
    | bk st1 => exact fun Dn hD => h1' _ fun b F1 H1 s1 q => by have h3 := h2 b a F1 H1 s1 q; rw [e] at h3; exact h3 Dn fun σ1 F2 H2 g1 g2 => hD σ1 F2 H2 g1 (s1.ff.trans g2)
    | ct st1 => exact fun Dn hD => h1' _ fun b F1 H1 s1 q => by have h3 := h2 b a F1 H1 s1 q; rw [e] at h3; exact h3 Dn fun σ1 F2 H2 g1 g2 => hD σ1 F2 H2 g1 (s1.ff.trans g2)
    | ex st1 c ns ds => exact fun Dn hD => h1' _ fun b F1 H1 s1 q => by have h3 := h2 b a F1 H1 s1 q; rw [e] at h3; exact h3 Dn fun cls d σ1 F2 H2 g1 g2 => hD cls d σ1 F2 H2 g1 (s1.ff.trans g2)
/-- fewer are one's own at the ends -/
def Ow.le (a b : Ow) : Prop := (∀ j ∈ a.nx, j ∈ b.nx) ∧ (∀ j ∈ a.bk, j ∈ b.bk) ∧ ∀ j ∈ a.ct, j ∈ b.ct
theorem AtS.weak {w' : Ow} {T : Ends → Prop} {o : O} (h : AtS X W H0 F0 F w T o) (l : w'.le w) : AtS X W H0 F0 F w' T o := by
  obtain ⟨l1, l2, l3⟩ := l
  cases o with
  | un => trivial
  | nx st1 =>
    refine fun Dn hD => (show ∀ Dn : Ends, _ → T Dn from h) Dn fun σ1 F1 H1 s1 g1 r1 => ?_
    obtain ⟨F2, s2, sf, r2⟩ := SRel.weak w'.nx l1 s1 r1
    exact hD σ1 F2 H1 s2 (g1.trans sf) r2
  | bk st1 =>
    refine fun Dn hD => (show ∀ Dn : Ends, _ → T Dn from h) Dn fun σ1 F1 H1 s1 g1 r1 => ?_
    obtain ⟨F2, s2, sf, r2⟩ := SRel.weak w'.bk l2 s1 r1
    exact hD σ1 F2 H1 s2 (g1.trans sf) r2
  | ct st1 =>
    refine fun Dn hD => (show ∀ Dn : Ends, _ → T Dn from h) Dn fun σ1 F1 H1 s1 g1 r1 => ?_
    obtain ⟨F2, s2, sf, r2⟩ := SRel.weak w'.ct l3 s1 r1
    exact hD σ1 F2 H1 s2 (g1.trans sf) r2
  | rt d => exact h
  | ex st1 c ns ds => exact h
theorem AtS.pre {F1 : Hp} {T : Ends → Prop} {o : O} (h : AtS X W H0 F0 F1 w T o) (sf : Same F F1) : AtS X W H0 F0 F w T o := by
  cases o with
  | un => trivial
  | nx st1 => exact fun Dn hD => (show ∀ Dn : Ends, _ → T Dn from h) Dn fun σ1 F2 H2 g1 g2 => hD σ1 F2 H2 g1 (sf.trans g2)
  | bk st1 => exact fun Dn hD => (show ∀ Dn : Ends, _ → T Dn from h) Dn fun σ1 F2 H2 g1 g2 => hD σ1 F2 H2 g1 (sf.trans g2)
  | ct st1 => exact fun Dn hD => (show ∀ Dn : Ends, _ → T Dn from h) Dn fun σ1 F2 H2 g1 g2 => hD σ1 F2 H2 g1 (sf.trans g2)
  | rt d => exact fun Dn hD => (show ∀ Dn : Ends, _ → T Dn from h) Dn fun v F2 H2 g1 g2 => hD v F2 H2 g1 (sf.trans g2)
  | ex st1 c ns ds => exact fun Dn hD => (show ∀ Dn : Ends, _ → T Dn from h) Dn fun cls d σ1 F2 H2 g1 g2 => hD cls d σ1 F2 H2 g1 (sf.trans g2)
theorem ES.weak {s : Stmt} {g : SD → O} {w' : Ow} (h : ES X W own s g w) (l : w'.le w) : ES X W own s g w' := let ⟨t, p, q⟩ := h; ⟨t, p, fun H0 F0 F H σ st s0 rl => (q H0 F0 F H σ st s0 rl).weak l⟩
theorem ESs.weak {s : List Stmt} {g : SD → O} {w' : Ow} (h : ESs X W own s g w) (l : w'.le w) : ESs X W own s g w' := let ⟨t, p, q⟩ := h; ⟨t, p, fun H0 F0 F H σ st s0 rl => (q H0 F0 F H σ st s0 rl).weak l⟩
/-- fewer are one's own ahead -/
theorem ES.pre {s : Stmt} {g : SD → O} {own' : List Nat} (h : ES X W own s g w) (l : ∀ j ∈ own, j ∈ own') : ES X W own' s g w := by
  obtain ⟨t, p, q⟩ := h
  refine ⟨t, p, fun H0 F0 F H σ st s0 rl => ?_⟩
  obtain ⟨F1, s1, sf, r1⟩ := SRel.weak own l s0 rl
  exact (q H0 F0 F1 H σ st s1 r1).pre sf
theorem ESs.pre {s : List Stmt} {g : SD → O} {own' : List Nat} (h : ESs X W own s g w) (l : ∀ j ∈ own, j ∈ own') : ESs X W own' s g w := by
  obtain ⟨t, p, q⟩ := h
  refine ⟨t, p, fun H0 F0 F H σ st s0 rl => ?_⟩
  obtain ⟨F1, s1, sf, r1⟩ := SRel.weak own l s0 rl
  exact (q H0 F0 F1 H σ st s1 r1).pre sf

/-! ### blocks -/
theorem ess_nil {b c : List Nat} : ESs X W own [] (fun st => .nx st) ⟨own, b, c⟩ := ⟨_, pss_nil, fun H0 F0 F H σ st s0 rl Dn hD => hD σ F H s0 (Same.refl F) rl⟩
theorem ess_cons {s : Stmt} {ss : List Stmt} {g : SD → O} {gs : SD → O} {own1 : List Nat} (h1 : ES X W own s g ⟨own1, w.bk, w.ct⟩) (h2 : ESs X W own1 ss gs w) : ESs X W own (s :: ss) (fun st => (g st).bind gs) w := by
  obtain ⟨t, p, q⟩ := h1
  obtain ⟨u, pu, qu⟩ := h2
  refine ⟨_, pss_cons p pu, fun H0 F0 F H σ st s0 rl => ?_⟩
  show AtS X W H0 F0 F w (fun Dn => t { Dn with nx := u Dn } σ H) ((g st).bind gs)
  have h := q H0 F0 F H σ st s0 rl
  cases e : g st with
  | un => trivial
  | nx st1 =>
    rw [e] at h
    have h' : ∀ Dn : Ends, (∀ σ1 F1 H1, Step F0 H0 F1 H1 → Same F F1 → SRel X.w X.K X.mg own1 H0 F1 H1 σ1 st1 → Dn.nx σ1 H1) → t Dn σ H := h
    show AtS X W H0 F0 F w (fun Dn => t { Dn with nx := u Dn } σ H) (gs st1)
    cases e2 : gs st1 with
    | un => trivial
    | nx st2 => exact fun Dn hD => h' _ fun σ1 F1 H1 s1 sf r1 => by have z := (qu H0 F0 F1 H1 σ1 st1 s1 r1).pre sf; rw [e2] at z; exact z Dn hD
    | rt d => exact fun Dn hD => h' _ fun σ1 F1 H1 s1 sf r1 => by have z := (qu H0 F0 F1 H1 σ1 st1 s1 r1).pre sf; rw [e2] at z; exact z Dn hD
    | bk st2 => exact fun Dn hD => h' _ fun σ1 F1 H1 s1 sf r1 => by have z := (qu H0 F0 F1 H1 σ1 st1 s1 r1).pre sf; rw [e2] at z; exact z Dn hD
    | ct st2 => exact fun Dn hD => h' _ fun σ1 F1 H1 s1 sf r1 => by have z := (qu H0 F0 F1 H1 σ1 st1 s1 r1).pre sf; rw [e2] at z; exact z Dn hD
    | ex st2 c ns ds => exact fun Dn hD => h' _ fun σ1 F1 H1 s1 sf r1 => by have z := (qu H0 F0 F1 H1 σ1 st1 s1 r1).pre sf; rw [e2] at z; exact z Dn hD
  | rt d => rw [e] at h; exact fun Dn hD => h _ hD
  | bk st1 => rw [e] at h; exact fun Dn hD => h _ hD
  | ct st1 => rw [e] at h; exact fun Dn hD => h _ hD
  | ex st1 c ns ds => rw [e] at h; exact fun Dn hD => h _ hD

/-! ### small ones -/
theorem es_pass {b c : List Nat} : ES X W own (.Pass pos) (fun st => .nx st) ⟨own, b, c⟩ := ⟨_, ps_pass, fun H0 F0 F H σ st s0 rl Dn hD => hD σ F H s0 (Same.refl F) rl⟩
theorem es_break {a c : List Nat} : ES X W own (.Break pos) (fun st => .bk st) ⟨a, own, c⟩ := ⟨_, ps_break, fun H0 F0 F H σ st s0 rl Dn hD => hD σ F H s0 (Same.refl F) rl⟩
theorem es_cont {a b : List Nat} : ES X W own (.Continue pos) (fun st => .ct st) ⟨a, b, own⟩ := ⟨_, ps_continue, fun H0 F0 F H σ st s0 rl Dn hD => hD σ F H s0 (Same.refl F) rl⟩
theorem es_ret {e : Expr} {f : SD → R D} (h : EV X W own .keep e f) : ES X W own (.Return (some e) pos) (fun st => (f st).toO st .rt) w := by
  obtain ⟨t, p, q⟩ := h
  refine ⟨_, ps_ret p, fun H0 F0 F H σ st s0 rl => ?_⟩
  exact AtS.bind (U := fun b H1 Dn => Dn.rt b H1) s0 rl (q H0 F H σ st s0.fh rl) fun v d F1 H1 s1 r1 Dn hD => hD v F1 H1 (s0.trans s1) (Same.refl F1) r1
theorem es_retN : ES X W own (.Return none pos) (fun st => .rt .non) w := ⟨_, ps_retN, fun H0 F0 F H σ st s0 rl Dn hD => hD .non F H s0 (Same.refl F) .non⟩
theorem es_expr {e : Expr} {f : SD → R D} {m : Md} {b c : List Nat} (h : EV X W own m e f) (hs : swapsWith e none pos.line X.env = pure false) : ES X W own (.Expr e pos) (fun st => (f st).toO st fun _ => .nx st) ⟨own, b, c⟩ := by
  obtain ⟨t, p, q⟩ := h
  refine ⟨_, ps_expr p hs, fun H0 F0 F H σ st s0 rl => ?_⟩
  exact AtS.bind (U := fun b H1 Dn => Dn.nx σ H1) s0 rl (q H0 F H σ st s0.fh rl) fun v d F1 H1 s1 r1 Dn hD => hD σ F1 H1 (s0.trans s1) (Same.refl F1) (rl.step s1)
/-- x = e -/
theorem es_set {i : Nat} {x : Str} {e : Expr} {f : SD → R D} {pos' : Pos} {b c : List Nat} (hN : X.N.Nodup) (hi : X.N[i]? = some x) (hx : Loc X.env.scope x) (hf : X.fn x = true ∨ X.env.scope.names.lookup x = some .local) (h : EV X W own .keep e f)
    (hs : swapsWith e (some (.Name x pos')) pos.line X.env = pure false) : ES X W own (.Assign [.Name x pos'] e pos) (fun st => (f st).toO st fun d => .nx (st.set i (some d))) ⟨minus own [i], b, c⟩ := by
  obtain ⟨t, p, q⟩ := h
  refine ⟨_, ps_set hN hi hx p hs hf, fun H0 F0 F H σ st s0 rl => ?_⟩
  exact AtS.bind (U := fun b H1 Dn => Dn.nx (σ.set i (some b)) H1) s0 rl (q H0 F H σ st s0.fh rl) fun v d F1 H1 s1 r1 Dn hD => hD _ F1 H1 (s0.trans s1) (Same.refl F1) ((rl.step s1).setK r1)
/-- x = e, a new value -/
theorem es_setF {i : Nat} {x : Str} {e : Expr} {f : SD → R D} {pos' : Pos} {b c : List Nat} (hm : okF own i = true) (hN : X.N.Nodup) (hi : X.N[i]? = some x) (hx : Loc X.env.scope x) (hf : X.fn x = true ∨ X.env.scope.names.lookup x = some .local) (h : EV X W own .fresh e f)
    (hs : swapsWith e (some (.Name x pos')) pos.line X.env = pure false) : ES X W own (.Assign [.Name x pos'] e pos) (fun st => (f st).toO st fun d => .nx (st.set i (some d))) ⟨i :: minus own [i], b, c⟩ := by
  obtain ⟨t, p, q⟩ := h
  refine ⟨_, ps_set hN hi hx p hs hf, fun H0 F0 F H σ st s0 rl => ?_⟩
  exact AtS.bind (U := fun b H1 Dn => Dn.nx (σ.set i (some b)) H1) s0 rl (q H0 F H σ st s0.fh rl) fun v d F1 H1 s1 r1 Dn hD => hD _ F1 H1 (s0.trans s1) (Same.refl F1) (rl.setF s0.hh hm s1 r1)
/-- x = [.. for ..] -/
theorem es_setLc {scope : Scope} {tg iter elt : Expr} {ifs : List Expr} {fs : SD → R (List D)} {fc : SD → R Bool} {fe : SD → R D} {g : Tg} {names : List (Str × Nat)} {pos2 : Pos} {i : Nat} {x : Str} {pos' : Pos} {b c : List Nat} (hm : okF own i = true) (hc : X.calm = true) (hN : X.N.Nodup) (hx : X.N[i]? = some x) (hxl : X.env.scope.names.lookup x = some .local)
    (hsw : swapsWith (.ListComp elt [⟨tg, iter, ifs, 0⟩] scope pos2) (some (.Name x pos')) pos.line X.env = pure true) (ok : BlkOk X.N X.env.scope scope names) (hf : ∀ x, foldedSetIterable iter X.env x = pure x) (hi : EIR X W own tg iter fs) (hv : names.map (·.2) = g.vs)
    (hg : ∀ s H C cl fp, EG (blkX X scope s H C cl fp) (minus own g.vs) tg g) (ht : ∀ s H C cl fp, ETs (blkX X scope s H C cl fp) W0 (minus own g.vs) ifs fc) (he : ∀ s H C cl fp, EV (blkX X scope s H C cl fp) W0 (minus own g.vs) .keep elt fe) :
    ES X W own (.Assign [.Name x pos'] (.ListComp elt [⟨tg, iter, ifs, 0⟩] scope pos2) pos) (fun st => ((fs st).bind fun items => compR g fc fe st items).toO st fun d => .nx (st.set i (some d))) ⟨i :: minus own [i], b, c⟩ := by
  obtain ⟨wi, tgr, tt, te, p1, p2, p3, p4, q⟩ := comp_core (names := names) hi hv hg ht he
  refine ⟨_, ps_setLc hc hN hx hxl hsw p1 ok p2 p3 p4 hf, fun H0 F0 F H σ st s0 rl => ?_⟩
  exact AtS.bind (U := fun b H1 Dn => Dn.nx (σ.set i (some b)) H1) s0 rl (q H0 F H σ st s0.fh rl) fun v d F1 H1 s1 r1 Dn hD => hD _ F1 H1 (s0.trans s1) (Same.refl F1) (rl.setF s0.hh hm s1 r1)
/-- a, b = e -/
theorem es_unp {e tg : Expr} {f : SD → R D} {g : Tg} {b c : List Nat} (h : EV X W own .keep e f) (hg : EG X own tg g) (hs : swapsWithSole [tg] e pos.line X.env = pure false) (hw : swappedStores [tg] e X.env = pure none) (h1 : (assignEach [tg] X.env).map (·.2) = [assign tg X.env]) :
    ES X W own (.Assign [tg] e pos) (fun st => (f st).toO st fun d => (bindT g d st).toO st .nx) ⟨minus own g.vs, b, c⟩ := by
  obtain ⟨t, p, q⟩ := h
  obtain ⟨tg', pg, qg⟩ := hg
  refine ⟨_, ps_asg p pg hs hw h1, fun H0 F0 F H σ st s0 rl => ?_⟩
  refine AtS.bind (U := fun b H1 Dn => tg' b σ H1 Dn.nx) s0 rl (q H0 F H σ st s0.fh rl) fun v d F1 H1 s1 r1 => ?_
  cases e : bindT g d st with
  | un => trivial
  | ex c ns ds => exfalso; cases g <;> cases d <;> simp [bindT] at e <;> (split at e <;> cases e)
  | ok st1 => exact fun Dn hD => qg H0 F1 H1 σ st v d s1.fh (rl.step s1) r1 st1 e _ fun σ1 g1 _ _ => hD σ1 F1 H1 (s0.trans s1) (Same.refl F1) g1

/-! ### if -/
def iteO (c : R Bool) (st : SD) (a b : O) : O := c.toO st fun k => if k = true then a else b
theorem es_if {c : Expr} {a b : List Stmt} {fc : SD → R Bool} {fa fb : SD → O} (hc : ET X W own c fc) (ha : ESs X W own a fa w) (hb : ESs X W own b fb w) : ES X W own (.If c a b pos) (fun st => (fc st).toO st fun k => if k = true then fa st else fb st) w := by
  obtain ⟨t, p, q⟩ := hc
  obtain ⟨ta, pa, qa⟩ := ha
  obtain ⟨tb, pb, qb⟩ := hb
  refine ⟨_, ps_if p pa pb, fun H0 F0 F H σ st s0 rl => ?_⟩
  refine AtS.bind (U := fun k H1 Dn => if k = true then ta Dn σ H1 else tb Dn σ H1) s0 rl (q H0 F H σ st s0.fh rl) fun k k' F1 H1 s1 r1 => ?_
  subst r1
  cases k with
  | true =>
    have z := qa H0 F0 F1 H1 σ st (s0.trans s1) (rl.step s1)
    simpa using z
  | false =>
    have z := qb H0 F0 F1 H1 σ st (s0.trans s1) (rl.step s1)
    simpa using z

/-! ### loops -/
def forL (b : D → SD → R SD) (body : SD → O) : List D → SD → O
  | [], st => .nx st
  | d :: ds, st => match b d st with
    | .ok st1 => match body st1 with
      | .nx s => forL b body ds s
      | .ct s => forL b body ds s
      | .bk s => .nx s
      | .rt d => .rt d
      | .ex s c ns es => .ex s c ns es
      | .un => .un
    | _ => .un
theorem forL_plain (b : D → SD → R SD) (body : SD → O) : ∀ (ds : List D) (st : SD) {s : SD}, forL b body ds st ≠ .bk s ∧ forL b body ds st ≠ .ct s
  | [], st, s => ⟨(fun z => nomatch z), (fun z => nomatch z)⟩
  | d :: ds, st, s => by
    unfold forL
    cases b d st with
    | un => exact ⟨(fun z => nomatch z), (fun z => nomatch z)⟩
    | ex _ _ _ => exact ⟨(fun z => nomatch z), (fun z => nomatch z)⟩
    | ok st1 =>
      dsimp only
      cases body st1 with
      | nx s1 => exact forL_plain b body ds s1
      | ct s1 => exact forL_plain b body ds s1
      | un => exact ⟨(fun z => nomatch z), (fun z => nomatch z)⟩
      | bk _ => exact ⟨(fun z => nomatch z), (fun z => nomatch z)⟩
      | rt _ => exact ⟨(fun z => nomatch z), (fun z => nomatch z)⟩
      | ex _ _ _ _ => exact ⟨(fun z => nomatch z), (fun z => nomatch z)⟩
theorem es_for {tg iter : Expr} {body : List Stmt} {fs : SD → R (List D)} {g : Tg} {fb : SD → O} {O1 : List Nat} {b c : List Nat} (hp : PassesOwn (model X.prog X.w) X.A X.env X.xe) (hc : X.calm = true) (hi : EI X W own tg iter fs) (hO : ∀ j ∈ O1, j ∈ own) (hg : EG X O1 tg g)
    (hb : ESs X W (minus O1 g.vs) body fb ⟨O1, O1, O1⟩) (hf : ∀ x, foldedSetIterable iter X.env x = pure x) :
    ES X W own (.For tg iter body [] pos) (fun st => (fs st).toO st fun items => forL (bindT g) fb items st) ⟨O1, b, c⟩ := by
  obtain ⟨wi, pi, qi⟩ := hi
  obtain ⟨tgr, pg, qg⟩ := hg
  obtain ⟨tb, pb, qb⟩ := hb
  refine ⟨_, ps_for hp hc pi pg pb hf, fun H0 F0 F H σ st s0 rl => ?_⟩
  refine AtS.bind (U := fun J H1 Dn => ∃ W : Nat → Nat → L2.St → Hp → Prop, (∃ m, W 0 m σ H1) ∧ ∀ i m σ H, W i m σ H →
    (J.stop i H ∧ Dn.nx σ H) ∨ (J.go i H ∧ ∃ N : L2.St → Hp → Prop, (∀ σ' H', N σ' H' → ∃ m', m' < m ∧ W (i + 1) m' σ' H') ∧ ∀ x H', J.yld i H x H' → tgr x σ H' fun σ2 H2 => tb { Dn with nx := N, ct := N, bk := Dn.nx } σ2 H2)) s0 rl (qi H0 F H σ st s0.fh rl) fun J items F1 H1 s1 r1 => ?_
  obtain ⟨G, Y, wk, hG, hY⟩ := r1
  obtain ⟨F1', s1', sf', rl1⟩ := SRel.weak O1 hO (s0.trans s1) (rl.step s1)
  -- the loop, whatever is wanted behind it
  have core : ∀ (o : O), o ≠ .un → forL (bindT g) fb items st = o → ∀ Dn : Ends,
      (∀ σ1 F2 H2 st1, o = .nx st1 → Step F0 H0 F2 H2 → Same F1 F2 → SRel X.w X.K X.mg O1 H0 F2 H2 σ1 st1 → Dn.nx σ1 H2) → (∀ v F2 H2 d, o = .rt d → Step F0 H0 F2 H2 → Same F1 F2 → Rep X.w X.K X.mg F2 v d → Dn.rt v H2) →
      (∀ cls d σ1 F2 H2 st1 c ns ds, o = .ex st1 c ns ds → Step F0 H0 F2 H2 → Same F1 F2 → SRel X.w X.K X.mg [] H0 F2 H2 σ1 st1 → ExAt X.w X.K X.mg F2 H2 c ns ds cls d → W cls d σ1 H2) →
      ∃ W : Nat → Nat → L2.St → Hp → Prop, (∃ m, W 0 m σ H1) ∧ ∀ i m σ H, W i m σ H →
    (J.stop i H ∧ Dn.nx σ H) ∨ (J.go i H ∧ ∃ N : L2.St → Hp → Prop, (∀ σ' H', N σ' H' → ∃ m', m' < m ∧ W (i + 1) m' σ' H') ∧ ∀ x H', J.yld i H x H' → tgr x σ H' fun σ2 H2 => tb { Dn with nx := N, ct := N, bk := Dn.nx } σ2 H2) := by
    intro o ho eo Dn kn kr kx
    refine for_it wk (fun i σ2 H2 => ∃ (F2 : Hp) (st2 : SD), Step F0 H0 F2 H2 ∧ Same F1 F2 ∧ SRel X.w X.K X.mg O1 H0 F2 H2 σ2 st2 ∧ forL (bindT g) fb (items.drop i) st2 = o) ⟨F1', st, s1', sf', rl1, eo⟩ (fun i σ2 H2 hi ⟨F2, st2, s2, sf, _⟩ => hG H2 (sf.trans s2.fh)) ?_ ?_
    · rintro i x σ2 H2 H3 hi ⟨F2, st2, s2, sf, rl2, e2⟩ y
      obtain ⟨d, F3, ed, s3, rd⟩ := hY i F2 H2 x H3 sf s2.fh hi y
      have hdrop : items.drop i = d :: items.drop (i + 1) := by
        obtain ⟨h1, h2⟩ := List.getElem?_eq_some_iff.mp ed
        rw [List.drop_eq_getElem_cons h1, h2]
      rw [hdrop] at e2
      unfold forL at e2
      have s13 := s2.trans s3
      cases eb : bindT g d st2 with
      | un => rw [eb] at e2; exact absurd e2.symm ho
      | ex c ns ds => rw [eb] at e2; exact absurd e2.symm ho
      | ok st3 =>
        rw [eb] at e2
        refine qg H0 F3 H3 σ2 st2 x d s3.fh (rl2.step s3) rd st3 eb _ fun σ3 rl3 _ _ => ?_
        have sf3 : Same F1 F3 := sf.trans s3.ff
        have h := (qb H0 F0 F3 H3 σ3 st3 s13 rl3).pre sf3
        cases ef : fb st3 with
        | un => simp only [ef] at e2; exact absurd e2.symm ho
        | nx st4 =>
          simp only [ef] at e2; rw [ef] at h
          exact h _ fun σ4 F4 H4 s4 sf4 rl4 => ⟨F4, st4, s4, sf4, rl4, e2⟩
        | ct st4 =>
          simp only [ef] at e2; rw [ef] at h
          exact h _ fun σ4 F4 H4 s4 sf4 rl4 => ⟨F4, st4, s4, sf4, rl4, e2⟩
        | bk st4 =>
          simp only [ef] at e2; rw [ef] at h
          exact h _ fun σ4 F4 H4 s4 sf4 rl4 => kn σ4 F4 H4 st4 e2.symm s4 sf4 rl4
        | rt d =>
          simp only [ef] at e2; rw [ef] at h
          exact h _ fun v F4 H4 s4 sf4 rl4 => kr v F4 H4 d e2.symm s4 sf4 rl4
        | ex st4 c ns ds =>
          simp only [ef] at e2; rw [ef] at h
          exact h { Dn with nx := _, ct := _, bk := _ } fun cls d σ4 F4 H4 s4 sf4 rl4 => kx cls d σ4 F4 H4 st4 c ns ds e2.symm s4 sf4 rl4
    · rintro σ2 H2 ⟨F2, st2, s2, sf, rl2, e2⟩
      rw [List.drop_of_length_le (Nat.le_refl _)] at e2
      exact kn σ2 F2 H2 st2 e2.symm s2 sf rl2
  cases e : forL (bindT g) fb items st with
  | un => trivial
  | nx st1 => exact fun Dn hD => core (.nx st1) (by intro z; cases z) e Dn (fun σ1 F2 H2 st2 ee g1 g2 g3 => by cases ee; exact hD σ1 F2 H2 g1 g2 g3) (fun _ _ _ _ z => nomatch z) (fun _ _ _ _ _ _ _ _ _ z => nomatch z)
  | rt d => exact fun Dn hD => core (.rt d) (by intro z; cases z) e Dn (fun _ _ _ _ z => nomatch z) (fun v F2 H2 d2 ee g1 g2 g3 => by cases ee; exact hD v F2 H2 g1 g2 g3) (fun _ _ _ _ _ _ _ _ _ z => nomatch z)
  | ex st1 c ns ds => exact fun Dn hD => core (.ex st1 c ns ds) (by intro z; cases z) e Dn (fun _ _ _ _ z => nomatch z) (fun _ _ _ _ z => nomatch z) (fun cls d σ1 F2 H2 st2 c2 ns2 ds2 ee g1 g2 g3 g4 => by cases ee; exact hD cls d σ1 F2 H2 g1 g2 g3 g4)
  | bk st1 => exact absurd e (forL_plain _ _ items st).1
  | ct st1 => exact absurd e (forL_plain _ _ items st).2
end
end Dl

/-! DlJ: while, methods of own lists, stores to items. -/
namespace Dl
open PySem PySem.Spec PyProof.Rows L2

section
variable {X : Cx} {W : WX} {own : List Nat} {w : Ow} {H0 F0 F H : Hp} {σ : L2.St} {st : SD} {pos : Pos}

/-! ### while -/
def whileL (c : SD → R Bool) (b : SD → O) : Nat → SD → O
  | 0, _ => .un
  | n + 1, st => match c st with
    | .un => .un
    | .ex c ns ds => .ex st c ns ds
    | .ok false => .nx st
    | .ok true => match b st with
      | .nx s => whileL c b n s
      | .ct s => whileL c b n s
      | .bk s => .nx s
      | .rt d => .rt d
      | .ex s c ns es => .ex s c ns es
      | .un => .un
theorem whileL_plain (c : SD → R Bool) (b : SD → O) : ∀ (n : Nat) (st : SD) {s : SD}, whileL c b n st ≠ .bk s ∧ whileL c b n st ≠ .ct s
  | 0, st, s => ⟨(fun z => nomatch z), (fun z => nomatch z)⟩
  | n + 1, st, s => by
    unfold whileL
    cases c st with
    | un => exact ⟨(fun z => nomatch z), (fun z => nomatch z)⟩
    | ex _ _ _ => exact ⟨(fun z => nomatch z), (fun z => nomatch z)⟩
    | ok k =>
      cases k with
      | false => exact ⟨(fun z => nomatch z), (fun z => nomatch z)⟩
      | true =>
        dsimp only
        cases b st with
        | nx s1 => exact whileL_plain c b n s1
        | ct s1 => exact whileL_plain c b n s1
        | un => exact ⟨(fun z => nomatch z), (fun z => nomatch z)⟩
        | bk _ => exact ⟨(fun z => nomatch z), (fun z => nomatch z)⟩
        | rt _ => exact ⟨(fun z => nomatch z), (fun z => nomatch z)⟩
        | ex _ _ _ _ => exact ⟨(fun z => nomatch z), (fun z => nomatch z)⟩
theorem es_while {c : Expr} {body : List Stmt} {fc : SD → R Bool} {fb : SD → O} {O1 : List Nat} {b ct : List Nat} (nf : SD → Nat) (hp : PassesOwn (model X.prog X.w) X.A X.env X.xe) (hO : ∀ j ∈ O1, j ∈ own) (hc : ET X W O1 c fc) (hb : ESs X W O1 body fb ⟨O1, O1, O1⟩) :
    ES X W own (.While c body [] pos) (fun st => whileL fc fb (nf st) st) ⟨O1, b, ct⟩ := by
  obtain ⟨tc, pc, qc⟩ := hc
  obtain ⟨tb, pb, qb⟩ := hb
  refine ⟨_, ps_while hp pc pb, fun H0 F0 F H σ st s0 rl => ?_⟩
  show AtS X W H0 F0 F ⟨O1, b, ct⟩ _ (whileL fc fb (nf st) st)
  generalize nf st = n
  obtain ⟨F1, s1, sf1, rl1⟩ := SRel.weak O1 hO s0 rl
  have core : ∀ (o : O), o ≠ .un → whileL fc fb n st = o → ∀ Dn : Ends,
      (∀ σ1 F2 H2 st1, o = .nx st1 → Step F0 H0 F2 H2 → Same F F2 → SRel X.w X.K X.mg O1 H0 F2 H2 σ1 st1 → Dn.nx σ1 H2) → (∀ v F2 H2 d, o = .rt d → Step F0 H0 F2 H2 → Same F F2 → Rep X.w X.K X.mg F2 v d → Dn.rt v H2) →
      (∀ cls d σ1 F2 H2 st1 c ns ds, o = .ex st1 c ns ds → Step F0 H0 F2 H2 → Same F F2 → SRel X.w X.K X.mg [] H0 F2 H2 σ1 st1 → ExAt X.w X.K X.mg F2 H2 c ns ds cls d → W cls d σ1 H2) → tWhile tc tb Dn σ H := by
    intro o ho eo Dn kn kr kx
    refine ⟨fun m σ2 H2 => ∃ (F2 : Hp) (st2 : SD), Step F0 H0 F2 H2 ∧ Same F F2 ∧ SRel X.w X.K X.mg O1 H0 F2 H2 σ2 st2 ∧ whileL fc fb m st2 = o, ⟨n, F1, st, s1, sf1, rl1, eo⟩, ?_⟩
    rintro m σ2 H2 ⟨F2, st2, s2, sf2, rl2, e2⟩
    cases m with
    | zero => exact absurd e2.symm ho
    | succ m =>
      unfold whileL at e2
      have at1 := qc H0 F2 H2 σ2 st2 s2.fh rl2
      cases ec : fc st2 with
      | un => rw [ec] at e2; exact absurd e2.symm ho
      | ex c' ns ds =>
        rw [ec] at e2 at1
        refine at1 _ fun cls d F3 H3 s3 x => ?_
        obtain ⟨F4, s4, sf4, rl4⟩ := SRel.weak [] (fun j hj => by cases hj) (s2.trans s3) (rl2.step s3)
        exact kx cls d σ2 F4 H3 st2 c' ns ds e2.symm s4 ((sf2.trans s3.ff).trans sf4) rl4 (ExAt.mono sf4 x)
      | ok k =>
        rw [ec] at e2 at1
        refine at1 _ fun k' F3 H3 s3 ek => ?_
        subst ek
        cases k' with
        | false =>
          rw [if_neg Bool.false_ne_true]
          exact kn σ2 F3 H3 st2 e2.symm (s2.trans s3) (sf2.trans s3.ff) (rl2.step s3)
        | true =>
          rw [if_pos rfl]
          dsimp only at e2
          refine ⟨fun σ' H' => ∃ (F2 : Hp) (st2 : SD), Step F0 H0 F2 H' ∧ Same F F2 ∧ SRel X.w X.K X.mg O1 H0 F2 H' σ' st2 ∧ whileL fc fb m st2 = o, fun σ' H' z => ⟨m, Nat.lt_succ_self m, z⟩, ?_⟩
          have h := (qb H0 F0 F3 H3 σ2 st2 (s2.trans s3) (rl2.step s3)).pre (sf2.trans s3.ff)
          cases ef : fb st2 with
          | un => rw [ef] at e2; exact absurd e2.symm ho
          | nx st4 => rw [ef] at e2 h; exact h _ fun σ4 F4 H4 s4 sf4 rl4 => ⟨F4, st4, s4, sf4, rl4, e2⟩
          | ct st4 => rw [ef] at e2 h; exact h _ fun σ4 F4 H4 s4 sf4 rl4 => ⟨F4, st4, s4, sf4, rl4, e2⟩
          | bk st4 => rw [ef] at e2 h; exact h _ fun σ4 F4 H4 s4 sf4 rl4 => kn σ4 F4 H4 st4 e2.symm s4 sf4 rl4
          | rt d => rw [ef] at e2 h; exact h _ fun v F4 H4 s4 sf4 rl4 => kr v F4 H4 d e2.symm s4 sf4 rl4
          | ex st4 c ns ds => rw [ef] at e2 h; exact h { Dn with nx := _, ct := _, bk := _ } fun cls d σ4 F4 H4 s4 sf4 rl4 => kx cls d σ4 F4 H4 st4 c ns ds e2.symm s4 sf4 rl4
  show AtS X W H0 F0 F ⟨O1, b, ct⟩ (fun Dn => tWhile tc tb Dn σ H) (whileL fc fb n st)
  cases e : whileL fc fb n st with
  | un => trivial
  | nx st1 => exact fun Dn hD => core (.nx st1) (by intro z; cases z) e Dn (fun σ1 F2 H2 st2 ee g1 g2 g3 => by cases ee; exact hD σ1 F2 H2 g1 g2 g3) (fun _ _ _ _ z => nomatch z) (fun _ _ _ _ _ _ _ _ _ z => nomatch z)
  | rt d => exact fun Dn hD => core (.rt d) (by intro z; cases z) e Dn (fun _ _ _ _ z => nomatch z) (fun v F2 H2 d2 ee g1 g2 g3 => by cases ee; exact hD v F2 H2 g1 g2 g3) (fun _ _ _ _ _ _ _ _ _ z => nomatch z)
  | ex st1 c ns ds => exact fun Dn hD => core (.ex st1 c ns ds) (by intro z; cases z) e Dn (fun _ _ _ _ z => nomatch z) (fun _ _ _ _ z => nomatch z) (fun cls d σ1 F2 H2 st2 c2 ns2 ds2 ee g1 g2 g3 g4 => by cases ee; exact hD cls d σ1 F2 H2 g1 g2 g3 g4)
  | bk st1 => exact absurd e (whileL_plain _ _ n st).1
  | ct st1 => exact absurd e (whileL_plain _ _ n st).2

theorem AtS.mapT {T T' : Ends → Prop} {o : O} (h : AtS X W H0 F0 F w T o) (m : ∀ Dn, T Dn → T' Dn) : AtS X W H0 F0 F w T' o := by
  cases o with
  | un => trivial
  | nx st1 => exact fun Dn hD => m Dn ((show ∀ Dn : Ends, _ → T Dn from h) Dn hD)
  | bk st1 => exact fun Dn hD => m Dn ((show ∀ Dn : Ends, _ → T Dn from h) Dn hD)
  | ct st1 => exact fun Dn hD => m Dn ((show ∀ Dn : Ends, _ → T Dn from h) Dn hD)
  | rt d => exact fun Dn hD => m Dn ((show ∀ Dn : Ends, _ → T Dn from h) Dn hD)
  | ex st1 c ns ds => exact fun Dn hD => m Dn ((show ∀ Dn : Ends, _ → T Dn from h) Dn hD)
/-! ### an own list is written -/
theorem SRel.updO {w : World} {K : PySem.W.Frag} {mg : Str → Option Value} (r : SRel w K mg own H0 F H σ st) {i : Nat} {p : Addr} {o' : HO} {d d' : D} (hi : i ∈ own) (e1 : st[i]? = some (some d)) (hd : d.heapy = true) (e2 : σ[i]? = some (some (.ref p))) (hr : OwnR w K mg H0 F (upd H p o') (.ref p) d') :
    SRel w K mg own H0 F (upd H p o') σ (st.set i (some d')) := by
  have hl : i < st.length := (List.getElem?_eq_some_iff.mp e1).1
  have back : ∀ (j : Nat) (dj : D), dj.heapy = true → (st.set i (some d'))[j]? = some (some dj) → ∃ dj', dj'.heapy = true ∧ st[j]? = some (some dj') := fun j dj hh h => by
    by_cases hij : i = j
    · subst hij; exact ⟨d, hd, e1⟩
    · rw [List.getElem?_set_ne hij] at h; exact ⟨dj, hh, h⟩
  refine ⟨by simp [r.len], fun j e hj => ?_, fun j k q dj dk hj hk hne y1 y2 g1 g2 g3 g4 => ?_, r.pin⟩
  · by_cases hij : i = j
    · subst hij
      rw [List.getElem?_set_self hl] at hj
      cases hj
      exact ⟨_, e2, .inl ⟨hi, hr⟩⟩
    · rw [List.getElem?_set_ne hij] at hj
      obtain ⟨u, g1, gu⟩ := r.val j e hj
      refine ⟨u, g1, ?_⟩
      rcases gu with ⟨a, b⟩ | ⟨a, b⟩
      · refine .inl ⟨a, b.hupd fun he q hq z => ?_⟩
        subst z
        subst hq
        exact r.sep i j q d e hi a hij hd he e1 hj e2 g1
      · exact .inr ⟨a, b⟩
  · obtain ⟨dj', y1', g1'⟩ := back j dj y1 g1
    obtain ⟨dk', y2', g2'⟩ := back k dk y2 g2
    exact r.sep j k q dj' dk' hj hk hne y1' y2' g1' g2' g3 g4
theorem SRel.upd {w : World} {K : PySem.W.Frag} {mg : Str → Option Value} (r : SRel w K mg own H0 F H σ st) {i : Nat} {p : Addr} {xs : List V} {ds ds' : List D} {xs' : List V} (hi : i ∈ own) (e1 : st[i]? = some (some (.lst ds))) (e2 : σ[i]? = some (some (.ref p))) (h1 : H p = some (.lst xs)) (h2 : F p = none) (h3 : H0 p = none) (hr : Reps w K mg F xs' ds') :
    SRel w K mg own H0 F (upd H p (.lst xs')) σ (st.set i (some (.lst ds'))) :=
  r.updO hi e1 rfl e2 ⟨p, xs', rfl, upd_same, h2, h3, hr⟩
/-- what an own list's slot holds -/
theorem SRel.ownAt {w : World} {K : PySem.W.Frag} {mg : Str → Option Value} (r : SRel w K mg own H0 F H σ st) {i : Nat} {ds : List D} (hi : i ∈ own) (e1 : st[i]? = some (some (.lst ds))) : ∃ p xs, σ[i]? = some (some (.ref p)) ∧ H p = some (.lst xs) ∧ F p = none ∧ H0 p = none ∧ Reps w K mg F xs ds := by
  obtain ⟨v, e2, h⟩ := r.val i _ e1
  rcases h with ⟨_, h⟩ | ⟨h, _⟩
  · obtain ⟨p, xs, rfl, h1, h2, h3, h4⟩ := h
    exact ⟨p, xs, e2, h1, h2, h3, h4⟩
  · exact absurd hi h
def lstAt (st : SD) (i : Nat) : Option (List D) := match st[i]? with
  | some (some (.lst ds)) => some ds
  | _ => none
theorem lstAt_some {st : SD} {i : Nat} {ds : List D} (h : lstAt st i = some ds) : st[i]? = some (some (.lst ds)) := by
  unfold lstAt at h
  split at h
  · rename_i e; cases h; exact e
  · cases h
/-- x.name(e), the list of slot i becomes what g tells -/
def putL (i : Nat) (st : SD) : Option (List D) → O
  | some ds' => .nx (st.set i (some (.lst ds')))
  | none => .un
def meth1 (i : Nat) (g : List D → D → Option (List D)) (st : SD) (r : R D) : O := match lstAt st i with
  | some ds => r.toO st fun d => putL i st (g ds d)
  | none => .un
def meth0 (i : Nat) (g : List D → Option (List D)) (st : SD) : O := match lstAt st i with
  | some ds => putL i st (g ds)
  | none => .un
def meth2 (i : Nat) (g : List D → D → D → Option (List D)) (st : SD) (r r' : R D) : O := match lstAt st i with
  | some ds => r.toO st fun d => r'.toO st fun d' => putL i st (g ds d d')
  | none => .un
theorem es_meth1 {i : Nat} {x name : Str} {id : String} {p1 apos cpos : Pos} {e : Expr} {f : SD → R D} {r : V → List V → Hp → VK → Prop} {g : List D → D → Option (List D)} {b c : List Nat} (hN : X.N[i]? = some x) (hv : Vis X.env.scope x) (hd : (x == ("__debug__" : Str)) = false) (hcd : (x == ("__classdict__" : Str)) = false) (hi : i ∈ own)
    (slot : Slot "list" name id) (hty : typeOf (.builtin id) = pure (.type "method_descriptor")) (hm : MtR X id r) (hline : (apos.endLine == cpos.line) = true) (ns : nostar e = true) (h : EV X W own .keep e f) (hs : swapsWith (.Call (.Attribute (.Name x p1) name apos) [e] [] cpos) none pos.line X.env = pure false)
    (leaf : ∀ (F H : Hp) (p : Addr) (xs : List V) (ds : List D) (v : V) (d : D) (ds' : List D), Same F H → H p = some (.lst xs) → Reps X.w X.K X.mg F xs ds → Rep X.w X.K X.mg F v d → g ds d = some ds' → ∃ xs', Reps X.w X.K X.mg F xs' ds' ∧ ∀ Q : VK, (∀ u, Q u (L2.upd H p (.lst xs'))) → r (.ref p) [v] H Q) :
    ES X W own (.Expr (.Call (.Attribute (.Name x p1) name apos) [e] [] cpos) pos) (fun st => meth1 i g st (f st)) ⟨own, b, c⟩ := by
  obtain ⟨t, p, q⟩ := h
  have hfew : ((backTo cpos (starEach [e] X.env)).all (fun x => !x.1) && (backToKw cpos (keywordEach [] X.env)).all (fun x => x.1.isSome) && decide ([e].length + ([] : List Keyword).length + (if ([] : List Keyword).isEmpty then 0 else 1) < 30)) = true := by
    rw [starEach_cons ns]; rfl
  refine ⟨_, ps_expr (pe_bm PySem.F.plainAttrs_list slot hty hm (pe_var hN hv hd hcd) (pa_cons p pa_nil (starEach_cons ns)) rfl hfew hline (starEach_cons ns) (backTo_plain rfl)) hs, fun H0 F0 F H σ st s0 rl => ?_⟩
  show AtS X W H0 F0 F ⟨own, b, c⟩ _ (meth1 i g st (f st))
  unfold meth1
  cases hst : lstAt st i with
  | none => trivial
  | some ds =>
    have e1 := lstAt_some hst
    obtain ⟨pa, xs, e2, h1, h2, h3, h4⟩ := rl.ownAt hi e1
    refine (show AtS X W H0 F0 F ⟨own, b, c⟩ (fun Dn => ∃ v, σ[i]? = some (some v) ∧ (tyV X.K "list" v H ∧ t σ H fun y H1 => r v [y] H1 fun _ H2 => Dn.nx σ H2)) ((f st).toO st fun d => putL i st (g ds d)) from ?_)
    have key : AtS X W H0 F0 F ⟨own, b, c⟩ (fun Dn => t σ H fun y H1 => r (.ref pa) [y] H1 fun _ H2 => Dn.nx σ H2) ((f st).toO st fun d => putL i st (g ds d)) := by
      refine AtS.bind (U := fun y H1 Dn => r (.ref pa) [y] H1 fun _ H2 => Dn.nx σ H2) s0 rl (q H0 F H σ st s0.fh rl) fun v d F1 H1 s1 r1 => ?_
      cases eg : g ds d with
      | none => trivial
      | some ds' =>
        have k2 : F1 pa = none := s1.nw pa (by rw [h1]; exact fun z => nomatch z) h2
        obtain ⟨xs', k1, kq⟩ := leaf F1 H1 pa xs ds v d ds' s1.fh (s1.hh _ _ h1) (Reps.mono s1.ff _ h4) r1 eg
        exact fun Dn hD => kq _ fun u => hD σ F1 _ ((s0.trans s1).write h3 k2) (Same.refl F1) ((rl.step s1).upd hi e1 e2 (s1.hh _ _ h1) k2 h3 k1)
    exact key.mapT fun Dn z => ⟨.ref pa, e2, .inl ⟨rfl, xs, SqL.of h1⟩, z⟩
theorem leaf_append (F H : Hp) (p : Addr) (xs : List V) (ds : List D) (v : V) (d : D) (ds' : List D) (s : Same F H) (h : H p = some (.lst xs)) (r : Reps X.w X.K X.mg F xs ds) (rv : Rep X.w X.K X.mg F v d) (e : (if ds.length < 16777216 then some (ds ++ [d]) else none) = some ds') :
    ∃ xs', Reps X.w X.K X.mg F xs' ds' ∧ ∀ Q : VK, (∀ u, Q u (L2.upd H p (.lst xs'))) → rAppend (.ref p) [v] H Q := by
  split at e
  · rename_i hz
    cases e
    exact ⟨xs ++ [v], r.append (.cons rv .nil), fun Q hQ => ⟨p, xs, v, rfl, rfl, h, by rw [sizeLine_eq, r.length]; exact hz, hQ _⟩⟩
  · cases e
/-! ### x[k] = e -/
def setItem (i : Nat) (st : SD) (rk re : R D) : O := re.toO st fun d => match lstAt st i with
  | some ds => rk.toO st fun k => match k with
    | .int k => (match ixN ds.length k with
      | some j => .nx (st.set i (some (.lst (ds.set j d))))
      | none => .un)
    | _ => .un
  | none => .un
theorem sub_target {o i : Expr} {env : Env} (h : plainIx i = true) : ∀ v, assign (.Subscript o i pos) env v = (do
      let ov ← holding [v] (eval o env)
      let iv ← holding [v, ov] (eval i env)
      standAt pos
      holding [v, ov, iv] (PySem.setItem ov iv v)
      release [v, ov, iv] []) := by
  intro v
  cases i <;> first | rfl | cases h
theorem sub_swaps {e o i : Expr} {line : Nat} {env : Env} : swapsWithSole [.Subscript o i pos] e line env = pure false := by
  cases e <;> rfl
theorem sub_stores {e o i : Expr} {env : Env} : swappedStores [.Subscript o i pos] e env = pure none := by
  cases e <;> rfl
theorem es_setix {i : Nat} {x : Str} {p1 p2 : Pos} {ix e : Expr} {fk fe : SD → R D} {b c : List Nat} (hN : X.N[i]? = some x) (hv : Vis X.env.scope x) (hd : (x == ("__debug__" : Str)) = false) (hcd : (x == ("__classdict__" : Str)) = false) (hi : i ∈ own) (pix : plainIx ix = true)
    (hk : EV X W own .read ix fk) (he : EV X W own .keep e fe) : ES X W own (.Assign [.Subscript (.Name x p1) ix p2] e pos) (fun st => setItem i st (fk st) (fe st)) ⟨own, b, c⟩ := by
  obtain ⟨tk, pk, qk⟩ := hk
  obtain ⟨te, pe, qe⟩ := he
  refine ⟨_, ps_asg pe (pg_sub (pe_var hN hv hd hcd) pk set_list (sub_target pix)) sub_swaps sub_stores rfl, fun H0 F0 F H σ st s0 rl => ?_⟩
  refine AtS.bind (U := fun v H1 Dn => ∃ o, σ[i]? = some (some o) ∧ tk σ H1 fun k H2 => rSetL o k v H2 fun H3 => Dn.nx σ H3) s0 rl (qe H0 F H σ st s0.fh rl) fun v d F1 H1 s1 r1 => ?_
  cases hst : lstAt st i with
  | none => trivial
  | some ds =>
    have e1 := lstAt_some hst
    obtain ⟨pa, xs, e2, h1, h2, h3, h4⟩ := (rl.step s1).ownAt hi e1
    have key : AtS X W H0 F0 F1 ⟨own, b, c⟩ (fun Dn => tk σ H1 fun k H2 => rSetL (.ref pa) k v H2 fun H3 => Dn.nx σ H3) ((fk st).toO st fun k => match k with
      | .int k => (match ixN ds.length k with
        | some j => .nx (st.set i (some (.lst (ds.set j d))))
        | none => .un)
      | _ => .un) := by
      refine AtS.bind (U := fun k H2 Dn => rSetL (.ref pa) k v H2 fun H3 => Dn.nx σ H3) (s0.trans s1) (rl.step s1) (qk H0 F1 H1 σ st s1.fh (rl.step s1)) fun kv kd F2 H2 s2 r2 => ?_
      cases kd with
      | int k =>
        cases (RelM.toRead r2).int
        dsimp only
        cases ej : ixN ds.length k with
        | none => trivial
        | some j =>
          have k2 : F2 pa = none := s2.nw pa (by rw [h1]; exact fun z => nomatch z) h2
          have k1 : Reps X.w X.K X.mg F2 (xs.set j v) (ds.set j d) := Reps.set (Rep.mono s2.ff _ r1) j (Reps.mono s2.ff _ h4)
          exact fun Dn hD => ⟨pa, xs, k, j, rfl, rfl, s2.hh _ _ h1, by rw [h4.length]; exact ej, hD σ F2 _ (((s0.trans s1).trans s2).write h3 k2) (Same.refl F2) (((rl.step s1).step s2).upd hi e1 e2 (s2.hh _ _ h1) k2 h3 k1)⟩
      | _ => trivial
    exact key.mapT fun Dn z => ⟨.ref pa, e2, z⟩
end
end Dl

/-! DlJd: dicts of one's own: {}, d[k] = v; objects lent. -/
namespace Dl
open PySem PySem.Spec PyProof.Rows L2

/-! ### {} -/
theorem ev_dnew {X : Cx} {W : WX} {own : List Nat} {pos : Pos} : EV X W own .fresh (.Dict [] [] pos) (fun _ => .ok (.dct [] [])) :=
  ⟨_, pe_dnew, fun H0 F H σ st s rl => fun Q hQ p hp hl => hQ (.ref p) F (L2.upd H p (rawO p #[] 0)) (Step.own s hp) ⟨p, rawO p #[] 0, [], [], [], rfl, upd_same, Same.none s hp, hp, ⟨#[], 0, rfl, hl, Nat.zero_le _, .nil, .nil, rfl, List.nodup_nil⟩, rfl, .nil, .nil⟩⟩
/-! ### d[k] = v -/
def dctOf (st : SD) (i : Nat) : Option (List D × List D) := match st[i]? with
  | some (some (.dct ks vs)) => some (ks, vs)
  | _ => none
theorem dctOf_some {st : SD} {i : Nat} {ks vs : List D} (h : dctOf st i = some (ks, vs)) : st[i]? = some (some (.dct ks vs)) := by
  unfold dctOf at h
  split at h
  · rename_i e; cases h; exact e
  · cases h
def putA (ks vs : List D) (k d : D) : Option Nat → R D
  | some j => .ok (.dct ks (vs.set j d))
  | none => if ks.length < 16777216 then .ok (.dct (ks ++ [k]) (vs ++ [d])) else .un
def putK (ks vs : List D) (k d : D) : R D := (dIdx ks k).bind fun o => putA ks vs k d o
def setKey (i : Nat) (st : SD) (rk re : R D) : O := re.toO st fun d => match dctOf st i with
  | some (ks, vs) => rk.toO st fun k => (putK ks vs k d).toO st fun d' => .nx (st.set i (some d'))
  | none => .un
theorem dKeys_snoc {k : D} {nk : NestedKey} (hk : dKey k = some nk) : ∀ {ks : List D} {nks : List NestedKey}, dKeys ks = some nks → dKeys (ks ++ [k]) = some (nks ++ [nk])
  | [], nks, h => by
    have h' : some ([] : List NestedKey) = some nks := h
    cases h'
    show ((dKey k).bind fun k => (dKeys []).map fun ks => k :: ks) = _
    rw [hk]; rfl
  | d :: ds, nks, h => by
    obtain ⟨k', ks', e1, e2, rfl⟩ := dKeys_cons h
    show ((dKey d).bind fun k => (dKeys (ds ++ [_])).map fun ks => k :: ks) = _
    rw [e1, dKeys_snoc hk e2]; rfl
section
variable {X : Cx}
def rSetDD (X : Cx) : TSet := fun o i v H Q => rSetDT X o i v H Q ∨ rSetDL X o i v H Q
theorem set_D (hu : X.A.units + 65 < cLine) : PSet X (rSetDD X) := by
  intro pins s σ H o i v ov iv u Q I ro ri rv h
  rcases h with h | h
  · exact set_dicT (by rw [Around.in1_units]; omega) pins s σ H o i v ov iv u Q I ro ri rv h
  · exact set_dicL pins s σ H o i v ov iv u Q I ro ri rv h
theorem putK_ex (ks vs : List D) (k d : D) {c : Str} {ns : List Str} {ds : List D} : putK ks vs k d ≠ .ex c ns ds := by
  unfold putK
  intro e
  cases h : dIdx ks k with
  | un => rw [h] at e; cases e
  | ex _ _ _ => exact absurd h (dIdx_ex _ _)
  | ok o =>
    rw [h] at e
    cases o with
    | none =>
      have e' : (if ks.length < 16777216 then R.ok (D.dct (ks ++ [k]) (vs ++ [d])) else .un) = R.ex c ns ds := e
      split at e' <;> cases e'
    | some j => cases e
theorem dct_put {F H : Hp} {a : Addr} {o : HO} {kv vv : List V} {ks vs : List D} {nks : List NestedKey} (s : Same F H) (e : H a = some o) (h : DctAt X.w o a kv vv nks) (hk : dKeys ks = some nks) (r1 : Reps X.w X.K X.mg F kv ks) (r2 : Reps X.w X.K X.mg F vv vs) {i v : V} {k d d' : D} (ri : Rep X.w X.K X.mg F i k) (rv : Rep X.w X.K X.mg F v d) (ep : putK ks vs k d = .ok d')
    {Q : Hp → Prop} (hQ : ∀ o' kv' vv' nks' ks' vs', d' = .dct ks' vs' → DctAt X.w o' a kv' vv' nks' → dKeys ks' = some nks' → Reps X.w X.K X.mg F kv' ks' → Reps X.w X.K X.mg F vv' vs' → Q (L2.upd H a o')) : rSetDD X (.ref a) i v H Q := by
  cases er : dIdx ks k with
  | un => unfold putK at ep; rw [er] at ep; cases ep
  | ex _ _ _ => exact absurd er (dIdx_ex _ _)
  | ok r =>
    unfold putK at ep
    rw [er] at ep
    have ep' : putA ks vs k d r = R.ok d' := ep
    clear ep
    unfold dIdx at er
    rw [hk] at er
    cases ek : dKey k with
    | none =>
      rw [ek] at er
      split at er <;> cases er
    | some nk =>
      rw [ek] at er
      split at er
      rotate_left
      · cases er
      rename_i hc
      have er' : (nks.findIdx? fun y => decide (y = nk)) = r := by
        have e' : (R.ok (nks.findIdx? fun y => decide (y = nk)) : R (Option Nat)) = .ok r := er
        exact R.ok.inj e'
      have hlen : nks.length = ks.length := dKeys_len hk
      have fin : ∀ {o' : HO}, ((nks.findIdx? fun y => decide (y = nk)) = none → DctAt X.w o' a (kv ++ [i]) (vv ++ [v]) (nks ++ [nk])) → (∀ j, (nks.findIdx? fun y => decide (y = nk)) = some j → DctAt X.w o' a kv (vv.set j v) nks) → Q (L2.upd H a o') := fun {o'} g1 g2 => by
        cases r with
        | none =>
          have ep2 : (if ks.length < 16777216 then R.ok (D.dct (ks ++ [k]) (vs ++ [d])) else .un) = R.ok d' := ep'
          split at ep2
          · cases ep2
            exact hQ o' _ _ _ _ _ rfl (g1 er') (dKeys_snoc ek hk) (r1.append (.cons ri .nil)) (r2.append (.cons rv .nil))
          · cases ep2
        | some j =>
          have ep2 : R.ok (D.dct ks (vs.set j d)) = R.ok d' := ep'
          cases ep2
          exact hQ o' _ _ _ _ _ rfl (g2 j er') hk r1 (Reps.set rv j r2)
      have hroom : (nks.findIdx? fun y => decide (y = nk)) = none → nks.length < sizeLine := fun z => by
        rw [er'] at z
        subst z
        have ep2 : (if ks.length < 16777216 then R.ok (D.dct (ks ++ [k]) (vs ++ [d])) else .un) = R.ok d' := ep'
        split at ep2
        · rename_i hl
          rw [sizeLine_eq, hlen]; exact hl
        · cases ep2
      rcases hc with hc | hc
      · rw [Bool.and_eq_true] at hc
        obtain ⟨kvs, d1, d2, d3, d4⟩ := dct_L s e h hk r1 hc.1
        have nt : ∀ l, nk ≠ .tup l := fun l z => by
          have := hc.2
          unfold flatOk at this
          rw [ek, z] at this
          cases this
        obtain ⟨l, rfl, hl⟩ := key_leaf ri ek nt
        refine .inr ⟨a, kvs, l, rfl, d1, hl, fun u es ep rvu hks hps => ?_⟩
        obtain ⟨g1, g2⟩ := dctL_put h d2 d3 d4 hl hks hps rvu
        exact fin (fun z => g1 z (hroom z)) g2
      · rw [Bool.and_eq_true] at hc
        obtain ⟨xs, d1, d2, d3, d4⟩ := dct_T s e h hk r1 hc.1
        have ht : ∃ l, nk = .tup l ∧ (NestedKey.tup l).depth ≤ 8 := by
          have := hc.2
          unfold tupOk at this
          rw [ek] at this
          cases nk <;> first | cases this | exact ⟨_, rfl, of_decide_eq_true this⟩
        obtain ⟨l, rfl, h8⟩ := ht
        refine .inl ⟨a, xs, l, rfl, d1, ⟨F, k, s, ri, ek⟩, h8, fun b u es ep hb rvu he => ?_⟩
        subst hb
        obtain ⟨g1, g2⟩ := dctT_put h d2 d3 d4 he rvu
        exact fin (fun z => g1 z (hroom z)) g2
theorem es_setd {W : WX} {own : List Nat} {pos : Pos} {i : Nat} {x : Str} {p1 p2 : Pos} {ix e : Expr} {fk fe : SD → R D} {b c : List Nat} (hu : X.A.units + 65 < cLine) (hN : X.N[i]? = some x) (hv : Vis X.env.scope x) (hd : (x == ("__debug__" : Str)) = false) (hcd : (x == ("__classdict__" : Str)) = false) (hi : i ∈ own) (pix : plainIx ix = true)
    (hk : EV X W own .keep ix fk) (he : EV X W own .keep e fe) : ES X W own (.Assign [.Subscript (.Name x p1) ix p2] e pos) (fun st => setKey i st (fk st) (fe st)) ⟨own, b, c⟩ := by
  obtain ⟨tk, pk, qk⟩ := hk
  obtain ⟨te, pe, qe⟩ := he
  refine ⟨_, ps_asg pe (pg_sub (pe_var hN hv hd hcd) pk (set_D hu) (sub_target pix)) sub_swaps sub_stores rfl, fun H0 F0 F H σ st s0 rl => ?_⟩
  refine AtS.bind (U := fun v H1 Dn => ∃ o, σ[i]? = some (some o) ∧ tk σ H1 fun k H2 => rSetDD X o k v H2 fun H3 => Dn.nx σ H3) s0 rl (qe H0 F H σ st s0.fh rl) fun v d F1 H1 s1 r1 => ?_
  cases hst : dctOf st i with
  | none => trivial
  | some kvs =>
    obtain ⟨ks, vs⟩ := kvs
    have e1 := dctOf_some hst
    obtain ⟨u, e2, h⟩ := (rl.step s1).val i _ e1
    rcases h with ⟨_, h⟩ | ⟨h, _⟩
    rotate_left
    · exact absurd hi h
    obtain ⟨pa, o, kv, vv, nks, rfl, h1, h2, h3, h4, h5, h6, h7⟩ := h
    have key : AtS X W H0 F0 F1 ⟨own, b, c⟩ (fun Dn => tk σ H1 fun k H2 => rSetDD X (.ref pa) k v H2 fun H3 => Dn.nx σ H3) ((fk st).toO st fun k => (putK ks vs k d).toO st fun d' => .nx (st.set i (some d'))) := by
      refine AtS.bind (U := fun k H2 Dn => rSetDD X (.ref pa) k v H2 fun H3 => Dn.nx σ H3) (s0.trans s1) (rl.step s1) (qk H0 F1 H1 σ st s1.fh (rl.step s1)) fun kv' kd F2 H2 s2 r2 => ?_
      cases ep : putK ks vs kd d with
      | un => trivial
      | ex _ _ _ => exact absurd ep (putK_ex _ _ _ _)
      | ok d' =>
        have k2 : F2 pa = none := s2.nw pa (by rw [h1]; exact fun z => nomatch z) h2
        refine fun Dn hD => dct_put s2.fh (s2.hh _ _ h1) h4 h5 (Reps.mono s2.ff _ h6) (Reps.mono s2.ff _ h7) r2 (Rep.mono s2.ff _ r1) ep fun o' kv1 vv1 nks1 ks1 vs1 ed g1 g2 g3 g4 => ?_
        subst ed
        exact hD σ F2 _ (((s0.trans s1).trans s2).write h3 k2) (Same.refl F2) (((rl.step s1).step s2).updO hi e1 rfl e2 ⟨pa, o', kv1, vv1, nks1, rfl, upd_same, k2, h3, g1, g2, g3, g4⟩)
    exact key.mapT fun Dn z => ⟨.ref pa, e2, z⟩
end
end Dl

/-! DlLd: an own dict is lent to an expression, and taken back. -/
namespace Dl
open PySem PySem.Spec PyProof.Rows L2

mutual
/-- no dict in it -/
def D.nodct : D → Bool
  | .non | .bl _ | .int _ | .str _ => true
  | .tup xs | .lst xs => D.nodcts xs
  | .ins _ _ xs => D.nodcts xs
  | .dct _ _ => false
def D.nodcts : List D → Bool
  | [] => true
  | x :: xs => D.nodct x && D.nodcts xs
end
section
variable {w : World} {K : PySem.W.Frag} {mg : Str → Option Value} {F : Hp} {p a0 : Addr} {es : Array DictEntry} {ep : Nat}
theorem del_sqL {a : Addr} {xs : List V} (hp : F p = some (rawO a0 es ep)) (h : SqL K F a xs) : SqL K (L2.del F p) a xs := by
  rcases h with (h | ⟨o, h⟩) | h
  · exact .inl (.inl (by rw [del_ne (fun z => by subst z; rw [hp] at h; cases h)]; exact h))
  · exact .inl (.inr ⟨o, by rw [del_ne (fun z => by subst z; rw [hp] at h; cases h)]; exact h⟩)
  · exact .inr h
theorem del_sqT {a : Addr} {xs : List V} (hp : F p = some (rawO a0 es ep)) (h : SqT K F a xs) : SqT K (L2.del F p) a xs := by
  rcases h with (h | ⟨o, h⟩) | h
  · exact .inl (.inl (by rw [del_ne (fun z => by subst z; rw [hp] at h; cases h)]; exact h))
  · exact .inl (.inr ⟨o, by rw [del_ne (fun z => by subst z; rw [hp] at h; cases h)]; exact h⟩)
  · exact .inr h
mutual
theorem Rep.delD (hp : F p = some (rawO a0 es ep)) : ∀ (d : D) {v : V}, d.nodct = true → Rep w K mg F v d → Rep w K mg (L2.del F p) v d
  | .non, _, _, h => by cases h; exact .non
  | .bl b, _, _, h => by cases h; exact .bl _
  | .int i, _, _, h => by cases h; exact .int _
  | .str x, _, _, h => by cases h; exact .str _
  | .tup ds, _, n, h => by
    cases h with
    | tup h1 h2 => exact .tup (del_sqT hp h1) (Reps.delD hp ds (by simpa [D.nodct] using n) h2)
  | .lst ds, _, n, h => by
    cases h with
    | lst h1 h2 => exact .lst (del_sqL hp h1) (Reps.delD hp ds (by simpa [D.nodct] using n) h2)
  | .ins c ns ds, _, n, h => by
    cases h with
    | @ins a _ _ _ _ _ _ h1 h2 h3 h4 =>
      have hne : a ≠ p := fun z => by
        subst z
        rw [hp] at h1
        cases h1
      exact .ins (by rw [del_ne hne]; exact h1) h2 h3 (Reps.delD hp ds (by simpa [D.nodct] using n) h4)
  | .dct _ _, _, n, _ => by simp [D.nodct] at n
theorem Reps.delD (hp : F p = some (rawO a0 es ep)) : ∀ (ds : List D) {vs : List V}, D.nodcts ds = true → Reps w K mg F vs ds → Reps w K mg (L2.del F p) vs ds
  | [], _, _, h => by cases h; exact .nil
  | d :: ds, _, n, h => by
    simp only [D.nodcts, Bool.and_eq_true] at n
    cases h with
    | cons h1 h2 => exact .cons (Rep.delD hp d n.1 h1) (Reps.delD hp ds n.2 h2)
end
/-- one own slot is laid down -/
theorem SRel.lay {own : List Nat} {H0 H : Hp} {σ : L2.St} {st : SD} (r : SRel w K mg own H0 F H σ st) {i : Nat} {d : D} {o : HO} (hi : i ∈ own) (hs : st[i]? = some (some d)) (hd : d.heapy = true) (e1 : σ[i]? = some (some (.ref p))) (h2 : F p = none) (h4 : Rep w K mg (L2.upd F p o) (.ref p) d) : SRel w K mg (minus own [i]) H0 (L2.upd F p o) H σ st := by
  have sf : Same F (L2.upd F p o) := fun b u e => by rw [upd_ne (ne_of_none e h2)]; exact e
  refine ⟨r.len, fun j e hj => ?_, fun j k p dj dk hj hk => r.sep j k p dj dk (mem_minus.mp hj).1 (mem_minus.mp hk).1, fun h1 h2 p hp => r.pin (mem_minus.mp h1).1 (mem_minus.mp h2).1 p hp⟩
  obtain ⟨u, g1, g2⟩ := r.val j e hj
  refine ⟨u, g1, ?_⟩
  by_cases hij : j = i
  · subst hij
    rw [hs] at hj; cases hj
    rw [e1] at g1; cases g1
    exact .inr ⟨fun z => (mem_minus.mp z).2 (by simp), h4⟩
  · rcases g2 with ⟨a, b⟩ | ⟨a, b⟩
    · refine .inl ⟨mem_minus.mpr ⟨a, by simpa using hij⟩, b.mono sf fun he q hq => ?_⟩
      obtain ⟨q', o', e2, _, k2, _⟩ := b.heap he
      rw [hq] at e2; cases e2
      have hqp : q ≠ p := fun z => by
        subst z
        subst hq
        exact r.sep i j q d e hi a (Ne.symm hij) hd he hs hj e1 g1
      rw [upd_ne hqp]; exact k2
    · exact .inr ⟨fun z => a (mem_minus.mp z).1, Rep.mono sf _ b⟩
theorem Step.unlay {F H F1 H1 : Hp} {p : Addr} {o : HO} (s : Same F H) (h : F p = none) (t : Step (upd F p o) H F1 H1) : Step F H (L2.del F1 p) H1 := by
  refine ⟨fun b u e => ?_, t.hh, fun b u e => ?_, fun q hq e => ?_⟩
  · have hb : b ≠ p := ne_of_none e h
    rw [del_ne hb]
    exact t.ff b u (by rw [upd_ne hb]; exact e)
  · have hb : b ≠ p := fun z => by subst z; rw [del_same] at e; cases e
    rw [del_ne hb] at e
    exact t.fh b u e
  · by_cases hb : q = p
    · subst hb; exact del_same
    · rw [del_ne hb]; exact t.nw q hq (by rw [upd_ne hb]; exact e)
end
/-- what comes back holds no dict -/
def noDR : R D → R D
  | .un => .un
  | .ok d => if d.nodct = true then .ok d else .un
  | .ex c ns ds => if D.nodcts ds = true then .ex c ns ds else .un
def lendR (i : Nat) (st : SD) (r : R D) : R D := match dctOf st i with
  | some _ => noDR r
  | none => .un
theorem ev_lend {X : Cx} {W : WX} {own : List Nat} {i : Nat} {e : Expr} {f : SD → R D} (hi : i ∈ own) (h : EV X W (minus own [i]) .keep e f) : EV X W own .keep e (fun st => lendR i st (f st)) := by
  obtain ⟨t, p, q⟩ := h
  refine ⟨t, p, fun H0 F H σ st s rl => ?_⟩
  show At X.w X.K X.mg W σ F H (t σ H) (lendR i st (f st)) _
  unfold lendR
  cases hst : dctOf st i with
  | none => trivial
  | some kvs =>
    obtain ⟨ks, vs⟩ := kvs
    have e1 := dctOf_some hst
    obtain ⟨u, e2, hu⟩ := rl.val i _ e1
    rcases hu with ⟨_, hu⟩ | ⟨hu, _⟩
    rotate_left
    · exact absurd hi hu
    obtain ⟨pa, o, kv, vv, nks, rfl, h1, h2, h3, h4, h5, h6, h7⟩ := hu
    have sf : Same F (upd F pa o) := fun b u e => by rw [upd_ne (ne_of_none e h2)]; exact e
    have rd : Rep X.w X.K X.mg (upd F pa o) (.ref pa) (.dct ks vs) := .dct upd_same h4 h5 (Reps.mono sf _ h6) (Reps.mono sf _ h7)
    have s' : Same (upd F pa o) H := fun b u e => by
      by_cases hb : b = pa
      · subst hb; rw [upd_same] at e; cases e; exact h1
      · rw [upd_ne hb] at e; exact s b u e
    have key := q H0 (upd F pa o) H σ st s' (rl.lay hi e1 rfl e2 h2 rd)
    obtain ⟨es, ep, eo, _⟩ := h4
    cases ef : f st with
    | un => trivial
    | ok d =>
      rw [ef] at key
      show At X.w X.K X.mg W σ F H (t σ H) (if d.nodct = true then .ok d else .un) _
      split
      · rename_i hn
        refine fun Q hQ => key Q fun b F1 H1 st1 r1 => hQ b (L2.del F1 pa) H1 (Step.unlay s h2 st1) ?_
        have hp1 : F1 pa = some (rawO pa es ep) := by rw [← eo]; exact st1.ff _ _ upd_same
        exact Rep.delD hp1 d hn r1
      · trivial
    | ex c ns ds =>
      rw [ef] at key
      show At X.w X.K X.mg W σ F H (t σ H) (if D.nodcts ds = true then .ex c ns ds else .un) _
      split
      · rename_i hn
        refine fun Q hQ => key Q fun cls d F1 H1 st1 x1 => hQ cls d (L2.del F1 pa) H1 (Step.unlay s h2 st1) ?_
        have hp1 : F1 pa = some (rawO pa es ep) := by rw [← eo]; exact st1.ff _ _ upd_same
        obtain ⟨C, c1, c2, c3⟩ := x1
        refine ⟨C, c1, c2, ?_⟩
        rcases c3 with c3 | ⟨c3, dd, fs, c4, c5, c6, c7⟩
        · exact .inl c3
        · exact .inr ⟨c3, dd, fs, c4, c5, c6, Reps.delD hp1 ds hn c7⟩
      · trivial
end Dl

/-! DlDc: {k: v for x in ..}, keys ints or texts. -/
namespace Dl
open PySem PySem.Spec PyProof.Rows L2

section
variable {X : Cx}
theorem kv_vals {kvs : List (Key × V)} {vs : List (Key × Value)} (r : KV kvs vs) : Vals (kvs.map (·.2)) (vs.map (·.2)) ∧ vs.map (·.1) = kvs.map (·.1) := by
  unfold KV at r
  induction r with
  | nil => exact ⟨.nil, rfl⟩
  | cons h _ ih => exact ⟨.cons h.2 ih.1, by rw [List.map_cons, List.map_cons, ih.2, h.1]⟩
theorem mix_hash {P : Program} {w : World} (k : Key) : (mixKind P w).hash k = (nkKey (some k)).hash w := by cases k <;> rfl
theorem mix_back {P : Program} {w : World} {es : List DictEntry} {kvs : List (Key × Value)} (h : Pairs (mixKind P w) es kvs) (hk : ∀ e ∈ es, ∃ l, (mixKind P w).is l e.key = true ∧ e.hash = (mixKind P w).hash l) :
    Vals (kvs.map fun x => kV x.1) (es.map (·.key)) ∧ es.map (·.hash) = (kvs.map fun x => nkKey (some x.1)).map (NestedKey.hash w) ∧ es.map (·.val) = kvs.map (·.2) := by
  induction h with
  | nil => exact ⟨.nil, rfl, rfl⟩
  | @cons e kv es kvs h1 h2 _ ih =>
    obtain ⟨q1, q2, q3⟩ := ih fun e he => hk e (List.mem_cons_of_mem _ he)
    obtain ⟨l, hl, hh⟩ := hk e (List.mem_cons_self ..)
    have : l = kv.1 := (mixKind P w).inj _ _ _ hl h1
    subst this
    refine ⟨.cons (relV_key h1) q1, ?_, ?_⟩
    · simp only [List.map_cons, List.cons.injEq]
      exact ⟨hh.trans (mix_hash kv.1), q2⟩
    · simp only [List.map_cons, List.cons.injEq]
      exact ⟨h2, q3⟩
theorem pe_dcD {kx vx tg iter : Expr} {ifs : List Expr} {scope : Scope} {own : List (Str × Nat)} {pos : Pos} {wi : TI} {g : TG} {tt : TT} {tk tv : TE} (h : PE X (.DictComp kx vx [⟨tg, iter, ifs, 0⟩] scope pos) (tDc wi g tt tk tv (own.map (·.2)))) :
    PE X (.DictComp kx vx [⟨tg, iter, ifs, 0⟩] scope pos) (fun σ H Q => tDc wi g tt tk tv (own.map (·.2)) σ H fun x H1 => ∃ (a : Addr) (kvs : List (Key × V)), x = .ref a ∧ H1 a = some (.dK kvs) ∧ ∀ o, DctAt X.w o a (kvs.map fun p => kV p.1) (kvs.map (·.2)) (kvs.map fun p => nkKey (some p.1)) → Q (.ref a) (L2.upd H1 a o)) := by
  refine ⟨fun pins s σ H Q I q => thn (h.run pins s σ H _ I q) fun u s1 ⟨x, H1, I1, r1, a, kvs, ex, e, q1⟩ => ?_⟩
  subst ex
  obtain ⟨z, low, vs, rel, o, es, ep, ho, hc, hd, hk, hp, nd⟩ := dk_of I1.hok e
  obtain ⟨k1, k2⟩ := kv_vals rel
  obtain ⟨p1, p2, p3⟩ := mix_back hp fun e he => hk e (Array.mem_toList_iff.mp he)
  have m : ∀ {β : Type} (f : Key → β), vs.map (fun x => f x.1) = kvs.map fun x => f x.1 := fun f => by
    have := congrArg (List.map f) k2
    simpa [List.map_map, Function.comp_def] using this
  have hsz : es.size = kvs.length := by
    have e1 := congrArg List.length p3
    have e2 := congrArg List.length k2
    simp at e1 e2
    omega
  refine ⟨.ref a, L2.upd H1 a (rawO a es ep), d_write (t' := s1.toks) I1 (by rw [e]; exact True.intro) ⟨rfl, fun _ _ => rfl⟩ ⟨o, ho⟩ (rawO_ok ⟨o, ho, hc, hd⟩), r1, q1 _ ⟨es, ep, rfl, low, by rw [hsz]; exact z, ?_, ?_, ?_, ?_⟩⟩
  · rw [← m]; exact p1
  · rw [p3]; exact k1
  · rw [← m (fun k => nkKey (some k))]; exact p2
  · have e3 : (kvs.map fun p => nkKey (some p.1)) = (vs.map (·.1)).map fun k => nkKey (some k) := by rw [k2, List.map_map]; rfl
    rw [e3]
    exact List.Pairwise.map _ (fun a b (h : a ≠ b) e => h (by have := nkKey_inj e; injection this)) nd
end
/-! ### what it gives -/
def keyD : D → Option Key
  | .int i => some (.inl i)
  | .str x => some (.inr x)
  | _ => none
def kD : Key → D
  | .inl i => .int i
  | .inr x => .str x
def putG (kvs : List (Key × D)) (k : Key) (v : D) : List (Key × D) := if (kvs.any fun kv => decide (kv.1 = k)) = true then kvs.map (fun kv => if kv.1 = k then (kv.1, v) else kv) else kvs ++ [(k, v)]
def dcL (g : Tg) (c : SD → R Bool) (fk fv : SD → R D) (st : SD) : List D → List (Key × D) → Option (List (Key × D))
  | [], acc => some acc
  | d :: ds, acc => match bindT g d (wipeS st g.vs) with
    | .ok st1 => match c st1 with
      | .ok true => match fk st1 with
        | .ok k => match fv st1 with
          | .ok v => match keyD k with
            | some k => dcL g c fk fv st ds (putG acc k v)
            | none => none
          | _ => none
        | _ => none
      | .ok false => dcL g c fk fv st ds acc
      | _ => none
    | _ => none
def dctG (acc : List (Key × D)) : D := .dct (acc.map fun p => kD p.1) (acc.map (·.2))
def dcR (g : Tg) (c : SD → R Bool) (fk fv : SD → R D) (st : SD) (items : List D) : R D := if items.length ≤ 16777216 then ofO dctG (dcL g c fk fv st items []) else .un
/-- the entries by their data -/
def DK (w : World) (K : PySem.W.Frag) (mg : Str → Option Value) (F : Hp) : List (Key × V) → List (Key × D) → Prop := Paired fun p q => p.1 = q.1 ∧ Rep w K mg F p.2 q.2
section
variable {w : World} {K : PySem.W.Frag} {mg : Str → Option Value} {F : Hp}
theorem DK.mono {F' : Hp} (s : Same F F') : ∀ {xs : List (Key × V)} {ys : List (Key × D)}, DK w K mg F xs ys → DK w K mg F' xs ys
  | _, _, .nil => .nil
  | _, _, .cons h t => .cons ⟨h.1, Rep.mono s _ h.2⟩ (DK.mono s t)
theorem DK.length {xs : List (Key × V)} {ys : List (Key × D)} (h : DK w K mg F xs ys) : xs.length = ys.length := Paired.length h
theorem DK.any {xs : List (Key × V)} {ys : List (Key × D)} (h : DK w K mg F xs ys) (k : Key) : (xs.any fun kv => decide (kv.1 = k)) = ys.any fun kv => decide (kv.1 = k) := by
  unfold DK at h
  induction h with
  | nil => rfl
  | cons h _ ih => rw [List.any_cons, List.any_cons, ih, h.1]
theorem DK.map {v : V} {d : D} (r : Rep w K mg F v d) (k : Key) : ∀ {xs : List (Key × V)} {ys : List (Key × D)}, DK w K mg F xs ys → DK w K mg F (xs.map fun kv => if kv.1 = k then (kv.1, v) else kv) (ys.map fun kv => if kv.1 = k then (kv.1, d) else kv)
  | _, _, .nil => .nil
  | _, _, .cons (a := a) (b := b) h t => by
    refine .cons ?_ (DK.map r k t)
    dsimp only
    by_cases e : a.1 = k
    · rw [if_pos e, if_pos (by rw [← h.1]; exact e)]; exact ⟨h.1, r⟩
    · rw [if_neg e, if_neg (by rw [← h.1]; exact e)]; exact h
theorem DK.snoc {v : V} {d : D} (r : Rep w K mg F v d) (k : Key) : ∀ {xs : List (Key × V)} {ys : List (Key × D)}, DK w K mg F xs ys → DK w K mg F (xs ++ [(k, v)]) (ys ++ [(k, d)])
  | _, _, .nil => .cons ⟨rfl, r⟩ .nil
  | _, _, .cons h t => .cons h (DK.snoc r k t)
theorem DK.put {v : V} {d : D} (r : Rep w K mg F v d) (k : Key) {xs : List (Key × V)} {ys : List (Key × D)} (h : DK w K mg F xs ys) : DK w K mg F (L2.putK xs k v) (putG ys k d) := by
  unfold L2.putK putG
  rw [h.any k]
  split
  · exact h.map r k
  · exact h.snoc r k
theorem kV_rep (k : Key) : Rep w K mg F (kV k) (kD k) := by
  cases k with
  | inl i => exact .int i
  | inr x => exact .str x
theorem DK.reps {xs : List (Key × V)} {ys : List (Key × D)} (h : DK w K mg F xs ys) : Reps w K mg F (xs.map fun p => kV p.1) (ys.map fun p => kD p.1) ∧ Reps w K mg F (xs.map (·.2)) (ys.map (·.2)) ∧ dKeys (ys.map fun p => kD p.1) = some (xs.map fun p => nkKey (some p.1)) := by
  unfold DK at h
  induction h with
  | nil => exact ⟨.nil, .nil, rfl⟩
  | @cons a b as bs h _ ih =>
    refine ⟨.cons (by dsimp only; rw [h.1]; exact kV_rep _) ih.1, .cons h.2 ih.2.1, ?_⟩
    rw [List.map_cons, List.map_cons]
    show ((dKey (kD b.1)).bind fun k => (dKeys (bs.map fun p => kD p.1)).map fun ks => k :: ks) = _
    rw [ih.2.2, h.1]
    cases b.1 <;> rfl
theorem putG_len (ys : List (Key × D)) (k : Key) (d : D) : (putG ys k d).length ≤ ys.length + 1 := by
  unfold putG
  split
  · rw [List.length_map]; omega
  · rw [List.length_append, List.length_cons, List.length_nil]; omega
theorem keyD_rep {d : D} {v : V} {k : Key} (h : keyD d = some k) (r : Rep w K mg F v d) : v = kV k := by
  cases d with
  | int i => cases h; cases r; rfl
  | str x => cases h; cases r; rfl
  | _ => cases h
end
/-- the loop over any items -/
theorem dc_it {J : It} {n : Nat} {G : Hp → Prop} {Y : Nat → Hp → V → Hp → Prop} (wk : Walk J n G Y) {g : TG} {tt : TT} {tk tv : TE} {vs : List Nat} {σ : L2.St} {H1 : Hp} {D : Addr} {Qd : Hp → Prop} (Pv : Nat → Hp → Prop) (h0 : Pv 0 (L2.upd H1 D (.dK []))) (hG : ∀ i H, i ≤ n → Pv i H → G H)
    (hs : ∀ i x H H', i < n → Pv i H → Y i H x H' → g x (wipe σ vs) H' fun σ2 H2 => wipe σ2 vs = wipe σ vs ∧ tt σ2 H2 fun b H3 =>
      if b = true then tk σ2 H3 fun y H4 => tv σ2 H4 fun z H5 => ∃ kvs k, y = kV k ∧ H5 D = some (.dK kvs) ∧ kvs.length < sizeLine ∧ Pv (i + 1) (L2.upd H5 D (.dK (L2.putK kvs k z))) else Pv (i + 1) H3) (hd : ∀ H, Pv n H → Qd H) :
    ∃ W : Nat → Nat → Hp → Prop, (∃ m, W 0 m (L2.upd H1 D (.dK []))) ∧ ∀ i m H, W i m H →
      (J.stop i H ∧ Qd H) ∨ (J.go i H ∧ ∃ Nx : Hp → Prop, (∀ H', Nx H' → ∃ m', m' < m ∧ W (i + 1) m' H') ∧ ∀ x H', J.yld i H x H' → g x (wipe σ vs) H' fun σ2 H2 => wipe σ2 vs = wipe σ vs ∧ tt σ2 H2 fun b H3 =>
        if b = true then tk σ2 H3 fun y H4 => tv σ2 H4 fun z H5 => ∃ kvs k, y = kV k ∧ H5 D = some (.dK kvs) ∧ kvs.length < sizeLine ∧ Nx (L2.upd H5 D (.dK (L2.putK kvs k z))) else Nx H3) := by
  refine ⟨fun i m H => m = n - i ∧ i ≤ n ∧ Pv i H, ⟨n, by simp, Nat.zero_le _, h0⟩, fun i m H ⟨em, hi, p⟩ => ?_⟩
  by_cases hlt : i < n
  · exact .inr ⟨wk.goes i H hlt (hG i H hi p), Pv (i + 1), fun H' p' => ⟨n - (i + 1), by omega, rfl, hlt, p'⟩, fun x H' y => hs i x H H' hlt p (wk.yields i H x H' hlt (hG i H hi p) y)⟩
  · obtain rfl : i = n := by omega
    exact .inl ⟨wk.stops H (hG i H hi p), hd H p⟩
section
variable {X : Cx} {W : WX} {scope : Scope} {own : List Nat} {tg iter kx vx : Expr} {ifs : List Expr} {fs : SD → R (List D)} {fc : SD → R Bool} {fk fv : SD → R D} {g : Tg} {names : List (Str × Nat)} {pos : Pos}
theorem ev_dcomp (hc : X.calm = true) (hN : X.N.Nodup) (ok : BlkOk X.N X.env.scope scope names) (hf : ∀ x, foldedSetIterable iter X.env x = pure x) (hi : EIR X W own tg iter fs) (hv : names.map (·.2) = g.vs)
    (hg : ∀ s H C cl fp, EG (blkX X scope s H C cl fp) (minus own g.vs) tg g) (ht : ∀ s H C cl fp, ETs (blkX X scope s H C cl fp) W0 (minus own g.vs) ifs fc) (hk : ∀ s H C cl fp, EV (blkX X scope s H C cl fp) W0 (minus own g.vs) .keep kx fk) (he : ∀ s H C cl fp, EV (blkX X scope s H C cl fp) W0 (minus own g.vs) .keep vx fv) :
    EV X W own .fresh (.DictComp kx vx [⟨tg, iter, ifs, 0⟩] scope pos) (fun st => (fs st).bind fun items => dcR g fc fk fv st items) := by
  obtain ⟨wi, pi, qi⟩ := hi
  obtain ⟨tgr, pg, qg⟩ := fam_eg hg
  obtain ⟨tt, pt, qt⟩ := fam_ets ht
  obtain ⟨tk, pk, qk⟩ := fam_ev hk
  obtain ⟨te, pe, qe⟩ := fam_ev he
  refine ⟨_, pe_dcD (own := names) (pe_dc hc hN pi ok pg pt pk pe hf), fun H0 F H σ st s rl => ?_⟩
  rw [hv]
  unfold tDc
  refine At.bind (U := fun J H1 (Q : V → Hp → Prop) => ∀ D, H1 D = none → ∃ W : Nat → Nat → Hp → Prop, (∃ m, W 0 m (L2.upd H1 D (.dK []))) ∧ ∀ i m H, W i m H →
    (J.stop i H ∧ ∃ (a : Addr) (kvs : List (Key × V)), V.ref D = .ref a ∧ H a = some (.dK kvs) ∧ ∀ o, DctAt X.w o a (kvs.map fun p => kV p.1) (kvs.map (·.2)) (kvs.map fun p => nkKey (some p.1)) → Q (.ref a) (L2.upd H a o)) ∨ (J.go i H ∧ ∃ Nx : Hp → Prop, (∀ H', Nx H' → ∃ m', m' < m ∧ W (i + 1) m' H') ∧ ∀ x H', J.yld i H x H' → tgr x (wipe σ g.vs) H' fun σ2 H2 => wipe σ2 g.vs = wipe σ g.vs ∧ tt σ2 H2 fun b H3 =>
      if b = true then tk σ2 H3 fun y H4 => te σ2 H4 fun z H5 => ∃ kvs k, y = kV k ∧ H5 D = some (.dK kvs) ∧ kvs.length < sizeLine ∧ Nx (L2.upd H5 D (.dK (L2.putK kvs k z))) else Nx H3)) (qi H0 F H σ st s rl) fun J items F1 H1 s1 r1 => ?_
  show At _ _ _ W σ F1 H1 _ (if items.length ≤ 16777216 then ofO dctG (dcL g fc fk fv st items []) else .un) _
  split
  rotate_left
  · trivial
  rename_i hz
  cases ec : dcL g fc fk fv st items [] with
  | none => trivial
  | some ys =>
    obtain ⟨G, Y, wk, hG, hY⟩ := r1
    refine fun Q hQ D hD => ?_
    have rl1 := rl.step s1
    refine dc_it wk (fun i H2 => ∃ (F2 : Hp) (xs : List (Key × V)) (acc : List (Key × Dl.D)), Step F1 H1 F2 H2 ∧ F2 D = none ∧ H2 D = some (.dK xs) ∧ DK X.w X.K X.mg F2 xs acc ∧ dcL g fc fk fv st (items.drop i) acc = some ys ∧ acc.length ≤ i) ?_ (fun i H2 hi ⟨F2, xs, acc, s2, _⟩ => hG H2 s2.hh) ?_ ?_
    · exact ⟨F1, [], [], Step.own s1.fh hD, Same.none s1.fh hD, upd_same, .nil, ec, Nat.le_refl _⟩
    · rintro i x H2 H3 hi ⟨F2, xs, acc, s2, hFD, hHD, ra, er, hl⟩ y
      obtain ⟨d, F3, ed, s3, rd⟩ := hY i F2 H2 x H3 s2.ff s2.hh s2.fh hi y
      have hdrop : items.drop i = d :: items.drop (i + 1) := by
        obtain ⟨h1, h2⟩ := List.getElem?_eq_some_iff.mp ed
        rw [List.drop_eq_getElem_cons h1, h2]
      rw [hdrop] at er
      unfold dcL at er
      have s13 := s2.trans s3
      have rlw : SRel X.w X.K X.mg (minus own g.vs) H0 F3 H3 (wipe σ g.vs) (wipeS st g.vs) := (rl1.step s13).wipe g.vs
      have hF3D : F3 D = none := s3.nw D (by rw [hHD]; exact fun z => nomatch z) hFD
      have hH3D : H3 D = some (.dK xs) := s3.hh _ _ hHD
      cases eb : bindT g d (wipeS st g.vs) with
      | un => rw [eb] at er; cases er
      | ex c ns ds => rw [eb] at er; cases er
      | ok st1 =>
        rw [eb] at er
        refine qg H0 F3 H3 (wipe σ g.vs) (wipeS st g.vs) x d s3.fh rlw rd st1 eb _ fun σ2 rl2 hl2 hs2 => ?_
        refine ⟨by rw [wipe_eq hl2 g.vs hs2]; exact wipe_eq (by rw [wipe_length]) g.vs (fun j hj => wipe_out hj), ?_⟩
        have rl2' : SRel X.w X.K X.mg (minus own g.vs) H0 F3 H3 σ2 st1 := rl2.sub fun j => by rw [mem_minus, mem_minus, mem_minus]; exact ⟨fun ⟨a, b⟩ => ⟨⟨a, b⟩, b⟩, fun ⟨a, b⟩ => a⟩
        have at1 := qt H0 F3 H3 σ2 st1 s3.fh rl2'
        cases ecd : fc st1 with
        | un => simp only [ecd] at er; cases er
        | ex c ns ds => simp only [ecd] at er; cases er
        | ok k =>
          simp only [ecd] at er
          rw [ecd] at at1
          refine at1 _ fun b F4 H4 s4 eb2 => ?_
          subst eb2
          have hF4D : F4 D = none := s4.nw D (by rw [hH3D]; exact fun z => nomatch z) hF3D
          have hH4D : H4 D = some (.dK xs) := s4.hh _ _ hH3D
          cases b with
          | false =>
            rw [if_neg Bool.false_ne_true]
            exact ⟨F4, xs, acc, s13.trans s4, hF4D, hH4D, ra.mono (s3.trans s4).ff, er, by omega⟩
          | true =>
            rw [if_pos rfl]
            have at2 := qk H0 F4 H4 σ2 st1 s4.fh (rl2'.step s4)
            cases ek : fk st1 with
            | un => simp only [ek] at er; cases er
            | ex c ns ds => simp only [ek] at er; cases er
            | ok kd =>
              simp only [ek] at er
              rw [ek] at at2
              refine at2 _ fun yk F5 H5 s5 rk => ?_
              have hF5D : F5 D = none := s5.nw D (by rw [hH4D]; exact fun z => nomatch z) hF4D
              have hH5D : H5 D = some (.dK xs) := s5.hh _ _ hH4D
              have at3 := qe H0 F5 H5 σ2 st1 s5.fh ((rl2'.step s4).step s5)
              cases ev : fv st1 with
              | un => simp only [ev] at er; cases er
              | ex c ns ds => simp only [ev] at er; cases er
              | ok vd =>
                simp only [ev] at er
                rw [ev] at at3
                refine at3 _ fun yv F6 H6 s6 rv => ?_
                have hF6D : F6 D = none := s6.nw D (by rw [hH5D]; exact fun z => nomatch z) hF5D
                have hH6D : H6 D = some (.dK xs) := s6.hh _ _ hH5D
                cases ekd : keyD kd with
                | none => simp only [ekd] at er; cases er
                | some k =>
                  simp only [ekd] at er
                  have ra6 : DK X.w X.K X.mg F6 xs acc := ra.mono (((s3.trans s4).trans s5).trans s6).ff
                  refine ⟨xs, k, keyD_rep ekd rk, hH6D, by rw [sizeLine_eq, ra.length]; omega, ?_⟩
                  exact ⟨F6, L2.putK xs k yv, putG acc k vd, (((s13.trans s4).trans s5).trans s6).write hD hF6D, hF6D, upd_same, ra6.put rv k, er, by have := putG_len acc k vd; omega⟩
    · rintro H2 ⟨F2, xs, acc, s2, hFD, hHD, ra, er, hl⟩
      rw [List.drop_of_length_le (Nat.le_refl _)] at er
      cases er
      obtain ⟨g1, g2, g3⟩ := ra.reps
      exact ⟨D, xs, rfl, hHD, fun o ho => hQ _ F2 _ (s2.write hD hFD) ⟨D, o, _, _, _, rfl, upd_same, hFD, s1.hh.free hD, ho, g3, g1, g2⟩⟩
end
end Dl

/-! DlK: expressions as data: their meaning, the look whether a tree of the text is one. -/
namespace Dl
open PySem PySem.Spec PyProof.Rows L2

inductive Bop where
  | add | sub | mul | rep | fdiv | mod | pow | bor | band | bxor | shl
  deriving DecidableEq
inductive Cop where
  | eq | ne | lt | le | gt | ge | «in» | notin
  deriving DecidableEq
inductive B1 where
  | len | int | abs | list | tuple | max | min | sum | any | all | repr | sorted | isi (t : Ty)
inductive B2 where
  | max | min
mutual
inductive IE where
  | v (i : Nat)
  | kI (i : Int) | kB (b : Bool) | kN | kS (x : Str)
  | glob (x : Str) (d : D)
  | bin (op : Bop) (a b : IE)
  | neg (a : IE) | bits (a : IE)
  | ixOf (a b : IE)
  | cmp (op : Cop) (a b : IE)
  | chain (op op' : Cop) (a b c : IE)
  | isN (a : IE) | notN (a : IE) | isB (b : Bool) (a : IE) | notB (b : Bool) (a : IE)
  | and (xs : IEs) | or (xs : IEs) | not (a : IE) | ite (c a b : IE)
  | tup (xs : IEs) | lst (xs : IEs)
  | idx (a b : IE) | slice (a : IE) (lo hi : IO)
  | b1 (f : B1) (a : IE) | b2 (f : B2) (a b : IE) | listRg (a : IE)
  | call (x : Str) (f : List D → R D) (args : IEs)
  | dnil
  | lend (i : Nat) (a : IE)
  | callK (x : Str) (ks : List Str) (f : List D → R D) (args kargs : IEs)
  | fld (cs : List Str) (f : Str) (a : IE)
  | mk (x : Str) (f : List D → R D) (args : IEs)
  | meth (m : Str) (tbl : MTbl) (a : IE) (args : IEs)
  | comp (names : List (Str × Nat)) (g : Tg) (src : ISrc) (cond : IO) (elt : IE)
  | dcomp (names : List (Str × Nat)) (g : Tg) (src : ISrc) (cond : IO) (kx vx : IE)
inductive IEs where
  | nil | cons (a : IE) (as : IEs)
inductive IO where
  | none | some (a : IE)
inductive ISrc where
  | any (a : IE) | rng1 (a : IE) | rng2 (a b : IE) | enum (a : IE) | zip (a b : IE) | rev (a : IE)
end

/-! ### meaning -/
def binD : Bop → D → D → R D
  | .add => addD
  | .sub => subD
  | .mul => mulD
  | .rep => repD
  | .fdiv => fdivD
  | .mod => modD
  | .pow => powD
  | .bor => borD
  | .band => bandD
  | .bxor => bxorD
  | .shl => shlD
def cmpD : Cop → D → D → R D
  | .eq => eqD
  | .ne => neD
  | .lt => ltD
  | .le => leD
  | .gt => gtD
  | .ge => geD
  | .in => inD
  | .notin => notInD
def b1D : B1 → D → R D
  | .len => lenD
  | .int => intD
  | .abs => absD
  | .list => listD
  | .tuple => tupleD
  | .max => maxD
  | .min => minD
  | .sum => sumD
  | .any => anyD
  | .all => allD
  | .sorted => sortD
  | .repr => reprD
  | .isi t => isiD t
def b2D : B2 → D → D → R D
  | .max => max2D
  | .min => min2D
def seqL : List (SD → R D) → SD → R (List D)
  | [], _ => .ok []
  | f :: fs, st => (f st).bind fun d => (seqL fs st).bind fun ds => .ok (d :: ds)
def andL : List (SD → R D) → SD → R D
  | [], _ => .un
  | [f], st => f st
  | f :: fs, st => andR (f st) (andL fs st)
def orL : List (SD → R D) → SD → R D
  | [], _ => .un
  | [f], st => f st
  | f :: fs, st => orR (f st) (orL fs st)
def chainR (g g' : D → D → R D) (a b c : R D) : R D := a.bind fun x => b.bind fun y => (g x y).bind fun z => match z with
  | .bl true => c.bind fun w => g' y w
  | .bl false => .ok (.bl false)
  | _ => .un
def partR : R D → R (Option Int)
  | .ok (.int i) => .ok (some i)
  | .ok _ => .un
  | .un => .un
  | .ex c ns ds => .ex c ns ds
def tupR (r : R (List D)) : R D := r.bind fun ds => if ds.length ≤ 16777216 then .ok (.tup ds) else .un
def lstR (r : R (List D)) : R D := r.bind fun ds => if ds.length ≤ 16777216 then .ok (.lst ds) else .un
def rgR : D → R D
  | .int n => rgD 0 n
  | _ => .un
def rng1R : D → R (List D)
  | .int n => rngD 0 n
  | _ => .un
def rng2R : D → D → R (List D)
  | .int m, .int n => rngD m n
  | _, _ => .un
def tR (r : R D) : R Bool := r.bind truthD
def notR (r : R D) : R D := r.bind fun x => (truthD x).bind fun k => .ok (.bl (!k))
mutual
def evE : IE → SD → R D
  | .v i, st => getSt st i
  | .kI i, _ => .ok (.int i)
  | .kB b, _ => .ok (.bl b)
  | .kN, _ => .ok .non
  | .kS x, _ => .ok (.str x)
  | .glob _ d, _ => .ok d
  | .bin op a b, st => (evE a st).bind fun x => (evE b st).bind fun y => binD op x y
  | .neg a, st => (evE a st).bind fun x => negD x
  | .bits a, st => (evE a st).bind fun x => bitsD x
  | .ixOf a b, st => (evE a st).bind fun x => (lstD x).bind fun x => (evE b st).bind fun y => ixOfD x y
  | .cmp op a b, st => (evE a st).bind fun x => (evE b st).bind fun y => cmpD op x y
  | .chain op op' a b c, st => chainR (cmpD op) (cmpD op') (evE a st) (evE b st) (evE c st)
  | .isN a, st => (evE a st).bind fun x => isND x
  | .notN a, st => (evE a st).bind fun x => notND x
  | .isB b a, st => (evE a st).bind fun x => isBD b x
  | .notB b a, st => (evE a st).bind fun x => notBD b x
  | .and xs, st => andL (evL xs) st
  | .or xs, st => orL (evL xs) st
  | .not a, st => notR (evE a st)
  | .ite c a b, st => iteR (tR (evE c st)) (evE a st) (evE b st)
  | .tup xs, st => tupR (seqL (evL xs) st)
  | .lst xs, st => lstR (seqL (evL xs) st)
  | .idx a b, st => (evE a st).bind fun x => (evE b st).bind fun y => idxD x y
  | .slice a lo hi, st => (evE a st).bind fun x => (evP lo st).bind fun l => (evP hi st).bind fun h => sliceD x l h
  | .b1 f a, st => (evE a st).bind fun x => b1D f x
  | .b2 f a b, st => (evE a st).bind fun x => (evE b st).bind fun y => b2D f x y
  | .listRg a, st => (evE a st).bind fun x => rgR x
  | .call _ f args, st => (seqL (evL args) st).bind fun ds => f ds
  | .dnil, _ => .ok (.dct [] [])
  | .lend i a, st => lendR i st (evE a st)
  | .callK _ _ f args kargs, st => (seqL (evL args) st).bind fun ds => (seqL (evL kargs) st).bind fun zs => f (ds ++ zs)
  | .fld c f a, st => (evE a st).bind fun x => fldD c f x
  | .mk _ f args, st => (seqL (evL args) st).bind fun ds => f ds
  | .meth m tbl a args, st => (evE a st).bind fun x => (recvD m tbl x).bind fun f => (seqL (evL args) st).bind fun ds => f (x :: ds)
  | .dcomp _ g src cond kx vx, st => (evI src st).bind fun items => dcR g (evC cond) (evE kx) (evE vx) st items
  | .comp _ g src cond elt, st => (evI src st).bind fun items => compR g (evC cond) (evE elt) st items
def evL : IEs → List (SD → R D)
  | .nil => []
  | .cons a as => evE a :: evL as
/-- a part of a slice -/
def evP : IO → SD → R (Option Int)
  | .none, _ => .ok none
  | .some a, st => partR (evE a st)
/-- a clause's test -/
def evC : IO → SD → R Bool
  | .none, _ => .ok true
  | .some a, st => tR (evE a st)
def evI : ISrc → SD → R (List D)
  | .any a, st => (evE a st).bind iterD
  | .rng1 a, st => (evE a st).bind fun x => rng1R x
  | .rng2 a b, st => (evE a st).bind fun x => (evE b st).bind fun y => rng2R x y
  | .enum a, st => (evE a st).bind fun x => (seqOnly x).bind fun ds => .ok (enumL 0 ds)
  | .zip a b, st => (evE a st).bind fun x => (evE b st).bind fun y => zipD x y
  | .rev a, st => (evE a st).bind fun x => (lstOnly x).bind fun ds => .ok ds.reverse
end
end Dl

/-! DlL: the look at expressions, and that it tells the truth. -/
namespace Dl
open PySem PySem.Spec PyProof.Rows L2

/-! ### the text's trees taken apart -/
def asName : Expr → Option Str
  | .Name x _ => some x
  | _ => none
def asConst : Expr → Option Const
  | .Constant c _ _ => some c
  | _ => none
def asBin : Expr → Option (Expr × Operator × Expr)
  | .BinOp a op b _ => some (a, op, b)
  | _ => none
def asUn : Expr → Option (UnaryOp × Expr)
  | .UnaryOp op a _ => some (op, a)
  | _ => none
def asCmp1 : Expr → Option (Expr × CmpOp × Expr)
  | .Compare a [op] [b] _ => some (a, op, b)
  | _ => none
def asCmp2 : Expr → Option (Expr × CmpOp × CmpOp × Expr × Expr)
  | .Compare a [op, op'] [b, c] _ => some (a, op, op', b, c)
  | _ => none
def asBool : Expr → Option (PySem.BoolOp × List Expr)
  | .BoolOp op xs _ => some (op, xs)
  | _ => none
def asIf : Expr → Option (Expr × Expr × Expr)
  | .IfExp c a b _ => some (c, a, b)
  | _ => none
def asTup : Expr → Option (List Expr)
  | .Tuple es _ _ => some es
  | _ => none
def asLst : Expr → Option (List Expr)
  | .List es _ => some es
  | _ => none
def asSub : Expr → Option (Expr × Expr)
  | .Subscript a b _ => some (a, b)
  | _ => none
def asSlice : Expr → Option (Option Expr × Option Expr)
  | .Slice lo hi none _ => some (lo, hi)
  | _ => none
def asCall : Expr → Option (Expr × List Expr)
  | .Call f as [] _ => some (f, as)
  | _ => none
def asCallK : Expr → Option (Expr × List Expr × List Keyword)
  | .Call f as kws _ => some (f, as, kws)
  | _ => none
def asDComp : Expr → Option (Expr × Expr × Expr × Expr × List Expr × Scope)
  | .DictComp kx vx [⟨tg, iter, ifs, 0⟩] scope _ => some (kx, vx, tg, iter, ifs, scope)
  | _ => none
def isDnil : Expr → Bool
  | .Dict [] [] _ => true
  | _ => false
def asMethE : Expr → Option (Expr × Str × List Expr)
  | .Call (.Attribute o m ap) es [] cp => if ap.endLine == cp.line then some (o, m, es) else none
  | _ => none
def asAttr : Expr → Option (Expr × Str)
  | .Attribute a f _ => some (a, f)
  | _ => none
def asComp : Expr → Option (Expr × Expr × Expr × List Expr × Scope)
  | .ListComp elt [⟨tg, iter, ifs, 0⟩] scope _ => some (elt, tg, iter, ifs, scope)
  | _ => none
section
variable {e a b c : Expr} {x : Str} {es : List Expr}
theorem asName_eq (h : asName e = some x) : ∃ p, e = .Name x p := by
  cases e <;> first | (simp only [asName, Option.some.injEq] at h; subst h; exact ⟨_, rfl⟩) | cases h
theorem asConst_eq {k : Const} (h : asConst e = some k) : ∃ j p, e = .Constant k j p := by
  cases e <;> first | (simp only [asConst, Option.some.injEq] at h; subst h; exact ⟨_, _, rfl⟩) | cases h
theorem asBin_eq {op} (h : asBin e = some (a, op, b)) : ∃ p, e = .BinOp a op b p := by
  cases e <;> first | (simp only [asBin, Option.some.injEq, Prod.mk.injEq] at h; obtain ⟨rfl, rfl, rfl⟩ := h; exact ⟨_, rfl⟩) | cases h
theorem asUn_eq {op} (h : asUn e = some (op, a)) : ∃ p, e = .UnaryOp op a p := by
  cases e <;> first | (simp only [asUn, Option.some.injEq, Prod.mk.injEq] at h; obtain ⟨rfl, rfl⟩ := h; exact ⟨_, rfl⟩) | cases h
theorem asCmp1_eq {op} (h : asCmp1 e = some (a, op, b)) : ∃ p, e = .Compare a [op] [b] p := by
  unfold asCmp1 at h
  split at h
  · simp only [Option.some.injEq, Prod.mk.injEq] at h; obtain ⟨rfl, rfl, rfl⟩ := h; exact ⟨_, rfl⟩
  · cases h
theorem asCmp2_eq {op op'} (h : asCmp2 e = some (a, op, op', b, c)) : ∃ p, e = .Compare a [op, op'] [b, c] p := by
  unfold asCmp2 at h
  split at h
  · simp only [Option.some.injEq, Prod.mk.injEq] at h; obtain ⟨rfl, rfl, rfl, rfl, rfl⟩ := h; exact ⟨_, rfl⟩
  · cases h
theorem asBool_eq {op} (h : asBool e = some (op, es)) : ∃ p, e = .BoolOp op es p := by
  cases e <;> first | (simp only [asBool, Option.some.injEq, Prod.mk.injEq] at h; obtain ⟨rfl, rfl⟩ := h; exact ⟨_, rfl⟩) | cases h
theorem asIf_eq (h : asIf e = some (c, a, b)) : ∃ p, e = .IfExp c a b p := by
  cases e <;> first | (simp only [asIf, Option.some.injEq, Prod.mk.injEq] at h; obtain ⟨rfl, rfl, rfl⟩ := h; exact ⟨_, rfl⟩) | cases h
theorem asTup_eq (h : asTup e = some es) : ∃ k p, e = .Tuple es k p := by
  cases e <;> first | (simp only [asTup, Option.some.injEq] at h; subst h; exact ⟨_, _, rfl⟩) | cases h
theorem asLst_eq (h : asLst e = some es) : ∃ p, e = .List es p := by
  cases e <;> first | (simp only [asLst, Option.some.injEq] at h; subst h; exact ⟨_, rfl⟩) | cases h
theorem asSub_eq (h : asSub e = some (a, b)) : ∃ p, e = .Subscript a b p := by
  cases e <;> first | (simp only [asSub, Option.some.injEq, Prod.mk.injEq] at h; obtain ⟨rfl, rfl⟩ := h; exact ⟨_, rfl⟩) | cases h
theorem asSlice_eq {lo hi} (h : asSlice e = some (lo, hi)) : ∃ p, e = .Slice lo hi none p := by
  unfold asSlice at h
  split at h
  · simp only [Option.some.injEq, Prod.mk.injEq] at h; obtain ⟨rfl, rfl⟩ := h; exact ⟨_, rfl⟩
  · cases h
theorem asCall_eq (h : asCall e = some (a, es)) : ∃ p, e = .Call a es [] p := by
  unfold asCall at h
  split at h
  · simp only [Option.some.injEq, Prod.mk.injEq] at h; obtain ⟨rfl, rfl⟩ := h; exact ⟨_, rfl⟩
  · cases h
theorem isDnil_eq (h : isDnil e = true) : ∃ p, e = .Dict [] [] p := by
  unfold isDnil at h
  split at h
  · exact ⟨_, rfl⟩
  · cases h
theorem asCallK_eq {kws : List Keyword} (h : asCallK e = some (a, es, kws)) : ∃ p, e = .Call a es kws p := by
  unfold asCallK at h
  split at h
  · simp only [Option.some.injEq, Prod.mk.injEq] at h; obtain ⟨rfl, rfl, rfl⟩ := h; exact ⟨_, rfl⟩
  · cases h
theorem asMethE_eq {o : Expr} {m : Str} (h : asMethE e = some (o, m, es)) : ∃ ap cp, e = .Call (.Attribute o m ap) es [] cp ∧ (ap.endLine == cp.line) = true := by
  unfold asMethE at h
  split at h
  · split at h
    · rename_i hl
      simp only [Option.some.injEq, Prod.mk.injEq] at h
      obtain ⟨rfl, rfl, rfl⟩ := h
      exact ⟨_, _, rfl, hl⟩
    · cases h
  · cases h
theorem asAttr_eq (h : asAttr e = some (a, x)) : ∃ p, e = .Attribute a x p := by
  cases e <;> first | (simp only [asAttr, Option.some.injEq, Prod.mk.injEq] at h; obtain ⟨rfl, rfl⟩ := h; exact ⟨_, rfl⟩) | cases h
theorem asDComp_eq {kx vx tg iter : Expr} {ifs : List Expr} {scope : Scope} (h : asDComp e = some (kx, vx, tg, iter, ifs, scope)) : ∃ p, e = .DictComp kx vx [⟨tg, iter, ifs, 0⟩] scope p := by
  unfold asDComp at h
  split at h
  · simp only [Option.some.injEq, Prod.mk.injEq] at h; obtain ⟨rfl, rfl, rfl, rfl, rfl, rfl⟩ := h; exact ⟨_, rfl⟩
  · cases h
theorem asComp_eq {elt tg iter : Expr} {ifs : List Expr} {scope : Scope} (h : asComp e = some (elt, tg, iter, ifs, scope)) : ∃ p, e = .ListComp elt [⟨tg, iter, ifs, 0⟩] scope p := by
  unfold asComp at h
  split at h
  · simp only [Option.some.injEq, Prod.mk.injEq] at h; obtain ⟨rfl, rfl, rfl, rfl, rfl⟩ := h; exact ⟨_, rfl⟩
  · cases h
end
def notSet : Expr → Bool
  | .Set _ _ _ => false
  | _ => true
theorem mark_in {op : CmpOp} {b : Expr} (h : notSet b = true) : behindInMarks op b = false := by
  cases b <;> first | rfl | cases h
theorem folded_ok {e : Expr} {env : Env} (h : notSet e = true) : ∀ x, foldedSetIterable e env x = pure x := by
  intro x
  cases e <;> first | rfl | cases h

/-! ### the look -/
structure SC where
  N : List Str
  sc : Scope
  blk : Bool
def visC (sc : Scope) (x : Str) : Bool := (match sc.names.lookup x with
  | some .local => true
  | some .cell => true
  | some .free => true
  | _ => false) && !(x == ("__debug__" : Str)) && !(x == ("__classdict__" : Str))
def locC (blk : Bool) (sc : Scope) (x : Str) : Bool := match sc.names.lookup x with
  | some .local => true
  | some .cell => !blk
  | _ => false
def glC (sc : Scope) (x : Str) : Bool := (match sc.names.lookup x with
  | some .globalImplicit => true
  | _ => false) && !(x == ("__debug__" : Str))
def bltNames : List Str := ["len", "int", "abs", "list", "tuple", "max", "min", "sum", "any", "all", "repr", "isinstance", "bool", "str", "range", "enumerate", "zip", "reversed", "sorted"]
def bopE : Bop → Operator
  | .add => .Add
  | .sub => .Sub
  | .mul => .Mult
  | .rep => .Mult
  | .fdiv => .FloorDiv
  | .mod => .Mod
  | .pow => .Pow
  | .bor => .BitOr
  | .band => .BitAnd
  | .bxor => .BitXor
  | .shl => .LShift
def copE : Cop → CmpOp
  | .eq => .Eq
  | .ne => .NotEq
  | .lt => .Lt
  | .le => .LtE
  | .gt => .Gt
  | .ge => .GtE
  | .in => .In
  | .notin => .NotIn
def B1.nm : B1 → Str
  | .len => "len"
  | .int => "int"
  | .abs => "abs"
  | .list => "list"
  | .tuple => "tuple"
  | .max => "max"
  | .min => "min"
  | .sum => "sum"
  | .any => "any"
  | .all => "all"
  | .repr => "repr"
  | .sorted => "sorted"
  | .isi _ => "isinstance"
def B2.nm : B2 → Str
  | .max => "max"
  | .min => "min"
mutual
/-- the best mode in which the value lies -/
def prov (own : List Nat) : IE → Md
  | .v i => if own.contains i then .read else .keep
  | .glob _ _ => .keep
  | .and xs => if kpL own xs then .keep else .read
  | .or xs => if kpL own xs then .keep else .read
  | .ite _ a b => if (prov own a).ge .keep && (prov own b).ge .keep then .keep else .read
  | .idx _ _ => .keep
  | .call _ _ _ => .keep
  | .callK _ _ _ _ _ => .keep
  | .dnil => .fresh
  | .lend _ _ => .keep
  | .fld _ _ _ => .keep
  | .mk _ _ _ => .keep
  | .meth _ _ _ _ => .keep
  | .kI _ => .fresh
  | .kB _ => .fresh
  | .kN => .fresh
  | .kS _ => .fresh
  | .bin _ _ _ => .fresh
  | .neg _ => .fresh
  | .bits _ => .fresh
  | .ixOf _ _ => .fresh
  | .cmp _ _ _ => .fresh
  | .chain _ _ _ _ _ => .fresh
  | .isN _ => .fresh
  | .notN _ => .fresh
  | .isB _ _ => .fresh
  | .notB _ _ => .fresh
  | .not _ => .fresh
  | .tup _ => .fresh
  | .lst _ => .fresh
  | .slice _ _ _ => .fresh
  | .b1 _ _ => .fresh
  | .b2 _ _ _ => .fresh
  | .listRg _ => .fresh
  | .comp _ _ _ _ _ => .fresh
  | .dcomp _ _ _ _ _ _ => .fresh
def kpL (own : List Nat) : IEs → Bool
  | .nil => true
  | .cons a as => (prov own a).ge .keep && kpL own as
end
def kp (own : List Nat) (e : IE) : Bool := (prov own e).ge .keep
def tgC (s : SC) : Tg → Expr → Bool
  | .nm i, e => match asName e with
    | some x => decide (s.N[i]? = some x) && locC s.blk s.sc x
    | none => false
  | .tup is, e => match asTup e with
    | some es => tgsC s is es
    | none => false
where tgsC (s : SC) : List Nat → List Expr → Bool
  | [], [] => true
  | i :: is, e :: es => (match asName e with
    | some x => decide (s.N[i]? = some x) && locC s.blk s.sc x
    | none => false) && tgsC s is es
  | _, _ => false
mutual
/-- whether the tree may stand as a test -/
def tstE : IE → Bool
  | .ite _ _ _ => false
  | .and xs => tstL xs
  | .or xs => tstL xs
  | .not a => tstE a
  | .v _ => true
  | .kI _ => true
  | .kB _ => true
  | .kN => true
  | .kS _ => true
  | .glob _ _ => true
  | .bin _ _ _ => true
  | .neg _ => true
  | .bits _ => true
  | .ixOf _ _ => true
  | .cmp _ _ _ => true
  | .chain _ _ _ _ _ => true
  | .isN _ => true
  | .notN _ => true
  | .isB _ _ => true
  | .notB _ _ => true
  | .tup _ => true
  | .lst _ => true
  | .idx _ _ => true
  | .slice _ _ _ => true
  | .b1 _ _ => true
  | .b2 _ _ _ => true
  | .listRg _ => true
  | .call _ _ _ => true
  | .callK _ _ _ _ _ => true
  | .dnil => true
  | .lend _ _ => true
  | .fld _ _ _ => true
  | .mk _ _ _ => true
  | .meth _ _ _ _ => true
  | .comp _ _ _ _ _ => true
  | .dcomp _ _ _ _ _ _ => true
def tstL : IEs → Bool
  | .nil => true
  | .cons a as => tstE a && tstL as
end
def IEs.len : IEs → Nat
  | .nil => 0
  | .cons _ as => IEs.len as + 1
def plainT : Expr → Bool
  | .UnaryOp .Not _ _ => false
  | .BoolOp _ _ _ => false
  | .IfExp _ _ _ _ => false
  | .Compare _ _ _ _ => false
  | _ => true
mutual
def chkE (s : SC) (own : List Nat) : IE → Expr → Bool
  | .v i, e => match asName e with
    | some x => decide (s.N[i]? = some x) && visC s.sc x
    | none => false
  | .kI i, e => decide (asConst e = some (.int i))
  | .kB b, e => decide (asConst e = some (.bool b))
  | .kN, e => decide (asConst e = some .none)
  | .kS x, e => decide (asConst e = some (.str x))
  | .glob x _, e => match asName e with
    | some y => decide (x = y) && glC s.sc x
    | none => false
  | .bin op a b, e => match asBin e with
    | some (l, o, r) => decide (o = bopE op) && chkE s own a l && chkE s own b r
    | none => false
  | .bits a, e => match asMethE e with
    | some (x, m, []) => decide (m = "bit_length") && abase x && chkE s own a x
    | _ => false
  | .ixOf a b, e => match asMethE e with
    | some (x, m, [y]) => decide (m = "index") && abase x && nostar y && chkE s own a x && chkE s own b y
    | _ => false
  | .neg a, e => match asUn e with
    | some (o, x) => decide (o = .USub) && chkE s own a x
    | none => false
  | .cmp op a b, e => match asCmp1 e with
    | some (l, o, r) => decide (o = copE op) && notSet r && chkE s own a l && chkE s own b r
    | none => false
  | .chain op op' a b c, e => match asCmp2 e with
    | some (l, o, o', r, q) => decide (o = copE op) && decide (o' = copE op') && notSet r && notSet q && chkE s own a l && chkE s own b r && chkE s own c q
    | none => false
  | .isN a, e => match asCmp1 e with
    | some (l, o, r) => decide (o = .Is) && decide (asConst r = some .none) && chkE s own a l
    | none => false
  | .notN a, e => match asCmp1 e with
    | some (l, o, r) => decide (o = .IsNot) && decide (asConst r = some .none) && chkE s own a l
    | none => false
  | .isB b a, e => match asCmp1 e with
    | some (l, o, r) => decide (o = .Is) && decide (asConst r = some (.bool b)) && chkE s own a l
    | none => false
  | .notB b a, e => match asCmp1 e with
    | some (l, o, r) => decide (o = .IsNot) && decide (asConst r = some (.bool b)) && chkE s own a l
    | none => false
  | .and xs, e => match asBool e with
    | some (o, es) => decide (o = .And) && !es.isEmpty && chkL s own false xs es
    | none => false
  | .or xs, e => match asBool e with
    | some (o, es) => decide (o = .Or) && !es.isEmpty && chkL s own false xs es
    | none => false
  | .not a, e => match asUn e with
    | some (o, x) => decide (o = .Not) && chkE s own a x
    | none => false
  | .ite c a b, e => match asIf e with
    | some (ec, ea, eb) => tstE c && chkE s own c ec && chkE s own a ea && chkE s own b eb
    | none => false
  | .tup xs, e => match asTup e with
    | some es => chkL s own true xs es
    | none => false
  | .lst xs, e => match asLst e with
    | some es => chkL s own true xs es
    | none => false
  | .idx a b, e => match asSub e with
    | some (x, y) => plainIx y && chkE s own a x && chkE s own b y
    | none => false
  | .slice a lo hi, e => match asSub e with
    | some (x, y) => (match asSlice y with
      | some (l, h) => chkE s own a x && chkO s own lo l && chkO s own hi h
      | none => false)
    | none => false
  | .b1 f a, e => match asCall e with
    | some (g, as) => (match asName g with
      | some y => decide (y = f.nm) && glC s.sc y && (match f, as with
        | .isi t, [x, c] => (match asName c with
          | some z => decide (z = Str.ofString t.name) && glC s.sc z && nostar x && chkE s own a x
          | none => false)
        | .isi _, _ => false
        | _, [x] => nostar x && chkE s own a x
        | _, _ => false)
      | none => false)
    | none => false
  | .b2 f a b, e => match asCall e with
    | some (g, [x, y]) => (match asName g with
      | some z => decide (z = f.nm) && glC s.sc z && nostar x && nostar y && chkE s own a x && chkE s own b y
      | none => false)
    | _ => false
  | .listRg a, e => match asCall e with
    | some (g, [r]) => (match asName g, asCall r with
      | some y, some (h, [x]) => (match asName h with
        | some z => decide (y = ("list" : Str)) && glC s.sc y && decide (z = ("range" : Str)) && glC s.sc z && nostar x && chkE s own a x
        | none => false)
      | _, _ => false)
    | _ => false
  | .call x _ args, e => match asCall e with
    | some (g, es) => (match asName g with
      | some y => decide (x = y) && glC s.sc x && es.all nostar && chkL s own true args es
      | none => false)
    | none => false
  | .dnil, e => isDnil e
  | .lend i a, e => decide (i ∈ own) && plainT e && kp (minus own [i]) a && chkE s (minus own [i]) a e
  | .callK x ks _ args kargs, e => match asCallK e with
    | some (g, es, kws) => (match asName g with
      | some y => decide (x = y) && glC s.sc x && !es.isEmpty && es.all nostar && kwOk kws ks && decide (IEs.len kargs = ks.length) && chkL s own true args es && chkK s own kargs kws
      | none => false)
    | none => false
  | .mk x _ args, e => match asCall e with
    | some (g, es) => (match asName g with
      | some y => decide (x = y) && glC s.sc x && es.all nostar && chkL s own true args es
      | none => false)
    | none => false
  | .meth m _ a args, e => match asMethE e with
    | some (o, m', es) => decide (m = m') && abase o && decide (es.length < 20) && es.all nostar && chkE s own a o && (prov own a).ge .keep && chkL s own true args es
    | none => false
  | .fld _ f a, e => match asAttr e with
    | some (x, g) => decide (f = g) && abase x && chkE s own a x
    | none => false
  | .dcomp names g src cond kx vx, e => match asDComp e with
    | some (ek, ev, tg, iter, ifs, scope) => blkC s.N s.sc scope names && decide (names.map (·.2) = g.vs) && notSet iter && tgC ⟨s.N, relS scope s.sc, true⟩ g tg && chkI s own false src tg iter && (match cond, ifs with
      | .none, [] => true
      | .some c, [ec] => tstE c && chkE ⟨s.N, relS scope s.sc, true⟩ (minus own g.vs) c ec
      | _, _ => false) && chkE ⟨s.N, relS scope s.sc, true⟩ (minus own g.vs) kx ek && kp (minus own g.vs) kx && chkE ⟨s.N, relS scope s.sc, true⟩ (minus own g.vs) vx ev && kp (minus own g.vs) vx
    | none => false
  | .comp names g src cond elt, e => match asComp e with
    | some (ee, tg, iter, ifs, scope) => blkC s.N s.sc scope names && decide (names.map (·.2) = g.vs) && notSet iter && tgC ⟨s.N, relS scope s.sc, true⟩ g tg && chkI s own false src tg iter && (match cond, ifs with
      | .none, [] => true
      | .some c, [ec] => tstE c && chkE ⟨s.N, relS scope s.sc, true⟩ (minus own g.vs) c ec
      | _, _ => false) && chkE ⟨s.N, relS scope s.sc, true⟩ (minus own g.vs) elt ee && kp (minus own g.vs) elt
    | none => false
def chkL (s : SC) (own : List Nat) (keep : Bool) : IEs → List Expr → Bool
  | .nil, [] => true
  | .cons a as, e :: es => nostar e && chkE s own a e && (!keep || kp own a) && chkL s own keep as es
  | _, _ => false
/-- the values of keywords -/
def chkK (s : SC) (own : List Nat) : IEs → List Keyword → Bool
  | .nil, [] => true
  | .cons a as, ⟨_, e, _⟩ :: kws => chkE s own a e && kp own a && chkK s own as kws
  | _, _ => false
def chkO (s : SC) (own : List Nat) : IO → Option Expr → Bool
  | .none, none => true
  | .some a, some e => chkE s own a e
  | _, _ => false
def chkI (s : SC) (own : List Nat) (kk : Bool) : ISrc → Expr → Expr → Bool
  | .any a, _, e => chkE s own a e && (!kk || kp own a)
  | .rng1 a, _, e => match asCall e with
    | some (g, [x]) => (match asName g with
      | some y => decide (y = ("range" : Str)) && glC s.sc y && nostar x && chkE s own a x
      | none => false)
    | _ => false
  | .rng2 a b, _, e => match asCall e with
    | some (g, [x, z]) => (match asName g with
      | some y => decide (y = ("range" : Str)) && glC s.sc y && nostar x && nostar z && chkE s own a x && chkE s own b z
      | none => false)
    | _ => false
  | .enum a, tg, e => match asCall e with
    | some (g, [x]) => (match asName g with
      | some y => decide (y = ("enumerate" : Str)) && glC s.sc y && nostar x && (asTup tg).isSome && chkE s own a x && kp own a
      | none => false)
    | _ => false
  | .zip a b, tg, e => match asCall e with
    | some (g, [x, z]) => (match asName g with
      | some y => decide (y = ("zip" : Str)) && glC s.sc y && nostar x && nostar z && (asTup tg).isSome && chkE s own a x && chkE s own b z && kp own a && kp own b
      | none => false)
    | _ => false
  | .rev a, _, e => match asCall e with
    | some (g, [x]) => (match asName g with
      | some y => decide (y = ("reversed" : Str)) && glC s.sc y && nostar x && chkE s own a x && kp own a
      | none => false)
    | _ => false
end

/-! ### what is left to be known: the defs that are called, the constants, the classes -/
section
variable (P : Program) (w : World) (K : PySem.W.Frag) (mg : Str → Option Value) (base : Heap) (k : Nat)
def GlobD (x : Str) (d : D) : Prop := ∃ (u : Value) (v : V), mg x = some u ∧ RelV v u ∧ ∀ F, Rep w K mg F v d
def CallD (x : Str) (n : Nat) (f : List D → R D) : Prop := FnD P w K mg base k x n f ∧ (∀ ds, ds.length ≠ n → f ds = .un)
mutual
def ObE : IE → Prop
  | .v _ => True
  | .kI _ => True
  | .kB _ => True
  | .kN => True
  | .kS _ => True
  | .glob x d => GlobD w K mg x d
  | .bin _ a b => ObE a ∧ ObE b
  | .neg a => ObE a
  | .bits a => ObE a
  | .ixOf a b => ObE a ∧ ObE b
  | .cmp _ a b => ObE a ∧ ObE b
  | .chain _ _ a b c => ObE a ∧ ObE b ∧ ObE c
  | .isN a => ObE a
  | .notN a => ObE a
  | .isB _ a => ObE a
  | .notB _ a => ObE a
  | .and xs => ObL xs
  | .or xs => ObL xs
  | .not a => ObE a
  | .ite c a b => ObE c ∧ ObE a ∧ ObE b
  | .tup xs => ObL xs
  | .lst xs => ObL xs
  | .idx a b => ObE a ∧ ObE b
  | .slice a lo hi => ObE a ∧ ObO lo ∧ ObO hi
  | .b1 _ a => ObE a
  | .b2 _ a b => ObE a ∧ ObE b
  | .listRg a => ObE a
  | .call x f args => CallD P w K mg base k x (IEs.len args) f ∧ ObL args
  | .dnil => True
  | .lend _ a => ObE a
  | .callK x ks f args kargs => FnK P w K mg base k x (IEs.len args) ks f ∧ ObL args ∧ ObL kargs
  | .fld cs f a => (∀ c ∈ cs, FldD K mg c f) ∧ ObE a
  | .mk x f args => MkD P w K mg base k x (IEs.len args) f ∧ ObL args
  | .meth m tbl a args => (∀ q ∈ tbl, MethD P w K mg base k q.1 m (IEs.len args + 1) q.2) ∧ ObE a ∧ ObL args
  | .comp _ _ src cond elt => ObI src ∧ ObO cond ∧ ObE elt
  | .dcomp _ _ src cond kx vx => ObI src ∧ ObO cond ∧ ObE kx ∧ ObE vx
def ObL : IEs → Prop
  | .nil => True
  | .cons a as => ObE a ∧ ObL as
def ObO : IO → Prop
  | .none => True
  | .some a => ObE a
def ObI : ISrc → Prop
  | .any a => ObE a
  | .rng1 a => ObE a
  | .rng2 a b => ObE a ∧ ObE b
  | .enum a => ObE a
  | .zip a b => ObE a ∧ ObE b
  | .rev a => ObE a
end
end
/-- the place where one stands is as the look takes it -/
structure XOk (s : SC) (k : Nat) (X : Cx) (W : WX) : Prop where
  calm : X.calm = true
  N : X.N = s.N
  nd : s.N.Nodup
  sc : X.env.scope = s.sc
  room : Room k X.A
  gd : X.A.guards = some []
  blt : ∀ x ∈ bltNames, X.mg x = none
  tk : Takes X W
  fn : s.blk = false → ∀ x, X.fn x = true
theorem XOk.vis {s : SC} {k : Nat} {X : Cx} {W : WX} (h : XOk s k X W) {x : Str} (hv : visC s.sc x = true) : Vis X.env.scope x ∧ (x == ("__debug__" : Str)) = false ∧ (x == ("__classdict__" : Str)) = false := by
  unfold visC at hv
  simp only [Bool.and_eq_true, Bool.not_eq_true'] at hv
  obtain ⟨⟨h1, h2⟩, h3⟩ := hv
  refine ⟨?_, h2, h3⟩
  rw [h.sc]
  unfold Vis
  split at h1
  · rename_i e; exact .inl e
  · rename_i e; exact .inr (.inl e)
  · rename_i e; exact .inr (.inr e)
  · cases h1
theorem XOk.loc {s : SC} {k : Nat} {X : Cx} {W : WX} (h : XOk s k X W) {x : Str} (hv : locC s.blk s.sc x = true) : Loc X.env.scope x ∧ (X.fn x = true ∨ X.env.scope.names.lookup x = some .local) := by
  unfold locC at hv
  rw [h.sc]
  unfold L2.Loc
  split at hv
  · rename_i e; exact ⟨.inl e, .inr e⟩
  · rename_i e; exact ⟨.inr e, .inl (h.fn (by simpa using hv) x)⟩
  · cases hv
theorem XOk.gl {s : SC} {k : Nat} {X : Cx} {W : WX} (h : XOk s k X W) {x : Str} (hv : glC s.sc x = true) : Gl X x ∧ (x == ("__debug__" : Str)) = false := by
  unfold glC at hv
  simp only [Bool.and_eq_true, Bool.not_eq_true'] at hv
  obtain ⟨h1, h2⟩ := hv
  refine ⟨?_, h2⟩
  show X.env.scope.names.lookup x = some .globalImplicit
  rw [h.sc]
  split at h1
  · assumption
  · cases h1
theorem XOk.bl {s : SC} {k : Nat} {X : Cx} {W : WX} (h : XOk s k X W) {x : Str} (hm : x ∈ bltNames) : X.mg x = none := h.blt x hm
theorem XOk.blk {s : SC} {k : Nat} {X : Cx} {W : WX} (h : XOk s k X W) (scope : Scope) (sh : Shared) (H : Hp) (C : Addr) (cl : List (Str × Addr)) (fp : List Addr) : XOk ⟨s.N, relS scope s.sc, true⟩ k (blkX X scope sh H C cl fp) W0 := by
  refine ⟨h.calm, h.N, h.nd, ?_, h.room, h.gd, h.blt, takes0, fun z => nomatch z⟩
  show relS scope X.env.scope = relS scope s.sc
  rw [h.sc]
end Dl

/-! DlM: the look tells the truth (expressions). -/
namespace Dl
open PySem PySem.Spec PyProof.Rows L2

section
variable {X : Cx} {W : WX} {own : List Nat} {s : SC} {k : Nat}
theorem inD_lst (x : D) (ds : List D) : inD x (.lst ds) = if x.okE = true ∧ (D.lst ds).okE = true then .ok (.bl (ds.any fun z => D.eqv z x)) else .un := by cases x <;> rfl
theorem inD_tup (x : D) (ds : List D) : inD x (.tup ds) = if x.okE = true ∧ (D.tup ds).okE = true then .ok (.bl (ds.any fun z => D.eqv z x)) else .un := by cases x <;> rfl
theorem inD_dct (x : D) (ks vs : List D) : inD x (.dct ks vs) = (dIdx ks x).bind fun o => .ok (.bl o.isSome) := by cases x <;> rfl
theorem notInD_dct (x : D) (ks vs : List D) : notInD x (.dct ks vs) = (dIdx ks x).bind fun o => .ok (.bl (!o.isSome)) := by cases x <;> rfl
theorem notInD_lst (x : D) (ds : List D) : notInD x (.lst ds) = if x.okE = true ∧ (D.lst ds).okE = true then .ok (.bl (!ds.any fun z => D.eqv z x)) else .un := by cases x <;> rfl
theorem notInD_tup (x : D) (ds : List D) : notInD x (.tup ds) = if x.okE = true ∧ (D.tup ds).okE = true then .ok (.bl (!ds.any fun z => D.eqv z x)) else .un := by cases x <;> rfl
theorem cmpD_bl (op : Cop) (x y : D) : cmpD op x y = .un ∨ ∃ b, cmpD op x y = .ok (.bl b) := by
  cases op with
  | eq =>
    by_cases h : D.okQ x y = true
    · exact .inr ⟨_, if_pos h⟩
    · exact .inl (if_neg h)
  | ne =>
    by_cases h : D.okQ x y = true
    · exact .inr ⟨_, if_pos h⟩
    · exact .inl (if_neg h)
  | lt => cases x <;> cases y <;> first | exact .inl rfl | exact .inr ⟨_, rfl⟩
  | le => cases x <;> cases y <;> first | exact .inl rfl | exact .inr ⟨_, rfl⟩
  | gt => cases x <;> cases y <;> first | exact .inl rfl | exact .inr ⟨_, rfl⟩
  | ge => cases x <;> cases y <;> first | exact .inl rfl | exact .inr ⟨_, rfl⟩
  | «in» =>
    show inD x y = .un ∨ ∃ b, inD x y = .ok (.bl b)
    cases y with
    | lst ds =>
      rw [inD_lst]
      by_cases h : x.okE = true ∧ (D.lst ds).okE = true
      · exact .inr ⟨_, if_pos h⟩
      · exact .inl (if_neg h)
    | tup ds =>
      rw [inD_tup]
      by_cases h : x.okE = true ∧ (D.tup ds).okE = true
      · exact .inr ⟨_, if_pos h⟩
      · exact .inl (if_neg h)
    | str z =>
      cases x with
      | str c =>
        by_cases h : c.cps.size = 1
        · exact .inr ⟨_, if_pos h⟩
        · exact .inl (if_neg h)
      | _ => exact .inl rfl
    | dct ks vs =>
      rw [inD_dct]
      cases e : dIdx ks x with
      | un => exact .inl rfl
      | ex _ _ _ => exact absurd e (dIdx_ex _ _)
      | ok r => exact .inr ⟨_, rfl⟩
    | _ => cases x <;> exact .inl rfl
  | notin =>
    show notInD x y = .un ∨ ∃ b, notInD x y = .ok (.bl b)
    cases y with
    | lst ds =>
      rw [notInD_lst]
      by_cases h : x.okE = true ∧ (D.lst ds).okE = true
      · exact .inr ⟨_, if_pos h⟩
      · exact .inl (if_neg h)
    | tup ds =>
      rw [notInD_tup]
      by_cases h : x.okE = true ∧ (D.tup ds).okE = true
      · exact .inr ⟨_, if_pos h⟩
      · exact .inl (if_neg h)
    | str z =>
      cases x with
      | str c =>
        by_cases h : c.cps.size = 1
        · exact .inr ⟨_, if_pos h⟩
        · exact .inl (if_neg h)
      | _ => exact .inl rfl
    | dct ks vs =>
      rw [notInD_dct]
      cases e : dIdx ks x with
      | un => exact .inl rfl
      | ex _ _ _ => exact absurd e (dIdx_ex _ _)
      | ok r => exact .inr ⟨_, rfl⟩
    | _ => cases x <;> exact .inl rfl
/-- each comparison by its rule -/
theorem cop_rule (op : Cop) (hr : Room k X.A) : ∃ r : R2, OpR X (compareOp (copE op)) r ∧ Leaf2 X r (cmpD op) := by
  have hu := hr.units
  have hu65 : X.A.units + 65 < cLine := by have := hr.un; omega
  cases op with
  | eq => exact ⟨_, (op_eqD hu).or op_eq, leaf_eq⟩
  | ne => exact ⟨_, (op_neD hu).or op_ne, leaf_ne⟩
  | lt => exact ⟨_, op_lt.or op_lt_str, leaf_lt⟩
  | le => exact ⟨_, op_le, leaf_le⟩
  | gt => exact ⟨_, op_gt, leaf_gt⟩
  | ge => exact ⟨_, op_ge, leaf_ge⟩
  | «in» => exact ⟨_, op_inA hu65, leaf_in⟩
  | notin => exact ⟨_, op_notInA hu65, leaf_notIn⟩
theorem bop_rule (op : Bop) (h : op ≠ .rep) : ∃ r : R2, OpR X (binaryOp (bopE op)) r ∧ Leaf2 X r (binD op) := by
  cases op with
  | add => exact ⟨_, op_addAll, leaf_add⟩
  | sub => exact ⟨_, op_sub, leaf_sub⟩
  | mul => exact ⟨_, op_mulAll, leaf_mul⟩
  | rep => exact absurd rfl h
  | fdiv => exact ⟨_, op_fdivW, leaf_fdiv⟩
  | mod => exact ⟨_, op_mod, leaf_mod⟩
  | pow => exact ⟨_, op_pow, leaf_pow⟩
  | bor => exact ⟨_, op_or, leaf_bor⟩
  | band => exact ⟨_, op_and, leaf_band⟩
  | bxor => exact ⟨_, op_xor, leaf_bxor⟩
  | shl => exact ⟨_, op_shl, leaf_shl⟩
theorem leaf_neg : Leaf1 X (rU fun i => .int (-i)) negD := by
  intro W σ F H x v s rx
  cases x with
  | int i => cases rx.int; exact at_flat s (fun Q q => ⟨i, rfl, q⟩) (.int _) rfl
  | _ => trivial
theorem ev_neg {a : Expr} {pos : Pos} {fa : SD → R D} (ha : EV X W own .read a fa) : EV X W own .fresh (.UnaryOp .USub a pos) (fun st => (fa st).bind fun x => negD x) :=
  ev_op1 (r := rU fun i => .int (-i)) (fun p => pe_un un_neg p) leaf_neg ha
/-- a value's truth as a test, whatever the tree -/
theorem not_tR (r : R D) : (tR r).bind (fun k => R.ok (!k)) = (notR r).bind truthD := by
  cases r with
  | un => rfl
  | ex _ _ _ => rfl
  | ok x =>
    show (truthD x).bind _ = ((truthD x).bind _).bind _
    rcases truthD_ex x with e | ⟨b, e⟩ <;> rw [e] <;> rfl
theorem and_tR (a b : R D) : (tR a).bind (fun c => if c = true then tR b else R.ok false) = tR (andR a b) := by
  cases a with
  | un => rfl
  | ex _ _ _ => rfl
  | ok x =>
    show (truthD x).bind _ = ((truthD x).bind _).bind _
    rcases truthD_ex x with e | ⟨c, e⟩
    · rw [e]; rfl
    · rw [e]
      cases c with
      | true => rfl
      | false => show R.ok false = (R.ok x).bind truthD; show _ = truthD x; rw [e]
theorem or_tR (a b : R D) : (tR a).bind (fun c => if c = true then R.ok true else tR b) = tR (orR a b) := by
  cases a with
  | un => rfl
  | ex _ _ _ => rfl
  | ok x =>
    show (truthD x).bind _ = ((truthD x).bind _).bind _
    rcases truthD_ex x with e | ⟨c, e⟩
    · rw [e]; rfl
    · rw [e]
      cases c with
      | false => rfl
      | true => show R.ok true = (R.ok x).bind truthD; show _ = truthD x; rw [e]
theorem EW.congr {c : Expr} {f g : SD → R Bool} (h : EW X W own c f) (e : ∀ st, f st = g st) : EW X W own c g := by
  have : f = g := funext e
  subst this; exact h
theorem ET.congr {c : Expr} {f g : SD → R Bool} (h : ET X W own c f) (e : ∀ st, f st = g st) : ET X W own c g := by
  have : f = g := funext e
  subst this; exact h
/-- and, or: from the parts -/
inductive Parts (P : Expr → (SD → R D) → Prop) : List Expr → List (SD → R D) → Prop
  | nil : Parts P [] []
  | cons {e : Expr} {f : SD → R D} {es : List Expr} {fs : List (SD → R D)} : P e f → Parts P es fs → Parts P (e :: es) (f :: fs)
theorem ev_andL {m : Md} {pos : Pos} : ∀ {es : List Expr} {fs : List (SD → R D)}, Parts (fun e f => EV X W own m e f) es fs → es ≠ [] → EV X W own m (.BoolOp .And es pos) (andL fs)
  | _, _, .nil, h => absurd rfl h
  | _, _, .cons h .nil, _ => ev_one h
  | _, _, .cons (e := e) h (.cons h2 t), _ => ev_and h (ev_andL (.cons h2 t) (by simp))
theorem ev_orL {m : Md} {pos : Pos} : ∀ {es : List Expr} {fs : List (SD → R D)}, Parts (fun e f => EV X W own m e f) es fs → es ≠ [] → EV X W own m (.BoolOp .Or es pos) (orL fs)
  | _, _, .nil, h => absurd rfl h
  | _, _, .cons h .nil, _ => ev_one h
  | _, _, .cons (e := e) h (.cons h2 t), _ => ev_or h (ev_orL (.cons h2 t) (by simp))
theorem ew_andL {pos : Pos} : ∀ {es : List Expr} {fs : List (SD → R D)}, Parts (fun e f => ET X W own e (fun st => tR (f st))) es fs → es ≠ [] → EW X W own (.BoolOp .And es pos) (fun st => tR (andL fs st))
  | _, _, .nil, h => absurd rfl h
  | _, _, .cons h .nil, _ => ew_and1 h
  | _, _, .cons h (.cons h2 t), _ => (ew_and h (ew_andL (.cons h2 t) (by simp))).congr fun st => and_tR _ _
theorem ew_orL {pos : Pos} : ∀ {es : List Expr} {fs : List (SD → R D)}, Parts (fun e f => ET X W own e (fun st => tR (f st))) es fs → es ≠ [] → EW X W own (.BoolOp .Or es pos) (fun st => tR (orL fs st))
  | _, _, .nil, h => absurd rfl h
  | _, _, .cons h .nil, _ => ew_or1 h
  | _, _, .cons h (.cons h2 t), _ => (ew_or h (ew_orL (.cons h2 t) (by simp))).congr fun st => or_tR _ _
theorem plainT_ok {e : Expr} {env : Env} (h : plainT e = true) : ∀ whole, isTrue e env whole = (do let v ← whole; standAt e.pos; holding [v] (truthy v)) := by
  intro whole
  cases e with
  | UnaryOp op a p => cases op <;> first | rfl | cases h
  | BoolOp _ _ _ => cases h
  | IfExp _ _ _ _ => cases h
  | Compare _ _ _ _ => cases h
  | _ => rfl
theorem et_cmpv {a : Expr} {fa : SD → R D} {e : Expr} (h : EV X W own .read e fa) (he : ∀ whole, isTrue e X.env whole = (do let v ← whole; standAt e.pos; holding [v] (truthy v))) : ET X W own e (fun st => tR (fa st)) := et_truth h he
end
end Dl

/-! DlN: the look at expressions tells the truth. -/
namespace Dl
open PySem PySem.Spec PyProof.Rows L2

section
variable {X : Cx} {W : WX} {own : List Nat} {s : SC} {k : Nat} {pos : Pos}
theorem star_all {env : Env} {cpos : Pos} : ∀ {es : List Expr}, es.all nostar = true → (backTo cpos (starEach es env)).all (fun x => !x.1) = true ∧ (backTo cpos (starEach es env)).length = es.length
  | [], _ => ⟨rfl, rfl⟩
  | e :: es, h => by
    simp only [List.all_cons, Bool.and_eq_true] at h
    rw [starEach_cons h.1]
    obtain ⟨h1, h2⟩ := star_all (env := env) (cpos := cpos) h.2
    unfold backTo at h1 h2 ⊢
    refine ⟨?_, by simpa using h2⟩
    rw [List.map_cons, List.all_cons, h1]; rfl
theorem few_args {es : List Expr} {cpos : Pos} (ns : es.all nostar = true) (hl : es.length < 20) : ((backTo cpos (starEach es X.env)).all (fun x => !x.1) && (backToKw cpos (keywordEach [] X.env)).all (fun x => x.1.isSome) && decide (es.length + ([] : List Keyword).length + (if ([] : List Keyword).isEmpty then 0 else 1) < 30)) = true := by
  rw [(star_all ns).1, show (backToKw cpos (keywordEach [] X.env)).all (fun x => x.1.isSome) = true from rfl]
  simp only [Bool.true_and, decide_eq_true_eq]
  show es.length + 0 + 0 < 30
  omega
theorem et_op1 {a : Expr} {fa : SD → R D} {e : Expr} {r : V → Hp → VK → Prop} {g : D → R D} (mk : ∀ {ta : TE}, PE X a ta → PT X e (fun σ H Q => ta σ H fun v H1 => r v H1 fun x H' => ∃ c, x = .bl c ∧ Q c H')) (L : Leaf1 X r g) (hbl : ∀ x, g x = .un ∨ ∃ c, g x = .ok (.bl c)) (ha : EV X W own .read a fa) :
    ET X W own e (fun st => tR ((fa st).bind fun x => g x)) := by
  obtain ⟨ta, pa, qa⟩ := ha
  refine ⟨_, mk pa, fun H0 F H σ st s rl => ?_⟩
  have e0 : tR ((fa st).bind fun x => g x) = (fa st).bind fun x => (g x).bind truthD := by
    cases fa st <;> rfl
  show At X.w X.K X.mg W σ F H _ (tR ((fa st).bind fun x => g x)) _
  rw [e0]
  show At X.w X.K X.mg W σ F H (fun Q => ta σ H fun v H1 => r v H1 fun x H' => ∃ c, x = .bl c ∧ Q c H') _ _
  refine At.bind (U := fun v H1 Q => r v H1 fun x H' => ∃ c, x = .bl c ∧ Q c H') (qa H0 F H σ st s rl) fun v x F1 H1 s1 r1 => ?_
  have hl := L W σ F1 H1 x v s1.fh r1
  rcases hbl x with e | ⟨c, e⟩
  · rw [e]; trivial
  · rw [e] at hl ⊢
    exact fun Q hQ => hl _ fun z F3 H3 s3 r3 => ⟨c, (RelM.toRead (m := .fresh) r3).bl, hQ c F3 H3 s3 rfl⟩
theorem pt_isC {a : Expr} {ta : TE} {b : Bool} {j p} (h : PE X a ta) : PT X (.Compare a [.Is] [.Constant (.bool b) j p] pos) (fun σ H Q => ta σ H fun v H1 => ∃ c, V.bl (decide (v = .bl b)) = .bl c ∧ Q c H1) :=
  ⟨fun pins s σ H Q I q => (pt_cmpR (op_isC b) h (pe_bl (b := b)) (nomark _)).run pins s σ H Q I (by
    show ta σ H fun x H1 => (V.bl b = V.bl b ∧ ∃ c, V.bl (decide (x = .bl b)) = V.bl c ∧ Q c H1)
    have e : (fun (x : V) (H1 : Hp) => (V.bl b = V.bl b ∧ ∃ c, V.bl (decide (x = .bl b)) = V.bl c ∧ Q c H1)) = (fun x H1 => ∃ c, V.bl (decide (x = .bl b)) = V.bl c ∧ Q c H1) := by
      funext x H1; simp
    rw [e]; exact q)⟩
theorem pt_isntC {a : Expr} {ta : TE} {b : Bool} {j p} (h : PE X a ta) : PT X (.Compare a [.IsNot] [.Constant (.bool b) j p] pos) (fun σ H Q => ta σ H fun v H1 => ∃ c, V.bl (!decide (v = .bl b)) = .bl c ∧ Q c H1) :=
  ⟨fun pins s σ H Q I q => (pt_cmpR (op_isntC b) h (pe_bl (b := b)) (nomark _)).run pins s σ H Q I (by
    show ta σ H fun x H1 => (V.bl b = V.bl b ∧ ∃ c, V.bl (!decide (x = .bl b)) = V.bl c ∧ Q c H1)
    have e : (fun (x : V) (H1 : Hp) => (V.bl b = V.bl b ∧ ∃ c, V.bl (!decide (x = .bl b)) = V.bl c ∧ Q c H1)) = (fun x H1 => ∃ c, V.bl (!decide (x = .bl b)) = V.bl c ∧ Q c H1) := by
      funext x H1; simp
    rw [e]; exact q)⟩
theorem isND_bl (x : D) : isND x = .un ∨ ∃ c, isND x = .ok (.bl c) := by cases x <;> exact .inr ⟨_, rfl⟩
theorem notND_bl (x : D) : notND x = .un ∨ ∃ c, notND x = .ok (.bl c) := by cases x <;> exact .inr ⟨_, rfl⟩
theorem isBD_bl (b : Bool) (x : D) : isBD b x = .un ∨ ∃ c, isBD b x = .ok (.bl c) := by cases x <;> exact .inr ⟨_, rfl⟩
theorem notBD_bl (b : Bool) (x : D) : notBD b x = .un ∨ ∃ c, notBD b x = .ok (.bl c) := by cases x <;> exact .inr ⟨_, rfl⟩
theorem et_isN {a : Expr} {fa : SD → R D} {j p} (ha : EV X W own .read a fa) : ET X W own (.Compare a [.Is] [.Constant .none j p] pos) (fun st => tR ((fa st).bind fun x => isND x)) :=
  et_op1 (r := fun v H Q => Q (V.bl (decide (v = V.non))) H) (fun {ta} p => pt_cmp (pc_isN p) rfl) leaf_isN isND_bl ha
theorem et_notN {a : Expr} {fa : SD → R D} {j p} (ha : EV X W own .read a fa) : ET X W own (.Compare a [.IsNot] [.Constant .none j p] pos) (fun st => tR ((fa st).bind fun x => notND x)) :=
  et_op1 (r := fun v H Q => Q (V.bl (!decide (v = V.non))) H) (fun {ta} p => pt_cmp (pc_notN p) rfl) leaf_notN notND_bl ha
theorem et_isB {a : Expr} {fa : SD → R D} {b : Bool} {j p} (ha : EV X W own .read a fa) : ET X W own (.Compare a [.Is] [.Constant (.bool b) j p] pos) (fun st => tR ((fa st).bind fun x => isBD b x)) :=
  et_op1 (fun p => pt_isC p) (leaf_isB b) (isBD_bl b) ha
theorem et_notB {a : Expr} {fa : SD → R D} {b : Bool} {j p} (ha : EV X W own .read a fa) : ET X W own (.Compare a [.IsNot] [.Constant (.bool b) j p] pos) (fun st => tR ((fa st).bind fun x => notBD b x)) :=
  et_op1 (fun p => pt_isntC p) (leaf_notB b) (notBD_bl b) ha
theorem et_chain {a b c : Expr} {fa fb fc : SD → R D} {op op' : CmpOp} {r r' : R2} {g g' : D → D → R D} (ho : OpR X (compareOp op) r) (ho' : OpR X (compareOp op') r') (hm : lastMarks [op, op'] [b, c] = false) (L : Leaf2 X r g) (L' : Leaf2 X r' g')
    (ha : EV X W own .read a fa) (hb : EV X W own .read b fb) (hc : EV X W own .read c fc) (hbl : ∀ x y, g x y = .un ∨ ∃ k, g x y = .ok (.bl k)) (hbl' : ∀ x y, g' x y = .un ∨ ∃ k, g' x y = .ok (.bl k)) :
    ET X W own (.Compare a [op, op'] [b, c] pos) (fun st => tR (chainR g g' (fa st) (fb st) (fc st))) := by
  obtain ⟨ta, pa, qa⟩ := ha
  obtain ⟨tb, pb, qb⟩ := hb
  obtain ⟨tc, pc, qc⟩ := hc
  refine ⟨_, pt_chain ho ho' pa pb pc hm, fun H0 F H σ st s rl => ?_⟩
  have e0 : tR (chainR g g' (fa st) (fb st) (fc st)) = ((fa st).bind fun x => (fb st).bind fun y => (g x y).bind fun z => match z with
      | .bl true => (fc st).bind fun w => (g' y w).bind truthD
      | .bl false => .ok false
      | _ => .un) := by
    cases fa st with
    | un => rfl
    | ex _ _ _ => rfl
    | ok x =>
      cases fb st with
      | un => rfl
      | ex _ _ _ => rfl
      | ok y =>
        show tR ((g x y).bind _) = (g x y).bind _
        rcases hbl x y with e | ⟨b, e⟩
        · rw [e]; rfl
        · rw [e]
          cases b with
          | false => rfl
          | true => show tR ((fc st).bind fun w => g' y w) = (fc st).bind fun w => (g' y w).bind truthD; cases fc st <;> rfl
  show At X.w X.K X.mg W σ F H _ (tR (chainR g g' (fa st) (fb st) (fc st))) _
  rw [e0]
  show At X.w X.K X.mg W σ F H (fun Q => ta σ H fun v H1 => tb σ H1 fun u H2 => r v u H2 fun z H3 => ∃ k, z = .bl k ∧ (if k = true then tc σ H3 fun w' H4 => r' u w' H4 (fun x H' => ∃ k, x = .bl k ∧ Q k H') else (∃ k, V.bl false = .bl k ∧ Q k H3))) _ _
  refine At.bind (U := fun v H1 Q => tb σ H1 fun u H2 => r v u H2 fun z H3 => ∃ k, z = .bl k ∧ (if k = true then tc σ H3 fun w' H4 => r' u w' H4 (fun x H' => ∃ k, x = .bl k ∧ Q k H') else (∃ k, V.bl false = .bl k ∧ Q k H3))) (qa H0 F H σ st s rl) fun v x F1 H1 s1 r1 => ?_
  refine At.bind (U := fun u H2 Q => r v u H2 fun z H3 => ∃ k, z = .bl k ∧ (if k = true then tc σ H3 fun w' H4 => r' u w' H4 (fun x H' => ∃ k, x = .bl k ∧ Q k H') else (∃ k, V.bl false = .bl k ∧ Q k H3))) (qb H0 F1 H1 σ st s1.fh (rl.step s1)) fun u y F2 H2 s2 r2 => ?_
  refine At.bind (U := fun z H3 Q => ∃ k, z = .bl k ∧ (if k = true then tc σ H3 fun w' H4 => r' u w' H4 (fun x H' => ∃ k, x = .bl k ∧ Q k H') else (∃ k, V.bl false = .bl k ∧ Q k H3))) (L W σ F2 H2 x y v u s2.fh (RelR.step s2 r1) r2) fun z d F3 H3 s3 r3 => ?_
  cases d with
  | bl k =>
    have ez : z = .bl k := (RelM.toRead (m := .fresh) r3).bl
    subst ez
    cases k with
    | true =>
      show At X.w X.K X.mg W σ F3 H3 _ ((fc st).bind fun w => (g' y w).bind truthD) _
      have := At.bind (U := fun w' H4 (Q : Bool → Hp → Prop) => r' u w' H4 (fun x H' => ∃ k, x = .bl k ∧ Q k H')) (g := fun w => (g' y w).bind truthD) (rel2 := fun _ _ b a => b = a) (qc H0 F3 H3 σ st s3.fh ((rl.step s1).step (s2.trans s3))) fun w' w F4 H4 s4 r4 => ?_
      · exact this.map (f := id) (fun Q q => ⟨true, rfl, by rw [if_pos rfl]; exact q⟩) fun b a F1 H1 _ z => z
      · have hl := L' W σ F4 H4 y w u w' s4.fh (RelR.step (s3.trans s4) r2) r4
        rcases hbl' y w with e | ⟨k, e⟩
        · rw [e]; trivial
        · rw [e] at hl ⊢
          exact fun Q hQ => hl _ fun z F3 H3 s3 r3 => ⟨k, (RelM.toRead (m := .fresh) r3).bl, hQ k F3 H3 s3 rfl⟩
    | false => exact fun Q hQ => ⟨false, rfl, by rw [if_neg Bool.false_ne_true]; exact ⟨false, rfl, hQ _ F3 H3 (Step.refl s3.fh) rfl⟩⟩
  | _ => trivial
theorem marks2 {op op' : CmpOp} {b c : Expr} (h : notSet c = true) : lastMarks [op, op'] [b, c] = false := by
  show behindInMarks op' c = false
  exact mark_in h

/-! ### the conclusion for one tree -/
/-- as a value, and as a test -/
def Snd (X : Cx) (W : WX) (own : List Nat) (ie : IE) (e : Expr) : Prop := EV X W own (prov own ie) e (evE ie) ∧ (tstE ie = true → ET X W own e (fun st => tR (evE ie st)))
theorem Snd.rd {ie : IE} {e : Expr} (h : Snd X W own ie e) : EV X W own .read e (evE ie) := h.1.toRead
theorem Snd.kp {ie : IE} {e : Expr} (h : Snd X W own ie e) (hk : kp own ie = true) : EV X W own .keep e (evE ie) := h.1.coe hk
theorem Snd.mk' {ie : IE} {e : Expr} {m : Md} (h : EV X W own m e (evE ie)) (hm : m = prov own ie) (hp : plainT e = true) : Snd X W own ie e := by
  subst hm
  exact ⟨h, fun _ => et_truth h.toRead (plainT_ok hp)⟩
/-- several trees, kept -/
def SndK (X : Cx) (W : WX) (own : List Nat) (ies : IEs) (es : List Expr) : Prop := EVs X W own es (seqL (evL ies))
def SndP (X : Cx) (W : WX) (own : List Nat) (ies : IEs) (es : List Expr) : Prop :=
  Parts (fun e f => EV X W own .read e f) es (evL ies) ∧ (kpL own ies = true → Parts (fun e f => EV X W own .keep e f) es (evL ies)) ∧ (tstL ies = true → Parts (fun e f => ET X W own e (fun st => tR (f st))) es (evL ies))
theorem blt_ok {X : Cx} {W : WX} (ok : XOk s k X W) {x : Str} (hg : glC s.sc x = true) (hm : x ∈ bltNames) : Gl X x ∧ X.mg x = none := ⟨(ok.gl hg).1, ok.bl hm⟩
theorem bin_ev {op : Bop} {a b : IE} {l r : Expr} (ha : Snd X W own a l) (hb : Snd X W own b r) : EV X W own .fresh (.BinOp l (bopE op) r pos) (evE (.bin op a b)) := by
  by_cases e : op = .rep
  · subst e
    exact ev_rep ha.rd hb.rd
  · obtain ⟨r2, ho, hl⟩ := bop_rule (X := X) op e
    exact ev_bin ho hl ha.rd hb.rd
theorem b1_ev (ok : XOk s k X W) {f : B1} {a : IE} {x : Expr} {p : Pos} (hf : ∀ t, f ≠ .isi t) (hg : glC s.sc f.nm = true) (ns : nostar x = true) (ha : Snd X W own a x) : EV X W own .fresh (.Call (.Name f.nm p) [x] [] pos) (evE (.b1 f a)) := by
  have hu : X.A.units + 65 < cLine := by have := ok.room.units; have := ok.room.un; omega
  cases f with
  | isi t => exact absurd rfl (hf t)
  | len => exact ev_len (blt_ok ok hg (by decide)).1 (blt_ok ok hg (by decide)).2 ns ha.rd
  | int => exact ev_intc (blt_ok ok hg (by decide)).1 (blt_ok ok hg (by decide)).2 ns ha.rd
  | abs => exact ev_abs (blt_ok ok hg (by decide)).1 (blt_ok ok hg (by decide)).2 ns ha.rd
  | list => exact ev_list (blt_ok ok hg (by decide)).1 (blt_ok ok hg (by decide)).2 ns ha.rd
  | tuple => exact ev_tuple (blt_ok ok hg (by decide)).1 (blt_ok ok hg (by decide)).2 ns ha.rd
  | max => exact ev_max hu ok.calm (blt_ok ok hg (by decide)).1 (blt_ok ok hg (by decide)).2 ns ha.rd
  | min => exact ev_min hu ok.calm (blt_ok ok hg (by decide)).1 (blt_ok ok hg (by decide)).2 ns ha.rd
  | sum => exact ev_sum ok.calm (blt_ok ok hg (by decide)).1 (blt_ok ok hg (by decide)).2 ns ha.rd
  | any => exact ev_any ok.calm (blt_ok ok hg (by decide)).1 (blt_ok ok hg (by decide)).2 ns ha.rd
  | all => exact ev_all ok.calm (blt_ok ok hg (by decide)).1 (blt_ok ok hg (by decide)).2 ns ha.rd
  | sorted => exact ev_sorted (blt_ok ok hg (by decide)).1 (blt_ok ok hg (by decide)).2 ns ha.rd
  | repr => exact ev_repr ok.gd hu (blt_ok ok hg (by decide)).1 (blt_ok ok hg (by decide)).2 ns ha.rd
theorem b2_ev (ok : XOk s k X W) {f : B2} {a b : IE} {x y : Expr} {p : Pos} (hg : glC s.sc f.nm = true) (nx : nostar x = true) (ny : nostar y = true) (ha : Snd X W own a x) (hb : Snd X W own b y) : EV X W own .fresh (.Call (.Name f.nm p) [x, y] [] pos) (evE (.b2 f a b)) := by
  cases f with
  | max => exact ev_max2 ok.calm (blt_ok ok hg (by decide)).1 (blt_ok ok hg (by decide)).2 nx ny ha.rd hb.rd
  | min => exact ev_min2 ok.calm (blt_ok ok hg (by decide)).1 (blt_ok ok hg (by decide)).2 nx ny ha.rd hb.rd
theorem call_ev (ok : XOk s k X W) {x : Str} {f : List D → R D} {args : IEs} {es : List Expr} {p : Pos} (hg : glC s.sc x = true) (ns : es.all nostar = true) (hn : es.length = IEs.len args) (hc : CallD X.prog X.w X.K X.mg X.base k x (IEs.len args) f) (ha : SndK X W own args es) :
    EV X W own .keep (.Call (.Name x p) es [] pos) (evE (.call x f args)) := by
  obtain ⟨Fn, hun⟩ := hc
  cases es with
  | nil =>
    have hz : IEs.len args = 0 := hn.symm
    cases args with
    | cons _ _ => simp [IEs.len] at hz
    | nil => exact ev_call0 ok.tk ok.gd ok.room Fn (ok.gl hg).1 (ok.gl hg).2
  | cons e es =>
    simp only [List.all_cons, Bool.and_eq_true] at ns
    rw [← hn] at Fn hun
    refine (ev_call ok.tk ok.gd ok.room Fn (ok.gl hg).1 (ok.gl hg).2 ns.1 (by simpa using ns.2) ha).congr fun st => ?_
    show _ = (seqL (evL args) st).bind fun ds => f ds
    cases seqL (evL args) st with
    | un => rfl
    | ex _ _ _ => rfl
    | ok ds =>
      show (if ds.length = (e :: es).length then f ds else .un) = f ds
      by_cases h : ds.length = (e :: es).length
      · rw [if_pos h]
      · rw [if_neg h, hun _ h]
theorem seqL_len : ∀ (fs : List (SD → R D)) (st : SD) {ds : List D}, seqL fs st = .ok ds → ds.length = fs.length
  | [], _, _, h => by cases h; rfl
  | f :: fs, st, ds, h => by
    simp only [seqL] at h
    cases e1 : f st with
    | un => rw [e1] at h; cases h
    | ex _ _ _ => rw [e1] at h; cases h
    | ok d =>
      rw [e1] at h
      cases e2 : seqL fs st with
      | un => rw [e2] at h; cases h
      | ex _ _ _ => rw [e2] at h; cases h
      | ok es =>
        rw [e2] at h
        cases h
        exact congrArg Nat.succ (seqL_len fs st e2)
theorem evL_len : ∀ as : IEs, (evL as).length = IEs.len as
  | .nil => rfl
  | .cons a as => congrArg Nat.succ (evL_len as)
def SndW (X : Cx) (W : WX) (own : List Nat) (ies : IEs) (kws : List Keyword) : Prop := EVk X W own kws (seqL (evL ies))
theorem callK_ev (ok : XOk s k X W) {x : Str} {ks : List Str} {f : List D → R D} {args kargs : IEs} {es : List Expr} {kws : List Keyword} {p : Pos} (hg : glC s.sc x = true) (ne : (!es.isEmpty) = true) (ns : es.all nostar = true) (hn : es.length = IEs.len args) (hk : kwOk kws ks = true) (hl : IEs.len kargs = ks.length) (hc : FnK X.prog X.w X.K X.mg X.base k x (IEs.len args) ks f) (ha : SndK X W own args es) (hz : SndW X W own kargs kws) :
    EV X W own .keep (.Call (.Name x p) es kws pos) (evE (.callK x ks f args kargs)) := by
  cases es with
  | nil => cases ne
  | cons e es =>
    simp only [List.all_cons, Bool.and_eq_true] at ns
    refine (ev_callK ok.tk ok.gd ok.room hc (ok.gl hg).1 (ok.gl hg).2 ns.1 (by simpa using ns.2) hk ha hz).congr fun st => ?_
    show _ = (seqL (evL args) st).bind fun ds => (seqL (evL kargs) st).bind fun zs => f (ds ++ zs)
    cases e1 : seqL (evL args) st with
    | un => rfl
    | ex _ _ _ => rfl
    | ok ds =>
      cases e2 : seqL (evL kargs) st with
      | un => rfl
      | ex _ _ _ => rfl
      | ok zs =>
        show (if ds.length = IEs.len args ∧ zs.length = ks.length then f (ds ++ zs) else .un) = f (ds ++ zs)
        rw [if_pos ⟨(seqL_len _ _ e1).trans (evL_len _), (seqL_len _ _ e2).trans ((evL_len _).trans hl)⟩]
theorem mk_ev (ok : XOk s k X W) {x : Str} {f : List D → R D} {args : IEs} {es : List Expr} {p : Pos} (hg : glC s.sc x = true) (ns : es.all nostar = true) (hn : es.length = IEs.len args) (hc : MkD X.prog X.w X.K X.mg X.base k x (IEs.len args) f) (ha : SndK X W own args es) :
    EV X W own .keep (.Call (.Name x p) es [] pos) (evE (.mk x f args)) := by
  cases es with
  | nil =>
    have hz : IEs.len args = 0 := hn.symm
    cases args with
    | cons _ _ => simp [IEs.len] at hz
    | nil => exact ev_mk0 ok.tk ok.gd ok.room hc (ok.gl hg).1 (ok.gl hg).2
  | cons e es =>
    simp only [List.all_cons, Bool.and_eq_true] at ns
    rw [← hn] at hc
    exact ev_mk ok.tk ok.gd ok.room hc (ok.gl hg).1 (ok.gl hg).2 ns.1 (by simpa using ns.2) ha
theorem meth_ev (ok : XOk s k X W) {m : Str} {tbl : MTbl} {a : IE} {args : IEs} {o : Expr} {es : List Expr} {ap : Pos} (hb : abase o = true) (hl : es.length < 20) (ns : es.all nostar = true) (hline : (ap.endLine == pos.line) = true) (hn : es.length = IEs.len args) (hc : ∀ q ∈ tbl, MethD X.prog X.w X.K X.mg X.base k q.1 m (IEs.len args + 1) q.2)
    (ho : EV X W own .keep o (evE a)) (ha : SndK X W own args es) : EV X W own .keep (.Call (.Attribute o m ap) es [] pos) (evE (.meth m tbl a args)) := by
  cases es with
  | nil =>
    have hz : IEs.len args = 0 := hn.symm
    cases args with
    | cons _ _ => simp [IEs.len] at hz
    | nil => exact ev_meth0 ok.tk ok.gd ok.room hc hb hline ho
  | cons e es =>
    have hfew := few_args (X := X) (cpos := pos) ns hl
    simp only [List.all_cons, Bool.and_eq_true] at ns
    rw [← hn] at hc
    exact ev_meth ok.tk ok.gd ok.room hc hb hline ns.1 (by simpa using ns.2) hfew ho ha
theorem tg_eg (ok : XOk s k X W) {g : Tg} {e : Expr} (h : tgC s g e = true) : EG X own e g := by
  cases g with
  | nm i =>
    simp only [tgC] at h
    split at h
    · rename_i x hx
      obtain ⟨p, rfl⟩ := asName_eq hx
      simp only [Bool.and_eq_true, decide_eq_true_eq] at h
      obtain ⟨h1, h2⟩ := h
      obtain ⟨l1, l2⟩ := ok.loc h2
      exact eg_name (by rw [ok.N]; exact ok.nd) (by rw [ok.N]; exact h1) l1 l2
    · cases h
  | tup is =>
    simp only [tgC] at h
    split at h
    · rename_i es hx
      obtain ⟨kk, p, rfl⟩ := asTup_eq hx
      have key : ∀ (is : List Nat) (es : List Expr), tgC.tgsC s is es = true → EGs X es is ∧ (assignEach es X.env).length = is.length ∧ (assignEach es X.env).findIdx? (·.1) = none := by
        intro is
        induction is with
        | nil =>
          intro es h
          cases es with
          | nil => exact ⟨egs_nil, rfl, rfl⟩
          | cons _ _ => simp [tgC.tgsC] at h
        | cons i is ih =>
          intro es h
          cases es with
          | nil => simp [tgC.tgsC] at h
          | cons e es =>
            simp only [tgC.tgsC, Bool.and_eq_true] at h
            obtain ⟨h1, h2⟩ := h
            split at h1
            · rename_i x hx
              obtain ⟨p, rfl⟩ := asName_eq hx
              simp only [Bool.and_eq_true, decide_eq_true_eq] at h1
              obtain ⟨h3, h4⟩ := h1
              obtain ⟨l1, l2⟩ := ok.loc h4
              obtain ⟨g1, g2, g3⟩ := ih es h2
              refine ⟨egs_cons (by rw [ok.N]; exact ok.nd) (by rw [ok.N]; exact h3) l1 l2 g1, ?_, ?_⟩
              · simp [assignEach, g2]
              · simp [assignEach, List.findIdx?_cons, g3]
            · cases h1
      obtain ⟨g1, g2, g3⟩ := key is es h
      exact eg_tup ok.calm g2 g3 g1
    · cases h
end
end Dl

/-! DlO: the look at expressions tells the truth, all together. -/
namespace Dl
open PySem PySem.Spec PyProof.Rows L2

theorem isi_ev {X : Cx} {W : WX} {own : List Nat} {s : SC} {k : Nat} (ok : XOk s k X W) {t : Ty} {a : IE} {x : Expr} {p p2 p3 : Pos} (hg : glC s.sc "isinstance" = true) (hg2 : glC s.sc (Str.ofString t.name) = true) (ns : nostar x = true) (ha : Snd X W own a x) : EV X W own .fresh (.Call (.Name "isinstance" p) [x, .Name (Str.ofString t.name) p2] [] p3) (evE (.b1 (.isi t) a)) :=
  ev_isi (blt_ok ok hg (by decide)).1 (blt_ok ok hg (by decide)).2 (ok.gl hg2).1 (ok.bl (by cases t <;> decide)) ns ha.rd
theorem EI.both {X : Cx} {W : WX} {own : List Nat} {tg e : Expr} {f : SD → R (List D)} {kk : Bool} (h : EI X W own tg e f) : (kk = true → EI X W own tg e f) ∧ EIR X W own tg e f := ⟨fun _ => h, h.toR⟩
theorem lenL {s : SC} {own : List Nat} {kk : Bool} : ∀ (ies : IEs) (es : List Expr), chkL s own kk ies es = true → es.length = IEs.len ies
  | .nil, [], _ => rfl
  | .cons _ as, _ :: es, h => by
    simp only [chkL, Bool.and_eq_true] at h
    show es.length + 1 = IEs.len as + 1
    rw [lenL as es h.2]
  | .nil, _ :: _, h => by simp [chkL] at h
  | .cons _ _, [], h => by simp [chkL] at h
mutual
theorem sE (k : Nat) : ∀ (ie : IE) {s : SC} {X : Cx} {W : WX} {own : List Nat}, XOk s k X W → ObE X.prog X.w X.K X.mg X.base k ie → ∀ e : Expr, chkE s own ie e = true → Snd X W own ie e
  | .v i, s, X, W, own, ok, ob, e, h => by
    simp only [chkE] at h
    split at h
    · rename_i x hx
      obtain ⟨p, rfl⟩ := asName_eq hx
      simp only [Bool.and_eq_true, decide_eq_true_eq] at h
      obtain ⟨h1, h2⟩ := h
      obtain ⟨v1, v2, v3⟩ := ok.vis h2
      have hN : X.N[i]? = some x := by rw [ok.N]; exact h1
      by_cases ho : own.contains i = true
      · exact Snd.mk' (ev_varR hN v1 v2 v3) (by simp only [prov, ho, if_true]) rfl
      · exact Snd.mk' (ev_var hN v1 v2 v3 (by simpa using ho)) (by simp only [prov, ho]; rfl) rfl
    · cases h
  | .kI i, s, X, W, own, ok, ob, e, h => by
    simp only [chkE, decide_eq_true_eq] at h
    obtain ⟨j, p, rfl⟩ := asConst_eq h
    exact Snd.mk' ev_int rfl rfl
  | .kB b, s, X, W, own, ok, ob, e, h => by
    simp only [chkE, decide_eq_true_eq] at h
    obtain ⟨j, p, rfl⟩ := asConst_eq h
    exact Snd.mk' ev_bl rfl rfl
  | .kN, s, X, W, own, ok, ob, e, h => by
    simp only [chkE, decide_eq_true_eq] at h
    obtain ⟨j, p, rfl⟩ := asConst_eq h
    exact Snd.mk' ev_non rfl rfl
  | .kS x, s, X, W, own, ok, ob, e, h => by
    simp only [chkE, decide_eq_true_eq] at h
    obtain ⟨j, p, rfl⟩ := asConst_eq h
    exact Snd.mk' ev_str rfl rfl
  | .glob x d, s, X, W, own, ok, ob, e, h => by
    simp only [chkE] at h
    split at h
    · rename_i y hy
      obtain ⟨p, rfl⟩ := asName_eq hy
      simp only [Bool.and_eq_true, decide_eq_true_eq] at h
      obtain ⟨rfl, h2⟩ := h
      obtain ⟨u, v, o1, o2, o3⟩ := ob
      exact Snd.mk' (ev_glob (ok.gl h2).1 o1 o2 o3 (ok.gl h2).2) rfl rfl
    · cases h
  | .bin op a b, s, X, W, own, ok, ob, e, h => by
    simp only [chkE] at h
    split at h
    · rename_i l o r hx
      obtain ⟨p, rfl⟩ := asBin_eq hx
      simp only [Bool.and_eq_true, decide_eq_true_eq] at h
      obtain ⟨⟨rfl, h1⟩, h2⟩ := h
      exact Snd.mk' (bin_ev (sE k a ok ob.1 l h1) (sE k b ok ob.2 r h2)) rfl rfl
    · cases h
  | .bits a, s, X, W, own, ok, ob, e, h => by
    simp only [chkE] at h
    split at h
    · rename_i x m hx
      obtain ⟨ap, cp, rfl, hl⟩ := asMethE_eq hx
      simp only [Bool.and_eq_true, decide_eq_true_eq] at h
      obtain ⟨⟨rfl, h1⟩, h2⟩ := h
      exact Snd.mk' (ev_bits h1 hl (sE k a ok ob x h2).rd) rfl rfl
    · cases h
  | .ixOf a b, s, X, W, own, ok, ob, e, h => by
    simp only [chkE] at h
    split at h
    · rename_i x m y hx
      obtain ⟨ap, cp, rfl, hl⟩ := asMethE_eq hx
      simp only [Bool.and_eq_true, decide_eq_true_eq] at h
      obtain ⟨⟨⟨⟨rfl, h1⟩, h2⟩, h3⟩, h4⟩ := h
      exact Snd.mk' (ev_ixOf h1 hl h2 (few_args (X := X) (cpos := cp) (es := [y]) (by simpa using h2) (by simp)) (sE k a ok ob.1 x h3).rd (sE k b ok ob.2 y h4).rd) rfl rfl
    · cases h
  | .neg a, s, X, W, own, ok, ob, e, h => by
    simp only [chkE] at h
    split at h
    · rename_i o x hx
      obtain ⟨p, rfl⟩ := asUn_eq hx
      simp only [Bool.and_eq_true, decide_eq_true_eq] at h
      obtain ⟨rfl, h1⟩ := h
      exact Snd.mk' (ev_neg (sE k a ok ob x h1).rd) rfl rfl
    · cases h
  | .cmp op a b, s, X, W, own, ok, ob, e, h => by
    simp only [chkE] at h
    split at h
    · rename_i l o r hx
      obtain ⟨p, rfl⟩ := asCmp1_eq hx
      simp only [Bool.and_eq_true, decide_eq_true_eq] at h
      obtain ⟨⟨⟨rfl, h1⟩, h2⟩, h3⟩ := h
      obtain ⟨r2, ho, hl⟩ := cop_rule (X := X) op ok.room
      have ha := sE k a ok ob.1 l h2
      have hb := sE k b ok ob.2 r h3
      exact ⟨ev_cmp ho (mark_in h1) hl ha.rd hb.rd, fun _ => et_cmp ho (mark_in h1) hl ha.rd hb.rd (cmpD_bl op)⟩
    · cases h
  | .chain op op' a b c, s, X, W, own, ok, ob, e, h => by
    simp only [chkE] at h
    split at h
    · rename_i l o o' r q hx
      obtain ⟨p, rfl⟩ := asCmp2_eq hx
      simp only [Bool.and_eq_true, decide_eq_true_eq] at h
      obtain ⟨⟨⟨⟨⟨⟨rfl, rfl⟩, h0⟩, h1⟩, h2⟩, h3⟩, h4⟩ := h
      obtain ⟨r2, ho, hl⟩ := cop_rule (X := X) op ok.room
      obtain ⟨r2', ho', hl'⟩ := cop_rule (X := X) op' ok.room
      have ha := sE k a ok ob.1 l h2
      have hb := sE k b ok ob.2.1 r h3
      have hc := sE k c ok ob.2.2 q h4
      exact ⟨ev_chain ho ho' (marks2 h1) hl hl' ha.rd hb.rd hc.rd (cmpD_bl op), fun _ => et_chain ho ho' (marks2 h1) hl hl' ha.rd hb.rd hc.rd (cmpD_bl op) (cmpD_bl op')⟩
    · cases h
  | .isN a, s, X, W, own, ok, ob, e, h => by
    simp only [chkE] at h
    split at h
    · rename_i l o r hx
      obtain ⟨p, rfl⟩ := asCmp1_eq hx
      simp only [Bool.and_eq_true, decide_eq_true_eq] at h
      obtain ⟨⟨rfl, h1⟩, h2⟩ := h
      obtain ⟨j, p2, rfl⟩ := asConst_eq h1
      have ha := sE k a ok ob l h2
      exact ⟨ev_isN ha.rd, fun _ => et_isN ha.rd⟩
    · cases h
  | .notN a, s, X, W, own, ok, ob, e, h => by
    simp only [chkE] at h
    split at h
    · rename_i l o r hx
      obtain ⟨p, rfl⟩ := asCmp1_eq hx
      simp only [Bool.and_eq_true, decide_eq_true_eq] at h
      obtain ⟨⟨rfl, h1⟩, h2⟩ := h
      obtain ⟨j, p2, rfl⟩ := asConst_eq h1
      have ha := sE k a ok ob l h2
      exact ⟨ev_notN ha.rd, fun _ => et_notN ha.rd⟩
    · cases h
  | .isB b a, s, X, W, own, ok, ob, e, h => by
    simp only [chkE] at h
    split at h
    · rename_i l o r hx
      obtain ⟨p, rfl⟩ := asCmp1_eq hx
      simp only [Bool.and_eq_true, decide_eq_true_eq] at h
      obtain ⟨⟨rfl, h1⟩, h2⟩ := h
      obtain ⟨j, p2, rfl⟩ := asConst_eq h1
      have ha := sE k a ok ob l h2
      exact ⟨ev_isB ha.rd, fun _ => et_isB ha.rd⟩
    · cases h
  | .notB b a, s, X, W, own, ok, ob, e, h => by
    simp only [chkE] at h
    split at h
    · rename_i l o r hx
      obtain ⟨p, rfl⟩ := asCmp1_eq hx
      simp only [Bool.and_eq_true, decide_eq_true_eq] at h
      obtain ⟨⟨rfl, h1⟩, h2⟩ := h
      obtain ⟨j, p2, rfl⟩ := asConst_eq h1
      have ha := sE k a ok ob l h2
      exact ⟨ev_notB ha.rd, fun _ => et_notB ha.rd⟩
    · cases h
  | .and xs, s, X, W, own, ok, ob, e, h => by
    simp only [chkE] at h
    split at h
    · rename_i o es hx
      obtain ⟨p, rfl⟩ := asBool_eq hx
      simp only [Bool.and_eq_true, decide_eq_true_eq, Bool.not_eq_true'] at h
      obtain ⟨⟨rfl, h1⟩, h2⟩ := h
      have hne : es ≠ [] := by intro z; subst z; cases h1
      have hp := sP k xs ok ob es h2
      refine ⟨?_, fun ht => (ew_andL (hp.2.2 ht) hne).et⟩
      show EV X W own (if kpL own xs then .keep else .read) _ _
      by_cases hk : kpL own xs = true
      · rw [if_pos hk]; exact ev_andL (hp.2.1 hk) hne
      · rw [if_neg hk]; exact ev_andL hp.1 hne
    · cases h
  | .or xs, s, X, W, own, ok, ob, e, h => by
    simp only [chkE] at h
    split at h
    · rename_i o es hx
      obtain ⟨p, rfl⟩ := asBool_eq hx
      simp only [Bool.and_eq_true, decide_eq_true_eq, Bool.not_eq_true'] at h
      obtain ⟨⟨rfl, h1⟩, h2⟩ := h
      have hne : es ≠ [] := by intro z; subst z; cases h1
      have hp := sP k xs ok ob es h2
      refine ⟨?_, fun ht => (ew_orL (hp.2.2 ht) hne).et⟩
      show EV X W own (if kpL own xs then .keep else .read) _ _
      by_cases hk : kpL own xs = true
      · rw [if_pos hk]; exact ev_orL (hp.2.1 hk) hne
      · rw [if_neg hk]; exact ev_orL hp.1 hne
    · cases h
  | .not a, s, X, W, own, ok, ob, e, h => by
    simp only [chkE] at h
    split at h
    · rename_i o x hx
      obtain ⟨p, rfl⟩ := asUn_eq hx
      simp only [Bool.and_eq_true, decide_eq_true_eq] at h
      obtain ⟨rfl, h1⟩ := h
      have ha := sE k a ok ob x h1
      exact ⟨ev_not ha.rd, fun ht => (et_not (ha.2 ht)).congr fun st => not_tR _⟩
    · cases h
  | .ite c a b, s, X, W, own, ok, ob, e, h => by
    simp only [chkE] at h
    split at h
    · rename_i ec ea eb hx
      obtain ⟨p, rfl⟩ := asIf_eq hx
      simp only [Bool.and_eq_true, decide_eq_true_eq] at h
      obtain ⟨⟨⟨h0, h1⟩, h2⟩, h3⟩ := h
      have hc := sE k c ok ob.1 ec h1
      have ha := sE k a ok ob.2.1 ea h2
      have hb := sE k b ok ob.2.2 eb h3
      refine ⟨?_, fun ht => by cases ht⟩
      show EV X W own (if (prov own a).ge .keep && (prov own b).ge .keep then .keep else .read) _ _
      by_cases hk : ((prov own a).ge .keep && (prov own b).ge .keep) = true
      · rw [if_pos hk]
        simp only [Bool.and_eq_true] at hk
        exact ev_ite (hc.2 h0) (ha.1.coe hk.1) (hb.1.coe hk.2)
      · rw [if_neg hk]
        exact ev_ite (hc.2 h0) ha.rd hb.rd
    · cases h
  | .tup xs, s, X, W, own, ok, ob, e, h => by
    simp only [chkE] at h
    split at h
    · rename_i es hx
      obtain ⟨kk, p, rfl⟩ := asTup_eq hx
      exact Snd.mk' (ev_tup (sL k xs ok ob es h)) rfl rfl
    · cases h
  | .lst xs, s, X, W, own, ok, ob, e, h => by
    simp only [chkE] at h
    split at h
    · rename_i es hx
      obtain ⟨p, rfl⟩ := asLst_eq hx
      exact Snd.mk' (ev_lst (sL k xs ok ob es h)) rfl rfl
    · cases h
  | .idx a b, s, X, W, own, ok, ob, e, h => by
    simp only [chkE] at h
    split at h
    · rename_i x y hx
      obtain ⟨p, rfl⟩ := asSub_eq hx
      simp only [Bool.and_eq_true] at h
      obtain ⟨⟨h0, h1⟩, h2⟩ := h
      exact Snd.mk' (ev_idx (by have := ok.room.units; have := ok.room.un; omega) h0 (sE k a ok ob.1 x h1).rd (sE k b ok ob.2 y h2).rd) rfl rfl
    · cases h
  | .slice a lo hi, s, X, W, own, ok, ob, e, h => by
    simp only [chkE] at h
    split at h
    · rename_i x y hx
      obtain ⟨p, rfl⟩ := asSub_eq hx
      split at h
      · rename_i l hh hy
        obtain ⟨p2, rfl⟩ := asSlice_eq hy
        simp only [Bool.and_eq_true] at h
        obtain ⟨⟨h0, h1⟩, h2⟩ := h
        exact Snd.mk' (ev_slice (sE k a ok ob.1 x h0).rd (sO k lo ok ob.2.1 l h1) (sO k hi ok ob.2.2 hh h2)) rfl rfl
      · cases h
    · cases h
  | .b1 f a, s, X, W, own, ok, ob, e, h => by
    simp only [chkE] at h
    split at h
    · rename_i g as hx
      obtain ⟨p, rfl⟩ := asCall_eq hx
      split at h
      · rename_i y hy
        obtain ⟨p2, rfl⟩ := asName_eq hy
        simp only [Bool.and_eq_true, decide_eq_true_eq] at h
        obtain ⟨⟨rfl, h1⟩, h2⟩ := h
        cases as with
        | nil => cases f <;> exact Bool.noConfusion (show false = true from h2)
        | cons x as =>
          cases as with
          | nil =>
            by_cases hi : ∃ t, f = .isi t
            · obtain ⟨t, rfl⟩ := hi
              exact Bool.noConfusion (show false = true from h2)
            · have h3 : (nostar x && chkE s own a x) = true := by
                cases f with
                | isi t => exact absurd ⟨t, rfl⟩ hi
                | _ => exact h2
              simp only [Bool.and_eq_true] at h3
              exact Snd.mk' (b1_ev ok (fun t z => hi ⟨t, z⟩) h1 h3.1 (sE k a ok ob x h3.2)) rfl rfl
          | cons c as =>
            cases as with
            | cons _ _ => cases f <;> exact Bool.noConfusion (show false = true from h2)
            | nil =>
              by_cases hi : ∃ t, f = .isi t
              · obtain ⟨t, rfl⟩ := hi
                have h3 : (match asName c with
                  | some z => decide (z = Str.ofString t.name) && glC s.sc z && nostar x && chkE s own a x
                  | none => false) = true := h2
                split at h3
                · rename_i z hz
                  obtain ⟨p3, rfl⟩ := asName_eq hz
                  simp only [Bool.and_eq_true, decide_eq_true_eq] at h3
                  obtain ⟨⟨⟨rfl, h3⟩, h4⟩, h5⟩ := h3
                  exact Snd.mk' (isi_ev ok h1 h3 h4 (sE k a ok ob x h5)) rfl rfl
                · cases h3
              · exfalso
                cases f with
                | isi t => exact hi ⟨t, rfl⟩
                | _ => exact Bool.noConfusion (show false = true from h2)
      · cases h
    · cases h
  | .b2 f a b, s, X, W, own, ok, ob, e, h => by
    simp only [chkE] at h
    split at h
    · rename_i g x y hx
      obtain ⟨p, rfl⟩ := asCall_eq hx
      split at h
      · rename_i z hz
        obtain ⟨p2, rfl⟩ := asName_eq hz
        simp only [Bool.and_eq_true, decide_eq_true_eq] at h
        obtain ⟨⟨⟨⟨⟨rfl, h1⟩, h2⟩, h3⟩, h4⟩, h5⟩ := h
        exact Snd.mk' (b2_ev ok h1 h2 h3 (sE k a ok ob.1 x h4) (sE k b ok ob.2 y h5)) rfl rfl
      · cases h
    · cases h
  | .listRg a, s, X, W, own, ok, ob, e, h => by
    simp only [chkE] at h
    split at h
    · rename_i g r hx
      obtain ⟨p, rfl⟩ := asCall_eq hx
      split at h
      · rename_i y h' x hy hr
        obtain ⟨p2, rfl⟩ := asName_eq hy
        obtain ⟨p3, rfl⟩ := asCall_eq hr
        split at h
        · rename_i z hz
          obtain ⟨p4, rfl⟩ := asName_eq hz
          simp only [Bool.and_eq_true, decide_eq_true_eq] at h
          obtain ⟨⟨⟨⟨⟨rfl, h1⟩, rfl⟩, h2⟩, h3⟩, h4⟩ := h
          exact Snd.mk' (ev_listRg1 ok.calm (blt_ok ok h1 (by decide)).1 (blt_ok ok h1 (by decide)).2 (blt_ok ok h2 (by decide)).1 (blt_ok ok h2 (by decide)).2 h3 (sE k a ok ob x h4).rd) rfl rfl
        · cases h
      · cases h
    · cases h
  | .call x f args, s, X, W, own, ok, ob, e, h => by
    simp only [chkE] at h
    split at h
    · rename_i g es hx
      obtain ⟨p, rfl⟩ := asCall_eq hx
      split at h
      · rename_i y hy
        obtain ⟨p2, rfl⟩ := asName_eq hy
        simp only [Bool.and_eq_true, decide_eq_true_eq] at h
        obtain ⟨⟨⟨rfl, h1⟩, h2⟩, h3⟩ := h
        exact Snd.mk' (call_ev ok h1 h2 (lenL args es h3) ob.1 (sL k args ok ob.2 es h3)) rfl rfl
      · cases h
    · cases h
  | .dnil, s, X, W, own, ok, ob, e, h => by
    simp only [chkE] at h
    obtain ⟨p, rfl⟩ := isDnil_eq h
    exact Snd.mk' ev_dnew rfl rfl
  | .lend i a, s, X, W, own, ok, ob, e, h => by
    simp only [chkE, Bool.and_eq_true, decide_eq_true_eq] at h
    exact Snd.mk' (ev_lend h.1.1.1 ((sE k a ok ob e h.2).kp h.1.2)) rfl h.1.1.2
  | .callK x ks f args kargs, s, X, W, own, ok, ob, e, h => by
    simp only [chkE] at h
    split at h
    · rename_i g es kws hx
      obtain ⟨p, rfl⟩ := asCallK_eq hx
      split at h
      · rename_i y hy
        obtain ⟨p2, rfl⟩ := asName_eq hy
        simp only [Bool.and_eq_true, decide_eq_true_eq] at h
        obtain ⟨⟨⟨⟨⟨⟨⟨rfl, h1⟩, h0⟩, h2⟩, h3⟩, h4⟩, h5⟩, h6⟩ := h
        exact Snd.mk' (callK_ev ok h1 h0 h2 (lenL args es h5) h3 h4 ob.1 (sL k args ok ob.2.1 es h5) (sW k kargs ok ob.2.2 kws h6)) rfl rfl
      · cases h
    · cases h
  | .fld c f a, s, X, W, own, ok, ob, e, h => by
    simp only [chkE] at h
    split at h
    · rename_i x g hx
      obtain ⟨p, rfl⟩ := asAttr_eq hx
      simp only [Bool.and_eq_true, decide_eq_true_eq] at h
      obtain ⟨⟨rfl, h1⟩, h2⟩ := h
      exact Snd.mk' (ev_fld h1 ob.1 (sE k a ok ob.2 x h2).rd) rfl rfl
    · cases h
  | .mk x f args, s, X, W, own, ok, ob, e, h => by
    simp only [chkE] at h
    split at h
    · rename_i g es hx
      obtain ⟨p, rfl⟩ := asCall_eq hx
      split at h
      · rename_i y hy
        obtain ⟨p2, rfl⟩ := asName_eq hy
        simp only [Bool.and_eq_true, decide_eq_true_eq] at h
        obtain ⟨⟨⟨rfl, h1⟩, h2⟩, h3⟩ := h
        exact Snd.mk' (mk_ev ok h1 h2 (lenL args es h3) ob.1 (sL k args ok ob.2 es h3)) rfl rfl
      · cases h
    · cases h
  | .meth m tbl a args, s, X, W, own, ok, ob, e, h => by
    simp only [chkE] at h
    split at h
    · rename_i o m' es hx
      obtain ⟨ap, cp, rfl, hl⟩ := asMethE_eq hx
      simp only [Bool.and_eq_true, decide_eq_true_eq] at h
      obtain ⟨⟨⟨⟨⟨⟨rfl, h1⟩, h2⟩, h3⟩, h4⟩, h5⟩, h6⟩ := h
      exact Snd.mk' (meth_ev ok h1 h2 h3 hl (lenL args es h6) ob.1 ((sE k a ok ob.2.1 o h4).kp h5) (sL k args ok ob.2.2 es h6)) rfl rfl
    · cases h
  | .dcomp names g src cond kx vx, s, X, W, own, ok, ob, e, h => by
    simp only [chkE] at h
    split at h
    · rename_i ek ev tg iter ifs scope hx
      obtain ⟨p, rfl⟩ := asDComp_eq hx
      simp only [Bool.and_eq_true, decide_eq_true_eq] at h
      obtain ⟨⟨⟨⟨⟨⟨⟨⟨⟨h0, h1⟩, h2⟩, h3⟩, h4⟩, h5⟩, h6⟩, h7⟩, h8⟩, h9⟩ := h
      have hb := blkOk_by h0
      rw [← ok.N, ← ok.sc] at hb
      refine Snd.mk' (ev_dcomp ok.calm (by rw [ok.N]; exact ok.nd) hb (folded_ok h2) (sI k src ok ob.1 false tg iter h4).2 h1 (fun sh H C cl fp => tg_eg (ok.blk scope sh H C cl fp) h3) (fun sh H C cl fp => ?_) (fun sh H C cl fp => (sE k kx (ok.blk scope sh H C cl fp) ob.2.2.1 ek h6).kp h7) (fun sh H C cl fp => (sE k vx (ok.blk scope sh H C cl fp) ob.2.2.2 ev h8).kp h9)) rfl rfl
      cases cond with
      | none =>
        cases ifs with
        | nil => exact ets_nil
        | cons _ _ => simp at h5
      | some c =>
        cases ifs with
        | nil => simp at h5
        | cons ec t =>
          cases t with
          | cons _ _ => simp at h5
          | nil =>
            simp only [Bool.and_eq_true] at h5
            exact ets_one ((sE k c (ok.blk scope sh H C cl fp) ob.2.1 ec h5.2).2 h5.1)
    · cases h
  | .comp names g src cond elt, s, X, W, own, ok, ob, e, h => by
    simp only [chkE] at h
    split at h
    · rename_i ee tg iter ifs scope hx
      obtain ⟨p, rfl⟩ := asComp_eq hx
      simp only [Bool.and_eq_true, decide_eq_true_eq] at h
      obtain ⟨⟨⟨⟨⟨⟨⟨h0, h1⟩, h2⟩, h3⟩, h4⟩, h5⟩, h6⟩, h7⟩ := h
      have hb := blkOk_by h0
      rw [← ok.N, ← ok.sc] at hb
      refine Snd.mk' (ev_comp ok.calm (by rw [ok.N]; exact ok.nd) hb (folded_ok h2) (sI k src ok ob.1 false tg iter h4).2 h1 (fun sh H C cl fp => tg_eg (ok.blk scope sh H C cl fp) h3) (fun sh H C cl fp => ?_) (fun sh H C cl fp => (sE k elt (ok.blk scope sh H C cl fp) ob.2.2 ee h6).kp h7)) rfl rfl
      cases cond with
      | none =>
        cases ifs with
        | nil => exact ets_nil
        | cons _ _ => simp at h5
      | some c =>
        cases ifs with
        | nil => simp at h5
        | cons ec t =>
          cases t with
          | cons _ _ => simp at h5
          | nil =>
            simp only [Bool.and_eq_true] at h5
            exact ets_one ((sE k c (ok.blk scope sh H C cl fp) ob.2.1 ec h5.2).2 h5.1)
    · cases h
theorem sP (k : Nat) : ∀ (ies : IEs) {s : SC} {X : Cx} {W : WX} {own : List Nat}, XOk s k X W → ObL X.prog X.w X.K X.mg X.base k ies → ∀ es : List Expr, chkL s own false ies es = true → SndP X W own ies es
  | .nil, s, X, W, own, ok, ob, es, h => by
    cases es with
    | nil => exact ⟨.nil, fun _ => .nil, fun _ => .nil⟩
    | cons _ _ => simp [chkL] at h
  | .cons a as, s, X, W, own, ok, ob, es, h => by
    cases es with
    | nil => simp [chkL] at h
    | cons e es =>
      simp only [chkL, Bool.and_eq_true] at h
      obtain ⟨⟨⟨h0, h1⟩, h2⟩, h3⟩ := h
      have ha := sE k a ok ob.1 e h1
      have hr := sP k as ok ob.2 es h3
      refine ⟨.cons ha.rd hr.1, fun hk => ?_, fun ht => ?_⟩
      · simp only [kpL, Bool.and_eq_true] at hk
        exact .cons (ha.1.coe hk.1) (hr.2.1 hk.2)
      · simp only [tstL, Bool.and_eq_true] at ht
        exact .cons (ha.2 ht.1) (hr.2.2 ht.2)
theorem sL (k : Nat) : ∀ (ies : IEs) {s : SC} {X : Cx} {W : WX} {own : List Nat}, XOk s k X W → ObL X.prog X.w X.K X.mg X.base k ies → ∀ es : List Expr, chkL s own true ies es = true → SndK X W own ies es
  | .nil, s, X, W, own, ok, ob, es, h => by
    cases es with
    | nil => exact evs_nil
    | cons _ _ => simp [chkL] at h
  | .cons a as, s, X, W, own, ok, ob, es, h => by
    cases es with
    | nil => simp [chkL] at h
    | cons e es =>
      simp only [chkL, Bool.and_eq_true, Bool.not_true, Bool.false_or] at h
      obtain ⟨⟨⟨h0, h1⟩, h2⟩, h3⟩ := h
      exact evs_cons h0 ((sE k a ok ob.1 e h1).kp h2) (sL k as ok ob.2 es h3)
theorem sW (k : Nat) : ∀ (ies : IEs) {s : SC} {X : Cx} {W : WX} {own : List Nat}, XOk s k X W → ObL X.prog X.w X.K X.mg X.base k ies → ∀ kws : List Keyword, chkK s own ies kws = true → SndW X W own ies kws
  | .nil, s, X, W, own, ok, ob, kws, h => by
    cases kws with
    | nil => exact evk_nil
    | cons _ _ => simp [chkK] at h
  | .cons a as, s, X, W, own, ok, ob, kws, h => by
    cases kws with
    | nil => simp [chkK] at h
    | cons kw kws =>
      obtain ⟨nm, e, kpos⟩ := kw
      simp only [chkK, Bool.and_eq_true] at h
      exact evk_cons ((sE k a ok ob.1 e h.1.1).kp h.1.2) (sW k as ok ob.2 kws h.2)
theorem sO (k : Nat) : ∀ (io : IO) {s : SC} {X : Cx} {W : WX} {own : List Nat}, XOk s k X W → ObO X.prog X.w X.K X.mg X.base k io → ∀ e : Option Expr, chkO s own io e = true → EO X W own e (evP io)
  | .none, s, X, W, own, ok, ob, e, h => by
    cases e with
    | none => exact eo_none
    | some _ => simp [chkO] at h
  | .some a, s, X, W, own, ok, ob, e, h => by
    cases e with
    | none => simp [chkO] at h
    | some e =>
      simp only [chkO] at h
      have := eo_some (sE k a ok ob e h).rd
      have e0 : evP (.some a) = (fun st => (evE a st).bind fun d => match d with
        | .int i => .ok (some i)
        | _ => .un) := by
        funext st
        show partR (evE a st) = _
        cases evE a st with
        | un => rfl
        | ex _ _ _ => rfl
        | ok d => cases d <;> rfl
      rw [e0]; exact this
theorem sI (k : Nat) : ∀ (is : ISrc) {s : SC} {X : Cx} {W : WX} {own : List Nat}, XOk s k X W → ObI X.prog X.w X.K X.mg X.base k is → ∀ (kk : Bool) (tg e : Expr), chkI s own kk is tg e = true → (kk = true → EI X W own tg e (evI is)) ∧ EIR X W own tg e (evI is)
  | .any a, s, X, W, own, ok, ob, kk, tg, e, h => by
    simp only [chkI, Bool.and_eq_true] at h
    have ha := sE k a ok ob e h.1
    refine ⟨fun hk => ?_, ei_anyR ha.rd⟩
    subst hk
    exact ei_any (ha.kp (by simpa using h.2))
  | .rng1 a, s, X, W, own, ok, ob, kk, tg, e, h => by
    simp only [chkI] at h
    split at h
    · rename_i g x hx
      obtain ⟨p, rfl⟩ := asCall_eq hx
      split at h
      · rename_i y hy
        obtain ⟨p2, rfl⟩ := asName_eq hy
        simp only [Bool.and_eq_true, decide_eq_true_eq] at h
        obtain ⟨⟨⟨rfl, h1⟩, h2⟩, h3⟩ := h
        exact EI.both (ei_range1 (blt_ok ok h1 (by decide)).1 (blt_ok ok h1 (by decide)).2 h2 (sE k a ok ob x h3).rd)
      · cases h
    · cases h
  | .rng2 a b, s, X, W, own, ok, ob, kk, tg, e, h => by
    simp only [chkI] at h
    split at h
    · rename_i g x z hx
      obtain ⟨p, rfl⟩ := asCall_eq hx
      split at h
      · rename_i y hy
        obtain ⟨p2, rfl⟩ := asName_eq hy
        simp only [Bool.and_eq_true, decide_eq_true_eq] at h
        obtain ⟨⟨⟨⟨⟨rfl, h1⟩, h2⟩, h3⟩, h4⟩, h5⟩ := h
        exact EI.both (ei_range2 (blt_ok ok h1 (by decide)).1 (blt_ok ok h1 (by decide)).2 h2 h3 (sE k a ok ob.1 x h4).rd (sE k b ok ob.2 z h5).rd)
      · cases h
    · cases h
  | .enum a, s, X, W, own, ok, ob, kk, tg, e, h => by
    simp only [chkI] at h
    split at h
    · rename_i g x hx
      obtain ⟨p, rfl⟩ := asCall_eq hx
      split at h
      · rename_i y hy
        obtain ⟨p2, rfl⟩ := asName_eq hy
        simp only [Bool.and_eq_true, decide_eq_true_eq] at h
        obtain ⟨⟨⟨⟨⟨rfl, h1⟩, h2⟩, h3⟩, h4⟩, h5⟩ := h
        obtain ⟨ts, ht⟩ := Option.isSome_iff_exists.mp h3
        obtain ⟨kk, p3, rfl⟩ := asTup_eq ht
        exact EI.both (ei_enumA (blt_ok ok h1 (by decide)).1 (blt_ok ok h1 (by decide)).2 h2 ((sE k a ok ob x h4).kp h5))
      · cases h
    · cases h
  | .zip a b, s, X, W, own, ok, ob, kk, tg, e, h => by
    simp only [chkI] at h
    split at h
    · rename_i g x z hx
      obtain ⟨p, rfl⟩ := asCall_eq hx
      split at h
      · rename_i y hy
        obtain ⟨p2, rfl⟩ := asName_eq hy
        simp only [Bool.and_eq_true, decide_eq_true_eq] at h
        obtain ⟨⟨⟨⟨⟨⟨⟨⟨rfl, h1⟩, h2⟩, h3⟩, h4⟩, h5⟩, h6⟩, h7⟩, h8⟩ := h
        obtain ⟨ts, ht⟩ := Option.isSome_iff_exists.mp h4
        obtain ⟨kk, p3, rfl⟩ := asTup_eq ht
        exact EI.both (ei_zip (blt_ok ok h1 (by decide)).1 (blt_ok ok h1 (by decide)).2 h2 h3 ((sE k a ok ob.1 x h5).kp h7) ((sE k b ok ob.2 z h6).kp h8))
      · cases h
    · cases h
  | .rev a, s, X, W, own, ok, ob, kk, tg, e, h => by
    simp only [chkI] at h
    split at h
    · rename_i g x hx
      obtain ⟨p, rfl⟩ := asCall_eq hx
      split at h
      · rename_i y hy
        obtain ⟨p2, rfl⟩ := asName_eq hy
        simp only [Bool.and_eq_true, decide_eq_true_eq] at h
        obtain ⟨⟨⟨⟨rfl, h1⟩, h2⟩, h4⟩, h5⟩ := h
        exact EI.both (ei_rev (blt_ok ok h1 (by decide)).1 (blt_ok ok h1 (by decide)).2 h2 ((sE k a ok ob x h4).kp h5))
      · cases h
    · cases h
end
end Dl

/-! DlP: methods of own lists, with and without a target. -/
namespace Dl
open PySem PySem.Spec PyProof.Rows L2

inductive Me where
  | append | insert | pop | popAt | reverse | clear | extend
  deriving DecidableEq
/-- what becomes of the list, and what is answered -/
def meD : Me → List D → List D → Option (List D × D)
  | .append, ds, [d] => if ds.length < 16777216 then some (ds ++ [d], .non) else none
  | .insert, ds, [.int i, d] => if ds.length < 16777216 ∧ 0 ≤ i ∧ i < 2 ^ 63 then some (ds.take i.toNat ++ [d] ++ ds.drop i.toNat, .non) else none
  | .pop, ds, [] => match ds[ds.length - 1]? with
    | some d => some (ds.dropLast, d)
    | none => none
  | .popAt, ds, [.int i] => if -(2 ^ 63) ≤ i ∧ i < 2 ^ 63 then (match seqIndex? i ds.length with
    | some k => (match ds[k]? with
      | some d => some (ds.eraseIdx k, d)
      | none => none)
    | none => none) else none
  | .reverse, ds, [] => some (ds.reverse, .non)
  | .clear, _, [] => some ([], .non)
  | .extend, ds, [.lst es] => if ds.length + es.length ≤ 16777216 then some (ds ++ es, .non) else none
  | _, _, _ => none
def Me.nm : Me → Str
  | .append => "append"
  | .insert => "insert"
  | .pop => "pop"
  | .popAt => "pop"
  | .reverse => "reverse"
  | .clear => "clear"
  | .extend => "extend"
def Me.id : Me → String
  | .append => "list.append"
  | .insert => "list.insert"
  | .pop => "list.pop"
  | .popAt => "list.pop"
  | .reverse => "list.reverse"
  | .clear => "list.clear"
  | .extend => "list.extend"
section
variable {X : Cx} {W : WX} {own : List Nat} {w : Ow} {H0 F0 F H : Hp} {σ : L2.St} {st : SD} {pos : Pos}
/-- a list at the end of another, whatever the other's object is beside its rows -/
theorem ext_meets (l : Addr) (xs : Array Value) (n : Nat) (b : Addr) (ys : Array Value) (m : Nat) (sl : Array (Option Value)) (h1 : ¬(!xs.isEmpty && Builtin.List.listTooLong (xs.size + ys.size)) = true) (h2 : xs.size ≤ sizeLine) (h3 : xs.size + ys.size ≤ sizeLine + 1) :
    Meets (Builtin.«list.extend» ⟨[.ref l, .ref b], []⟩) (fun _ R s => s.heap.get? l = some { cls := .type "list", dict := none, data := .seq xs n, slots := #[] } ∧ s.heap.get? b = some { cls := .type "list", dict := none, data := .seq ys m, slots := sl } ∧ R (.ok (.ret Value.none)) { s with heap := s.heap.update l (Obj.mapSeq fun x => x ++ ys), toks := s.toks }) :=
  .of_wp fun prog w A R s h => by
    obtain ⟨hp, g, d, tk, os⟩ := s
    obtain ⟨hl, hb, h⟩ := h
    have hz' : (xs ++ ys).size ≤ sizeLine + 1 := by rw [Array.size_append]; exact h3
    wp_walk using (wpAny_updateSeq hl rfl (hz := h2) (_hz' := hz')), wpAny_loadPart' hl, wpAny_loadPart' hb
    exact ⟨_, rfl, h⟩
theorem same_seqL {K : PySem.W.Frag} {H H' : Hp} {a : Addr} {xs : List V} (e : Same H H') (h : SqL K H a xs) : SqL K H' a xs := by
  rcases h with h | h
  · refine .inl ?_
    rcases h with h | ⟨o, h⟩
    · exact .inl (e _ _ h)
    · exact .inr ⟨o, e _ _ h⟩
  · exact .inr h
def rExtendS (K : PySem.W.Frag) : V → List V → Hp → VK → Prop := fun x vs H Q => ∃ l b xs zs, x = .ref l ∧ vs = [.ref b] ∧ H l = some (.lst xs) ∧ SqL K H b zs ∧ xs.length + zs.length ≤ sizeLine ∧ Q .non (L2.upd H l (.lst (xs ++ zs)))
theorem mt_extendS : MtR X "list.extend" (rExtendS X.K) := by
  intro pins s σ H x vs v us Q I rx rv h
  obtain ⟨l, b, xs, zs, rfl, rfl, hH, hB, hz, q⟩ := h
  cases rx
  obtain ⟨u, rfl, ru⟩ := rv.one
  cases ru
  obtain ⟨z, its, n, r, hl, e⟩ := I.lstM hH
  obtain ⟨its2, r2, ⟨o2, n2, e2, hc, hd, hda⟩, z2⟩ := I.list hB
  obtain ⟨oc, od, oda, osl⟩ := o2
  dsimp only at hc hd hda
  subst hc; subst hd; subst hda
  have hl2 := r2.length
  have hsz : its.toArray.size + its2.toArray.size ≤ sizeLine := by rw [List.size_toArray, List.size_toArray]; omega
  have hlong : ¬ (!its.toArray.isEmpty && Builtin.List.listTooLong (its.toArray.size + its2.toArray.size)) = true := by
    rw [notLongL hsz, Bool.and_false]
    exact Bool.false_ne_true
  refine call_meets F.slot_list_extend ⟨_, e, rfl⟩ F.entry_list_extend (F.args_list_extend_2 _ _)
    (ext_meets l its.toArray n b its2.toArray n2 osl hlong (by rw [List.size_toArray]; omega) (by omega)) ⟨e, e2, ?_⟩
  refine ⟨.non, _, I.lset (its' := its ++ its2) hH e (by simp) (r.append r2) ?_, rfl, q⟩
  rw [List.length_append]
  omega
theorem me_slot (m : Me) : Slot "list" m.nm m.id := by
  cases m with
  | append => exact F.slot_list_append
  | insert => exact F.slot_list_insert
  | pop => exact F.slot_list_pop
  | popAt => exact F.slot_list_pop
  | reverse => exact F.slot_list_reverse
  | clear => exact F.slot_list_clear
  | extend => exact F.slot_list_extend
theorem me_type (m : Me) : typeOf (.builtin m.id) = pure (.type "method_descriptor") := by cases m <;> rfl
/-- what the machine says of each, and that it bears it out -/
theorem me_rule (m : Me) : ∃ r : V → List V → Hp → VK → Prop, MtR X m.id r ∧ ∀ (F H : Hp) (p : Addr) (xs : List V) (ds : List D) (vs : List V) (as : List D) (ds' : List D) (d : D), Same F H → H p = some (.lst xs) → Reps X.w X.K X.mg F xs ds → Reps X.w X.K X.mg F vs as → meD m ds as = some (ds', d) →
    ∃ xs' u, Reps X.w X.K X.mg F xs' ds' ∧ Rep X.w X.K X.mg F u d ∧ ∀ Q : VK, Q u (L2.upd H p (.lst xs')) → r (.ref p) vs H Q := by
  cases m with
  | append =>
    refine ⟨_, mt_append, fun F H p xs ds vs as ds' d s h r ra e => ?_⟩
    cases ra with
    | nil => cases e
    | cons r1 t =>
      cases t with
      | cons _ _ => cases e
      | nil =>
        rename_i v d0
        have e' : (if ds.length < 16777216 then some (ds ++ [d0], D.non) else none) = some (ds', d) := e
        by_cases hz : ds.length < 16777216
        · rw [if_pos hz] at e'
          cases e'
          exact ⟨xs ++ [v], .non, r.append (.cons r1 .nil), .non, fun Q hQ => ⟨p, xs, v, rfl, rfl, h, by rw [sizeLine_eq, r.length]; exact hz, hQ⟩⟩
        · rw [if_neg hz] at e'; cases e'
  | insert =>
    refine ⟨_, mt_insert, fun F H p xs ds vs as ds' d s h r ra e => ?_⟩
    cases ra with
    | nil => cases e
    | cons r1 t =>
      cases t with
      | nil => rename_i d0; cases d0 <;> cases e
      | cons r2 t =>
        cases t with
        | cons _ _ => rename_i d0 _ _ _ _ _ _ _ _; cases d0 <;> cases e
        | nil =>
          rename_i v0 d0 v1 d1
          cases d0 with
          | int i =>
            cases r1
            have e' : (if ds.length < 16777216 ∧ 0 ≤ i ∧ i < 2 ^ 63 then some (ds.take i.toNat ++ [d1] ++ ds.drop i.toNat, D.non) else none) = some (ds', d) := e
            by_cases hz : ds.length < 16777216 ∧ 0 ≤ i ∧ i < 2 ^ 63
            · rw [if_pos hz] at e'
              cases e'
              exact ⟨_, .non, ((r.take i.toNat).append (.cons r2 .nil)).append (r.drop i.toNat), .non, fun Q hQ => ⟨p, xs, i, v1, rfl, rfl, h, by rw [sizeLine_eq, r.length]; exact hz.1, hz.2.1, hz.2.2, hQ⟩⟩
            · rw [if_neg hz] at e'; cases e'
          | _ => cases e
  | pop =>
    refine ⟨_, mt_pop, fun F H p xs ds vs as ds' d s h r ra e => ?_⟩
    cases ra with
    | cons _ _ => cases e
    | nil =>
      have e' : (match ds[ds.length - 1]? with
        | some d => some (ds.dropLast, d)
        | none => none) = some (ds', d) := e
      cases eg : ds[ds.length - 1]? with
      | none => rw [eg] at e'; cases e'
      | some y =>
        rw [eg] at e'
        cases e'
        obtain ⟨u, h1, h2⟩ := r.get eg
        refine ⟨xs.dropLast, u, ?_, h2, fun Q hQ => ⟨p, xs, u, rfl, rfl, h, by rw [r.length]; exact h1, hQ⟩⟩
        rw [List.dropLast_eq_take, List.dropLast_eq_take, r.length]
        exact r.take _
  | popAt =>
    refine ⟨_, mt_popAt, fun F H p xs ds vs as ds' d s h r ra e => ?_⟩
    cases ra with
    | nil => cases e
    | cons r1 t =>
      cases t with
      | cons _ _ => rename_i d0 _ _ _ _ _ _; cases d0 <;> cases e
      | nil =>
        rename_i v0 d0
        cases d0 with
        | int i =>
          cases r1
          have e' : (if -(2 ^ 63) ≤ i ∧ i < 2 ^ 63 then (match seqIndex? i ds.length with
            | some k => (match ds[k]? with
              | some d => some (ds.eraseIdx k, d)
              | none => none)
            | none => none) else none) = some (ds', d) := e
          by_cases hz : -(2 ^ 63) ≤ i ∧ i < 2 ^ 63
          · rw [if_pos hz] at e'
            cases ek : seqIndex? i ds.length with
            | none => rw [ek] at e'; cases e'
            | some k =>
              rw [ek] at e'
              dsimp only at e'
              cases eg : ds[k]? with
              | none => rw [eg] at e'; cases e'
              | some y =>
                rw [eg] at e'
                cases e'
                obtain ⟨u, h1, h2⟩ := r.get eg
                exact ⟨xs.eraseIdx k, u, r.eraseIdx k, h2, fun Q hQ => ⟨p, xs, i, k, u, rfl, rfl, h, hz.1, hz.2, by rw [r.length]; exact ek, h1, hQ⟩⟩
          · rw [if_neg hz] at e'; cases e'
        | _ => cases e
  | reverse =>
    refine ⟨_, mt_reverse, fun F H p xs ds vs as ds' d s h r ra e => ?_⟩
    cases ra with
    | cons _ _ => cases e
    | nil => cases e; exact ⟨xs.reverse, .non, r.reverse, .non, fun Q hQ => ⟨p, xs, rfl, rfl, h, hQ⟩⟩
  | clear =>
    refine ⟨_, mt_clear, fun F H p xs ds vs as ds' d s h r ra e => ?_⟩
    cases ra with
    | cons _ _ => cases e
    | nil => cases e; exact ⟨[], .non, .nil, .non, fun Q hQ => ⟨p, xs, rfl, rfl, h, hQ⟩⟩
  | extend =>
    refine ⟨_, mt_extendS, fun F H p xs ds vs as ds' d s h r ra e => ?_⟩
    cases ra with
    | nil => cases e
    | cons r1 t =>
      cases t with
      | cons _ _ => rename_i d0 _ _ _ _ _ _; cases d0 <;> cases e
      | nil =>
        rename_i v0 d0
        cases d0 with
        | lst es =>
          have e' : (if ds.length + es.length ≤ 16777216 then some (ds ++ es, D.non) else none) = some (ds', d) := e
          cases r1 with
          | @lst b zs _ hb rb =>
            by_cases hz : ds.length + es.length ≤ 16777216
            · rw [if_pos hz] at e'
              cases e'
              exact ⟨xs ++ zs, .non, r.append rb, .non, fun Q hQ => ⟨p, b, xs, zs, rfl, rfl, h, same_seqL s hb, by rw [sizeLine_eq, r.length, rb.length]; exact hz, hQ⟩⟩
            · rw [if_neg hz] at e'; cases e'
        | _ => cases e
/-- what the statement does -/
def meO (m : Me) (i : Nat) (dst : Option Nat) (st : SD) (r : R (List D)) : O := match lstAt st i with
  | some ds => r.toO st fun as => match meD m ds as with
    | some (ds', d) => (match dst with
      | none => .nx (st.set i (some (.lst ds')))
      | some j => .nx ((st.set i (some (.lst ds'))).set j (some d)))
    | none => .un
  | none => .un
/-- the call, as the statements have it -/
theorem me_core {m : Me} {i : Nat} {x : Str} {p1 apos cpos : Pos} {es : List Expr} {f : SD → R (List D)} (hN : X.N[i]? = some x) (hv : Vis X.env.scope x) (hd : (x == ("__debug__" : Str)) = false) (hcd : (x == ("__classdict__" : Str)) = false) (hi : i ∈ own)
    (hline : (apos.endLine == cpos.line) = true) (ns : es.all nostar = true) (hl : es.length < 20) (h : EVs X W own es f) (h0 : es = [] → f = fun _ => .ok []) : ∃ t : TE, PE X (.Call (.Attribute (.Name x p1) m.nm apos) es [] cpos) t ∧
    ∀ (H0 F0 F H : Hp) (σ : L2.St) (st : SD), Step F0 H0 F H → SRel X.w X.K X.mg own H0 F H σ st → ∀ (w : Ow) (U : V → Hp → Ends → Prop) (k : List D → D → O),
      (∀ ds' d u F1 H1, Step F0 H0 F1 H1 → Same F F1 → SRel X.w X.K X.mg own H0 F1 H1 σ (st.set i (some (.lst ds'))) → Rep X.w X.K X.mg F1 u d → AtS X W H0 F0 F1 w (U u H1) (k ds' d)) →
      AtS X W H0 F0 F w (fun Dn => t σ H fun u H1 => U u H1 Dn) (match lstAt st i with
        | some ds => (f st).toO st fun as => match meD m ds as with
          | some (ds', d) => k ds' d
          | none => .un
        | none => .un) := by
  obtain ⟨r, hr, leaf⟩ := me_rule (X := X) m
  have body : ∀ (ta : TA), (∀ (H0 F H : Hp) (σ : L2.St) (st : SD), Same F H → SRel X.w X.K X.mg own H0 F H σ st → At X.w X.K X.mg W σ F H (ta σ H) (f st) (fun F1 H1 vs ds => Reps X.w X.K X.mg F1 vs ds)) → ∀ (H0 F0 F H : Hp) (σ : L2.St) (st : SD), Step F0 H0 F H → SRel X.w X.K X.mg own H0 F H σ st → ∀ (w : Ow) (U : V → Hp → Ends → Prop) (k : List D → D → O),
      (∀ ds' d u F1 H1, Step F0 H0 F1 H1 → Same F F1 → SRel X.w X.K X.mg own H0 F1 H1 σ (st.set i (some (.lst ds'))) → Rep X.w X.K X.mg F1 u d → AtS X W H0 F0 F1 w (U u H1) (k ds' d)) →
      AtS X W H0 F0 F w (fun Dn => ∃ v, σ[i]? = some (some v) ∧ (tyV X.K "list" v H ∧ ta σ H fun ys H1 => r v ys H1 fun u H2 => U u H2 Dn)) (match lstAt st i with
        | some ds => (f st).toO st fun as => match meD m ds as with
          | some (ds', d) => k ds' d
          | none => .un
        | none => .un) := by
    intro ta q H0 F0 F H σ st s0 rl w U k hk
    cases hst : lstAt st i with
    | none => trivial
    | some ds =>
      have e1 := lstAt_some hst
      obtain ⟨pa, xs, e2, h1, h2, h3, h4⟩ := rl.ownAt hi e1
      have key : AtS X W H0 F0 F w (fun Dn => ta σ H fun ys H1 => r (.ref pa) ys H1 fun u H2 => U u H2 Dn) ((f st).toO st fun as => match meD m ds as with
          | some (ds', d) => k ds' d
          | none => .un) := by
        refine AtS.bind (U := fun ys H1 Dn => r (.ref pa) ys H1 fun u H2 => U u H2 Dn) s0 rl (q H0 F H σ st s0.fh rl) fun vs as F1 H1 s1 r1 => ?_
        cases eg : meD m ds as with
        | none => trivial
        | some y =>
          obtain ⟨ds', d⟩ := y
          have k2 : F1 pa = none := s1.nw pa (by rw [h1]; exact fun z => nomatch z) h2
          obtain ⟨xs', u, k1, ku, kq⟩ := leaf F1 H1 pa xs ds vs as ds' d s1.fh (s1.hh _ _ h1) (Reps.mono s1.ff _ h4) r1 eg
          have hk' := hk ds' d u F1 (L2.upd H1 pa (.lst xs')) ((s0.trans s1).write h3 k2) s1.ff ((rl.step s1).upd hi e1 e2 (s1.hh _ _ h1) k2 h3 k1) ku
          exact hk'.mapT fun Dn z => kq _ z
      exact key.mapT fun Dn z => ⟨.ref pa, e2, .inl ⟨rfl, xs, SqL.of h1⟩, z⟩
  cases es with
  | nil =>
    have hf := h0 rfl
    subst hf
    exact ⟨_, pe_bm0 PySem.F.plainAttrs_list (me_slot m) (me_type m) hr (pe_var hN hv hd hcd) rfl hline, body (fun σ H Q => Q [] H) fun H0 F H σ st s rl => At.pure (rel := fun F1 H1 vs ds => Reps X.w X.K X.mg F1 vs ds) s .nil⟩
  | cons e es =>
    obtain ⟨ta, p, q⟩ := h
    have hfew := few_args (X := X) (cpos := cpos) ns hl
    simp only [List.all_cons, Bool.and_eq_true] at ns
    exact ⟨_, pe_bm PySem.F.plainAttrs_list (me_slot m) (me_type m) hr (pe_var hN hv hd hcd) p rfl hfew hline (starEach_cons ns.1) (backTo_plain (by simpa using ns.2)), body ta q⟩
/-- x.name(..) -/
theorem es_me {m : Me} {i : Nat} {x : Str} {p1 apos cpos : Pos} {es : List Expr} {f : SD → R (List D)} {b c : List Nat} (hN : X.N[i]? = some x) (hv : Vis X.env.scope x) (hd : (x == ("__debug__" : Str)) = false) (hcd : (x == ("__classdict__" : Str)) = false) (hi : i ∈ own)
    (hline : (apos.endLine == cpos.line) = true) (ns : es.all nostar = true) (hl : es.length < 20) (h : EVs X W own es f) (h0 : es = [] → f = fun _ => .ok []) :
    ES X W own (.Expr (.Call (.Attribute (.Name x p1) m.nm apos) es [] cpos) pos) (fun st => meO m i none st (f st)) ⟨own, b, c⟩ := by
  obtain ⟨t, p, q⟩ := me_core (m := m) (p1 := p1) hN hv hd hcd hi hline ns hl h h0
  refine ⟨_, ps_expr p rfl, fun H0 F0 F H σ st s0 rl => ?_⟩
  exact q H0 F0 F H σ st s0 rl ⟨own, b, c⟩ (fun u H1 Dn => Dn.nx σ H1) (fun ds' d => .nx (st.set i (some (.lst ds')))) fun ds' d u F1 H1 s1 sf r1 ru Dn hD => hD σ F1 H1 s1 (Same.refl F1) r1
/-- y = x.name(..) -/
theorem es_meSet {m : Me} {i j : Nat} {x y : Str} {p1 apos cpos p2 : Pos} {es : List Expr} {f : SD → R (List D)} {b c : List Nat} (hN : X.N[i]? = some x) (hv : Vis X.env.scope x) (hd : (x == ("__debug__" : Str)) = false) (hcd : (x == ("__classdict__" : Str)) = false) (hi : i ∈ own)
    (hline : (apos.endLine == cpos.line) = true) (ns : es.all nostar = true) (hl : es.length < 20) (h : EVs X W own es f) (h0 : es = [] → f = fun _ => .ok []) (hnd : X.N.Nodup) (hj : X.N[j]? = some y) (hy : Loc X.env.scope y) (hf : X.fn y = true ∨ X.env.scope.names.lookup y = some .local) :
    ES X W own (.Assign [.Name y p2] (.Call (.Attribute (.Name x p1) m.nm apos) es [] cpos) pos) (fun st => meO m i (some j) st (f st)) ⟨minus own [j], b, c⟩ := by
  obtain ⟨t, p, q⟩ := me_core (m := m) (p1 := p1) hN hv hd hcd hi hline ns hl h h0
  refine ⟨_, ps_set hnd hj hy p rfl hf, fun H0 F0 F H σ st s0 rl => ?_⟩
  exact q H0 F0 F H σ st s0 rl ⟨minus own [j], b, c⟩ (fun u H1 Dn => Dn.nx (σ.set j (some u)) H1) (fun ds' d => .nx ((st.set i (some (.lst ds'))).set j (some d))) fun ds' d u F1 H1 s1 sf r1 ru Dn hD => hD _ F1 H1 s1 (Same.refl F1) (r1.setK ru)
/-- x.append(y.pop(e)) -/
def apPopO (i j : Nat) (st : SD) (r : R (List D)) : O := match lstAt st i with
  | some _ => match lstAt st j with
    | some dj => r.toO st fun as => match meD .popAt dj as with
      | some (dj', d) => (match lstAt (st.set j (some (.lst dj'))) i with
        | some ds => if ds.length < 16777216 then .nx ((st.set j (some (.lst dj'))).set i (some (.lst (ds ++ [d])))) else .un
        | none => .un)
      | none => .un
    | none => .un
  | none => .un
theorem es_apPop {i j : Nat} {x y : Str} {p1 apos cpos q1 bpos dpos : Pos} {es : List Expr} {f : SD → R (List D)} {b c : List Nat} (hN : X.N[i]? = some x) (hv : Vis X.env.scope x) (hd : (x == ("__debug__" : Str)) = false) (hcd : (x == ("__classdict__" : Str)) = false) (hi : i ∈ own)
    (hline : (apos.endLine == cpos.line) = true) (gN : X.N[j]? = some y) (gv : Vis X.env.scope y) (gd : (y == ("__debug__" : Str)) = false) (gcd : (y == ("__classdict__" : Str)) = false) (gi : j ∈ own)
    (gline : (bpos.endLine == dpos.line) = true) (ns : es.all nostar = true) (hl : es.length < 20) (h : EVs X W own es f) (h0 : es = [] → f = fun _ => .ok []) :
    ES X W own (.Expr (.Call (.Attribute (.Name x p1) "append" apos) [.Call (.Attribute (.Name y q1) "pop" bpos) es [] dpos] [] cpos) pos) (fun st => apPopO i j st (f st)) ⟨own, b, c⟩ := by
  obtain ⟨t, p, q⟩ := me_core (m := .popAt) (p1 := q1) gN gv gd gcd gi gline ns hl h h0
  obtain ⟨r, hr, leaf⟩ := me_rule (X := X) .append
  have pc : PE X (.Call (.Attribute (.Name y q1) "pop" bpos) es [] dpos) t := p
  refine ⟨_, ps_expr (pe_bm PySem.F.plainAttrs_list (me_slot .append) (me_type .append) hr (pe_var hN hv hd hcd) (pa_cons pc pa_nil (starEach_cons rfl)) rfl (few_args (X := X) (cpos := cpos) (es := [_]) rfl (by simp)) hline (starEach_cons rfl) (backTo_plain rfl)) rfl, fun H0 F0 F H σ st s0 rl => ?_⟩
  show AtS X W H0 F0 F ⟨own, b, c⟩ _ (apPopO i j st (f st))
  unfold apPopO
  cases hst : lstAt st i with
  | none => trivial
  | some ds0 =>
    obtain ⟨pa, xs, e2, h1, h2, h3, h4⟩ := rl.ownAt hi (lstAt_some hst)
    have key := q H0 F0 F H σ st s0 rl ⟨own, b, c⟩ (fun u H1 Dn => r (.ref pa) [u] H1 fun u2 H2 => Dn.nx σ H2) (fun dj' d => match lstAt (st.set j (some (.lst dj'))) i with
      | some ds => if ds.length < 16777216 then .nx ((st.set j (some (.lst dj'))).set i (some (.lst (ds ++ [d])))) else .un
      | none => .un) (fun dj' d u F1 H1 s1 sf r1 ru => by
        cases hs2 : lstAt (st.set j (some (.lst dj'))) i with
        | none => trivial
        | some ds =>
          have e1 := lstAt_some hs2
          obtain ⟨pa', xs1, g2, k1, k2, k3, k4⟩ := r1.ownAt hi e1
          rw [e2] at g2
          cases g2
          show AtS X W H0 F0 F1 _ _ (if ds.length < 16777216 then .nx ((st.set j (some (.lst dj'))).set i (some (.lst (ds ++ [d])))) else .un)
          split
          · rename_i hz
            obtain ⟨xs', u2, m1, _, m3⟩ := leaf F1 H1 pa xs1 ds [u] [d] (ds ++ [d]) .non s1.fh k1 k4 (.cons ru .nil) (if_pos hz)
            exact fun Dn hD => m3 _ (hD σ F1 _ (s1.write k3 k2) (Same.refl F1) (r1.upd hi e1 e2 k1 k2 k3 m1))
          · trivial)
    exact key.mapT fun Dn z => ⟨.ref pa, e2, .inl ⟨rfl, xs, SqL.of h1⟩, z⟩
end
end Dl

/-! DlP2: own errors: their __init__, and raise. -/
namespace Dl
open PySem PySem.Spec PyProof.Rows L2

/-- what each field is given: the place of the argument -/
abbrev Flds := List (Str × Nat)
def fldsV (fs : Flds) (ws : List V) : Option (List (Str × V)) := fs.mapM fun p => (ws[p.2]?).map fun v => (p.1, v)
def asAsg : Stmt → Option (Expr × Expr)
  | .Assign [t] e _ => some (t, e)
  | _ => none
theorem asAsg_eq {s : Stmt} {t e : Expr} (h : asAsg s = some (t, e)) : ∃ p, s = .Assign [t] e p := by
  unfold asAsg at h
  split at h
  · simp only [Option.some.injEq, Prod.mk.injEq] at h; obtain ⟨rfl, rfl⟩ := h; exact ⟨_, rfl⟩
  · cases h
def chkF (N : List Str) (sc : Scope) : Flds → List Stmt → Bool
  | [], [] => true
  | (f, j) :: fs, st :: sts => (match asAsg st with
    | some (t, e) => (match asAttr t, asName e with
      | some (o, g), some p => (match asName o with
        | some s => decide (g = f) && decide (N[0]? = some s) && visC sc s && decide (N[j + 1]? = some p) && visC sc p
        | none => false)
      | _, _ => false)
    | none => false) && chkF N sc fs sts
  | _, _ => false
theorem visC_ok {sc : Scope} {x : Str} (hv : visC sc x = true) : Vis sc x ∧ (x == ("__debug__" : Str)) = false ∧ (x == ("__classdict__" : Str)) = false := by
  unfold visC at hv
  simp only [Bool.and_eq_true, Bool.not_eq_true'] at hv
  obtain ⟨⟨h1, h2⟩, h3⟩ := hv
  refine ⟨?_, h2, h3⟩
  unfold Vis
  split at h1
  · rename_i e; exact .inl e
  · rename_i e; exact .inr (.inl e)
  · rename_i e; exact .inr (.inr e)
  · cases h1
section
variable {X : Cx} {C : Addr}
/-- what the class says of its fields -/
def NoFld (K : PySem.W.Frag) (C : Addr) (fs : Flds) : Prop := ∀ p ∈ fs, PySem.W.findIn K (.ref C) p.1 = some none
/-- further fields -/
theorem flds_old (T : OexC X.K C) : ∀ (fs : Flds) (body : List Stmt), chkF X.N X.env.scope fs body = true → NoFld X.K C fs → ∃ t, PSs X body t ∧ ∀ (Dn : Ends) (σ : L2.St) (H : Hp) (a dx : Addr) (old new : List (Str × V)) (ws : List V),
    σ[0]? = some (some (.ref a)) → (∀ (j : Nat) (v : V), ws[j]? = some v → σ[j + 1]? = some (some v)) → H a = some (exo a C (some dx)) → H dx = some (exd dx old) → dx ≠ a → old.length + fs.length ≤ 900 → fldsV fs ws = some new →
    (∀ H2 : Hp, H2 a = some (exo a C (some dx)) → H2 dx = some (exd dx (new.reverse ++ old)) → (∀ b, b ≠ a → b ≠ dx → H2 b = H b) → Dn.nx σ H2) → t Dn σ H
  | [], [], _, _ => ⟨_, pss_nil, fun Dn σ H a dx old new ws h0 hw ha hd hne hl e q => by
    cases (show new = [] by simpa [fldsV] using e.symm)
    exact q H ha hd fun _ _ _ => rfl⟩
  | [], _ :: _, h, _ => by simp [chkF] at h
  | _ :: _, [], h, _ => by simp [chkF] at h
  | (f, j) :: fs, st :: sts, h, hno => by
    simp only [chkF, Bool.and_eq_true] at h
    obtain ⟨h1, h2⟩ := h
    obtain ⟨u, pu, qu⟩ := flds_old T fs sts h2 fun p hp => hno p (List.mem_cons_of_mem _ hp)
    split at h1
    · rename_i t e hx
      obtain ⟨p, rfl⟩ := asAsg_eq hx
      split at h1
      · rename_i o g pn ht he
        obtain ⟨p2, rfl⟩ := asAttr_eq ht
        obtain ⟨p3, rfl⟩ := asName_eq he
        split at h1
        · rename_i s hs
          obtain ⟨p4, rfl⟩ := asName_eq hs
          simp only [Bool.and_eq_true, decide_eq_true_eq] at h1
          obtain ⟨⟨⟨⟨rfl, n0⟩, v0⟩, n1⟩, v1⟩ := h1
          obtain ⟨a1, a2, a3⟩ := visC_ok v0
          obtain ⟨b1, b2, b3⟩ := visC_ok v1
          refine ⟨_, pss_cons (ps_ost (pe_var n0 a1 a2 a3) (pe_var n1 b1 b2 b3) rfl) pu, fun Dn σ H a dx old new ws k0 hw ha hd hne hl e q => ?_⟩
          simp only [fldsV, List.mapM_cons] at e
          cases ew : ws[j]? with
          | none => rw [ew] at e; cases e
          | some y =>
            rw [ew] at e
            cases er : fldsV fs ws with
            | none => rw [show (List.mapM (fun p : Str × Nat => (ws[p.2]?).map fun v => (p.1, v)) fs) = none from er] at e; cases e
            | some new' =>
              rw [show (List.mapM (fun p : Str × Nat => (ws[p.2]?).map fun v => (p.1, v)) fs) = some new' from er] at e
              obtain rfl : (g, y) :: new' = new := Option.some.inj e
              refine ⟨y, hw j y ew, .ref a, k0, a, C, rfl, T, hno (g, j) List.mem_cons_self, .inr ⟨dx, old, ha, hd, by simp at hl; omega, ?_⟩⟩
              refine qu Dn σ _ a dx ((g, y) :: old) new' ws k0 hw (by rw [upd_ne (Ne.symm hne)]; exact ha) upd_same hne (by simp at hl ⊢; omega) er fun H2 g1 g2 g3 => ?_
              exact q H2 g1 (by rw [g2]; simp) fun b hb hb' => by rw [g3 b hb hb', upd_ne hb']
        · cases h1
      · cases h1
    · cases h1
/-- all fields, from a new one -/
theorem flds_all (T : OexC X.K C) {f : Str} {j : Nat} {fs : Flds} {body : List Stmt} (h : chkF X.N X.env.scope ((f, j) :: fs) body = true) (hno : NoFld X.K C ((f, j) :: fs)) : ∃ t, PSs X body t ∧ ∀ (Dn : Ends) (σ : L2.St) (H : Hp) (a : Addr) (new : List (Str × V)) (ws : List V),
    σ[0]? = some (some (.ref a)) → (∀ (j : Nat) (v : V), ws[j]? = some v → σ[j + 1]? = some (some v)) → H a = some (exo a C none) → fs.length ≤ 800 → fldsV ((f, j) :: fs) ws = some new →
    (∀ (dx : Addr) (H2 : Hp), H dx = none → dx ≠ a → H2 a = some (exo a C (some dx)) → H2 dx = some (exd dx new.reverse) → (∀ b, b ≠ a → b ≠ dx → H2 b = H b) → Dn.nx σ H2) → t Dn σ H := by
  cases body with
  | nil => simp [chkF] at h
  | cons st sts =>
    simp only [chkF, Bool.and_eq_true] at h
    obtain ⟨h1, h2⟩ := h
    obtain ⟨u, pu, qu⟩ := flds_old T fs sts h2 fun p hp => hno p (List.mem_cons_of_mem _ hp)
    split at h1
    · rename_i t e hx
      obtain ⟨p, rfl⟩ := asAsg_eq hx
      split at h1
      · rename_i o g pn ht he
        obtain ⟨p2, rfl⟩ := asAttr_eq ht
        obtain ⟨p3, rfl⟩ := asName_eq he
        split at h1
        · rename_i s hs
          obtain ⟨p4, rfl⟩ := asName_eq hs
          simp only [Bool.and_eq_true, decide_eq_true_eq] at h1
          obtain ⟨⟨⟨⟨rfl, n0⟩, v0⟩, n1⟩, v1⟩ := h1
          obtain ⟨a1, a2, a3⟩ := visC_ok v0
          obtain ⟨b1, b2, b3⟩ := visC_ok v1
          refine ⟨_, pss_cons (ps_ost (pe_var n0 a1 a2 a3) (pe_var n1 b1 b2 b3) rfl) pu, fun Dn σ H a new ws k0 hw ha hl e q => ?_⟩
          simp only [fldsV, List.mapM_cons] at e
          cases ew : ws[j]? with
          | none => rw [ew] at e; cases e
          | some y =>
            rw [ew] at e
            cases er : fldsV fs ws with
            | none => rw [show (List.mapM (fun p : Str × Nat => (ws[p.2]?).map fun v => (p.1, v)) fs) = none from er] at e; cases e
            | some new' =>
              rw [show (List.mapM (fun p : Str × Nat => (ws[p.2]?).map fun v => (p.1, v)) fs) = some new' from er] at e
              obtain rfl : (g, y) :: new' = new := Option.some.inj e
              refine ⟨y, hw j y ew, .ref a, k0, a, C, rfl, T, hno (g, j) List.mem_cons_self, .inl ⟨ha, fun dx hdx hne => ?_⟩⟩
              refine qu Dn σ _ a dx [(g, y)] new' ws k0 hw upd_same (by rw [upd_ne hne]; exact upd_same) hne (by simp; omega) er fun H2 g1 g2 g3 => ?_
              exact q dx H2 hdx hne g1 (by rw [g2]; simp) fun b hb hb' => by rw [g3 b hb hb', upd_ne hb, upd_ne hb']
        · cases h1
      · cases h1
    · cases h1
end
def scC (N : List Str) (n : Nat) (sc : Scope) : Bool := (match sc.kind with
  | .function => true
  | _ => false) && !sc.isCoroutine && !sc.isGenerator && decide N.Nodup && decide (n ≤ N.length) && ((N.take n).all fun x => match sc.names.lookup x with
  | some .local => true
  | some .cell => true
  | _ => false) && sc.names.all fun y => match y.2 with
  | .free => false
  | _ => true
theorem scC_ok {N : List Str} {n : Nat} {sc : Scope} (h : scC N n sc = true) : FnScope N (N.take n) sc ∧ (N.take n).length = n := by
  unfold scC at h
  simp only [Bool.and_eq_true, Bool.not_eq_true', List.all_eq_true, decide_eq_true_eq] at h
  obtain ⟨⟨⟨⟨⟨⟨h1, h2⟩, h3⟩, h4⟩, h5⟩, h6⟩, h7⟩ := h
  have hl : (N.take n).length = n := by rw [List.length_take]; omega
  refine ⟨⟨?_, h2, h3, h4, by rw [hl], fun x hx => ?_, fun y hy => ?_⟩, hl⟩
  · cases e : sc.kind <;> rw [e] at h1 <;> first | rfl | cases h1
  · have := h6 x hx
    split at this
    · rename_i e; exact .inl e
    · rename_i e; exact .inr e
    · cases this
  · have := h7 y hy
    intro e
    rw [e] at this
    cases this
/-- the look at the __init__ of an own error -/
def chkIn (N : List Str) (n : Nat) (fs : Flds) (st : Stmt) : Bool := scC N n (defScope st) && decide (N.length = n) && decide (fs.length ≤ 800) && !fs.isEmpty && chkF N (defScope st) fs (defBody st)
def spIn (C : Addr) (n : Nat) (fs : Flds) : Sp := fun vs H Q _ => ∃ (a : Addr) (ws : List V) (new : List (Str × V)), vs = .ref a :: ws ∧ ws.length + 1 = n ∧ H a = some (exo a C none) ∧ fldsV fs ws = some new ∧
  ∀ (dx : Addr) (H2 : Hp), H dx = none → dx ≠ a → H2 a = some (exo a C (some dx)) → H2 dx = some (exd dx new.reverse) → (∀ b, b ≠ a → b ≠ dx → H2 b = H b) → Q .non H2
theorem init_ok {P : Program} {w : World} {K : PySem.W.Frag} {mg : Str → Option Value} {base : Heap} {qual : Str} {st : Stmt} {f C : Addr} {fd : FuncData} {N : List Str} {n : Nat} {fs : Flds} (F : Fun K "__init__" qual st f fd) (T : OexC K C) (chk : chkIn N n fs st = true) (hno : NoFld K C fs) :
    FnOk P w K mg base (L2.CX P w) 1 f fd N (spIn C n fs) := by
  unfold chkIn at chk
  simp only [Bool.and_eq_true, decide_eq_true_eq, Bool.not_eq_true'] at chk
  obtain ⟨⟨⟨⟨h1, h2⟩, h3⟩, h4⟩, h5⟩ := chk
  obtain ⟨S, hl⟩ := scC_ok h1
  have hN : N.take n = N := List.take_of_length_le (by omega)
  rw [hN] at S
  cases fs with
  | nil => cases h4
  | cons p fs =>
    obtain ⟨f0, j0⟩ := p
    refine F.okX S (fun vs H Q E h => ?_) fun cdv A up s H vs Q E room h => ?_
    · obtain ⟨a, ws, new, rfl, e, _⟩ := h
      rw [List.length_cons, e, h2]
    · obtain ⟨a, ws, new, rfl, e, ha, hf, q⟩ := h
      obtain ⟨t, pt, qt⟩ := flds_all (X := cxOf (L2.CX P w) P w K mg base N qual (defScope st) f cdv A up s H E) T h5 hno
      refine ⟨t, pt, qt _ _ H a new ws ?_ (fun j v hj => ?_) ha (by simp at h3; omega) hf fun dx H2 g1 g2 g3 g4 g5 => q dx H2 g1 g2 g3 g4 g5⟩
      · rfl
      · have hj' : j < ws.length := (List.getElem?_eq_some_iff.mp hj).1
        show (L2.start N (.ref a :: ws))[j + 1]? = _
        unfold L2.start
        rw [List.getElem?_append_left (by simp; omega), List.getElem?_map, List.getElem?_cons_succ, hj]
        rfl
/-! ### raise C(..) -/
/-- the fields as they lie, the last one first -/
def fldsD (fs : Flds) (ds : List D) : Option (List D) := fs.reverse.mapM fun p => ds[p.2]?
/-- what is known of an own error with fields -/
def RaiseD (P : Program) (w : World) (K : PySem.W.Frag) (mg : Str → Option Value) (base : Heap) (c : Str) (n : Nat) (fs : Flds) : Prop := ∃ (C fI : Addr) (fd : FuncData) (N : List Str), mg c = some (.ref C) ∧ OexC K C ∧ PySem.W.findIn K (.ref C) "__init__" = some (some (.ref fI)) ∧ PySem.W.typeIn K (.ref fI) = some (.type "function") ∧
  FnOk P w K mg base (L2.CX P w) 1 fI fd N (spIn C n fs) ∧ Binds K fd N []
theorem flds_rel {w : World} {K : PySem.W.Frag} {mg : Str → Option Value} {F : Hp} {vs : List V} {ds : List D} (r : Reps w K mg F vs ds) : ∀ (fs : Flds) (out : List D), fs.mapM (fun p => ds[p.2]?) = some out → ∃ new, fldsV fs vs = some new ∧ new.map (·.1) = fs.map (·.1) ∧ Reps w K mg F (new.map (·.2)) out
  | [], out, h => by
    cases (show out = [] by simpa using h.symm)
    exact ⟨[], rfl, rfl, .nil⟩
  | p :: fs, out, h => by
    rw [List.mapM_cons] at h
    cases e : ds[p.2]? with
    | none => rw [e] at h; cases h
    | some d =>
      rw [e] at h
      cases e2 : fs.mapM (fun p => ds[p.2]?) with
      | none => rw [e2] at h; cases h
      | some out' =>
        rw [e2] at h
        obtain rfl : d :: out' = out := Option.some.inj h
        obtain ⟨new, g1, g2, g3⟩ := flds_rel r fs out' e2
        obtain ⟨v, hv, rv⟩ := r.get e
        refine ⟨(p.1, v) :: new, ?_, by simp [g2], .cons rv g3⟩
        unfold fldsV at g1 ⊢
        rw [List.mapM_cons, hv]
        simp [g1]
theorem flds_rev {ds : List D} : ∀ (fs : Flds) (out : List D), fs.reverse.mapM (fun p => ds[p.2]?) = some out → fs.mapM (fun p => ds[p.2]?) = some out.reverse
  | [], out, h => by
    cases (show out = [] by simpa using h.symm)
    rfl
  | p :: fs, out, h => by
    rw [List.reverse_cons, List.mapM_append] at h
    cases e : fs.reverse.mapM (fun p => ds[p.2]?) with
    | none => rw [e] at h; cases h
    | some o1 =>
      rw [e] at h
      cases e2 : ds[p.2]? with
      | none => simp [e2] at h
      | some d =>
        have ho : out = o1 ++ [d] := by simpa [e2] using h.symm
        subst ho
        have := flds_rev fs o1 e
        rw [List.mapM_cons, e2, this]
        simp
section
variable {X : Cx} {W : WX} {own : List Nat} {w : Ow} {pos : Pos}
theorem Reps.reverse' {w : World} {K : PySem.W.Frag} {mg : Str → Option Value} {F : Hp} {fl : List (Str × V)} {ds : List D} (h : Reps w K mg F (fl.map (·.2)) ds) : Reps w K mg F (fl.reverse.map (·.2)) ds.reverse := by
  rw [List.map_reverse]; exact h.reverse
theorem es_raise {k : Nat} {c : Str} {e : Expr} {es : List Expr} {fsD : SD → R (List D)} {fs : Flds} {p cpos : Pos} (hc : X.calm = true) (tk : Takes X W) (hr : Room (k + 2) X.A) (R0 : RaiseD X.prog X.w X.K X.mg X.base c ((e :: es).length + 1) fs) (hne : fs ≠ []) (hg : Gl X c) (hdb : (c == ("__debug__" : Str)) = false) (ns : nostar e = true) (nss : es.all nostar = true) (hl : es.length < 500)
    (hs : EVs X W own (e :: es) fsD) : ES X W own (.Raise (some (.Call (.Name c p) (e :: es) [] cpos)) none pos) (fun st => (fsD st).toO st fun ds => match fldsD fs ds with
      | some out => if ds.length = (e :: es).length then .ex st c (fs.reverse.map (·.1)) out else .un
      | none => .un) w := by
  obtain ⟨ta, pa, qa⟩ := hs
  obtain ⟨C, fI, fd, N, hm, T, iC, tI, F1, bd⟩ := R0
  refine ⟨_, ps_raise hc tk (pmk_oex (dvs := []) T iC tI F1 (hr.mono (by omega)) bd .nil passL hg hm pa hdb (starEach_cons ns) (backTo_plain nss)), fun H0 F0 F H σ st s0 rl => ?_⟩
  refine AtS.bind (U := fun vs H1 _ => vs.length ≤ 1000 ∧ ∀ a, H1 a = none → spIn C ((e :: es).length + 1) fs (.ref a :: (vs ++ [])) (upd H1 a (exo a C none))
    (fun v H2 => v = .non ∧ ∃ (d : Addr) (fl : List (Str × V)), H2 a = some (exo a C (some d)) ∧ H2 d = some (exd d fl) ∧ H1 d = none ∧ W (.ref C) (some d) σ (upd (del H2 a) d (.xd fl))) (fun _ _ _ => False)) s0 rl (qa H0 F H σ st s0.fh rl) fun vs ds F1 H1 s1 r1 => ?_
  cases ef : fldsD fs ds with
  | none => trivial
  | some out =>
    dsimp only
    split
    · rename_i hds
      refine fun Dn hD => ⟨by rw [r1.length, hds, List.length_cons]; omega, fun a ha => ?_⟩
      have hb := flds_rev fs out ef
      obtain ⟨new, g1, g2, g3⟩ := flds_rel r1 fs out.reverse hb
      refine ⟨a, vs, new, by rw [List.append_nil], by rw [r1.length, hds], upd_same, g1, fun dx H2 k1 k2 k3 k4 k5 => ⟨rfl, dx, new.reverse, k3, k4, by rw [upd_ne k2] at k1; exact k1, ?_⟩⟩
      have hdx : H1 dx = none := by rw [upd_ne k2] at k1; exact k1
      have eH : upd (del H2 a) dx (.xd new.reverse) = upd H1 dx (.xd new.reverse) := by
        funext b
        by_cases h1 : b = dx
        · subst h1; rw [upd_same, upd_same]
        · rw [upd_ne h1, upd_ne h1]
          by_cases h2 : b = a
          · subst h2; rw [del_same, ha]
          · rw [del_ne h2, k5 b h2 h1, upd_ne h2]
      rw [eH]
      have s2 : Step F1 H1 (upd F1 dx (.xd new.reverse)) (upd H1 dx (.xd new.reverse)) := Step.new s1.fh hdx
      obtain ⟨F3, s3, sf3, rl3⟩ := SRel.weak [] (fun j hj => by cases hj) ((s0.trans s1).trans s2) ((rl.step s1).step s2)
      have rr : Reps X.w X.K X.mg F3 (new.reverse.map (·.2)) out := by
        have := Reps.mono (s2.ff.trans sf3) _ g3
        have := Reps.reverse' this
        rwa [List.reverse_reverse] at this
      refine hD (.ref C) (some dx) σ F3 _ s3 (s2.ff.trans sf3) rl3 ⟨C, rfl, hm, .inr ⟨by simpa using hne, dx, new.reverse, rfl, upd_same, by rw [List.map_reverse, g2, List.map_reverse], rr⟩⟩
    · trivial
end
end Dl

/-! DlX: in the suite of an except clause: isinstance of the caught error, its fields. -/
namespace Dl
open PySem PySem.Spec PyProof.Rows L2

def rIsX (K : PySem.W.Frag) (D a : Addr) (d : Option Addr) : List V → Hp → VK → Prop := fun xs H Q => ∃ (c : V) (cv : Value) (b : Bool), xs = [.ref a, c] ∧ (∀ u, RelV c u → u = cv) ∧ PySem.W.kitOne K (.ref D) cv = some b ∧ (d = none ∨ ∃ (dd : Addr) (fs : List (Str × V)), d = some dd ∧ H dd = some (.xd fs)) ∧ Q (.bl b) H
/-- isinstance(e, c), whether the error has a dict or not -/
theorem call_isX {X : Cx} {a D : Addr} {oe : Obj} {d : Option Addr} {pn : List (Addr × Obj)} (C : ExcC X.K D) (hz : Zc (.ref D) d oe) (hf : ∃ vs, oe.data = .fields vs) : CallR (X.suite a ((a, oe) :: pn)) (.builtin "isinstance") (rIsX X.K D a d) := by
  intro pins s σ H xs us Q I r h
  obtain ⟨c, cv, b, rfl, hcv, e, hd, q⟩ := h
  cases r with
  | cons rx rr =>
    cases rr with
    | cons rt rr =>
      cases rr
      cases rx
      have ec := hcv _ rt
      subst ec
      obtain ⟨hget, _⟩ := I.pin (a, oe) (List.mem_append.mpr (.inl List.mem_cons_self))
      obtain ⟨vs, hv⟩ := hf
      have nc : PySem.W.notCls oe = true := by unfold PySem.W.notCls; rw [hv] <;> rfl
      obtain ⟨cdD, hcD, _⟩ := PySem.W.any_some C.hd
      have hcl : (PySem.W.clsIn X.K D).isSome = true := by rw [hcD]; rfl
      have fin : ∀ tk, EP (X.suite a ((a, oe) :: pn)) pins σ Q (.bool b) { s with toks := tk } := fun tk => ⟨.bl b, H, I.kept (t' := tk) fun _ _ z => z, rfl, q⟩
      rcases hd with rfl | ⟨dd, fs, rfl, ed⟩
      · have J : PySem.W.InstAt s.heap a oe D none := by
          obtain ⟨oc, od, oda, osl⟩ := oe
          obtain ⟨h1, h2⟩ := hz
          dsimp only at h1 h2 hv
          subst h1 h2 hv
          exact ⟨hget, rfl, rfl, trivial⟩
        exact PySem.W.kia_one (PySem.W.kitx_exc hcl C.hg C.hk C.hs C.ha C.hn C.ht C.hm) I.kIn J e (fun z => nomatch z) fin
      · have hx : ObjOk X.prog X.w H s.heap dd (.xd fs) := I.hok dd _ ed
        obtain ⟨mA, hns, hr⟩ := hx
        obtain ⟨od, ho, hl⟩ := lookIn_ns hns
        have J : PySem.W.InstAt s.heap a oe D (some od) := ⟨hget, hz.1, nc, by rw [hz.2]; exact ho⟩
        exact PySem.W.kia_one (PySem.W.kitx_exc hcl C.hg C.hk C.hs C.ha C.hn C.ht C.hm) I.kIn J e (fun z => nomatch z) fin

/-! ### the forms of a suite -/
inductive HI where
  | n | b (x : Bool) | i (x : Int) | s (x : Str) | f (g : Str)
inductive HE where
  | one (x : HI) | tup (xs : List HI)
structure Hd where
  cls : Str
  slot : Nat
  conds : List (Str × Bool)
  thn : HE
  els : Option HE
def HI.ev (ns : List Str) (ds : List D) : HI → Option D
  | .n => some .non
  | .b x => some (.bl x)
  | .i x => some (.int x)
  | .s x => some (.str x)
  | .f g => lookD g ns ds
def HE.ev (ns : List Str) (ds : List D) : HE → Option D
  | .one x => x.ev ns ds
  | .tup xs => (xs.mapM (HI.ev ns ds)).map D.tup
/-- the answer of the tests, by the table of the classes -/
def condsV (sub : Str → Str → Option Bool) (c : Str) : List (Str × Bool) → Option Bool
  | [] => some true
  | (k, b) :: r => (sub c k).bind fun v => if (v == b) = true then condsV sub c r else some false
def chkV (N : List Str) (sc : Scope) (slot : Nat) (e : Expr) : Bool := match asName e with
  | some x => decide (N[slot]? = some x) && visC sc x
  | none => false
def chkHI (N : List Str) (sc : Scope) (slot : Nat) : HI → Expr → Bool
  | .n, e => decide (asConst e = some .none)
  | .b x, e => decide (asConst e = some (.bool x))
  | .i x, e => decide (asConst e = some (.int x))
  | .s x, e => decide (asConst e = some (.str x))
  | .f g, e => match asAttr e with
    | some (o, h) => decide (h = g) && chkV N sc slot o
    | none => false
def chkHIs (N : List Str) (sc : Scope) (slot : Nat) : List HI → List Expr → Bool
  | [], [] => true
  | x :: xs, e :: es => nostar e && chkHI N sc slot x e && chkHIs N sc slot xs es
  | _, _ => false
def chkHE (N : List Str) (sc : Scope) (slot : Nat) : HE → Expr → Bool
  | .one x, e => chkHI N sc slot x e
  | .tup xs, e => match asTup e with
    | some es => decide (es.length < 1000) && chkHIs N sc slot xs es
    | none => false
/-- what is known of the error's class's field -/
def FldX (K : PySem.W.Frag) (mg : Str → Option Value) (c g : Str) : Prop := ∃ C : Addr, mg c = some (.ref C) ∧ XfC K C ∧ PySem.W.findIn K (.ref C) g = some none
def HI.ob (K : PySem.W.Frag) (mg : Str → Option Value) (c : Str) : HI → Prop
  | .f g => FldX K mg c g
  | _ => True
section
variable {X : Cx} {a : Addr} {oe : Obj} {pn : List (Addr × Obj)} {cls : Value} {d : Option Addr} {c : Str} {ns : List Str} {ds : List D}
theorem pe_no {e : Expr} : PE X e (fun _ _ _ => False) := ⟨fun _ _ _ _ _ _ h => h.elim⟩
/-- one item -/
theorem hi_ok {slot : Nat} {x : HI} {e : Expr} (chk : chkHI X.N X.env.scope slot x e = true) (ob : (∃ v, x.ev ns ds = some v) → x.ob X.K X.mg c) (hm : X.mg c = some cls) (hz : Zc cls d oe) (hf : ∃ vs, oe.data = .fields vs) : ∃ t : TE, PE (X.suite a ((a, oe) :: pn)) e t ∧
    ∀ (F H : Hp) (σ : L2.St), Same F H → σ[slot]? = some (some (.ref a)) → ExAt X.w X.K X.mg F H c ns ds cls d → ∀ v, x.ev ns ds = some v → ∀ Q : VK, (∀ u, Rep X.w X.K X.mg F u v → Q u H) → t σ H Q := by
  cases x with
  | n =>
    obtain ⟨j, p, rfl⟩ := asConst_eq (of_decide_eq_true chk)
    exact ⟨_, pe_non, fun F H σ s h1 h2 v hv Q q => by cases hv; exact q _ .non⟩
  | b x =>
    obtain ⟨j, p, rfl⟩ := asConst_eq (of_decide_eq_true chk)
    exact ⟨_, pe_bl, fun F H σ s h1 h2 v hv Q q => by cases hv; exact q _ (.bl _)⟩
  | i x =>
    obtain ⟨j, p, rfl⟩ := asConst_eq (of_decide_eq_true chk)
    exact ⟨_, pe_int, fun F H σ s h1 h2 v hv Q q => by cases hv; exact q _ (.int _)⟩
  | s x =>
    obtain ⟨j, p, rfl⟩ := asConst_eq (of_decide_eq_true chk)
    exact ⟨_, pe_str, fun F H σ s h1 h2 v hv Q q => by cases hv; exact q _ (.str _)⟩
  | f g =>
    cases ev : lookD g ns ds with
    | none => exact ⟨_, pe_no, fun F H σ s h1 h2 v hv => by rw [show HI.ev ns ds (.f g) = lookD g ns ds from rfl, ev] at hv; cases hv⟩
    | some v0 =>
      obtain ⟨C, hC, T, hno⟩ := ob ⟨v0, ev⟩
      rw [hm] at hC; cases hC
      simp only [chkHI] at chk
      split at chk
      · rename_i o h hx
        obtain ⟨p, rfl⟩ := asAttr_eq hx
        simp only [Bool.and_eq_true, decide_eq_true_eq] at chk
        obtain ⟨rfl, chk⟩ := chk
        unfold chkV at chk
        split at chk
        · rename_i y hy
          obtain ⟨p2, rfl⟩ := asName_eq hy
          simp only [Bool.and_eq_true, decide_eq_true_eq] at chk
          obtain ⟨v1, v2, v3⟩ := visC_ok chk.2
          refine ⟨_, pe_xf T hno hz hf (pe_var (X := X.suite a ((a, oe) :: pn)) chk.1 v1 v2 v3) rfl, fun F H σ s h1 h2 v hv Q q => ?_⟩
          rw [show HI.ev ns ds (.f h) = lookD h ns ds from rfl, ev] at hv
          cases hv
          obtain ⟨C', e1, e2, h3⟩ := h2
          rcases h3 with ⟨rfl, rfl, _⟩ | ⟨_, dd, fs, rfl, h4, h5, h6⟩
          · cases ev
          · obtain ⟨u, g1, g2⟩ := lookD_rep h5 h6 ev
            exact ⟨.ref a, h1, rfl, rfl, dd, fs, u, rfl, h4, g1, q u g2⟩
        · cases chk
      · cases chk
theorem his_ok {slot : Nat} (hm : X.mg c = some cls) (hz : Zc cls d oe) (hf : ∃ vs, oe.data = .fields vs) : ∀ (xs : List HI) (es : List Expr), chkHIs X.N X.env.scope slot xs es = true → (∀ x ∈ xs, (∃ v, x.ev ns ds = some v) → x.ob X.K X.mg c) → ∃ t : TA, PA (X.suite a ((a, oe) :: pn)) es t ∧
    ∀ (F H : Hp) (σ : L2.St), Same F H → σ[slot]? = some (some (.ref a)) → ExAt X.w X.K X.mg F H c ns ds cls d → ∀ vs, xs.mapM (HI.ev ns ds) = some vs → ∀ Q : List V → Hp → Prop, (∀ us, Reps X.w X.K X.mg F us vs → Q us H) → t σ H Q
  | [], [], _, _ => ⟨_, pa_nil, fun F H σ s h1 h2 vs hv Q q => by cases (show vs = [] by simpa using hv.symm); exact q [] .nil⟩
  | [], _ :: _, h, _ => by simp [chkHIs] at h
  | _ :: _, [], h, _ => by simp [chkHIs] at h
  | x :: xs, e :: es, h, ob => by
    simp only [chkHIs, Bool.and_eq_true] at h
    obtain ⟨⟨h1, h2⟩, h3⟩ := h
    obtain ⟨te, pe, qe⟩ := hi_ok (ns := ns) (ds := ds) (a := a) (pn := pn) h2 (ob x List.mem_cons_self) hm hz hf
    obtain ⟨ta, pa, qa⟩ := his_ok hm hz hf xs es h3 fun y hy => ob y (List.mem_cons_of_mem _ hy)
    refine ⟨_, pa_cons pe pa (starEach_cons h1), fun F H σ s k1 k2 vs hv Q q => ?_⟩
    rw [List.mapM_cons] at hv
    cases e1 : HI.ev ns ds x with
    | none => rw [e1] at hv; cases hv
    | some v =>
      rw [e1] at hv
      cases e2 : xs.mapM (HI.ev ns ds) with
      | none => rw [e2] at hv; cases hv
      | some vs' =>
        rw [e2] at hv
        obtain rfl : v :: vs' = vs := Option.some.inj hv
        exact qe F H σ s k1 k2 v e1 _ fun u r => qa F H σ s k1 k2 vs' e2 _ fun us rs => q (u :: us) (.cons r rs)
/-- the value that a suite returns -/
theorem he_ok {slot : Nat} {x : HE} {e : Expr} {pos : Pos} (chk : chkHE X.N X.env.scope slot x e = true) (ob : ∀ y : HI, (x = .one y ∨ ∃ ys, x = .tup ys ∧ y ∈ ys) → (∃ v, y.ev ns ds = some v) → y.ob X.K X.mg c) (hm : X.mg c = some cls) (hz : Zc cls d oe) (hf : ∃ vs, oe.data = .fields vs) :
    ∃ t : TE, PE (X.suite a ((a, oe) :: pn)) e t ∧ ∀ (F H : Hp) (σ : L2.St), Same F H → σ[slot]? = some (some (.ref a)) → ExAt X.w X.K X.mg F H c ns ds cls d → ∀ v, x.ev ns ds = some v → ∀ Q : VK, (∀ u F1 H1, Step F H F1 H1 → Rep X.w X.K X.mg F1 u v → Q u H1) → t σ H Q := by
  cases x with
  | one y =>
    obtain ⟨t, p, q⟩ := hi_ok (ns := ns) (ds := ds) (a := a) (pn := pn) chk (ob y (.inl rfl)) hm hz hf
    exact ⟨t, p, fun F H σ s h1 h2 v hv Q hQ => q F H σ s h1 h2 v hv Q fun u r => hQ u F H (Step.refl s) r⟩
  | tup ys =>
    simp only [chkHE] at chk
    split at chk
    · rename_i es hx
      obtain ⟨kk, p, rfl⟩ := asTup_eq hx
      simp only [Bool.and_eq_true, decide_eq_true_eq] at chk
      obtain ⟨t, pt, q⟩ := his_ok (ns := ns) (ds := ds) (a := a) (pn := pn) hm hz hf ys es chk.2 fun y hy => ob y (.inr ⟨ys, rfl, hy⟩)
      refine ⟨_, pe_tup pt, fun F H σ s h1 h2 v hv Q hQ => ?_⟩
      obtain ⟨vs, hvs, rfl⟩ := Option.map_eq_some_iff.mp hv
      refine q F H σ s h1 h2 vs hvs _ fun us rs => ⟨?_, fun pp hp => ?_⟩
      · have l1 : vs.length = ys.length := by
          have : ∀ (ys : List HI) (vs : List D), ys.mapM (HI.ev ns ds) = some vs → vs.length = ys.length := by
            intro ys
            induction ys with
            | nil => intro vs h; cases (show vs = [] by simpa using h.symm); rfl
            | cons y ys ih =>
              intro vs h
              rw [List.mapM_cons] at h
              cases e1 : HI.ev ns ds y with
              | none => rw [e1] at h; cases h
              | some v =>
                rw [e1] at h
                cases e2 : ys.mapM (HI.ev ns ds) with
                | none => rw [e2] at h; cases h
                | some vs' =>
                  rw [e2] at h
                  obtain rfl : v :: vs' = vs := Option.some.inj h
                  simp [ih vs' e2]
          exact this ys vs hvs
        have l2 : ys.length = es.length := by
          have : ∀ (ys : List HI) (es : List Expr), chkHIs X.N X.env.scope slot ys es = true → ys.length = es.length := by
            intro ys
            induction ys with
            | nil => intro es h; cases es with
              | nil => rfl
              | cons _ _ => simp [chkHIs] at h
            | cons y ys ih => intro es h; cases es with
              | nil => simp [chkHIs] at h
              | cons e es =>
                simp only [chkHIs, Bool.and_eq_true] at h
                simp [ih es h.2]
          exact this ys es chk.2
        rw [rs.length, l1, l2, sizeLine_eq]
        omega
      · have st := Step.new (o := .tup us) s hp
        exact hQ _ _ _ st (.tup (SqT.of upd_same) (Reps.mono st.ff _ rs))
    · cases chk
end
/-! ### the tests of a suite -/
/-- isinstance of an error of class c and the class k -/
def IsT (K : PySem.W.Frag) (mg : Str → Option Value) (c k : Str) (b : Bool) : Prop := ∃ (D : Addr) (cv : Value) (vv : V), mg c = some (.ref D) ∧ ExcC K D ∧ (mg k = some cv ∨ (mg k = none ∧ bootBuiltins k = some cv ∧ k ≠ "__name__")) ∧ RelV vv cv ∧ (∀ u, RelV vv u → u = cv) ∧ PySem.W.kitOne K (.ref D) cv = some b
def chkIs (s : SC) (slot : Nat) (k : Str) (e : Expr) : Bool := match asCall e with
  | some (g, [v, kk]) => (match asName g, asName kk with
    | some y, some z => decide (y = ("isinstance" : Str)) && glC s.sc y && decide (z = k) && glC s.sc z && nostar v && nostar kk && chkV s.N s.sc slot v
    | _, _ => false)
  | _ => false
def chkC1 (s : SC) (slot : Nat) : Str × Bool → Expr → Bool
  | (k, true), e => chkIs s slot k e
  | (k, false), e => match asUn e with
    | some (o, x) => decide (o = .Not) && chkIs s slot k x
    | none => false
def chkCs (s : SC) (slot : Nat) : List (Str × Bool) → List Expr → Bool
  | [], [] => true
  | p :: ps, e :: es => chkC1 s slot p e && chkCs s slot ps es
  | _, _ => false
section
variable {X : Cx} {a : Addr} {oe : Obj} {pn : List (Addr × Obj)} {cls : Value} {d : Option Addr} {c : Str} {ns : List Str} {ds : List D} {s : SC} {slot : Nat}
/-- what a suite stands in -/
structure SOk (s : SC) (X : Cx) : Prop where
  N : X.N = s.N
  sc : X.env.scope = s.sc
  is : X.mg "isinstance" = none
theorem SOk.gl {x : Str} (h : SOk s X) (hv : glC s.sc x = true) : Gl X x ∧ (x == ("__debug__" : Str)) = false := by
  unfold glC at hv
  simp only [Bool.and_eq_true, Bool.not_eq_true'] at hv
  obtain ⟨h1, h2⟩ := hv
  refine ⟨?_, h2⟩
  show X.env.scope.names.lookup x = some .globalImplicit
  rw [h.sc]
  split at h1
  · assumption
  · cases h1
def PTo (X : Cx) (a : Addr) (oe : Obj) (pn : List (Addr × Obj)) (slot : Nat) (c : Str) (ns : List Str) (ds : List D) (cls : Value) (d : Option Addr) (r : Option Bool) (t : TT) : Prop :=
  ∀ (F H : Hp) (σ : L2.St), Same F H → σ[slot]? = some (some (.ref a)) → ExAt X.w X.K X.mg F H c ns ds cls d → ∀ v, r = some v → ∀ Q : Bool → Hp → Prop, Q v H → t σ H Q
theorem is_ok {k : Str} {e : Expr} {r : Option Bool} (ok : SOk s X) (chk : chkIs s slot k e = true) (ob : ∀ b, r = some b → IsT X.K X.mg c k b) (hm : X.mg c = some cls) (hz : Zc cls d oe) (hf : ∃ vs, oe.data = .fields vs) :
    ∃ t : TT, PT (X.suite a ((a, oe) :: pn)) e t ∧ PTo X a oe pn slot c ns ds cls d r t := by
  cases r with
  | none => exact ⟨fun _ _ _ => False, ⟨fun _ _ _ _ _ _ h => h.elim⟩, fun F H σ _ _ _ v h => by cases h⟩
  | some b =>
    obtain ⟨D, cv, vv, h1, C, h2, h3, h4, h5⟩ := ob b rfl
    rw [hm] at h1; cases h1
    unfold chkIs at chk
    split at chk
    · rename_i g v kk hx
      obtain ⟨p, rfl⟩ := asCall_eq hx
      split at chk
      · rename_i y z hy hz'
        obtain ⟨p1, rfl⟩ := asName_eq hy
        obtain ⟨p2, rfl⟩ := asName_eq hz'
        simp only [Bool.and_eq_true, decide_eq_true_eq] at chk
        obtain ⟨⟨⟨⟨⟨⟨rfl, g1⟩, rfl⟩, g2⟩, g3⟩, g4⟩, g5⟩ := chk
        unfold chkV at g5
        split at g5
        · rename_i w hw
          obtain ⟨p3, rfl⟩ := asName_eq hw
          simp only [Bool.and_eq_true, decide_eq_true_eq] at g5
          obtain ⟨n0, vz⟩ := g5
          rw [← ok.sc] at vz
          rw [← ok.N] at n0
          obtain ⟨v1, v2, v3⟩ := visC_ok vz
          have hk : PE (X.suite a ((a, oe) :: pn)) (.Name z p2) (tC vv) := by
            rcases h2 with h2 | ⟨h2, h2', h2''⟩
            · exact pe_glob (X := X.suite a ((a, oe) :: pn)) (ok.gl g2).1 h2 h3 (ok.gl g2).2
            · exact pe_bltn (X := X.suite a ((a, oe) :: pn)) (ok.gl g2).1 h2 h2' h3 h2'' (ok.gl g2).2
          refine ⟨_, pt_val (pe_callB (X := X.suite a ((a, oe) :: pn)) (call_isX (d := d) C hz hf) (ok.gl g1).1 ok.is (show bootBuiltins ("isinstance" : Str) = some (.builtin "isinstance") from PyProof.Rows.boot_isinstance) (pa_cons (pe_var (X := X.suite a ((a, oe) :: pn)) n0 v1 v2 v3) (pa_cons hk pa_nil (starEach_cons g4)) (starEach_cons g3)) (by decide) (by decide) (starEach_cons g3) (backTo_plain (by simp [g4]))), fun F H σ sm k1 k2 v hv Q q => ?_⟩
          cases hv
          obtain ⟨C', e1, e2, e3⟩ := k2
          refine ⟨.ref a, k1, vv, cv, b, rfl, h4, h5, ?_, b, rfl, q⟩
          rcases e3 with ⟨_, _, rfl⟩ | ⟨_, dd, fs, rfl, e4, _⟩
          · exact .inl rfl
          · exact .inr ⟨dd, fs, rfl, e4⟩
        · cases g5
      · cases chk
    · cases chk
/-- one test's answer -/
def c1V (sub : Str → Str → Option Bool) (c : Str) (p : Str × Bool) : Option Bool := (sub c p.1).map fun v => v == p.2
theorem c1_ok {p : Str × Bool} {e : Expr} {sub : Str → Str → Option Bool} (ok : SOk s X) (chk : chkC1 s slot p e = true) (ob : ∀ b, sub c p.1 = some b → IsT X.K X.mg c p.1 b) (hm : X.mg c = some cls) (hz : Zc cls d oe) (hf : ∃ vs, oe.data = .fields vs) :
    ∃ t : TT, PT (X.suite a ((a, oe) :: pn)) e t ∧ PTo X a oe pn slot c ns ds cls d (c1V sub c p) t := by
  obtain ⟨k, b⟩ := p
  cases b with
  | true =>
    obtain ⟨t, p1, q1⟩ := is_ok (ns := ns) (ds := ds) (a := a) (pn := pn) ok (show chkIs s slot k e = true from chk) ob hm hz hf
    refine ⟨t, p1, fun F H σ sm k1 k2 v hv Q q => ?_⟩
    unfold c1V at hv
    cases e1 : sub c k with
    | none => rw [e1] at hv; cases hv
    | some w =>
      rw [e1] at hv
      have : v = w := by cases w <;> (cases hv; rfl)
      subst this
      exact q1 F H σ sm k1 k2 v e1 Q q
  | false =>
    simp only [chkC1] at chk
    split at chk
    · rename_i o x hx
      obtain ⟨pp, rfl⟩ := asUn_eq hx
      simp only [Bool.and_eq_true, decide_eq_true_eq] at chk
      obtain ⟨rfl, chk⟩ := chk
      obtain ⟨t, p1, q1⟩ := is_ok (ns := ns) (ds := ds) (a := a) (pn := pn) ok chk ob hm hz hf
      refine ⟨_, pt_not p1, fun F H σ sm k1 k2 v hv Q q => ?_⟩
      unfold c1V at hv
      cases e1 : sub c k with
      | none => rw [e1] at hv; cases hv
      | some w =>
        rw [e1] at hv
        have : v = !w := by cases w <;> (cases hv; rfl)
        subst this
        exact q1 F H σ sm k1 k2 w e1 (fun c H1 => Q (!c) H1) q
    · cases chk
theorem cs_ok {sub : Str → Str → Option Bool} (ok : SOk s X) (hm : X.mg c = some cls) (hz : Zc cls d oe) (hf : ∃ vs, oe.data = .fields vs) {pos : Pos} : ∀ (ps : List (Str × Bool)) (es : List Expr), es ≠ [] → chkCs s slot ps es = true → (∀ p ∈ ps, ∀ b, sub c p.1 = some b → IsT X.K X.mg c p.1 b) →
    ∃ t : TT, PW (X.suite a ((a, oe) :: pn)) (.BoolOp .And es pos) t ∧ PTo X a oe pn slot c ns ds cls d (condsV sub c ps) t
  | [], [], h, _, _ => absurd rfl h
  | [], _ :: _, _, h, _ => by simp [chkCs] at h
  | _ :: _, [], _, h, _ => by simp [chkCs] at h
  | p :: ps, e :: es, _, h, ob => by
    simp only [chkCs, Bool.and_eq_true] at h
    obtain ⟨h1, h2⟩ := h
    obtain ⟨t, p1, q1⟩ := c1_ok (ns := ns) (ds := ds) (a := a) (pn := pn) ok h1 (ob p List.mem_cons_self) hm hz hf
    cases es with
    | nil =>
      cases ps with
      | cons _ _ => simp [chkCs] at h2
      | nil =>
        refine ⟨t, pw_and1 p1, fun F H σ sm k1 k2 v hv Q q => q1 F H σ sm k1 k2 v ?_ Q q⟩
        unfold condsV at hv
        unfold c1V
        cases e1 : sub c p.1 with
        | none => rw [e1] at hv; cases hv
        | some w =>
          rw [e1] at hv
          show some (w == p.2) = some v
          have hv' : (if (w == p.2) = true then some true else some false) = some v := hv
          cases hw : (w == p.2) <;> rw [hw] at hv' <;> exact hv'
    | cons e2 es =>
      obtain ⟨u, pu, qu⟩ := cs_ok ok hm hz hf (pos := pos) ps (e2 :: es) (by simp) h2 fun q hq => ob q (List.mem_cons_of_mem _ hq)
      refine ⟨_, pw_and p1 pu, fun F H σ sm k1 k2 v hv Q q => ?_⟩
      unfold condsV at hv
      cases e1 : sub c p.1 with
      | none => rw [e1] at hv; cases hv
      | some w =>
        rw [e1] at hv
        have hv' : (if (w == p.2) = true then condsV sub c ps else some false) = some v := hv
        refine q1 F H σ sm k1 k2 (w == p.2) (by unfold c1V; rw [e1]; rfl) (fun c1 H1 => if c1 = true then u σ H1 Q else Q false H1) ?_
        cases hw : (w == p.2) with
        | true =>
          rw [hw, if_pos rfl] at hv'
          rw [if_pos rfl]
          exact qu F H σ sm k1 k2 v hv' Q q
        | false =>
          rw [hw, if_neg Bool.false_ne_true] at hv'
          cases hv'
          rw [if_neg Bool.false_ne_true]
          exact q
/-! ### a suite -/
def chkHd (s : SC) (h : Hd) : List Stmt → Bool
  | [.Return (some e) _] => h.conds.isEmpty && h.els.isNone && chkHE s.N s.sc h.slot h.thn e
  | .If c [.Return (some e) _] [] _ :: rest => !h.conds.isEmpty && chkHE s.N s.sc h.slot h.thn e && (match asBool c with
    | some (o, es) => decide (o = .And) && !es.isEmpty && chkCs s h.slot h.conds es
    | none => (match h.conds with
      | [p] => chkC1 s h.slot p c
      | _ => false)) && (match h.els, rest with
    | none, [] => true
    | some x, [.Return (some e2) _] => chkHE s.N s.sc h.slot x e2
    | _, _ => false)
  | _ => false
/-- what comes of it -/
def Hd.run (sub : Str → Str → Option Bool) (h : Hd) (st : SD) (c : Str) (ns : List Str) (ds : List D) : O := match condsV sub c h.conds with
  | some true => (match h.thn.ev ns ds with
    | some v => .rt v
    | none => .un)
  | some false => (match h.els with
    | some x => (match x.ev ns ds with
      | some v => .rt v
      | none => .un)
    | none => .nx (st.set h.slot none))
  | none => .un
/-- what a suite asks to be known -/
def HE.items : HE → List HI
  | .one x => [x]
  | .tup xs => xs
def Hd.ob (K : PySem.W.Frag) (mg : Str → Option Value) (sub : Str → Str → Option Bool) (c : Str) (ns : List Str) (ds : List D) (h : Hd) : Prop :=
  (∀ p ∈ h.conds, ∀ b, sub c p.1 = some b → IsT K mg c p.1 b) ∧ (∀ x ∈ h.thn.items, (∃ v, x.ev ns ds = some v) → x.ob K mg c) ∧ ∀ y, h.els = some y → ∀ x ∈ y.items, (∃ v, x.ev ns ds = some v) → x.ob K mg c
def HdO (X : Cx) (a : Addr) (slot : Nat) (c : Str) (ns : List Str) (ds : List D) (cls : Value) (d : Option Addr) (o : Option (Option D)) (t : TS) : Prop :=
  ∀ (F H : Hp) (σ : L2.St), Same F H → σ[slot]? = some (some (.ref a)) → ExAt X.w X.K X.mg F H c ns ds cls d → ∀ r, o = some r → ∀ Dn : Ends, (match r with
    | some v => ∀ u F1 H1, Step F H F1 H1 → Rep X.w X.K X.mg F1 u v → Dn.rt u H1
    | none => Dn.nx σ H) → t Dn σ H
theorem he_ob {K : PySem.W.Frag} {mg : Str → Option Value} {x : HE} (h : ∀ y ∈ x.items, (∃ v, y.ev ns ds = some v) → y.ob K mg c) : ∀ y : HI, (x = .one y ∨ ∃ ys, x = .tup ys ∧ y ∈ ys) → (∃ v, y.ev ns ds = some v) → y.ob K mg c := fun y hy => by
  rcases hy with rfl | ⟨ys, rfl, hy⟩
  · exact h y (by simp [HE.items])
  · exact h y hy
def elsA (ns : List Str) (ds : List D) : Option HE → Option (Option D)
  | some x => (x.ev ns ds).map some
  | none => some none
/-- the answer: what is returned, or on -/
def Hd.ans (sub : Str → Str → Option Bool) (h : Hd) (c : Str) (ns : List Str) (ds : List D) : Option (Option D) := match condsV sub c h.conds with
  | some true => (h.thn.ev ns ds).map some
  | some false => elsA ns ds h.els
  | none => none
theorem ret_ok {x : HE} {e : Expr} {p : Pos} (ok : SOk s X) (chk : chkHE s.N s.sc slot x e = true) (ob : ∀ y ∈ x.items, (∃ v, y.ev ns ds = some v) → y.ob X.K X.mg c) (hm : X.mg c = some cls) (hz : Zc cls d oe) (hf : ∃ vs, oe.data = .fields vs) :
    ∃ t : TS, PSs (X.suite a ((a, oe) :: pn)) [.Return (some e) p] t ∧ HdO X a slot c ns ds cls d ((x.ev ns ds).map some) t := by
  rw [← ok.N, ← ok.sc] at chk
  obtain ⟨t, pt, q⟩ := he_ok (ns := ns) (ds := ds) (a := a) (pn := pn) (pos := p) chk (he_ob ob) hm hz hf
  refine ⟨_, pss_cons (ps_ret pt) pss_nil, fun F H σ sm k1 k2 r hr Dn hD => ?_⟩
  obtain ⟨v, hv, rfl⟩ := Option.map_eq_some_iff.mp hr
  exact q F H σ sm k1 k2 v hv _ fun u F1 H1 st rp => hD u F1 H1 st rp
theorem hd_ok {sub : Str → Str → Option Bool} {h : Hd} {suite : List Stmt} (ok : SOk s X) (chk : chkHd s h suite = true) (ob : h.ob X.K X.mg sub c ns ds) (hm : X.mg c = some cls) (hz : Zc cls d oe) (hf : ∃ vs, oe.data = .fields vs) :
    ∃ t : TS, PSs (X.suite a ((a, oe) :: pn)) suite t ∧ HdO X a h.slot c ns ds cls d (h.ans sub c ns ds) t := by
  obtain ⟨cl, sl, conds, thn, els⟩ := h
  obtain ⟨ob1, ob2, ob3⟩ := ob
  unfold chkHd at chk
  split at chk
  · rename_i e p
    simp only [Bool.and_eq_true] at chk
    obtain ⟨⟨h1, h2⟩, h3⟩ := chk
    obtain ⟨t, pt, q⟩ := ret_ok (ns := ns) (ds := ds) (a := a) (pn := pn) (p := p) ok h3 ob2 hm hz hf
    have hc : conds = [] := by simpa using h1
    subst hc
    exact ⟨t, pt, q⟩
  · rename_i tc e p p2 rest
    simp only [Bool.and_eq_true, Bool.not_eq_true'] at chk
    obtain ⟨⟨⟨h1, h2⟩, h3⟩, h4⟩ := chk
    obtain ⟨t1, pt1, q1⟩ := ret_ok (ns := ns) (ds := ds) (a := a) (pn := pn) (p := p) ok h2 ob2 hm hz hf
    have test : ∃ t : TT, PT (X.suite a ((a, oe) :: pn)) tc t ∧ PTo X a oe pn sl c ns ds cls d (condsV sub c conds) t := by
      split at h3
      · rename_i o es hx
        obtain ⟨pp, rfl⟩ := asBool_eq hx
        simp only [Bool.and_eq_true, decide_eq_true_eq, Bool.not_eq_true'] at h3
        obtain ⟨⟨rfl, h5⟩, h6⟩ := h3
        obtain ⟨t, pt, q⟩ := cs_ok (ns := ns) (ds := ds) (a := a) (pn := pn) (pos := pp) ok hm hz hf conds es (by intro z; subst z; cases h5) h6 ob1
        exact ⟨t, pt.pt, q⟩
      · split at h3
        · rename_i pr
          obtain ⟨t, pt, q⟩ := c1_ok (ns := ns) (ds := ds) (a := a) (pn := pn) ok h3 (ob1 pr List.mem_cons_self) hm hz hf
          refine ⟨t, pt, fun F H σ sm k1 k2 v hv Q hQ => q F H σ sm k1 k2 v ?_ Q hQ⟩
          unfold condsV at hv
          unfold c1V
          cases e1 : sub c pr.1 with
          | none => rw [e1] at hv; cases hv
          | some w =>
            rw [e1] at hv
            show some (w == pr.2) = some v
            have hv' : (if (w == pr.2) = true then some true else some false) = some v := hv
            cases hw : (w == pr.2) <;> rw [hw] at hv' <;> exact hv'
        · cases h3
    obtain ⟨t, pt, q⟩ := test
    have tail : ∃ u : TS, PSs (X.suite a ((a, oe) :: pn)) rest u ∧ HdO X a sl c ns ds cls d (elsA ns ds els) u := by
      split at h4
      · exact ⟨_, pss_nil, fun F H σ sm k1 k2 r hr Dn hD => by cases hr; exact hD⟩
      · rename_i x e2 p3
        exact ret_ok (ns := ns) (ds := ds) (a := a) (pn := pn) (p := p3) ok h4 (ob3 x rfl) hm hz hf
      · cases h4
    obtain ⟨u, pu, qu⟩ := tail
    refine ⟨_, pss_cons (ps_if pt pt1 pss_nil) pu, fun F H σ sm k1 k2 r hr Dn hD => ?_⟩
    unfold Hd.ans at hr
    cases ev : condsV sub c conds with
    | none => rw [ev] at hr; cases hr
    | some b =>
      rw [ev] at hr
      refine q F H σ sm k1 k2 b ev _ ?_
      cases b with
      | true =>
        rw [if_pos rfl]
        refine q1 F H σ sm k1 k2 r hr _ ?_
        obtain ⟨v, hv, rfl⟩ := Option.map_eq_some_iff.mp hr
        exact hD
      | false =>
        rw [if_neg Bool.false_ne_true]
        exact qu F H σ sm k1 k2 r hr Dn hD
  · cases chk
end
end Dl

/-! DlY: try with one except clause. -/
namespace Dl
open PySem PySem.Spec PyProof.Rows L2

/-- whether the clause of class k takes an error of class c -/
def MatchT (K : PySem.W.Frag) (mg : Str → Option Value) (c k : Str) (b : Bool) : Prop := ∃ (D A : Addr), mg c = some (.ref D) ∧ mg k = some (.ref A) ∧ PySem.W.exmOne K (.ref D) (.ref A) = some b
/-- what the statement does -/
def tryO (sub : Str → Str → Option Bool) (h : Hd) : O → O
  | .ex st c ns ds => (match sub c h.cls with
    | some true => if h.slot < st.length then (match h.ans sub c ns ds with
      | some (some v) => .rt v
      | some none => .nx (st.set h.slot none)
      | none => .un) else .un
    | some false => .ex st c ns ds
    | none => .un)
  | o => o
/-- what the clause asks to be known -/
def Hd.know (K : PySem.W.Frag) (mg : Str → Option Value) (sub : Str → Str → Option Bool) (h : Hd) : Prop :=
  (∃ A : Addr, mg h.cls = some (.ref A)) ∧ ∀ (c : Str) (ns : List Str) (ds : List D), (∀ b, sub c h.cls = some b → MatchT K mg c h.cls b) ∧ (sub c h.cls = some true → h.ob K mg sub c ns ds)
section
variable {X : Cx} {W : WX} {own lo : List Nat} {s : SC} {pos : Pos}
theorem es_try1 {sub : Str → Str → Option Bool} {h : Hd} {body : List Stmt} {b₀ : Stmt} {suite : List Stmt} {n : Str} {np pos' : Pos} {gb : SD → O} (ok : SOk s X) (hs : X.stack = X.env :: X.outer) (hf : X.env.frame = some X.env.locals) (hN : X.N.Nodup) (hi : X.N[h.slot]? = some n) (hln : X.env.kindOf n = some .local)
    (hg : Gl X h.cls) (hdb : (h.cls == ("__debug__" : Str)) = false) (tk : Takes X W) (chk : chkHd s h (b₀ :: suite) = true) (kn : h.know X.K X.mg sub)
    (hb : ∀ (W' : WX) (pn : List (Addr × Obj)) (xe : Value → Shared → Prop), Takes (X.tr pn xe) W' → PassesOwn (model X.prog X.w) X.A X.env xe → ESs (X.tr pn xe) W' own body gb ⟨[], lo, lo⟩) :
    ES X W own (.Try body [.ExceptHandler (some (.Name h.cls np)) (some n) (b₀ :: suite) pos'] [] [] pos) (fun st => tryO sub h (gb st)) ⟨[], lo, lo⟩ := by
  obtain ⟨⟨A, hA⟩, kn⟩ := kn
  refine ⟨_, ps_try_as (X := X) (c := .ref A) (i := h.slot) (tb := fun W' => fun Dn σ H => ∀ pn xe, Takes (X.tr pn xe) W' → PassesOwn (model X.prog X.w) X.A X.env xe → ∃ t, PSs (X.tr pn xe) body t ∧ t Dn σ H)
    (ts := fun a cls d => fun Dn σ H => ∀ oe pn, Zc cls d oe → (∃ vs, oe.data = .fields vs) → ∃ t, PSs (X.suite a ((a, oe) :: pn)) (b₀ :: suite) t ∧ t Dn σ H) (Wout := W) hs hf hN hi hln ⟨hg, hdb, .inl hA⟩ tk (fun W' pn xe h1 h2 => ⟨fun pins s1 σ H D I q => ?_⟩) (fun a oe cls d pn h1 h2 => ⟨fun pins s1 σ H D I q => ?_⟩), fun H0 F0 F H σ st s0 rl => ?_⟩
  · obtain ⟨t, pt, qt⟩ := q pn xe h1 h2
    exact pt.run pins s1 σ H D I qt
  · obtain ⟨t, pt, qt⟩ := q oe pn h1 h2
    exact pt.run pins s1 σ H D I qt
  · -- what the body does, whatever the wish
    have core : ∀ (W' : WX) (Dn : Ends), (∀ pn xe, Takes (X.tr pn xe) W' → PassesOwn (model X.prog X.w) X.A X.env xe → ∃ t, PSs (X.tr pn xe) body t ∧ AtS (X.tr pn xe) W' H0 F0 F ⟨[], lo, lo⟩ (fun Dn => t Dn σ H) (gb st)) := fun W' Dn pn xe t1 t2 => by
      obtain ⟨t, pt, qt⟩ := hb W' pn xe t1 t2
      exact ⟨t, pt, qt H0 F0 F H σ st s0 rl⟩
    show AtS X W H0 F0 F ⟨[], lo, lo⟩ _ (tryO sub h (gb st))
    cases e : gb st with
    | un => trivial
    | nx st1 => exact fun Dn hD => fun pn xe t1 t2 => by obtain ⟨t, pt, qt⟩ := core _ Dn pn xe t1 t2; rw [e] at qt; exact ⟨t, pt, qt Dn hD⟩
    | rt d => exact fun Dn hD => fun pn xe t1 t2 => by obtain ⟨t, pt, qt⟩ := core _ Dn pn xe t1 t2; rw [e] at qt; exact ⟨t, pt, qt Dn hD⟩
    | bk st1 => exact fun Dn hD => fun pn xe t1 t2 => by obtain ⟨t, pt, qt⟩ := core _ Dn pn xe t1 t2; rw [e] at qt; exact ⟨t, pt, qt Dn hD⟩
    | ct st1 => exact fun Dn hD => fun pn xe t1 t2 => by obtain ⟨t, pt, qt⟩ := core _ Dn pn xe t1 t2; rw [e] at qt; exact ⟨t, pt, qt Dn hD⟩
    | ex st1 c ns ds =>
      obtain ⟨km, ko⟩ := kn c ns ds
      cases es : sub c h.cls with
      | none => show AtS X W H0 F0 F _ _ (match sub c h.cls with | some true => _ | some false => _ | none => _); rw [es]; trivial
      | some b =>
        obtain ⟨D, A', m1, m2, m3⟩ := km b es
        rw [hA] at m2; cases m2
        cases b with
        | false =>
          show AtS X W H0 F0 F _ _ (match sub c h.cls with | some true => _ | some false => _ | none => _)
          rw [es]
          refine fun Dn hD => fun pn xe t1 t2 => ?_
          obtain ⟨t, pt, qt⟩ := core _ Dn pn xe t1 t2
          rw [e] at qt
          refine ⟨t, pt, qt Dn fun cls d σ1 F1 H1 g1 g2 g3 g4 => ?_⟩
          obtain ⟨C', e1, e2, e3⟩ := id g4
          rw [m1] at e2; cases e2
          subst e1
          exact ⟨false, m3, (fun z => nomatch z), fun _ => hD _ d σ1 F1 H1 g1 g2 g3 g4⟩
        | true =>
          have obs := ko es
          show AtS X W H0 F0 F _ _ (match sub c h.cls with | some true => _ | some false => _ | none => _)
          rw [es]
          dsimp only
          by_cases hl : h.slot < st1.length
          case neg => rw [if_neg hl]; trivial
          rw [if_pos hl]
          cases ea : h.ans sub c ns ds with
          | none => trivial
          | some r =>
            have key : ∀ (Dn : Ends), (∀ σ1 F1 H1, Step F0 H0 F1 H1 → Same F F1 → SRel X.w X.K X.mg [] H0 F1 H1 σ1 st1 → (match r with
                | some v => ∀ u F2 H2, Step F1 H1 F2 H2 → Rep X.w X.K X.mg F2 u v → Dn.rt u H2
                | none => Dn.nx (σ1.set h.slot none) H1)) → ∀ pn xe, Takes (X.tr pn xe) (wAs X.K (.ref A) h.slot (fun a cls d => fun Dn σ H => ∀ oe pn, Zc cls d oe → (∃ vs, oe.data = .fields vs) → ∃ t, PSs (X.suite a ((a, oe) :: pn)) (b₀ :: suite) t ∧ t Dn σ H) W Dn) → PassesOwn (model X.prog X.w) X.A X.env xe → ∃ t, PSs (X.tr pn xe) body t ∧ t Dn σ H := fun Dn hD pn xe t1 t2 => by
              obtain ⟨t, pt, qt⟩ := core _ Dn pn xe t1 t2
              rw [e] at qt
              refine ⟨t, pt, qt Dn fun cls d σ1 F1 H1 g1 g2 g3 g4 => ?_⟩
              obtain ⟨C', e1, e2, e3⟩ := id g4
              rw [m1] at e2; cases e2
              subst e1
              refine ⟨true, m3, fun _ a ha oe pn2 hz hfl => ?_, (fun z => nomatch z)⟩
              obtain ⟨t3, pt3, q3⟩ := hd_ok (a := a) (pn := pn2) ok chk obs m1 hz hfl
              have hlen : h.slot < σ1.length := by rw [g3.len]; exact hl
              refine ⟨t3, pt3, q3 F1 H1 (σ1.set h.slot (some (.ref a))) g1.fh (List.getElem?_set_self hlen) g4 r ea _ ?_⟩
              have hD' := hD σ1 F1 H1 g1 g2 g3
              cases r with
              | some v => exact hD'
              | none =>
                show Dn.nx ((σ1.set h.slot (some (.ref a))).set h.slot none) H1
                rw [List.set_set]; exact hD'
            cases r with
            | some v => exact fun Dn hD => key Dn fun σ1 F1 H1 g1 g2 g3 u F2 H2 k1 k2 => hD u F2 H2 (g1.trans k1) (g2.trans k1.ff) k2
            | none => exact fun Dn hD => key Dn fun σ1 F1 H1 g1 g2 g3 => hD (σ1.set h.slot none) F1 H1 g1 g2 (g3.setN h.slot)
end
end Dl

/-! DlQ: statements as data, their meaning, the look at them. -/
namespace Dl
open PySem PySem.Spec PyProof.Rows L2

mutual
inductive IS where
  | pass | brk | cnt | retN | nev
  | set (i : Nat) (ow : Bool) (e : IE)
  | unp (g : Tg) (e : IE)
  | me (m : Me) (i : Nat) (dst : Option Nat) (args : IEs)
  | apPop (i j : Nat) (args : IEs)
  | setix (i : Nat) (k e : IE)
  | setd (i : Nat) (k e : IE)
  | expr (e : IE)
  | ret (e : IE)
  | ifs (c : IE) (a b : ISs)
  | fors (O1 : List Nat) (g : Tg) (src : ISrc) (body : ISs)
  | whiles (O1 : List Nat) (fuel : SD → Nat) (c : IE) (body : ISs)
  | frz (fz : List Nat) (s : IS)
  | raise (c : Str) (fs : Flds) (args : IEs)
  | trys (sub : Str → Str → Option Bool) (h : Hd) (body : ISs)
inductive ISs where
  | nil | cons (s : IS) (ss : ISs)
end
def raiseO (c : Str) (fs : Flds) (n : Nat) (st : SD) (ds : List D) : O := match fldsD fs ds with
  | some out => if ds.length = n then .ex st c (fs.reverse.map (·.1)) out else .un
  | none => .un
mutual
def execS : IS → SD → O
  | .pass, st => .nx st
  | .brk, st => .bk st
  | .cnt, st => .ct st
  | .retN, _ => .rt .non
  | .nev, _ => .un
  | .set i _ e, st => (evE e st).toO st fun d => .nx (st.set i (some d))
  | .unp g e, st => (evE e st).toO st fun d => (bindT g d st).toO st .nx
  | .me m i dst args, st => meO m i dst st (seqL (evL args) st)
  | .apPop i j args, st => apPopO i j st (seqL (evL args) st)
  | .setix i k e, st => setItem i st (evE k st) (evE e st)
  | .setd i k e, st => setKey i st (evE k st) (evE e st)
  | .expr e, st => (evE e st).toO st fun _ => .nx st
  | .ret e, st => (evE e st).toO st .rt
  | .ifs c a b, st => (tR (evE c st)).toO st fun k => if k = true then execL a st else execL b st
  | .fors _ g src body, st => (evI src st).toO st fun items => forL (bindT g) (execL body) items st
  | .whiles _ fuel c body, st => whileL (fun st => tR (evE c st)) (execL body) (fuel st) st
  | .frz _ s, st => execS s st
  | .raise c fs args, st => (seqL (evL args) st).toO st fun ds => raiseO c fs (IEs.len args) st ds
  | .trys sub h body, st => tryO sub h (execL body st)
def execL : ISs → SD → O
  | .nil, st => .nx st
  | .cons s ss, st => (execS s st).bind (execL ss)
end

/-! ### the look -/
inductive Rs where
  | bad | stop | go (own : List Nat)
def Rs.join : Rs → Rs → Rs
  | .bad, _ => .bad
  | _, .bad => .bad
  | .stop, r => r
  | .go a, .stop => .go a
  | .go a, .go b => .go (a.filter b.contains)
def Rs.when (c : Bool) (r : Rs) : Rs := match c with
  | true => r
  | false => .bad
def sub (a b : List Nat) : Bool := a.all b.contains
theorem sub_ok {a b : List Nat} (h : sub a b = true) : ∀ j ∈ a, j ∈ b := by
  unfold sub at h
  rw [List.all_eq_true] at h
  intro j hj
  simpa using h j hj
def notComp : Expr → Bool
  | .ListComp _ _ _ _ => false
  | .SetComp _ _ _ _ => false
  | .DictComp _ _ _ _ _ => false
  | _ => true
theorem notComp_ok {e : Expr} {t : Option Expr} {l : Nat} {env : Env} (h : notComp e = true) : swapsWith e t l env = pure false := by
  cases e <;> first | rfl | cases h
def asAssign : Stmt → Option (Expr × Expr)
  | .Assign [t] e _ => some (t, e)
  | _ => none
theorem asAssign_eq {s : Stmt} {t e : Expr} (h : asAssign s = some (t, e)) : ∃ p, s = .Assign [t] e p := by
  unfold asAssign at h
  split at h
  · simp only [Option.some.injEq, Prod.mk.injEq] at h; obtain ⟨rfl, rfl⟩ := h; exact ⟨_, rfl⟩
  · cases h
def asMeth : Expr → Option (Str × Str × List Expr)
  | .Call (.Attribute (.Name x _) m ap) es [] cp => if ap.endLine == cp.line then some (x, m, es) else none
  | _ => none
theorem asMeth_eq {e : Expr} {x m : Str} {es : List Expr} (h : asMeth e = some (x, m, es)) : ∃ p1 ap cp, e = .Call (.Attribute (.Name x p1) m ap) es [] cp ∧ (ap.endLine == cp.line) = true := by
  unfold asMeth at h
  split at h
  · split at h
    · rename_i hl
      simp only [Option.some.injEq, Prod.mk.injEq] at h
      obtain ⟨rfl, rfl, rfl⟩ := h
      exact ⟨_, _, _, rfl, hl⟩
    · cases h
  · cases h
/-- the comprehension that swaps with the name it is stored to -/
def swapsLc (s : SC) (x : Str) (px : Pos) : Expr → Bool
  | .ListComp _ _ scope pos => (match s.sc.kind with
    | .function => true
    | _ => false) && decide (s.sc.names.lookup x = some .local) && (px.line == pos.line) && !(scope.names.any fun (n, k) => n == x && (k == .local || k == .cell))
  | _ => false
/-- the comprehension that is stored to a cell: no swap -/
def cellLc (s : SC) (x : Str) : Expr → Bool
  | .ListComp _ _ _ _ => decide (s.sc.names.lookup x = some .cell)
  | _ => false
def isLc : IE → Bool
  | .comp _ _ _ _ _ => true
  | _ => false
def chkMe (s : SC) (own : List Nat) (m : Me) (i : Nat) (args : IEs) (e : Expr) : Bool := match asMeth e with
  | some (x, n, es) => decide (n = m.nm) && decide (s.N[i]? = some x) && visC s.sc x && own.contains i && decide (es.length < 20) && es.all nostar && chkL s own true args es
  | none => false
mutual
def chkS (s : SC) (lo own : List Nat) : IS → Stmt → Rs
  | .pass, .Pass _ => .go own
  | .brk, .Break _ => .when (sub lo own) .stop
  | .cnt, .Continue _ => .when (sub lo own) .stop
  | .retN, .Return none _ => .stop
  | .nev, .Raise _ _ _ => .stop
  | .set i ow e, st => (match asAssign st with
    | some (.Name x px, ee) => .when (decide (s.N[i]? = some x) && locC s.blk s.sc x && chkE s own e ee && (notComp ee || cellLc s x ee || (swapsLc s x px ee && (isLc e && okF own i)))) (match ow with
      | true => .when (okF own i && decide (prov own e = .fresh)) (.go (i :: minus own [i]))
      | false => .when (kp own e) (.go (minus own [i])))
    | _ => .bad)
  | .unp g e, st => (match asAssign st with
    | some (t, ee) => .when ((asTup t).isSome && (asTup ee).isNone && chkE s own e ee && kp own e && tgC s g t) (.go (minus own g.vs))
    | _ => .bad)
  | .me m i dst args, st => (match dst, st with
    | none, .Expr e _ => .when (chkMe s own m i args e) (.go own)
    | some j, .Assign [.Name y _] e _ => .when (chkMe s own m i args e && decide (s.N[j]? = some y) && locC s.blk s.sc y) (.go (minus own [j]))
    | _, _ => .bad)
  | .setix i k e, st => (match asAssign st with
    | some (t, ee) => (match asSub t with
      | some (.Name x _, ix) => .when (decide (s.N[i]? = some x) && visC s.sc x && own.contains i && plainIx ix && chkE s own k ix && chkE s own e ee && kp own e) (.go own)
      | _ => .bad)
    | _ => .bad)
  | .apPop i j args, .Expr e _ => .when (match asMeth e with
    | some (x, n, [e2]) => decide (n = "append") && decide (s.N[i]? = some x) && visC s.sc x && own.contains i && chkMe s own .popAt j args e2
    | _ => false) (.go own)
  | .setd i k e, st => (match asAssign st with
    | some (t, ee) => (match asSub t with
      | some (.Name x _, ix) => .when (decide (s.N[i]? = some x) && visC s.sc x && own.contains i && plainIx ix && chkE s own k ix && kp own k && chkE s own e ee && kp own e) (.go own)
      | _ => .bad)
    | _ => .bad)
  | .expr e, .Expr ee _ => .when (notComp ee && chkE s own e ee) (.go own)
  | .ret e, .Return (some ee) _ => .when (chkE s own e ee && kp own e) .stop
  | .ifs c a b, .If ec sa sb _ => .when (tstE c && chkE s own c ec) ((chkB s lo own a sa).join (chkB s lo own b sb))
  | .fors O1 g src body, .For tg it sb [] _ => .when (sub O1 own && notSet it && chkI s own true src tg it && tgC s g tg) (match chkB s O1 (minus O1 g.vs) body sb with
    | .bad => .bad
    | .stop => .go O1
    | .go o => .when (sub O1 o) (.go O1))
  | .whiles O1 _ c body, .While ec sb [] _ => .when (sub O1 own && tstE c && chkE s O1 c ec) (match chkB s O1 O1 body sb with
    | .bad => .bad
    | .stop => .go O1
    | .go o => .when (sub O1 o) (.go O1))
  | .frz fz i, st => chkS s lo (minus own fz) i st
  | .trys sub h body, .Try sb [.ExceptHandler (some (.Name kx _)) (some n) (b0 :: suite) _] [] [] _ => .when (decide (kx = h.cls) && glC s.sc kx && decide (s.N[h.slot]? = some n) && decide (s.sc.names.lookup n = some .local) && chkHd s h (b0 :: suite)) (match chkB s lo own body sb with
    | .bad => .bad
    | .stop => .go []
    | .go _ => .go [])
  | .raise c fs args, .Raise (some ee) none _ => (match asCall ee with
    | some (g, es) => (match asName g with
      | some y => .when (decide (y = c) && glC s.sc c && !es.isEmpty && !fs.isEmpty && es.all nostar && decide (es.length < 500) && chkL s own true args es) .stop
      | none => .bad)
    | none => .bad)
  | _, _ => .bad
def chkB (s : SC) (lo own : List Nat) : ISs → List Stmt → Rs
  | .nil, [] => .go own
  | .cons i is, st :: sts => (match chkS s lo own i st with
    | .bad => .bad
    | .stop => (match is, sts with
      | .nil, [] => .stop
      | _, _ => .bad)
    | .go o => chkB s lo o is sts)
  | _, _ => .bad
end
section
variable (P : Program) (w : World) (K : PySem.W.Frag) (mg : Str → Option Value) (base : Heap) (k : Nat)
mutual
def ObS : IS → Prop
  | .pass => True
  | .brk => True
  | .cnt => True
  | .retN => True
  | .nev => True
  | .set _ _ e => ObE P w K mg base k e
  | .unp _ e => ObE P w K mg base k e
  | .me _ _ _ args => ObL P w K mg base k args
  | .apPop _ _ args => ObL P w K mg base k args
  | .setix _ a e => ObE P w K mg base k a ∧ ObE P w K mg base k e
  | .setd _ a e => ObE P w K mg base k a ∧ ObE P w K mg base k e
  | .expr e => ObE P w K mg base k e
  | .ret e => ObE P w K mg base k e
  | .ifs c a b => ObE P w K mg base k c ∧ ObB a ∧ ObB b
  | .fors _ _ src body => ObI P w K mg base k src ∧ ObB body
  | .whiles _ _ c body => ObE P w K mg base k c ∧ ObB body
  | .frz _ s => ObS s
  | .trys sub h body => h.know K mg sub ∧ ObB body
  | .raise c fs args => (2 ≤ k ∧ RaiseD P w K mg base c (IEs.len args + 1) fs) ∧ ObL P w K mg base k args
def ObB : ISs → Prop
  | .nil => True
  | .cons s ss => ObS s ∧ ObB ss
end
end
section
variable {X : Cx} {W : WX} {own lo : List Nat} {s : SC} {k : Nat} {pos : Pos}
def SndS (X : Cx) (W : WX) (lo own : List Nat) (r : Rs) (st : Stmt) (g : SD → O) : Prop := match r with
  | .bad => True
  | .stop => ∀ o, ES X W own st g ⟨o, lo, lo⟩
  | .go o => ES X W own st g ⟨o, lo, lo⟩
def SndB (X : Cx) (W : WX) (lo own : List Nat) (r : Rs) (st : List Stmt) (g : SD → O) : Prop := match r with
  | .bad => True
  | .stop => ∀ o, ESs X W own st g ⟨o, lo, lo⟩
  | .go o => ESs X W own st g ⟨o, lo, lo⟩
theorem snd_when {c : Bool} {r : Rs} {st : Stmt} {g : SD → O} (h : c = true → SndS X W lo own r st g) : SndS X W lo own (Rs.when c r) st g := by
  cases c with
  | false => trivial
  | true => exact h rfl
theorem snd_join {a b : Rs} {st : Stmt} {g : SD → O} (h : a ≠ .bad → b ≠ .bad → ∀ o, (∀ o1, a = .go o1 → ∀ j ∈ o, j ∈ o1) → (∀ o2, b = .go o2 → ∀ j ∈ o, j ∈ o2) → ES X W own st g ⟨o, lo, lo⟩) : SndS X W lo own (a.join b) st g := by
  cases a with
  | bad => trivial
  | stop =>
    cases b with
    | bad => trivial
    | stop => exact fun o => h (fun z => nomatch z) (fun z => nomatch z) o (fun _ z => nomatch z) (fun _ z => nomatch z)
    | go o2 => exact h (fun z => nomatch z) (fun z => nomatch z) o2 (fun _ z => nomatch z) fun _ z j hj => by cases z; exact hj
  | go o1 =>
    cases b with
    | bad => trivial
    | stop => exact h (fun z => nomatch z) (fun z => nomatch z) o1 (fun _ z j hj => by cases z; exact hj) (fun _ z => nomatch z)
    | go o2 =>
      refine h (fun z => nomatch z) (fun z => nomatch z) (o1.filter o2.contains) (fun _ z j hj => ?_) (fun _ z j hj => ?_)
      · cases z; exact (List.mem_filter.mp hj).1
      · cases z; simpa using (List.mem_filter.mp hj).2
theorem SndB.at {r : Rs} {st : List Stmt} {g : SD → O} {o : List Nat} (h : SndB X W lo own r st g) (hb : r ≠ .bad) (ho : ∀ o1, r = .go o1 → ∀ j ∈ o, j ∈ o1) : ESs X W own st g ⟨o, lo, lo⟩ := by
  cases r with
  | bad => exact absurd rfl hb
  | stop => exact h o
  | go o1 => exact ESs.weak h ⟨ho o1 rfl, fun _ z => z, fun _ z => z⟩
theorem sw_cell {x : Str} {px : Pos} {l : Nat} {e : Expr} (ok : XOk s k X W) (h : (notComp e || cellLc s x e) = true) : swapsWith e (some (.Name x px)) l X.env = pure false := by
  by_cases hn : notComp e = true
  · exact notComp_ok hn
  · have hn' : notComp e = false := by simpa using hn
    rw [hn', Bool.false_or] at h
    cases e with
    | ListComp elt gs scope p =>
      have h2 : s.sc.names.lookup x = some .cell := of_decide_eq_true h
      have hk : X.env.kindOf x = some .cell := by
        show X.env.scope.names.lookup x = some .cell
        rw [ok.sc]; exact h2
      unfold swapsWith
      simp only [hk]
      have e0 : ((some NameKind.cell : Option NameKind) == some NameKind.local) = false := rfl
      simp only [e0, Bool.and_false, Bool.false_and]
    | _ => cases h
theorem sw_lc {x : Str} {px : Pos} {l : Nat} {e : Expr} (ok : XOk s k X W) (h : swapsLc s x px e = true) : swapsWith e (some (.Name x px)) l X.env = pure true ∧ X.env.scope.names.lookup x = some .local := by
  cases e with
  | ListComp elt gs scope p =>
    simp only [swapsLc, Bool.and_eq_true, decide_eq_true_eq, Bool.not_eq_true'] at h
    obtain ⟨⟨⟨h1, h2⟩, h3⟩, h4⟩ := h
    have hk : X.env.scope.kind = .function := by
      rw [ok.sc]
      cases hk : s.sc.kind <;> rw [hk] at h1 <;> first | rfl | cases h1
    have hl : X.env.scope.names.lookup x = some .local := by rw [ok.sc]; exact h2
    exact ⟨sw_true hk hl h3 h4, hl⟩
  | _ => cases h
end
end Dl

/-! DlR: the look at statements tells the truth. -/
namespace Dl
open PySem PySem.Spec PyProof.Rows L2

section
variable {X : Cx} {W : WX} {own lo : List Nat} {s : SC} {k : Nat} {pos : Pos}
theorem ES.congr {st : Stmt} {g g' : SD → O} {w : Ow} (h : ES X W own st g w) (e : ∀ x, g x = g' x) : ES X W own st g' w := by
  have : g = g' := funext e
  subst this; exact h
theorem set_snd (ok : XOk s k X W) {i : Nat} {ow : Bool} {e : IE} {x : Str} {px p : Pos} {ee : Expr} (hN : s.N[i]? = some x) (hl : locC s.blk s.sc x = true) (hc : chkE s own e ee = true) (ob : ObE X.prog X.w X.K X.mg X.base k e) (hsw : (notComp ee || cellLc s x ee || (swapsLc s x px ee && (isLc e && okF own i))) = true) :
    SndS X W lo own (match ow with
      | true => .when (okF own i && decide (prov own e = .fresh)) (.go (i :: minus own [i]))
      | false => .when (kp own e) (.go (minus own [i]))) (.Assign [.Name x px] ee p) (execS (.set i ow e)) := by
  have hnd : X.N.Nodup := by rw [ok.N]; exact ok.nd
  have hN' : X.N[i]? = some x := by rw [ok.N]; exact hN
  obtain ⟨l1, l2⟩ := ok.loc hl
  have hs := sE k e ok ob ee hc
  by_cases hn : (notComp ee || cellLc s x ee) = true
  · cases ow with
    | true =>
      refine snd_when fun h => ?_
      have hf := hs.1
      rw [Bool.and_eq_true] at h
      rw [of_decide_eq_true h.2] at hf
      exact es_setF h.1 hnd hN' l1 l2 hf (sw_cell ok hn)
    | false =>
      refine snd_when fun h => ?_
      exact es_set hnd hN' l1 l2 (hs.kp h) (sw_cell ok hn)
  · have hn' : (notComp ee || cellLc s x ee) = false := by simpa using hn
    rw [hn', Bool.false_or, Bool.and_eq_true, Bool.and_eq_true] at hsw
    obtain ⟨h1, h2, hm⟩ := hsw
    cases e with
    | comp names g src cond elt =>
      simp only [chkE] at hc
      split at hc
      · rename_i e2 tg iter ifs scope hx
        obtain ⟨p2, rfl⟩ := asComp_eq hx
        obtain ⟨sw, hxl⟩ := sw_lc (l := p.line) ok h1
        simp only [Bool.and_eq_true, decide_eq_true_eq] at hc
        obtain ⟨⟨⟨⟨⟨⟨⟨h0, h1'⟩, h2'⟩, h3⟩, h4⟩, h5⟩, h6⟩, h7⟩ := hc
        have hb := blkOk_by h0
        rw [← ok.N, ← ok.sc] at hb
        have key : ES X W own (.Assign [.Name x px] (.ListComp e2 [⟨tg, iter, ifs, 0⟩] scope p2) p) (execS (.set i ow (.comp names g src cond elt))) ⟨i :: minus own [i], lo, lo⟩ := by
          refine es_setLc hm ok.calm hnd hN' hxl sw hb (folded_ok h2') (sI k src ok ob.1 false tg iter h4).2 h1' (fun sh H C cl fp => tg_eg (ok.blk scope sh H C cl fp) h3) (fun sh H C cl fp => ?_) (fun sh H C cl fp => (sE k elt (ok.blk scope sh H C cl fp) ob.2.2 e2 h6).kp h7)
          cases cond with
          | none =>
            cases ifs with
            | nil => exact ets_nil
            | cons _ _ => simp at h5
          | some c =>
            cases ifs with
            | nil => simp at h5
            | cons ec t =>
              cases t with
              | cons _ _ => simp at h5
              | nil =>
                simp only [Bool.and_eq_true] at h5
                exact ets_one ((sE k c (ok.blk scope sh H C cl fp) ob.2.1 ec h5.2).2 h5.1)
        cases ow with
        | true => exact snd_when fun _ => key
        | false => exact snd_when fun _ => key.weak ⟨fun j hj => List.mem_cons_of_mem _ hj, fun _ z => z, fun _ z => z⟩
      · cases hc
    | _ => cases h2
theorem me_ok (ok : XOk s k X W) {m : Me} {i : Nat} {args : IEs} {e : Expr} (h : chkMe s own m i args e = true) (ob : ObL X.prog X.w X.K X.mg X.base k args) : ∃ x p1 ap cp es, e = .Call (.Attribute (.Name x p1) m.nm ap) es [] cp ∧ (ap.endLine == cp.line) = true ∧ X.N[i]? = some x ∧ Vis X.env.scope x ∧ (x == ("__debug__" : Str)) = false ∧ (x == ("__classdict__" : Str)) = false ∧ i ∈ own ∧
    es.all nostar = true ∧ es.length < 20 ∧ EVs X W own es (seqL (evL args)) ∧ (es = [] → seqL (evL args) = fun _ => .ok []) := by
  unfold chkMe at h
  split at h
  · rename_i x n es hx
    obtain ⟨p1, ap, cp, rfl, hl⟩ := asMeth_eq hx
    simp only [Bool.and_eq_true, decide_eq_true_eq] at h
    obtain ⟨⟨⟨⟨⟨⟨rfl, h1⟩, h2⟩, h3⟩, h4⟩, h5⟩, h6⟩ := h
    obtain ⟨v1, v2, v3⟩ := ok.vis h2
    refine ⟨x, p1, ap, cp, es, rfl, hl, by rw [ok.N]; exact h1, v1, v2, v3, by simpa using h3, h5, h4, sL k args ok ob es h6, fun he => ?_⟩
    subst he
    cases args with
    | nil => rfl
    | cons _ _ => simp [chkL] at h6
  · cases h
end
/-- how a body stands in its frame -/
structure Tops (X : Cx) : Prop where
  ps : PassesOwn (model X.prog X.w) X.A X.env X.xe
  st : X.stack = X.env :: X.outer
  fr : X.env.frame = some X.env.locals
mutual
theorem sS (k : Nat) {s : SC} : ∀ (i : IS) {X : Cx} {W : WX} (ok : XOk s k X W) (hp : Tops X) (lo own : List Nat) (st : Stmt), ObS X.prog X.w X.K X.mg X.base k i → SndS X W lo own (chkS s lo own i st) st (execS i)
  | .pass, X, W, ok, hp, lo, own, st, ob => by
    cases st with
    | Pass p => exact es_pass
    | _ => trivial
  | .brk, X, W, ok, hp, lo, own, st, ob => by
    cases st with
    | Break p => exact snd_when fun h o => es_break.weak ⟨fun _ z => z, sub_ok h, fun _ z => z⟩
    | _ => trivial
  | .cnt, X, W, ok, hp, lo, own, st, ob => by
    cases st with
    | Continue p => exact snd_when fun h o => es_cont.weak ⟨fun _ z => z, fun _ z => z, sub_ok h⟩
    | _ => trivial
  | .retN, X, W, ok, hp, lo, own, st, ob => by
    cases st with
    | Return e p =>
      cases e with
      | none => exact fun o => es_retN
      | some _ => trivial
    | _ => trivial
  | .nev, X, W, ok, hp, lo, own, st, ob => by
    cases st with
    | Raise a b p => exact fun o => ⟨_, ps_never, fun H0 F0 F H σ st s0 rl => trivial⟩
    | _ => trivial
  | .set i ow e, X, W, ok, hp, lo, own, st, ob => by
    simp only [chkS]
    split
    · rename_i x px ee hx
      obtain ⟨p, rfl⟩ := asAssign_eq hx
      refine snd_when fun h => ?_
      simp only [Bool.and_eq_true, decide_eq_true_eq] at h
      obtain ⟨⟨⟨h1, h2⟩, h3⟩, h4⟩ := h
      exact set_snd ok h1 h2 h3 ob h4
    · trivial
  | .unp g e, X, W, ok, hp, lo, own, st, ob => by
    simp only [chkS]
    split
    · rename_i t ee hx
      obtain ⟨p, rfl⟩ := asAssign_eq hx
      refine snd_when fun h => ?_
      simp only [Bool.and_eq_true] at h
      obtain ⟨⟨⟨⟨h1, h2⟩, h3⟩, h4⟩, h5⟩ := h
      obtain ⟨ts, ht⟩ := Option.isSome_iff_exists.mp h1
      obtain ⟨kk, p3, rfl⟩ := asTup_eq ht
      refine es_unp ((sE k e ok ob ee h3).kp h4) (tg_eg ok h5) ?_ ?_ rfl
      · cases ee <;> rfl
      · cases ee <;> first | rfl | cases h2
    · trivial
  | .me m i dst args, X, W, ok, hp, lo, own, st, ob => by
    cases dst with
    | none =>
      cases st with
      | Expr e p =>
        refine snd_when fun h => ?_
        obtain ⟨x, p1, ap, cp, es, rfl, hl, h1, h2, h3, h4, h5, h6, h7, h8, h9⟩ := me_ok ok h ob
        exact es_me h1 h2 h3 h4 h5 hl h6 h7 h8 h9
      | _ => trivial
    | some j =>
      cases st with
      | Assign ts e p =>
        cases ts with
        | nil => trivial
        | cons t ts =>
          cases ts with
          | cons _ _ => cases t <;> trivial
          | nil =>
            cases t with
            | Name y p2 =>
              refine snd_when fun h => ?_
              simp only [Bool.and_eq_true, decide_eq_true_eq] at h
              obtain ⟨⟨h0, hj⟩, hy⟩ := h
              obtain ⟨x, p1, ap, cp, es, rfl, hl, h1, h2, h3, h4, h5, h6, h7, h8, h9⟩ := me_ok ok h0 ob
              obtain ⟨l1, l2⟩ := ok.loc hy
              exact es_meSet h1 h2 h3 h4 h5 hl h6 h7 h8 h9 (by rw [ok.N]; exact ok.nd) (by rw [ok.N]; exact hj) l1 l2
            | _ => trivial
      | _ => trivial
  | .apPop i j args, X, W, ok, hp, lo, own, st, ob => by
    cases st with
    | Expr e p =>
      refine snd_when fun h => ?_
      split at h
      · rename_i x n e2 hx
        obtain ⟨p1, ap, cp, rfl, hl⟩ := asMeth_eq hx
        simp only [Bool.and_eq_true, decide_eq_true_eq] at h
        obtain ⟨⟨⟨⟨rfl, h1⟩, h2⟩, h3⟩, h4⟩ := h
        obtain ⟨v1, v2, v3⟩ := ok.vis h2
        obtain ⟨y, q1, bp, dp, es, rfl, gl, g1, g2, g3, g4, g5, g6, g7, g8, g9⟩ := me_ok ok h4 ob
        exact es_apPop (by rw [ok.N]; exact h1) v1 v2 v3 (by simpa using h3) hl g1 g2 g3 g4 g5 gl g6 g7 g8 g9
      · cases h
    | _ => trivial
  | .setix i ik e, X, W, ok, hp, lo, own, st, ob => by
    simp only [chkS]
    split
    · rename_i t ee hx
      obtain ⟨p, rfl⟩ := asAssign_eq hx
      split
      · rename_i x px ix ht
        obtain ⟨p2, rfl⟩ := asSub_eq ht
        refine snd_when fun h => ?_
        simp only [Bool.and_eq_true, decide_eq_true_eq] at h
        obtain ⟨⟨⟨⟨⟨⟨h1, h2⟩, h3⟩, h4⟩, h5⟩, h6⟩, h7⟩ := h
        obtain ⟨v1, v2, v3⟩ := ok.vis h2
        exact es_setix (by rw [ok.N]; exact h1) v1 v2 v3 (by simpa using h3) h4 (sE k ik ok ob.1 ix h5).rd ((sE k e ok ob.2 ee h6).kp h7)
      · trivial
    · trivial
  | .setd i ik e, X, W, ok, hp, lo, own, st, ob => by
    simp only [chkS]
    split
    · rename_i t ee hx
      obtain ⟨p, rfl⟩ := asAssign_eq hx
      split
      · rename_i x px ix ht
        obtain ⟨p2, rfl⟩ := asSub_eq ht
        refine snd_when fun h => ?_
        simp only [Bool.and_eq_true, decide_eq_true_eq] at h
        obtain ⟨⟨⟨⟨⟨⟨⟨h1, h2⟩, h3⟩, h4⟩, h5⟩, h8⟩, h6⟩, h7⟩ := h
        obtain ⟨v1, v2, v3⟩ := ok.vis h2
        exact es_setd (by have := ok.room.units; have := ok.room.un; omega) (by rw [ok.N]; exact h1) v1 v2 v3 (by simpa using h3) h4 ((sE k ik ok ob.1 ix h5).kp h8) ((sE k e ok ob.2 ee h6).kp h7)
      · trivial
    · trivial
  | .expr e, X, W, ok, hp, lo, own, st, ob => by
    cases st with
    | Expr ee p =>
      refine snd_when fun h => ?_
      simp only [Bool.and_eq_true] at h
      exact es_expr (sE k e ok ob ee h.2).1 (notComp_ok h.1)
    | _ => trivial
  | .ret e, X, W, ok, hp, lo, own, st, ob => by
    cases st with
    | Return o p =>
      cases o with
      | none => trivial
      | some ee =>
        refine snd_when fun h o => ?_
        simp only [Bool.and_eq_true] at h
        exact es_ret ((sE k e ok ob ee h.1).kp h.2)
    | _ => trivial
  | .ifs c a b, X, W, ok, hp, lo, own, st, ob => by
    cases st with
    | If ec sa sb p =>
      refine snd_when fun h => ?_
      simp only [Bool.and_eq_true] at h
      refine snd_join fun ha hb o ho1 ho2 => ?_
      exact es_if ((sE k c ok ob.1 ec h.2).2 h.1) ((sB k a ok hp lo own sa ob.2.1).at ha ho1) ((sB k b ok hp lo own sb ob.2.2).at hb ho2)
    | _ => trivial
  | .fors O1 g src body, X, W, ok, hp, lo, own, st, ob => by
    cases st with
    | For tg it sb orelse p =>
      cases orelse with
      | cons _ _ => trivial
      | nil =>
        refine snd_when fun h => ?_
        simp only [Bool.and_eq_true] at h
        obtain ⟨⟨⟨h1, h2⟩, h3⟩, h4⟩ := h
        have hb := sB k body ok hp O1 (minus O1 g.vs) sb ob.2
        have fin : ESs X W (minus O1 g.vs) sb (execL body) ⟨O1, O1, O1⟩ → ES X W own (.For tg it sb [] p) (execS (.fors O1 g src body)) ⟨O1, lo, lo⟩ := fun hb' =>
          es_for hp.ps ok.calm ((sI k src ok ob.1 true tg it h3).1 rfl) (sub_ok h1) (tg_eg ok h4) hb' (folded_ok h2)
        cases e : chkB s O1 (minus O1 g.vs) body sb with
        | bad => trivial
        | stop => rw [e] at hb; exact fin (hb O1)
        | go o =>
          rw [e] at hb
          exact snd_when fun h5 => fin (ESs.weak hb ⟨sub_ok h5, fun _ z => z, fun _ z => z⟩)
    | _ => trivial
  | .whiles O1 fuel c body, X, W, ok, hp, lo, own, st, ob => by
    cases st with
    | While ec sb orelse p =>
      cases orelse with
      | cons _ _ => trivial
      | nil =>
        refine snd_when fun h => ?_
        simp only [Bool.and_eq_true] at h
        obtain ⟨⟨h1, h2⟩, h3⟩ := h
        have hb := sB k body ok hp O1 O1 sb ob.2
        have fin : ESs X W O1 sb (execL body) ⟨O1, O1, O1⟩ → ES X W own (.While ec sb [] p) (execS (.whiles O1 fuel c body)) ⟨O1, lo, lo⟩ := fun hb' =>
          es_while fuel hp.ps (sub_ok h1) ((sE k c ok ob.1 ec h3).2 h2) hb'
        cases e : chkB s O1 O1 body sb with
        | bad => trivial
        | stop => rw [e] at hb; exact fin (hb O1)
        | go o =>
          rw [e] at hb
          exact snd_when fun h5 => fin (ESs.weak hb ⟨sub_ok h5, fun _ z => z, fun _ z => z⟩)
    | _ => trivial
  | .frz fz i, X, W, ok, hp, lo, own, st, ob => by
    have h := sS k i ok hp lo (minus own fz) st ob
    show SndS X W lo own (chkS s lo (minus own fz) i st) st (execS i)
    have hm : ∀ j ∈ minus own fz, j ∈ own := fun j hj => (mem_minus.mp hj).1
    cases e : chkS s lo (minus own fz) i st with
    | bad => trivial
    | stop => rw [e] at h; exact fun o => (h o).pre hm
    | go o => rw [e] at h; exact ES.pre h hm
  | .trys sub h body, X, W, ok, hp, lo, own, st, ob => by
    cases st with
    | Try sb hds orelse fin p =>
      cases hds with
      | nil => trivial
      | cons hd hds =>
        cases hd with
        | ExceptHandler ty nm suite p1 =>
          cases ty with
          | none => trivial
          | some te =>
            cases te with
            | Name kx p2 =>
              cases nm with
              | none => trivial
              | some n =>
                cases suite with
                | nil => trivial
                | cons b0 suite =>
                  cases hds with
                  | cons _ _ => trivial
                  | nil =>
                    cases orelse with
                    | cons _ _ => trivial
                    | nil =>
                      cases fin with
                      | cons _ _ => trivial
                      | nil =>
                        refine snd_when fun hc => ?_
                        simp only [Bool.and_eq_true, decide_eq_true_eq] at hc
                        obtain ⟨⟨⟨⟨rfl, h1⟩, h2⟩, h3⟩, h4⟩ := hc
                        have key : (∀ (W' : WX) (pn : List (Addr × Obj)) (xe : Value → Shared → Prop), Takes (X.tr pn xe) W' → PassesOwn (model X.prog X.w) X.A X.env xe → ESs (X.tr pn xe) W' own sb (execL body) ⟨[], lo, lo⟩) → ES X W own (.Try sb [.ExceptHandler (some (.Name h.cls p2)) (some n) (b0 :: suite) p1] [] [] p) (execS (.trys sub h body)) ⟨[], lo, lo⟩ := fun hb =>
                          es_try1 (s := s) ⟨ok.N, ok.sc, ok.bl (by decide)⟩ hp.st hp.fr (by rw [ok.N]; exact ok.nd) (by rw [ok.N]; exact h2) (show X.env.scope.names.lookup n = some .local by rw [ok.sc]; exact h3) (ok.gl h1).1 (ok.gl h1).2 ok.tk h4 ob.1 hb
                        have hrec : ∀ (W' : WX) (pn : List (Addr × Obj)) (xe : Value → Shared → Prop), Takes (X.tr pn xe) W' → PassesOwn (model X.prog X.w) X.A X.env xe → SndB (X.tr pn xe) W' lo own (chkB s lo own body sb) sb (execL body) := fun W' pn xe t1 t2 =>
                          sB k body (X := X.tr pn xe) (W := W') ⟨ok.calm, ok.N, ok.nd, ok.sc, ok.room, ok.gd, ok.blt, t1, ok.fn⟩ ⟨t2, hp.st, hp.fr⟩ lo own sb ob.2
                        cases e : chkB s lo own body sb with
                        | bad => trivial
                        | stop => exact key fun W' pn xe t1 t2 => by have := hrec W' pn xe t1 t2; rw [e] at this; exact this []
                        | go o => exact key fun W' pn xe t1 t2 => by have := hrec W' pn xe t1 t2; rw [e] at this; exact ESs.weak this ⟨(fun j hj => by cases hj), fun _ z => z, fun _ z => z⟩
            | _ => trivial
    | _ => trivial
  | .raise c fs args, X, W, ok, hp, lo, own, st, ob => by
    cases st with
    | Raise o co p =>
      cases o with
      | none => trivial
      | some ee =>
        cases co with
        | some _ => trivial
        | none =>
          obtain ⟨⟨ob1, ob2⟩, ob3⟩ := ob
          simp only [chkS]
          split
          · rename_i g es hx
            obtain ⟨cp, rfl⟩ := asCall_eq hx
            split
            · rename_i y hy
              obtain ⟨p2, rfl⟩ := asName_eq hy
              refine snd_when fun h => ?_
              simp only [Bool.and_eq_true, decide_eq_true_eq, Bool.not_eq_true'] at h
              obtain ⟨⟨⟨⟨⟨⟨rfl, h1⟩, h2⟩, h3⟩, h4⟩, h5⟩, h6⟩ := h
              have hn := lenL args es h6
              cases es with
              | nil => cases h2
              | cons e es =>
                simp only [List.all_cons, Bool.and_eq_true] at h4
                rw [← hn] at ob2
                have hne : fs ≠ [] := by intro z; subst z; cases h3
                intro o
                refine ES.congr (es_raise (k := k - 2) ok.calm ok.tk (by rw [show k - 2 + 2 = k by omega]; exact ok.room) ob2 hne (ok.gl h1).1 (ok.gl h1).2 h4.1 (by simpa using h4.2) (by simp at h5; omega) (sL k args ok ob3 (e :: es) h6)) fun x => ?_
                show _ = (seqL (evL args) x).toO x fun ds => raiseO y fs (IEs.len args) x ds
                rw [← hn]
                rfl
            · trivial
          · trivial
    | _ => trivial
theorem sB (k : Nat) {s : SC} : ∀ (is : ISs) {X : Cx} {W : WX} (ok : XOk s k X W) (hp : Tops X) (lo own : List Nat) (sts : List Stmt), ObB X.prog X.w X.K X.mg X.base k is → SndB X W lo own (chkB s lo own is sts) sts (execL is)
  | .nil, X, W, ok, hp, lo, own, sts, ob => by
    cases sts with
    | nil => exact ess_nil
    | cons _ _ => trivial
  | .cons i is, X, W, ok, hp, lo, own, sts, ob => by
    cases sts with
    | nil => trivial
    | cons st sts =>
      have h := sS k i ok hp lo own st ob.1
      simp only [chkB]
      cases e : chkS s lo own i st with
      | bad => trivial
      | stop =>
        rw [e] at h
        cases is with
        | cons _ _ => trivial
        | nil =>
          cases sts with
          | cons _ _ => trivial
          | nil => exact fun o => ess_cons (w := ⟨o, lo, lo⟩) (own1 := o) (h o) ess_nil
      | go o =>
        rw [e] at h
        have h2 := sB k is ok hp lo o sts ob.2
        show SndB X W lo own (chkB s lo o is sts) (st :: sts) (execL (.cons i is))
        cases e2 : chkB s lo o is sts with
        | bad => trivial
        | stop => rw [e2] at h2; exact fun o' => ess_cons (w := ⟨o', lo, lo⟩) (own1 := o) h (h2 o')
        | go o2 => rw [e2] at h2; exact ess_cons (w := ⟨o2, lo, lo⟩) (own1 := o) h h2
end
end Dl

/-! DlS: from a def's text to its promise, and the law's end. -/
namespace Dl
open PySem PySem.Spec PyProof.Rows L2

def O.fin : O → R D
  | .rt d => .ok d
  | .nx _ => .ok .non
  | .ex _ c ns ds => .ex c ns ds
  | _ => .un
/-- what a def with these names (the n parameters first) and this body does -/
def runD (N : List Str) (n : Nat) (body : ISs) (ds : List D) : R D := if ds.length = n then (execL body (ds.map some ++ List.replicate (N.length - ds.length) none)).fin else .un
theorem runD_len {N : List Str} {n : Nat} {body : ISs} {ds : List D} (h : ds.length ≠ n) : runD N n body ds = .un := if_neg h
def Rs.fine : Rs → Bool
  | .bad => false
  | _ => true
/-- the look at a def -/
def chkD (N : List Str) (n : Nat) (body : ISs) (st : Stmt) : Bool := scC N n (defScope st) && (chkB ⟨N, defScope st, false⟩ [] [] body (defBody st)).fine
section
variable {P : Program} {w : World} {K : PySem.W.Frag} {mg : Str → Option Value} {base : Heap}
theorem srel_start {F H : Hp} {N : List Str} {vs : List V} {ds : List D} (r : Reps w K mg F vs ds) : SRel w K mg [] H F H (start N vs) (ds.map some ++ List.replicate (N.length - ds.length) none) := by
  have hl := r.length
  refine ⟨?_, fun i d e => ?_, (fun i j _ _ _ hi => by cases hi), fun h => by cases h⟩
  · simp [L2.start, hl]
  · have hi : i < ds.length := by
      by_cases h : i < ds.length
      · exact h
      · rw [List.getElem?_append_right (by simpa using h), List.getElem?_replicate] at e
        split at e <;> cases e
    rw [List.getElem?_append_left (by simpa using hi), List.getElem?_map] at e
    cases e2 : ds[i]? with
    | none => rw [e2] at e; cases e
    | some d' =>
      rw [e2] at e
      cases e
      obtain ⟨u, h1, h2⟩ := r.get e2
      refine ⟨u, ?_, .inr ⟨(fun z => by cases z), h2⟩⟩
      unfold L2.start
      rw [List.getElem?_append_left (by simpa [hl] using hi), List.getElem?_map, h1]
      rfl
theorem defG {x qual : Str} {st : Stmt} {f : Addr} {fd : FuncData} {N : List Str} {n k : Nat} {body : ISs} (F : Fun K x qual st f fd) (chk : chkD N n body st = true) (blt : ∀ y ∈ bltNames, mg y = none) (ob : ObB P w K mg base k body) :
    FnG P w K mg base (k + 1) f fd (N.take n) (spF w K mg n (runD N n body)) := by
  unfold chkD at chk
  simp only [Bool.and_eq_true] at chk
  obtain ⟨S, hl⟩ := scC_ok chk.1
  refine fnG F S (fun vs H Q E h => by rw [hl]; exact h.1) fun cdv A up s H vs Q E gd room want => ?_
  obtain ⟨hn, F0, ds, same, reps, out⟩ := want
  have ok : XOk ⟨N, defScope st, false⟩ k (cxOf (L2.CX P w) P w K mg base N qual (defScope st) f cdv A up s H E) (fun cls d _ H => E cls d H) :=
    ⟨rfl, rfl, S.nd, rfl, room, gd, blt, L2.takes_of rfl rfl rfl rfl, fun _ _ => rfl⟩
  have hp : PassesOwn (model P w) (A.deeper (envOfC qual (defScope st) s.heap.objs.size f cdv)) (envOfC qual (defScope st) s.heap.objs.size f cdv) (cxOf (L2.CX P w) P w K mg base N qual (defScope st) f cdv A up s H E).xe := L2.passes_of (X := cxOf (L2.CX P w) P w K mg base N qual (defScope st) f cdv A up s H E) rfl
  have snd := sB k body ok ⟨hp, rfl, rfl⟩ [] [] (defBody st) ob
  have got : ∃ o, ESs (cxOf (L2.CX P w) P w K mg base N qual (defScope st) f cdv A up s H E) (fun cls d _ H => E cls d H) [] (defBody st) (execL body) ⟨o, [], []⟩ := by
    cases e : chkB ⟨N, defScope st, false⟩ [] [] body (defBody st) with
    | bad => rw [e] at chk; exact absurd chk.2 (by decide)
    | stop => rw [e] at snd; exact ⟨[], snd []⟩
    | go o => rw [e] at snd; exact ⟨o, snd⟩
  obtain ⟨o, t, ht, hq⟩ := got
  refine ⟨t, ht, ?_⟩
  have at0 := hq H F0 F0 H (start N vs) _ (Step.refl same) (srel_start reps)
  have hds : ds.length = n := by rw [← reps.length]; exact hn
  have er : runD N n body ds = (execL body (ds.map some ++ List.replicate (N.length - ds.length) none)).fin := if_pos hds
  rw [er] at out
  cases e : execL body (ds.map some ++ List.replicate (N.length - ds.length) none) with
  | un => rw [e] at out; exact out.elim
  | bk _ => rw [e] at out; exact out.elim
  | ct _ => rw [e] at out; exact out.elim
  | nx st1 => rw [e] at out at0; exact at0 _ fun σ1 F1 H1 s1 _ _ => out .non F1 H1 s1 .non
  | rt d => rw [e] at out at0; exact at0 _ fun v F1 H1 s1 _ r1 => out v F1 H1 s1 r1
  | ex st1 c ns es => rw [e] at out at0; exact at0 _ fun cls d σ1 F1 H1 s1 _ _ x1 => out cls d F1 H1 s1 x1
/-- where a def of the text stands behind the top -/
structure DefAt (K : PySem.W.Frag) (mg : Str → Option Value) (x qual : Str) (st : Stmt) (ps : List Str) : Prop where
  ex : ∃ (fa : Addr) (fd : FuncData), Fun K x qual st fa fd ∧ mg x = some (.ref fa) ∧ Binds K fd ps []
theorem DefAt.fnD {x qual : Str} {st : Stmt} {N : List Str} {n k : Nat} {body : ISs} (A : DefAt K mg x qual st (N.take n)) (chk : chkD N n body st = true) (blt : ∀ y ∈ bltNames, mg y = none) (ob : ObB P w K mg base k body) : FnD P w K mg base (k + 1) x n (runD N n body) := by
  obtain ⟨fa, fd, F, hm, hb⟩ := A.ex
  exact .mk0 (defG F chk blt ob) hm F.kp hb
theorem DefAt.callD {x qual : Str} {st : Stmt} {N : List Str} {n k : Nat} {body : ISs} (A : DefAt K mg x qual st (N.take n)) (chk : chkD N n body st = true) (blt : ∀ y ∈ bltNames, mg y = none) (ob : ObB P w K mg base k body) : CallD P w K mg base (k + 1) x n (runD N n body) :=
  ⟨A.fnD chk blt ob, fun _ h => runD_len h⟩
theorem CallD.mono {x : Str} {n j k : Nat} {f : List D → R D} (h : CallD P w K mg base j x n f) (l : j ≤ k) : CallD P w K mg base k x n f := ⟨h.1.mono l, h.2⟩
/-- the same def, called with n values where the rest has the defaults dd -/
structure DefAtB (w : World) (K : PySem.W.Frag) (mg : Str → Option Value) (x qual : Str) (st : Stmt) (ps : List Str) (n : Nat) (dd : List D) : Prop where
  ex : ∃ (fa : Addr) (fd : FuncData) (dus : List Value) (dvs : List V), Fun K x qual st fa fd ∧ mg x = some (.ref fa) ∧ Binds K fd ps dus ∧ Vals dvs dus ∧ ∀ F : Hp, Reps w K mg F dvs dd
theorem DefAtB.callD {x qual : Str} {st : Stmt} {N : List Str} {n m k : Nat} {dd : List D} {body : ISs} (A : DefAtB w K mg x qual st (N.take m) n dd) (hm : m = n + dd.length) (chk : chkD N m body st = true) (blt : ∀ y ∈ bltNames, mg y = none) (ob : ObB P w K mg base k body) : CallD P w K mg base (k + 1) x n (fun ds => if ds.length = n then runD N m body (ds ++ dd) else .un) := by
  obtain ⟨fa, fd, dus, dvs, F, hm', hb, rd, rdd⟩ := A.ex
  refine ⟨⟨fa, fd, N.take m, dus, dvs, m, runD N m body, dd, defG F chk blt ob, hm', F.kp, hb, rd, rdd, hm, fun ds h => if_pos h⟩, fun ds h => if_neg h⟩
/-- the same def, called with n values and keywords (G: how they stand in the parameters' order) -/
structure DefAtW (w : World) (K : PySem.W.Frag) (mg : Str → Option Value) (x qual : Str) (st : Stmt) (ps : List Str) (n : Nat) (ks : List Str) (m : Nat) (G : List D → List D → List D) : Prop where
  ex : ∃ (fa : Addr) (fd : FuncData) (g : List Value → List Value → List Value) (gV : List V → List V → List V), Fun K x qual st fa fd ∧ mg x = some (.ref fa) ∧ KBn K fd ps n ks g gV ∧
    ∀ (F : Hp) (vs zs : List V) (ds es : List D), ds.length = n → es.length = ks.length → Reps w K mg F vs ds → Reps w K mg F zs es → Reps w K mg F (gV vs zs) (G ds es) ∧ (G ds es).length = m
theorem DefAtW.fnK {x qual : Str} {st : Stmt} {N ks : List Str} {n m k : Nat} {G : List D → List D → List D} {body : ISs} (A : DefAtW w K mg x qual st (N.take m) n ks m G) (chk : chkD N m body st = true) (blt : ∀ y ∈ bltNames, mg y = none) (ob : ObB P w K mg base k body) : FnK P w K mg base (k + 1) x n ks (fun ds => runD N m body (G (ds.take n) (ds.drop n))) := by
  obtain ⟨fa, fd, g, gV, F, hm', hb, hG⟩ := A.ex
  refine ⟨⟨fa, fd, N.take m, m, runD N m body, g, gV, G, defG F chk blt ob, hm', F.kp, hb, hG, fun ds es h1 h2 => ?_⟩⟩
  show runD N m body (G ((ds ++ es).take n) ((ds ++ es).drop n)) = _
  rw [← h1, List.take_left, List.drop_left]
theorem vals_getD {xs : List V} {us : List Value} (h : Vals xs us) (i : Nat) : RelV ((xs[i]?).getD .non) ((us[i]?).getD .none) := by
  by_cases hi : i < xs.length
  · obtain ⟨u, e1, e2⟩ := h.get (List.getElem?_eq_getElem hi)
    rw [List.getElem?_eq_getElem hi, e1]
    exact e2
  · rw [List.getElem?_eq_none (by omega), List.getElem?_eq_none (by rw [← h.length]; omega)]
    rfl
theorem reps_getD {F : Hp} {xs : List V} {ds : List D} (h : Reps w K mg F xs ds) (i : Nat) : Rep w K mg F ((xs[i]?).getD .non) ((ds[i]?).getD .non) := by
  by_cases hi : i < xs.length
  · obtain ⟨d, e1, e2⟩ := h.get' (List.getElem?_eq_getElem hi)
    rw [List.getElem?_eq_getElem hi, e1]
    exact e2
  · rw [List.getElem?_eq_none (by omega), List.getElem?_eq_none (by rw [← h.length]; omega)]
    exact .non
/-- keyword-only parameters: all of them lack (defaults us) -/
theorem kwBinds {fd : FuncData} {ps : List Str} {n : Nat} {D : Addr} {l : List (Str × Value)} (hl : ps.length = n + l.length) (hq : ∀ q ∈ l, PySem.W.nsIn K D q.1 = some (some q.2)) (h : ∀ us : List Value, us.length = n → KwChain D l (bindArgs fd ⟨us, []⟩) (ps.zip (us ++ l.map (·.2)))) : Binds K fd ps (l.map (·.2)) := by
  intro s us X hlen
  refine BindsTo.of_looks fun M => KwChain.looks X hq (h us ?_)
  rw [List.length_append, List.length_map, hl] at hlen
  omega
/-- one that is never called in earnest -/
theorem DefAt.callU {x qual : Str} {st : Stmt} {ps : List Str} (A : DefAt K mg x qual st ps) (k : Nat) : CallD P w K mg base k x ps.length (fun _ => .un) := by
  obtain ⟨fa, fd, F, hm, hb⟩ := A.ex
  exact ⟨.mk0 (fa := fa) (fd := fd) (ps := ps) ⟨fun _ _ _ _ h => h.1, fun A up s H args us vs Q E _ _ _ _ _ z => by obtain ⟨_, _, _, _, _, z⟩ := z; exact z.elim⟩ hm F.kp hb, fun _ _ => rfl⟩
/-- a def that calls itself, to depth j -/
def fixD (N : List Str) (n : Nat) (body : (List D → R D) → ISs) : Nat → List D → R D
  | 0 => fun _ => .un
  | j + 1 => runD N n (body (fixD N n body j))
theorem DefAt.callF {x qual : Str} {st : Stmt} {N : List Str} {n k : Nat} {body : (List D → R D) → ISs} (A : DefAt K mg x qual st (N.take n)) (hl : (N.take n).length = n) (chk : ∀ f, chkD N n (body f) st = true) (blt : ∀ y ∈ bltNames, mg y = none)
    (ob : ∀ (j : Nat) (f : List D → R D), k ≤ j → CallD P w K mg base j x n f → ObB P w K mg base j (body f)) : ∀ j, CallD P w K mg base (k + j) x n (fixD N n body j)
  | 0 => by have := A.callU (P := P) (w := w) (base := base) k; rw [hl] at this; exact this
  | j + 1 => A.callD (chk _) blt (ob (k + j) _ (by omega) (DefAt.callF A hl chk blt ob j))
end
end Dl

/-! DlT: the law's end, from the promise of its def on data. -/
namespace Dl
open PySem PySem.Spec PyProof.Rows L2

/-- True comes of the law's def when the machine's caller calls it with the script -/
theorem law_callG {P : Program} {w : World} {K : PySem.W.Frag} {mg mb : Str → Option Value} {k : Nat} {fa a : Addr} {fd : FuncData} {x : Str} {g : List D → R D} {s₁ : Shared} {vs : List Value} {ns : List Int}
    (inK : K.In s₁.heap) (nsM : s₁.heap.Ns mainGlobals mg) (nsB : s₁.heap.Ns builtinsNs mb) (boot : ∀ x : Str, x ≠ "__name__" → mb x = bootBuiltins x) (lim : s₁.heap.NoLimit) (gens : s₁.gens = #[])
    (ha : s₁.heap.get? a = some { cls := .type "list", data := .seq vs.toArray }) (hi : IntsAre vs ns) (hl : ns.length ≤ sizeLine) (room : Room k callerA)
    (F : ∀ base : Heap, K.In base → base.Ns mainGlobals mg → FnG P w K mg base k fa fd [x] (spF w K mg 1 g)) (bt : ∀ (s : Shared) (u : Value), BindsTo s fd ⟨[u], []⟩ [(x, u)]) (good : g [.lst (ns.map D.int)] = .ok (.bl true)) :
    codeAny (model P w) callerA (.call (.ref fa) ⟨[.ref a], []⟩) (fun r s' => r = .ok (.ret (.bool true)) ∧ OldK s₁.heap s'.heap ∧ s'.os = s₁.os ∧ AllBare s'.gens) s₁ := by
  have rv := vals_ints hi
  -- at an abstract heap that knows at most the script
  have core : ∀ H : Hp, Only H → SqL K H a (ns.map V.int) → HOk P w H s₁.heap → (∀ b, H b ≠ none → b = a) → (H a ≠ none → K.lookup a = none) →
      codeAny (model P w) callerA (.call (.ref fa) ⟨[.ref a], []⟩) (fun r s' => r = .ok (.ret (.bool true)) ∧ OldK s₁.heap s'.heap ∧ s'.os = s₁.os ∧ AllBare s'.gens) s₁ := by
    intro H only isS hok onlyA notK
    have keep : ∀ {b : Addr} {o : Obj}, s₁.heap.get? b = some o → H b = none → (hidT s₁.heap H).get? b = some o := fun e n => hidT_get e n
    have noA : ∀ {b : Addr} {o : Obj} {es : Array DictEntry} {ep : Nat}, s₁.heap.get? b = some o → o.data = .dict es ep → H b = none := fun {b o es ep} e d => by
      by_cases q : H b = none
      · exact q
      · have := onlyA b q
        subst this
        rw [ha] at e; cases e
        exact nomatch (show Data.seq vs.toArray _ = Data.dict es ep from d)
    have nsH : ∀ {b : Addr} {m : Str → Option Value}, s₁.heap.Ns b m → (hidT s₁.heap H).Ns b m := fun ⟨o, es, ep, e, d, r⟩ => ⟨o, es, ep, keep e (noA e d), d, r⟩
    have inB : K.In (hidT s₁.heap H) := fun b o e => keep (inK b o e) (by
      by_cases q : H b = none
      · exact q
      · have := onlyA b q
        subst this
        rw [notK q] at e; cases e)
    have md : Mod K mg (hidT s₁.heap H) := ⟨inB, nsH nsM, ⟨mb, nsH nsB, boot⟩, let ⟨mc, h1, h2⟩ := lim; ⟨mc, nsH h1, h2⟩⟩
    have e0 : Env0 P w K mg (hidT s₁.heap H) callerA [] s₁ H := ⟨rfl, md, fun b o e => of_hidT e, Nat.le_of_eq (hidT_size _ _), trivial, (fun b hb => nomatch hb), hok, .of_eq gens⟩
    have want : spF w K mg 1 g [.ref a] H (fun v _ => v = .bl true) (fun _ _ _ => False) := by
      refine ⟨rfl, H, [.lst (ns.map D.int)], Same.refl H, .cons (.lst isS (Reps.of_ints ns)) .nil, ?_⟩
      rw [good]
      exact fun v F1 H1 _ r1 => (by cases r1; rfl)
    refine codeAny_mono ((F _ inB (nsH nsM)).run callerA [] s₁ H _ [.ref a] [.ref a] _ _ rfl room e0 (bt s₁ (.ref a)) (.cons rfl .nil) want) fun r s' got => ?_
    match r, got with
    | .error _, ⟨_, _, _, _, _, _, _, _, _, _, _, _, z⟩ => exact z.elim
    | .ok (.ret u), ⟨v, H', os, bare, un, hok', r', q⟩ =>
      have q' : v = .bl true := q
      subst q'
      obtain rfl : u = Value.bool true := r'
      refine ⟨rfl, OldK.of_keep fun b o e => ?_, os, bare⟩
      by_cases hb : H b = none
      · exact un.keep b o e hb (fun z => nomatch z) (fun z => nomatch z)
      · rcases only b with z | ⟨ob, xs, z⟩
        · exact absurd z hb
        · obtain ⟨e1, _⟩ := hok b _ z
          obtain ⟨e2, _⟩ := hok' b _ (un.frzs b ob _ z)
          rw [e] at e1; cases e1
          exact e2
  cases hk : K.lookup a with
  | some o =>
    have e := inK a o hk
    rw [ha] at e
    cases e
    exact core (fun _ => none) (fun _ => .inl rfl) (.inr ⟨_, vs.toArray, _, hk, rfl, rfl, rfl, by rw [List.size_toArray, hi.length]; exact hl, by simpa using rv⟩) (fun b u z => nomatch (show (none : Option HO) = some u from z)) (fun b z => absurd rfl z) fun z => absurd rfl z
  | none =>
    have at_a : ∀ {o : HO}, (fun b => if b = a then some o else none) a = some o := if_pos rfl
    refine core (fun b => if b = a then some (.frz { cls := .type "list", data := .seq vs.toArray } (.lst (ns.map V.int))) else none) (fun b => ?_) (.inl (.inr ⟨{ cls := .type "list", data := .seq vs.toArray }, if_pos rfl⟩)) (fun b u z => ?_) (fun b z => ?_) fun _ => hk
    all_goals by_cases hb : b = a
    · exact .inr ⟨_, _, if_pos hb⟩
    · exact .inl (if_neg hb)
    · have z' := (if_pos hb).symm.trans z
      cases z'
      subst hb
      exact ⟨ha, by rw [List.length_map]; exact hl, vs, _, rv, ha⟩
    · exact nomatch ((if_neg hb).symm.trans z)
    · exact hb
    · exact absurd (if_neg hb) z
/-- the goal behind the law's head -/
theorem walkG {l : PySem.W.OpenLaw} {n k : Nat} {q : Program} {loose : List Str} {XP : (Str → Option Value) → Heap → Prop} {YP : World → Heap → Prop} {d : DefRec} {K : Params → PySem.W.Frag} {x : Str} {g : List D → R D}
    (hn : l.most = some n) (hn2 : n ≤ sizeLine) (hdf : d.params.defaults = []) (room : Room k callerA) (hY : ∀ (w : World) (h : Heap), YP w h → (K w.params).In h)
    (F : ∀ (w : World) (mg : Str → Option Value) (fa : Addr) (h : Heap), (K w.params).In h → h.Ns mainGlobals mg → mg d.name = some (.ref fa) →
      ∃ fd : FuncData, (∀ (s : Shared) (u : Value), BindsTo s fd ⟨[u], []⟩ [(x, u)]) ∧ ∀ base : Heap, (K w.params).In base → base.Ns mainGlobals mg → FnG l.prog w (K w.params) mg base k fa fd [x] (spF w (K w.params) mg 1 g))
    (good : ∀ ns : List Int, ns.length ≤ n → (∀ z ∈ ns, Builtin.Int.intBits z ≤ 1048576) → g [.lst (ns.map D.int)] = .ok (.bl true)) :
    PySem.W.WalkO q loose XP YP l.row.toRowW d [] (fun f vs => PySem.call f vs) := by
  refine Att.attach_callB hn hdf fun w s₀ s₁ mg mb fa o pm cd doc a vs ns G Y ho hd hcd hmg hobj hints hlen hbits hg => ?_
  have inK := hY w _ Y
  obtain ⟨fd, bt, hF⟩ := F w mg fa _ inK G.T.g hmg
  exact law_callG inK G.T.g G.T.b G.T.builtins G.T.nolimit hg hobj hints (Nat.le_trans hlen hn2) room hF bt (good ns hlen hbits)
/-- by a chain of promises -/
theorem law_mk {l : PySem.W.OpenLaw} {w : World} {K : PySem.W.Frag} {mg : Str → Option Value} {fa : Addr} {k : Nat} {x : Str} {g : List D → R D} {st : Stmt} (A : DefAt K mg "law" "law" st [x]) (hfa : mg "law" = some (.ref fa))
    (F : ∀ base : Heap, ∀ (f : Addr) (fd : FuncData), Fun K "law" "law" st f fd → FnG l.prog w K mg base k f fd [x] (spF w K mg 1 g)) (fdN : ∀ (kV doc pm : Value) (an : Option Addr) (cdv ct : Value) (u : Value), bindArgs (PySem.W.fnOf "law" "law" (defArgs st) (defBody st) (defScope st) .none kV doc pm an cdv ct) ⟨[u], []⟩ = pure [(x, u)]) :
    ∃ fd : FuncData, (∀ (s : Shared) (v : Value), BindsTo s fd ⟨[v], []⟩ [(x, v)]) ∧ ∀ base : Heap, K.In base → base.Ns mainGlobals mg → FnG l.prog w K mg base k fa fd [x] (spF w K mg 1 g) := by
  obtain ⟨f, fd, FF, hm, hb⟩ := A.ex
  rw [hfa] at hm; cases hm
  refine ⟨fd, fun s v => ?_, fun base _ _ => F base fa fd FF⟩
  obtain ⟨oc, od, kV, doc, pm, an, cdv, ct, osl, rfl, _, _⟩ := FF.ex
  exact .of_eq (fdN kV doc pm an cdv ct v)
end Dl

/-! DlU: the meanings, step by step, for the plain laws. -/
namespace Dl
open PySem PySem.Spec PyProof.Rows L2

/-- by no unfolding of the user's -/
theorem nr {α : Sort _} {a b : α} (h : a = b) : a = b := h
section
variable {st : SD}
@[simp] theorem evE_v {i} : evE (.v i) st = getSt st i := nr rfl
@[simp] theorem evE_kI {i} : evE (.kI i) st = .ok (.int i) := nr rfl
@[simp] theorem evE_kB {i} : evE (.kB i) st = .ok (.bl i) := nr rfl
@[simp] theorem evE_kN : evE .kN st = .ok .non := nr rfl
@[simp] theorem evE_kS {x} : evE (.kS x) st = .ok (.str x) := nr rfl
@[simp] theorem evE_glob {x d} : evE (.glob x d) st = .ok d := nr rfl
@[simp] theorem evE_bin {op a b} : evE (.bin op a b) st = (evE a st).bind fun x => (evE b st).bind fun y => binD op x y := nr rfl
@[simp] theorem evE_bits {a} : evE (.bits a) st = (evE a st).bind bitsD := nr rfl
@[simp] theorem bitsD_int {i : Int} : bitsD (.int i) = .ok (.int (Builtin.Int.intBits i : Nat)) := nr rfl
@[simp] theorem evE_ixOf {a b} : evE (.ixOf a b) st = (evE a st).bind fun x => (lstD x).bind fun x => (evE b st).bind fun y => ixOfD x y := nr rfl
@[simp] theorem lstD_lst {ds : List D} : lstD (.lst ds) = .ok (.lst ds) := nr rfl
theorem ixOf_ok {ns : List Int} {i : Int} {j : Nat} (h : ns.findIdx? (fun n => decide (n = i)) = some j) : ixOfD (.lst (ns.map D.int)) (.int i) = .ok (.int (j : Nat)) := by
  show ofO (fun j : Nat => D.int (j : Nat)) ((intsD (ns.map D.int)).bind fun ns => ns.findIdx? fun n => decide (n = i)) = _
  rw [intsD_map]
  show ofO (fun j : Nat => D.int (j : Nat)) (ns.findIdx? fun n => decide (n = i)) = _
  rw [h]
  rfl
@[simp] theorem evE_neg {a} : evE (.neg a) st = (evE a st).bind negD := nr rfl
@[simp] theorem evE_cmp {op a b} : evE (.cmp op a b) st = (evE a st).bind fun x => (evE b st).bind fun y => cmpD op x y := nr rfl
@[simp] theorem evE_chain {op op' a b c} : evE (.chain op op' a b c) st = chainR (cmpD op) (cmpD op') (evE a st) (evE b st) (evE c st) := nr rfl
@[simp] theorem evE_isN {a} : evE (.isN a) st = (evE a st).bind isND := nr rfl
@[simp] theorem evE_notN {a} : evE (.notN a) st = (evE a st).bind notND := nr rfl
@[simp] theorem evE_isB {b a} : evE (.isB b a) st = (evE a st).bind (isBD b) := nr rfl
@[simp] theorem evE_notB {b a} : evE (.notB b a) st = (evE a st).bind (notBD b) := nr rfl
@[simp] theorem evE_and {xs} : evE (.and xs) st = andL (evL xs) st := nr rfl
@[simp] theorem evE_or {xs} : evE (.or xs) st = orL (evL xs) st := nr rfl
@[simp] theorem evE_not {a} : evE (.not a) st = notR (evE a st) := nr rfl
@[simp] theorem evE_ite {c a b} : evE (.ite c a b) st = iteR (tR (evE c st)) (evE a st) (evE b st) := nr rfl
@[simp] theorem evE_tup {xs} : evE (.tup xs) st = tupR (seqL (evL xs) st) := nr rfl
@[simp] theorem evE_lst {xs} : evE (.lst xs) st = lstR (seqL (evL xs) st) := nr rfl
@[simp] theorem evE_idx {a b} : evE (.idx a b) st = (evE a st).bind fun x => (evE b st).bind fun y => idxD x y := nr rfl
@[simp] theorem evE_slice {a lo hi} : evE (.slice a lo hi) st = (evE a st).bind fun x => (evP lo st).bind fun l => (evP hi st).bind fun h => sliceD x l h := nr rfl
@[simp] theorem evE_b1 {f a} : evE (.b1 f a) st = (evE a st).bind (b1D f) := nr rfl
@[simp] theorem evE_b2 {f a b} : evE (.b2 f a b) st = (evE a st).bind fun x => (evE b st).bind fun y => b2D f x y := nr rfl
@[simp] theorem evE_listRg {a} : evE (.listRg a) st = (evE a st).bind rgR := nr rfl
@[simp] theorem evE_dnil : evE .dnil st = .ok (.dct [] []) := nr rfl
@[simp] theorem evE_lend {i a} : evE (.lend i a) st = lendR i st (evE a st) := nr rfl
@[simp] theorem evE_callK {x ks f args kargs} : evE (.callK x ks f args kargs) st = (seqL (evL args) st).bind fun ds => (seqL (evL kargs) st).bind fun zs => f (ds ++ zs) := nr rfl
@[simp] theorem evE_call {x f args} : evE (.call x f args) st = (seqL (evL args) st).bind f := nr rfl
@[simp] theorem evE_fld {c f a} : evE (.fld c f a) st = (evE a st).bind (fldD c f) := nr rfl
@[simp] theorem evE_mk {x f args} : evE (.mk x f args) st = (seqL (evL args) st).bind f := nr rfl
@[simp] theorem evE_meth {m tbl a args} : evE (.meth m tbl a args) st = (evE a st).bind fun x => (recvD m tbl x).bind fun f => (seqL (evL args) st).bind fun ds => f (x :: ds) := nr rfl
@[simp] theorem evE_dcomp {ns g src c k e} : evE (.dcomp ns g src c k e) st = (evI src st).bind fun items => dcR g (evC c) (evE k) (evE e) st items := nr rfl
@[simp] theorem evE_comp {ns g src c e} : evE (.comp ns g src c e) st = (evI src st).bind fun items => compR g (evC c) (evE e) st items := nr rfl
@[simp] theorem evL_nil : evL .nil = [] := nr rfl
@[simp] theorem evL_cons {a as} : evL (.cons a as) = evE a :: evL as := nr rfl
@[simp] theorem evP_none : evP .none st = .ok none := nr rfl
@[simp] theorem evP_some {a} : evP (.some a) st = partR (evE a st) := nr rfl
@[simp] theorem evC_none : evC .none st = .ok true := nr rfl
@[simp] theorem evC_some {a} : evC (.some a) st = tR (evE a st) := nr rfl
@[simp] theorem evI_any {a} : evI (.any a) st = (evE a st).bind iterD := nr rfl
@[simp] theorem evI_rng1 {a} : evI (.rng1 a) st = (evE a st).bind rng1R := nr rfl
@[simp] theorem evI_rng2 {a b} : evI (.rng2 a b) st = (evE a st).bind fun x => (evE b st).bind fun y => rng2R x y := nr rfl
@[simp] theorem evI_enum {a} : evI (.enum a) st = (evE a st).bind fun x => (seqOnly x).bind fun ds => .ok (enumL 0 ds) := nr rfl
@[simp] theorem evI_zip {a b} : evI (.zip a b) st = (evE a st).bind fun x => (evE b st).bind fun y => zipD x y := nr rfl
@[simp] theorem evI_rev {a} : evI (.rev a) st = (evE a st).bind fun x => (lstOnly x).bind fun ds => .ok ds.reverse := nr rfl
@[simp] theorem seqL_nil : seqL [] st = .ok [] := nr rfl
@[simp] theorem seqL_cons {f fs} : seqL (f :: fs) st = (f st).bind fun d => (seqL fs st).bind fun ds => .ok (d :: ds) := nr rfl
@[simp] theorem andL_one {f} : andL [f] st = f st := nr rfl
@[simp] theorem andL_cons {f g fs} : andL (f :: g :: fs) st = andR (f st) (andL (g :: fs) st) := nr rfl
@[simp] theorem orL_one {f} : orL [f] st = f st := nr rfl
@[simp] theorem orL_cons {f g fs} : orL (f :: g :: fs) st = orR (f st) (orL (g :: fs) st) := nr rfl
variable {α β : Type}
@[simp] theorem bind_ok {a : α} {f : α → R β} : (R.ok a).bind f = f a := nr rfl
@[simp] theorem bind_un {f : α → R β} : (R.un : R α).bind f = .un := nr rfl
@[simp] theorem toO_ok {a : α} {k : α → O} : (R.ok a).toO st k = k a := nr rfl
@[simp] theorem bind_ex {c ns ds} {f : α → R β} : (R.ex c ns ds : R α).bind f = .ex c ns ds := nr rfl
@[simp] theorem toO_ex {c ns ds} {k : α → O} : (R.ex c ns ds : R α).toO st k = .ex st c ns ds := nr rfl
@[simp] theorem toO_un {k : α → O} : (R.un : R α).toO st k = .un := nr rfl
@[simp] theorem obind_nx {k : SD → O} : (O.nx st).bind k = k st := nr rfl
@[simp] theorem obind_rt {d} {k : SD → O} : (O.rt d).bind k = .rt d := nr rfl
@[simp] theorem obind_bk {k : SD → O} : (O.bk st).bind k = .bk st := nr rfl
@[simp] theorem obind_ct {k : SD → O} : (O.ct st).bind k = .ct st := nr rfl
@[simp] theorem obind_un {k : SD → O} : (O.un).bind k = .un := nr rfl
@[simp] theorem toO_bind {r : R α} {k : α → O} {g : SD → O} : (r.toO st k).bind g = r.toO st fun a => (k a).bind g := by cases r <;> rfl
@[simp] theorem fin_rt {d} : (O.rt d).fin = .ok d := nr rfl
@[simp] theorem fin_nx : (O.nx st).fin = .ok .non := nr rfl
@[simp] theorem fin_un : O.un.fin = .un := nr rfl
@[simp] theorem obind_assoc {o : O} {f g : SD → O} : (o.bind f).bind g = o.bind fun s => (f s).bind g := by cases o <;> rfl
theorem obind_if {c : Prop} [Decidable c] {a b : O} {k : SD → O} : (if c then a else b).bind k = if c then a.bind k else b.bind k := by split <;> rfl
theorem ofin_if {c : Prop} [Decidable c] {a b : O} : (if c then a else b).fin = if c then a.fin else b.fin := by split <;> rfl
theorem rbind_if {c : Prop} [Decidable c] {a b : R α} {k : α → R β} : (if c then a else b).bind k = if c then a.bind k else b.bind k := by split <;> rfl
@[simp] theorem exS_pass : execS .pass st = .nx st := nr rfl
@[simp] theorem exS_brk : execS .brk st = .bk st := nr rfl
@[simp] theorem exS_cnt : execS .cnt st = .ct st := nr rfl
@[simp] theorem exS_retN : execS .retN st = .rt .non := nr rfl
@[simp] theorem exS_nev : execS .nev st = .un := nr rfl
@[simp] theorem exS_set {i ow e} : execS (.set i ow e) st = (evE e st).toO st fun d => .nx (st.set i (some d)) := nr rfl
@[simp] theorem exS_unp {g e} : execS (.unp g e) st = (evE e st).toO st fun d => (bindT g d st).toO st .nx := nr rfl
@[simp] theorem exS_me {m i dst args} : execS (.me m i dst args) st = meO m i dst st (seqL (evL args) st) := nr rfl
@[simp] theorem exS_setd {i k e} : execS (.setd i k e) st = setKey i st (evE k st) (evE e st) := nr rfl
@[simp] theorem exS_apPop {i j args} : execS (.apPop i j args) st = apPopO i j st (seqL (evL args) st) := nr rfl
@[simp] theorem exS_setix {i k e} : execS (.setix i k e) st = setItem i st (evE k st) (evE e st) := nr rfl
@[simp] theorem exS_expr {e} : execS (.expr e) st = (evE e st).toO st fun _ => .nx st := nr rfl
@[simp] theorem exS_ret {e} : execS (.ret e) st = (evE e st).toO st .rt := nr rfl
@[simp] theorem exS_ifs {c a b} : execS (.ifs c a b) st = (tR (evE c st)).toO st fun k => if k = true then execL a st else execL b st := nr rfl
@[simp] theorem exS_fors {o g src body} : execS (.fors o g src body) st = (evI src st).toO st fun items => forL (bindT g) (execL body) items st := nr rfl
@[simp] theorem exS_whiles {o fuel c body} : execS (.whiles o fuel c body) st = whileL (fun st => tR (evE c st)) (execL body) (fuel st) st := nr rfl
@[simp] theorem exS_frz {fz s} : execS (.frz fz s) st = execS s st := nr rfl
@[simp] theorem exS_raise {c fs args} : execS (.raise c fs args) st = (seqL (evL args) st).toO st fun ds => raiseO c fs (IEs.len args) st ds := nr rfl
@[simp] theorem exS_trys {sub h body} : execS (.trys sub h body) st = tryO sub h (execL body st) := nr rfl
@[simp] theorem obind_ex {c ns ds} {k : SD → O} : (O.ex st c ns ds).bind k = .ex st c ns ds := nr rfl
@[simp] theorem fin_ex {c ns ds} : (O.ex st c ns ds).fin = .ex c ns ds := nr rfl
@[simp] theorem exL_nil : execL .nil st = .nx st := nr rfl
@[simp] theorem exL_cons {s ss} : execL (.cons s ss) st = (execS s st).bind (execL ss) := nr rfl
@[simp] theorem getSt_0 {x : Option D} : getSt (x :: st) 0 = (match x with
  | some d => .ok d
  | none => .un) := nr (by cases x <;> rfl)
@[simp] theorem getSt_s {x : Option D} {i : Nat} : getSt (x :: st) (i + 1) = getSt st i := nr rfl
@[simp] theorem tR_bl {b : Bool} : tR (.ok (.bl b)) = .ok b := nr rfl
@[simp] theorem tR_un : tR .un = .un := nr rfl
@[simp] theorem notR_bl {b : Bool} : notR (.ok (.bl b)) = .ok (.bl (!b)) := nr rfl
@[simp] theorem andR_bl {b : Bool} {r : R D} : andR (.ok (.bl b)) r = if b = true then r else .ok (.bl false) := by cases b <;> rfl
@[simp] theorem orR_bl {b : Bool} {r : R D} : orR (.ok (.bl b)) r = if b = true then .ok (.bl true) else r := by cases b <;> rfl
@[simp] theorem lstR_ok {ds : List D} : lstR (.ok ds) = if ds.length ≤ 16777216 then .ok (.lst ds) else .un := nr rfl
@[simp] theorem tupR_ok {ds : List D} : tupR (.ok ds) = if ds.length ≤ 16777216 then .ok (.tup ds) else .un := nr rfl
@[simp] theorem partR_int {i : Int} : partR (.ok (.int i)) = .ok (some i) := nr rfl
@[simp] theorem iteR_ok {b : Bool} {x y : R α} : iteR (.ok b) x y = if b = true then x else y := nr rfl
@[simp] theorem chainR_ok {g g' : D → D → R D} {x y : D} {c : R D} : chainR g g' (.ok x) (.ok y) c = (g x y).bind fun z => match z with
  | .bl true => c.bind fun w => g' y w
  | .bl false => .ok (.bl false)
  | _ => .un := nr rfl
@[simp] theorem rng1R_int {n : Int} : rng1R (.int n) = rngD 0 n := nr rfl
@[simp] theorem rng2R_int {m n : Int} : rng2R (.int m) (.int n) = rngD m n := nr rfl
@[simp] theorem rgR_int {n : Int} : rgR (.int n) = rgD 0 n := nr rfl
@[simp low] theorem tR_ok {d : D} : tR (.ok d) = truthD d := nr rfl
@[simp low] theorem notR_ok {d : D} : notR (.ok d) = (truthD d).bind fun k => .ok (.bl (!k)) := nr rfl
@[simp low] theorem andR_ok {d : D} {r : R D} : andR (.ok d) r = (truthD d).bind fun k => if k = true then r else .ok d := nr rfl
@[simp low] theorem orR_ok {d : D} {r : R D} : orR (.ok d) r = (truthD d).bind fun k => if k = true then .ok d else r := nr rfl
theorem any_fac (p q : Bool) (f : D → Bool) : ∀ xs : List D, (xs.any fun x => p && f x && q) = (p && xs.any f && q)
  | [] => by simp
  | x :: xs => by
    rw [List.any_cons, List.any_cons, any_fac p q f xs]
    cases p <;> cases f x <;> cases q <;> simp
theorem runD_at {N : List Str} {n : Nat} {body : ISs} {ds : List D} (h : ds.length = n) : runD N n body ds = (execL body (ds.map some ++ List.replicate (N.length - ds.length) none)).fin := if_pos h
section
variable {a b : Int} {x y d : D} {ds es : List D} {p q : Bool}
@[simp] theorem binD_add : binD .add = addD := nr rfl
@[simp] theorem binD_sub : binD .sub = subD := nr rfl
@[simp] theorem binD_mul : binD .mul = mulD := nr rfl
@[simp] theorem binD_rep : binD .rep = repD := nr rfl
@[simp] theorem binD_fdiv : binD .fdiv = fdivD := nr rfl
@[simp] theorem binD_mod : binD .mod = modD := nr rfl
@[simp] theorem binD_pow : binD .pow = powD := nr rfl
@[simp] theorem binD_bor : binD .bor = borD := nr rfl
@[simp] theorem binD_band : binD .band = bandD := nr rfl
@[simp] theorem binD_bxor : binD .bxor = bxorD := nr rfl
@[simp] theorem binD_shl : binD .shl = shlD := nr rfl
@[simp] theorem cmpD_eq : cmpD .eq = eqD := nr rfl
@[simp] theorem cmpD_ne : cmpD .ne = neD := nr rfl
@[simp] theorem cmpD_lt : cmpD .lt = ltD := nr rfl
@[simp] theorem cmpD_le : cmpD .le = leD := nr rfl
@[simp] theorem cmpD_gt : cmpD .gt = gtD := nr rfl
@[simp] theorem cmpD_ge : cmpD .ge = geD := nr rfl
@[simp] theorem cmpD_in : cmpD .in = inD := nr rfl
@[simp] theorem cmpD_notin : cmpD .notin = notInD := nr rfl
@[simp] theorem b1D_len : b1D .len = lenD := nr rfl
@[simp] theorem b1D_int : b1D .int = intD := nr rfl
@[simp] theorem b1D_abs : b1D .abs = absD := nr rfl
@[simp] theorem b1D_list : b1D .list = listD := nr rfl
@[simp] theorem b1D_tuple : b1D .tuple = tupleD := nr rfl
@[simp] theorem b1D_max : b1D .max = maxD := nr rfl
@[simp] theorem b1D_min : b1D .min = minD := nr rfl
@[simp] theorem b1D_sum : b1D .sum = sumD := nr rfl
@[simp] theorem b1D_any : b1D .any = anyD := nr rfl
@[simp] theorem b1D_all : b1D .all = allD := nr rfl
@[simp] theorem b1D_sorted : b1D .sorted = sortD := nr rfl
@[simp] theorem b1D_repr : b1D .repr = reprD := nr rfl
@[simp] theorem b1D_isi {t} : b1D (.isi t) = isiD t := nr rfl
@[simp] theorem b2D_max : b2D .max = max2D := nr rfl
@[simp] theorem b2D_min : b2D .min = min2D := nr rfl
@[simp] theorem addD_int : addD (.int a) (.int b) = .ok (.int (a + b)) := nr rfl
theorem addD_lst (h : ds.length + es.length ≤ 16777216) : addD (.lst ds) (.lst es) = .ok (.lst (ds ++ es)) := if_pos h
theorem addD_tup (h : ds.length + es.length ≤ 16777216) : addD (.tup ds) (.tup es) = .ok (.tup (ds ++ es)) := if_pos h
@[simp] theorem subD_int : subD (.int a) (.int b) = .ok (.int (a - b)) := nr rfl
theorem log2_lt {n k : Nat} (h : n < 2 ^ k) (hk : 0 < k) : n.log2 < k := by
  by_cases h0 : n = 0
  · subst h0; rw [Nat.log2_zero]; exact hk
  · exact (Nat.log2_lt h0).mpr h
/-- factors that are not wide -/
theorem mulD_int (h1 : a.natAbs < 2 ^ 256) (h2 : b.natAbs < 2 ^ 256) : mulD (.int a) (.int b) = .ok (.int (a * b)) := by
  have e1 : a.natAbs.log2 < 256 := log2_lt h1 (by decide)
  have e2 : b.natAbs.log2 < 256 := log2_lt h2 (by decide)
  exact if_pos (by omega)
theorem abs64 (h1 : -(18446744073709551616) < a) (h2 : a < 18446744073709551616) : a.natAbs < 2 ^ 256 := by
  have : a.natAbs < 2 ^ 64 := by omega
  exact Nat.lt_of_lt_of_le this (Nat.pow_le_pow_right (by decide) (by decide))
theorem fdivD_int (h1 : 0 < b) (h2 : b < 18446744073709551616) : fdivD (.int a) (.int b) = .ok (.int (a / b)) := by
  have e : b.natAbs.log2 < 64 := log2_lt (by omega) (by decide)
  exact if_pos ⟨h1, by omega⟩
theorem modD_int (h : 0 < b) : modD (.int a) (.int b) = .ok (.int (a % b)) := if_pos h
theorem powD_int (h1 : 0 ≤ b) (h2 : b ≤ 1000000) (h3 : a.natAbs < 2 ^ 64) : powD (.int a) (.int b) = .ok (.int (a ^ b.toNat)) := if_pos ⟨h1, h2, h3⟩
theorem pow10_18 : powD (.int 10) (.int 18) = .ok (.int 1000000000000000000) := by
  rw [powD_int (by decide) (by decide) (by decide)]
  simp
@[simp] theorem negD_int : negD (.int a) = .ok (.int (-a)) := nr rfl
@[simp] theorem ltD_int : ltD (.int a) (.int b) = .ok (.bl (decide (a < b))) := nr rfl
@[simp] theorem leD_int : leD (.int a) (.int b) = .ok (.bl (decide (a ≤ b))) := nr rfl
@[simp] theorem gtD_int : gtD (.int a) (.int b) = .ok (.bl (decide (b < a))) := nr rfl
@[simp] theorem geD_int : geD (.int a) (.int b) = .ok (.bl (decide (b ≤ a))) := nr rfl
theorem eqD_ok (h1 : x.okE = true) (h2 : y.okE = true) : eqD x y = .ok (.bl (D.eqv x y)) := if_pos (by unfold D.okQ; rw [h1, h2]; rfl)
theorem neD_ok (h1 : x.okE = true) (h2 : y.okE = true) : neD x y = .ok (.bl (!D.eqv x y)) := if_pos (by unfold D.okQ; rw [h1, h2]; rfl)
theorem eqv_int : D.eqv (.int a) (.int b) = decide (a = b) := by
  show PyData.eqv (.int a) (.int b) = _
  unfold PyData.eqv
  rw [Bool.beq_eq_decide_eq]
theorem eqv_bl : D.eqv (.bl p) (.bl q) = (p == q) := by
  show PyData.eqv (.bool p) (.bool q) = _
  unfold PyData.eqv
  rfl
theorem eqv_str {x y : Str} : D.eqv (.str x) (.str y) = (x == y) := by
  show PyData.eqv (.str x) (.str y) = _
  unfold PyData.eqv
  rfl
def eqvL : List D → List D → Bool
  | [], [] => true
  | x :: xs, y :: ys => D.eqv x y && eqvL xs ys
  | _, _ => false
theorem eqvL_eq : ∀ xs ys : List D, PyData.eqvAll (D.pys xs) (D.pys ys) = eqvL xs ys
  | [], [] => by simp only [D.pys, PyData.eqvAll, eqvL]
  | [], _ :: _ => by simp only [D.pys, PyData.eqvAll, eqvL]
  | _ :: _, [] => by simp only [D.pys, PyData.eqvAll, eqvL]
  | x :: xs, y :: ys => by
    simp only [D.pys, PyData.eqvAll, eqvL]
    rw [eqvL_eq xs ys]
    rfl
theorem eqv_tup : D.eqv (.tup ds) (.tup es) = eqvL ds es := by
  rw [← eqvL_eq]
  show PyData.eqv (.tuple _) (.tuple _) = _
  simp only [PyData.eqv]
theorem eqv_lst : D.eqv (.lst ds) (.lst es) = eqvL ds es := by
  rw [← eqvL_eq]
  show PyData.eqv (.list _) (.list _) = _
  simp only [PyData.eqv]
@[simp] theorem eqD_str {x y : Str} : eqD (.str x) (.str y) = .ok (.bl (x == y)) := by
  rw [← eqv_str]
  exact if_pos (by unfold D.okQ; rw [Bool.or_eq_true]; exact .inr rfl)
@[simp] theorem neD_str {x y : Str} : neD (.str x) (.str y) = .ok (.bl (!(x == y))) := by
  rw [← eqv_str]
  exact if_pos (by unfold D.okQ; rw [Bool.or_eq_true]; exact .inr rfl)
@[simp] theorem eqD_int : eqD (.int a) (.int b) = .ok (.bl (decide (a = b))) := by rw [eqD_ok rfl rfl, eqv_int]
@[simp] theorem neD_int : neD (.int a) (.int b) = .ok (.bl (!decide (a = b))) := by rw [neD_ok rfl rfl, eqv_int]
theorem inD_lstOk (h1 : x.okE = true) (h2 : (D.lst ds).okE = true) : inD x (.lst ds) = .ok (.bl (ds.any fun z => D.eqv z x)) := by rw [inD_lst, if_pos ⟨h1, h2⟩]
theorem inD_tupOk (h1 : x.okE = true) (h2 : (D.tup ds).okE = true) : inD x (.tup ds) = .ok (.bl (ds.any fun z => D.eqv z x)) := by rw [inD_tup, if_pos ⟨h1, h2⟩]
theorem notInD_lstOk (h1 : x.okE = true) (h2 : (D.lst ds).okE = true) : notInD x (.lst ds) = .ok (.bl (!ds.any fun z => D.eqv z x)) := by rw [notInD_lst, if_pos ⟨h1, h2⟩]
theorem notInD_tupOk (h1 : x.okE = true) (h2 : (D.tup ds).okE = true) : notInD x (.tup ds) = .ok (.bl (!ds.any fun z => D.eqv z x)) := by rw [notInD_tup, if_pos ⟨h1, h2⟩]
/-! data that may be compared -/
theorem okE_eq : d.okE = (d.plain && (d.py.canLay0 && decide (d.py.depth ≤ 64))) := rfl
@[simp] theorem okE_non : D.non.okE = true := nr rfl
@[simp] theorem okE_bl : (D.bl p).okE = true := nr rfl
@[simp] theorem okE_int : (D.int a).okE = true := nr rfl
theorem okE_str {x : Str} (h : PyData.strOk x = true) : (D.str x).okE = true := by
  show (true && ((PyData.str x).canLay0 && _)) = true
  have : (PyData.str x).canLay0 = true := by simp only [PyData.canLay0]; exact h
  rw [this]; rfl
/-- to a depth -/
def okN (n : Nat) (d : D) : Prop := d.plain = true ∧ d.py.canLay0 = true ∧ d.py.depth ≤ n
theorem okN.ok {n : Nat} (h : okN n d) (hn : n ≤ 64) : d.okE = true := by
  obtain ⟨h1, h2, h3⟩ := h
  rw [okE_eq, h1, h2]
  simp only [Bool.true_and, decide_eq_true_eq]
  omega
theorem okN.mono {n m : Nat} (h : okN n d) (hn : n ≤ m) : okN m d := ⟨h.1, h.2.1, Nat.le_trans h.2.2 hn⟩
theorem okN_non {n : Nat} : okN n .non := ⟨rfl, rfl, Nat.zero_le _⟩
theorem okN_bl {n : Nat} : okN n (.bl p) := ⟨rfl, rfl, Nat.zero_le _⟩
theorem okN_int {n : Nat} : okN n (.int a) := ⟨rfl, rfl, Nat.zero_le _⟩
theorem okN_str {n : Nat} {x : Str} (h : PyData.strOk x = true) : okN n (.str x) := ⟨rfl, by show (PyData.str x).canLay0 = true; simp only [PyData.canLay0]; exact h, Nat.zero_le _⟩
theorem okN_all {n : Nat} : ∀ {ds : List D}, (∀ d ∈ ds, okN n d) → D.plains ds = true ∧ PyData.canLayAll0 (D.pys ds) = true ∧ PyData.depthAll (D.pys ds) ≤ n
  | [], _ => ⟨rfl, by simp only [D.pys, PyData.canLayAll0], by simp [D.pys, PyData.depthAll]⟩
  | d :: ds, h => by
    obtain ⟨h1, h2, h3⟩ := h d List.mem_cons_self
    obtain ⟨g1, g2, g3⟩ := okN_all fun e he => h e (List.mem_cons_of_mem _ he)
    refine ⟨by simp only [D.plains, h1, g1, Bool.and_self], by simp only [D.pys, PyData.canLayAll0, h2, g2, Bool.and_self], ?_⟩
    simp only [D.pys, PyData.depthAll]
    omega
theorem okN_tup {n : Nat} (h : ∀ d ∈ ds, okN n d) : okN (n + 1) (.tup ds) := by
  obtain ⟨h1, h2, h3⟩ := okN_all h
  refine ⟨by simp only [D.plain]; exact h1, by simp only [D.py, PyData.canLay0]; exact h2, ?_⟩
  simp only [D.py, PyData.depth]
  omega
theorem okN_lst {n : Nat} (h : ∀ d ∈ ds, okN n d) : okN (n + 1) (.lst ds) := by
  obtain ⟨h1, h2, h3⟩ := okN_all h
  refine ⟨by simp only [D.plain]; exact h1, by simp only [D.py, PyData.canLay0]; exact h2, ?_⟩
  simp only [D.py, PyData.depth]
  omega
/-! what may be shown -/
def Shw (n b : Nat) (d : D) : Prop := okN n d ∧ d.py.showable = true ∧ d.py.intsShort 13 = true ∧ d.py.bulk ≤ b
theorem Shw.mono {n m b c : Nat} (h : Shw n b d) (hn : n ≤ m) (hb : b ≤ c) : Shw m c d := ⟨h.1.mono hn, h.2.1, h.2.2.1, Nat.le_trans h.2.2.2 hb⟩
theorem shw_non {n b : Nat} : Shw n b .non := ⟨okN_non, rfl, rfl, Nat.zero_le _⟩
theorem shw_bl {n b : Nat} : Shw n b (.bl p) := ⟨okN_bl, rfl, rfl, Nat.zero_le _⟩
theorem shw_int {n b : Nat} (h : a.natAbs < 10 ^ 12) : Shw n b (.int a) := by
  refine ⟨okN_int, ?_, ?_, Nat.zero_le _⟩
  · show (PyData.int a).showable = true
    simp only [PyData.showable, decide_eq_true_eq]
    have : a.natAbs.log2 < 40 := log2_lt (Nat.lt_of_lt_of_le h (by decide)) (by decide)
    omega
  · show (PyData.int a).intsShort 13 = true
    simp only [PyData.intsShort, decide_eq_true_eq]
    have e := int_text_length_le10 (k := 12) (by decide) h
    show (Str.ofString (toString a)).length ≤ 13
    rw [PySem.ofString_length]; exact e
theorem shw_str {n b : Nat} {x : Str} (h : PyData.strOk x = true) (hl : x.length ≤ b) : Shw n b (.str x) := by
  refine ⟨okN_str h, rfl, rfl, ?_⟩
  show (PyData.str x).bulk ≤ b
  simp only [PyData.bulk]; exact hl
theorem shw_all {n b : Nat} : ∀ {ds : List D}, (∀ d ∈ ds, Shw n b d) → PyData.showableAll (D.pys ds) = true ∧ PyData.intsShortAll 13 (D.pys ds) = true ∧ PyData.bulkAll (D.pys ds) ≤ ds.length * (b + 1)
  | [], _ => ⟨by simp only [D.pys, PyData.showableAll], by simp only [D.pys, PyData.intsShortAll], by simp [D.pys, PyData.bulkAll]⟩
  | d :: ds, h => by
    obtain ⟨_, h2, h3, h4⟩ := h d List.mem_cons_self
    obtain ⟨g1, g2, g3⟩ := shw_all fun e he => h e (List.mem_cons_of_mem _ he)
    refine ⟨by simp only [D.pys, PyData.showableAll, h2, g1, Bool.and_self], by simp only [D.pys, PyData.intsShortAll, h3, g2, Bool.and_self], ?_⟩
    simp only [D.pys, PyData.bulkAll, List.length_cons, Nat.add_mul]
    omega
theorem shw_tup {n b : Nat} (h : ∀ d ∈ ds, Shw n b d) : Shw (n + 1) (ds.length * (b + 1)) (.tup ds) := by
  obtain ⟨h1, h2, h3⟩ := shw_all h
  exact ⟨okN_tup fun d hd => (h d hd).1, by simp only [D.py, PyData.showable]; exact h1, by simp only [D.py, PyData.intsShort]; exact h2, by simp only [D.py, PyData.bulk]; exact h3⟩
theorem shw_lst {n b : Nat} (h : ∀ d ∈ ds, Shw n b d) : Shw (n + 1) (ds.length * (b + 1)) (.lst ds) := by
  obtain ⟨h1, h2, h3⟩ := shw_all h
  exact ⟨okN_lst fun d hd => (h d hd).1, by simp only [D.py, PyData.showable]; exact h1, by simp only [D.py, PyData.intsShort]; exact h2, by simp only [D.py, PyData.bulk]; exact h3⟩
theorem repr_lst {n b : Nat} (h : Shw n b (.lst ds)) (hn : n ≤ 64) (hb : b ≤ 1048576) : reprD (.lst ds) = .ok (.str (D.lst ds).py.shown) := by
  obtain ⟨⟨h1, h2, h3⟩, h4, h5, h6⟩ := h
  have hl := PyData.leavesShort_of_canLay0 13 _ h2 h5
  have hs := PyData.shown_fits_bulk (B := 13) (by decide) (by decide) hl (Nat.le_trans h6 hb)
  rw [sizeLine_eq] at hs
  refine if_pos ?_
  rw [h1, h4]
  simp only [Bool.true_and, Bool.and_eq_true, decide_eq_true_eq]
  exact ⟨by omega, hs⟩
@[simp] theorem isND_non : isND .non = .ok (.bl true) := nr rfl
@[simp] theorem isND_str {x} : isND (.str x) = .ok (.bl false) := nr rfl
@[simp] theorem isND_int : isND (.int a) = .ok (.bl false) := nr rfl
@[simp] theorem isND_b : isND (.bl p) = .ok (.bl false) := nr rfl
@[simp] theorem isND_tup : isND (.tup ds) = .ok (.bl false) := nr rfl
@[simp] theorem isND_lst : isND (.lst ds) = .ok (.bl false) := nr rfl
@[simp] theorem notND_non : notND .non = .ok (.bl false) := nr rfl
@[simp] theorem notND_str {x} : notND (.str x) = .ok (.bl true) := nr rfl
@[simp] theorem notND_int : notND (.int a) = .ok (.bl true) := nr rfl
@[simp] theorem notND_b : notND (.bl p) = .ok (.bl true) := nr rfl
@[simp] theorem notND_tup : notND (.tup ds) = .ok (.bl true) := nr rfl
@[simp] theorem notND_lst : notND (.lst ds) = .ok (.bl true) := nr rfl
@[simp] theorem lenD_lst : lenD (.lst ds) = .ok (.int ds.length) := nr rfl
@[simp] theorem lenD_tup : lenD (.tup ds) = .ok (.int ds.length) := nr rfl
@[simp] theorem intD_int : intD (.int a) = .ok (.int a) := nr rfl
@[simp] theorem listD_lst : listD (.lst ds) = .ok (.lst ds) := nr rfl
@[simp] theorem listD_tup : listD (.tup ds) = .ok (.lst ds) := nr rfl
@[simp] theorem tupleD_lst : tupleD (.lst ds) = .ok (.tup ds) := nr rfl
@[simp] theorem tupleD_tup : tupleD (.tup ds) = .ok (.tup ds) := nr rfl
@[simp] theorem seqOnly_lst : seqOnly (.lst ds) = .ok ds := nr rfl
@[simp] theorem seqOnly_tup : seqOnly (.tup ds) = .ok ds := nr rfl
@[simp] theorem iterD_lst : iterD (.lst ds) = .ok ds := nr rfl
@[simp] theorem iterD_tup : iterD (.tup ds) = .ok ds := nr rfl
@[simp] theorem truthD_bl : truthD (.bl p) = .ok p := nr rfl
@[simp] theorem truthD_lst : truthD (.lst ds) = .ok (!ds.isEmpty) := nr rfl
@[simp] theorem truthD_tup : truthD (.tup ds) = .ok (!ds.isEmpty) := nr rfl
@[simp] theorem truthD_int : truthD (.int a) = .ok (a != 0) := nr rfl
@[simp] theorem truthD_non : truthD .non = .ok false := nr rfl
theorem ixN_nat {n : Nat} {i : Nat} (h : i < n) : ixN n (i : Int) = some i := by
  unfold ixN
  rw [if_pos (by omega), if_pos (by omega)]
  rfl
theorem ixN_at {n : Nat} {i : Int} (h0 : 0 ≤ i) (h : i < n) : ixN n i = some i.toNat := by
  unfold ixN
  rw [if_pos h0, if_pos h]
theorem ixN_neg {n : Nat} {i : Int} (h0 : i < 0) (h : -(n : Int) ≤ i) : ixN n i = some (i + n).toNat := by
  unfold ixN
  rw [if_neg (by omega), if_pos h]
theorem idxD_lst {i : Int} {j : Nat} (hj : ixN ds.length i = some j) (hd : ds[j]? = some d) : idxD (.lst ds) (.int i) = .ok d := by
  show ofO id ((ixN ds.length i).bind fun j => ds[j]?) = _
  rw [hj]
  show ofO id ds[j]? = _
  rw [hd]; rfl
theorem idxD_tup {i : Int} {j : Nat} (hj : ixN ds.length i = some j) (hd : ds[j]? = some d) : idxD (.tup ds) (.int i) = .ok d := by
  show ofO id ((ixN ds.length i).bind fun j => ds[j]?) = _
  rw [hj]
  show ofO id ds[j]? = _
  rw [hd]; rfl
@[simp] theorem bindT_nm {i : Nat} {st : SD} : bindT (.nm i) d st = .ok (st.set i (some d)) := nr rfl
@[simp] theorem isiD_int_non : isiD .int .non = .ok (.bl false) := nr rfl
@[simp] theorem isiD_int_bl : isiD .int (.bl p) = .ok (.bl true) := nr rfl
@[simp] theorem isiD_int_int : isiD .int (.int a) = .ok (.bl true) := nr rfl
@[simp] theorem isiD_int_str {x : Str} : isiD .int (.str x) = .ok (.bl false) := nr rfl
@[simp] theorem isiD_int_tup : isiD .int (.tup ds) = .ok (.bl false) := nr rfl
@[simp] theorem isiD_int_lst : isiD .int (.lst ds) = .ok (.bl false) := nr rfl
@[simp] theorem isiD_bool_non : isiD .bool .non = .ok (.bl false) := nr rfl
@[simp] theorem isiD_bool_bl : isiD .bool (.bl p) = .ok (.bl true) := nr rfl
@[simp] theorem isiD_bool_int : isiD .bool (.int a) = .ok (.bl false) := nr rfl
@[simp] theorem isiD_bool_str {x : Str} : isiD .bool (.str x) = .ok (.bl false) := nr rfl
@[simp] theorem isiD_bool_tup : isiD .bool (.tup ds) = .ok (.bl false) := nr rfl
@[simp] theorem isiD_bool_lst : isiD .bool (.lst ds) = .ok (.bl false) := nr rfl
@[simp] theorem isiD_str_non : isiD .str .non = .ok (.bl false) := nr rfl
@[simp] theorem isiD_str_bl : isiD .str (.bl p) = .ok (.bl false) := nr rfl
@[simp] theorem isiD_str_int : isiD .str (.int a) = .ok (.bl false) := nr rfl
@[simp] theorem isiD_str_str {x : Str} : isiD .str (.str x) = .ok (.bl true) := nr rfl
@[simp] theorem isiD_str_tup : isiD .str (.tup ds) = .ok (.bl false) := nr rfl
@[simp] theorem isiD_str_lst : isiD .str (.lst ds) = .ok (.bl false) := nr rfl
@[simp] theorem isiD_list_non : isiD .list .non = .ok (.bl false) := nr rfl
@[simp] theorem isiD_list_bl : isiD .list (.bl p) = .ok (.bl false) := nr rfl
@[simp] theorem isiD_list_int : isiD .list (.int a) = .ok (.bl false) := nr rfl
@[simp] theorem isiD_list_str {x : Str} : isiD .list (.str x) = .ok (.bl false) := nr rfl
@[simp] theorem isiD_list_tup : isiD .list (.tup ds) = .ok (.bl false) := nr rfl
@[simp] theorem isiD_list_lst : isiD .list (.lst ds) = .ok (.bl true) := nr rfl
@[simp] theorem isiD_tuple_non : isiD .tuple .non = .ok (.bl false) := nr rfl
@[simp] theorem isiD_tuple_bl : isiD .tuple (.bl p) = .ok (.bl false) := nr rfl
@[simp] theorem isiD_tuple_int : isiD .tuple (.int a) = .ok (.bl false) := nr rfl
@[simp] theorem isiD_tuple_str {x : Str} : isiD .tuple (.str x) = .ok (.bl false) := nr rfl
@[simp] theorem isiD_tuple_tup : isiD .tuple (.tup ds) = .ok (.bl true) := nr rfl
@[simp] theorem isiD_tuple_lst : isiD .tuple (.lst ds) = .ok (.bl false) := nr rfl
@[simp] theorem isBD_true_non : isBD true .non = .ok (.bl false) := nr rfl
@[simp] theorem isBD_true_bl : isBD true (.bl p) = .ok (.bl (decide (p = true))) := nr rfl
@[simp] theorem isBD_true_int : isBD true (.int a) = .ok (.bl false) := nr rfl
@[simp] theorem isBD_true_str {x : Str} : isBD true (.str x) = .ok (.bl false) := nr rfl
@[simp] theorem isBD_true_tup : isBD true (.tup ds) = .ok (.bl false) := nr rfl
@[simp] theorem isBD_true_lst : isBD true (.lst ds) = .ok (.bl false) := nr rfl
@[simp] theorem notBD_true_non : notBD true .non = .ok (.bl true) := nr rfl
@[simp] theorem notBD_true_bl : notBD true (.bl p) = .ok (.bl (!decide (p = true))) := nr rfl
@[simp] theorem notBD_true_int : notBD true (.int a) = .ok (.bl true) := nr rfl
@[simp] theorem notBD_true_str {x : Str} : notBD true (.str x) = .ok (.bl true) := nr rfl
@[simp] theorem notBD_true_tup : notBD true (.tup ds) = .ok (.bl true) := nr rfl
@[simp] theorem notBD_true_lst : notBD true (.lst ds) = .ok (.bl true) := nr rfl
@[simp] theorem isBD_false_non : isBD false .non = .ok (.bl false) := nr rfl
@[simp] theorem isBD_false_bl : isBD false (.bl p) = .ok (.bl (decide (p = false))) := nr rfl
@[simp] theorem isBD_false_int : isBD false (.int a) = .ok (.bl false) := nr rfl
@[simp] theorem isBD_false_str {x : Str} : isBD false (.str x) = .ok (.bl false) := nr rfl
@[simp] theorem isBD_false_tup : isBD false (.tup ds) = .ok (.bl false) := nr rfl
@[simp] theorem isBD_false_lst : isBD false (.lst ds) = .ok (.bl false) := nr rfl
@[simp] theorem notBD_false_non : notBD false .non = .ok (.bl true) := nr rfl
@[simp] theorem notBD_false_bl : notBD false (.bl p) = .ok (.bl (!decide (p = false))) := nr rfl
@[simp] theorem notBD_false_int : notBD false (.int a) = .ok (.bl true) := nr rfl
@[simp] theorem notBD_false_str {x : Str} : notBD false (.str x) = .ok (.bl true) := nr rfl
@[simp] theorem notBD_false_tup : notBD false (.tup ds) = .ok (.bl true) := nr rfl
@[simp] theorem notBD_false_lst : notBD false (.lst ds) = .ok (.bl true) := nr rfl
@[simp] theorem idxD_tup0 {d0 : D} {l : List D} : idxD (.tup (d0 :: l)) (.int 0) = .ok d0 := nr (idxD_tup (j := 0) (ixN_at (by decide) (by simp only [List.length_cons]; omega)) rfl)
@[simp] theorem idxD_tup1 {d0 d1 : D} {l : List D} : idxD (.tup (d0 :: d1 :: l)) (.int 1) = .ok d1 := nr (idxD_tup (j := 1) (ixN_at (by decide) (by simp only [List.length_cons]; omega)) rfl)
@[simp] theorem idxD_tup2 {d0 d1 d2 : D} {l : List D} : idxD (.tup (d0 :: d1 :: d2 :: l)) (.int 2) = .ok d2 := nr (idxD_tup (j := 2) (ixN_at (by decide) (by simp only [List.length_cons]; omega)) rfl)
@[simp] theorem idxD_tup3 {d0 d1 d2 d3 : D} {l : List D} : idxD (.tup (d0 :: d1 :: d2 :: d3 :: l)) (.int 3) = .ok d3 := nr (idxD_tup (j := 3) (ixN_at (by decide) (by simp only [List.length_cons]; omega)) rfl)
@[simp] theorem idxD_lst0 {d0 : D} {l : List D} : idxD (.lst (d0 :: l)) (.int 0) = .ok d0 := nr (idxD_lst (j := 0) (ixN_at (by decide) (by simp only [List.length_cons]; omega)) rfl)
@[simp] theorem idxD_lst1 {d0 d1 : D} {l : List D} : idxD (.lst (d0 :: d1 :: l)) (.int 1) = .ok d1 := nr (idxD_lst (j := 1) (ixN_at (by decide) (by simp only [List.length_cons]; omega)) rfl)
@[simp] theorem idxD_lst2 {d0 d1 d2 : D} {l : List D} : idxD (.lst (d0 :: d1 :: d2 :: l)) (.int 2) = .ok d2 := nr (idxD_lst (j := 2) (ixN_at (by decide) (by simp only [List.length_cons]; omega)) rfl)
@[simp] theorem idxD_lst3 {d0 d1 d2 d3 : D} {l : List D} : idxD (.lst (d0 :: d1 :: d2 :: d3 :: l)) (.int 3) = .ok d3 := nr (idxD_lst (j := 3) (ixN_at (by decide) (by simp only [List.length_cons]; omega)) rfl)
@[simp] theorem idxD_tup4 {d0 d1 d2 d3 d4 : D} {l : List D} : idxD (.tup (d0 :: d1 :: d2 :: d3 :: d4 :: l)) (.int 4) = .ok d4 := nr (idxD_tup (j := 4) (ixN_at (by decide) (by simp only [List.length_cons]; omega)) rfl)
@[simp] theorem idxD_tup5 {d0 d1 d2 d3 d4 d5 : D} {l : List D} : idxD (.tup (d0 :: d1 :: d2 :: d3 :: d4 :: d5 :: l)) (.int 5) = .ok d5 := nr (idxD_tup (j := 5) (ixN_at (by decide) (by simp only [List.length_cons]; omega)) rfl)
@[simp] theorem idxD_tup6 {d0 d1 d2 d3 d4 d5 d6 : D} {l : List D} : idxD (.tup (d0 :: d1 :: d2 :: d3 :: d4 :: d5 :: d6 :: l)) (.int 6) = .ok d6 := nr (idxD_tup (j := 6) (ixN_at (by decide) (by simp only [List.length_cons]; omega)) rfl)
@[simp] theorem idxD_tup7 {d0 d1 d2 d3 d4 d5 d6 d7 : D} {l : List D} : idxD (.tup (d0 :: d1 :: d2 :: d3 :: d4 :: d5 :: d6 :: d7 :: l)) (.int 7) = .ok d7 := nr (idxD_tup (j := 7) (ixN_at (by decide) (by simp only [List.length_cons]; omega)) rfl)
@[simp] theorem idxD_tup8 {d0 d1 d2 d3 d4 d5 d6 d7 d8 : D} {l : List D} : idxD (.tup (d0 :: d1 :: d2 :: d3 :: d4 :: d5 :: d6 :: d7 :: d8 :: l)) (.int 8) = .ok d8 := nr (idxD_tup (j := 8) (ixN_at (by decide) (by simp only [List.length_cons]; omega)) rfl)
@[simp] theorem idxD_tup9 {d0 d1 d2 d3 d4 d5 d6 d7 d8 d9 : D} {l : List D} : idxD (.tup (d0 :: d1 :: d2 :: d3 :: d4 :: d5 :: d6 :: d7 :: d8 :: d9 :: l)) (.int 9) = .ok d9 := nr (idxD_tup (j := 9) (ixN_at (by decide) (by simp only [List.length_cons]; omega)) rfl)
@[simp] theorem idxD_tup10 {d0 d1 d2 d3 d4 d5 d6 d7 d8 d9 d10 : D} {l : List D} : idxD (.tup (d0 :: d1 :: d2 :: d3 :: d4 :: d5 :: d6 :: d7 :: d8 :: d9 :: d10 :: l)) (.int 10) = .ok d10 := nr (idxD_tup (j := 10) (ixN_at (by decide) (by simp only [List.length_cons]; omega)) rfl)
@[simp] theorem idxD_tup11 {d0 d1 d2 d3 d4 d5 d6 d7 d8 d9 d10 d11 : D} {l : List D} : idxD (.tup (d0 :: d1 :: d2 :: d3 :: d4 :: d5 :: d6 :: d7 :: d8 :: d9 :: d10 :: d11 :: l)) (.int 11) = .ok d11 := nr (idxD_tup (j := 11) (ixN_at (by decide) (by simp only [List.length_cons]; omega)) rfl)
@[simp] theorem idxD_tup12 {d0 d1 d2 d3 d4 d5 d6 d7 d8 d9 d10 d11 d12 : D} {l : List D} : idxD (.tup (d0 :: d1 :: d2 :: d3 :: d4 :: d5 :: d6 :: d7 :: d8 :: d9 :: d10 :: d11 :: d12 :: l)) (.int 12) = .ok d12 := nr (idxD_tup (j := 12) (ixN_at (by decide) (by simp only [List.length_cons]; omega)) rfl)
@[simp] theorem idxD_lst4 {d0 d1 d2 d3 d4 : D} {l : List D} : idxD (.lst (d0 :: d1 :: d2 :: d3 :: d4 :: l)) (.int 4) = .ok d4 := nr (idxD_lst (j := 4) (ixN_at (by decide) (by simp only [List.length_cons]; omega)) rfl)
@[simp] theorem idxD_lst5 {d0 d1 d2 d3 d4 d5 : D} {l : List D} : idxD (.lst (d0 :: d1 :: d2 :: d3 :: d4 :: d5 :: l)) (.int 5) = .ok d5 := nr (idxD_lst (j := 5) (ixN_at (by decide) (by simp only [List.length_cons]; omega)) rfl)
@[simp] theorem idxD_lst6 {d0 d1 d2 d3 d4 d5 d6 : D} {l : List D} : idxD (.lst (d0 :: d1 :: d2 :: d3 :: d4 :: d5 :: d6 :: l)) (.int 6) = .ok d6 := nr (idxD_lst (j := 6) (ixN_at (by decide) (by simp only [List.length_cons]; omega)) rfl)
@[simp] theorem idxD_lst7 {d0 d1 d2 d3 d4 d5 d6 d7 : D} {l : List D} : idxD (.lst (d0 :: d1 :: d2 :: d3 :: d4 :: d5 :: d6 :: d7 :: l)) (.int 7) = .ok d7 := nr (idxD_lst (j := 7) (ixN_at (by decide) (by simp only [List.length_cons]; omega)) rfl)
@[simp] theorem idxD_lst8 {d0 d1 d2 d3 d4 d5 d6 d7 d8 : D} {l : List D} : idxD (.lst (d0 :: d1 :: d2 :: d3 :: d4 :: d5 :: d6 :: d7 :: d8 :: l)) (.int 8) = .ok d8 := nr (idxD_lst (j := 8) (ixN_at (by decide) (by simp only [List.length_cons]; omega)) rfl)
@[simp] theorem idxD_lst9 {d0 d1 d2 d3 d4 d5 d6 d7 d8 d9 : D} {l : List D} : idxD (.lst (d0 :: d1 :: d2 :: d3 :: d4 :: d5 :: d6 :: d7 :: d8 :: d9 :: l)) (.int 9) = .ok d9 := nr (idxD_lst (j := 9) (ixN_at (by decide) (by simp only [List.length_cons]; omega)) rfl)
@[simp] theorem idxD_lst10 {d0 d1 d2 d3 d4 d5 d6 d7 d8 d9 d10 : D} {l : List D} : idxD (.lst (d0 :: d1 :: d2 :: d3 :: d4 :: d5 :: d6 :: d7 :: d8 :: d9 :: d10 :: l)) (.int 10) = .ok d10 := nr (idxD_lst (j := 10) (ixN_at (by decide) (by simp only [List.length_cons]; omega)) rfl)
@[simp] theorem idxD_lst11 {d0 d1 d2 d3 d4 d5 d6 d7 d8 d9 d10 d11 : D} {l : List D} : idxD (.lst (d0 :: d1 :: d2 :: d3 :: d4 :: d5 :: d6 :: d7 :: d8 :: d9 :: d10 :: d11 :: l)) (.int 11) = .ok d11 := nr (idxD_lst (j := 11) (ixN_at (by decide) (by simp only [List.length_cons]; omega)) rfl)
@[simp] theorem idxD_lst12 {d0 d1 d2 d3 d4 d5 d6 d7 d8 d9 d10 d11 d12 : D} {l : List D} : idxD (.lst (d0 :: d1 :: d2 :: d3 :: d4 :: d5 :: d6 :: d7 :: d8 :: d9 :: d10 :: d11 :: d12 :: l)) (.int 12) = .ok d12 := nr (idxD_lst (j := 12) (ixN_at (by decide) (by simp only [List.length_cons]; omega)) rfl)
/-- a loop that runs to its end -/
theorem forL_inv {b : D → SD → R SD} {body : SD → O} (I : Nat → SD → Prop) : ∀ (items : List D) (n : Nat) (st : SD), I n st →
    (∀ i d s, items[i]? = some d → I (n + i) s → ∃ s1 s2, b d s = .ok s1 ∧ (body s1 = .nx s2 ∨ body s1 = .ct s2) ∧ I (n + i + 1) s2) → ∃ s', forL b body items st = .nx s' ∧ I (n + items.length) s'
  | [], n, st, h0, _ => ⟨st, rfl, h0⟩
  | d :: ds, n, st, h0, step => by
    obtain ⟨s1, s2, h1, h2, h3⟩ := step 0 d st rfl h0
    obtain ⟨s', g1, g2⟩ := forL_inv I ds (n + 1) s2 h3 fun i d' s hi hs => by
      have := step (i + 1) d' s (by simpa using hi) (by rw [show n + (i + 1) = n + 1 + i by omega]; exact hs)
      rw [show n + (i + 1) = n + 1 + i by omega] at this
      exact this
    refine ⟨s', ?_, by rw [List.length_cons, show n + (ds.length + 1) = n + 1 + ds.length by omega]; exact g2⟩
    unfold forL
    rw [h1]
    dsimp only
    rcases h2 with h2 | h2 <;> rw [h2] <;> exact g1
theorem forL_cons {b : D → SD → R SD} {body : SD → O} {st s1 : SD} (h : b d st = .ok s1) : forL b body (d :: ds) st = (match body s1 with
  | .nx s => forL b body ds s
  | .ct s => forL b body ds s
  | .bk s => .nx s
  | .rt d => .rt d
  | .ex s c ns es => .ex s c ns es
  | .un => .un) := by
  rw [forL, h]
  all_goals ((try dsimp only); cases body s1 <;> rfl)
/-- the same, and what follows -/
theorem forL_then {P : O → Prop} {b : D → SD → R SD} {body : SD → O} {items : List D} {st : SD} {k : SD → O} (I : Nat → SD → Prop) (h0 : I 0 st)
    (step : ∀ i d s, items[i]? = some d → I i s → ∃ s1 s2, b d s = .ok s1 ∧ (body s1 = .nx s2 ∨ body s1 = .ct s2) ∧ I (i + 1) s2) (post : ∀ s', I items.length s' → P (k s')) : P ((forL b body items st).bind k) := by
  obtain ⟨s', h1, h2⟩ := forL_inv (b := b) (body := body) I items 0 st h0 fun i d s hi hs => by
    rw [Nat.zero_add] at hs ⊢
    exact step i d s hi hs
  rw [h1]
  rw [Nat.zero_add] at h2
  exact post s' h2
/-- the end of a turn: on, or out -/
def Goes (J : SD → Prop) (R : D → Prop) (B : SD → Prop) : O → Prop
  | .nx s => J s
  | .ct s => J s
  | .rt d => R d
  | .bk s => B s
  | _ => False
@[simp] theorem goes_nx {J : SD → Prop} {R : D → Prop} {B : SD → Prop} {s : SD} : Goes J R B (.nx s) = J s := nr rfl
@[simp] theorem goes_ct {J : SD → Prop} {R : D → Prop} {B : SD → Prop} {s : SD} : Goes J R B (.ct s) = J s := nr rfl
@[simp] theorem goes_rt {J : SD → Prop} {R : D → Prop} {B : SD → Prop} {d : D} : Goes J R B (.rt d) = R d := nr rfl
@[simp] theorem goes_bk {J : SD → Prop} {R : D → Prop} {B : SD → Prop} {s : SD} : Goes J R B (.bk s) = B s := nr rfl
theorem forL_goes {P : O → Prop} {b : D → SD → R SD} {body k : SD → O} (I : Nat → SD → Prop) (R : D → Prop) (B : SD → Prop) (rets : ∀ d, R d → P (.rt d)) (brk : ∀ s, B s → P (k s)) : ∀ (items : List D) (n : Nat) (st : SD), I n st →
    (∀ i d s, items[i]? = some d → I (n + i) s → ∃ s1, b d s = .ok s1 ∧ Goes (I (n + i + 1)) R B (body s1)) → (∀ s', I (n + items.length) s' → P (k s')) → P ((forL b body items st).bind k)
  | [], n, st, h0, _, post => post st h0
  | d :: ds, n, st, h0, step, post => by
    obtain ⟨s1, h1, h2⟩ := step 0 d st rfl h0
    rw [forL_cons h1]
    have go : ∀ s2, I (n + 1) s2 → P ((forL b body ds s2).bind k) := fun s2 h3 => forL_goes I R B rets brk ds (n + 1) s2 h3 (fun i d' s hi hs => by
      have := step (i + 1) d' s (by simpa using hi) (by rw [show n + (i + 1) = n + 1 + i by omega]; exact hs)
      rw [show n + (i + 1) = n + 1 + i by omega] at this
      exact this) fun s' hs => post s' (by rw [List.length_cons, show n + (ds.length + 1) = n + 1 + ds.length by omega]; exact hs)
    cases e : body s1 with
    | nx s2 => rw [e] at h2; exact go s2 h2
    | ct s2 => rw [e] at h2; exact go s2 h2
    | bk s2 => rw [e] at h2; exact brk s2 h2
    | rt d => rw [e] at h2; exact rets d h2
    | un => rw [e] at h2; exact h2.elim
    | ex _ _ _ _ => rw [e] at h2; exact h2.elim
/-- for x in items: no way out but the end -/
theorem for_nm {P : O → Prop} {j : Nat} {body k : SD → O} {items : List D} {st : SD} (I : Nat → SD → Prop) (h0 : I 0 st)
    (step : ∀ i d s (J : SD → Prop), items[i]? = some d → I i s → (∀ s', I (i + 1) s' → J s') → Goes J (fun _ => False) (fun _ => False) (body (s.set j (some d)))) (post : ∀ s', I items.length s' → P (k s')) : P ((forL (bindT (.nm j)) body items st).bind k) :=
  forL_goes I (fun _ => False) (fun _ => False) (fun _ z => False.elim z) (fun _ z => False.elim z) items 0 st h0 (fun i d s hi hs => ⟨_, rfl, by rw [Nat.zero_add] at hs ⊢; exact step i d s _ hi hs fun _ z => z⟩) fun s' hs => post s' (by rw [Nat.zero_add] at hs; exact hs)
/-- for x in items: with a return, or a break, on the way -/
theorem for_nmR {P : O → Prop} {j : Nat} {body k : SD → O} {items : List D} {st : SD} (I : Nat → SD → Prop) (R : D → Prop) (B : SD → Prop) (h0 : I 0 st) (rets : ∀ d, R d → P (.rt d)) (brk : ∀ s, B s → P (k s))
    (step : ∀ i d s (J : SD → Prop) (R' : D → Prop) (B' : SD → Prop), items[i]? = some d → I i s → (∀ s', I (i + 1) s' → J s') → (∀ d, R d → R' d) → (∀ s', B s' → B' s') → Goes J R' B' (body (s.set j (some d)))) (post : ∀ s', I items.length s' → P (k s')) : P ((forL (bindT (.nm j)) body items st).bind k) :=
  forL_goes I R B rets brk items 0 st h0 (fun i d s hi hs => ⟨_, rfl, by rw [Nat.zero_add] at hs ⊢; exact step i d s _ _ _ hi hs (fun _ z => z) (fun _ z => z) fun _ z => z⟩) fun s' hs => post s' (by rw [Nat.zero_add] at hs; exact hs)
/-- a statement that goes on -/
def Nx (J : SD → Prop) : O → Prop
  | .nx s => J s
  | _ => False
@[simp] theorem nx_nx {J : SD → Prop} {s : SD} : Nx J (.nx s) = J s := rfl
theorem step_nx {P : O → Prop} {s : IS} {ss : ISs} {st : SD} (Q : SD → Prop) (h : ∀ J : SD → Prop, (∀ s', Q s' → J s') → Nx J (execS s st)) (k : ∀ s', Q s' → P (execL ss s')) : P (execL (.cons s ss) st) := by
  have h' := h Q fun _ z => z
  rw [exL_cons]
  cases e : execS s st with
  | nx s' => rw [e] at h'; exact k s' h'
  | un => rw [e] at h'; exact h'.elim
  | bk _ => rw [e] at h'; exact h'.elim
  | ct _ => rw [e] at h'; exact h'.elim
  | rt _ => rw [e] at h'; exact h'.elim
  | ex _ _ _ _ => rw [e] at h'; exact h'.elim
theorem obind_id {o : O} : o.bind .nx = o := by cases o <;> rfl
theorem for_nm0 {P : O → Prop} {j : Nat} {body : SD → O} {items : List D} {st : SD} (I : Nat → SD → Prop) (h0 : I 0 st)
    (step : ∀ i d s (J : SD → Prop), items[i]? = some d → I i s → (∀ s', I (i + 1) s' → J s') → Goes J (fun _ => False) (fun _ => False) (body (s.set j (some d)))) (post : ∀ s', I items.length s' → P (.nx s')) : P (forL (bindT (.nm j)) body items st) := by
  rw [← obind_id (o := forL (bindT (.nm j)) body items st)]
  exact for_nm I h0 step post
theorem idxL {ds : List D} {i : Int} (h0 : 0 ≤ i) (h1 : i < ds.length) : idxD (.lst ds) (.int i) = .ok (ds[i.toNat]'(by omega)) := idxD_lst (j := i.toNat) (ixN_at h0 h1) (List.getElem?_eq_getElem _)
theorem idxLp {ds : List D} {Q : D → Prop} {i : Int} (hq : ∀ d ∈ ds, Q d) (h0 : -(ds.length : Int) ≤ i) (h1 : i < ds.length) : ∃ d, idxD (.lst ds) (.int i) = .ok d ∧ Q d := by
  by_cases h : 0 ≤ i
  · exact ⟨_, idxL h h1, hq _ (List.getElem_mem _)⟩
  · have hl : (i + (ds.length : Int)).toNat < ds.length := by omega
    exact ⟨ds[(i + (ds.length : Int)).toNat], idxD_lst (ixN_neg (by omega) h0) (List.getElem?_eq_getElem hl), hq _ (List.getElem_mem hl)⟩
theorem all_at {ds : List D} {Q : D → Prop} (h : ∀ (i : Nat) (y : D), ds[i]? = some y → Q y) : ∀ d ∈ ds, Q d := fun d hd => by
  obtain ⟨i, hi, e⟩ := List.mem_iff_getElem.mp hd
  exact h i d (by rw [List.getElem?_eq_getElem hi, e])
theorem at_map {ns : List Int} {i : Nat} {d : D} (h : (ns.map D.int)[i]? = some d) : ∃ n, ns[i]? = some n ∧ d = .int n := by
  rw [List.getElem?_map] at h
  cases e : ns[i]? with
  | none => rw [e] at h; cases h
  | some n => rw [e] at h; exact ⟨n, rfl, (Option.some.inj h).symm⟩
theorem at_range {n i : Nat} {f : Nat → D} {d : D} (h : ((List.range n).map f)[i]? = some d) : i < n ∧ d = f i := by
  by_cases hi : i < n
  · rw [List.getElem?_map, List.getElem?_range hi] at h
    exact ⟨hi, (Option.some.inj h).symm⟩
  · rw [List.getElem?_eq_none (by simpa using hi)] at h; cases h
theorem abs_of {a : Int} (B : Nat) (h1 : -(B : Int) ≤ a) (h2 : a ≤ (B : Int)) (hB : B < 2 ^ 256 := by decide) : a.natAbs < 2 ^ 256 := by omega
theorem forL_nil {b : D → SD → R SD} {body : SD → O} {st : SD} : forL b body [] st = .nx st := rfl
/-- a comprehension that runs to its end -/
theorem compL_all {g : Tg} {f : SD → R D} {st : SD} {c : SD → R Bool} (F : D → D) : ∀ (items : List D), (∀ d ∈ items, ∃ s1, bindT g d (wipeS st g.vs) = .ok s1 ∧ c s1 = .ok true ∧ f s1 = .ok (F d)) → compL g c f st items = some (items.map F)
  | [], _ => rfl
  | d :: ds, h => by
    obtain ⟨s1, h1, h2, h3⟩ := h d List.mem_cons_self
    unfold compL
    rw [h1]
    dsimp only
    rw [h2]
    dsimp only
    rw [h3]
    dsimp only
    rw [compL_all F ds fun e he => h e (List.mem_cons_of_mem _ he)]
    rfl
/-- one with a test -/
theorem compL_filter {g : Tg} {f : SD → R D} {st : SD} {c : SD → R Bool} (p : D → Bool) (F : D → D) : ∀ (items : List D), (∀ d ∈ items, ∃ s1, bindT g d (wipeS st g.vs) = .ok s1 ∧ c s1 = .ok (p d) ∧ (p d = true → f s1 = .ok (F d))) → compL g c f st items = some ((items.filter p).map F)
  | [], _ => rfl
  | d :: ds, h => by
    obtain ⟨s1, h1, h2, h3⟩ := h d List.mem_cons_self
    have ih := compL_filter p F ds fun e he => h e (List.mem_cons_of_mem _ he)
    unfold compL
    rw [h1]
    dsimp only
    rw [h2, List.filter_cons]
    cases hp : p d with
    | true =>
      dsimp only
      rw [h3 hp, ih]
      rfl
    | false => exact ih
theorem compR_ok {g : Tg} {f : SD → R D} {st : SD} {c : SD → R Bool} {items out : List D} (h : compL g c f st items = some out) (hl : items.length ≤ 16777216) : compR g c f st items = .ok (.lst out) := by
  unfold compR
  rw [if_pos hl, h]; rfl
@[simp] theorem lstAt_0 {st : SD} : lstAt (some (.lst ds) :: st) 0 = some ds := nr rfl
@[simp] theorem lstAt_s {st : SD} {o : Option D} {i : Nat} : lstAt (o :: st) (i + 1) = lstAt st i := nr rfl
/-- a comprehension, by what each item has -/
theorem compL_ex {g : Tg} {f : SD → R D} {st : SD} {c : SD → R Bool} (Q : Nat → D → Prop) : ∀ (items : List D) (n : Nat), (∀ i d, items[i]? = some d → ∃ s1 y, bindT g d (wipeS st g.vs) = .ok s1 ∧ c s1 = .ok true ∧ f s1 = .ok y ∧ Q (n + i) y) → ∃ out, compL g c f st items = some out ∧ out.length = items.length ∧ ∀ i y, out[i]? = some y → Q (n + i) y
  | [], _, _ => ⟨[], rfl, rfl, fun i y h => by simp at h⟩
  | d :: ds, n, h => by
    obtain ⟨s1, y, h1, h2, h3, h4⟩ := h 0 d rfl
    obtain ⟨out, g1, g2, g3⟩ := compL_ex Q ds (n + 1) fun i d' hi => by
      obtain ⟨s1, y, k1, k2, k3, k4⟩ := h (i + 1) d' (by simpa using hi)
      exact ⟨s1, y, k1, k2, k3, by rw [show n + 1 + i = n + (i + 1) by omega]; exact k4⟩
    refine ⟨y :: out, ?_, by simp [g2], fun i z hz => ?_⟩
    · unfold compL
      rw [h1]
      dsimp only
      rw [h2]
      dsimp only
      rw [h3]
      dsimp only
      rw [g1]; rfl
    · cases i with
      | zero => cases hz; exact h4
      | succ i =>
        have := g3 i z (by simpa using hz)
        rw [show n + 1 + i = n + (i + 1) by omega] at this
        exact this
theorem comp_ex {g : Tg} {f : SD → R D} {st : SD} {c : SD → R Bool} (Q : Nat → D → Prop) (items : List D) (hl : items.length ≤ 16777216) (h : ∀ i d, items[i]? = some d → ∃ s1 y, bindT g d (wipeS st g.vs) = .ok s1 ∧ c s1 = .ok true ∧ f s1 = .ok y ∧ Q i y) : ∃ out, compR g c f st items = .ok (.lst out) ∧ out.length = items.length ∧ ∀ i y, out[i]? = some y → Q i y := by
  obtain ⟨out, h1, h2, h3⟩ := compL_ex (st := st) Q items 0 fun i d hi => by
    rw [Nat.zero_add]; exact h i d hi
  exact ⟨out, compR_ok h1 hl, h2, fun i y hy => by have := h3 i y hy; rw [Nat.zero_add] at this; exact this⟩
theorem meO_append {i : Nat} {st : SD} (h : lstAt st i = some ds) (hl : ds.length < 16777216) : meO .append i none st (.ok [d]) = .nx (st.set i (some (.lst (ds ++ [d])))) := by
  unfold meO
  rw [h]
  simp only [toO_ok, meD, if_pos hl]
theorem meO_popAt {i : Nat} {st : SD} {j : Int} (h : lstAt st i = some ds) (h0 : 0 ≤ j) (h1 : j < ds.length) (hl : ds.length < 1000000000) : meO .popAt i none st (.ok [.int j]) = .nx (st.set i (some (.lst (ds.eraseIdx j.toNat)))) := by
  have hk := (ixN_seq (ixN_at h0 h1)).1
  have hg : ds[j.toNat]? = some (ds[j.toNat]'(by omega)) := List.getElem?_eq_getElem _
  unfold meO
  rw [h]
  simp only [toO_ok, meD]
  rw [if_pos ⟨by omega, by omega⟩, hk]
  dsimp only
  rw [hg]
theorem meO_insert {i : Nat} {st : SD} {j : Int} (h : lstAt st i = some ds) (h0 : 0 ≤ j) (h1 : j < 1000000000) (hl : ds.length < 1000000) : meO .insert i none st (.ok [.int j, d]) = .nx (st.set i (some (.lst (ds.take j.toNat ++ [d] ++ ds.drop j.toNat)))) := by
  unfold meO
  rw [h]
  simp only [toO_ok, meD]
  rw [if_pos ⟨by omega, h0, by omega⟩]
theorem meO_reverse {i : Nat} {st : SD} (h : lstAt st i = some ds) : meO .reverse i none st (.ok []) = .nx (st.set i (some (.lst ds.reverse))) := by
  unfold meO
  rw [h]
  rfl
theorem setItem_ok {i : Nat} {st : SD} {j : Int} (h : lstAt st i = some ds) (h0 : 0 ≤ j) (h1 : j < ds.length) : setItem i st (.ok (.int j)) (.ok d) = .nx (st.set i (some (.lst (ds.set j.toNat d)))) := by
  unfold setItem
  simp only [toO_ok]
  rw [h]
  dsimp only
  rw [ixN_at h0 h1]
theorem cutD_mem {xs : List D} {lo hi : Option Int} : (∀ y ∈ cutD xs lo hi, y ∈ xs) ∧ (cutD xs lo hi).length ≤ xs.length := by
  unfold cutD
  refine ⟨fun y hy => List.mem_of_mem_drop (List.mem_of_mem_take hy), ?_⟩
  rw [List.length_take, List.length_drop]
  omega
@[simp] theorem sliceD_lst {lo hi : Option Int} : sliceD (.lst ds) lo hi = .ok (.lst (cutD ds lo hi)) := nr rfl
@[simp] theorem sliceD_tup {lo hi : Option Int} : sliceD (.tup ds) lo hi = .ok (.tup (cutD ds lo hi)) := nr rfl
/-- a comprehension that keeps some -/
theorem comp_sub {g : Tg} {f : SD → R D} {st : SD} {c : SD → R Bool} (items : List D) (hl : items.length ≤ 16777216) (h : ∀ d ∈ items, ∃ s1 b, bindT g d (wipeS st g.vs) = .ok s1 ∧ c s1 = .ok b ∧ f s1 = .ok d) : ∃ out, compR g c f st items = .ok (.lst out) ∧ out.length ≤ items.length ∧ ∀ y ∈ out, y ∈ items := by
  have key : ∀ items : List D, (∀ d ∈ items, ∃ s1 b, bindT g d (wipeS st g.vs) = .ok s1 ∧ c s1 = .ok b ∧ f s1 = .ok d) → ∃ out, compL g c f st items = some out ∧ out.length ≤ items.length ∧ ∀ y ∈ out, y ∈ items := by
    intro items
    induction items with
    | nil => intro _; exact ⟨[], rfl, Nat.le_refl _, fun y hy => hy⟩
    | cons d ds ih =>
      intro h
      obtain ⟨out, h1, h2, h3⟩ := ih fun e he => h e (List.mem_cons_of_mem _ he)
      obtain ⟨s1, b, g1, g2, g3⟩ := h d List.mem_cons_self
      cases b with
      | true =>
        refine ⟨d :: out, ?_, by simp; omega, fun y hy => ?_⟩
        · unfold compL
          rw [g1]; dsimp only; rw [g2]; dsimp only; rw [g3]; dsimp only; rw [h1]; rfl
        · rcases List.mem_cons.mp hy with rfl | hy
          · exact List.mem_cons_self
          · exact List.mem_cons_of_mem _ (h3 y hy)
      | false =>
        refine ⟨out, ?_, by simp; omega, fun y hy => List.mem_cons_of_mem _ (h3 y hy)⟩
        unfold compL
        rw [g1]; dsimp only; rw [g2]; exact h1
  obtain ⟨out, h1, h2, h3⟩ := key items h
  exact ⟨out, compR_ok h1 hl, h2, h3⟩
theorem rngD_len {n : Nat} (h : n < 1000000000) : rngD 0 (n : Int) = .ok ((List.range n).map fun i => D.int (i : Nat)) := by
  rw [show rngD 0 (n : Int) = .ok ((List.range ((n : Int) - 0).toNat).map fun i => D.int (0 + (i : Nat))) from if_pos ⟨by decide, by decide, by omega, by omega⟩]
  congr 2
  · funext i; rw [Int.zero_add]
theorem rngD_ok (h1 : -(2 ^ 62) ≤ a) (h2 : a < 2 ^ 62) (h3 : -(2 ^ 62) ≤ b) (h4 : b < 2 ^ 62) : rngD a b = .ok ((List.range (b - a).toNat).map fun i => D.int (a + (i : Nat))) := if_pos ⟨h1, h2, h3, h4⟩
end
end
end Dl

/-! DlZ: what a law's tables of error classes say, for the looks at raise and try. -/
namespace Dl
open PySem PySem.Spec PyProof.Rows L2

abbrev SubT := List ((Str × Str) × Bool)
def subF (t : SubT) (c k : Str) : Option Bool := t.lookup (c, k)
def HI.fl : HI → List Str
  | .f g => [g]
  | _ => []
def HE.fl (x : HE) : List Str := x.items.flatMap HI.fl
def Hd.fl (h : Hd) : List Str := h.thn.fl ++ (match h.els with
  | some x => x.fl
  | none => [])
/-- the tables tell what the clause asks -/
def chkKn (sT mT : SubT) (fT : List (Str × Str)) (h : Hd) : Bool := sT.all fun p => !(decide (p.1.2 = h.cls)) || (decide (p ∈ mT) && (!p.2 || h.fl.all fun g => decide ((p.1.1, g) ∈ fT)))
theorem know_of {K : PySem.W.Frag} {mg : Str → Option Value} {sT mT : SubT} {fT : List (Str × Str)} {h : Hd} (hI : ∀ p ∈ sT, IsT K mg p.1.1 p.1.2 p.2) (hM : ∀ p ∈ mT, MatchT K mg p.1.1 p.1.2 p.2) (hF : ∀ p ∈ fT, FldX K mg p.1 p.2) (hA : ∃ A : Addr, mg h.cls = some (.ref A)) (chk : chkKn sT mT fT h = true) : h.know K mg (subF sT) := by
  refine ⟨hA, fun c ns ds => ⟨fun b hb => ?_, fun hb => ⟨fun p _ b hb2 => hI ((c, p.1), b) (lookup_mem hb2), ?_⟩⟩⟩
  all_goals
    have hm := lookup_mem hb
    unfold chkKn at chk
    rw [List.all_eq_true] at chk
    have hp := chk _ hm
    simp only [decide_true, Bool.not_true, Bool.false_or, Bool.and_eq_true, decide_eq_true_eq] at hp
  · exact hM _ hp.1
  · obtain ⟨_, h2⟩ := hp
    rw [List.all_eq_true] at h2
    have fld : ∀ g ∈ h.fl, FldX K mg c g := fun g hg => hF (c, g) (by simpa using h2 g hg)
    have item : ∀ x : HI, (∀ g ∈ x.fl, g ∈ h.fl) → x.ob K mg c := fun x hx => by
      cases x with
      | f g => exact fld g (hx g (by simp [HI.fl]))
      | _ => trivial
    refine ⟨fun x hx _ => item x fun g hg => ?_, fun y hy x hx _ => item x fun g hg => ?_⟩
    · unfold Hd.fl HE.fl
      exact List.mem_append_left _ (List.mem_flatMap.mpr ⟨x, hx, hg⟩)
    · unfold Hd.fl HE.fl
      rw [hy]
      exact List.mem_append_right _ (List.mem_flatMap.mpr ⟨x, hx, hg⟩)
/-- an own error class as the top has made it -/
structure ExcAtT (K : PySem.W.Frag) (mg : Str → Option Value) (c qual : Str) (st : Stmt) (N : List Str) (fs : Flds) : Prop where
  ex : ∃ (C fI : Addr) (fd : FuncData), mg c = some (.ref C) ∧ OexC K C ∧ PySem.W.findIn K (.ref C) "__init__" = some (some (.ref fI)) ∧ PySem.W.typeIn K (.ref fI) = some (.type "function") ∧ Fun K "__init__" qual st fI fd ∧ Binds K fd N [] ∧ NoFld K C fs
theorem ExcAtT.raise {P : Program} {w : World} {K : PySem.W.Frag} {mg : Str → Option Value} {base : Heap} {c qual : Str} {st : Stmt} {N : List Str} {n : Nat} {fs : Flds} (A : ExcAtT K mg c qual st N fs) (chk : chkIn N n fs st = true) : RaiseD P w K mg base c n fs := by
  obtain ⟨C, fI, fd, h1, h2, h3, h4, h5, h6, h7⟩ := A.ex
  exact ⟨C, fI, fd, N, h1, h2, h3, h4, init_ok h5 h2 chk h7, h6⟩
end Dl

/-! DlV: the __init__ of own classes as data, and its promise. -/
namespace Dl
open PySem PySem.Spec PyProof.Rows L2

inductive II where
  | st (s : IS)
  | put (f : Str) (e : IE)
  | putIf (c : IE) (f : Str) (e : IE)
def putD (f : Str) (d : D) : List Str → List D → List Str × List D
  | n :: ns, x :: ds => if n = f then (n :: ns, d :: ds) else (n :: (putD f d ns ds).1, x :: (putD f d ns ds).2)
  | _, _ => ([f], [d])
mutual
/-- no instance in it whose attributes have just these names -/
def D.noc (ns : List Str) : D → Bool
  | .non | .bl _ | .int _ | .str _ => true
  | .tup xs | .lst xs => D.nocs ns xs
  | .ins _ ns' xs => !decide (ns' = ns) && D.nocs ns xs
  | .dct ks vs => D.nocs ns ks && D.nocs ns vs
def D.nocs (ns : List Str) : List D → Bool
  | [] => true
  | x :: xs => D.noc ns x && D.nocs ns xs
end
def putO (k : List Str → List D → R D) (f : Str) (ns : List Str) (ds : List D) (d : D) : R D := if D.noc ns d = true ∧ ns.length < 900 then k (putD f d ns ds).1 (putD f d ns ds).2 else .un
def execI (c : Str) : List II → SD → List Str → List D → R D
  | [], _, ns, ds => .ok (.ins c ns ds)
  | .st s :: r, st, ns, ds => match execS s st with
    | .nx st' => execI c r st' ns ds
    | .ex _ c' ns' ds' => .ex c' ns' ds'
    | _ => .un
  | .put f e :: r, st, ns, ds => (evE e (st.set 0 (some (.ins c ns ds)))).bind fun d => putO (execI c r st) f ns ds d
  | .putIf t f e :: r, st, ns, ds => (tR (evE t (st.set 0 (some (.ins c ns ds))))).bind fun k => if k = true then (evE e (st.set 0 (some (.ins c ns ds)))).bind fun d => putO (execI c r st) f ns ds d else execI c r st ns ds
/-- what C(..) gives: N the names (self first), n the arguments -/
def initD (c : Str) (N : List Str) (n : Nat) (body : List II) (ds : List D) : R D := if ds.length = n then execI c body (none :: (ds.map some ++ List.replicate (N.length - (ds.length + 1)) none)) [] [] else .un
/-! ### the look -/
def chkSelf (s : SC) (o : Expr) : Bool := match asName o with
  | some x => decide (s.N[0]? = some x) && visC s.sc x
  | none => false
def chkPut (s : SC) (own : List Nat) (f : Str) (e : IE) (stm : Stmt) : Bool := match asAssign stm with
  | some (t, ee) => (match asAttr t with
    | some (o, g) => decide (g = f) && chkSelf s o && notComp ee && chkE s (minus own [0]) e ee && kp (minus own [0]) e
    | none => false)
  | none => false
def asIfS : Stmt → Option (Expr × List Stmt × List Stmt)
  | .If c a b _ => some (c, a, b)
  | _ => none
theorem asIfS_eq {s : Stmt} {c : Expr} {a b : List Stmt} (h : asIfS s = some (c, a, b)) : ∃ p, s = .If c a b p := by
  cases s <;> first | (simp only [asIfS, Option.some.injEq, Prod.mk.injEq] at h; obtain ⟨rfl, rfl, rfl⟩ := h; exact ⟨_, rfl⟩) | cases h
def chkII (s : SC) (own : List Nat) : List II → List Stmt → Bool
  | [], [] => true
  | .st i :: r, stm :: sts => (match chkS s [] own i stm with
    | .go o => o.contains 0 && o.contains 1000 && chkII s o r sts
    | _ => false)
  | .put f e :: r, stm :: sts => chkPut s own f e stm && chkII s own r sts
  | .putIf t f e :: r, stm :: sts => (match asIfS stm with
    | some (c, [a], []) => tstE t && chkE s (minus own [0]) t c && chkPut s own f e a
    | _ => false) && chkII s own r sts
  | _, _ => false
def chkN (N : List Str) (n : Nat) (body : List II) (st : Stmt) : Bool := scC N (n + 1) (defScope st) && decide (N.length ≤ 1000) && chkII ⟨N, defScope st, false⟩ [0, 1000] body (defBody st)
section
variable (P : Program) (w : World) (K : PySem.W.Frag) (mg : Str → Option Value) (base : Heap) (k : Nat) (C : Addr)
def ObI1 : II → Prop
  | .st s => ObS P w K mg base k s
  | .put f e => NoAttr K C f ∧ ObE P w K mg base k e
  | .putIf t f e => NoAttr K C f ∧ ObE P w K mg base k t ∧ ObE P w K mg base k e
def ObII : List II → Prop
  | [] => True
  | i :: r => ObI1 P w K mg base k C i ∧ ObII r
end

/-! ### an instance taken out of what is laid -/
theorem delF_ne {F : Hp} {p a : Addr} (h : a ≠ p) : L2.del F p a = F a := del_ne h
section
variable {w : World} {K : PySem.W.Frag} {mg : Str → Option Value} {F : Hp} {p C dx : Addr} {fl : List (Str × V)}
theorem same_del {F F1 : Hp} {p : Addr} (s : Same F F1) (h : F p = none) : Same F (L2.del F1 p) := fun b u e => by
  have : b ≠ p := fun z => by subst z; rw [h] at e; cases e
  rw [del_ne this]; exact s b u e
theorem sqL_del {a : Addr} {xs : List V} (hp : F p = some (.ins C dx fl)) (h : SqL K F a xs) : SqL K (L2.del F p) a xs := by
  rcases h with (h | ⟨o, h⟩) | h
  · exact .inl (.inl (by rw [del_ne (fun z => by subst z; rw [hp] at h; cases h)]; exact h))
  · exact .inl (.inr ⟨o, by rw [del_ne (fun z => by subst z; rw [hp] at h; cases h)]; exact h⟩)
  · exact .inr h
theorem sqT_del {a : Addr} {xs : List V} (hp : F p = some (.ins C dx fl)) (h : SqT K F a xs) : SqT K (L2.del F p) a xs := by
  rcases h with (h | ⟨o, h⟩) | h
  · exact .inl (.inl (by rw [del_ne (fun z => by subst z; rw [hp] at h; cases h)]; exact h))
  · exact .inl (.inr ⟨o, by rw [del_ne (fun z => by subst z; rw [hp] at h; cases h)]; exact h⟩)
  · exact .inr h
mutual
theorem Rep.del (hp : F p = some (.ins C dx fl)) : ∀ (d : D) {v : V}, D.noc (fl.map (·.1)) d = true → Rep w K mg F v d → Rep w K mg (L2.del F p) v d
  | .non, _, _, h => by cases h; exact .non
  | .bl b, _, _, h => by cases h; exact .bl _
  | .int i, _, _, h => by cases h; exact .int _
  | .str x, _, _, h => by cases h; exact .str _
  | .tup ds, _, n, h => by
    cases h with
    | tup h1 h2 => exact .tup (sqT_del hp h1) (Reps.del hp ds (by simpa [D.noc] using n) h2)
  | .lst ds, _, n, h => by
    cases h with
    | lst h1 h2 => exact .lst (sqL_del hp h1) (Reps.del hp ds (by simpa [D.noc] using n) h2)
  | .ins c ns ds, _, n, h => by
    simp only [D.noc, Bool.and_eq_true, Bool.not_eq_true', decide_eq_false_iff_not] at n
    cases h with
    | @ins a _ _ _ _ _ _ h1 h2 h3 h4 =>
      have hne : a ≠ p := fun z => by
        subst z
        rw [hp] at h1
        cases h1
        exact n.1 h3.symm
      exact .ins (by rw [del_ne hne]; exact h1) h2 h3 (Reps.del hp ds n.2 h4)
  | .dct ks vs, _, n, h => by
    simp only [D.noc, Bool.and_eq_true] at n
    cases h with
    | @dct a o kv vv ks vs nks h1 h2 h3 h4 h5 =>
      have hne : a ≠ p := fun z => by
        subst z
        obtain ⟨es, ep, rfl, _⟩ := h2
        rw [hp] at h1
        cases h1
      exact .dct (by rw [del_ne hne]; exact h1) h2 h3 (Reps.del hp ks n.1 h4) (Reps.del hp vs n.2 h5)
theorem Reps.del (hp : F p = some (.ins C dx fl)) : ∀ (ds : List D) {vs : List V}, D.nocs (fl.map (·.1)) ds = true → Reps w K mg F vs ds → Reps w K mg (L2.del F p) vs ds
  | [], _, _, h => by cases h; exact .nil
  | d :: ds, _, n, h => by
    simp only [D.nocs, Bool.and_eq_true] at n
    cases h with
    | cons h1 h2 => exact .cons (Rep.del hp d n.1 h1) (Reps.del hp ds n.2 h2)
end
theorem putD_rel (f : Str) {v : V} {d : D} (r : Rep w K mg F v d) : ∀ {fs : List (Str × V)} {ns : List Str} {ds : List D}, fs.map (·.1) = ns → Reps w K mg F (fs.map (·.2)) ds → (putF f v fs).map (·.1) = (putD f d ns ds).1 ∧ Reps w K mg F ((putF f v fs).map (·.2)) (putD f d ns ds).2
  | [], _, _, rfl, .nil => ⟨rfl, .cons r .nil⟩
  | (n, x) :: fs, _, _, rfl, .cons (d := y) (ds := ds) r1 r2 => by
    simp only [List.map_cons, putF, putD]
    by_cases e : n = f
    · rw [if_pos e, if_pos e]
      exact ⟨rfl, .cons r r2⟩
    · rw [if_neg e, if_neg e]
      obtain ⟨h1, h2⟩ := putD_rel f r (fs := fs) rfl r2
      exact ⟨by rw [List.map_cons, h1], .cons r1 h2⟩
theorem putD_len (f : Str) (d : D) : ∀ (ns : List Str) (ds : List D), (putD f d ns ds).1.length ≤ ns.length + 1
  | [], _ => by simp [putD]
  | n :: ns, [] => by simp [putD]
  | n :: ns, x :: ds => by
    simp only [putD]
    split
    · simp
    · have := putD_len f d ns ds
      simp; omega
end
/-! ### how things stand while __init__ runs -/
structure InvI (X : Cx) (c : Str) (C p dx : Addr) (own : List Nat) (Hb F0 F H : Hp) (σ : L2.St) (st : SD) (ns : List Str) (ds : List D) (fs : List (Str × V)) : Prop where
  s : Step F0 Hb F H
  pd : p = dx + 1
  bd : Hb dx = some (.own p)
  bt : ∀ q : Addr, p ≤ q → Hb q = none
  hp : H p = some (.ins C dx fs)
  fp : F p = none
  nm : fs.map (·.1) = ns
  vs : Reps X.w X.K X.mg F (fs.map (·.2)) ds
  mgc : X.mg c = some (.ref C)
  o0 : 0 ∈ own
  o1 : 1000 ∈ own
  rl : SRel X.w X.K X.mg own (upd Hb p (.ins C dx fs)) F H σ st
theorem lt_le {p q : Nat} (h : p < q) : p ≤ q := Nat.le_of_lt h
theorem lt_ne {p q : Nat} (h : p < q) : q ≠ p := by omega
theorem top_upd {Hb : Hp} {C p dx : Addr} {fs : List (Str × V)} (pd : p = dx + 1) (bd : Hb dx = some (.own p)) (bt : ∀ q : Addr, p ≤ q → Hb q = none) : TopAt (upd Hb p (.ins C dx fs)) p := by
  refine ⟨⟨dx, pd, ?_⟩, fun q hq => ?_, fun q => ?_⟩
  · rw [upd_ne (by rw [pd]; exact Nat.ne_of_lt (Nat.lt_succ_self dx))]; exact bd
  · rw [upd_ne (lt_ne hq)]; exact bt q (lt_le hq)
  · rw [upd_same]; exact fun z => nomatch z
section
variable {X : Cx} {W : WX} {c : Str} {C p dx : Addr} {own : List Nat} {Hb F0 F H : Hp} {σ : L2.St} {st : SD} {ns : List Str} {ds : List D} {fs : List (Str × V)}
theorem InvI.self (I : InvI X c C p dx own Hb F0 F H σ st ns ds fs) : σ[0]? = some (some (.ref p)) := I.rl.pin I.o1 I.o0 p (top_upd I.pd I.bd I.bt)
theorem InvI.bp (I : InvI X c C p dx own Hb F0 F H σ st ns ds fs) : Hb p = none := I.bt p (Nat.le_refl p)
/-- a step of the inner kind, seen from the start -/
theorem InvI.out (I : InvI X c C p dx own Hb F0 F H σ st ns ds fs) {F1 H1 : Hp} (t : Step F (upd Hb p (.ins C dx fs)) F1 H1) : Step F0 Hb F1 H1 := by
  refine ⟨I.s.ff.trans t.ff, fun b u e => ?_, t.fh, fun q hq e => ?_⟩
  · have : b ≠ p := fun z => by subst z; rw [I.bp] at e; cases e
    exact t.hh b u (by rw [upd_ne this]; exact e)
  · have : q ≠ p := fun z => by subst z; exact hq I.bp
    exact t.nw q (by rw [upd_ne this]; exact hq) (I.s.nw q hq e)
theorem InvI.inn (I : InvI X c C p dx own Hb F0 F H σ st ns ds fs) : Step F (upd Hb p (.ins C dx fs)) F H := by
  refine ⟨Same.refl F, fun b u e => ?_, I.s.fh, fun _ _ e => e⟩
  by_cases h : b = p
  · subst h; rw [upd_same] at e; cases e; exact I.hp
  · rw [upd_ne h] at e; exact I.s.hh b u e
/-- the same with self laid down for a moment -/
theorem InvI.layed (I : InvI X c C p dx own Hb F0 F H σ st ns ds fs) : Same (upd F p (.ins C dx fs)) H ∧ SRel X.w X.K X.mg (minus own [0]) (upd Hb p (.ins C dx fs)) (upd F p (.ins C dx fs)) H σ (st.set 0 (some (.ins c ns ds))) := by
  have sf : Same F (upd F p (.ins C dx fs)) := fun b u e => by rw [upd_ne (ne_of_none e I.fp)]; exact e
  have rs : Rep X.w X.K X.mg (upd F p (.ins C dx fs)) (.ref p) (.ins c ns ds) := .ins upd_same I.mgc I.nm (Reps.mono sf _ I.vs)
  refine ⟨fun b u e => ?_, by rw [List.length_set]; exact I.rl.len, fun i d hi => ?_, fun i j q di dj hi hj hne y1 y2 e1 e2 e3 e4 => ?_, fun h1 h2 => absurd (mem_minus.mp h2).2 (by simp)⟩
  · by_cases h : b = p
    · subst h; rw [upd_same] at e; cases e; exact I.hp
    · rw [upd_ne h] at e; exact I.s.fh b u e
  · by_cases h0 : i = 0
    · subst h0
      have hl : 0 < st.length := by
        have := (List.getElem?_eq_some_iff.mp hi).1
        simpa using this
      rw [List.getElem?_set_self hl] at hi
      cases hi
      exact ⟨_, I.self, .inr ⟨fun z => (mem_minus.mp z).2 (by simp), rs⟩⟩
    · rw [List.getElem?_set_ne (Ne.symm h0)] at hi
      obtain ⟨v, e1, hv⟩ := I.rl.val i d hi
      refine ⟨v, e1, ?_⟩
      rcases hv with ⟨a, b⟩ | ⟨a, b⟩
      · refine .inl ⟨mem_minus.mpr ⟨a, by simpa using h0⟩, ?_⟩
        cases d with
        | lst es =>
          obtain ⟨q, ys, e, k1, k2, k3, k4⟩ := b
          have hq : q ≠ p := fun z => by subst z; rw [I.hp] at k1; cases k1
          exact ⟨q, ys, e, k1, by rw [upd_ne hq]; exact k2, k3, Reps.mono sf _ k4⟩
        | dct ks vs =>
          obtain ⟨q, o, kv, vv, nks, e, k1, k2, k3, k4, k5, k6, k7⟩ := b
          have hq : q ≠ p := fun z => by
            subst z
            obtain ⟨es, ep, rfl, _⟩ := k4
            rw [I.hp] at k1; cases k1
          exact ⟨q, o, kv, vv, nks, e, k1, by rw [upd_ne hq]; exact k2, k3, k4, k5, Reps.mono sf _ k6, Reps.mono sf _ k7⟩
        | _ => exact Rep.mono sf _ b
      · exact .inr ⟨fun z => a (mem_minus.mp z).1, Rep.mono sf _ b⟩
  · have n1 : 0 ≠ i := fun z => (mem_minus.mp hi).2 (by simp [z])
    have n2 : 0 ≠ j := fun z => (mem_minus.mp hj).2 (by simp [z])
    rw [List.getElem?_set_ne n1] at e1
    rw [List.getElem?_set_ne n2] at e2
    exact I.rl.sep i j q di dj (mem_minus.mp hi).1 (mem_minus.mp hj).1 hne y1 y2 e1 e2 e3 e4
theorem InvI.laidOut (I : InvI X c C p dx own Hb F0 F H σ st ns ds fs) {F1 H1 : Hp} (t : Step (upd F p (.ins C dx fs)) H F1 H1) : Step F0 Hb F1 H1 ∧ F1 p = some (.ins C dx fs) ∧ H1 p = some (.ins C dx fs) := by
  refine ⟨⟨fun b u e => ?_, I.s.hh.trans t.hh, t.fh, fun q hq e => ?_⟩, t.ff p _ upd_same, t.hh p _ I.hp⟩
  · have e2 := I.s.ff b u e
    exact t.ff b u (by rw [upd_ne (ne_of_none e2 I.fp)]; exact e2)
  · have hne : q ≠ p := fun z => by subst z; exact hq I.bp
    have hn : H q ≠ none := fun z => hq (I.s.hh.free z)
    exact t.nw q hn (by rw [upd_ne hne]; exact I.s.nw q hq e)
/-- self.f = v -/
theorem InvI.put (I : InvI X c C p dx own Hb F0 F H σ st ns ds fs) {F1 H1 : Hp} (t : Step (upd F p (.ins C dx fs)) H F1 H1) {v : V} {d : D} {f : Str} (rv : Rep X.w X.K X.mg F1 v d) (hn : D.noc ns d = true) :
    InvI X c C p dx own Hb F0 (L2.del F1 p) (upd H1 p (.ins C dx (putF f v fs))) σ st (putD f d ns ds).1 (putD f d ns ds).2 (putF f v fs) := by
  obtain ⟨s1, f1, h1⟩ := I.laidOut t
  have nmf : fs.map (·.1) = ns := I.nm
  have sf : Same F (L2.del F1 p) := same_del (fun b u e => t.ff b u (by rw [upd_ne (ne_of_none e I.fp)]; exact e)) I.fp
  have rv' : Rep X.w X.K X.mg (L2.del F1 p) v d := Rep.del f1 d (by rw [nmf]; exact hn) rv
  obtain ⟨g1, g2⟩ := putD_rel f rv' nmf (Reps.mono sf _ I.vs)
  have f0p : F0 p = none := by
    cases e : F0 p with
    | none => rfl
    | some u => have := I.s.ff p u e; rw [I.fp] at this; cases this
  refine ⟨⟨same_del s1.ff f0p, fun b u e => ?_, fun b u e => ?_, fun q hq e => ?_⟩, I.pd, I.bd, I.bt, upd_same, del_same, g1, g2, I.mgc, I.o0, I.o1, I.rl.len, fun i e hi => ?_, I.rl.sep, fun a b q hq => ?_⟩
  · have : b ≠ p := fun z => by subst z; rw [I.bp] at e; cases e
    rw [upd_ne this]; exact s1.hh b u e
  · have : b ≠ p := fun z => by subst z; rw [del_same] at e; cases e
    rw [del_ne this] at e
    rw [upd_ne this]; exact s1.fh b u e
  · by_cases h : q = p
    · subst h; exact del_same
    · rw [del_ne h]; exact s1.nw q hq e
  · obtain ⟨w, e1, hw⟩ := I.rl.val i e hi
    refine ⟨w, e1, ?_⟩
    rcases hw with ⟨a, b⟩ | ⟨a, b⟩
    · refine .inl ⟨a, ?_⟩
      cases e with
      | lst es =>
        obtain ⟨q, ys, e, k1, k2, k3, k4⟩ := b
        have hq : q ≠ p := fun z => by subst z; rw [I.hp] at k1; cases k1
        have kq : F1 q = none := t.nw q (by rw [k1]; exact fun z => nomatch z) (by rw [upd_ne hq]; exact k2)
        exact ⟨q, ys, e, by rw [upd_ne hq]; exact t.hh _ _ k1, by rw [del_ne hq]; exact kq, by rw [upd_ne hq]; rw [upd_ne hq] at k3; exact k3, Reps.mono sf _ k4⟩
      | dct ks vs =>
        obtain ⟨q, o, kv, vv, nks, e, k1, k2, k3, k4, k5, k6, k7⟩ := b
        have hq : q ≠ p := fun z => by
          subst z
          obtain ⟨es, ep, rfl, _⟩ := k4
          rw [I.hp] at k1; cases k1
        have kq : F1 q = none := t.nw q (by rw [k1]; exact fun z => nomatch z) (by rw [upd_ne hq]; exact k2)
        exact ⟨q, o, kv, vv, nks, e, by rw [upd_ne hq]; exact t.hh _ _ k1, by rw [del_ne hq]; exact kq, by rw [upd_ne hq]; rw [upd_ne hq] at k3; exact k3, k4, k5, Reps.mono sf _ k6, Reps.mono sf _ k7⟩
      | _ => exact Rep.mono sf _ b
    · exact .inr ⟨a, Rep.mono sf _ b⟩
  · exact I.rl.pin a b q (by
      have e := (top_upd (C := C) (fs := putF f v fs) I.pd I.bd I.bt).one hq
      subst e
      exact top_upd I.pd I.bd I.bt)
end
/-- what comes of it -/
def AtI (X : Cx) (W : WX) (p : Addr) (F0 Hb : Hp) (T : Ends → Prop) (r : R D) : Prop := match r with
  | .un => True
  | .ok d => ∀ Dn : Ends, (∀ σ1 F1 H1, Step F0 Hb F1 H1 → Rep X.w X.K X.mg F1 (.ref p) d → Dn.nx σ1 H1) → T Dn
  | .ex c ns ds => ∀ Dn : Ends, (∀ cls d σ1 F1 H1, Step F0 Hb F1 H1 → ExAt X.w X.K X.mg F1 H1 c ns ds cls d → W cls d σ1 H1) → T Dn
section
variable {X : Cx} {W : WX} {c : Str} {C p dx : Addr} {own : List Nat} {Hb F0 F H : Hp} {σ : L2.St} {st : SD} {ns : List Str} {ds : List D} {fs : List (Str × V)} {s : SC} {k : Nat}
theorem AtI.mapT {T T' : Ends → Prop} {r : R D} (h : AtI X W p F0 Hb T r) (m : ∀ Dn, T Dn → T' Dn) : AtI X W p F0 Hb T' r := by
  cases r with
  | un => trivial
  | ok d => exact fun Dn hD => m Dn ((show ∀ Dn : Ends, _ → T Dn from h) Dn hD)
  | ex c ns ds => exact fun Dn hD => m Dn ((show ∀ Dn : Ends, _ → T Dn from h) Dn hD)
/-- an expression at self laid, then the rest -/
theorem AtI.bind {α β : Type} {T : (β → Hp → Prop) → Prop} {r : R α} {rel : Hp → Hp → β → α → Prop} {U : β → Hp → Ends → Prop} {g : α → R D} (I : InvI X c C p dx own Hb F0 F H σ st ns ds fs)
    (h1 : At X.w X.K X.mg W σ (upd F p (.ins C dx fs)) H T r rel) (h2 : ∀ b a F1 H1, Step (upd F p (.ins C dx fs)) H F1 H1 → rel F1 H1 b a → AtI X W p F0 Hb (U b H1) (g a)) : AtI X W p F0 Hb (fun Dn => T fun b H1 => U b H1 Dn) (r.bind g) := by
  cases r with
  | un => trivial
  | ex c ns ds => exact fun Dn hD => h1 (fun b H1 => U b H1 Dn) fun cls d F1 H1 s1 x => hD cls d σ F1 H1 (I.laidOut s1).1 x
  | ok a =>
    have h1' : ∀ Q : β → Hp → Prop, (∀ b F1 H1, Step (upd F p (.ins C dx fs)) H F1 H1 → rel F1 H1 b a → Q b H1) → T Q := h1
    show AtI X W p F0 Hb (fun Dn => T fun b H1 => U b H1 Dn) (g a)
    cases e : g a with
    | un => trivial
    | ok d => exact fun Dn hD => h1' _ fun b F1 H1 s1 q => by have h3 := h2 b a F1 H1 s1 q; rw [e] at h3; exact h3 Dn hD
    | ex c ns ds => exact fun Dn hD => h1' _ fun b F1 H1 s1 q => by have h3 := h2 b a F1 H1 s1 q; rw [e] at h3; exact h3 Dn hD
end
end Dl

/-! DlV2: the look at an __init__ tells the truth. -/
namespace Dl
open PySem PySem.Spec PyProof.Rows L2

section
variable {X : Cx} {W : WX} {c : Str} {C p dx : Addr} {own : List Nat} {Hb F0 F H : Hp} {σ : L2.St} {st : SD} {ns : List Str} {ds : List D} {fs : List (Str × V)} {s : SC} {k : Nat}
theorem InvI.back (I : InvI X c C p dx own Hb F0 F H σ st ns ds fs) {F1 H1 : Hp} (t : Step (upd F p (.ins C dx fs)) H F1 H1) : InvI X c C p dx own Hb F0 (L2.del F1 p) H1 σ st ns ds fs := by
  obtain ⟨s1, f1, h1⟩ := I.laidOut t
  have sf : Same F (L2.del F1 p) := same_del (fun b u e => t.ff b u (by rw [upd_ne (ne_of_none e I.fp)]; exact e)) I.fp
  have f0p : F0 p = none := by
    cases e : F0 p with
    | none => rfl
    | some u => have := I.s.ff p u e; rw [I.fp] at this; cases this
  refine ⟨⟨same_del s1.ff f0p, s1.hh, fun b u e => ?_, fun q hq e => ?_⟩, I.pd, I.bd, I.bt, h1, del_same, I.nm, Reps.mono sf _ I.vs, I.mgc, I.o0, I.o1, I.rl.len, fun i e hi => ?_, I.rl.sep, I.rl.pin⟩
  · have : b ≠ p := fun z => by subst z; rw [del_same] at e; cases e
    rw [del_ne this] at e
    exact s1.fh b u e
  · by_cases h : q = p
    · subst h; exact del_same
    · rw [del_ne h]; exact s1.nw q hq e
  · obtain ⟨w, e1, hw⟩ := I.rl.val i e hi
    refine ⟨w, e1, ?_⟩
    rcases hw with ⟨a, b⟩ | ⟨a, b⟩
    · refine .inl ⟨a, ?_⟩
      cases e with
      | lst es =>
        obtain ⟨q, ys, e, k1, k2, k3, k4⟩ := b
        have hq : q ≠ p := fun z => by subst z; rw [I.hp] at k1; cases k1
        have kq : F1 q = none := t.nw q (by rw [k1]; exact fun z => nomatch z) (by rw [upd_ne hq]; exact k2)
        exact ⟨q, ys, e, t.hh _ _ k1, by rw [del_ne hq]; exact kq, k3, Reps.mono sf _ k4⟩
      | dct ks vs =>
        obtain ⟨q, o, kv, vv, nks, e, k1, k2, k3, k4, k5, k6, k7⟩ := b
        have hq : q ≠ p := fun z => by
          subst z
          obtain ⟨es, ep, rfl, _⟩ := k4
          rw [I.hp] at k1; cases k1
        have kq : F1 q = none := t.nw q (by rw [k1]; exact fun z => nomatch z) (by rw [upd_ne hq]; exact k2)
        exact ⟨q, o, kv, vv, nks, e, t.hh _ _ k1, by rw [del_ne hq]; exact kq, k3, k4, k5, Reps.mono sf _ k6, Reps.mono sf _ k7⟩
      | _ => exact Rep.mono sf _ b
    · exact .inr ⟨a, Rep.mono sf _ b⟩
theorem names_len {fs : List (Str × V)} {ns : List Str} (h : fs.map (·.1) = ns) (hl : ns.length < 900) : fs.length < 1000 := by
  have := congrArg List.length h
  rw [List.length_map] at this
  omega
/-- self.f = e, then the rest -/
theorem put_snd (ok : XOk s k X W) (cl : Cls X.K C) {f : Str} {e : IE} {stm : Stmt} (chk : chkPut s own f e stm = true) (na : NoAttr X.K C f) (ob : ObE X.prog X.w X.K X.mg X.base k e) : ∃ t, PS X stm t ∧
    ∀ {p dx : Addr} {Hb F0 F H : Hp} {σ : L2.St} {st : SD} {ns : List Str} {ds : List D} {fs : List (Str × V)} (u : TS) (g : List Str → List D → R D), InvI X c C p dx own Hb F0 F H σ st ns ds fs →
      (∀ F1 H1 ns1 ds1 fs1, InvI X c C p dx own Hb F0 F1 H1 σ st ns1 ds1 fs1 → AtI X W p F0 Hb (fun Dn => u Dn σ H1) (g ns1 ds1)) →
      AtI X W p F0 Hb (fun Dn => t { Dn with nx := u Dn } σ H) ((evE e (st.set 0 (some (.ins c ns ds)))).bind fun d => putO g f ns ds d) := by
  unfold chkPut at chk
  split at chk
  · rename_i t ee hx
    obtain ⟨p2, rfl⟩ := asAssign_eq hx
    split at chk
    · rename_i o g hy
      obtain ⟨p3, rfl⟩ := asAttr_eq hy
      simp only [Bool.and_eq_true, decide_eq_true_eq] at chk
      obtain ⟨⟨⟨⟨rfl, c1⟩, c2⟩, c3⟩, c4⟩ := chk
      unfold chkSelf at c1
      split at c1
      · rename_i x hn
        obtain ⟨p4, rfl⟩ := asName_eq hn
        simp only [Bool.and_eq_true, decide_eq_true_eq] at c1
        obtain ⟨v1, v2, v3⟩ := ok.vis c1.2
        obtain ⟨te, pe, qe⟩ := (sE k e ok ob ee c3).kp c4
        refine ⟨_, ps_fld (pe_var (i := 0) (by rw [ok.N]; exact c1.1) v1 v2 v3) pe (notComp_ok c2), fun u gg I rest => ?_⟩
        rename_i p dx Hb F0 F H σ st ns ds fs
        obtain ⟨sm, rl2⟩ := I.layed
        refine AtI.bind (U := fun y H1 Dn => ∃ v, σ[0]? = some (some v) ∧ ∃ a C dx fs, v = .ref a ∧ H1 a = some (.ins C dx fs) ∧ Cls X.K C ∧ NoAttr X.K C g ∧ fs.length < 1000 ∧ u Dn σ (upd H1 a (.ins C dx (putF g y fs)))) I (qe _ _ H σ _ sm rl2) fun v d F1 H1 s1 r1 => ?_
        unfold putO
        split
        · rename_i hc
          have I2 := I.put s1 (f := g) r1 hc.1
          have h1 := (I.laidOut s1).2.2
          exact (rest _ _ _ _ _ I2).mapT fun Dn z => ⟨_, I.self, p, C, dx, fs, rfl, h1, cl, na, names_len I.nm hc.2, z⟩
        · trivial
      · cases c1
    · cases chk
  · cases chk
theorem sII (ok : XOk s k X W) (tp : Tops X) (cl : Cls X.K C) : ∀ (body : List II) (own : List Nat) (sts : List Stmt), ObII X.prog X.w X.K X.mg X.base k C body → chkII s own body sts = true → ∃ t, PSs X sts t ∧
    ∀ {p dx : Addr} {Hb F0 F H : Hp} {σ : L2.St} {st : SD} {ns : List Str} {ds : List D} {fs : List (Str × V)}, InvI X c C p dx own Hb F0 F H σ st ns ds fs → AtI X W p F0 Hb (fun Dn => t Dn σ H) (execI c body st ns ds)
  | [], own, [], ob, chk => by
    refine ⟨_, pss_nil, fun I Dn hD => ?_⟩
    rename_i p dx Hb F0 F H σ st ns ds fs
    have sf : Same F (upd F p (.ins C dx fs)) := fun b u e => by rw [upd_ne (ne_of_none e I.fp)]; exact e
    exact hD σ (upd F p (.ins C dx fs)) H (I.s.lay I.hp I.bp I.fp) (.ins upd_same I.mgc I.nm (Reps.mono sf _ I.vs))
  | [], _, _ :: _, _, chk => by cases chk
  | i :: r, own, [], ob, chk => by cases i <;> cases chk
  | .st i :: r, own, stm :: sts, ob, chk => by
    simp only [chkII] at chk
    have snd := sS k i ok tp [] own stm ob.1
    cases ec : chkS s [] own i stm with
    | bad => rw [ec] at chk; cases chk
    | stop => rw [ec] at chk; cases chk
    | go o =>
      rw [ec] at chk snd
      simp only [Bool.and_eq_true] at chk
      obtain ⟨t1, p1, q1⟩ := snd
      obtain ⟨t2, p2, q2⟩ := sII ok tp cl r o sts ob.2 chk.2
      refine ⟨_, pss_cons p1 p2, fun I => ?_⟩
      rename_i p dx Hb F0 F H σ st ns ds fs
      have h := q1 (upd Hb p (.ins C dx fs)) F F H σ st I.inn I.rl
      have o0 : 0 ∈ o := by simpa using chk.1.1
      have o1 : 1000 ∈ o := by simpa using chk.1.2
      show AtI X W p F0 Hb (fun Dn => t1 { Dn with nx := t2 Dn } σ H) (match execS i st with
        | .nx st' => execI c r st' ns ds
        | .ex _ c' ns' ds' => .ex c' ns' ds'
        | _ => .un)
      cases e : execS i st with
      | un => trivial
      | rt _ => trivial
      | bk _ => trivial
      | ct _ => trivial
      | nx st1 =>
        rw [e] at h
        have nxt : ∀ σ1 F1 H1, Step F (upd Hb p (.ins C dx fs)) F1 H1 → SRel X.w X.K X.mg o (upd Hb p (.ins C dx fs)) F1 H1 σ1 st1 → AtI X W p F0 Hb (fun Dn => t2 Dn σ1 H1) (execI c r st1 ns ds) := fun σ1 F1 H1 s1 r1 =>
          q2 ⟨I.out s1, I.pd, I.bd, I.bt, s1.hh p _ upd_same, s1.nw p (by rw [upd_same]; exact fun z => nomatch z) I.fp, I.nm, Reps.mono s1.ff _ I.vs, I.mgc, o0, o1, r1⟩
        dsimp only
        cases e2 : execI c r st1 ns ds with
        | un => trivial
        | ok d => exact fun Dn hD => h _ fun σ1 F1 H1 s1 sf r1 => by have z := nxt σ1 F1 H1 s1 r1; rw [e2] at z; exact z Dn hD
        | ex c' ns' ds' => exact fun Dn hD => h _ fun σ1 F1 H1 s1 sf r1 => by have z := nxt σ1 F1 H1 s1 r1; rw [e2] at z; exact z Dn hD
      | ex st1 c' ns' ds' =>
        rw [e] at h
        exact fun Dn hD => h _ fun cls d σ1 F1 H1 s1 sf r1 x => hD cls d σ1 F1 H1 (I.out s1) x
  | .put f e :: r, own, stm :: sts, ob, chk => by
    simp only [chkII, Bool.and_eq_true] at chk
    obtain ⟨t1, p1, q1⟩ := put_snd (c := c) ok cl chk.1 ob.1.1 ob.1.2
    obtain ⟨t2, p2, q2⟩ := sII ok tp cl r own sts ob.2 chk.2
    exact ⟨_, pss_cons p1 p2, fun I => q1 t2 _ I fun F1 H1 ns1 ds1 fs1 J => q2 J⟩
  | .putIf tt f e :: r, own, stm :: sts, ob, chk => by
    simp only [chkII, Bool.and_eq_true] at chk
    obtain ⟨chk, chr⟩ := chk
    split at chk
    · rename_i ec a hx
      obtain ⟨p0, rfl⟩ := asIfS_eq hx
      simp only [Bool.and_eq_true] at chk
      obtain ⟨⟨h1, h2⟩, h3⟩ := chk
      obtain ⟨n1, o1, o2⟩ := ob.1
      obtain ⟨tc, pc, qc⟩ := (sE k tt ok o1 ec h2).2 h1
      obtain ⟨t1, p1, q1⟩ := put_snd (c := c) ok cl h3 n1 o2
      obtain ⟨t2, p2, q2⟩ := sII ok tp cl r own sts ob.2 chr
      refine ⟨_, pss_cons (ps_if pc (pss_one p1) pss_nil) p2, fun I => ?_⟩
      rename_i p dx Hb F0 F H σ st ns ds fs
      obtain ⟨sm, rl2⟩ := I.layed
      refine AtI.bind (U := fun b H1 Dn => if b = true then t1 { Dn with nx := t2 Dn } σ H1 else t2 Dn σ H1) I (qc _ _ H σ _ sm rl2) fun b b' F1 H1 s1 r1 => ?_
      subst r1
      have J := I.back s1
      cases b with
      | true =>
        have z := q1 t2 (execI c r st) J fun F1 H1 ns1 ds1 fs1 J => q2 J
        simpa using z
      | false =>
        have z := q2 J
        simpa using z
    · cases chk
end

/-! ### from the text of __init__ to the promise -/
section
variable {P : Program} {w : World} {K : PySem.W.Frag} {mg : Str → Option Value} {base : Heap}
theorem le_ne {p q dx : Nat} (h : p = dx + 1) (hq : p ≤ q) : q ≠ dx ∧ dx ≤ q := by omega
theorem above {Hb : Hp} {p dx : Addr} (nw : NewAt Hb p dx) (q : Addr) (hq : p ≤ q) : upd Hb dx (.own p) q = none := by
  obtain ⟨h1, h2⟩ := le_ne nw.1 hq
  rw [upd_ne h1]; exact nw.2 q h2
theorem defI {x qual : Str} {st : Stmt} {f C : Addr} {fd : FuncData} {N : List Str} {n k : Nat} {c : Str} {body : List II} (F : Fun K x qual st f fd) (cl : Cls K C) (hC : mg c = some (.ref C)) (chk : chkN N n body st = true) (blt : ∀ y ∈ bltNames, mg y = none) (ob : ObII P w K mg base k C body) :
    FnG P w K mg base (k + 1) f fd (N.take (n + 1)) (spI w K mg c n (initD c N n body)) := by
  unfold chkN at chk
  simp only [Bool.and_eq_true] at chk
  obtain ⟨S, hl⟩ := scC_ok chk.1.1
  refine fnG F S (fun vs H Q E h => ?_) fun cdv A up s H vs Q E gd room want => ?_
  · obtain ⟨p, dx, C', ws, Hb, rfl, e, _⟩ := h
    rw [hl, List.length_cons, e]
  · obtain ⟨p, dx, C', ws, Hb, rfl, hn, hC', nw, rfl, F0, ds, same, reps, out⟩ := want
    rw [hC] at hC'; cases hC'
    have ok : XOk ⟨N, defScope st, false⟩ k (cxOf (L2.CX P w) P w K mg base N qual (defScope st) f cdv A up s (upd (upd Hb dx (.own p)) p (.ins C dx [])) E) (fun cls d _ H => E cls d H) :=
      ⟨rfl, rfl, S.nd, rfl, room, gd, blt, L2.takes_of rfl rfl rfl rfl, fun _ _ => rfl⟩
    have hp := L2.passes_of (X := cxOf (L2.CX P w) P w K mg base N qual (defScope st) f cdv A up s (upd (upd Hb dx (.own p)) p (.ins C dx [])) E) rfl
    obtain ⟨t, ht, hfin⟩ := sII (c := c) ok ⟨hp, rfl, rfl⟩ cl body [0, 1000] (defBody st) ob chk.2
    refine ⟨t, ht, ?_⟩
    have hds : ds.length = n := by rw [← reps.length]; exact hn
    have hN : n + 1 ≤ 1000 := by
      rw [List.length_take] at hl
      have := of_decide_eq_true chk.1.2
      omega
    have f0 : ∀ q, Hb q = none → F0 q = none := fun q e => Same.none same e
    have big : ∀ (d : D), (none :: (ds.map some ++ List.replicate (N.length - (ds.length + 1)) none) : SD)[1000]? ≠ some (some d) := fun d e => by
      rw [show (1000 : Nat) = 999 + 1 from rfl, List.getElem?_cons_succ, List.getElem?_append_right (by simp; omega), List.getElem?_replicate] at e
      split at e <;> cases e
    have I : InvI (cxOf (L2.CX P w) P w K mg base N qual (defScope st) f cdv A up s (upd (upd Hb dx (.own p)) p (.ins C dx [])) E) c C p dx [0, 1000] (upd Hb dx (.own p)) F0 F0 (upd (upd Hb dx (.own p)) p (.ins C dx [])) (start N (.ref p :: ws)) (none :: (ds.map some ++ List.replicate (N.length - (ds.length + 1)) none)) [] [] [] := by
      refine ⟨⟨Same.refl F0, fun b u e => ?_, fun b u e => ?_, fun q hq e => e⟩, nw.1, upd_same, above nw, upd_same, f0 p nw.at_p, rfl, .nil, hC, by simp, by simp, ?_, fun i d hi => ?_, fun i j q di dj hi hj hne y1 y2 e1 e2 e3 e4 => ?_, fun _ _ q hq => ?_⟩
      · rw [upd_ne (fun z => by subst z; rw [upd_ne (Ne.symm nw.at_ne), nw.at_p] at e; cases e)]; exact e
      · have e' := same b u e
        rw [upd_ne (fun z => by subst z; rw [nw.at_p] at e'; cases e'), upd_ne (fun z => by subst z; rw [nw.at_d] at e'; cases e')]; exact e'
      · simp [L2.start, reps.length]
      · cases i with
        | zero => cases hi
        | succ i =>
          have hi' : i < ds.length := by
            by_cases h : i < ds.length
            · exact h
            · rw [List.getElem?_cons_succ, List.getElem?_append_right (by simpa using h), List.getElem?_replicate] at hi
              split at hi <;> cases hi
          rw [List.getElem?_cons_succ, List.getElem?_append_left (by simpa using hi'), List.getElem?_map] at hi
          cases e2 : ds[i]? with
          | none => rw [e2] at hi; cases hi
          | some d' =>
            rw [e2] at hi
            cases hi
            obtain ⟨u, h1, h2⟩ := reps.get e2
            refine ⟨u, ?_, .inr ⟨fun z => ?_, h2⟩⟩
            · unfold L2.start
              rw [List.getElem?_append_left (by simp [reps.length]; omega), List.getElem?_map, List.getElem?_cons_succ, h1]
              rfl
            · simp at z; omega
      · simp only [List.mem_cons, List.not_mem_nil, or_false] at hi
        rcases hi with rfl | rfl
        · cases e1
        · exact big _ e1
      · have e := (top_upd (C := C) (fs := []) nw.1 upd_same (above nw)).one hq
        subst e; rfl
    have at0 := hfin I
    have er : initD c N n body ds = execI c body (none :: (ds.map some ++ List.replicate (N.length - (ds.length + 1)) none)) [] [] := if_pos hds
    rw [er] at out
    have stp : ∀ {F1 H1 : Hp}, Step F0 (upd Hb dx (.own p)) F1 H1 → Step F0 Hb F1 H1 := fun g => by
      refine ⟨g.ff, fun b u e => g.hh b u ?_, g.fh, fun q hq e => g.nw q ?_ e⟩
      · rw [upd_ne (fun z => by subst z; rw [nw.at_d] at e; cases e)]; exact e
      · rw [upd_ne (fun z => by subst z; exact hq nw.at_d)]; exact hq
    cases e : execI c body (none :: (ds.map some ++ List.replicate (N.length - (ds.length + 1)) none)) [] [] with
    | un => rw [e] at out; exact out.elim
    | ok d => rw [e] at out at0; exact at0 _ fun σ1 F1 H1 s1 r1 => out F1 H1 (stp s1) r1
    | ex c' ns' ds' => rw [e] at out at0; exact at0 _ fun cls d σ1 F1 H1 s1 x => out cls d F1 H1 (stp s1) x
theorem initD_len {c : Str} {N : List Str} {n : Nat} {body : List II} {ds : List D} (h : ds.length ≠ n) : initD c N n body ds = .un := if_neg h
/-- a class with its __init__, behind the top -/
structure ClsAt (K : PySem.W.Frag) (mg : Str → Option Value) (c qual : Str) (st : Stmt) (ps : List Str) (fl : List Str) : Prop where
  ex : ∃ (C f : Addr) (fd : FuncData), mg c = some (.ref C) ∧ Mk K C f ∧ Cls K C ∧ Fun K "__init__" qual st f fd ∧ Binds K fd ps [] ∧ ∀ g ∈ fl, NoAttr K C g
theorem ClsAt.mkD {c qual : Str} {st : Stmt} {N : List Str} {n k : Nat} {body : List II} {fl : List Str} (A : ClsAt K mg c qual st (N.take (n + 1)) fl) (chk : chkN N n body st = true) (blt : ∀ y ∈ bltNames, mg y = none)
    (ob : ∀ C : Addr, (∀ g ∈ fl, NoAttr K C g) → ObII P w K mg base k C body) : MkD P w K mg base (k + 2) c n (initD c N n body) := by
  obtain ⟨C, f, fd, hC, M, cl, F, bd, na⟩ := A.ex
  exact ⟨⟨k + 1, C, by omega, hC, f, fd, _, M, defI F cl hC chk blt (ob C na), bd⟩, fun _ h => initD_len h⟩
theorem ClsAt.fldD {c qual : Str} {st : Stmt} {ps fl : List Str} (A : ClsAt K mg c qual st ps fl) {g : Str} (hg : g ∈ fl) : FldD K mg c g := by
  obtain ⟨C, f, fd, hC, M, cl, F, bd, na⟩ := A.ex
  exact ⟨C, hC, cl, na g hg⟩
/-- a method of a class, behind the top -/
structure MethAt (K : PySem.W.Frag) (mg : Str → Option Value) (c m qual : Str) (st : Stmt) (ps : List Str) : Prop where
  ex : ∃ (C f : Addr) (fd : FuncData), mg c = some (.ref C) ∧ Cls K C ∧ Meth K C m f ∧ Fun K m qual st f fd ∧ Binds K fd ps []
theorem MethAt.methD {c m qual : Str} {st : Stmt} {N : List Str} {n k : Nat} {body : ISs} (A : MethAt K mg c m qual st (N.take n)) (chk : chkD N n body st = true) (blt : ∀ y ∈ bltNames, mg y = none) (ob : ObB P w K mg base k body) : MethD P w K mg base (k + 1) c m n (runD N n body) := by
  obtain ⟨C, f, fd, hC, cl, M, F, bd⟩ := A.ex
  exact ⟨⟨C, hC, f, fd, _, cl, M, defG F chk blt ob, bd⟩, fun _ h => runD_len h⟩
end
end Dl

/-! DlW: straight programs as plain data. -/
namespace Dl
open PySem PySem.Spec PyProof.Rows L2

inductive Stp where
  | inp (x : Str) | num (n : Int) | add (a b : Nat) | mul (a b : Nat)
def Stp.d : Stp → D
  | .inp x => .tup [.str "input", .str x]
  | .num n => .tup [.str "number", .int n]
  | .add a b => .tup [.str "plus", .int (a : Nat), .int (b : Nat)]
  | .mul a b => .tup [.str "times", .int (a : Nat), .int (b : Nat)]
def Stp.leaf : Stp → Bool
  | .inp _ => true
  | .num _ => true
  | _ => false
/-- whether it may stand at i, its name being one that Q allows -/
def Stp.ok (Q : Str → Prop) (i : Nat) : Stp → Prop
  | .inp x => Q x
  | .num n => 0 ≤ n
  | .add a b => a < i ∧ b < i
  | .mul a b => a < i ∧ b < i
def WF (Q : Str → Prop) (P : List Stp) : Prop := ∀ (i : Nat) (s : Stp), P[i]? = some s → s.ok Q i
theorem WF.nil {Q : Str → Prop} : WF Q [] := fun i s h => by simp at h
theorem WF.snoc {Q : Str → Prop} {P : List Stp} {s : Stp} (h : WF Q P) (hs : s.ok Q P.length) : WF Q (P ++ [s]) := fun i t e => by
  by_cases hi : i < P.length
  · rw [List.getElem?_append_left hi] at e; exact h i t e
  · by_cases h2 : i = P.length
    · subst h2
      rw [List.getElem?_append_right (Nat.le_refl _), Nat.sub_self] at e
      cases e; exact hs
    · rw [List.getElem?_eq_none (by simp; omega)] at e; cases e
theorem WF.imp {Q Q' : Str → Prop} {P : List Stp} (h : WF Q P) (i : ∀ x, Q x → Q' x) : WF Q' P := fun j s e => by
  have := h j s e
  cases s with
  | inp x => exact i x this
  | num n => exact this
  | add a b => exact this
  | mul a b => exact this
def Stp.deg (ds : List Int) : Stp → Int
  | .inp _ => 1
  | .num _ => 1
  | .add a b => max (ds.getD a 0) (ds.getD b 0)
  | .mul a b => ds.getD a 0 + ds.getD b 0
def Stp.hgt (ds : List Int) : Stp → Int
  | .inp _ => 0
  | .num _ => 0
  | .add a b => 1 + max (ds.getD a 0) (ds.getD b 0)
  | .mul a b => 1 + max (ds.getD a 0) (ds.getD b 0)
/-- a row that grows step by step -/
def rowOf {α : Type} (f : List α → Stp → α) (P : List Stp) : List α := P.foldl (fun ds s => ds ++ [f ds s]) []
section
variable {α : Type} {f : List α → Stp → α} {P : List Stp} {s : Stp}
theorem rowOf_nil : rowOf f [] = [] := rfl
theorem rowOf_snoc : rowOf f (P ++ [s]) = rowOf f P ++ [f (rowOf f P) s] := by
  unfold rowOf
  rw [List.foldl_append]; rfl
theorem rowOf_len : (rowOf f P).length = P.length := by
  have key : ∀ (P : List Stp) (ds : List α), (P.foldl (fun ds s => ds ++ [f ds s]) ds).length = ds.length + P.length := by
    intro P
    induction P with
    | nil => intro ds; rfl
    | cons s P ih => intro ds; rw [List.foldl_cons, ih]; simp; omega
  have := key P []
  simpa [rowOf] using this
end
abbrev degs (P : List Stp) : List Int := rowOf Stp.deg P
theorem degs_snoc {P : List Stp} {s : Stp} : degs (P ++ [s]) = degs P ++ [s.deg (degs P)] := rowOf_snoc
theorem degs_len {P : List Stp} : (degs P).length = P.length := rowOf_len
abbrev hgts (P : List Stp) : List Int := rowOf Stp.hgt P
theorem hgts_snoc {P : List Stp} {s : Stp} : hgts (P ++ [s]) = hgts P ++ [s.hgt (hgts P)] := rowOf_snoc
theorem hgts_len {P : List Stp} : (hgts P).length = P.length := rowOf_len
/-- each number of a row of numbers, where it stands -/
theorem idx_ints {row : List Int} {i : Int} {z : Int} (h0 : 0 ≤ i) (h : row[i.toNat]? = some z) : idxD (.lst (row.map D.int)) (.int i) = .ok (.int z) ∧ idxD (.tup (row.map D.int)) (.int i) = .ok (.int z) := by
  have hl := (List.getElem?_eq_some_iff.mp h).1
  have e : (row.map D.int)[i.toNat]? = some (.int z) := by rw [List.getElem?_map, h]; rfl
  exact ⟨idxD_lst (ixN_at h0 (by rw [List.length_map]; omega)) e, idxD_tup (ixN_at h0 (by rw [List.length_map]; omega)) e⟩
theorem idx_getD {row : List Int} {i : Nat} (h : i < row.length) : idxD (.lst (row.map D.int)) (.int (i : Nat)) = .ok (.int (row.getD i 0)) ∧ idxD (.tup (row.map D.int)) (.int (i : Nat)) = .ok (.int (row.getD i 0)) :=
  idx_ints (by omega) (by rw [show ((i : Nat) : Int).toNat = i by omega, List.getD_eq_getElem?_getD, List.getElem?_eq_getElem h]; rfl)
theorem idx_stp {P : List Stp} {i : Nat} {s : Stp} (h : P[i]? = some s) : idxD (.lst (P.map Stp.d)) (.int (i : Nat)) = .ok s.d ∧ idxD (.tup (P.map Stp.d)) (.int (i : Nat)) = .ok s.d := by
  have hl := (List.getElem?_eq_some_iff.mp h).1
  have e : (P.map Stp.d)[i]? = some s.d := by rw [List.getElem?_map, h]; rfl
  exact ⟨idxD_lst (ixN_nat (by rw [List.length_map]; exact hl)) e, idxD_tup (ixN_nat (by rw [List.length_map]; exact hl)) e⟩
@[simp] theorem stp_d_inp {x : Str} : (Stp.inp x).d = .tup [.str "input", .str x] := nr rfl
@[simp] theorem stp_d_num {n : Int} : (Stp.num n).d = .tup [.str "number", .int n] := nr rfl
@[simp] theorem stp_d_add {a b : Nat} : (Stp.add a b).d = .tup [.str "plus", .int (a : Nat), .int (b : Nat)] := nr rfl
@[simp] theorem stp_d_mul {a b : Nat} : (Stp.mul a b).d = .tup [.str "times", .int (a : Nat), .int (b : Nat)] := nr rfl
/-- three in a row -/
theorem cut3 {xs : List D} {i : Nat} {a b c : D} (h0 : xs[i]? = some a) (h1 : xs[i + 1]? = some b) (h2 : xs[i + 2]? = some c) : cutD xs (some (i : Nat)) (some ((i : Nat) + 3 : Int)) = [a, b, c] := by
  have hl := (List.getElem?_eq_some_iff.mp h2).1
  unfold cutD
  have e1 : HT.sIx xs.length 0 (some ((i : Nat) : Int)) = i := by
    unfold HT.sIx; dsimp only; rw [if_neg (by omega)]; omega
  have e2 : HT.sIx xs.length xs.length (some ((i : Nat) + 3 : Int)) = i + 3 := by
    unfold HT.sIx; dsimp only; rw [if_neg (by omega)]; omega
  rw [e1, e2, show i + 3 - i = 3 by omega]
  apply List.ext_getElem?
  intro j
  rw [List.getElem?_take, List.getElem?_drop]
  match j with
  | 0 => simpa using h0
  | 1 => simpa using h1
  | 2 => simpa using h2
  | j + 3 => rw [if_neg (by omega)]; rfl
@[simp] theorem max2D_int {a b : Int} : max2D (.int a) (.int b) = .ok (.int (max a b)) := nr (by
  show R.ok (D.int (if b > a then b else a)) = _
  congr 2
  by_cases h : b > a
  · rw [if_pos h]; omega
  · rw [if_neg h]; omega)
@[simp] theorem min2D_int {a b : Int} : min2D (.int a) (.int b) = .ok (.int (min a b)) := nr (by
  show R.ok (D.int (if b < a then b else a)) = _
  congr 2
  by_cases h : b < a
  · rw [if_pos h]; omega
  · rw [if_neg h]; omega)
@[simp] theorem fldD_at {c f : Str} {cs ns : List Str} {ds : List D} : fldD cs f (.ins c ns ds) = if c ∈ cs then ofO id (lookD f ns ds) else .un := nr rfl
@[simp] theorem lookD_cons {f n : Str} {ns : List Str} {d : D} {ds : List D} : lookD f (n :: ns) (d :: ds) = if f = n then some d else lookD f ns ds := nr rfl
@[simp] theorem ofO_some {α β : Type} {f : α → β} {a : α} : ofO f (some a) = .ok (f a) := nr rfl
/-! ### trees of tuples -/
mutual
def D.fz : D → D
  | .tup xs => .tup (D.fzs xs)
  | .lst xs => .tup (D.fzs xs)
  | .non => .non
  | .bl b => .bl b
  | .int i => .int i
  | .str x => .str x
  | .ins c ns ds => .ins c ns ds
  | .dct ks vs => .dct ks vs
def D.fzs : List D → List D
  | [] => []
  | x :: xs => D.fz x :: D.fzs xs
end
theorem fzs_map : ∀ xs : List D, D.fzs xs = xs.map D.fz
  | [] => rfl
  | x :: xs => by simp only [D.fzs, List.map_cons, fzs_map xs]
/-- lists and tuples of atoms, to a depth -/
def fzok : Nat → D → Prop
  | _, .non => True
  | _, .bl _ => True
  | _, .int _ => True
  | _, .str _ => True
  | n + 1, .tup xs => xs.length < 1000000 ∧ ∀ x ∈ xs, fzok n x
  | n + 1, .lst xs => xs.length < 1000000 ∧ ∀ x ∈ xs, fzok n x
  | _, _ => False
/-- tuples of atoms, to a depth -/
def ttok : Nat → D → Prop
  | _, .non => True
  | _, .bl _ => True
  | _, .int _ => True
  | _, .str _ => True
  | n + 1, .tup xs => xs.length < 1000000 ∧ ∀ x ∈ xs, ttok n x
  | _, _ => False
theorem ttok.fz : ∀ {n : Nat} {d : D}, ttok n d → fzok n d ∧ d.fz = d
  | _, .non, _ => ⟨by simp [fzok], rfl⟩
  | _, .bl _, _ => ⟨by simp [fzok], rfl⟩
  | _, .int _, _ => ⟨by simp [fzok], rfl⟩
  | _, .str _, _ => ⟨by simp [fzok], rfl⟩
  | n + 1, .tup xs, h => by
    have h' : xs.length < 1000000 ∧ ∀ x ∈ xs, ttok n x := h
    refine ⟨⟨h'.1, fun x hx => (ttok.fz (h'.2 x hx)).1⟩, ?_⟩
    show D.tup (D.fzs xs) = _
    rw [fzs_map]
    congr 1
    conv => rhs; rw [← List.map_id xs]
    exact List.map_congr_left fun x hx => (ttok.fz (h'.2 x hx)).2
  | 0, .tup _, h => by simp [ttok] at h
  | 0, .lst _, h => by simp [ttok] at h
  | n + 1, .lst _, h => by simp [ttok] at h
  | 0, .ins _ _ _, h => by simp [ttok] at h
  | 0, .dct _ _, h => by simp [ttok] at h
  | n + 1, .dct _ _, h => by simp [ttok] at h
  | n + 1, .ins _ _ _, h => by simp [ttok] at h
theorem ttok_stp (s : Stp) (n : Nat) : ttok (n + 1) s.d := by
  cases s <;> exact ⟨by simp, by simp [ttok]⟩
theorem ttok_ints (ns : List Int) (n : Nat) (h : ns.length < 1000000) : ttok (n + 1) (.tup (ns.map D.int)) := ⟨by simpa using h, fun x hx => by
  obtain ⟨i, _, rfl⟩ := List.mem_map.mp hx
  simp [ttok]⟩
theorem ttok_nats (ns : List Nat) (n : Nat) (h : ns.length < 1000000) : ttok (n + 1) (.tup (ns.map fun o => D.int (o : Nat))) := ⟨by simpa using h, fun x hx => by
  obtain ⟨i, _, rfl⟩ := List.mem_map.mp hx
  simp [ttok]⟩
theorem ttok_stps (P : List Stp) (n : Nat) (h : P.length < 1000000) : ttok (n + 2) (.tup (P.map Stp.d)) := ⟨by simpa using h, fun x hx => by
  obtain ⟨s, _, rfl⟩ := List.mem_map.mp hx
  exact ttok_stp s n⟩
/-! ### loops without a way out -/
theorem for_tgE {g : Tg} {body : SD → O} {items : List D} {st : SD} (I : Nat → SD → Prop) (h0 : I 0 st)
    (step : ∀ i d s (J : SD → Prop), items[i]? = some d → I i s → (∀ s', I (i + 1) s' → J s') → ∃ s1, bindT g d s = .ok s1 ∧ Goes J (fun _ => False) (fun _ => False) (body s1)) : ∃ s', forL (bindT g) body items st = .nx s' ∧ I items.length s' := by
  have := forL_goes (P := fun o => ∃ s', o = .nx s' ∧ I items.length s') (b := bindT g) (body := body) (k := .nx) I (fun _ => False) (fun _ => False) (fun _ z => z.elim) (fun _ z => z.elim) items 0 st h0 (fun i d s hi hs => by
    rw [Nat.zero_add] at hs ⊢
    obtain ⟨s1, h1, h2⟩ := step i d s _ hi hs fun _ z => z
    exact ⟨s1, h1, h2⟩) fun s' hs => ⟨s', rfl, by rw [Nat.zero_add] at hs; exact hs⟩
  rwa [obind_id] at this
theorem for_nmE {j : Nat} {body : SD → O} {items : List D} {st : SD} (I : Nat → SD → Prop) (h0 : I 0 st)
    (step : ∀ i d s (J : SD → Prop), items[i]? = some d → I i s → (∀ s', I (i + 1) s' → J s') → Goes J (fun _ => False) (fun _ => False) (body (s.set j (some d)))) : ∃ s', forL (bindT (.nm j)) body items st = .nx s' ∧ I items.length s' :=
  for_tgE I h0 fun i d s J hi hs hJ => ⟨_, rfl, step i d s J hi hs hJ⟩
theorem enum_at : ∀ {ds : List D} {n i : Nat} {d : D}, (enumL n ds)[i]? = some d → ∃ x, ds[i]? = some x ∧ d = .tup [.int ((n + i : Nat) : Int), x]
  | [], n, i, d, h => by simp [enumL] at h
  | x :: ds, n, 0, d, h => by
    simp only [enumL, List.getElem?_cons_zero, Option.some.injEq] at h
    exact ⟨x, rfl, by rw [← h]; rfl⟩
  | x :: ds, n, i + 1, d, h => by
    simp only [enumL, List.getElem?_cons_succ] at h
    obtain ⟨y, h1, h2⟩ := enum_at h
    exact ⟨y, by simpa using h1, by rw [h2, show n + 1 + i = n + (i + 1) by omega]⟩
theorem enum_len : ∀ (ds : List D) (n : Nat), (enumL n ds).length = ds.length
  | [], _ => rfl
  | x :: ds, n => by simp only [enumL, List.length_cons, enum_len ds]
@[simp] theorem bindT_two {i j : Nat} {x y : D} {st : SD} : bindT (.tup [i, j]) (.tup [x, y]) st = .ok ((st.set i (some x)).set j (some y)) := nr (by simp [bindT, setAll])
@[simp] theorem bindT_three {i j k : Nat} {x y z : D} {st : SD} : bindT (.tup [i, j, k]) (.tup [x, y, z]) st = .ok (((st.set i (some x)).set j (some y)).set k (some z)) := nr (by simp [bindT, setAll])
/-! ### the making of instances -/
section
variable {c : Str} {r : List II} {st : SD} {ns : List Str} {ds : List D}
theorem execI_st {s : IS} {st' : SD} (h : execS s st = .nx st') : execI c (.st s :: r) st ns ds = execI c r st' ns ds := by
  simp only [execI, h]
theorem execI_nil : execI c [] st ns ds = .ok (.ins c ns ds) := rfl
theorem execI_put {f : Str} {e : IE} {d : D} (h : evE e (st.set 0 (some (.ins c ns ds))) = .ok d) (h1 : D.noc ns d = true) (h2 : ns.length < 900) : execI c (.put f e :: r) st ns ds = execI c r st (putD f d ns ds).1 (putD f d ns ds).2 := by
  simp only [execI, h]
  exact if_pos ⟨h1, h2⟩
end
theorem noc_all {ns : List Str} : ∀ {xs : List D}, (∀ x ∈ xs, D.noc ns x = true) → D.nocs ns xs = true
  | [], _ => rfl
  | x :: xs, h => by
    simp only [D.nocs, Bool.and_eq_true]
    exact ⟨h x List.mem_cons_self, noc_all fun y hy => h y (List.mem_cons_of_mem _ hy)⟩
theorem ttok.noc {ns : List Str} : ∀ {n : Nat} {d : D}, ttok n d → D.noc ns d = true
  | _, .non, _ => rfl
  | _, .bl _, _ => rfl
  | _, .int _, _ => rfl
  | _, .str _, _ => rfl
  | n + 1, .tup xs, h => noc_all fun x hx => ttok.noc ((show xs.length < 1000000 ∧ ∀ x ∈ xs, ttok n x from h).2 x hx)
  | 0, .tup _, h => by simp [ttok] at h
  | 0, .lst _, h => by simp [ttok] at h
  | n + 1, .lst _, h => by simp [ttok] at h
  | 0, .ins _ _ _, h => by simp [ttok] at h
  | 0, .dct _ _, h => by simp [ttok] at h
  | n + 1, .dct _ _, h => by simp [ttok] at h
  | n + 1, .ins _ _ _, h => by simp [ttok] at h
end Dl

/-! ### the text of shallowsums_k44_rounds_run, as data -/
namespace Law
open PySem PySem.Spec PyProof.Rows L2 Dl
def src (i : Nat) : Stmt := PySem.Challenge.pw_shallowsums_k44_rounds_run.main.body.getD i (.Pass ⟨0, 0, 0, 0⟩)
def srcM (i j : Nat) : Stmt := match src i with
  | .ClassDef _ _ _ body _ _ _ _ _ _ _ => body.getD j (.Pass ⟨0, 0, 0, 0⟩)
  | _ => .Pass ⟨0, 0, 0, 0⟩
def n_Ldigits : List Str := ["_law_cell_here", "_law_sizes", "_law_row", "_law_rest", "_law_seed", "_law_k", "_law_size", "_law_twice"]
def b_Ldigits : ISs := (.cons (.set 2 true (.lst .nil)) (.cons (.set 3 false (.b1 .int (.v 0))) (.cons (.ifs (.cmp .ge (.v 3) (.bin .pow (.kI 10) (.kI 18))) (.cons (.set 3 false (.bin .sub (.v 3) (.bin .pow (.kI 10) (.kI 18)))) (.cons (.fors [2] (.nm 6) (.any (.v 1)) (.cons (.me .append 2 none (.cons (.bin .mod (.b1 .int (.v 3)) (.v 6)) .nil)) (.cons (.set 3 false (.bin .fdiv (.b1 .int (.v 3)) (.v 6))) .nil))) (.cons (.frz [2] (.ret (.v 2))) .nil))) .nil) (.cons (.set 4 false (.bin .mod (.b1 .int (.v 3)) (.kI 2147483629))) (.cons (.fors [2] (.nm 5) (.rng1 (.b1 .len (.v 1))) (.cons (.set 4 false (.bin .mod (.b1 .int (.bin .add (.bin .add (.bin .mul (.v 4) (.kI 48271)) (.bin .mul (.kI 974711) (.v 5))) (.kI 12345))) (.kI 2147483647))) (.cons (.set 7 false (.bin .mod (.b1 .int (.bin .mul (.v 4) (.bin .add (.bin .fdiv (.v 4) (.kI 65537)) (.kI 3)))) (.kI 2147483629))) (.cons (.me .append 2 none (.cons (.bin .mod (.bin .fdiv (.v 7) (.kI 19)) (.idx (.v 1) (.v 5))) .nil)) .nil)))) (.cons (.frz [2] (.ret (.v 2))) .nil))))))
def f_Ldigits : List D → R D := runD n_Ldigits 2 b_Ldigits
theorem k_Ldigits : chkD n_Ldigits 2 b_Ldigits (src 34) = true := by decide +kernel
def n_Lcell : List Str := ["_law_script", "_law_k", "_law_seed", "_law_cell_here"]
def b_Lcell : ISs := (.cons (.ifs (.cmp .lt (.v 1) (.b1 .len (.v 0))) (.cons (.ret (.idx (.v 0) (.v 1))) .nil) .nil) (.cons (.set 2 false (.kI 17)) (.cons (.fors [] (.nm 3) (.any (.v 0)) (.cons (.set 2 false (.bin .mod (.b1 .int (.bin .add (.bin .mul (.v 2) (.kI 31)) (.bin .mod (.b1 .int (.v 3)) (.kI 1000003)))) (.kI 1000003))) .nil)) (.cons (.ret (.bin .mod (.b1 .int (.bin .mul (.bin .mul (.bin .add (.v 2) (.kI 7)) (.bin .add (.v 1) (.kI 3))) (.kI 69621))) (.kI 2147483647))) .nil))))
def f_Lcell : List D → R D := runD n_Lcell 2 b_Lcell
theorem k_Lcell : chkD n_Lcell 2 b_Lcell (src 33) = true := by decide +kernel
def n_Lwide : List Str := ["_law_row", "_law_names_here", "_law_steps", "_law_leaves", "_law_k", "_law_piece", "_law_many", "_law_one", "_law_two"]
def b_Lwide : ISs := (.cons (.set 2 true (.lst .nil)) (.cons (.set 3 false (.bin .add (.kI 2) (.idx (.v 0) (.kI 0)))) (.cons (.fors [2] (.nm 4) (.rng1 (.v 3)) (.cons (.me .append 2 none (.cons (.tup (.cons (.kS "input") (.cons (.idx (.v 1) (.bin .mod (.v 4) (.b1 .len (.v 1)))) .nil))) .nil)) .nil)) (.cons (.fors [2] (.nm 4) (.rng1 (.idx (.lst (.cons (.kI 9) (.cons (.kI 12) (.cons (.kI 6) (.cons (.kI 14) (.cons (.kI 10) (.cons (.kI 16) (.cons (.kI 4) (.cons (.kI 11) .nil))))))))) (.idx (.v 0) (.kI 1)))) (.cons (.set 5 false (.slice (.v 0) (.some (.bin .add (.kI 2) (.bin .mul (.kI 3) (.v 4)))) (.some (.bin .add (.kI 5) (.bin .mul (.kI 3) (.v 4)))))) (.cons (.set 6 false (.b1 .len (.v 2))) (.cons (.set 7 false (.bin .mod (.b1 .int (.idx (.v 5) (.kI 1))) (.v 3))) (.cons (.ifs (.cmp .«in» (.idx (.v 5) (.kI 0)) (.tup (.cons (.kI 1) (.cons (.kI 2) (.cons (.kI 3) .nil))))) (.cons (.set 7 false (.bin .mod (.b1 .int (.idx (.v 5) (.kI 1))) (.v 6))) .nil) .nil) (.cons (.ifs (.cmp .«in» (.idx (.v 5) (.kI 0)) (.tup (.cons (.kI 4) (.cons (.kI 5) .nil)))) (.cons (.set 7 false (.bin .sub (.bin .sub (.v 6) (.kI 1)) (.bin .mod (.b1 .int (.idx (.v 5) (.kI 1))) (.b2 .min (.v 6) (.kI 3))))) .nil) .nil) (.cons (.set 8 false (.bin .mod (.b1 .int (.idx (.v 5) (.kI 2))) (.v 3))) (.cons (.ifs (.cmp .«in» (.idx (.v 5) (.kI 0)) (.tup (.cons (.kI 2) (.cons (.kI 3) (.cons (.kI 6) .nil))))) (.cons (.set 8 false (.bin .mod (.b1 .int (.idx (.v 5) (.kI 2))) (.v 6))) .nil) .nil) (.cons (.me .append 2 none (.cons (.tup (.cons (.idx (.lst (.cons (.kS "plus") (.cons (.kS "times") .nil))) (.bin .mod (.b1 .int (.bin .add (.idx (.v 5) (.kI 0)) (.idx (.v 5) (.kI 2)))) (.kI 2))) (.cons (.v 7) (.cons (.v 8) .nil)))) .nil)) .nil))))))))) (.cons (.ret (.b1 .tuple (.v 2))) .nil)))))
def f_Lwide : List D → R D := runD n_Lwide 2 b_Lwide
theorem k_Lwide : chkD n_Lwide 2 b_Lwide (src 37) = true := by decide +kernel
def n_Lnames : List Str := ["_law_digit", "_law_menu", "_law_k"]
def b_Lnames : ISs := (.cons (.set 1 false (.lst (.cons (.kS "a") (.cons (.kS "x[10]") (.cons (.kS "b") (.cons (.kS "x[2]") (.cons (.kS "ab") (.cons (.kS "z") (.cons (.kS "a1") (.cons (.kS "x[2,-1]") .nil)))))))))) (.cons (.ret (.comp [("_law_k", 2)] (.nm 2) (.rng1 (.kI 4)) .none (.idx (.v 1) (.bin .mod (.b1 .int (.bin .add (.v 0) (.bin .mul (.kI 3) (.v 2)))) (.kI 8))))) .nil))
def f_Lnames : List D → R D := runD n_Lnames 1 b_Lnames
theorem k_Lnames : chkD n_Lnames 1 b_Lnames (src 36) = true := by decide +kernel
def n_Llate_leaves : List Str := ["_law_steps", "_law_row", "_law_order", "_law_k", "_law_found", "_law_step", "_law_one"]
def b_Llate_leaves : ISs := (.cons (.ifs (.cmp .eq (.idx (.v 1) (.kI 0)) (.kI 0)) (.cons (.ret (.v 0)) .nil) .nil) (.cons (.set 2 true (.lst .nil)) (.cons (.fors [2] (.nm 3) (.rng1 (.b1 .len (.v 0))) (.cons (.ifs (.cmp .«in» (.idx (.idx (.v 0) (.v 3)) (.kI 0)) (.tup (.cons (.kS "plus") (.cons (.kS "times") .nil)))) (.cons (.fors [2] (.nm 6) (.any (.tup (.cons (.idx (.idx (.v 0) (.v 3)) (.kI 1)) (.cons (.idx (.idx (.v 0) (.v 3)) (.kI 2)) (.cons (.v 3) .nil))))) (.cons (.ifs (.cmp .notin (.v 6) (.v 2)) (.cons (.me .append 2 none (.cons (.v 6) .nil)) .nil) .nil) .nil)) .nil) .nil) .nil)) (.cons (.set 2 true (.bin .add (.v 2) (.comp [("_law_k", 3)] (.nm 3) (.rng1 (.b1 .len (.v 0))) (.some (.cmp .notin (.v 3) (.v 2))) (.v 3)))) (.cons (.set 4 true (.lst .nil)) (.cons (.frz [2] (.fors [4] (.nm 3) (.any (.v 2)) (.cons (.set 5 false (.idx (.v 0) (.v 3))) (.cons (.ifs (.cmp .«in» (.idx (.v 5) (.kI 0)) (.tup (.cons (.kS "plus") (.cons (.kS "times") .nil)))) (.cons (.set 5 false (.tup (.cons (.idx (.v 5) (.kI 0)) (.cons (.ixOf ((.v 2)) ((.idx (.v 5) (.kI 1)))) (.cons (.ixOf ((.v 2)) ((.idx (.v 5) (.kI 2)))) .nil))))) .nil) (.cons (.ifs (.and (.cons (.cmp .gt (.v 3) (.kI 0)) (.cons (.cmp .lt (.idx (.v 1) (.bin .add (.kI 1) (.v 3))) (.kI 3)) .nil))) (.cons (.set 5 false (.tup (.cons (.kS "number") (.cons (.idx (.v 1) (.bin .add (.kI 1) (.v 3))) .nil)))) .nil) .nil) .nil)) (.cons (.me .append 4 none (.cons (.v 5) .nil)) .nil))))) (.cons (.ret (.b1 .tuple (.v 4))) .nil)))))))
def f_Llate_leaves : List D → R D := runD n_Llate_leaves 2 b_Llate_leaves
theorem k_Llate_leaves : chkD n_Llate_leaves 2 b_Llate_leaves (src 43) = true := by decide +kernel
def n_Llate : List Str := ["_law_row", "_law_hands", "_law_late_here", "_law_k"]
def b_Llate : ISs := (.cons (.set 2 false (.comp [("_law_k", 3)] (.nm 3) (.rng1 (.idx (.lst (.cons (.kI 0) (.cons (.kI 3) (.cons (.kI 8) (.cons (.kI 1) (.cons (.kI 5) (.cons (.kI 2) .nil))))))) (.idx (.v 0) (.kI 0)))) .none (.bin .mod (.b1 .int (.idx (.v 0) (.bin .add (.kI 1) (.v 3)))) (.bin .add (.v 1) (.kI 1))))) (.cons (.ifs (.cmp .eq (.idx (.v 0) (.kI 0)) (.kI 3)) (.cons (.set 2 false (.bin .add (.comp [("_law_k", 3)] (.nm 3) (.rng1 (.bin .mod (.b1 .int (.idx (.v 0) (.kI 2))) (.kI 12))) .none (.v 1)) (.v 2))) .nil) .nil) (.cons (.ret (.v 2)) .nil)))
def f_Llate : List D → R D := runD n_Llate 2 b_Llate
theorem k_Llate : chkD n_Llate 2 b_Llate (src 38) = true := by decide +kernel
def n_frozen : List Str := ["value", "item"]
def b_frozen (f : List D → R D) : ISs := (.cons (.ifs (.or (.cons (.b1 (.isi .list) (.v 0)) (.cons (.b1 (.isi .tuple) (.v 0)) .nil))) (.cons (.ret (.b1 .tuple (.comp [("item", 1)] (.nm 1) (.any (.v 0)) .none (.call "frozen" f (.cons (.v 1) .nil))))) .nil) .nil) (.cons (.ret (.v 0)) .nil))
def f_frozen : List D → R D := fixD n_frozen 1 b_frozen 8
theorem k_frozen : (fun f : List D → R D => chkD n_frozen 1 (b_frozen f) (src 13)) = fun _ => true := by kernel_rfl
def n_consists_of : List Str := ["text", "signs", "char"]
def b_consists_of : ISs := (.cons (.fors [] (.nm 2) (.any (.v 0)) (.cons (.ifs (.cmp .notin (.v 2) (.v 1)) (.cons (.ret (.kB false)) .nil) .nil) .nil)) (.cons (.ret (.kB true)) .nil))
def f_consists_of : List D → R D := runD n_consists_of 2 b_consists_of
theorem k_consists_of : chkD n_consists_of 2 b_consists_of (src 10) = true := by decide +kernel
def n_is_name : List Str := ["value"]
def b_is_name : ISs := (.cons (.ifs (.or (.cons (.not (.b1 (.isi .str) (.v 0))) (.cons (.not (.chain .le .le (.kI 1) (.b1 .len (.v 0)) (.glob "NAME_LENGTH" (.int 40)))) .nil))) (.cons (.ret (.kB false)) .nil) .nil) (.cons (.ret (.and (.cons (.cmp .«in» (.idx (.v 0) (.kI 0)) (.glob "LETTERS" (.str "abcdefghijklmnopqrstuvwxyz"))) (.cons (.call "consists_of" f_consists_of (.cons (.v 0) (.cons (.glob "NAME_SIGNS" (.str "abcdefghijklmnopqrstuvwxyz0123456789[],-")) .nil))) .nil)))) .nil))
def f_is_name : List D → R D := runD n_is_name 1 b_is_name
theorem k_is_name : chkD n_is_name 1 b_is_name (src 11) = true := by decide +kernel
def n_is_whole : List Str := ["value"]
def b_is_whole : ISs := (.cons (.ret (.and (.cons (.b1 (.isi .int) (.v 0)) (.cons (.not (.b1 (.isi .bool) (.v 0))) .nil)))) .nil)
def f_is_whole : List D → R D := runD n_is_whole 1 b_is_whole
theorem k_is_whole : chkD n_is_whole 1 b_is_whole (src 14) = true := by decide +kernel
def n_is_index : List Str := ["value", "many"]
def b_is_index : ISs := (.cons (.ret (.and (.cons (.call "is_whole" f_is_whole (.cons (.v 0) .nil)) (.cons (.chain .le .lt (.kI 0) (.v 0) (.v 1)) .nil)))) .nil)
def f_is_index : List D → R D := runD n_is_index 2 b_is_index
theorem k_is_index : chkD n_is_index 2 b_is_index (src 15) = true := by decide +kernel
def n_step_is_right : List Str := ["step", "index"]
def b_step_is_right : ISs := (.cons (.ifs (.or (.cons (.not (.b1 (.isi .tuple) (.v 0))) (.cons (.cmp .lt (.b1 .len (.v 0)) (.kI 2)) (.cons (.not (.b1 (.isi .str) (.idx (.v 0) (.kI 0)))) .nil)))) (.cons (.ret (.kB false)) .nil) .nil) (.cons (.ifs (.cmp .eq (.idx (.v 0) (.kI 0)) (.kS "input")) (.cons (.ret (.and (.cons (.cmp .eq (.b1 .len (.v 0)) (.kI 2)) (.cons (.call "is_name" f_is_name (.cons (.idx (.v 0) (.kI 1)) .nil)) .nil)))) .nil) .nil) (.cons (.ifs (.cmp .eq (.idx (.v 0) (.kI 0)) (.kS "number")) (.cons (.ret (.and (.cons (.cmp .eq (.b1 .len (.v 0)) (.kI 2)) (.cons (.call "is_whole" f_is_whole (.cons (.idx (.v 0) (.kI 1)) .nil)) (.cons (.cmp .ge (.idx (.v 0) (.kI 1)) (.kI 0)) .nil))))) .nil) .nil) (.cons (.ifs (.or (.cons (.cmp .eq (.idx (.v 0) (.kI 0)) (.kS "plus")) (.cons (.cmp .eq (.idx (.v 0) (.kI 0)) (.kS "times")) .nil))) (.cons (.ret (.and (.cons (.cmp .eq (.b1 .len (.v 0)) (.kI 3)) (.cons (.call "is_index" f_is_index (.cons (.idx (.v 0) (.kI 1)) (.cons (.v 1) .nil))) (.cons (.call "is_index" f_is_index (.cons (.idx (.v 0) (.kI 2)) (.cons (.v 1) .nil))) .nil))))) .nil) .nil) (.cons (.ret (.kB false)) .nil)))))
def f_step_is_right : List D → R D := runD n_step_is_right 2 b_step_is_right
theorem k_step_is_right : chkD n_step_is_right 2 b_step_is_right (src 17) = true := by decide +kernel
def n_iStraight : List Str := ["self", "steps", "outputs", "kept", "aims", "index", "step", "position", "output"]
def b_iStraight : List II := [.st (.set 3 false (.call "frozen" f_frozen (.cons (.v 1) .nil))), .st (.fors [0, 1000] (.tup [5, 6]) (.enum (.v 3)) (.cons (.ifs (.not (.call "step_is_right" f_step_is_right (.cons (.v 6) (.cons (.v 5) .nil)))) (.cons (.nev) .nil) .nil) .nil)), .st (.set 4 false (.call "frozen" f_frozen (.cons (.v 2) .nil))), .st (.fors [0, 1000] (.tup [7, 8]) (.enum (.v 4)) (.cons (.ifs (.not (.call "is_index" f_is_index (.cons (.v 8) (.cons (.b1 .len (.v 3)) .nil)))) (.cons (.nev) .nil) .nil) .nil)), .put "steps" (.v 3), .put "outputs" (.v 4)]
def f_iStraight : List D → R D := initD "Straight" n_iStraight 2 b_iStraight
theorem k_iStraight : chkN n_iStraight 2 b_iStraight (srcM 21 0) = true := by decide +kernel
def n_Lwhole : List Str := ["_law_value"]
def b_Lwhole : ISs := (.cons (.ret (.and (.cons (.b1 (.isi .int) (.v 0)) (.cons (.not (.b1 (.isi .bool) (.v 0))) .nil)))) .nil)
def f_Lwhole : List D → R D := runD n_Lwhole 1 b_Lwhole
theorem k_Lwhole : chkD n_Lwhole 1 b_Lwhole (src 32) = true := by decide +kernel
def n_Lsame : List Str := ["_law_told", "_law_due", "_law_k"]
def b_Lsame (f : List D → R D) : ISs := (.cons (.ifs (.b1 (.isi .tuple) (.v 1)) (.cons (.ifs (.or (.cons (.not (.b1 (.isi .tuple) (.v 0))) (.cons (.cmp .ne (.b1 .len (.v 0)) (.b1 .len (.v 1))) .nil))) (.cons (.ret (.kB false)) .nil) .nil) (.cons (.fors [] (.nm 2) (.rng1 (.b1 .len (.v 1))) (.cons (.ifs (.not (.call "_law_same" f (.cons (.idx (.v 0) (.v 2)) (.cons (.idx (.v 1) (.v 2)) .nil)))) (.cons (.ret (.kB false)) .nil) .nil) .nil)) (.cons (.ret (.kB true)) .nil))) .nil) (.cons (.ifs (.isN (.v 1)) (.cons (.ret (.isN (.v 0))) .nil) .nil) (.cons (.ifs (.isB true (.v 1)) (.cons (.ret (.isB true (.v 0))) .nil) .nil) (.cons (.ifs (.isB false (.v 1)) (.cons (.ret (.isB false (.v 0))) .nil) .nil) (.cons (.ifs (.b1 (.isi .str) (.v 1)) (.cons (.ret (.and (.cons (.b1 (.isi .str) (.v 0)) (.cons (.cmp .eq (.v 0) (.v 1)) .nil)))) .nil) .nil) (.cons (.ret (.and (.cons (.call "_law_whole" f_Lwhole (.cons (.v 0) .nil)) (.cons (.cmp .eq (.v 0) (.v 1)) .nil)))) .nil))))))
def f_Lsame : List D → R D := fixD n_Lsame 2 b_Lsame 8
theorem k_Lsame : (fun f : List D → R D => chkD n_Lsame 2 (b_Lsame f) (src 35)) = fun _ => true := by kernel_rfl
def n_Lready : List Str := ["_law_steps", "_law_done", "_law_found", "_law_k", "_law_side"]
def b_Lready : ISs := (.cons (.set 2 true (.lst .nil)) (.cons (.fors [2] (.nm 3) (.rng1 (.b1 .len (.v 0))) (.cons (.ifs (.and (.cons (.cmp .«in» (.idx (.idx (.v 0) (.v 3)) (.kI 0)) (.tup (.cons (.kS "plus") (.cons (.kS "times") .nil)))) (.cons (.cmp .notin (.v 3) (.v 1)) .nil))) (.cons (.ifs (.cmp .notin (.kB false) (.comp [("_law_side", 4)] (.nm 4) (.any (.tup (.cons (.idx (.idx (.v 0) (.v 3)) (.kI 1)) (.cons (.idx (.idx (.v 0) (.v 3)) (.kI 2)) .nil)))) .none (.or (.cons (.cmp .«in» (.v 4) (.v 1)) (.cons (.cmp .«in» (.idx (.idx (.v 0) (.v 4)) (.kI 0)) (.tup (.cons (.kS "input") (.cons (.kS "number") .nil)))) .nil))))) (.cons (.me .append 2 none (.cons (.v 3) .nil)) .nil) .nil) .nil) .nil) .nil)) (.cons (.frz [2] (.ret (.v 2))) .nil)))
def f_Lready : List D → R D := runD n_Lready 2 b_Lready
theorem k_Lready : chkD n_Lready 2 b_Lready (src 39) = true := by decide +kernel
def n_is_inner : List Str := ["step"]
def b_is_inner : ISs := (.cons (.ret (.or (.cons (.cmp .eq (.idx (.v 0) (.kI 0)) (.kS "plus")) (.cons (.cmp .eq (.idx (.v 0) (.kI 0)) (.kS "times")) .nil)))) .nil)
def f_is_inner : List D → R D := runD n_is_inner 1 b_is_inner
theorem k_is_inner : chkD n_is_inner 1 b_is_inner (src 18) = true := by decide +kernel
def n_are_done : List Str := ["step", "steps", "done", "side"]
def b_are_done : ISs := (.cons (.ret (.b1 .all (.comp [("side", 3)] (.nm 3) (.any (.tup (.cons (.idx (.v 0) (.kI 1)) (.cons (.idx (.v 0) (.kI 2)) .nil)))) .none (.or (.cons (.cmp .«in» (.v 3) (.v 2)) (.cons (.not (.call "is_inner" f_is_inner (.cons (.idx (.v 1) (.v 3)) .nil))) .nil)))))) .nil)
def f_are_done : List D → R D := runD n_are_done 3 b_are_done
theorem k_are_done : chkD n_are_done 3 b_are_done (src 25) = true := by decide +kernel
def n_ready_indexes : List Str := ["steps", "done", "found", "index", "step"]
def b_ready_indexes : ISs := (.cons (.set 2 true (.lst .nil)) (.cons (.fors [2] (.tup [3, 4]) (.enum (.v 0)) (.cons (.ifs (.and (.cons (.call "is_inner" f_is_inner (.cons (.v 4) .nil)) (.cons (.cmp .notin (.v 3) (.v 1)) (.cons (.call "are_done" f_are_done (.cons (.v 4) (.cons (.v 0) (.cons (.v 1) .nil)))) .nil)))) (.cons (.me .append 2 none (.cons (.v 3) .nil)) .nil) .nil) .nil)) (.cons (.frz [2] (.ret (.v 2))) .nil)))
def f_ready_indexes : List D → R D := runD n_ready_indexes 2 b_ready_indexes
theorem k_ready_indexes : chkD n_ready_indexes 2 b_ready_indexes (src 26) = true := by decide +kernel
def n_ready_steps : List Str := ["program", "done", "index"]
def b_ready_steps : ISs := (.cons (.ret (.b1 .tuple (.call "ready_indexes" f_ready_indexes (.cons (.fld ["Straight"] "steps" (.v 0)) (.cons (.dcomp [("index", 2)] (.nm 2) (.any (.v 1)) .none (.v 2) (.kB true)) .nil))))) .nil)
def f_ready_steps : List D → R D := runD n_ready_steps 2 b_ready_steps
theorem k_ready_steps : chkD n_ready_steps 2 b_ready_steps (src 29) = true := by decide +kernel
def n_Ltaken : List Str := ["_law_ready_here", "_law_many", "_law_picks", "_law_used", "_law_left", "_law_taken_here", "_law_k", "_law_pick"]
def b_Ltaken : ISs := (.cons (.set 4 true (.b1 .list (.v 0))) (.cons (.set 5 true (.lst .nil)) (.cons (.fors [4, 5] (.nm 6) (.rng1 (.b2 .min (.v 1) (.b1 .len (.v 0)))) (.cons (.set 7 false (.kI 0)) (.cons (.ifs (.cmp .gt (.b1 .len (.v 2)) (.kI 0)) (.cons (.set 7 false (.idx (.v 2) (.bin .mod (.b1 .int (.bin .add (.v 3) (.v 6))) (.b1 .len (.v 2))))) .nil) .nil) (.cons (.apPop 5 4 (.cons (.bin .mod (.b1 .int (.v 7)) (.b1 .len (.v 4))) .nil)) .nil)))) (.cons (.ret (.b1 .sorted (.v 5))) .nil))))
def f_Ltaken : List D → R D := runD n_Ltaken 4 b_Ltaken
theorem k_Ltaken : chkD n_Ltaken 4 b_Ltaken (src 41) = true := by decide +kernel
def n_Lworking : List Str := ["_law_hands", "_law_late_here", "_law_turn"]
def b_Lworking : ISs := (.cons (.ifs (.cmp .lt (.v 2) (.b1 .len (.v 1))) (.cons (.ret (.bin .sub (.v 0) (.idx (.v 1) (.v 2)))) .nil) .nil) (.cons (.ret (.v 0)) .nil))
def f_Lworking : List D → R D := runD n_Lworking 3 b_Lworking
theorem k_Lworking : chkD n_Lworking 3 b_Lworking (src 40) = true := by decide +kernel
def n_Lrun : List Str := ["_law_steps", "_law_hands", "_law_late_here", "_law_picks", "_law_work", "_law_done", "_law_rounds", "_law_turn", "_law_taken_here", "_law_k", "_law_step"]
def b_Lrun : ISs := (.cons (.set 4 false (.b1 .len (.comp [("_law_step", 10)] (.nm 10) (.any (.v 0)) (.some (.cmp .«in» (.idx (.v 10) (.kI 0)) (.tup (.cons (.kS "plus") (.cons (.kS "times") .nil))))) (.v 10)))) (.cons (.set 5 true (.dnil)) (.cons (.set 6 true (.lst .nil)) (.cons (.fors [5, 6] (.nm 7) (.rng1 (.kI 1000000)) (.cons (.ifs (.cmp .ge (.b1 .len (.v 5)) (.v 4)) (.cons (.brk) .nil) .nil) (.cons (.set 8 false (.call "_law_taken" f_Ltaken (.cons (.lend 5 (.call "_law_ready" f_Lready (.cons (.v 0) (.cons (.v 5) .nil)))) (.cons (.call "_law_working" f_Lworking (.cons (.v 1) (.cons (.v 2) (.cons (.v 7) .nil)))) (.cons (.v 3) (.cons (.b1 .len (.v 5)) .nil)))))) (.cons (.fors [5, 6] (.nm 9) (.any (.v 8)) (.cons (.setd 5 (.v 9) (.kB true)) .nil)) (.cons (.me .append 6 none (.cons (.v 8) .nil)) .nil))))) (.cons (.frz [6] (.ret (.v 6))) .nil)))))
def f_Lrun : List D → R D := runD n_Lrun 4 b_Lrun
theorem k_Lrun : chkD n_Lrun 4 b_Lrun (src 42) = true := by decide +kernel
def n_work_of : List Str := ["program", "step"]
def b_work_of : ISs := (.cons (.ret (.b1 .len (.comp [("step", 1)] (.nm 1) (.any (.fld ["Straight"] "steps" (.v 0))) (.some (.call "is_inner" f_is_inner (.cons (.v 1) .nil))) (.v 1)))) .nil)
def f_work_of : List D → R D := runD n_work_of 1 b_work_of
theorem k_work_of : chkD n_work_of 1 b_work_of (src 23) = true := by decide +kernel
def n_taken_steps : List Str := ["ready", "many", "picks", "used", "left", "taken", "turn", "pick"]
def b_taken_steps : ISs := (.cons (.set 4 true (.b1 .list (.v 0))) (.cons (.set 5 true (.lst .nil)) (.cons (.fors [4, 5] (.nm 6) (.rng1 (.b2 .min (.v 1) (.b1 .len (.v 4)))) (.cons (.set 7 false (.kI 0)) (.cons (.ifs (.v 2) (.cons (.set 7 false (.idx (.v 2) (.bin .mod (.bin .add (.v 3) (.v 6)) (.b1 .len (.v 2))))) .nil) .nil) (.cons (.apPop 5 4 (.cons (.bin .mod (.v 7) (.b1 .len (.v 4))) .nil)) .nil)))) (.cons (.ret (.b1 .sorted (.v 5))) .nil))))
def f_taken_steps : List D → R D := runD n_taken_steps 4 b_taken_steps
theorem k_taken_steps : chkD n_taken_steps 4 b_taken_steps (src 27) = true := by decide +kernel
def n_working_hands : List Str := ["hands", "late", "turn"]
def b_working_hands : ISs := (.cons (.ifs (.cmp .lt (.v 2) (.b1 .len (.v 1))) (.cons (.ret (.bin .sub (.v 0) (.idx (.v 1) (.v 2)))) .nil) .nil) (.cons (.ret (.v 0)) .nil))
def f_working_hands : List D → R D := runD n_working_hands 3 b_working_hands
theorem k_working_hands : chkD n_working_hands 3 b_working_hands (src 28) = true := by decide +kernel
def fuel_run_rounds_0 (st : SD) : Nat := 100000
def n_run_rounds : List Str := ["program", "hands", "late", "picks", "done", "rounds", "used", "ready", "taken", "index"]
def b_run_rounds : ISs := (.cons (.set 4 true (.dnil)) (.cons (.set 5 true (.lst .nil)) (.cons (.set 6 false (.kI 0)) (.cons (.whiles [4, 5] (fuel_run_rounds_0) (.cmp .lt (.b1 .len (.v 4)) (.call "work_of" f_work_of (.cons (.v 0) .nil))) (.cons (.set 7 false (.lend 4 (.call "ready_indexes" f_ready_indexes (.cons (.fld ["Straight"] "steps" (.v 0)) (.cons (.v 4) .nil))))) (.cons (.set 8 false (.call "taken_steps" f_taken_steps (.cons (.v 7) (.cons (.call "working_hands" f_working_hands (.cons (.v 1) (.cons (.v 2) (.cons (.b1 .len (.v 5)) .nil)))) (.cons (.v 3) (.cons (.v 6) .nil)))))) (.cons (.set 6 false (.bin .add (.v 6) (.b1 .len (.v 8)))) (.cons (.fors [4, 5] (.nm 9) (.any (.v 8)) (.cons (.setd 4 (.v 9) (.kB true)) .nil)) (.cons (.me .append 5 none (.cons (.b1 .tuple (.v 8)) .nil)) .nil)))))) (.cons (.ret (.b1 .tuple (.v 5))) .nil)))))
def f_run_rounds : List D → R D := runD n_run_rounds 4 b_run_rounds
theorem k_run_rounds : chkD n_run_rounds 4 b_run_rounds (src 30) = true := by decide +kernel
def f_run_rounds_k_late_picks : List D → R D := fun ds => runD n_run_rounds 4 b_run_rounds ((fun ds es => ds ++ es) (List.take 2 ds) (List.drop 2 ds))
def f_run_rounds_b : List D → R D := fun ds => if ds.length = 2 then runD n_run_rounds 4 b_run_rounds (ds ++ [(.tup []), (.tup [])]) else .un
def f_run_rounds_k_picks : List D → R D := fun ds => runD n_run_rounds 4 b_run_rounds ((fun (ds es : List D) => ds ++ [(.tup []), (es[0]?).getD .non]) (List.take 2 ds) (List.drop 2 ds))
def n_law : List Str := ["_law_script", "_law_shape", "_law_steps", "_law_more", "_law_hands", "_law_late_row", "_law_chosen", "_law_inner", "_law_program", "_law_drawn", "_law_given", "_law_due", "_law_rows", "_law_picked", "_law_done", "_law_turn", "_law_k"]
def b_law : ISs := (.cons (.set 1 false (.call "_law_digits" f_Ldigits (.cons (.call "_law_cell" f_Lcell (.cons (.v 0) (.cons (.kI 1) .nil))) (.cons (.bin .add (.lst (.cons (.kI 8) (.cons (.kI 12) (.cons (.kI 2) .nil)))) (.bin .rep (.lst (.cons (.kI 8) .nil)) (.kI 4))) .nil)))) (.cons (.set 2 false (.call "_law_wide" f_Lwide (.cons (.call "_law_digits" f_Ldigits (.cons (.call "_law_cell" f_Lcell (.cons (.v 0) (.cons (.kI 0) .nil))) (.cons (.bin .add (.lst (.cons (.kI 3) (.cons (.kI 8) .nil))) (.bin .rep (.lst (.cons (.kI 8) (.cons (.kI 12) (.cons (.kI 20) .nil)))) (.kI 16))) .nil))) (.cons (.call "_law_names" f_Lnames (.cons (.idx (.v 1) (.kI 0)) .nil)) .nil)))) (.cons (.ifs (.cmp .eq (.idx (.v 1) (.kI 1)) (.kI 0)) (.cons (.set 2 false (.slice (.v 2) .none (.some (.kI 2)))) .nil) .nil) (.cons (.set 2 false (.call "_law_late_leaves" f_Llate_leaves (.cons (.v 2) (.cons (.slice (.v 1) (.some (.kI 2)) .none) .nil)))) (.cons (.set 3 false (.call "_law_digits" f_Ldigits (.cons (.call "_law_cell" f_Lcell (.cons (.v 0) (.cons (.kI 2) .nil))) (.cons (.bin .add (.lst (.cons (.kI 9) (.cons (.kI 6) (.cons (.kI 3) .nil)))) (.bin .rep (.lst (.cons (.kI 20) .nil)) (.kI 8))) .nil)))) (.cons (.set 4 false (.idx (.lst (.cons (.kI 1) (.cons (.kI 2) (.cons (.kI 3) (.cons (.kI 2) (.cons (.kI 4) (.cons (.kI 5) (.cons (.kI 9) (.cons (.kI 3) (.cons (.kI 100) .nil)))))))))) (.idx (.v 3) (.kI 0)))) (.cons (.set 5 false (.call "_law_late" f_Llate (.cons (.call "_law_digits" f_Ldigits (.cons (.call "_law_cell" f_Lcell (.cons (.v 0) (.cons (.kI 3) .nil))) (.cons (.bin .add (.lst (.cons (.kI 6) .nil)) (.bin .rep (.lst (.cons (.kI 12) .nil)) (.kI 8))) .nil))) (.cons (.v 4) .nil)))) (.cons (.set 5 false (.bin .rep (.v 5) (.idx (.lst (.cons (.kI 8) (.cons (.kI 1) (.cons (.kI 1) (.cons (.kI 1) (.cons (.kI 1) (.cons (.kI 1) .nil))))))) (.idx (.call "_law_digits" f_Ldigits (.cons (.call "_law_cell" f_Lcell (.cons (.v 0) (.cons (.kI 3) .nil))) (.cons (.bin .add (.bin .add (.lst (.cons (.kI 6) .nil)) (.bin .rep (.lst (.cons (.kI 12) .nil)) (.kI 8))) (.lst (.cons (.kI 6) .nil))) .nil))) (.kI 9))))) (.cons (.set 6 false (.comp [("_law_k", 16)] (.nm 16) (.rng1 (.idx (.v 3) (.kI 1))) .none (.idx (.call "_law_digits" f_Ldigits (.cons (.call "_law_cell" f_Lcell (.cons (.v 0) (.cons (.bin .add (.kI 4) (.v 16)) .nil))) (.cons (.lst (.cons (.bin .pow (.kI 10) (.kI 9)) .nil)) .nil))) (.kI 0)))) (.cons (.set 7 false (.comp [("_law_k", 16)] (.nm 16) (.rng1 (.b1 .len (.v 2))) (.some (.cmp .«in» (.idx (.idx (.v 2) (.v 16)) (.kI 0)) (.tup (.cons (.kS "plus") (.cons (.kS "times") .nil))))) (.v 16))) (.cons (.set 8 false (.mk "Straight" f_iStraight (.cons (.v 2) (.cons (.tup (.cons (.bin .sub (.b1 .len (.v 2)) (.kI 1)) .nil)) .nil)))) (.cons (.set 9 false (.lst .nil)) (.cons (.ifs (.cmp .gt (.b1 .len (.v 7)) (.kI 0)) (.cons (.set 9 false (.comp [("_law_k", 16)] (.nm 16) (.rng1 (.bin .add (.b1 .int (.idx (.v 3) (.kI 2))) (.bin .mod (.b1 .int (.idx (.v 3) (.kI 3))) (.kI 6)))) .none (.idx (.v 7) (.bin .mod (.b1 .int (.idx (.v 3) (.bin .add (.kI 3) (.v 16)))) (.b1 .len (.v 7)))))) .nil) .nil) (.cons (.set 10 false (.b1 .list (.v 9))) (.cons (.ifs (.or (.cons (.not (.call "_law_same" f_Lsame (.cons (.call "ready_steps" f_ready_steps (.cons (.v 8) (.cons (.v 10) .nil))) (.cons (.b1 .tuple (.call "_law_ready" f_Lready (.cons (.v 2) (.cons (.v 9) .nil)))) .nil)))) (.cons (.cmp .ne (.v 10) (.v 9)) .nil))) (.cons (.ret (.kB false)) .nil) .nil) (.cons (.set 11 false (.call "_law_run" f_Lrun (.cons (.v 2) (.cons (.v 4) (.cons (.v 5) (.cons (.v 6) .nil)))))) (.cons (.set 12 false (.b1 .tuple (.comp [("_law_turn", 15)] (.nm 15) (.any (.v 11)) .none (.b1 .tuple (.v 15))))) (.cons (.set 10 false (.b1 .list (.v 5))) (.cons (.set 13 false (.b1 .list (.v 6))) (.cons (.ifs (.or (.cons (.not (.call "_law_same" f_Lsame (.cons (.callK "run_rounds" ["late", "picks"] f_run_rounds_k_late_picks (.cons (.v 8) (.cons (.v 4) .nil)) (.cons (.v 10) (.cons (.b1 .tuple (.v 6)) .nil))) (.cons (.v 12) .nil)))) (.cons (.cmp .ne (.v 10) (.v 5)) .nil))) (.cons (.ret (.kB false)) .nil) .nil) (.cons (.ifs (.or (.cons (.not (.call "_law_same" f_Lsame (.cons (.callK "run_rounds" ["late", "picks"] f_run_rounds_k_late_picks (.cons (.v 8) (.cons (.v 4) .nil)) (.cons (.b1 .tuple (.v 5)) (.cons (.v 13) .nil))) (.cons (.v 12) .nil)))) (.cons (.cmp .ne (.v 13) (.v 6)) .nil))) (.cons (.ret (.kB false)) .nil) .nil) (.cons (.ifs (.not (.call "_law_same" f_Lsame (.cons (.call "run_rounds" f_run_rounds_b (.cons (.v 8) (.cons (.v 4) .nil))) (.cons (.b1 .tuple (.comp [("_law_turn", 15)] (.nm 15) (.any (.call "_law_run" f_Lrun (.cons (.v 2) (.cons (.v 4) (.cons (.lst .nil) (.cons (.lst .nil) .nil)))))) .none (.b1 .tuple (.v 15)))) .nil)))) (.cons (.ret (.kB false)) .nil) .nil) (.cons (.ifs (.not (.call "_law_same" f_Lsame (.cons (.callK "run_rounds" ["picks"] f_run_rounds_k_picks (.cons (.v 8) (.cons (.v 4) .nil)) (.cons (.v 13) .nil)) (.cons (.b1 .tuple (.comp [("_law_turn", 15)] (.nm 15) (.any (.call "_law_run" f_Lrun (.cons (.v 2) (.cons (.v 4) (.cons (.lst .nil) (.cons (.v 6) .nil)))))) .none (.b1 .tuple (.v 15)))) .nil)))) (.cons (.ret (.kB false)) .nil) .nil) (.cons (.set 14 false (.lst .nil)) (.cons (.fors [] (.nm 15) (.any (.v 11)) (.cons (.ifs (.not (.call "_law_same" f_Lsame (.cons (.call "ready_steps" f_ready_steps (.cons (.v 8) (.cons (.b1 .tuple (.v 14)) .nil))) (.cons (.b1 .tuple (.call "_law_ready" f_Lready (.cons (.v 2) (.cons (.v 14) .nil)))) .nil)))) (.cons (.ret (.kB false)) .nil) .nil) (.cons (.set 14 false (.bin .add (.v 15) (.v 14))) .nil))) (.cons (.ret (.call "_law_same" f_Lsame (.cons (.call "ready_steps" f_ready_steps (.cons (.v 8) (.cons (.v 14) .nil))) (.cons (.tup .nil) .nil)))) .nil))))))))))))))))))))))))))
def f_law : List D → R D := runD n_law 1 b_law
theorem k_law : chkD n_law 1 b_law (src 44) = true := by decide +kernel
/-- what the top has written -/
structure Tx (w : World) (K : PySem.W.Frag) (mg : Str → Option Value) : Prop where
  blt : ∀ y ∈ bltNames, mg y = none
  a_Ldigits : DefAt K mg "_law_digits" "_law_digits" (src 34) ["_law_cell_here", "_law_sizes"]
  a_Lcell : DefAt K mg "_law_cell" "_law_cell" (src 33) ["_law_script", "_law_k"]
  a_Lwide : DefAt K mg "_law_wide" "_law_wide" (src 37) ["_law_row", "_law_names_here"]
  a_Lnames : DefAt K mg "_law_names" "_law_names" (src 36) ["_law_digit"]
  a_Llate_leaves : DefAt K mg "_law_late_leaves" "_law_late_leaves" (src 43) ["_law_steps", "_law_row"]
  a_Llate : DefAt K mg "_law_late" "_law_late" (src 38) ["_law_row", "_law_hands"]
  a_frozen : DefAt K mg "frozen" "frozen" (src 13) ["value"]
  a_consists_of : DefAt K mg "consists_of" "consists_of" (src 10) ["text", "signs"]
  a_is_name : DefAt K mg "is_name" "is_name" (src 11) ["value"]
  a_is_whole : DefAt K mg "is_whole" "is_whole" (src 14) ["value"]
  a_is_index : DefAt K mg "is_index" "is_index" (src 15) ["value", "many"]
  a_step_is_right : DefAt K mg "step_is_right" "step_is_right" (src 17) ["step", "index"]
  k_Straight : ClsAt K mg "Straight" "Straight.__init__" (srcM 21 0) ["self", "steps", "outputs"] ["steps", "outputs"]
  a_Lwhole : DefAt K mg "_law_whole" "_law_whole" (src 32) ["_law_value"]
  a_Lsame : DefAt K mg "_law_same" "_law_same" (src 35) ["_law_told", "_law_due"]
  a_Lready : DefAt K mg "_law_ready" "_law_ready" (src 39) ["_law_steps", "_law_done"]
  a_is_inner : DefAt K mg "is_inner" "is_inner" (src 18) ["step"]
  a_are_done : DefAt K mg "are_done" "are_done" (src 25) ["step", "steps", "done"]
  a_ready_indexes : DefAt K mg "ready_indexes" "ready_indexes" (src 26) ["steps", "done"]
  a_ready_steps : DefAt K mg "ready_steps" "ready_steps" (src 29) ["program", "done"]
  a_Ltaken : DefAt K mg "_law_taken" "_law_taken" (src 41) ["_law_ready_here", "_law_many", "_law_picks", "_law_used"]
  a_Lworking : DefAt K mg "_law_working" "_law_working" (src 40) ["_law_hands", "_law_late_here", "_law_turn"]
  a_Lrun : DefAt K mg "_law_run" "_law_run" (src 42) ["_law_steps", "_law_hands", "_law_late_here", "_law_picks"]
  a_work_of : DefAt K mg "work_of" "work_of" (src 23) ["program"]
  a_taken_steps : DefAt K mg "taken_steps" "taken_steps" (src 27) ["ready", "many", "picks", "used"]
  a_working_hands : DefAt K mg "working_hands" "working_hands" (src 28) ["hands", "late", "turn"]
  a_run_rounds_k_late_picks : DefAtW w K mg "run_rounds" "run_rounds" (src 30) ["program", "hands", "late", "picks"] 2 ["late", "picks"] 4 (fun ds es => ds ++ es)
  a_run_rounds_b : DefAtB w K mg "run_rounds" "run_rounds" (src 30) ["program", "hands", "late", "picks"] 2 [(.tup []), (.tup [])]
  a_run_rounds_k_picks : DefAtW w K mg "run_rounds" "run_rounds" (src 30) ["program", "hands", "late", "picks"] 2 ["picks"] 4 (fun (ds es : List D) => ds ++ [(.tup []), (es[0]?).getD .non])
  a_law : DefAt K mg "law" "law" (src 44) ["_law_script"]
  g_NAME_LENGTH : GlobD w K mg "NAME_LENGTH" (.int 40)
  g_NAME_SIGNS : GlobD w K mg "NAME_SIGNS" (.str "abcdefghijklmnopqrstuvwxyz0123456789[],-")
  g_LETTERS : GlobD w K mg "LETTERS" (.str "abcdefghijklmnopqrstuvwxyz")
section
variable {P : Program} {w : World} {K : PySem.W.Frag} {mg : Str → Option Value} {base : Heap}
theorem c_Ldigits (T : Tx w K mg) : CallD P w K mg base 1 "_law_digits" 2 f_Ldigits := by
  refine DefAt.callD (N := n_Ldigits) (n := 2) (k := 0) (body := b_Ldigits) T.a_Ldigits k_Ldigits T.blt ?_
  simp only [b_Ldigits, ObII, ObI1, ObB, ObS, ObE, ObL, ObO, ObI, and_true, true_and, and_self, List.mem_cons, List.not_mem_nil, or_false, forall_eq_or_imp, forall_eq]
  try repeat' (first | assumption | apply And.intro)
theorem c_Lcell (T : Tx w K mg) : CallD P w K mg base 1 "_law_cell" 2 f_Lcell := by
  refine DefAt.callD (N := n_Lcell) (n := 2) (k := 0) (body := b_Lcell) T.a_Lcell k_Lcell T.blt ?_
  simp only [b_Lcell, ObII, ObI1, ObB, ObS, ObE, ObL, ObO, ObI, and_true, true_and, and_self, List.mem_cons, List.not_mem_nil, or_false, forall_eq_or_imp, forall_eq]
  try repeat' (first | assumption | apply And.intro)
theorem c_Lwide (T : Tx w K mg) : CallD P w K mg base 1 "_law_wide" 2 f_Lwide := by
  refine DefAt.callD (N := n_Lwide) (n := 2) (k := 0) (body := b_Lwide) T.a_Lwide k_Lwide T.blt ?_
  simp only [b_Lwide, ObII, ObI1, ObB, ObS, ObE, ObL, ObO, ObI, and_true, true_and, and_self, List.mem_cons, List.not_mem_nil, or_false, forall_eq_or_imp, forall_eq]
  try repeat' (first | assumption | apply And.intro)
theorem c_Lnames (T : Tx w K mg) : CallD P w K mg base 1 "_law_names" 1 f_Lnames := by
  refine DefAt.callD (N := n_Lnames) (n := 1) (k := 0) (body := b_Lnames) T.a_Lnames k_Lnames T.blt ?_
  simp only [b_Lnames, ObII, ObI1, ObB, ObS, ObE, ObL, ObO, ObI, and_true, true_and, and_self, List.mem_cons, List.not_mem_nil, or_false, forall_eq_or_imp, forall_eq]
  try repeat' (first | assumption | apply And.intro)
theorem c_Llate_leaves (T : Tx w K mg) : CallD P w K mg base 1 "_law_late_leaves" 2 f_Llate_leaves := by
  refine DefAt.callD (N := n_Llate_leaves) (n := 2) (k := 0) (body := b_Llate_leaves) T.a_Llate_leaves k_Llate_leaves T.blt ?_
  simp only [b_Llate_leaves, ObII, ObI1, ObB, ObS, ObE, ObL, ObO, ObI, and_true, true_and, and_self, List.mem_cons, List.not_mem_nil, or_false, forall_eq_or_imp, forall_eq]
  try repeat' (first | assumption | apply And.intro)
theorem c_Llate (T : Tx w K mg) : CallD P w K mg base 1 "_law_late" 2 f_Llate := by
  refine DefAt.callD (N := n_Llate) (n := 2) (k := 0) (body := b_Llate) T.a_Llate k_Llate T.blt ?_
  simp only [b_Llate, ObII, ObI1, ObB, ObS, ObE, ObL, ObO, ObI, and_true, true_and, and_self, List.mem_cons, List.not_mem_nil, or_false, forall_eq_or_imp, forall_eq]
  try repeat' (first | assumption | apply And.intro)
theorem c_frozen (T : Tx w K mg) : CallD P w K mg base 8 "frozen" 1 f_frozen := by
  refine DefAt.callF (N := n_frozen) (n := 1) (k := 0) (body := b_frozen) T.a_frozen rfl (fun f => congrFun k_frozen f) T.blt (fun j f hj own => ?_) 8
  simp only [b_frozen, ObII, ObI1, ObB, ObS, ObE, ObL, ObO, ObI, and_true, true_and, and_self, List.mem_cons, List.not_mem_nil, or_false, forall_eq_or_imp, forall_eq]
  try repeat' (first | assumption | apply And.intro)
theorem c_consists_of (T : Tx w K mg) : CallD P w K mg base 1 "consists_of" 2 f_consists_of := by
  refine DefAt.callD (N := n_consists_of) (n := 2) (k := 0) (body := b_consists_of) T.a_consists_of k_consists_of T.blt ?_
  simp only [b_consists_of, ObII, ObI1, ObB, ObS, ObE, ObL, ObO, ObI, and_true, true_and, and_self, List.mem_cons, List.not_mem_nil, or_false, forall_eq_or_imp, forall_eq]
  try repeat' (first | assumption | apply And.intro)
theorem c_is_name (T : Tx w K mg) : CallD P w K mg base 2 "is_name" 1 f_is_name := by
  refine DefAt.callD (N := n_is_name) (n := 1) (k := 1) (body := b_is_name) T.a_is_name k_is_name T.blt ?_
  have h_consists_of : CallD P w K mg base 1 "consists_of" 2 f_consists_of := (c_consists_of T).mono (by decide)
  have g_NAME_LENGTH := T.g_NAME_LENGTH
  have g_NAME_SIGNS := T.g_NAME_SIGNS
  have g_LETTERS := T.g_LETTERS
  simp only [b_is_name, ObII, ObI1, ObB, ObS, ObE, ObL, ObO, ObI, and_true, true_and, and_self, List.mem_cons, List.not_mem_nil, or_false, forall_eq_or_imp, forall_eq]
  try repeat' (first | assumption | apply And.intro)
theorem c_is_whole (T : Tx w K mg) : CallD P w K mg base 1 "is_whole" 1 f_is_whole := by
  refine DefAt.callD (N := n_is_whole) (n := 1) (k := 0) (body := b_is_whole) T.a_is_whole k_is_whole T.blt ?_
  simp only [b_is_whole, ObII, ObI1, ObB, ObS, ObE, ObL, ObO, ObI, and_true, true_and, and_self, List.mem_cons, List.not_mem_nil, or_false, forall_eq_or_imp, forall_eq]
  try repeat' (first | assumption | apply And.intro)
theorem c_is_index (T : Tx w K mg) : CallD P w K mg base 2 "is_index" 2 f_is_index := by
  refine DefAt.callD (N := n_is_index) (n := 2) (k := 1) (body := b_is_index) T.a_is_index k_is_index T.blt ?_
  have h_is_whole : CallD P w K mg base 1 "is_whole" 1 f_is_whole := (c_is_whole T).mono (by decide)
  simp only [b_is_index, ObII, ObI1, ObB, ObS, ObE, ObL, ObO, ObI, and_true, true_and, and_self, List.mem_cons, List.not_mem_nil, or_false, forall_eq_or_imp, forall_eq]
  try repeat' (first | assumption | apply And.intro)
theorem c_step_is_right (T : Tx w K mg) : CallD P w K mg base 3 "step_is_right" 2 f_step_is_right := by
  refine DefAt.callD (N := n_step_is_right) (n := 2) (k := 2) (body := b_step_is_right) T.a_step_is_right k_step_is_right T.blt ?_
  have h_is_name : CallD P w K mg base 2 "is_name" 1 f_is_name := (c_is_name T).mono (by decide)
  have h_is_whole : CallD P w K mg base 2 "is_whole" 1 f_is_whole := (c_is_whole T).mono (by decide)
  have h_is_index : CallD P w K mg base 2 "is_index" 2 f_is_index := (c_is_index T).mono (by decide)
  simp only [b_step_is_right, ObII, ObI1, ObB, ObS, ObE, ObL, ObO, ObI, and_true, true_and, and_self, List.mem_cons, List.not_mem_nil, or_false, forall_eq_or_imp, forall_eq]
  try repeat' (first | assumption | apply And.intro)
theorem c_iStraight (T : Tx w K mg) : MkD P w K mg base 10 "Straight" 2 f_iStraight := by
  refine ClsAt.mkD (N := n_iStraight) (n := 2) (k := 8) (body := b_iStraight) T.k_Straight k_iStraight T.blt (fun C na => ?_)
  have na_steps := na "steps" (by decide)
  have na_outputs := na "outputs" (by decide)
  have h_frozen : CallD P w K mg base 8 "frozen" 1 f_frozen := (c_frozen T).mono (by decide)
  have h_step_is_right : CallD P w K mg base 8 "step_is_right" 2 f_step_is_right := (c_step_is_right T).mono (by decide)
  have h_is_index : CallD P w K mg base 8 "is_index" 2 f_is_index := (c_is_index T).mono (by decide)
  simp only [b_iStraight, ObII, ObI1, ObB, ObS, ObE, ObL, ObO, ObI, and_true, true_and, and_self, List.mem_cons, List.not_mem_nil, or_false, forall_eq_or_imp, forall_eq]
  try repeat' (first | assumption | apply And.intro)
theorem c_Lwhole (T : Tx w K mg) : CallD P w K mg base 1 "_law_whole" 1 f_Lwhole := by
  refine DefAt.callD (N := n_Lwhole) (n := 1) (k := 0) (body := b_Lwhole) T.a_Lwhole k_Lwhole T.blt ?_
  simp only [b_Lwhole, ObII, ObI1, ObB, ObS, ObE, ObL, ObO, ObI, and_true, true_and, and_self, List.mem_cons, List.not_mem_nil, or_false, forall_eq_or_imp, forall_eq]
  try repeat' (first | assumption | apply And.intro)
theorem c_Lsame (T : Tx w K mg) : CallD P w K mg base 9 "_law_same" 2 f_Lsame := by
  refine DefAt.callF (N := n_Lsame) (n := 2) (k := 1) (body := b_Lsame) T.a_Lsame rfl (fun f => congrFun k_Lsame f) T.blt (fun j f hj own => ?_) 8
  have h_Lwhole : CallD P w K mg base j "_law_whole" 1 f_Lwhole := (c_Lwhole T).mono (by omega)
  simp only [b_Lsame, ObII, ObI1, ObB, ObS, ObE, ObL, ObO, ObI, and_true, true_and, and_self, List.mem_cons, List.not_mem_nil, or_false, forall_eq_or_imp, forall_eq]
  try repeat' (first | assumption | apply And.intro)
theorem c_Lready (T : Tx w K mg) : CallD P w K mg base 1 "_law_ready" 2 f_Lready := by
  refine DefAt.callD (N := n_Lready) (n := 2) (k := 0) (body := b_Lready) T.a_Lready k_Lready T.blt ?_
  simp only [b_Lready, ObII, ObI1, ObB, ObS, ObE, ObL, ObO, ObI, and_true, true_and, and_self, List.mem_cons, List.not_mem_nil, or_false, forall_eq_or_imp, forall_eq]
  try repeat' (first | assumption | apply And.intro)
theorem c_is_inner (T : Tx w K mg) : CallD P w K mg base 1 "is_inner" 1 f_is_inner := by
  refine DefAt.callD (N := n_is_inner) (n := 1) (k := 0) (body := b_is_inner) T.a_is_inner k_is_inner T.blt ?_
  simp only [b_is_inner, ObII, ObI1, ObB, ObS, ObE, ObL, ObO, ObI, and_true, true_and, and_self, List.mem_cons, List.not_mem_nil, or_false, forall_eq_or_imp, forall_eq]
  try repeat' (first | assumption | apply And.intro)
theorem c_are_done (T : Tx w K mg) : CallD P w K mg base 2 "are_done" 3 f_are_done := by
  refine DefAt.callD (N := n_are_done) (n := 3) (k := 1) (body := b_are_done) T.a_are_done k_are_done T.blt ?_
  have h_is_inner : CallD P w K mg base 1 "is_inner" 1 f_is_inner := (c_is_inner T).mono (by decide)
  simp only [b_are_done, ObII, ObI1, ObB, ObS, ObE, ObL, ObO, ObI, and_true, true_and, and_self, List.mem_cons, List.not_mem_nil, or_false, forall_eq_or_imp, forall_eq]
  try repeat' (first | assumption | apply And.intro)
theorem c_ready_indexes (T : Tx w K mg) : CallD P w K mg base 3 "ready_indexes" 2 f_ready_indexes := by
  refine DefAt.callD (N := n_ready_indexes) (n := 2) (k := 2) (body := b_ready_indexes) T.a_ready_indexes k_ready_indexes T.blt ?_
  have h_are_done : CallD P w K mg base 2 "are_done" 3 f_are_done := (c_are_done T).mono (by decide)
  have h_is_inner : CallD P w K mg base 2 "is_inner" 1 f_is_inner := (c_is_inner T).mono (by decide)
  simp only [b_ready_indexes, ObII, ObI1, ObB, ObS, ObE, ObL, ObO, ObI, and_true, true_and, and_self, List.mem_cons, List.not_mem_nil, or_false, forall_eq_or_imp, forall_eq]
  try repeat' (first | assumption | apply And.intro)
theorem c_ready_steps (T : Tx w K mg) : CallD P w K mg base 4 "ready_steps" 2 f_ready_steps := by
  refine DefAt.callD (N := n_ready_steps) (n := 2) (k := 3) (body := b_ready_steps) T.a_ready_steps k_ready_steps T.blt ?_
  have h_ready_indexes : CallD P w K mg base 3 "ready_indexes" 2 f_ready_indexes := (c_ready_indexes T).mono (by decide)
  have fd_Straight_steps := T.k_Straight.fldD (g := "steps") (by decide)
  simp only [b_ready_steps, ObII, ObI1, ObB, ObS, ObE, ObL, ObO, ObI, and_true, true_and, and_self, List.mem_cons, List.not_mem_nil, or_false, forall_eq_or_imp, forall_eq]
  try repeat' (first | assumption | apply And.intro)
theorem c_Ltaken (T : Tx w K mg) : CallD P w K mg base 1 "_law_taken" 4 f_Ltaken := by
  refine DefAt.callD (N := n_Ltaken) (n := 4) (k := 0) (body := b_Ltaken) T.a_Ltaken k_Ltaken T.blt ?_
  simp only [b_Ltaken, ObII, ObI1, ObB, ObS, ObE, ObL, ObO, ObI, and_true, true_and, and_self, List.mem_cons, List.not_mem_nil, or_false, forall_eq_or_imp, forall_eq]
  try repeat' (first | assumption | apply And.intro)
theorem c_Lworking (T : Tx w K mg) : CallD P w K mg base 1 "_law_working" 3 f_Lworking := by
  refine DefAt.callD (N := n_Lworking) (n := 3) (k := 0) (body := b_Lworking) T.a_Lworking k_Lworking T.blt ?_
  simp only [b_Lworking, ObII, ObI1, ObB, ObS, ObE, ObL, ObO, ObI, and_true, true_and, and_self, List.mem_cons, List.not_mem_nil, or_false, forall_eq_or_imp, forall_eq]
  try repeat' (first | assumption | apply And.intro)
theorem c_Lrun (T : Tx w K mg) : CallD P w K mg base 2 "_law_run" 4 f_Lrun := by
  refine DefAt.callD (N := n_Lrun) (n := 4) (k := 1) (body := b_Lrun) T.a_Lrun k_Lrun T.blt ?_
  have h_Ltaken : CallD P w K mg base 1 "_law_taken" 4 f_Ltaken := (c_Ltaken T).mono (by decide)
  have h_Lworking : CallD P w K mg base 1 "_law_working" 3 f_Lworking := (c_Lworking T).mono (by decide)
  have h_Lready : CallD P w K mg base 1 "_law_ready" 2 f_Lready := (c_Lready T).mono (by decide)
  simp only [b_Lrun, ObII, ObI1, ObB, ObS, ObE, ObL, ObO, ObI, and_true, true_and, and_self, List.mem_cons, List.not_mem_nil, or_false, forall_eq_or_imp, forall_eq]
  try repeat' (first | assumption | apply And.intro)
theorem c_work_of (T : Tx w K mg) : CallD P w K mg base 2 "work_of" 1 f_work_of := by
  refine DefAt.callD (N := n_work_of) (n := 1) (k := 1) (body := b_work_of) T.a_work_of k_work_of T.blt ?_
  have h_is_inner : CallD P w K mg base 1 "is_inner" 1 f_is_inner := (c_is_inner T).mono (by decide)
  have fd_Straight_steps := T.k_Straight.fldD (g := "steps") (by decide)
  simp only [b_work_of, ObII, ObI1, ObB, ObS, ObE, ObL, ObO, ObI, and_true, true_and, and_self, List.mem_cons, List.not_mem_nil, or_false, forall_eq_or_imp, forall_eq]
  try repeat' (first | assumption | apply And.intro)
theorem c_taken_steps (T : Tx w K mg) : CallD P w K mg base 1 "taken_steps" 4 f_taken_steps := by
  refine DefAt.callD (N := n_taken_steps) (n := 4) (k := 0) (body := b_taken_steps) T.a_taken_steps k_taken_steps T.blt ?_
  simp only [b_taken_steps, ObII, ObI1, ObB, ObS, ObE, ObL, ObO, ObI, and_true, true_and, and_self, List.mem_cons, List.not_mem_nil, or_false, forall_eq_or_imp, forall_eq]
  try repeat' (first | assumption | apply And.intro)
theorem c_working_hands (T : Tx w K mg) : CallD P w K mg base 1 "working_hands" 3 f_working_hands := by
  refine DefAt.callD (N := n_working_hands) (n := 3) (k := 0) (body := b_working_hands) T.a_working_hands k_working_hands T.blt ?_
  simp only [b_working_hands, ObII, ObI1, ObB, ObS, ObE, ObL, ObO, ObI, and_true, true_and, and_self, List.mem_cons, List.not_mem_nil, or_false, forall_eq_or_imp, forall_eq]
  try repeat' (first | assumption | apply And.intro)
theorem c_run_rounds_k_late_picks (T : Tx w K mg) : FnK P w K mg base 4 "run_rounds" 2 ["late", "picks"] f_run_rounds_k_late_picks := by
  refine DefAtW.fnK (N := n_run_rounds) (n := 2) (m := 4) (k := 3) (G := (fun ds es => ds ++ es)) (body := b_run_rounds) T.a_run_rounds_k_late_picks k_run_rounds T.blt ?_
  have h_work_of : CallD P w K mg base 3 "work_of" 1 f_work_of := (c_work_of T).mono (by decide)
  have h_ready_indexes : CallD P w K mg base 3 "ready_indexes" 2 f_ready_indexes := (c_ready_indexes T).mono (by decide)
  have h_taken_steps : CallD P w K mg base 3 "taken_steps" 4 f_taken_steps := (c_taken_steps T).mono (by decide)
  have h_working_hands : CallD P w K mg base 3 "working_hands" 3 f_working_hands := (c_working_hands T).mono (by decide)
  have fd_Straight_steps := T.k_Straight.fldD (g := "steps") (by decide)
  simp only [b_run_rounds, ObII, ObI1, ObB, ObS, ObE, ObL, ObO, ObI, and_true, true_and, and_self, List.mem_cons, List.not_mem_nil, or_false, forall_eq_or_imp, forall_eq]
  try repeat' (first | assumption | apply And.intro)
theorem c_run_rounds_b (T : Tx w K mg) : CallD P w K mg base 4 "run_rounds" 2 f_run_rounds_b := by
  refine DefAtB.callD (N := n_run_rounds) (n := 2) (m := 4) (k := 3) (body := b_run_rounds) T.a_run_rounds_b rfl k_run_rounds T.blt ?_
  have h_work_of : CallD P w K mg base 3 "work_of" 1 f_work_of := (c_work_of T).mono (by decide)
  have h_ready_indexes : CallD P w K mg base 3 "ready_indexes" 2 f_ready_indexes := (c_ready_indexes T).mono (by decide)
  have h_taken_steps : CallD P w K mg base 3 "taken_steps" 4 f_taken_steps := (c_taken_steps T).mono (by decide)
  have h_working_hands : CallD P w K mg base 3 "working_hands" 3 f_working_hands := (c_working_hands T).mono (by decide)
  have fd_Straight_steps := T.k_Straight.fldD (g := "steps") (by decide)
  simp only [b_run_rounds, ObII, ObI1, ObB, ObS, ObE, ObL, ObO, ObI, and_true, true_and, and_self, List.mem_cons, List.not_mem_nil, or_false, forall_eq_or_imp, forall_eq]
  try repeat' (first | assumption | apply And.intro)
theorem c_run_rounds_k_picks (T : Tx w K mg) : FnK P w K mg base 4 "run_rounds" 2 ["picks"] f_run_rounds_k_picks := by
  refine DefAtW.fnK (N := n_run_rounds) (n := 2) (m := 4) (k := 3) (G := (fun (ds es : List D) => ds ++ [(.tup []), (es[0]?).getD .non])) (body := b_run_rounds) T.a_run_rounds_k_picks k_run_rounds T.blt ?_
  have h_work_of : CallD P w K mg base 3 "work_of" 1 f_work_of := (c_work_of T).mono (by decide)
  have h_ready_indexes : CallD P w K mg base 3 "ready_indexes" 2 f_ready_indexes := (c_ready_indexes T).mono (by decide)
  have h_taken_steps : CallD P w K mg base 3 "taken_steps" 4 f_taken_steps := (c_taken_steps T).mono (by decide)
  have h_working_hands : CallD P w K mg base 3 "working_hands" 3 f_working_hands := (c_working_hands T).mono (by decide)
  have fd_Straight_steps := T.k_Straight.fldD (g := "steps") (by decide)
  simp only [b_run_rounds, ObII, ObI1, ObB, ObS, ObE, ObL, ObO, ObI, and_true, true_and, and_self, List.mem_cons, List.not_mem_nil, or_false, forall_eq_or_imp, forall_eq]
  try repeat' (first | assumption | apply And.intro)
theorem c_law (T : Tx w K mg) : CallD P w K mg base 11 "law" 1 f_law := by
  refine DefAt.callD (N := n_law) (n := 1) (k := 10) (body := b_law) T.a_law k_law T.blt ?_
  have h_Ldigits : CallD P w K mg base 10 "_law_digits" 2 f_Ldigits := (c_Ldigits T).mono (by decide)
  have h_Lcell : CallD P w K mg base 10 "_law_cell" 2 f_Lcell := (c_Lcell T).mono (by decide)
  have h_Lwide : CallD P w K mg base 10 "_law_wide" 2 f_Lwide := (c_Lwide T).mono (by decide)
  have h_Lnames : CallD P w K mg base 10 "_law_names" 1 f_Lnames := (c_Lnames T).mono (by decide)
  have h_Llate_leaves : CallD P w K mg base 10 "_law_late_leaves" 2 f_Llate_leaves := (c_Llate_leaves T).mono (by decide)
  have h_Llate : CallD P w K mg base 10 "_law_late" 2 f_Llate := (c_Llate T).mono (by decide)
  have h_iStraight : MkD P w K mg base 10 "Straight" 2 f_iStraight := (c_iStraight T).mono (by decide)
  have h_Lsame : CallD P w K mg base 10 "_law_same" 2 f_Lsame := (c_Lsame T).mono (by decide)
  have h_Lready : CallD P w K mg base 10 "_law_ready" 2 f_Lready := (c_Lready T).mono (by decide)
  have h_ready_steps : CallD P w K mg base 10 "ready_steps" 2 f_ready_steps := (c_ready_steps T).mono (by decide)
  have h_Lrun : CallD P w K mg base 10 "_law_run" 4 f_Lrun := (c_Lrun T).mono (by decide)
  have h_run_rounds_k_late_picks : FnK P w K mg base 10 "run_rounds" 2 ["late", "picks"] f_run_rounds_k_late_picks := (c_run_rounds_k_late_picks T).mono (by decide)
  have h_run_rounds_b : CallD P w K mg base 10 "run_rounds" 2 f_run_rounds_b := (c_run_rounds_b T).mono (by decide)
  have h_run_rounds_k_picks : FnK P w K mg base 10 "run_rounds" 2 ["picks"] f_run_rounds_k_picks := (c_run_rounds_k_picks T).mono (by decide)
  simp only [b_law, ObII, ObI1, ObB, ObS, ObE, ObL, ObO, ObI, and_true, true_and, and_self, List.mem_cons, List.not_mem_nil, or_false, forall_eq_or_imp, forall_eq]
  try repeat' (first | assumption | apply And.intro)
end
/-- all of the top -/
theorem all_mk {l : PySem.W.OpenLaw} {w : World} {K : PySem.W.Frag} {h : Heap} {mg : Str → Option Value} {fa f0 f1 f2 f3 f4 f5 f6 f7 f8 f9 f10 f11 f12 f13 f14 f15 f16 f17 f18 f19 f20 f21 f22 f23 f24 f25 f26 f27 C0 : Addr} (X : K.In h) (G : h.Ns mainGlobals mg) (hfa : mg "law" = some (.ref fa))
    {od0 an0 od1 an1 od2 an2 od3 an3 od4 an4 od5 an5 od6 an6 od7 an7 od8 an8 od9 an9 od10 an10 od11 an11 od12 an12 od13 an13 od14 an14 od15 an15 od16 an16 od17 an17 od18 an18 od19 an19 od20 an20 od21 an21 od22 an22 od23 an23 od24 an24 od25 an25 od26 an26 od27 an27 : Option Addr} {sl0 sl1 sl2 sl3 sl4 sl5 sl6 sl7 sl8 sl9 sl10 sl11 sl12 sl13 sl14 sl15 sl16 sl17 sl18 sl19 sl20 sl21 sl22 sl23 sl24 sl25 sl26 sl27 : Array (Option Value)} {oc0 kV0 dc0 pm0 cd0 ct0 oc1 kV1 dc1 pm1 cd1 ct1 oc2 kV2 dc2 pm2 cd2 ct2 oc3 kV3 dc3 pm3 cd3 ct3 oc4 kV4 dc4 pm4 cd4 ct4 oc5 kV5 dc5 pm5 cd5 ct5 oc6 kV6 dc6 pm6 cd6 ct6 oc7 kV7 dc7 pm7 cd7 ct7 oc8 kV8 dc8 pm8 cd8 ct8 oc9 kV9 dc9 pm9 cd9 ct9 oc10 kV10 dc10 pm10 cd10 ct10 oc11 kV11 dc11 pm11 cd11 ct11 oc12 kV12 dc12 pm12 cd12 ct12 oc13 kV13 dc13 pm13 cd13 ct13 oc14 kV14 dc14 pm14 cd14 ct14 oc15 kV15 dc15 pm15 cd15 ct15 oc16 kV16 dc16 pm16 cd16 ct16 oc17 kV17 dc17 pm17 cd17 ct17 oc18 kV18 dc18 pm18 cd18 ct18 oc19 kV19 dc19 pm19 cd19 ct19 oc20 kV20 dc20 pm20 cd20 ct20 oc21 kV21 dc21 pm21 cd21 ct21 oc22 kV22 dc22 pm22 cd22 ct22 oc23 kV23 dc23 pm23 cd23 ct23 oc24 kV24 dc24 pm24 cd24 ct24 oc25 kV25 dc25 pm25 cd25 ct25 oc26 dc26 pm26 cd26 ct26 oc27 kV27 dc27 pm27 cd27 ct27 : Value}
    (aC0 : PySem.W.nsIn K mainGlobals "Straight" = some (some (.ref C0))) (pg0 : PySem.W.plainGet K C0 Str.empty = true) (hd0 : PySem.W.hasDictIn K C0 = true) (po0 : PySem.W.plainOver K C0 = true) (sa0 : PySem.W.findIn K (.ref C0) "__setattr__" = some (some (.builtin "object.__setattr__")))
    (mk0 : PySem.W.makesIn K C0 = true) (kc0 : PySem.W.keepIn K (.ref C0) = true)
    (n0_0 : PySem.W.findIn K (.ref C0) "steps" = some none)
    (n0_1 : PySem.W.findIn K (.ref C0) "outputs" = some none)
    (a0 : PySem.W.nsIn K mainGlobals "_law_digits" = some (some (.ref f0)))
    (l0 : K.lookup f0 = some ⟨oc0, od0, .func (PySem.W.fnOf "_law_digits" "_law_digits" (defArgs (src 34)) (defBody (src 34)) (defScope (src 34)) .none kV0 dc0 pm0 an0 cd0 ct0), sl0⟩)
    (c0 : PySem.W.codeIn K cd0 "_law_digits" = true) (k0 : PySem.W.keepIn K (.ref f0) = true)
    (a1 : PySem.W.nsIn K mainGlobals "_law_cell" = some (some (.ref f1)))
    (l1 : K.lookup f1 = some ⟨oc1, od1, .func (PySem.W.fnOf "_law_cell" "_law_cell" (defArgs (src 33)) (defBody (src 33)) (defScope (src 33)) .none kV1 dc1 pm1 an1 cd1 ct1), sl1⟩)
    (c1 : PySem.W.codeIn K cd1 "_law_cell" = true) (k1 : PySem.W.keepIn K (.ref f1) = true)
    (a2 : PySem.W.nsIn K mainGlobals "_law_wide" = some (some (.ref f2)))
    (l2 : K.lookup f2 = some ⟨oc2, od2, .func (PySem.W.fnOf "_law_wide" "_law_wide" (defArgs (src 37)) (defBody (src 37)) (defScope (src 37)) .none kV2 dc2 pm2 an2 cd2 ct2), sl2⟩)
    (c2 : PySem.W.codeIn K cd2 "_law_wide" = true) (k2 : PySem.W.keepIn K (.ref f2) = true)
    (a3 : PySem.W.nsIn K mainGlobals "_law_names" = some (some (.ref f3)))
    (l3 : K.lookup f3 = some ⟨oc3, od3, .func (PySem.W.fnOf "_law_names" "_law_names" (defArgs (src 36)) (defBody (src 36)) (defScope (src 36)) .none kV3 dc3 pm3 an3 cd3 ct3), sl3⟩)
    (c3 : PySem.W.codeIn K cd3 "_law_names" = true) (k3 : PySem.W.keepIn K (.ref f3) = true)
    (a4 : PySem.W.nsIn K mainGlobals "_law_late_leaves" = some (some (.ref f4)))
    (l4 : K.lookup f4 = some ⟨oc4, od4, .func (PySem.W.fnOf "_law_late_leaves" "_law_late_leaves" (defArgs (src 43)) (defBody (src 43)) (defScope (src 43)) .none kV4 dc4 pm4 an4 cd4 ct4), sl4⟩)
    (c4 : PySem.W.codeIn K cd4 "_law_late_leaves" = true) (k4 : PySem.W.keepIn K (.ref f4) = true)
    (a5 : PySem.W.nsIn K mainGlobals "_law_late" = some (some (.ref f5)))
    (l5 : K.lookup f5 = some ⟨oc5, od5, .func (PySem.W.fnOf "_law_late" "_law_late" (defArgs (src 38)) (defBody (src 38)) (defScope (src 38)) .none kV5 dc5 pm5 an5 cd5 ct5), sl5⟩)
    (c5 : PySem.W.codeIn K cd5 "_law_late" = true) (k5 : PySem.W.keepIn K (.ref f5) = true)
    (a6 : PySem.W.nsIn K mainGlobals "frozen" = some (some (.ref f6)))
    (l6 : K.lookup f6 = some ⟨oc6, od6, .func (PySem.W.fnOf "frozen" "frozen" (defArgs (src 13)) (defBody (src 13)) (defScope (src 13)) .none kV6 dc6 pm6 an6 cd6 ct6), sl6⟩)
    (c6 : PySem.W.codeIn K cd6 "frozen" = true) (k6 : PySem.W.keepIn K (.ref f6) = true)
    (a7 : PySem.W.nsIn K mainGlobals "consists_of" = some (some (.ref f7)))
    (l7 : K.lookup f7 = some ⟨oc7, od7, .func (PySem.W.fnOf "consists_of" "consists_of" (defArgs (src 10)) (defBody (src 10)) (defScope (src 10)) .none kV7 dc7 pm7 an7 cd7 ct7), sl7⟩)
    (c7 : PySem.W.codeIn K cd7 "consists_of" = true) (k7 : PySem.W.keepIn K (.ref f7) = true)
    (a8 : PySem.W.nsIn K mainGlobals "is_name" = some (some (.ref f8)))
    (l8 : K.lookup f8 = some ⟨oc8, od8, .func (PySem.W.fnOf "is_name" "is_name" (defArgs (src 11)) (defBody (src 11)) (defScope (src 11)) .none kV8 dc8 pm8 an8 cd8 ct8), sl8⟩)
    (c8 : PySem.W.codeIn K cd8 "is_name" = true) (k8 : PySem.W.keepIn K (.ref f8) = true)
    (a9 : PySem.W.nsIn K mainGlobals "is_whole" = some (some (.ref f9)))
    (l9 : K.lookup f9 = some ⟨oc9, od9, .func (PySem.W.fnOf "is_whole" "is_whole" (defArgs (src 14)) (defBody (src 14)) (defScope (src 14)) .none kV9 dc9 pm9 an9 cd9 ct9), sl9⟩)
    (c9 : PySem.W.codeIn K cd9 "is_whole" = true) (k9 : PySem.W.keepIn K (.ref f9) = true)
    (a10 : PySem.W.nsIn K mainGlobals "is_index" = some (some (.ref f10)))
    (l10 : K.lookup f10 = some ⟨oc10, od10, .func (PySem.W.fnOf "is_index" "is_index" (defArgs (src 15)) (defBody (src 15)) (defScope (src 15)) .none kV10 dc10 pm10 an10 cd10 ct10), sl10⟩)
    (c10 : PySem.W.codeIn K cd10 "is_index" = true) (k10 : PySem.W.keepIn K (.ref f10) = true)
    (a11 : PySem.W.nsIn K mainGlobals "step_is_right" = some (some (.ref f11)))
    (l11 : K.lookup f11 = some ⟨oc11, od11, .func (PySem.W.fnOf "step_is_right" "step_is_right" (defArgs (src 17)) (defBody (src 17)) (defScope (src 17)) .none kV11 dc11 pm11 an11 cd11 ct11), sl11⟩)
    (c11 : PySem.W.codeIn K cd11 "step_is_right" = true) (k11 : PySem.W.keepIn K (.ref f11) = true)
    (a12 : PySem.W.findIn K (.ref C0) "__init__" = some (some (.ref f12))) (i12 : PySem.W.isFn K (.ref f12) = true)
    (l12 : K.lookup f12 = some ⟨oc12, od12, .func (PySem.W.fnOf "__init__" "Straight.__init__" (defArgs (srcM 21 0)) (defBody (srcM 21 0)) (defScope (srcM 21 0)) .none kV12 dc12 pm12 an12 cd12 ct12), sl12⟩)
    (c12 : PySem.W.codeIn K cd12 "Straight.__init__" = true) (k12 : PySem.W.keepIn K (.ref f12) = true)
    (a13 : PySem.W.nsIn K mainGlobals "_law_whole" = some (some (.ref f13)))
    (l13 : K.lookup f13 = some ⟨oc13, od13, .func (PySem.W.fnOf "_law_whole" "_law_whole" (defArgs (src 32)) (defBody (src 32)) (defScope (src 32)) .none kV13 dc13 pm13 an13 cd13 ct13), sl13⟩)
    (c13 : PySem.W.codeIn K cd13 "_law_whole" = true) (k13 : PySem.W.keepIn K (.ref f13) = true)
    (a14 : PySem.W.nsIn K mainGlobals "_law_same" = some (some (.ref f14)))
    (l14 : K.lookup f14 = some ⟨oc14, od14, .func (PySem.W.fnOf "_law_same" "_law_same" (defArgs (src 35)) (defBody (src 35)) (defScope (src 35)) .none kV14 dc14 pm14 an14 cd14 ct14), sl14⟩)
    (c14 : PySem.W.codeIn K cd14 "_law_same" = true) (k14 : PySem.W.keepIn K (.ref f14) = true)
    (a15 : PySem.W.nsIn K mainGlobals "_law_ready" = some (some (.ref f15)))
    (l15 : K.lookup f15 = some ⟨oc15, od15, .func (PySem.W.fnOf "_law_ready" "_law_ready" (defArgs (src 39)) (defBody (src 39)) (defScope (src 39)) .none kV15 dc15 pm15 an15 cd15 ct15), sl15⟩)
    (c15 : PySem.W.codeIn K cd15 "_law_ready" = true) (k15 : PySem.W.keepIn K (.ref f15) = true)
    (a16 : PySem.W.nsIn K mainGlobals "is_inner" = some (some (.ref f16)))
    (l16 : K.lookup f16 = some ⟨oc16, od16, .func (PySem.W.fnOf "is_inner" "is_inner" (defArgs (src 18)) (defBody (src 18)) (defScope (src 18)) .none kV16 dc16 pm16 an16 cd16 ct16), sl16⟩)
    (c16 : PySem.W.codeIn K cd16 "is_inner" = true) (k16 : PySem.W.keepIn K (.ref f16) = true)
    (a17 : PySem.W.nsIn K mainGlobals "are_done" = some (some (.ref f17)))
    (l17 : K.lookup f17 = some ⟨oc17, od17, .func (PySem.W.fnOf "are_done" "are_done" (defArgs (src 25)) (defBody (src 25)) (defScope (src 25)) .none kV17 dc17 pm17 an17 cd17 ct17), sl17⟩)
    (c17 : PySem.W.codeIn K cd17 "are_done" = true) (k17 : PySem.W.keepIn K (.ref f17) = true)
    (a18 : PySem.W.nsIn K mainGlobals "ready_indexes" = some (some (.ref f18)))
    (l18 : K.lookup f18 = some ⟨oc18, od18, .func (PySem.W.fnOf "ready_indexes" "ready_indexes" (defArgs (src 26)) (defBody (src 26)) (defScope (src 26)) .none kV18 dc18 pm18 an18 cd18 ct18), sl18⟩)
    (c18 : PySem.W.codeIn K cd18 "ready_indexes" = true) (k18 : PySem.W.keepIn K (.ref f18) = true)
    (a19 : PySem.W.nsIn K mainGlobals "ready_steps" = some (some (.ref f19)))
    (l19 : K.lookup f19 = some ⟨oc19, od19, .func (PySem.W.fnOf "ready_steps" "ready_steps" (defArgs (src 29)) (defBody (src 29)) (defScope (src 29)) .none kV19 dc19 pm19 an19 cd19 ct19), sl19⟩)
    (c19 : PySem.W.codeIn K cd19 "ready_steps" = true) (k19 : PySem.W.keepIn K (.ref f19) = true)
    (a20 : PySem.W.nsIn K mainGlobals "_law_taken" = some (some (.ref f20)))
    (l20 : K.lookup f20 = some ⟨oc20, od20, .func (PySem.W.fnOf "_law_taken" "_law_taken" (defArgs (src 41)) (defBody (src 41)) (defScope (src 41)) .none kV20 dc20 pm20 an20 cd20 ct20), sl20⟩)
    (c20 : PySem.W.codeIn K cd20 "_law_taken" = true) (k20 : PySem.W.keepIn K (.ref f20) = true)
    (a21 : PySem.W.nsIn K mainGlobals "_law_working" = some (some (.ref f21)))
    (l21 : K.lookup f21 = some ⟨oc21, od21, .func (PySem.W.fnOf "_law_working" "_law_working" (defArgs (src 40)) (defBody (src 40)) (defScope (src 40)) .none kV21 dc21 pm21 an21 cd21 ct21), sl21⟩)
    (c21 : PySem.W.codeIn K cd21 "_law_working" = true) (k21 : PySem.W.keepIn K (.ref f21) = true)
    (a22 : PySem.W.nsIn K mainGlobals "_law_run" = some (some (.ref f22)))
    (l22 : K.lookup f22 = some ⟨oc22, od22, .func (PySem.W.fnOf "_law_run" "_law_run" (defArgs (src 42)) (defBody (src 42)) (defScope (src 42)) .none kV22 dc22 pm22 an22 cd22 ct22), sl22⟩)
    (c22 : PySem.W.codeIn K cd22 "_law_run" = true) (k22 : PySem.W.keepIn K (.ref f22) = true)
    (a23 : PySem.W.nsIn K mainGlobals "work_of" = some (some (.ref f23)))
    (l23 : K.lookup f23 = some ⟨oc23, od23, .func (PySem.W.fnOf "work_of" "work_of" (defArgs (src 23)) (defBody (src 23)) (defScope (src 23)) .none kV23 dc23 pm23 an23 cd23 ct23), sl23⟩)
    (c23 : PySem.W.codeIn K cd23 "work_of" = true) (k23 : PySem.W.keepIn K (.ref f23) = true)
    (a24 : PySem.W.nsIn K mainGlobals "taken_steps" = some (some (.ref f24)))
    (l24 : K.lookup f24 = some ⟨oc24, od24, .func (PySem.W.fnOf "taken_steps" "taken_steps" (defArgs (src 27)) (defBody (src 27)) (defScope (src 27)) .none kV24 dc24 pm24 an24 cd24 ct24), sl24⟩)
    (c24 : PySem.W.codeIn K cd24 "taken_steps" = true) (k24 : PySem.W.keepIn K (.ref f24) = true)
    (a25 : PySem.W.nsIn K mainGlobals "working_hands" = some (some (.ref f25)))
    (l25 : K.lookup f25 = some ⟨oc25, od25, .func (PySem.W.fnOf "working_hands" "working_hands" (defArgs (src 28)) (defBody (src 28)) (defScope (src 28)) .none kV25 dc25 pm25 an25 cd25 ct25), sl25⟩)
    (c25 : PySem.W.codeIn K cd25 "working_hands" = true) (k25 : PySem.W.keepIn K (.ref f25) = true)
    (a26 : PySem.W.nsIn K mainGlobals "run_rounds" = some (some (.ref f26)))
    {KD26 : Addr}
    (l26 : K.lookup f26 = some ⟨oc26, od26, .func (PySem.W.fnOf "run_rounds" "run_rounds" (defArgs (src 30)) (defBody (src 30)) (defScope (src 30)) .none (.ref KD26) dc26 pm26 an26 cd26 ct26), sl26⟩)
    (c26 : PySem.W.codeIn K cd26 "run_rounds" = true) (k26 : PySem.W.keepIn K (.ref f26) = true)
    {kA26_0 : Addr} {kO26_0 : Option Addr} {kN26_0 : Nat} {kS26_0 : Array (Option Value)}
    (kd26_0 : PySem.W.nsIn K KD26 "late" = some (some (.ref kA26_0))) (ke26_0 : K.lookup kA26_0 = some ⟨.type "tuple", kO26_0, .seq #[] kN26_0, kS26_0⟩)
    {kA26_1 : Addr} {kO26_1 : Option Addr} {kN26_1 : Nat} {kS26_1 : Array (Option Value)}
    (kd26_1 : PySem.W.nsIn K KD26 "picks" = some (some (.ref kA26_1))) (ke26_1 : K.lookup kA26_1 = some ⟨.type "tuple", kO26_1, .seq #[] kN26_1, kS26_1⟩)
    (a27 : PySem.W.nsIn K mainGlobals "law" = some (some (.ref f27)))
    (l27 : K.lookup f27 = some ⟨oc27, od27, .func (PySem.W.fnOf "law" "law" (defArgs (src 44)) (defBody (src 44)) (defScope (src 44)) .none kV27 dc27 pm27 an27 cd27 ct27), sl27⟩)
    (c27 : PySem.W.codeIn K cd27 "law" = true) (k27 : PySem.W.keepIn K (.ref f27) = true)
    (z0 : PySem.W.nsIn K mainGlobals "len" = some none)
    (z1 : PySem.W.nsIn K mainGlobals "int" = some none)
    (z2 : PySem.W.nsIn K mainGlobals "abs" = some none)
    (z3 : PySem.W.nsIn K mainGlobals "list" = some none)
    (z4 : PySem.W.nsIn K mainGlobals "tuple" = some none)
    (z5 : PySem.W.nsIn K mainGlobals "max" = some none)
    (z6 : PySem.W.nsIn K mainGlobals "min" = some none)
    (z7 : PySem.W.nsIn K mainGlobals "sum" = some none)
    (z8 : PySem.W.nsIn K mainGlobals "any" = some none)
    (z9 : PySem.W.nsIn K mainGlobals "all" = some none)
    (z10 : PySem.W.nsIn K mainGlobals "repr" = some none)
    (z11 : PySem.W.nsIn K mainGlobals "isinstance" = some none)
    (z12 : PySem.W.nsIn K mainGlobals "bool" = some none)
    (z13 : PySem.W.nsIn K mainGlobals "str" = some none)
    (z14 : PySem.W.nsIn K mainGlobals "range" = some none)
    (z15 : PySem.W.nsIn K mainGlobals "enumerate" = some none)
    (z16 : PySem.W.nsIn K mainGlobals "zip" = some none)
    (z17 : PySem.W.nsIn K mainGlobals "reversed" = some none)
    (z18 : PySem.W.nsIn K mainGlobals "sorted" = some none)
    {gt0 : Tok}
    (qg0 : PySem.W.nsIn K mainGlobals "NAME_LENGTH" = some (some (.int 40 gt0)))
    {gt1 : Tok}
    (qg1 : PySem.W.nsIn K mainGlobals "NAME_SIGNS" = some (some (.str "abcdefghijklmnopqrstuvwxyz0123456789[],-" gt1)))
    {gt2 : Tok}
    (qg2 : PySem.W.nsIn K mainGlobals "LETTERS" = some (some (.str "abcdefghijklmnopqrstuvwxyz" gt2)))
    : ∃ fd : FuncData, (∀ (s : Shared) (v : Value), BindsTo s fd ⟨[v], []⟩ [("_law_script", v)]) ∧ ∀ base : Heap, K.In base → base.Ns mainGlobals mg → FnG l.prog w K mg base 11 fa fd ["_law_script"] (spF w K mg 1 f_law) := by
  have T : Tx w K mg := by
    refine ⟨fun y hy => ?_, ?_, ?_, ?_, ?_, ?_, ?_, ?_, ?_, ?_, ?_, ?_, ?_, ?_, ?_, ?_, ?_, ?_, ?_, ?_, ?_, ?_, ?_, ?_, ?_, ?_, ?_, ?_, ?_, ?_, ?_, ?_, ?_, ?_⟩
    · simp only [bltNames, List.mem_cons, List.not_mem_nil, or_false] at hy
      rcases hy with rfl | rfl | rfl | rfl | rfl | rfl | rfl | rfl | rfl | rfl | rfl | rfl | rfl | rfl | rfl | rfl | rfl | rfl | rfl
      · exact PySem.W.mg_none_of X G z0
      · exact PySem.W.mg_none_of X G z1
      · exact PySem.W.mg_none_of X G z2
      · exact PySem.W.mg_none_of X G z3
      · exact PySem.W.mg_none_of X G z4
      · exact PySem.W.mg_none_of X G z5
      · exact PySem.W.mg_none_of X G z6
      · exact PySem.W.mg_none_of X G z7
      · exact PySem.W.mg_none_of X G z8
      · exact PySem.W.mg_none_of X G z9
      · exact PySem.W.mg_none_of X G z10
      · exact PySem.W.mg_none_of X G z11
      · exact PySem.W.mg_none_of X G z12
      · exact PySem.W.mg_none_of X G z13
      · exact PySem.W.mg_none_of X G z14
      · exact PySem.W.mg_none_of X G z15
      · exact PySem.W.mg_none_of X G z16
      · exact PySem.W.mg_none_of X G z17
      · exact PySem.W.mg_none_of X G z18
    · have F := fun_mk (st := (src 34)) l0 c0 k0
      exact ⟨_, _, F, PySem.W.mg_of X G a0, F.binds (ps := ["_law_cell_here", "_law_sizes"]) fun _ _ _ _ _ _ us hl => match us, hl with | [_, _], _ => rfl⟩
    · have F := fun_mk (st := (src 33)) l1 c1 k1
      exact ⟨_, _, F, PySem.W.mg_of X G a1, F.binds (ps := ["_law_script", "_law_k"]) fun _ _ _ _ _ _ us hl => match us, hl with | [_, _], _ => rfl⟩
    · have F := fun_mk (st := (src 37)) l2 c2 k2
      exact ⟨_, _, F, PySem.W.mg_of X G a2, F.binds (ps := ["_law_row", "_law_names_here"]) fun _ _ _ _ _ _ us hl => match us, hl with | [_, _], _ => rfl⟩
    · have F := fun_mk (st := (src 36)) l3 c3 k3
      exact ⟨_, _, F, PySem.W.mg_of X G a3, F.binds (ps := ["_law_digit"]) fun _ _ _ _ _ _ us hl => match us, hl with | [_], _ => rfl⟩
    · have F := fun_mk (st := (src 43)) l4 c4 k4
      exact ⟨_, _, F, PySem.W.mg_of X G a4, F.binds (ps := ["_law_steps", "_law_row"]) fun _ _ _ _ _ _ us hl => match us, hl with | [_, _], _ => rfl⟩
    · have F := fun_mk (st := (src 38)) l5 c5 k5
      exact ⟨_, _, F, PySem.W.mg_of X G a5, F.binds (ps := ["_law_row", "_law_hands"]) fun _ _ _ _ _ _ us hl => match us, hl with | [_, _], _ => rfl⟩
    · have F := fun_mk (st := (src 13)) l6 c6 k6
      exact ⟨_, _, F, PySem.W.mg_of X G a6, F.binds (ps := ["value"]) fun _ _ _ _ _ _ us hl => match us, hl with | [_], _ => rfl⟩
    · have F := fun_mk (st := (src 10)) l7 c7 k7
      exact ⟨_, _, F, PySem.W.mg_of X G a7, F.binds (ps := ["text", "signs"]) fun _ _ _ _ _ _ us hl => match us, hl with | [_, _], _ => rfl⟩
    · have F := fun_mk (st := (src 11)) l8 c8 k8
      exact ⟨_, _, F, PySem.W.mg_of X G a8, F.binds (ps := ["value"]) fun _ _ _ _ _ _ us hl => match us, hl with | [_], _ => rfl⟩
    · have F := fun_mk (st := (src 14)) l9 c9 k9
      exact ⟨_, _, F, PySem.W.mg_of X G a9, F.binds (ps := ["value"]) fun _ _ _ _ _ _ us hl => match us, hl with | [_], _ => rfl⟩
    · have F := fun_mk (st := (src 15)) l10 c10 k10
      exact ⟨_, _, F, PySem.W.mg_of X G a10, F.binds (ps := ["value", "many"]) fun _ _ _ _ _ _ us hl => match us, hl with | [_, _], _ => rfl⟩
    · have F := fun_mk (st := (src 17)) l11 c11 k11
      exact ⟨_, _, F, PySem.W.mg_of X G a11, F.binds (ps := ["step", "index"]) fun _ _ _ _ _ _ us hl => match us, hl with | [_, _], _ => rfl⟩
    · have F := fun_mk (st := (srcM 21 0)) l12 c12 k12
      refine ⟨_, _, _, PySem.W.mg_of X G aC0, ⟨mk0, a12, i12, kc0⟩, ⟨pg0, hd0, po0, sa0⟩, F, F.binds (ps := ["self", "steps", "outputs"]) fun _ _ _ _ _ _ us hl => match us, hl with | [_, _, _], _ => rfl, fun g hg => ?_⟩
      simp only [List.mem_cons, List.not_mem_nil, or_false] at hg
      rcases hg with rfl | rfl
      · exact n0_0
      · exact n0_1
    · have F := fun_mk (st := (src 32)) l13 c13 k13
      exact ⟨_, _, F, PySem.W.mg_of X G a13, F.binds (ps := ["_law_value"]) fun _ _ _ _ _ _ us hl => match us, hl with | [_], _ => rfl⟩
    · have F := fun_mk (st := (src 35)) l14 c14 k14
      exact ⟨_, _, F, PySem.W.mg_of X G a14, F.binds (ps := ["_law_told", "_law_due"]) fun _ _ _ _ _ _ us hl => match us, hl with | [_, _], _ => rfl⟩
    · have F := fun_mk (st := (src 39)) l15 c15 k15
      exact ⟨_, _, F, PySem.W.mg_of X G a15, F.binds (ps := ["_law_steps", "_law_done"]) fun _ _ _ _ _ _ us hl => match us, hl with | [_, _], _ => rfl⟩
    · have F := fun_mk (st := (src 18)) l16 c16 k16
      exact ⟨_, _, F, PySem.W.mg_of X G a16, F.binds (ps := ["step"]) fun _ _ _ _ _ _ us hl => match us, hl with | [_], _ => rfl⟩
    · have F := fun_mk (st := (src 25)) l17 c17 k17
      exact ⟨_, _, F, PySem.W.mg_of X G a17, F.binds (ps := ["step", "steps", "done"]) fun _ _ _ _ _ _ us hl => match us, hl with | [_, _, _], _ => rfl⟩
    · have F := fun_mk (st := (src 26)) l18 c18 k18
      exact ⟨_, _, F, PySem.W.mg_of X G a18, F.binds (ps := ["steps", "done"]) fun _ _ _ _ _ _ us hl => match us, hl with | [_, _], _ => rfl⟩
    · have F := fun_mk (st := (src 29)) l19 c19 k19
      exact ⟨_, _, F, PySem.W.mg_of X G a19, F.binds (ps := ["program", "done"]) fun _ _ _ _ _ _ us hl => match us, hl with | [_, _], _ => rfl⟩
    · have F := fun_mk (st := (src 41)) l20 c20 k20
      exact ⟨_, _, F, PySem.W.mg_of X G a20, F.binds (ps := ["_law_ready_here", "_law_many", "_law_picks", "_law_used"]) fun _ _ _ _ _ _ us hl => match us, hl with | [_, _, _, _], _ => rfl⟩
    · have F := fun_mk (st := (src 40)) l21 c21 k21
      exact ⟨_, _, F, PySem.W.mg_of X G a21, F.binds (ps := ["_law_hands", "_law_late_here", "_law_turn"]) fun _ _ _ _ _ _ us hl => match us, hl with | [_, _, _], _ => rfl⟩
    · have F := fun_mk (st := (src 42)) l22 c22 k22
      exact ⟨_, _, F, PySem.W.mg_of X G a22, F.binds (ps := ["_law_steps", "_law_hands", "_law_late_here", "_law_picks"]) fun _ _ _ _ _ _ us hl => match us, hl with | [_, _, _, _], _ => rfl⟩
    · have F := fun_mk (st := (src 23)) l23 c23 k23
      exact ⟨_, _, F, PySem.W.mg_of X G a23, F.binds (ps := ["program"]) fun _ _ _ _ _ _ us hl => match us, hl with | [_], _ => rfl⟩
    · have F := fun_mk (st := (src 27)) l24 c24 k24
      exact ⟨_, _, F, PySem.W.mg_of X G a24, F.binds (ps := ["ready", "many", "picks", "used"]) fun _ _ _ _ _ _ us hl => match us, hl with | [_, _, _, _], _ => rfl⟩
    · have F := fun_mk (st := (src 28)) l25 c25 k25
      exact ⟨_, _, F, PySem.W.mg_of X G a25, F.binds (ps := ["hands", "late", "turn"]) fun _ _ _ _ _ _ us hl => match us, hl with | [_, _, _], _ => rfl⟩
    · have F := fun_mk (st := (src 30)) l26 c26 k26
      exact ⟨_, _, fun us ws => us ++ ws, fun vs zs => vs ++ zs, F, PySem.W.mg_of X G a26, ⟨fun s us ws _ l1 l2 => match us, ws, l1, l2 with | [_, _], [_, _], _, _ => BindsTo.of_eq rfl, fun r1 r2 => r1.append r2⟩, fun F vs zs ds es h1 h2 r1 r2 => ⟨r1.append r2, by rw [List.length_append, h1, h2]; rfl⟩⟩
    · have F := fun_mk (st := (src 30)) l26 c26 k26
      exact ⟨_, _, _, [(.ref kA26_0), (.ref kA26_1)], F, PySem.W.mg_of X G a26, kwBinds (n := 2) (l := [("late", (.ref kA26_0)), ("picks", (.ref kA26_1))]) rfl (fun q hq => by simp only [List.mem_cons, List.not_mem_nil, or_false] at hq; rcases hq with rfl | rfl <;> assumption) (fun us hl => match us, hl with | [_, _], _ => ⟨_, _, _, _, _, _, rfl, rfl, ⟨_, _, _, _, _, _, rfl, rfl, rfl⟩⟩), (.cons rfl (.cons rfl .nil)), fun F => (.cons (.tup (xs := []) (.inr ⟨_, _, _, ke26_0, rfl, rfl, by rw [sizeLine_eq]; decide, .nil⟩) .nil) (.cons (.tup (xs := []) (.inr ⟨_, _, _, ke26_1, rfl, rfl, by rw [sizeLine_eq]; decide, .nil⟩) .nil) .nil))⟩
    · have F := fun_mk (st := (src 30)) l26 c26 k26
      exact ⟨_, _, fun us ws => us ++ [(.ref kA26_0), (ws[0]?).getD .none], fun vs zs => vs ++ [(.ref kA26_0), (zs[0]?).getD .non], F, PySem.W.mg_of X G a26, ⟨fun s us ws X l1 l2 => match us, ws, l1, l2 with | [_, _], [_], _, _ => BindsTo.of_looks fun M => KwChain.looks (l := [("late", (.ref kA26_0))]) X (fun q hq => by simp only [List.mem_cons, List.not_mem_nil, or_false] at hq; rcases hq with rfl <;> assumption) ⟨_, _, _, _, _, _, rfl, rfl, (by show _ = _; simp <;> rfl)⟩, fun r1 r2 => r1.append (.cons rfl (.cons (vals_getD r2 0) .nil))⟩, fun F vs zs ds es h1 h2 r1 r2 => ⟨r1.append (.cons (.tup (xs := []) (.inr ⟨_, _, _, ke26_0, rfl, rfl, by rw [sizeLine_eq]; decide, .nil⟩) .nil) (.cons (reps_getD r2 0) .nil)), by rw [List.length_append, h1]; rfl⟩⟩
    · have F := fun_mk (st := (src 44)) l27 c27 k27
      exact ⟨_, _, F, PySem.W.mg_of X G a27, F.binds (ps := ["_law_script"]) fun _ _ _ _ _ _ us hl => match us, hl with | [_], _ => rfl⟩
    · exact ⟨_, (.int 40), PySem.W.mg_of X G qg0, ⟨_, rfl⟩, fun F => .int _⟩
    · exact ⟨_, (.str "abcdefghijklmnopqrstuvwxyz0123456789[],-"), PySem.W.mg_of X G qg1, ⟨_, rfl⟩, fun F => .str _⟩
    · exact ⟨_, (.str "abcdefghijklmnopqrstuvwxyz"), PySem.W.mg_of X G qg2, ⟨_, rfl⟩, fun F => .str _⟩
  refine law_mk (g := f_law) T.a_law hfa (fun base f fd F => ?_) fun _ _ _ _ _ _ _ => rfl
  refine defG (N := n_law) (n := 1) (k := 10) (body := b_law) F k_law T.blt ?_
  have h_Ldigits : CallD l.prog w K mg base 10 "_law_digits" 2 f_Ldigits := (c_Ldigits T).mono (by decide)
  have h_Lcell : CallD l.prog w K mg base 10 "_law_cell" 2 f_Lcell := (c_Lcell T).mono (by decide)
  have h_Lwide : CallD l.prog w K mg base 10 "_law_wide" 2 f_Lwide := (c_Lwide T).mono (by decide)
  have h_Lnames : CallD l.prog w K mg base 10 "_law_names" 1 f_Lnames := (c_Lnames T).mono (by decide)
  have h_Llate_leaves : CallD l.prog w K mg base 10 "_law_late_leaves" 2 f_Llate_leaves := (c_Llate_leaves T).mono (by decide)
  have h_Llate : CallD l.prog w K mg base 10 "_law_late" 2 f_Llate := (c_Llate T).mono (by decide)
  have h_iStraight : MkD l.prog w K mg base 10 "Straight" 2 f_iStraight := (c_iStraight T).mono (by decide)
  have h_Lsame : CallD l.prog w K mg base 10 "_law_same" 2 f_Lsame := (c_Lsame T).mono (by decide)
  have h_Lready : CallD l.prog w K mg base 10 "_law_ready" 2 f_Lready := (c_Lready T).mono (by decide)
  have h_ready_steps : CallD l.prog w K mg base 10 "ready_steps" 2 f_ready_steps := (c_ready_steps T).mono (by decide)
  have h_Lrun : CallD l.prog w K mg base 10 "_law_run" 4 f_Lrun := (c_Lrun T).mono (by decide)
  have h_run_rounds_k_late_picks : FnK l.prog w K mg base 10 "run_rounds" 2 ["late", "picks"] f_run_rounds_k_late_picks := (c_run_rounds_k_late_picks T).mono (by decide)
  have h_run_rounds_b : CallD l.prog w K mg base 10 "run_rounds" 2 f_run_rounds_b := (c_run_rounds_b T).mono (by decide)
  have h_run_rounds_k_picks : FnK l.prog w K mg base 10 "run_rounds" 2 ["picks"] f_run_rounds_k_picks := (c_run_rounds_k_picks T).mono (by decide)
  simp only [b_law, ObII, ObI1, ObB, ObS, ObE, ObL, ObO, ObI, and_true, true_and, and_self, List.mem_cons, List.not_mem_nil, or_false, forall_eq_or_imp, forall_eq]
  try repeat' (first | assumption | apply And.intro)
end Law

namespace Law
open PySem PySem.Spec PyProof.Rows L2 Dl
theorem whole_int (i : Int) : f_Lwhole [.int i] = .ok (.bl true) := rfl
theorem whole_b (b : Bool) : f_Lwhole [.bl b] = .ok (.bl false) := rfl
theorem cell_ok (ns : List Int) (k : Int) (h0 : 0 ≤ k) (h1 : k < 1000000) : ∃ c, f_Lcell [.lst (ns.map .int), .int k] = .ok (.int c) := by
  show ∃ c, (execL b_Lcell [some (.lst (ns.map .int)), some (.int k), none, none]).fin = .ok (.int c)
  by_cases h : k < ns.length
  · have hn : k.toNat < ns.length := by omega
    have e : idxD (.lst (ns.map .int)) (.int k) = .ok (.int (ns[k.toNat])) := idxD_lst (j := k.toNat) (by rw [List.length_map]; exact ixN_at h0 h) (by rw [List.getElem?_map, List.getElem?_eq_getElem hn]; rfl)
    simp [b_Lcell, h, e]
  · simp [b_Lcell, h]
    refine for_nm (P := fun o => ∃ c, o.fin = .ok (.int c)) (fun i s => ∃ z o, 0 ≤ z ∧ z < 1000003 ∧ s = [some (.lst (ns.map .int)), some (.int k), some (.int z), o]) ⟨17, none, by decide, by decide, rfl⟩ ?_ ?_
    · rintro i d s J hi ⟨z, o, h2, h3, rfl⟩ hJ
      obtain ⟨n, -, rfl⟩ := at_map hi
      simp [mulD_int (abs_of (a := z) 1000003 (by omega) (by omega)) (abs_of (a := 31) 31 (by decide) (by decide)), modD_int]
      exact hJ _ ⟨_, _, by omega, by omega, rfl⟩
    · rintro s ⟨z, o, h2, h3, rfl⟩
      have e1 : mulD (.int (z + 7)) (.int (k + 3)) = .ok (.int ((z + 7) * (k + 3))) := mulD_int (abs_of 2000000 (by omega) (by omega)) (abs_of 2000000 (by omega) (by omega))
      have hp1 : 0 ≤ (z + 7) * (k + 3) := Int.mul_nonneg (by omega) (by omega)
      have hp2 : (z + 7) * (k + 3) ≤ 2000000 * 2000000 := Int.mul_le_mul (by omega) (by omega) (by omega) (by omega)
      have e2 : mulD (.int ((z + 7) * (k + 3))) (.int 69621) = .ok (.int ((z + 7) * (k + 3) * 69621)) := mulD_int (abs_of (2000000 * 2000000) (by omega) (by omega)) (abs_of 69621 (by decide) (by decide))
      simp [e1, e2, modD_int]
/-- what a row of digits is -/
def Row (sizes row : List Int) : Prop := row.length = sizes.length ∧ ∀ (i : Nat) (z : Int), row[i]? = some z → ∃ y, sizes[i]? = some y ∧ 0 ≤ z ∧ z < y
theorem Row.snoc {sizes row : List Int} {i : Nat} {y z : Int} (hl : row.length = i) (h : ∀ (i : Nat) (z : Int), row[i]? = some z → ∃ y, sizes[i]? = some y ∧ 0 ≤ z ∧ z < y) (hy : sizes[i]? = some y) (h0 : 0 ≤ z) (h1 : z < y) :
    ∀ (j : Nat) (w : Int), (row ++ [z])[j]? = some w → ∃ y, sizes[j]? = some y ∧ 0 ≤ w ∧ w < y := by
  intro j w hj
  by_cases hji : j < row.length
  · rw [List.getElem?_append_left hji] at hj; exact h j w hj
  · rw [List.getElem?_append_right (by omega)] at hj
    have : j - row.length = 0 := by
      by_cases h0 : j - row.length = 0
      · exact h0
      · rw [List.getElem?_eq_none (by simp; omega)] at hj; cases hj
    rw [this] at hj
    cases hj
    have : j = i := by omega
    subst this
    exact ⟨y, hy, h0, h1⟩
theorem digits_big (c : Int) (hc : 1000000000000000000 ≤ c) (sizes : List Int) (hs : ∀ y ∈ sizes, 0 < y ∧ y < 1000000000000) (hl : sizes.length ≤ 1000) : ∃ row : List Int, Row sizes row ∧ f_Ldigits [.int c, .lst (sizes.map .int)] = .ok (.lst (row.map .int)) := by
  show ∃ row : List Int, Row sizes row ∧ (execL b_Ldigits [some (.int c), some (.lst (sizes.map .int)), none, none, none, none, none, none]).fin = _
  have p18 : powD (.int 10) (.int 18) = .ok (.int 1000000000000000000) := pow10_18
  have hlen : ∀ n, n ≤ 1000 → n < 16777216 := fun n h => by omega
  simp [b_Ldigits, p18, hc]
  refine for_nm (P := fun o => ∃ row : List Int, Row sizes row ∧ o.fin = .ok (.lst (row.map .int))) (fun i s => ∃ (row : List Int) (z : Int) (o : Option D), row.length = i ∧ (∀ (j : Nat) (w : Int), row[j]? = some w → ∃ y, sizes[j]? = some y ∧ 0 ≤ w ∧ w < y) ∧ s = [some (.int c), some (.lst (sizes.map .int)), some (.lst (row.map .int)), some (.int z), none, none, o, none])
    ⟨[], _, _, rfl, (fun j w h => by simp at h), rfl⟩ ?_ ?_
  · rintro i d s J hi ⟨row, z, o, h2, h3, rfl⟩ hJ
    obtain ⟨y, hy, rfl⟩ := at_map hi
    obtain ⟨y0, y1⟩ := hs y (List.mem_of_getElem? hy)
    have hi' := (List.getElem?_eq_some_iff.mp hy).1
    simp [modD_int y0, fdivD_int (a := z) y0 (by omega), meO, meD, h2, hlen i (by omega)]
    exact hJ _ ⟨row ++ [z % y], _, _, by simp [h2], Row.snoc h2 h3 hy (Int.emod_nonneg _ (by omega)) (Int.emod_lt_of_pos _ y0), by rw [List.map_append]; rfl⟩
  · rintro s ⟨row, z, o, h2, h3, rfl⟩
    simp
    exact ⟨row, ⟨by simpa using h2, h3⟩, rfl⟩
theorem digits_low (c : Int) (hc : ¬ 1000000000000000000 ≤ c) (sizes : List Int) (hs : ∀ y ∈ sizes, 0 < y ∧ y < 1000000000000) (hl : sizes.length ≤ 1000) : ∃ row : List Int, Row sizes row ∧ f_Ldigits [.int c, .lst (sizes.map .int)] = .ok (.lst (row.map .int)) := by
  show ∃ row : List Int, Row sizes row ∧ (execL b_Ldigits [some (.int c), some (.lst (sizes.map .int)), none, none, none, none, none, none]).fin = _
  have p18 : powD (.int 10) (.int 18) = .ok (.int 1000000000000000000) := pow10_18
  have hlen : ∀ n, n ≤ 1000 → n < 16777216 := fun n h => by omega
  simp [b_Ldigits, p18, hc, modD_int, rngD_len (n := sizes.length) (by omega)]
  refine for_nm (P := fun o => ∃ row : List Int, Row sizes row ∧ o.fin = .ok (.lst (row.map .int))) (fun i s => ∃ (row : List Int) (z : Int) (o o7 : Option D), row.length = i ∧ (0 ≤ z ∧ z < 2147483647) ∧ (∀ (j : Nat) (w : Int), row[j]? = some w → ∃ y, sizes[j]? = some y ∧ 0 ≤ w ∧ w < y) ∧ s = [some (.int c), some (.lst (sizes.map .int)), some (.lst (row.map .int)), some (.int c), some (.int z), o, none, o7])
    ⟨[], _, _, _, rfl, ⟨Int.emod_nonneg _ (by decide), by omega⟩, (fun j w h => by simp at h), rfl⟩ ?_ ?_
  · rintro i d s J hi ⟨row, z, o, o7, h2, h4, h3, rfl⟩ hJ
    obtain ⟨hi', rfl⟩ := at_range hi
    have hy : sizes[i]? = some sizes[i] := List.getElem?_eq_getElem hi'
    obtain ⟨y0, y1⟩ := hs _ (List.getElem_mem hi')
    have e1 : mulD (.int z) (.int 48271) = .ok (.int (z * 48271)) := mulD_int (abs_of 2147483647 (by omega) (by omega)) (abs_of 48271 (by decide) (by decide))
    have e2 : mulD (.int 974711) (.int (i : Int)) = .ok (.int (974711 * (i : Int))) := mulD_int (abs_of 974711 (by decide) (by decide)) (abs_of 1000 (by omega) (by omega))
    have hz' := Int.emod_nonneg (z * 48271 + 974711 * (i : Int) + 12345) (show (2147483647 : Int) ≠ 0 by decide)
    have hz'' := Int.emod_lt_of_pos (z * 48271 + 974711 * (i : Int) + 12345) (show (0 : Int) < 2147483647 by decide)
    generalize hq : (z * 48271 + 974711 * (i : Int) + 12345) % 2147483647 = q at hz' hz''
    have e3 : mulD (.int q) (.int (q / 65537 + 3)) = .ok (.int (q * (q / 65537 + 3))) := mulD_int (abs_of 2147483647 (by omega) (by omega)) (abs_of 2147483647 (by omega) (by omega))
    have ix : idxD (.lst (sizes.map .int)) (.int (i : Int)) = .ok (.int sizes[i]) := idxD_lst (j := i) (by rw [List.length_map]; exact ixN_nat hi') (by rw [List.getElem?_map, hy]; rfl)
    simp [e1, e2, hq, e3, ix, modD_int, fdivD_int, y0, meO, meD, h2, hlen i (by omega)]
    exact hJ _ ⟨row ++ [_], q, _, _, by simp [h2], ⟨hz', hz''⟩, Row.snoc h2 h3 hy (Int.emod_nonneg _ (by omega)) (Int.emod_lt_of_pos _ y0), by rw [List.map_append]; rfl⟩
  · rintro s ⟨row, z, o, o7, h2, h4, h3, rfl⟩
    simp
    exact ⟨row, ⟨by simpa using h2, h3⟩, rfl⟩
theorem digits_ok (c : Int) (sizes : List Int) (hs : ∀ y ∈ sizes, 0 < y ∧ y < 1000000000000) (hl : sizes.length ≤ 1000) : ∃ row : List Int, Row sizes row ∧ f_Ldigits [.int c, .lst (sizes.map .int)] = .ok (.lst (row.map .int)) := by
  by_cases hc : 1000000000000000000 ≤ c
  · exact digits_big c hc sizes hs hl
  · exact digits_low c hc sizes hs hl

end Law
namespace Law
open PySem PySem.Spec PyProof.Rows L2 Dl
/-! ### names, rows of digits -/
def menu : List Str := ["a", "x[10]", "b", "x[2]", "ab", "z", "a1", "x[2,-1]"]
def namesOf (n : Nat) : List Str := (List.range 4).map fun k => menu.getD ((n + 3 * k) % 8) ""
theorem names_ok {n : Int} (h0 : 0 ≤ n) (h1 : n < 8) : f_Lnames [.int n] = .ok (.lst ((namesOf n.toNat).map .str)) ∧ (namesOf n.toNat).length = 4 ∧ ∀ x ∈ namesOf n.toNat, x ∈ menu := by
  have : n = 0 ∨ n = 1 ∨ n = 2 ∨ n = 3 ∨ n = 4 ∨ n = 5 ∨ n = 6 ∨ n = 7 := by omega
  rcases this with rfl | rfl | rfl | rfl | rfl | rfl | rfl | rfl
  all_goals exact ⟨rfl, rfl, by decide⟩
theorem Row.get {sizes row : List Int} (h : Row sizes row) {i : Int} (h0 : 0 ≤ i) {y : Int} (hy : sizes[i.toNat]? = some y) : ∃ z, idxD (.lst (row.map D.int)) (.int i) = .ok (.int z) ∧ row[i.toNat]? = some z ∧ 0 ≤ z ∧ z < y := by
  have hl := (List.getElem?_eq_some_iff.mp hy).1
  rw [← h.1] at hl
  obtain ⟨y', g1, g2, g3⟩ := h.2 i.toNat row[i.toNat] (List.getElem?_eq_getElem hl)
  rw [hy] at g1; cases g1
  exact ⟨_, (idx_ints h0 (List.getElem?_eq_getElem hl)).1, List.getElem?_eq_getElem hl, g2, g3⟩
theorem Row.getN {sizes row : List Int} (h : Row sizes row) {i : Nat} {y : Int} (hy : sizes[i]? = some y) : ∃ z, row[i]? = some z ∧ 0 ≤ z ∧ z < y := by
  have hl := (List.getElem?_eq_some_iff.mp hy).1
  rw [← h.1] at hl
  obtain ⟨y', g1, g2, g3⟩ := h.2 i row[i] (List.getElem?_eq_getElem hl)
  rw [hy] at g1; cases g1
  exact ⟨_, List.getElem?_eq_getElem hl, g2, g3⟩
theorem pick_name {names : List Str} (hn : names.length = 4) (j : Int) : ∃ x ∈ names, idxD (.lst (names.map .str)) (.int (j % 4)) = .ok (.str x) := by
  have h0 := Int.emod_nonneg j (show (4 : Int) ≠ 0 by decide)
  have h1 := Int.emod_lt_of_pos j (show (0 : Int) < 4 by decide)
  generalize j % 4 = z at h0 h1
  have hl : z.toNat < names.length := by omega
  exact ⟨names[z.toNat], List.getElem_mem hl, idxD_lst (ixN_at h0 (by rw [List.length_map]; omega)) (by rw [List.getElem?_map, List.getElem?_eq_getElem hl]; rfl)⟩

end Law
namespace Law
open PySem PySem.Spec PyProof.Rows L2 Dl
/-! ### straight programs -/
theorem s_ii : (Str.ofString "input" == Str.ofString "input") = true := by decide
theorem s_in : (Str.ofString "input" == Str.ofString "number") = false := by decide
theorem s_ip : (Str.ofString "input" == Str.ofString "plus") = false := by decide
theorem s_it : (Str.ofString "input" == Str.ofString "times") = false := by decide
theorem s_ni : (Str.ofString "number" == Str.ofString "input") = false := by decide
theorem s_nn : (Str.ofString "number" == Str.ofString "number") = true := by decide
theorem s_np : (Str.ofString "number" == Str.ofString "plus") = false := by decide
theorem s_nt : (Str.ofString "number" == Str.ofString "times") = false := by decide
theorem s_pi : (Str.ofString "plus" == Str.ofString "input") = false := by decide
theorem s_pn : (Str.ofString "plus" == Str.ofString "number") = false := by decide
theorem s_pp : (Str.ofString "plus" == Str.ofString "plus") = true := by decide
theorem s_pt : (Str.ofString "plus" == Str.ofString "times") = false := by decide
theorem s_ti : (Str.ofString "times" == Str.ofString "input") = false := by decide
theorem s_tn : (Str.ofString "times" == Str.ofString "number") = false := by decide
theorem s_tp : (Str.ofString "times" == Str.ofString "plus") = false := by decide
theorem s_tt : (Str.ofString "times" == Str.ofString "times") = true := by decide
theorem in_words {x : Str} (hx : PyData.strOk x = true) : inD (.str x) (.tup [.str "plus", .str "times"]) = .ok (.bl (Str.ofString "plus" == x || Str.ofString "times" == x)) := by
  have h : okN 1 (.tup [.str "plus", .str "times"]) := okN_tup fun d hd => by
    simp only [List.mem_cons, List.not_mem_nil, or_false] at hd
    rcases hd with rfl | rfl
    · exact okN_str (by decide +kernel)
    · exact okN_str (by decide +kernel)
  rw [inD_tupOk (okE_str hx) (h.ok (by decide))]
  simp [eqv_str]
theorem in_i : inD (.str "input") (.tup [.str "plus", .str "times"]) = .ok (.bl false) := by rw [in_words (by decide +kernel), s_pi, s_ti]; rfl
theorem in_n : inD (.str "number") (.tup [.str "plus", .str "times"]) = .ok (.bl false) := by rw [in_words (by decide +kernel), s_pn, s_tn]; rfl
theorem in_p : inD (.str "plus") (.tup [.str "plus", .str "times"]) = .ok (.bl true) := by rw [in_words (by decide +kernel), s_pp]; rfl
theorem in_t : inD (.str "times") (.tup [.str "plus", .str "times"]) = .ok (.bl true) := by rw [in_words (by decide +kernel), s_tt, s_pt]; rfl
theorem name_menu : ∀ x ∈ menu, f_is_name [.str x] = .ok (.bl true) := by
  intro x hx
  simp only [menu, List.mem_cons, List.not_mem_nil, or_false] at hx
  rcases hx with rfl | rfl | rfl | rfl | rfl | rfl | rfl | rfl <;> rfl
theorem frozen_ok : ∀ (n j : Nat) (d : D), fzok n d → fixD n_frozen 1 b_frozen (n + j + 1) [d] = .ok d.fz := by
  intro n
  induction n with
  | zero =>
    intro j d h
    cases d <;> first | rfl | simp [fzok] at h
  | succ n ih =>
    intro j d h
    have key : ∀ (xs : List D) (v : D), xs.length < 1000000 → (∀ x ∈ xs, fzok n x) → compR (.nm 1) (evC .none) (evE (.call "frozen" (fixD n_frozen 1 b_frozen (n + j + 1)) (.cons (.v 1) .nil))) [some v, none] xs = .ok (.lst (xs.map D.fz)) := fun xs v hl hx =>
      compR_ok (compL_all D.fz xs fun d hd => ⟨_, rfl, rfl, by simp [Tg.vs, wipeS, ih j d (hx d hd)]⟩) (by omega)
    cases d with
    | tup xs =>
      have h' : xs.length < 1000000 ∧ ∀ x ∈ xs, fzok n x := h
      rw [show n + 1 + j + 1 = (n + j + 1) + 1 by omega]
      show (execL (b_frozen (fixD n_frozen 1 b_frozen (n + j + 1))) [some (.tup xs), none]).fin = .ok (.tup (D.fzs xs))
      simp [b_frozen, key xs (.tup xs) h'.1 h'.2, fzs_map]
    | lst xs =>
      have h' : xs.length < 1000000 ∧ ∀ x ∈ xs, fzok n x := h
      rw [show n + 1 + j + 1 = (n + j + 1) + 1 by omega]
      show (execL (b_frozen (fixD n_frozen 1 b_frozen (n + j + 1))) [some (.lst xs), none]).fin = .ok (.tup (D.fzs xs))
      simp [b_frozen, key xs (.lst xs) h'.1 h'.2, fzs_map]
    | _ => first | rfl | simp [fzok] at h
theorem same_refl : ∀ (n j : Nat) (d : D), ttok n d → fixD n_Lsame 2 b_Lsame (n + j + 1) [d, d] = .ok (.bl true) := by
  intro n
  induction n with
  | zero =>
    intro j d h
    cases d with
    | bl b => cases b <;> rfl
    | non => rfl
    | int i =>
      show (execL (b_Lsame (fixD n_Lsame 2 b_Lsame (0 + j))) [some (.int i), some (.int i), none]).fin = _
      simp [b_Lsame, whole_int]
    | str x =>
      show (execL (b_Lsame (fixD n_Lsame 2 b_Lsame (0 + j))) [some (.str x), some (.str x), none]).fin = _
      simp [b_Lsame]
    | _ => simp [ttok] at h
  | succ n ih =>
    intro j d h
    rw [show n + 1 + j + 1 = (n + j + 1) + 1 by omega]
    cases d with
    | bl b => cases b <;> rfl
    | non => rfl
    | int i =>
      show (execL (b_Lsame (fixD n_Lsame 2 b_Lsame (n + j + 1))) [some (.int i), some (.int i), none]).fin = _
      simp [b_Lsame, whole_int]
    | str x =>
      show (execL (b_Lsame (fixD n_Lsame 2 b_Lsame (n + j + 1))) [some (.str x), some (.str x), none]).fin = _
      simp [b_Lsame]
    | tup xs =>
      have h' : xs.length < 1000000 ∧ ∀ x ∈ xs, ttok n x := h
      show (execL (b_Lsame (fixD n_Lsame 2 b_Lsame (n + j + 1))) [some (.tup xs), some (.tup xs), none]).fin = _
      simp [b_Lsame, rngD_len (n := xs.length) (by omega)]
      refine for_nm (P := fun o => o.fin = .ok (.bl true)) (fun i s => ∃ o, s = [some (.tup xs), some (.tup xs), o]) ⟨none, rfl⟩ ?_ ?_
      · rintro i d s J hi ⟨o, rfl⟩ hJ
        obtain ⟨hi', rfl⟩ := at_range hi
        have ix : idxD (.tup xs) (.int (i : Int)) = .ok xs[i] := idxD_tup (j := i) (ixN_nat hi') (List.getElem?_eq_getElem hi')
        simp [ix, ih j xs[i] (h'.2 _ (List.getElem_mem hi'))]
        exact hJ _ ⟨_, rfl⟩
      · rintro s ⟨o, rfl⟩
        simp
    | _ => simp [ttok] at h
theorem same_ok {n : Nat} {d : D} (h : ttok n d) (hn : n ≤ 7) : f_Lsame [d, d] = .ok (.bl true) := by
  have := same_refl n (7 - n) d h
  rwa [show n + (7 - n) + 1 = 8 by omega] at this
theorem frozen_tt {n : Nat} {d : D} (h : ttok n d) (hn : n ≤ 7) : f_frozen [d] = .ok d := by
  have := frozen_ok n (7 - n) d h.fz.1
  rwa [show n + (7 - n) + 1 = 8 by omega, h.fz.2] at this
theorem is_whole_int (i : Int) : f_is_whole [.int i] = .ok (.bl true) := rfl
theorem is_index_int (i n : Int) : f_is_index [.int i, .int n] = .ok (.bl (decide (0 ≤ i ∧ i < n))) := by
  show (execL b_is_index [some (.int i), some (.int n)]).fin = _
  by_cases h : 0 ≤ i <;> simp [b_is_index, is_whole_int, h]
/-- a name that the program lets stand -/
def NameQ (x : Str) : Prop := f_is_name [.str x] = .ok (.bl true)
theorem step_right {Q : Str → Prop} (hQ : ∀ x, Q x → NameQ x) {s : Stp} {i : Nat} (h : s.ok Q i) : f_step_is_right [s.d, .int (i : Nat)] = .ok (.bl true) := by
  show (execL b_step_is_right [some s.d, some (.int (i : Nat))]).fin = _
  cases s with
  | inp x =>
    have := hQ x h
    unfold NameQ at this
    simp [b_step_is_right, this, s_ii]
  | num n =>
    have h' : 0 ≤ n := h
    simp [b_step_is_right, is_whole_int, s_ni, s_nn, h']
  | add a b =>
    have h' : a < i ∧ b < i := h
    simp [b_step_is_right, is_index_int, s_pi, s_pn, s_pp, h'.1, h'.2]
  | mul a b =>
    have h' : a < i ∧ b < i := h
    simp [b_step_is_right, is_index_int, s_ti, s_tn, s_tp, s_tt, h'.1, h'.2]
/-- the instance of a program -/
def Pro (P : List Stp) (outs : List Nat) : D := .ins "Straight" ["steps", "outputs"] [.tup (P.map Stp.d), .tup (outs.map fun o => .int (o : Nat))]
theorem straight_ok {Q : Str → Prop} (hQ : ∀ x, Q x → NameQ x) {P : List Stp} {outs : List Nat} (wf : WF Q P) (ho : ∀ o ∈ outs, o < P.length) (hp : P.length < 1000000) (hl : outs.length < 1000000) : f_iStraight [.tup (P.map Stp.d), .tup (outs.map fun o => .int (o : Nat))] = .ok (Pro P outs) := by
  show execI "Straight" b_iStraight [none, some (.tup (P.map Stp.d)), some (.tup (outs.map fun o => .int (o : Nat))), none, none, none, none, none, none] [] [] = _
  have fp := frozen_tt (ttok_stps P 0 hp) (by omega)
  have fo := frozen_tt (ttok_nats outs 0 hl) (by omega)
  unfold b_iStraight
  rw [execI_st (st' := [none, some (.tup (P.map Stp.d)), some (.tup (outs.map fun o => .int (o : Nat))), some (.tup (P.map Stp.d)), none, none, none, none, none]) (by simp [fp])]
  obtain ⟨s1, e1, x5, x6, rfl⟩ := for_tgE (g := .tup [5, 6]) (body := execL (.cons (.ifs (.not (.call "step_is_right" f_step_is_right (.cons (.v 6) (.cons (.v 5) .nil)))) (.cons (.nev) .nil) .nil) .nil)) (items := enumL 0 (P.map Stp.d)) (fun i s => ∃ x5 x6, s = [none, some (.tup (P.map Stp.d)), some (.tup (outs.map fun o => .int (o : Nat))), some (.tup (P.map Stp.d)), none, x5, x6, none, none]) ⟨none, none, rfl⟩ fun i d s J hi hs hJ => by
    obtain ⟨x5, x6, rfl⟩ := hs
    obtain ⟨x, hx, rfl⟩ := enum_at hi
    rw [List.getElem?_map] at hx
    cases hs : P[i]? with
    | none => rw [hs] at hx; cases hx
    | some t =>
      rw [hs] at hx
      obtain rfl : t.d = x := Option.some.inj hx
      have := step_right hQ (wf i t hs)
      refine ⟨_, bindT_two, ?_⟩
      simp [this]
      exact hJ _ ⟨_, _, rfl⟩
  rw [execI_st (st' := [none, some (.tup (P.map Stp.d)), some (.tup (outs.map fun o => .int (o : Nat))), some (.tup (P.map Stp.d)), none, x5, x6, none, none]) (by simp [e1])]
  rw [execI_st (st' := [none, some (.tup (P.map Stp.d)), some (.tup (outs.map fun o => .int (o : Nat))), some (.tup (P.map Stp.d)), some (.tup (outs.map fun o => .int (o : Nat))), x5, x6, none, none]) (by simp [fo])]
  obtain ⟨s1, e2, x7, x8, rfl⟩ := for_tgE (g := .tup [7, 8]) (body := execL (.cons (.ifs (.not (.call "is_index" f_is_index (.cons (.v 8) (.cons (.b1 .len (.v 3)) .nil)))) (.cons (.nev) .nil) .nil) .nil)) (items := enumL 0 (outs.map fun o => D.int (o : Nat))) (fun i s => ∃ x7 x8, s = [none, some (.tup (P.map Stp.d)), some (.tup (outs.map fun o => .int (o : Nat))), some (.tup (P.map Stp.d)), some (.tup (outs.map fun o => .int (o : Nat))), x5, x6, x7, x8]) ⟨none, none, rfl⟩ fun i d s J hi hs hJ => by
    obtain ⟨x7, x8, rfl⟩ := hs
    obtain ⟨x, hx, rfl⟩ := enum_at hi
    rw [List.getElem?_map] at hx
    cases hs : outs[i]? with
    | none => rw [hs] at hx; cases hx
    | some t =>
      rw [hs] at hx
      obtain rfl : D.int (t : Nat) = x := Option.some.inj hx
      have := ho t (List.mem_of_getElem? hs)
      refine ⟨_, bindT_two, ?_⟩
      simp [is_index_int, this]
      exact hJ _ ⟨_, _, rfl⟩
  rw [execI_st (st' := [none, some (.tup (P.map Stp.d)), some (.tup (outs.map fun o => .int (o : Nat))), some (.tup (P.map Stp.d)), some (.tup (outs.map fun o => .int (o : Nat))), x5, x6, x7, x8]) (by simp [e2])]
  rw [execI_put (d := .tup (P.map Stp.d)) (by simp) (ttok_stps P 0 hp).noc (by decide)]
  rw [execI_put (d := .tup (outs.map fun o => .int (o : Nat))) (by simp) (ttok_nats outs 0 hl).noc (by simp [putD])]
  rfl
theorem menu_q : ∀ x, x ∈ menu → NameQ x := name_menu

end Law
namespace Law
open PySem PySem.Spec PyProof.Rows L2 Dl
/-! ### which steps are inner -/
theorem inner_ok (s : Stp) : f_is_inner [s.d] = .ok (.bl (!s.leaf)) := by
  show (execL b_is_inner [some s.d]).fin = _
  cases s <;> simp [b_is_inner, s_ip, s_it, s_np, s_nt, s_pp, s_tp, s_tt, Stp.leaf]

end Law
namespace Law
open PySem PySem.Spec PyProof.Rows L2 Dl
/-! ### degrees -/
theorem take_snoc {α : Type} {l : List α} {i : Nat} {a : α} (h : l[i]? = some a) : l.take (i + 1) = l.take i ++ [a] := by
  rw [List.take_succ, h]; rfl
theorem take_len {α : Type} {l : List α} {i : Nat} {a : α} (h : l[i]? = some a) : (l.take i).length = i := by
  have := (List.getElem?_eq_some_iff.mp h).1
  rw [List.length_take]; omega
theorem at_stp {P : List Stp} {i : Nat} {d : D} (h : (P.map Stp.d)[i]? = some d) : ∃ s, P[i]? = some s ∧ d = s.d := by
  rw [List.getElem?_map] at h
  cases hs : P[i]? with
  | none => rw [hs] at h; cases h
  | some s => rw [hs] at h; exact ⟨s, rfl, (Option.some.inj h).symm⟩
@[simp] theorem fld_steps {P : List Stp} {outs : List Nat} : fldD ["Straight"] "steps" (Pro P outs) = .ok (.tup (P.map Stp.d)) := rfl
@[simp] theorem fld_outputs {P : List Stp} {outs : List Nat} : fldD ["Straight"] "outputs" (Pro P outs) = .ok (.tup (outs.map fun o => .int (o : Nat))) := rfl
theorem hgts_get {P : List Stp} {i a : Nat} (h : a < i) (hi : i ≤ P.length) : idxD (.lst ((hgts (P.take i)).map D.int)) (.int (a : Nat)) = .ok (.int ((hgts (P.take i)).getD a 0)) := (idx_getD (by rw [hgts_len, List.length_take]; omega)).1

end Law
namespace Law
open PySem PySem.Spec PyProof.Rows L2 Dl
/-! ### ints among ints -/
theorem any_ints (ns : List Int) (a : Int) : ((ns.map D.int).any fun z => D.eqv z (.int a)) = decide (a ∈ ns) := by
  induction ns with
  | nil => rfl
  | cons n ns ih =>
    rw [List.map_cons, List.any_cons, ih, eqv_int]
    by_cases h : n = a
    · subst h; simp
    · have : ¬ a = n := fun z => h z.symm
      simp [h, this]
theorem okE_ints (ns : List Int) : (D.lst (ns.map D.int)).okE = true ∧ (D.tup (ns.map D.int)).okE = true := by
  have h : ∀ d ∈ ns.map D.int, okN 0 d := fun d hd => by
    obtain ⟨n, -, rfl⟩ := List.mem_map.mp hd
    exact okN_int
  exact ⟨(okN_lst h).ok (by decide), (okN_tup h).ok (by decide)⟩
theorem in_tup_ints (ns : List Int) (a : Int) : inD (.int a) (.tup (ns.map D.int)) = .ok (.bl (decide (a ∈ ns))) := by rw [inD_tupOk okE_int (okE_ints ns).2, any_ints]
theorem in_lst_ints (ns : List Int) (a : Int) : inD (.int a) (.lst (ns.map D.int)) = .ok (.bl (decide (a ∈ ns))) := by rw [inD_lstOk okE_int (okE_ints ns).1, any_ints]
theorem notin_lst_ints (ns : List Int) (a : Int) : notInD (.int a) (.lst (ns.map D.int)) = .ok (.bl (!decide (a ∈ ns))) := by rw [notInD_lstOk okE_int (okE_ints ns).1, any_ints]
/-! ### wide programs -/
def WS : List Int := [3, 8] ++ (List.replicate 16 [(8 : Int), 12, 20]).flatten
theorem WS_ok : (∀ y ∈ WS, 0 < y ∧ y < 1000000) ∧ WS.length ≤ 1000 := by decide
theorem ws_piece : ∀ k : Nat, k < 16 → WS[2 + 3 * k]? = some 8 ∧ WS[2 + 3 * k + 1]? = some 12 ∧ WS[2 + 3 * k + 2]? = some 20 := by decide
theorem pick16 {z : Int} (h0 : 0 ≤ z) (h1 : z < 8) : ∃ L : Nat, (4 ≤ L ∧ L ≤ 16) ∧ idxD (.lst [.int 9, .int 12, .int 6, .int 14, .int 10, .int 16, .int 4, .int 11]) (.int z) = .ok (.int (L : Nat)) := by
  have : z = 0 ∨ z = 1 ∨ z = 2 ∨ z = 3 ∨ z = 4 ∨ z = 5 ∨ z = 6 ∨ z = 7 := by omega
  rcases this with rfl | rfl | rfl | rfl | rfl | rfl | rfl | rfl
  · exact ⟨9, by omega, rfl⟩
  · exact ⟨12, by omega, rfl⟩
  · exact ⟨6, by omega, rfl⟩
  · exact ⟨14, by omega, rfl⟩
  · exact ⟨10, by omega, rfl⟩
  · exact ⟨16, by omega, rfl⟩
  · exact ⟨4, by omega, rfl⟩
  · exact ⟨11, by omega, rfl⟩
theorem pickW {z : Int} (h : z % 2 = 0 ∨ z % 2 = 1) : idxD (.lst [.str "plus", .str "times"]) (.int (z % 2)) = .ok (.str (if z % 2 = 0 then "plus" else "times")) := by
  rcases h with h | h <;> rw [h] <;> rfl
structure WideOk (Q : Str → Prop) (P : List Stp) (L : Nat) : Prop where
  wf : WF Q P
  lf : ∀ (i : Nat) (s : Stp), P[i]? = some s → (s.leaf = true ↔ i < L)
theorem WideOk.snoc {Q : Str → Prop} {P : List Stp} {L : Nat} {s : Stp} (h : WideOk Q P L) (h1 : s.ok Q P.length) (h3 : s.leaf = true ↔ P.length < L) : WideOk Q (P ++ [s]) L := by
  refine ⟨h.wf.snoc h1, fun i t e => ?_⟩
  by_cases hi : i < P.length
  · rw [List.getElem?_append_left hi] at e; exact h.lf i t e
  · by_cases hi2 : i = P.length
    · subst hi2
      rw [List.getElem?_append_right (Nat.le_refl _), Nat.sub_self] at e
      cases e; exact h3
    · rw [List.getElem?_eq_none (by simp; omega)] at e; cases e
theorem wide_ok {row : List Int} (hr : Row WS row) {names : List Str} (hn : names.length = 4) : ∃ (P : List Stp) (L : Nat), WideOk (fun x => x ∈ names) P L ∧ (2 ≤ L ∧ L ≤ 4) ∧ (L ≤ P.length ∧ P.length ≤ 20) ∧ f_Lwide [.lst (row.map .int), .lst (names.map .str)] = .ok (.tup (P.map Stp.d)) := by
  obtain ⟨z0, d0, -, a0, b0⟩ := hr.get (i := 0) (by decide) (y := 3) rfl
  obtain ⟨z1, d1, -, a1, b1⟩ := hr.get (i := 1) (by decide) (y := 8) rfl
  obtain ⟨L, hL⟩ : ∃ L : Nat, 2 + z0 = (L : Int) := ⟨(2 + z0).toNat, by omega⟩
  obtain ⟨M, ⟨m1, m2⟩, hM⟩ := pick16 a1 b1
  suffices key : ∀ Pst : O → Prop, (∀ (P : List Stp), WideOk (fun x => x ∈ names) P L → (L ≤ P.length ∧ P.length ≤ 20) → Pst (.rt (.tup (P.map Stp.d)))) → Pst (execL b_Lwide [some (.lst (row.map .int)), some (.lst (names.map .str)), none, none, none, none, none, none, none]) from
    key (fun o => ∃ (P : List Stp) (L : Nat), WideOk (fun x => x ∈ names) P L ∧ (2 ≤ L ∧ L ≤ 4) ∧ (L ≤ P.length ∧ P.length ≤ 20) ∧ o.fin = .ok (.tup (P.map Stp.d))) fun P h1 h2 => ⟨P, L, h1, by omega, h2, rfl⟩
  intro Pst hPst
  simp [b_Lwide, d0, hL, rngD_len (n := L) (by omega)]
  refine for_nm (P := Pst)
    (fun i s => ∃ (P : List Stp) (o4 : Option D), P.length = i ∧ WideOk (fun x => x ∈ names) P L ∧ s = [some (.lst (row.map .int)), some (.lst (names.map .str)), some (.lst (P.map Stp.d)), some (.int (L : Nat)), o4, none, none, none, none])
    ⟨[], none, rfl, ⟨WF.nil, fun i s h => by simp at h⟩, rfl⟩ ?_ ?_
  · rintro i d s J hi ⟨P, o4, h1, pre, rfl⟩ hJ
    obtain ⟨hi', rfl⟩ := at_range hi
    obtain ⟨x1, x1m, hx1⟩ := pick_name hn (i : Int)
    have lp : P.length < 16777216 := by omega
    have f1 := hJ [some (.lst (row.map .int)), some (.lst (names.map .str)), some (.lst (P.map Stp.d ++ [(Stp.inp x1).d])), some (.int (L : Nat)), some (.int (i : Int)), none, none, none, none] ⟨P ++ [.inp x1], some (.int (i : Int)), by simp [h1], pre.snoc (s := .inp x1) x1m (by simp [Stp.leaf]; omega), by simp⟩
    simp [hn, modD_int, hx1, meO, meD, lp]
    exact f1
  · rintro s ⟨P, o4, h1, pre, rfl⟩
    rw [List.length_map, List.length_range] at h1
    simp [d1, hM, rngD_len (n := M) (by omega)]
    refine for_nm (P := Pst)
      (fun i s => ∃ (P : List Stp) (o4 o5 o6 o7 o8 : Option D), P.length = L + i ∧ WideOk (fun x => x ∈ names) P L ∧ s = [some (.lst (row.map .int)), some (.lst (names.map .str)), some (.lst (P.map Stp.d)), some (.int (L : Nat)), o4, o5, o6, o7, o8])
      ⟨P, _, _, _, _, _, by omega, pre, rfl⟩ ?_ ?_
    · rintro i d s J hi ⟨P, o4, o5, o6, o7, o8, h1, pre, rfl⟩ hJ
      obtain ⟨hi', rfl⟩ := at_range hi
      obtain ⟨k0, k1, k2⟩ := ws_piece i (by omega)
      obtain ⟨p0, g0, pa0, pb0⟩ := hr.getN k0
      obtain ⟨p1, g1, pa1, pb1⟩ := hr.getN k1
      obtain ⟨p2, g2, pa2, pb2⟩ := hr.getN k2
      have hc : cutD (row.map D.int) (some (2 + 3 * (i : Int))) (some (5 + 3 * (i : Int))) = [.int p0, .int p1, .int p2] := by
        rw [show (2 + 3 * (i : Int)) = ((2 + 3 * i : Nat) : Int) by omega, show (5 + 3 * (i : Int)) = ((2 + 3 * i : Nat) : Int) + 3 by omega]
        exact cut3 (by rw [List.getElem?_map, g0]; rfl) (by rw [List.getElem?_map, g1]; rfl) (by rw [List.getElem?_map, g2]; rfl)
      have e3 : mulD (.int 3) (.int (i : Int)) = .ok (.int (3 * (i : Int))) := mulD_int (abs_of 3 (by decide) (by decide)) (abs_of 16 (by omega) (by omega))
      have lp : P.length < 16777216 := by omega
      have hL0 : (0 : Int) < (L : Int) := by omega
      have hM0 : (0 : Int) < (P.length : Int) := by omega
      have m3 : (0 : Int) < min (P.length : Int) 3 := by omega
      have q1 := Int.emod_nonneg p1 (show (L : Int) ≠ 0 by omega)
      have q2 := Int.emod_lt_of_pos p1 hL0
      have q3 := Int.emod_nonneg p1 (show (P.length : Int) ≠ 0 by omega)
      have q4 := Int.emod_lt_of_pos p1 hM0
      have q5 := Int.emod_nonneg p1 (show min (P.length : Int) 3 ≠ 0 by omega)
      have q6 := Int.emod_lt_of_pos p1 m3
      have r1 := Int.emod_nonneg p2 (show (L : Int) ≠ 0 by omega)
      have r2 := Int.emod_lt_of_pos p2 hL0
      have r3 := Int.emod_nonneg p2 (show (P.length : Int) ≠ 0 by omega)
      have r4 := Int.emod_lt_of_pos p2 hM0
      obtain ⟨a0, ha0⟩ : ∃ a : Nat, p1 % (L : Int) = (a : Nat) := ⟨(p1 % (L : Int)).toNat, by omega⟩
      obtain ⟨a1, ha1⟩ : ∃ a : Nat, p1 % (P.length : Int) = (a : Nat) := ⟨(p1 % (P.length : Int)).toNat, by omega⟩
      obtain ⟨a2, ha2⟩ : ∃ a : Nat, (P.length : Int) - 1 - p1 % min (P.length : Int) 3 = (a : Nat) := ⟨((P.length : Int) - 1 - p1 % min (P.length : Int) 3).toNat, by omega⟩
      obtain ⟨b0', hb0⟩ : ∃ a : Nat, p2 % (L : Int) = (a : Nat) := ⟨(p2 % (L : Int)).toNat, by omega⟩
      obtain ⟨b1', hb1⟩ : ∃ a : Nat, p2 % (P.length : Int) = (a : Nat) := ⟨(p2 % (P.length : Int)).toNat, by omega⟩
      have i1 : inD (.int p0) (.tup [.int 1, .int 2, .int 3]) = .ok (.bl (decide (p0 ∈ [1, 2, 3]))) := in_tup_ints [1, 2, 3] p0
      have i2 : inD (.int p0) (.tup [.int 4, .int 5]) = .ok (.bl (decide (p0 ∈ [4, 5]))) := in_tup_ints [4, 5] p0
      have i3 : inD (.int p0) (.tup [.int 2, .int 3, .int 6]) = .ok (.bl (decide (p0 ∈ [2, 3, 6]))) := in_tup_ints [2, 3, 6] p0
      generalize decide (p0 ∈ [1, 2, 3]) = c1 at i1
      generalize decide (p0 ∈ [4, 5]) = c2 at i2
      generalize decide (p0 ∈ [2, 3, 6]) = c3 at i3
      refine step_nx (P := Goes J _ _) (fun s => s = [some (.lst (row.map .int)), some (.lst (names.map .str)), some (.lst (P.map Stp.d)), some (.int (L : Nat)), some (.int (i : Nat)), some (.lst [.int p0, .int p1, .int p2]), o6, o7, o8]) (fun J h => by simp [e3, hc]; exact h _ rfl) ?_
      rintro _ rfl
      refine step_nx (P := Goes J _ _) (fun s => s = [some (.lst (row.map .int)), some (.lst (names.map .str)), some (.lst (P.map Stp.d)), some (.int (L : Nat)), some (.int (i : Nat)), some (.lst [.int p0, .int p1, .int p2]), some (.int (P.length : Nat)), o7, o8]) (fun J h => by simp; exact h _ rfl) ?_
      rintro _ rfl
      refine step_nx (P := Goes J _ _) (fun s => s = [some (.lst (row.map .int)), some (.lst (names.map .str)), some (.lst (P.map Stp.d)), some (.int (L : Nat)), some (.int (i : Nat)), some (.lst [.int p0, .int p1, .int p2]), some (.int (P.length : Nat)), some (.int (a0 : Nat)), o8]) (fun J h => by simp [modD_int hL0, ha0]; exact h _ rfl) ?_
      rintro _ rfl
      refine step_nx (P := Goes J _ _) (fun s => ∃ a : Nat, a < P.length ∧ s = [some (.lst (row.map .int)), some (.lst (names.map .str)), some (.lst (P.map Stp.d)), some (.int (L : Nat)), some (.int (i : Nat)), some (.lst [.int p0, .int p1, .int p2]), some (.int (P.length : Nat)), some (.int (a : Nat)), o8]) (fun J h => by
        cases c1 with
        | true => simp [i1, modD_int hM0, ha1]; exact h _ ⟨a1, by omega, rfl⟩
        | false => simp [i1]; exact h _ ⟨a0, by omega, rfl⟩) ?_
      rintro _ ⟨a, ha, rfl⟩
      refine step_nx (P := Goes J _ _) (fun s => ∃ a : Nat, a < P.length ∧ s = [some (.lst (row.map .int)), some (.lst (names.map .str)), some (.lst (P.map Stp.d)), some (.int (L : Nat)), some (.int (i : Nat)), some (.lst [.int p0, .int p1, .int p2]), some (.int (P.length : Nat)), some (.int (a : Nat)), o8]) (fun J h => by
        cases c2 with
        | true => simp [i2, modD_int m3, ha2]; exact h _ ⟨a2, by omega, rfl⟩
        | false => simp [i2]; exact h _ ⟨a, by omega, rfl⟩) ?_
      rintro _ ⟨a, ha, rfl⟩
      refine step_nx (P := Goes J _ _) (fun s => s = [some (.lst (row.map .int)), some (.lst (names.map .str)), some (.lst (P.map Stp.d)), some (.int (L : Nat)), some (.int (i : Nat)), some (.lst [.int p0, .int p1, .int p2]), some (.int (P.length : Nat)), some (.int (a : Nat)), some (.int (b0' : Nat))]) (fun J h => by simp [modD_int hL0, hb0]; exact h _ rfl) ?_
      rintro _ rfl
      refine step_nx (P := Goes J _ _) (fun s => ∃ b : Nat, b < P.length ∧ s = [some (.lst (row.map .int)), some (.lst (names.map .str)), some (.lst (P.map Stp.d)), some (.int (L : Nat)), some (.int (i : Nat)), some (.lst [.int p0, .int p1, .int p2]), some (.int (P.length : Nat)), some (.int (a : Nat)), some (.int (b : Nat))]) (fun J h => by
        cases c3 with
        | true => simp [i3, modD_int hM0, hb1]; exact h _ ⟨b1', by omega, rfl⟩
        | false => simp [i3]; exact h _ ⟨b0', by omega, rfl⟩) ?_
      rintro _ ⟨b, hb, rfl⟩
      have w1 : (p0 + p2) % 2 = 0 ∨ (p0 + p2) % 2 = 1 := by omega
      have hw := pickW w1
      have fin : ∀ s : Stp, s.ok (fun x => x ∈ names) P.length → s.leaf = false → J [some (.lst (row.map .int)), some (.lst (names.map .str)), some (.lst (P.map Stp.d ++ [s.d])), some (.int (L : Nat)), some (.int (i : Nat)), some (.lst [.int p0, .int p1, .int p2]), some (.int (P.length : Nat)), some (.int (a : Nat)), some (.int (b : Nat))] := fun s h1' h3 =>
        hJ _ ⟨P ++ [s], some (.int (i : Nat)), some (.lst [.int p0, .int p1, .int p2]), some (.int (P.length : Nat)), some (.int (a : Nat)), some (.int (b : Nat)), by simp [h1]; omega, pre.snoc h1' (by rw [h3]; simp; omega), by simp⟩
      have fA := fin (.add a b) ⟨ha, hb⟩ rfl
      have fM := fin (.mul a b) ⟨ha, hb⟩ rfl
      by_cases c : (p0 + p2) % 2 = 0
      · rw [if_pos c] at hw
        simp [modD_int, hw, meO, meD, lp]
        exact fA
      · rw [if_neg c] at hw
        simp [modD_int, hw, meO, meD, lp]
        exact fM
    · rintro s ⟨P, o4, o5, o6, o7, o8, h1, pre, rfl⟩
      rw [List.length_map, List.length_range] at h1
      simp
      exact hPst P pre (by omega)

end Law
namespace Law
open PySem PySem.Spec PyProof.Rows L2 Dl
/-! ### leaves put late -/
def nl (O : List Nat) : D := .lst (O.map fun o => D.int (o : Nat))
theorem nl_eq (O : List Nat) : nl O = .lst ((O.map fun o : Nat => (o : Int)).map D.int) := by unfold nl; rw [List.map_map]; rfl
theorem mem_cast {O : List Nat} {a : Nat} : ((a : Int) ∈ O.map fun o : Nat => (o : Int)) ↔ a ∈ O := by
  rw [List.mem_map]
  constructor
  · rintro ⟨o, h, e⟩
    rwa [show a = o by omega]
  · exact fun h => ⟨a, h, rfl⟩
theorem notin_nl (O : List Nat) (a : Nat) : notInD (.int (a : Nat)) (nl O) = .ok (.bl (!decide (a ∈ O))) := by
  rw [nl_eq, notin_lst_ints]
  have : decide ((a : Int) ∈ O.map fun o : Nat => (o : Int)) = decide (a ∈ O) := decide_eq_decide.mpr mem_cast
  rw [this]
def addO (O : List Nat) (a : Nat) : List Nat := if a ∈ O then O else O ++ [a]
theorem addO_len (O : List Nat) (a : Nat) : O.length ≤ (addO O a).length ∧ (addO O a).length ≤ O.length + 1 := by
  unfold addO
  split
  · omega
  · rw [List.length_append]; simp
def bLO : ISs := .cons (.ifs (.cmp .notin (.v 6) (.v 2)) (.cons (.me .append 2 none (.cons (.v 6) .nil)) .nil) .nil) .nil
theorem bLO_ok {O : List Nat} {a : Nat} {x0 x1 x3 x4 x5 : Option D} (hl : O.length < 1000) : execL bLO [x0, x1, some (nl O), x3, x4, x5, some (.int (a : Nat))] = .nx [x0, x1, some (nl (addO O a)), x3, x4, x5, some (.int (a : Nat))] := by
  have h := notin_nl O a
  have l : (O.map fun o => D.int (o : Nat)).length < 16777216 := by rw [List.length_map]; omega
  unfold bLO addO
  by_cases c : a ∈ O
  · rw [if_pos c]
    simp [c] at h
    simp [h]
  · rw [if_neg c]
    simp [c] at h
    simp [h]
    rw [meO_append (ds := O.map fun o => D.int (o : Nat)) rfl l]
    simp [nl]
/-- places in a row: what a step leans on stands ahead of it -/
def Closed (P : List Stp) (O : List Nat) : Prop := ∀ (p k : Nat) (s : Stp), O[p]? = some k → P[k]? = some s → (match s with
  | .add a b => a ∈ O.take p ∧ b ∈ O.take p
  | .mul a b => a ∈ O.take p ∧ b ∈ O.take p
  | _ => True)
theorem closed_snoc {P : List Stp} {O : List Nat} (h : Closed P O) {k : Nat} (hk : ∀ s, P[k]? = some s → (match s with
  | .add a b => a ∈ O ∧ b ∈ O
  | .mul a b => a ∈ O ∧ b ∈ O
  | _ => True)) : Closed P (O ++ [k]) := by
  intro p j s hp hs
  by_cases hi : p < O.length
  · rw [List.getElem?_append_left hi] at hp
    have := h p j s hp hs
    rw [List.take_append_of_le_length (Nat.le_of_lt hi)]
    exact this
  · by_cases hi2 : p = O.length
    · subst hi2
      rw [List.getElem?_append_right (Nat.le_refl _), Nat.sub_self] at hp
      cases hp
      have := hk s hs
      rw [List.take_left]
      exact this
    · rw [List.getElem?_eq_none (by simp; omega)] at hp; cases hp
theorem closed_leaves {P : List Stp} : ∀ {R O : List Nat}, Closed P O → (∀ x ∈ R, ∀ s, P[x]? = some s → s.leaf = true) → Closed P (O ++ R)
  | [], O, h, _ => by rw [List.append_nil]; exact h
  | k :: R, O, h, hx => by
    rw [show O ++ k :: R = (O ++ [k]) ++ R by simp]
    refine closed_leaves (closed_snoc h fun s hs => ?_) fun x h' => hx x (List.mem_cons_of_mem _ h')
    have := hx k List.mem_cons_self s hs
    cases s with
    | inp _ => trivial
    | num _ => trivial
    | add _ _ => cases this
    | mul _ _ => cases this
theorem closed_add {P : List Stp} {O : List Nat} (h : Closed P O) {k : Nat} (hk : k ∉ O → ∀ s, P[k]? = some s → (match s with
  | .add a b => a ∈ O ∧ b ∈ O
  | .mul a b => a ∈ O ∧ b ∈ O
  | _ => True)) : Closed P (addO O k) := by
  unfold addO
  split
  · exact h
  · rename_i c; exact closed_snoc h (hk c)
theorem mem_add {O : List Nat} {a : Nat} : a ∈ addO O a ∧ ∀ x ∈ O, x ∈ addO O a := by
  unfold addO
  split
  · rename_i c; exact ⟨c, fun _ h => h⟩
  · exact ⟨List.mem_append_right _ (List.mem_singleton.mpr rfl), fun _ h => List.mem_append_left _ h⟩
theorem add_mem {O : List Nat} {a x : Nat} (h : x ∈ addO O a) : x ∈ O ∨ x = a := by
  unfold addO at h
  split at h
  · exact .inl h
  · rcases List.mem_append.mp h with h | h
    · exact .inl h
    · exact .inr (List.mem_singleton.mp h)
/-- the row behind the first i steps -/
structure Ord (P : List Stp) (O : List Nat) (i : Nat) : Prop where
  cl : Closed P O
  lt : ∀ x ∈ O, x < P.length
  has : ∀ (j : Nat) (s : Stp), j < i → P[j]? = some s → s.leaf = false → j ∈ O
  len : O.length ≤ 3 * i
theorem Ord.skip {P : List Stp} {O : List Nat} {i : Nat} {s : Stp} (h : Ord P O i) (hs : P[i]? = some s) (hl : s.leaf = true) : Ord P O (i + 1) :=
  ⟨h.cl, h.lt, fun j t hj e f => by
    by_cases c : j = i
    · subst c
      rw [hs] at e; cases e
      rw [hl] at f; cases f
    · exact h.has j t (by omega) e f, by have := h.len; omega⟩
theorem Ord.put {Q : Str → Prop} {P : List Stp} {O : List Nat} {i a b : Nat} {s : Stp} (wf : WF Q P) (h : Ord P O i) (hs : P[i]? = some s) (he : s = .add a b ∨ s = .mul a b) : Ord P (addO (addO (addO O a) b) i) (i + 1) := by
  have hi := (List.getElem?_eq_some_iff.mp hs).1
  have hab : a < i ∧ b < i := by
    have := wf i s hs
    rcases he with rfl | rfl <;> exact this
  have leafy : ∀ {O' : List Nat} {x : Nat}, (∀ y ∈ O, y ∈ O') → x < i → x ∉ O' → ∀ t, P[x]? = some t → (match t with
      | .add a b => a ∈ O' ∧ b ∈ O'
      | .mul a b => a ∈ O' ∧ b ∈ O'
      | _ => True) := fun {O' x} sub hx nx t ht => by
    cases hl : t.leaf with
    | false => exact absurd (sub _ (h.has x t hx ht hl)) nx
    | true => cases t with
      | inp _ => trivial
      | num _ => trivial
      | add _ _ => cases hl
      | mul _ _ => cases hl
  have c1 : Closed P (addO O a) := closed_add h.cl fun nx => leafy (fun _ z => z) hab.1 nx
  have c2 : Closed P (addO (addO O a) b) := closed_add c1 fun nx => leafy (fun y z => mem_add.2 y z) hab.2 nx
  have ma : a ∈ addO (addO O a) b := mem_add.2 _ mem_add.1
  have mb : b ∈ addO (addO O a) b := mem_add.1
  have c3 : Closed P (addO (addO (addO O a) b) i) := closed_add c2 fun _ t ht => by
    rw [hs] at ht; cases ht
    rcases he with rfl | rfl <;> exact ⟨ma, mb⟩
  refine ⟨c3, fun x hx => ?_, fun j t hj e f => ?_, ?_⟩
  · rcases add_mem hx with hx | rfl
    · rcases add_mem hx with hx | rfl
      · rcases add_mem hx with hx | rfl
        · exact h.lt x hx
        · omega
      · omega
    · exact hi
  · by_cases c : j = i
    · subst c; exact mem_add.1
    · exact mem_add.2 _ (mem_add.2 _ (mem_add.2 _ (h.has j t (by omega) e f)))
  · have := h.len
    have l1 := (addO_len O a).2
    have l2 := (addO_len (addO O a) b).2
    have l3 := (addO_len (addO (addO O a) b) i).2
    omega
/-- where a number stands -/
theorem find_take : ∀ {O : List Nat} {p a : Nat}, a ∈ O.take p → ∃ j, j < p ∧ (O.map fun o : Nat => (o : Int)).findIdx? (fun n => decide (n = (a : Int))) = some j
  | [], p, a, h => by simp at h
  | o :: O, 0, a, h => by simp at h
  | o :: O, p + 1, a, h => by
    rw [List.map_cons, List.findIdx?_cons]
    by_cases e : o = a
    · subst e
      exact ⟨0, by omega, by simp⟩
    · have e' : ¬ (o : Int) = (a : Int) := by omega
      rw [List.take_succ_cons] at h
      rcases List.mem_cons.mp h with h | h
      · exact absurd h.symm e
      · obtain ⟨j, hj, hf⟩ := find_take h
        exact ⟨j + 1, by omega, by simp [e', hf]⟩
theorem ix_nl {O : List Nat} {p a : Nat} (h : a ∈ O.take p) : ∃ j : Nat, j < p ∧ ixOfD (nl O) (.int (a : Nat)) = .ok (.int (j : Nat)) := by
  obtain ⟨j, hj, hf⟩ := find_take h
  exact ⟨j, hj, by rw [nl_eq]; exact ixOf_ok hf⟩
def RS : List Int := [2, 8, 8, 8, 8]
theorem rs_at : ∀ k : Nat, k < 4 → RS[1 + k]? = some 8 := by decide
theorem getP {P : List Stp} {k : Nat} {s : Stp} (h : P[k]? = some s) : idxD (.tup (P.map Stp.d)) (.int (k : Nat)) = .ok s.d := (idx_stp h).2
theorem forL3 {b : SD → O} {j : Nat} {x y z : D} {st s1 s2 s3 : SD} (h1 : b (st.set j (some x)) = .nx s1) (h2 : b (s1.set j (some y)) = .nx s2) (h3 : b (s2.set j (some z)) = .nx s3) : forL (bindT (.nm j)) b [x, y, z] st = .nx s3 := by
  rw [forL_cons (s1 := st.set j (some x)) rfl, h1]
  dsimp only
  rw [forL_cons (s1 := s1.set j (some y)) rfl, h2]
  dsimp only
  rw [forL_cons (s1 := s2.set j (some z)) rfl, h3]
  rfl

end Law
namespace Law
open PySem PySem.Spec PyProof.Rows L2 Dl
theorem late_ok {Q : Str → Prop} {P : List Stp} (wf : WF Q P) (h2 : 2 ≤ P.length) (hp : P.length ≤ 20) (lf : ∀ (i : Nat) (s : Stp), P[i]? = some s → s.leaf = true → i < 4) {r : List Int} (hr : Row RS r) :
    ∃ P' : List Stp, WF Q P' ∧ 1 ≤ P'.length ∧ P'.length ≤ 80 ∧ f_Llate_leaves [.tup (P.map Stp.d), .lst (r.map .int)] = .ok (.tup (P'.map Stp.d)) := by
  obtain ⟨z0, d0, -, a0, b0⟩ := hr.get (i := 0) (by decide) (y := 2) rfl
  suffices key : ∀ Pst : O → Prop, (∀ (P' : List Stp), WF Q P' → 1 ≤ P'.length → P'.length ≤ 80 → Pst (.rt (.tup (P'.map Stp.d)))) → Pst (execL b_Llate_leaves [some (.tup (P.map Stp.d)), some (.lst (r.map .int)), none, none, none, none, none]) from
    key (fun o => ∃ (P' : List Stp), WF Q P' ∧ 1 ≤ P'.length ∧ P'.length ≤ 80 ∧ o.fin = .ok (.tup (P'.map Stp.d))) fun P' w1 w2 w3 => ⟨P', w1, w2, w3, rfl⟩
  intro Pst hPst
  by_cases c0 : z0 = 0
  · simp [b_Llate_leaves, d0, c0]
    exact hPst P wf (by omega) (by omega)
  unfold b_Llate_leaves
  refine step_nx (P := Pst) (fun s => s = [some (.tup (P.map Stp.d)), some (.lst (r.map .int)), none, none, none, none, none]) (fun J h => by simp [d0, c0]; exact h _ rfl) ?_
  rintro _ rfl
  refine step_nx (P := Pst) (fun s => s = [some (.tup (P.map Stp.d)), some (.lst (r.map .int)), some (nl []), none, none, none, none]) (fun J h => by simp; exact h _ rfl) ?_
  rintro _ rfl
  refine step_nx (P := Pst) (fun s => ∃ (O : List Nat) (o3 o6 : Option D), Ord P O P.length ∧ s = [some (.tup (P.map Stp.d)), some (.lst (r.map .int)), some (nl O), o3, none, none, o6]) (fun J h => ?_) ?_
  · simp only [exS_fors, evI_rng1, evE_b1, evE_v, getSt_0, bind_ok, b1D_len, lenD_tup, List.length_map, rng1R_int, rngD_len (n := P.length) (by omega), toO_ok]
    refine for_nm0 (P := Nx J) (fun i s => ∃ (O : List Nat) (o3 o6 : Option D), Ord P O i ∧ s = [some (.tup (P.map Stp.d)), some (.lst (r.map .int)), some (nl O), o3, none, none, o6]) ⟨[], none, none, ⟨fun p k s h => by simp at h, fun x h => by simp at h, fun j s h => by omega, by simp⟩, rfl⟩ ?_ ?_
    · rintro i d s J hi ⟨O, o3, o6, ord, rfl⟩ hJ
      obtain ⟨hi', rfl⟩ := at_range hi
      have hs : P[i]? = some P[i] := List.getElem?_eq_getElem hi'
      generalize P[i] = s at hs
      have gs := getP hs
      have hO : O.length < 900 := by have := ord.len; omega
      have inner : ∀ (a b : Nat), s = .add a b ∨ s = .mul a b → Goes J (fun _ => False) (fun _ => False) ((forL (bindT (.nm 6)) (execL bLO) [.int (a : Nat), .int (b : Nat), .int (i : Nat)] [some (.tup (P.map Stp.d)), some (.lst (r.map .int)), some (nl O), some (.int (i : Nat)), none, none, o6]).bind fun s => .nx s) := fun a b he => by
        have l1 := (addO_len O a).2
        have l2 := (addO_len (addO O a) b).2
        rw [forL3 (j := 6) (b := execL bLO) (x := .int (a : Nat)) (y := .int (b : Nat)) (z := .int (i : Nat)) (st := [some (.tup (P.map Stp.d)), some (.lst (r.map .int)), some (nl O), some (.int (i : Nat)), none, none, o6]) (s3 := [some (.tup (P.map Stp.d)), some (.lst (r.map .int)), some (nl (addO (addO (addO O a) b) i)), some (.int (i : Nat)), none, none, some (.int (i : Nat))]) (s1 := [some (.tup (P.map Stp.d)), some (.lst (r.map .int)), some (nl (addO O a)), some (.int (i : Nat)), none, none, some (.int (a : Nat))]) (s2 := [some (.tup (P.map Stp.d)), some (.lst (r.map .int)), some (nl (addO (addO O a) b)), some (.int (i : Nat)), none, none, some (.int (b : Nat))]) (by exact bLO_ok (by omega)) (by exact bLO_ok (by omega)) (by exact bLO_ok (by omega))]
        exact hJ _ ⟨_, _, _, ord.put wf hs he, rfl⟩
      cases s with
      | inp x => simp [gs, in_i]; exact hJ _ ⟨O, _, _, ord.skip hs rfl, rfl⟩
      | num n => simp [gs, in_n]; exact hJ _ ⟨O, _, _, ord.skip hs rfl, rfl⟩
      | add a b =>
        have g := inner a b (.inl rfl)
        unfold bLO at g
        simp [gs, in_p]
        exact g
      | mul a b =>
        have g := inner a b (.inr rfl)
        unfold bLO at g
        simp [gs, in_t]
        exact g
    · rintro s ⟨O, o3, o6, ord, rfl⟩
      rw [List.length_map, List.length_range] at ord
      exact h _ ⟨O, o3, o6, ord, rfl⟩
  rintro _ ⟨O, o3, o6, ord, rfl⟩
  have hO : O.length ≤ 60 := by have := ord.len; omega
  have rest : ∀ v3 : Option D, compR (.nm 3) (evC (.some (.cmp .notin (.v 3) (.v 2)))) (evE (.v 3)) [some (.tup (P.map Stp.d)), some (.lst (r.map .int)), some (nl O), v3, none, none, o6] ((List.range P.length).map fun i => D.int (i : Nat)) = .ok (nl ((List.range P.length).filter fun k => !decide (k ∈ O))) := fun v3 => by
    have := compL_filter (g := .nm 3) (f := evE (.v 3)) (st := [some (.tup (P.map Stp.d)), some (.lst (r.map .int)), some (nl O), v3, none, none, o6]) (c := evC (.some (.cmp .notin (.v 3) (.v 2)))) (fun d => match d with
      | .int z => !decide (z.toNat ∈ O)
      | _ => false) id ((List.range P.length).map fun i => D.int (i : Nat)) (fun d hd => by
        obtain ⟨k, -, rfl⟩ := List.mem_map.mp hd
        refine ⟨_, rfl, ?_, fun _ => rfl⟩
        have := notin_nl O k
        simp [Tg.vs, wipeS, this])
    refine (compR_ok this (by simp; omega)).trans ?_
    rw [List.filter_map, List.map_id]
    rfl
  refine step_nx (P := Pst) (fun s => ∃ (O : List Nat) (o3 : Option D), (Closed P O ∧ (∀ x ∈ O, x < P.length) ∧ 1 ≤ O.length ∧ O.length ≤ 80) ∧ s = [some (.tup (P.map Stp.d)), some (.lst (r.map .int)), some (nl O), o3, none, none, o6]) (fun J h => ?_) ?_
  · have hl : ((List.range P.length).filter fun k => !decide (k ∈ O)).length ≤ 20 := Nat.le_trans (List.length_filter_le _ _) (by rw [List.length_range]; omega)
    generalize hR : (List.range P.length).filter (fun k => !decide (k ∈ O)) = R at rest hl
    have ha : addD (nl O) (nl R) = .ok (nl (O ++ R)) := by
      unfold nl
      rw [addD_lst (by simp only [List.length_map]; omega), List.map_append]
    have hcl : Closed P (O ++ R) := closed_leaves ord.cl fun k hk s hs => by
      rw [← hR, List.mem_filter] at hk
      have hn : k ∉ O := by simpa using hk.2
      cases hl : s.leaf with
      | true => rfl
      | false => exact absurd (ord.has k s (List.getElem?_eq_some_iff.mp hs).1 hs hl) hn
    have hne : 1 ≤ (O ++ R).length := by
      rw [List.length_append]
      by_cases c : 0 ∈ O
      · have := List.length_pos_of_mem c
        omega
      · have : 0 ∈ R := by rw [← hR, List.mem_filter]; exact ⟨List.mem_range.mpr (by omega), by simpa using c⟩
        have := List.length_pos_of_mem this
        omega
    simp [rngD_len (n := P.length) (by omega), rest, ha]
    refine h _ ⟨O ++ R, _, ⟨hcl, fun x hx => ?_, hne, by rw [List.length_append]; omega⟩, rfl⟩
    rcases List.mem_append.mp hx with hx | hx
    · exact ord.lt x hx
    · rw [← hR, List.mem_filter] at hx
      exact List.mem_range.mp hx.1
  clear rest ord hO
  clear O o3
  rintro _ ⟨O, o3, ⟨cl, lt, h1, hO⟩, rfl⟩
  refine step_nx (P := Pst) (fun s => s = [some (.tup (P.map Stp.d)), some (.lst (r.map .int)), some (nl O), o3, some (.lst []), none, o6]) (fun J h => by simp; exact h _ rfl) ?_
  rintro _ rfl
  have it : iterD (nl O) = .ok (O.map fun o => D.int (o : Nat)) := rfl
  refine step_nx (P := Pst) (fun s => ∃ (P' : List Stp) (o3 o5 : Option D), WF Q P' ∧ P'.length = O.length ∧ s = [some (.tup (P.map Stp.d)), some (.lst (r.map .int)), some (nl O), o3, some (.lst (P'.map Stp.d)), o5, o6]) (fun J h => ?_) ?_
  · simp [it]
    refine for_nm0 (P := Nx J) (fun i s => ∃ (P' : List Stp) (o3 o5 : Option D), WF Q P' ∧ P'.length = i ∧ s = [some (.tup (P.map Stp.d)), some (.lst (r.map .int)), some (nl O), o3, some (.lst (P'.map Stp.d)), o5, o6]) ⟨[], _, none, WF.nil, rfl, rfl⟩ ?_ ?_
    · rintro i d s J hi ⟨P', o3, o5, wf', hl, rfl⟩ hJ
      rw [List.getElem?_map] at hi
      cases hk : O[i]? with
      | none => rw [hk] at hi; cases hi
      | some k =>
        rw [hk] at hi
        obtain rfl : D.int (k : Nat) = d := Option.some.inj hi
        have hiO := (List.getElem?_eq_some_iff.mp hk).1
        have hkl := lt k (List.mem_of_getElem? hk)
        have hs : P[k]? = some P[k] := List.getElem?_eq_getElem hkl
        generalize P[k] = s at hs
        have gs := getP hs
        have hcl := cl i k s hk hs
        have hq := wf k s hs
        have lp : P'.length < 16777216 := by omega
        have fin : ∀ s' : Stp, s'.ok Q P'.length → J [some (.tup (P.map Stp.d)), some (.lst (r.map .int)), some (nl O), some (.int (k : Nat)), some (.lst (P'.map Stp.d ++ [s'.d])), some s'.d, o6] := fun s' h' =>
          hJ _ ⟨P' ++ [s'], some (.int (k : Nat)), some s'.d, wf'.snoc h', by simp [hl], by simp⟩
        have lo : lstD (nl O) = .ok (nl O) := rfl
        have leafy : s.leaf = true → ∃ z, idxD (.lst (r.map .int)) (.int (1 + (k : Int))) = .ok (.int z) ∧ 0 ≤ z := fun hl' => by
          have k4 := lf k s hs hl'
          obtain ⟨z, dz, -, za, zb⟩ := hr.get (i := 1 + (k : Int)) (by omega) (y := 8) (by rw [show (1 + (k : Int)).toNat = 1 + k by omega]; exact rs_at k k4)
          exact ⟨z, dz, za⟩
        cases s with
        | inp x =>
          obtain ⟨z, dz, za⟩ := leafy rfl
          have f1 := fin (.inp x) hq
          have f2 := fin (.num z) za
          by_cases ck : 0 < k
          · by_cases cz : z < 3
            · simp [gs, in_i, ck, dz, cz, meO, meD, lp]; exact f2
            · simp [gs, in_i, ck, dz, cz, meO, meD, lp]; exact f1
          · simp [gs, in_i, ck, meO, meD, lp]; exact f1
        | num n =>
          obtain ⟨z, dz, za⟩ := leafy rfl
          have f1 := fin (.num n) hq
          have f2 := fin (.num z) za
          by_cases ck : 0 < k
          · by_cases cz : z < 3
            · simp [gs, in_n, ck, dz, cz, meO, meD, lp]; exact f2
            · simp [gs, in_n, ck, dz, cz, meO, meD, lp]; exact f1
          · simp [gs, in_n, ck, meO, meD, lp]; exact f1
        | add a b =>
          obtain ⟨ja, la, ea⟩ := ix_nl hcl.1
          obtain ⟨jb, lb, eb⟩ := ix_nl hcl.2
          have f := fin (.add ja jb) ⟨by omega, by omega⟩
          simp [gs, in_p, lo, ea, eb, meO, meD, lp]; exact f
        | mul a b =>
          obtain ⟨ja, la, ea⟩ := ix_nl hcl.1
          obtain ⟨jb, lb, eb⟩ := ix_nl hcl.2
          have f := fin (.mul ja jb) ⟨by omega, by omega⟩
          simp [gs, in_t, lo, ea, eb, meO, meD, lp]; exact f
    · rintro s ⟨P', o3, o5, wf', hl, rfl⟩
      rw [List.length_map] at hl
      exact h _ ⟨P', _, _, wf', hl, rfl⟩
  rintro _ ⟨P', o3', o5, wf', hl, rfl⟩
  simp
  exact hPst P' wf' (by omega) (by omega)

end Law
namespace Law
open PySem PySem.Spec PyProof.Rows L2 Dl
/-! ### a crew: late hands, inner steps -/
def work (P : List Stp) : Nat := (P.filter fun s => !s.leaf).length
theorem work_snoc (P : List Stp) (s : Stp) : work (P ++ [s]) = work P + if s.leaf then 0 else 1 := by
  unfold work
  rw [List.filter_append, List.length_append]
  cases h : s.leaf <;> simp [h]
/-- the inner steps of a row -/
theorem comp_inner {j : Nat} {st : SD} {P : List Stp} {c : IE} (hp : P.length < 1000000) (hc : ∀ s : Stp, tR (evE c ((wipeS st [j]).set j (some s.d))) = .ok (!s.leaf)) (hj : j < st.length) :
    compR (.nm j) (evC (.some c)) (evE (.v j)) st (P.map Stp.d) = .ok (.lst ((P.filter fun s => !s.leaf).map Stp.d)) := by
  have hw : ∀ (l : List Nat) (st : SD), (wipeS st l).length = st.length := by
    intro l
    induction l with
    | nil => intro st; rfl
    | cons a l ih =>
      intro st
      show ((wipeS st l).set a none).length = _
      rw [List.length_set, ih]
  have cl : ∀ P : List Stp, compL (.nm j) (evC (.some c)) (evE (.v j)) st (P.map Stp.d) = some ((P.filter fun s => !s.leaf).map Stp.d) := by
    intro P
    induction P with
    | nil => rfl
    | cons s P ih =>
      rw [List.map_cons]
      unfold compL
      have h1 : bindT (.nm j) s.d (wipeS st (Tg.nm j).vs) = .ok ((wipeS st [j]).set j (some s.d)) := rfl
      have h2 : evC (.some c) ((wipeS st [j]).set j (some s.d)) = .ok (!s.leaf) := hc s
      have h3 : evE (.v j) ((wipeS st [j]).set j (some s.d)) = .ok s.d := by
        show getSt _ j = _
        unfold getSt
        rw [List.getElem?_set_self (by rw [hw]; exact hj)]
      rw [h1]
      dsimp only
      rw [h2]
      cases hl : s.leaf with
      | true => simp [hl, ih]
      | false =>
        simp [hl, h3, ih]
  exact compR_ok (cl P) (by rw [List.length_map]; omega)
def wk (H : Int) (L : List Int) (t : Nat) : Int := H - L.getD t 0
def LateOk (H : Int) (L : List Int) : Prop := ∀ x ∈ L, 0 ≤ x ∧ x ≤ H
theorem LateOk.at {H : Int} {L : List Int} (h : LateOk H L) (h0 : 0 ≤ H) (t : Nat) : 0 ≤ L.getD t 0 ∧ L.getD t 0 ≤ H := by
  rw [List.getD_eq_getElem?_getD]
  cases e : L[t]? with
  | none => exact ⟨Int.le_refl _, h0⟩
  | some x => exact h x (List.mem_of_getElem? e)
def isL (L : List Int) (x : D) : Prop := x = .lst (L.map .int) ∨ x = .tup (L.map .int)
theorem isL_len {L : List Int} {x : D} (h : isL L x) : lenD x = .ok (.int L.length) := by
  rcases h with rfl | rfl <;> simp
theorem isL_idx {L : List Int} {x : D} (h : isL L x) {t : Nat} (ht : t < L.length) : idxD x (.int (t : Nat)) = .ok (.int (L.getD t 0)) := by
  rcases h with rfl | rfl
  · exact (idx_getD ht).1
  · exact (idx_getD ht).2
theorem getD_out {L : List Int} {t : Nat} (h : ¬ t < L.length) : L.getD t 0 = 0 := by
  rw [List.getD_eq_getElem?_getD, List.getElem?_eq_none (by omega)]
  rfl
theorem working_ok {H : Int} {L : List Int} {x : D} (h : isL L x) (t : Nat) : f_working_hands [.int H, x, .int (t : Nat)] = .ok (.int (wk H L t)) := by
  show (execL b_working_hands [some (.int H), some x, some (.int (t : Nat))]).fin = _
  have h1 := isL_len h
  unfold wk
  by_cases c : t < L.length
  · have h2 := isL_idx h c
    simp [b_working_hands, h1, c, h2]
  · rw [getD_out c]
    simp [b_working_hands, h1, c]
theorem Lworking_ok {H : Int} {L : List Int} {x : D} (h : isL L x) (t : Nat) : f_Lworking [.int H, x, .int (t : Nat)] = .ok (.int (wk H L t)) := by
  show (execL b_Lworking [some (.int H), some x, some (.int (t : Nat))]).fin = _
  have h1 := isL_len h
  unfold wk
  by_cases c : t < L.length
  · have h2 := isL_idx h c
    simp [b_Lworking, h1, c, h2]
  · rw [getD_out c]
    simp [b_Lworking, h1, c]
theorem cut_to {α : Type} {xs : List α} {k : Nat} (h : k ≤ xs.length) : Dl.cutD xs none (some (k : Int)) = xs.take k := by
  unfold Dl.cutD
  rw [show HT.sIx xs.length 0 none = 0 from rfl, HT.sIx_nat, List.drop_zero, Nat.sub_zero, Nat.min_eq_left h]
/-! ### late hands -/
def LS : List Int := [6, 12, 12, 12, 12, 12, 12, 12, 12]
theorem ls_at : ∀ k : Nat, k < 8 → LS[1 + k]? = some 12 := by decide
theorem pickL {z : Int} (h0 : 0 ≤ z) (h1 : z < 6) : ∃ L : Nat, L ≤ 8 ∧ idxD (.lst [.int 0, .int 3, .int 8, .int 1, .int 5, .int 2]) (.int z) = .ok (.int (L : Nat)) := by
  have : z = 0 ∨ z = 1 ∨ z = 2 ∨ z = 3 ∨ z = 4 ∨ z = 5 := by omega
  rcases this with rfl | rfl | rfl | rfl | rfl | rfl
  · exact ⟨0, by omega, rfl⟩
  · exact ⟨3, by omega, rfl⟩
  · exact ⟨8, by omega, rfl⟩
  · exact ⟨1, by omega, rfl⟩
  · exact ⟨5, by omega, rfl⟩
  · exact ⟨2, by omega, rfl⟩
theorem Llate_ok {row : List Int} (hr : Row LS row) {H : Int} (h1 : 1 ≤ H) (h2 : H ≤ 1000) : ∃ L : List Int, LateOk H L ∧ L.length ≤ 20 ∧ f_Llate [.lst (row.map .int), .int H] = .ok (.lst (L.map .int)) := by
  obtain ⟨z0, d0, -, a0, b0⟩ := hr.get (i := 0) (by decide) (y := 6) rfl
  obtain ⟨z2, d2, -, a2, b2⟩ := hr.get (i := 2) (by decide) (y := 12) rfl
  obtain ⟨N, hN, eN⟩ := pickL a0 b0
  have hH : (0 : Int) < H + 1 := by omega
  suffices key : ∀ Pst : O → Prop, (∀ L : List Int, LateOk H L → L.length ≤ 20 → Pst (.rt (.lst (L.map .int)))) → Pst (execL b_Llate [some (.lst (row.map .int)), some (.int H), none, none]) from
    key (fun o => ∃ L : List Int, LateOk H L ∧ L.length ≤ 20 ∧ o.fin = .ok (.lst (L.map .int))) fun L w1 w2 => ⟨L, w1, w2, rfl⟩
  intro Pst hPst
  have c1 : ∀ v2 v3 : Option D, ∃ L : List Int, LateOk H L ∧ L.length = N ∧ compR (.nm 3) (evC .none) (evE (.bin .mod (.b1 .int (.idx (.v 0) (.bin .add (.kI 1) (.v 3)))) (.bin .add (.v 1) (.kI 1)))) [some (.lst (row.map .int)), some (.int H), v2, v3] ((List.range N).map fun i => D.int (i : Nat)) = .ok (.lst (L.map .int)) := by
    intro v2 v3
    obtain ⟨out, g1, g2, g3⟩ := comp_ex (g := .nm 3) (f := evE (.bin .mod (.b1 .int (.idx (.v 0) (.bin .add (.kI 1) (.v 3)))) (.bin .add (.v 1) (.kI 1)))) (st := [some (.lst (row.map .int)), some (.int H), v2, v3]) (c := evC .none) (fun _ d => ∃ z : Int, d = .int z ∧ 0 ≤ z ∧ z ≤ H) ((List.range N).map fun i => D.int (i : Nat)) (by rw [List.length_map, List.length_range]; omega) (fun i d hi => by
      obtain ⟨hi', rfl⟩ := at_range hi
      obtain ⟨z, dz, -, za, zb⟩ := hr.get (i := 1 + (i : Int)) (by omega) (y := 12) (by rw [show (1 + (i : Int)).toNat = 1 + i by omega]; exact ls_at i (by omega))
      have q1 := Int.emod_nonneg z (show H + 1 ≠ 0 by omega)
      have q2 := Int.emod_lt_of_pos z hH
      exact ⟨_, .int (z % (H + 1)), rfl, rfl, by simp [Tg.vs, wipeS, dz, modD_int hH], z % (H + 1), rfl, q1, by omega⟩)
    have : ∃ L : List Int, out = L.map D.int ∧ LateOk H L := by
      clear g1 g2
      have hq : ∀ d ∈ out, ∃ z : Int, d = .int z ∧ 0 ≤ z ∧ z ≤ H := fun d hd => by
        obtain ⟨i, hi, e⟩ := List.mem_iff_getElem.mp hd
        exact g3 i d (by rw [List.getElem?_eq_getElem hi, e])
      clear g3
      induction out with
      | nil => exact ⟨[], rfl, fun x h => by simp at h⟩
      | cons d out ih =>
        obtain ⟨L, e, ok⟩ := ih fun d hd => hq d (List.mem_cons_of_mem _ hd)
        obtain ⟨z, rfl, z1, z2⟩ := hq d List.mem_cons_self
        exact ⟨z :: L, by rw [e]; rfl, fun x hx => by
          rcases List.mem_cons.mp hx with rfl | hx
          · exact ⟨z1, z2⟩
          · exact ok x hx⟩
    obtain ⟨L, rfl, ok⟩ := this
    exact ⟨L, ok, by simpa using g2, g1⟩
  have q0 := Int.emod_nonneg z2 (show (12 : Int) ≠ 0 by decide)
  have q1 := Int.emod_lt_of_pos z2 (show (0 : Int) < 12 by decide)
  obtain ⟨M, hM⟩ : ∃ M : Nat, z2 % 12 = (M : Int) := ⟨(z2 % 12).toNat, by omega⟩
  have c2 : ∀ v2 v3 : Option D, compR (.nm 3) (evC .none) (evE (.v 1)) [some (.lst (row.map .int)), some (.int H), v2, v3] ((List.range M).map fun i => D.int (i : Nat)) = .ok (.lst ((List.replicate M H).map .int)) := by
    intro v2 v3
    refine compR_ok ?_ (by rw [List.length_map, List.length_range]; omega)
    have := compL_all (g := .nm 3) (f := evE (.v 1)) (st := [some (.lst (row.map .int)), some (.int H), v2, v3]) (c := evC .none) (fun _ => .int H) ((List.range M).map fun i => D.int (i : Nat)) (fun d hd => ⟨_, rfl, rfl, rfl⟩)
    rw [this]
    congr 1
    rw [List.map_map, List.map_replicate]
    exact List.eq_replicate_iff.mpr ⟨by simp, fun x hx => by obtain ⟨i, -, rfl⟩ := List.mem_map.mp hx; rfl⟩
  obtain ⟨L, ok, hl, e1⟩ := c1 none none
  unfold b_Llate
  refine step_nx (P := Pst) (fun s => ∃ o3, s = [some (.lst (row.map .int)), some (.int H), some (.lst (L.map .int)), o3]) (fun J h => by simp [d0, eN, rngD_len (n := N) (by omega), e1]; exact h _ ⟨_, rfl⟩) ?_
  rintro _ ⟨o3, rfl⟩
  have okM : LateOk H (List.replicate M H ++ L) := fun x hx => by
    rcases List.mem_append.mp hx with hx | hx
    · rw [List.eq_of_mem_replicate hx]; omega
    · exact ok x hx
  have ad : addD (.lst ((List.replicate M H).map .int)) (.lst (L.map .int)) = .ok (.lst ((List.replicate M H ++ L).map .int)) := by
    rw [addD_lst (by simp only [List.length_map, List.length_replicate]; omega), List.map_append]
  by_cases c : z0 = 3
  · have hd : idxD (.lst (row.map .int)) (.int 0) = .ok (.int 3) := by rw [d0, c]
    simp [hd, d2, modD_int, hM, rngD_len (n := M) (by omega), c2]
    simp only [List.map_replicate] at ad
    rw [ad]
    simp
    have := hPst (List.replicate M H ++ L) okM (by rw [List.length_append, List.length_replicate]; omega)
    simpa using this
  · simp [d0, c]
    exact hPst L ok (by omega)
theorem repD_ok {a : List D} {k : Int} (h0 : 0 ≤ k) (h1 : k ≤ 1000) (h2 : a.length ≤ 1000) : repD (.lst a) (.int k) = .ok (.lst (List.replicate k.toNat a).flatten) := by
  have h3 : a.length * k.toNat ≤ 1000 * 1000 := Nat.mul_le_mul h2 (by omega)
  exact if_pos ⟨by omega, by omega, by omega⟩
def S1 : List Int := [8, 2, 8, 8, 8, 8]
def S3 : List Int := [9, 12, 20]
def LS2 : List Int := [6, 12, 12, 12, 12, 12, 12, 12, 12, 6]
theorem rep_a : repD (.lst [.int 8]) (.int 4) = .ok (.lst [.int 8, .int 8, .int 8, .int 8]) := repD_ok (by decide) (by decide) (by decide)
theorem rep_b : repD (.lst [.int 12]) (.int 8) = .ok (.lst [.int 12, .int 12, .int 12, .int 12, .int 12, .int 12, .int 12, .int 12]) := repD_ok (by decide) (by decide) (by decide)
def R16 : List D := (List.replicate 16 [(8 : Int), 12, 20]).flatten.map .int
theorem rep_c : repD (.lst [.int 8, .int 12, .int 20]) (.int 16) = .ok (.lst R16) := repD_ok (by decide) (by decide) (by decide)
theorem add_a : addD (.lst [.int 8, .int 2]) (.lst [.int 8, .int 8, .int 8, .int 8]) = .ok (.lst (S1.map .int)) := addD_lst (by decide)
theorem add_b : addD (.lst [.int 6]) (.lst [.int 12, .int 12, .int 12, .int 12, .int 12, .int 12, .int 12, .int 12]) = .ok (.lst (LS.map .int)) := addD_lst (by decide)
theorem add_c : addD (.lst [.int 3, .int 8]) (.lst R16) = .ok (.lst (WS.map .int)) := addD_lst (by decide)
theorem add_d : addD (.lst (LS.map .int)) (.lst [.int 6]) = .ok (.lst (LS2.map .int)) := addD_lst (by decide)
theorem pickH {z : Int} (h0 : 0 ≤ z) (h1 : z < 9) : ∃ H : Int, (1 ≤ H ∧ H ≤ 1000) ∧ idxD (.lst [.int 1, .int 2, .int 3, .int 2, .int 4, .int 5, .int 9, .int 3, .int 100]) (.int z) = .ok (.int H) := by
  have : z = 0 ∨ z = 1 ∨ z = 2 ∨ z = 3 ∨ z = 4 ∨ z = 5 ∨ z = 6 ∨ z = 7 ∨ z = 8 := by omega
  rcases this with rfl | rfl | rfl | rfl | rfl | rfl | rfl | rfl | rfl
  · exact ⟨1, by decide, rfl⟩
  · exact ⟨2, by decide, rfl⟩
  · exact ⟨3, by decide, rfl⟩
  · exact ⟨2, by decide, rfl⟩
  · exact ⟨4, by decide, rfl⟩
  · exact ⟨5, by decide, rfl⟩
  · exact ⟨9, by decide, rfl⟩
  · exact ⟨3, by decide, rfl⟩
  · exact ⟨100, by decide, rfl⟩
theorem pickM {z : Int} (h0 : 0 ≤ z) (h1 : z < 6) : ∃ n : Int, (1 ≤ n ∧ n ≤ 8) ∧ idxD (.lst [.int 8, .int 1, .int 1, .int 1, .int 1, .int 1]) (.int z) = .ok (.int n) := by
  have : z = 0 ∨ z = 1 ∨ z = 2 ∨ z = 3 ∨ z = 4 ∨ z = 5 := by omega
  rcases this with rfl | rfl | rfl | rfl | rfl | rfl
  · exact ⟨8, by decide, rfl⟩
  all_goals exact ⟨1, by decide, rfl⟩
theorem cut_from {xs : List D} {k : Nat} (h : k ≤ xs.length) : Dl.cutD xs (some (k : Int)) none = xs.drop k := by
  unfold Dl.cutD
  rw [HT.sIx_nat, show HT.sIx xs.length xs.length none = xs.length from rfl, Nat.min_eq_left h]
  exact List.take_of_length_le (by rw [List.length_drop]; omega)
theorem row_tail {s r : List Int} (h : Row s r) : Row (s.drop 1) (r.drop 1) := by
  refine ⟨by rw [List.length_drop, List.length_drop, h.1], fun i z e => ?_⟩
  rw [List.getElem?_drop] at e ⊢
  exact h.2 _ z e
theorem wf_take {Q : Str → Prop} {P : List Stp} (h : WF Q P) (n : Nat) : WF Q (P.take n) := fun i s e => h i s (by
  rw [List.getElem?_take] at e
  split at e
  · exact e
  · cases e)
theorem eqvL_ints : ∀ L : List Int, eqvL (L.map D.int) (L.map D.int) = true
  | [] => rfl
  | z :: L => by
    simp only [List.map_cons, eqvL, eqv_int, decide_true, Bool.true_and]
    exact eqvL_ints L
theorem ne_ints (L : List Int) : neD (.lst (L.map .int)) (.lst (L.map .int)) = .ok (.bl false) := by
  rw [neD_ok (okE_ints L).1 (okE_ints L).1, eqv_lst, eqvL_ints]
  rfl
theorem same_int (i : Int) : f_Lsame [.int i, .int i] = .ok (.bl true) := same_ok (n := 0) (by trivial) (by decide)
theorem late_rep {H : Int} {L : List Int} (h : LateOk H L) (n : Nat) : LateOk H (List.replicate n L).flatten ∧ (List.replicate n L).flatten.length = n * L.length := by
  constructor
  · intro x hx
    obtain ⟨l, hl, hx⟩ := List.mem_flatten.mp hx
    rw [List.eq_of_mem_replicate hl] at hx
    exact h x hx
  · induction n with
    | zero => simp
    | succ n ih => rw [List.replicate_succ, List.flatten_cons, List.length_append, ih, Nat.succ_mul]; omega
theorem rep_map (n : Nat) (L : List Int) : (List.replicate n (L.map D.int)).flatten = (List.replicate n L).flatten.map D.int := by
  induction n with
  | zero => rfl
  | succ n ih => rw [List.replicate_succ, List.flatten_cons, ih, List.replicate_succ, List.flatten_cons, List.map_append]

end Law
namespace Law
open PySem PySem.Spec PyProof.Rows L2 Dl
/-! ### which steps are ready -/
/-- x holds just the steps S -/
def Holds (S : List Nat) (x : D) : Prop := ∀ k : Nat, inD (.int (k : Nat)) x = .ok (.bl (decide (k ∈ S))) ∧ notInD (.int (k : Nat)) x = .ok (.bl (!decide (k ∈ S)))
def ni (S : List Nat) : List D := S.map fun k => D.int (k : Nat)
def dD (S : List Nat) : D := .dct (ni S) (S.map fun _ => D.bl true)
theorem flat_ni : ∀ S : List Nat, (ni S).all flatOk = true
  | [] => rfl
  | k :: S => by
    show (flatOk (.int (k : Nat)) && (ni S).all flatOk) = true
    rw [flat_ni S]; rfl
theorem keys_ni : ∀ S : List Nat, dKeys (ni S) = some (S.map fun k => NestedKey.num (k : Nat))
  | [] => rfl
  | k :: S => by
    show ((dKey (.int (k : Nat))).bind fun k => (dKeys (ni S)).map fun ks => k :: ks) = _
    rw [keys_ni S]; rfl
theorem find_num (k : Nat) : ∀ S : List Nat, ((S.map fun k => NestedKey.num (k : Nat)).findIdx? fun y => decide (y = NestedKey.num (k : Nat))) = S.findIdx? fun y => decide (y = k)
  | [] => rfl
  | a :: S => by
    rw [List.map_cons, List.findIdx?_cons, List.findIdx?_cons, find_num k S]
    have : decide (NestedKey.num (a : Nat) = NestedKey.num (k : Nat)) = decide (a = k) := decide_eq_decide.mpr ⟨fun z => by injection z with z; omega, fun z => by rw [z]⟩
    rw [this]
theorem dIdx_ni (S : List Nat) (k : Nat) : dIdx (ni S) (.int (k : Nat)) = .ok (S.findIdx? fun y => decide (y = k)) := by
  unfold dIdx
  rw [if_pos (.inl (by rw [flat_ni]; rfl)), keys_ni]
  show R.ok _ = _
  rw [find_num]
theorem find_mem (k : Nat) (S : List Nat) : (S.findIdx? fun y => decide (y = k)).isSome = decide (k ∈ S) := by
  induction S with
  | nil => rfl
  | cons a S ih =>
    rw [List.findIdx?_cons]
    by_cases h : a = k
    · subst h; simp
    · have h' : ¬ k = a := fun z => h z.symm
      simp only [decide_eq_false h, Bool.false_eq_true, if_false, Option.isSome_map, ih, List.mem_cons, h', false_or]
theorem holds_dD (S : List Nat) : Holds S (dD S) := fun k => by
  have e := dIdx_ni S k
  have m := find_mem k S
  unfold dD
  rw [inD_dct, notInD_dct, e, bind_ok, bind_ok, m]
  exact ⟨rfl, rfl⟩
theorem ni_cast (S : List Nat) : ni S = (S.map fun o : Nat => (o : Int)).map D.int := by unfold ni; rw [List.map_map]; rfl
theorem holds_nl (S : List Nat) : Holds S (.lst (ni S)) := fun k => by
  have e : decide ((k : Int) ∈ S.map fun o : Nat => (o : Int)) = decide (k ∈ S) := decide_eq_decide.mpr mem_cast
  rw [ni_cast, in_lst_ints, notin_lst_ints, e]
  exact ⟨rfl, rfl⟩
theorem in_words2 {x : Str} (hx : PyData.strOk x = true) : inD (.str x) (.tup [.str "input", .str "number"]) = .ok (.bl (Str.ofString "input" == x || Str.ofString "number" == x)) := by
  have h : okN 1 (.tup [.str "input", .str "number"]) := okN_tup fun d hd => by
    simp only [List.mem_cons, List.not_mem_nil, or_false] at hd
    rcases hd with rfl | rfl
    · exact okN_str (by decide +kernel)
    · exact okN_str (by decide +kernel)
  rw [inD_tupOk (okE_str hx) (h.ok (by decide))]
  simp [eqv_str]
theorem in2_i : inD (.str "input") (.tup [.str "input", .str "number"]) = .ok (.bl true) := by rw [in_words2 (by decide +kernel), s_ii]; rfl
theorem in2_n : inD (.str "number") (.tup [.str "input", .str "number"]) = .ok (.bl true) := by rw [in_words2 (by decide +kernel), s_in, s_nn]; rfl
theorem in2_p : inD (.str "plus") (.tup [.str "input", .str "number"]) = .ok (.bl false) := by rw [in_words2 (by decide +kernel), s_ip, s_np]; rfl
theorem in2_t : inD (.str "times") (.tup [.str "input", .str "number"]) = .ok (.bl false) := by rw [in_words2 (by decide +kernel), s_it, s_nt]; rfl
/-- a side that is there -/
def okS (P : List Stp) (S : List Nat) (a : Nat) : Bool := decide (a ∈ S) || (match P[a]? with
  | some s => s.leaf
  | none => false)
def rdyB (P : List Stp) (S : List Nat) (k : Nat) : Stp → Bool
  | .add a b => !decide (k ∈ S) && (okS P S a && okS P S b)
  | .mul a b => !decide (k ∈ S) && (okS P S a && okS P S b)
  | _ => false
def rdy (P : List Stp) (S : List Nat) (k : Nat) : Bool := match P[k]? with
  | some s => rdyB P S k s
  | none => false
theorem rdy_at {P : List Stp} {S : List Nat} {k : Nat} {s : Stp} (h : P[k]? = some s) : rdy P S k = rdyB P S k s := by unfold rdy; rw [h]
def ready (P : List Stp) (S : List Nat) : List Nat := (List.range P.length).filter (rdy P S)
theorem false_in (x y : Bool) : notInD (.bl false) (.lst [.bl x, .bl y]) = .ok (.bl (x && y)) := by cases x <;> cases y <;> rfl
theorem all_two (x y : Bool) : allD (.lst [.bl x, .bl y]) = .ok (.bl (x && y)) := by cases x <;> cases y <;> rfl
theorem ready_snoc (P : List Stp) (S : List Nat) (i : Nat) : (List.range (i + 1)).filter (rdy P S) = (List.range i).filter (rdy P S) ++ if rdy P S i then [i] else [] := by
  rw [List.range_succ, List.filter_append]
  congr 1
  cases h : rdy P S i <;> simp [h]
section
variable {Q : Str → Prop} {P : List Stp} (wf : WF Q P) (hp : P.length < 1000000)
include wf hp
theorem Lready_ok {S : List Nat} {x : D} (hx : Holds S x) : f_Lready [.tup (P.map Stp.d), x] = .ok (.lst (ni (ready P S))) := by
  show (execL b_Lready [some (.tup (P.map Stp.d)), some x, none, none, none]).fin = _
  have side : ∀ (v4 o2 o3 : Option D) (a b : Nat), a < P.length → b < P.length → compR (.nm 4) (evC .none) (evE (.or (.cons (.cmp .«in» (.v 4) (.v 1)) (.cons (.cmp .«in» (.idx (.idx (.v 0) (.v 4)) (.kI 0)) (.tup (.cons (.kS "input") (.cons (.kS "number") .nil)))) .nil)))) [some (.tup (P.map Stp.d)), some x, o2, o3, v4] [.int (a : Nat), .int (b : Nat)] = .ok (.lst [.bl (okS P S a), .bl (okS P S b)]) := fun v4 o2 o3 a b ha hb => by
    refine compR_ok ?_ (by simp)
    have := compL_all (g := .nm 4) (f := evE (.or (.cons (.cmp .«in» (.v 4) (.v 1)) (.cons (.cmp .«in» (.idx (.idx (.v 0) (.v 4)) (.kI 0)) (.tup (.cons (.kS "input") (.cons (.kS "number") .nil)))) .nil)))) (st := [some (.tup (P.map Stp.d)), some x, o2, o3, v4]) (c := evC .none) (fun d => match d with
      | .int z => .bl (okS P S z.toNat)
      | d => d) [.int (a : Nat), .int (b : Nat)] (fun d hd => by
        have key : ∀ c : Nat, c < P.length → ∃ s1, bindT (.nm 4) (.int (c : Nat)) (wipeS [some (.tup (P.map Stp.d)), some x, o2, o3, v4] (Tg.nm 4).vs) = .ok s1 ∧ evC .none s1 = .ok true ∧ evE (.or (.cons (.cmp .«in» (.v 4) (.v 1)) (.cons (.cmp .«in» (.idx (.idx (.v 0) (.v 4)) (.kI 0)) (.tup (.cons (.kS "input") (.cons (.kS "number") .nil)))) .nil))) s1 = .ok (.bl (okS P S c)) := fun c hc => by
          refine ⟨_, rfl, rfl, ?_⟩
          have h1 := (hx c).1
          have hs : P[c]? = some P[c] := List.getElem?_eq_getElem hc
          generalize P[c] = s at hs
          have gs := getP hs
          unfold okS
          rw [hs]
          by_cases q : c ∈ S
          · simp [q] at h1
            simp [Tg.vs, wipeS, h1, q]
          · simp [q] at h1
            cases s <;> simp [Tg.vs, wipeS, h1, q, gs, in2_i, in2_n, in2_p, in2_t, Stp.leaf]
        simp only [List.mem_cons, List.not_mem_nil, or_false] at hd
        rcases hd with rfl | rfl
        · exact key a ha
        · exact key b hb)
    rw [this]
    rfl
  simp [b_Lready, rngD_len (n := P.length) (by omega)]
  refine for_nm (P := fun o => o.fin = .ok (.lst (ni (ready P S)))) (fun i s => ∃ o3 o4, s = [some (.tup (P.map Stp.d)), some x, some (.lst (ni ((List.range i).filter (rdy P S)))), o3, o4]) ⟨none, none, rfl⟩ ?_ ?_
  · rintro i d s J hi ⟨o3, o4, rfl⟩ hJ
    obtain ⟨hi', rfl⟩ := at_range hi
    have hs : P[i]? = some P[i] := List.getElem?_eq_getElem hi'
    have hw := wf i _ hs
    have lp : (ni ((List.range i).filter (rdy P S))).length < 16777216 := by
      unfold ni
      rw [List.length_map]
      have := List.length_filter_le (rdy P S) (List.range i)
      rw [List.length_range] at this
      omega
    have h2 := (hx i).2
    rw [ready_snoc] at hJ
    have er := rdy_at (S := S) hs
    generalize P[i] = s at hs hw er
    have gs := getP hs
    have go1 : rdy P S i = true → ∀ o4, J [some (.tup (P.map Stp.d)), some x, some (.lst (ni ((List.range i).filter (rdy P S)) ++ [.int (i : Nat)])), some (.int (i : Nat)), o4] := fun e o4 => hJ _ ⟨some (.int (i : Nat)), o4, by rw [e]; simp [ni]⟩
    have go0 : rdy P S i = false → ∀ o4, J [some (.tup (P.map Stp.d)), some x, some (.lst (ni ((List.range i).filter (rdy P S)))), some (.int (i : Nat)), o4] := fun e o4 => hJ _ ⟨some (.int (i : Nat)), o4, by rw [e]; simp⟩
    generalize ni ((List.range i).filter (rdy P S)) = R at *
    cases s with
    | inp y => simp [gs, in_i]; exact go0 er _
    | num n => simp [gs, in_n]; exact go0 er _
    | add a b =>
      have hsd := side o4 (some (.lst R)) (some (.int (i : Nat))) a b (by have := hw.1; omega) (by have := hw.2; omega)
      by_cases q : i ∈ S
      · simp [q, rdyB] at h2 er
        simp [gs, in_p, h2]
        exact go0 er _
      · simp [q, rdyB] at h2 er
        have hf := false_in (okS P S a) (okS P S b)
        cases e : (okS P S a && okS P S b) with
        | true =>
          rw [e] at hf er
          simp [gs, in_p, h2, hsd, hf]
          rw [meO_append (ds := R) rfl lp]
          exact go1 er _
        | false =>
          rw [e] at hf er
          simp [gs, in_p, h2, hsd, hf]
          exact go0 er _
    | mul a b =>
      have hsd := side o4 (some (.lst R)) (some (.int (i : Nat))) a b (by have := hw.1; omega) (by have := hw.2; omega)
      by_cases q : i ∈ S
      · simp [q, rdyB] at h2 er
        simp [gs, in_t, h2]
        exact go0 er _
      · simp [q, rdyB] at h2 er
        have hf := false_in (okS P S a) (okS P S b)
        cases e : (okS P S a && okS P S b) with
        | true =>
          rw [e] at hf er
          simp [gs, in_t, h2, hsd, hf]
          rw [meO_append (ds := R) rfl lp]
          exact go1 er _
        | false =>
          rw [e] at hf er
          simp [gs, in_t, h2, hsd, hf]
          exact go0 er _
  · rintro s ⟨o3, o4, rfl⟩
    rw [List.length_map, List.length_range]
    simp
    rfl
end

end Law
namespace Law
open PySem PySem.Spec PyProof.Rows L2 Dl
section
variable {Q : Str → Prop} {P : List Stp} (wf : WF Q P) (hp : P.length < 1000000)
include wf hp
theorem are_done_ok {S : List Nat} {x : D} (hx : Holds S x) {a b : Nat} (ha : a < P.length) (hb : b < P.length) {d : D} (h1 : idxD d (.int 1) = .ok (.int (a : Nat))) (h2 : idxD d (.int 2) = .ok (.int (b : Nat))) : f_are_done [d, .tup (P.map Stp.d), x] = .ok (.bl (okS P S a && okS P S b)) := by
  show (execL b_are_done [some d, some (.tup (P.map Stp.d)), some x, none]).fin = _
  have side : compR (.nm 3) (evC .none) (evE (.or (.cons (.cmp .«in» (.v 3) (.v 2)) (.cons (.not (.call "is_inner" f_is_inner (.cons (.idx (.v 1) (.v 3)) .nil))) .nil)))) [some d, some (.tup (P.map Stp.d)), some x, none] [.int (a : Nat), .int (b : Nat)] = .ok (.lst [.bl (okS P S a), .bl (okS P S b)]) := by
    refine compR_ok ?_ (by simp)
    have := compL_all (g := .nm 3) (f := evE (.or (.cons (.cmp .«in» (.v 3) (.v 2)) (.cons (.not (.call "is_inner" f_is_inner (.cons (.idx (.v 1) (.v 3)) .nil))) .nil)))) (st := [some d, some (.tup (P.map Stp.d)), some x, none]) (c := evC .none) (fun d => match d with
      | .int z => .bl (okS P S z.toNat)
      | d => d) [.int (a : Nat), .int (b : Nat)] (fun e he => by
        have key : ∀ c : Nat, c < P.length → ∃ s1, bindT (.nm 3) (.int (c : Nat)) (wipeS [some d, some (.tup (P.map Stp.d)), some x, none] (Tg.nm 3).vs) = .ok s1 ∧ evC .none s1 = .ok true ∧ evE (.or (.cons (.cmp .«in» (.v 3) (.v 2)) (.cons (.not (.call "is_inner" f_is_inner (.cons (.idx (.v 1) (.v 3)) .nil))) .nil))) s1 = .ok (.bl (okS P S c)) := fun c hc => by
          refine ⟨_, rfl, rfl, ?_⟩
          have g1 := (hx c).1
          have hs : P[c]? = some P[c] := List.getElem?_eq_getElem hc
          generalize P[c] = s at hs
          have gs := getP hs
          have hin := inner_ok s
          unfold okS
          rw [hs]
          by_cases q : c ∈ S
          · simp [q] at g1
            simp [Tg.vs, wipeS, g1, q]
          · simp [q] at g1
            cases hl : s.leaf with
            | true => rw [hl] at hin; simp at hin; simp [Tg.vs, wipeS, g1, q, gs, hin, hl]
            | false => rw [hl] at hin; simp at hin; simp [Tg.vs, wipeS, g1, q, gs, hin, hl]
        simp only [List.mem_cons, List.not_mem_nil, or_false] at he
        rcases he with rfl | rfl
        · exact key a ha
        · exact key b hb)
    rw [this]
    rfl
  have := all_two (okS P S a) (okS P S b)
  simp [b_are_done, h1, h2, side, this]
theorem ready_indexes_ok {S : List Nat} {x : D} (hx : Holds S x) : f_ready_indexes [.tup (P.map Stp.d), x] = .ok (.lst (ni (ready P S))) := by
  show (execL b_ready_indexes [some (.tup (P.map Stp.d)), some x, none, none, none]).fin = _
  have hb : b_ready_indexes = .cons (.set 2 true (.lst .nil)) (.cons (.fors [2] (.tup [3, 4]) (.enum (.v 0)) (.cons (.ifs (.and (.cons (.call "is_inner" f_is_inner (.cons (.v 4) .nil)) (.cons (.cmp .notin (.v 3) (.v 1)) (.cons (.call "are_done" f_are_done (.cons (.v 4) (.cons (.v 0) (.cons (.v 1) .nil)))) .nil)))) (.cons (.me .append 2 none (.cons (.v 3) .nil)) .nil) .nil) .nil)) (.cons (.frz [2] (.ret (.v 2))) .nil)) := rfl
  obtain ⟨s1, e1, x3, x4, rfl⟩ := for_tgE (g := .tup [3, 4]) (body := execL (.cons (.ifs (.and (.cons (.call "is_inner" f_is_inner (.cons (.v 4) .nil)) (.cons (.cmp .notin (.v 3) (.v 1)) (.cons (.call "are_done" f_are_done (.cons (.v 4) (.cons (.v 0) (.cons (.v 1) .nil)))) .nil)))) (.cons (.me .append 2 none (.cons (.v 3) .nil)) .nil) .nil) .nil)) (items := enumL 0 (P.map Stp.d)) (st := [some (.tup (P.map Stp.d)), some x, some (.lst []), none, none]) (fun i s => ∃ x3 x4, s = [some (.tup (P.map Stp.d)), some x, some (.lst (ni ((List.range i).filter (rdy P S)))), x3, x4]) ⟨none, none, rfl⟩ fun i d s J hi hs hJ => by
    obtain ⟨x3, x4, rfl⟩ := hs
    obtain ⟨y, hy, rfl⟩ := enum_at hi
    obtain ⟨s, hs, rfl⟩ := at_stp hy
    refine ⟨_, bindT_two, ?_⟩
    rw [Nat.zero_add]
    have hi' := (List.getElem?_eq_some_iff.mp hs).1
    have hw := wf i s hs
    have lp : (ni ((List.range i).filter (rdy P S))).length < 16777216 := by
      unfold ni
      rw [List.length_map]
      have := List.length_filter_le (rdy P S) (List.range i)
      rw [List.length_range] at this
      omega
    have h2 := (hx i).2
    rw [ready_snoc] at hJ
    have er := rdy_at (S := S) hs
    have go1 : rdy P S i = true → J [some (.tup (P.map Stp.d)), some x, some (.lst (ni ((List.range i).filter (rdy P S)) ++ [.int (i : Nat)])), some (.int (i : Nat)), some s.d] := fun e => hJ _ ⟨some (.int (i : Nat)), some s.d, by rw [e]; simp [ni]⟩
    have go0 : rdy P S i = false → J [some (.tup (P.map Stp.d)), some x, some (.lst (ni ((List.range i).filter (rdy P S)))), some (.int (i : Nat)), some s.d] := fun e => hJ _ ⟨some (.int (i : Nat)), some s.d, by rw [e]; simp⟩
    have hin := inner_ok s
    have ad : ∀ a b : Nat, (s = .add a b ∨ s = .mul a b) → f_are_done [s.d, .tup (P.map Stp.d), x] = .ok (.bl (okS P S a && okS P S b)) := fun a b h => by
      have hab : a < i ∧ b < i := by rcases h with rfl | rfl <;> exact hw
      refine are_done_ok wf hp hx (by omega) (by omega) ?_ ?_ <;> rcases h with rfl | rfl <;> simp
    generalize ni ((List.range i).filter (rdy P S)) = R at *
    cases s with
    | inp y => simp [Stp.leaf] at hin; simp [hin]; exact go0 er
    | num n => simp [Stp.leaf] at hin; simp [hin]; exact go0 er
    | add a b =>
      have hd := ad a b (.inl rfl)
      simp [Stp.leaf] at hin hd
      by_cases q : i ∈ S
      · simp [q, rdyB] at h2 er
        simp [hin, h2]
        exact go0 er
      · simp [q, rdyB] at h2 er
        cases e : (okS P S a && okS P S b) with
        | true =>
          rw [e] at hd er
          simp [hin, h2, hd]
          rw [meO_append (ds := R) rfl lp]
          exact go1 er
        | false =>
          rw [e] at hd er
          simp [hin, h2, hd]
          exact go0 er
    | mul a b =>
      have hd := ad a b (.inr rfl)
      simp [Stp.leaf] at hin hd
      by_cases q : i ∈ S
      · simp [q, rdyB] at h2 er
        simp [hin, h2]
        exact go0 er
      · simp [q, rdyB] at h2 er
        cases e : (okS P S a && okS P S b) with
        | true =>
          rw [e] at hd er
          simp [hin, h2, hd]
          rw [meO_append (ds := R) rfl lp]
          exact go1 er
        | false =>
          rw [e] at hd er
          simp [hin, h2, hd]
          exact go0 er
  rw [enum_len, List.length_map] at e1
  rw [hb]
  simp [e1]
  rfl
end
/-! ### ready_steps -/
def accOf (S : List Nat) : List (Key × D) := S.map fun k : Nat => ((Sum.inl (k : Int) : Key), D.bl true)
theorem any_acc (S : List Nat) (k : Nat) : ((accOf S).any fun kv => decide (kv.1 = Sum.inl (k : Int))) = decide (k ∈ S) := by
  induction S with
  | nil => rfl
  | cons a S ih =>
    show (decide ((Sum.inl (a : Int) : Key) = Sum.inl (k : Int)) || (accOf S).any fun kv => decide (kv.1 = Sum.inl (k : Int))) = _
    rw [ih]
    by_cases h : a = k
    · subst h; simp
    · have h' : ¬ k = a := fun z => h z.symm
      have h2 : ¬ (Sum.inl (a : Int) : Key) = Sum.inl (k : Int) := fun z => h (by injection z with z; omega)
      simp [h', h2]
theorem put_acc (S : List Nat) (k : Nat) : putG (accOf S) (Sum.inl (k : Int)) (.bl true) = accOf (addO S k) := by
  unfold putG addO
  rw [any_acc]
  by_cases h : k ∈ S
  · rw [if_pos (by simpa using h), if_pos h]
    unfold accOf
    rw [List.map_map]
    refine List.map_congr_left fun a _ => ?_
    show (if (Sum.inl (a : Int) : Key) = Sum.inl (k : Int) then ((Sum.inl (a : Int) : Key), D.bl true) else (Sum.inl (a : Int), D.bl true)) = _
    split <;> rfl
  · rw [if_neg (by simpa using h), if_neg h]
    unfold accOf
    rw [List.map_append]
    rfl
theorem dct_acc (S : List Nat) : dctG (accOf S) = dD S := by
  unfold dctG accOf dD ni
  rw [List.map_map, List.map_map]
  rfl
theorem dc_acc (p y v : Option D) : ∀ (L S : List Nat), dcL (.nm 2) (evC .none) (evE (.v 2)) (evE (.kB true)) [p, y, v] (ni L) (accOf S) = some (accOf (L.foldl addO S))
  | [], S => rfl
  | k :: L, S => by
    have ih := dc_acc p y v L (addO S k)
    rw [← put_acc] at ih
    exact ih
theorem mem_foldl : ∀ (L S : List Nat) (k : Nat), k ∈ L.foldl addO S ↔ k ∈ S ∨ k ∈ L
  | [], S, k => by simp
  | a :: L, S, k => by
    rw [List.foldl_cons, mem_foldl L (addO S a) k]
    constructor
    · rintro (h | h)
      · rcases add_mem h with h | rfl
        · exact .inl h
        · exact .inr List.mem_cons_self
      · exact .inr (List.mem_cons_of_mem _ h)
    · rintro (h | h)
      · exact .inl (mem_add.2 _ h)
      · rcases List.mem_cons.mp h with rfl | h
        · exact .inl mem_add.1
        · exact .inr h
theorem Holds.congr {S S' : List Nat} {x : D} (h : Holds S x) (e : ∀ k, k ∈ S ↔ k ∈ S') : Holds S' x := fun k => by
  have : decide (k ∈ S) = decide (k ∈ S') := decide_eq_decide.mpr (e k)
  rw [← this]; exact h k
theorem okS_congr {P : List Stp} {S S' : List Nat} (e : ∀ k, k ∈ S ↔ k ∈ S') (k : Nat) : rdy P S k = rdy P S' k := by
  have h : ∀ k, decide (k ∈ S) = decide (k ∈ S') := fun k => decide_eq_decide.mpr (e k)
  unfold rdy
  cases P[k]? with
  | none => rfl
  | some s => cases s <;> simp only [rdyB, okS, h]
theorem ready_congr {P : List Stp} {S S' : List Nat} (e : ∀ k, k ∈ S ↔ k ∈ S') : ready P S = ready P S' := by
  unfold ready
  rw [show rdy P S = rdy P S' from funext (okS_congr e)]
section
variable {Q : Str → Prop} {P : List Stp} (wf : WF Q P) (hp : P.length < 1000000)
include wf hp
theorem ready_steps_ok (outs : List Nat) {L : List Nat} (hl : L.length ≤ 1000000) {y : D} (hy : y = .lst (ni L) ∨ y = .tup (ni L)) : f_ready_steps [Pro P outs, y] = .ok (.tup (ni (ready P L))) := by
  show (execL b_ready_steps [some (Pro P outs), some y, none]).fin = _
  have dc : ∀ v, dcR (.nm 2) (evC .none) (evE (.v 2)) (evE (.kB true)) [some (Pro P outs), some y, v] (ni L) = .ok (dD (L.foldl addO [])) := fun v => by
    unfold dcR
    rw [if_pos (by unfold ni; rw [List.length_map]; omega)]
    have := dc_acc (some (Pro P outs)) (some y) v L []
    rw [show accOf [] = [] from rfl] at this
    rw [this]
    show R.ok (dctG _) = _
    rw [dct_acc]
  have it : iterD y = .ok (ni L) := by rcases hy with rfl | rfl <;> rfl
  have hm : ∀ k, k ∈ L.foldl addO [] ↔ k ∈ L := fun k => by rw [mem_foldl]; simp
  have hr := ready_indexes_ok wf hp (holds_dD (L.foldl addO []))
  rw [ready_congr hm] at hr
  simp [b_ready_steps, it, dc, hr]
end

end Law
namespace Law
open PySem PySem.Spec PyProof.Rows L2 Dl
/-! ### what is taken -/
theorem apPop_ok {i j : Nat} {st : SD} {di dj : List D} {k : Int} {d : D} (hi : lstAt st i = some di) (hj : lstAt st j = some dj) (hne : j ≠ i) (h0 : 0 ≤ k) (h1 : k < dj.length) (hl : dj.length < 1000000000) (hli : di.length < 16777216) (hd : dj[k.toNat]? = some d) : apPopO i j st (.ok [.int k]) = .nx ((st.set j (some (.lst (dj.eraseIdx k.toNat)))).set i (some (.lst (di ++ [d])))) := by
  have hk := (ixN_seq (ixN_at h0 h1)).1
  have e : meD .popAt dj [.int k] = some (dj.eraseIdx k.toNat, d) := by
    simp only [meD]
    rw [if_pos ⟨by omega, by omega⟩, hk]
    dsimp only
    rw [hd]
  have e2 : lstAt (st.set j (some (.lst (dj.eraseIdx k.toNat)))) i = some di := by
    unfold lstAt at hi ⊢
    rw [List.getElem?_set_ne hne]; exact hi
  unfold apPopO
  rw [hi]
  dsimp only
  rw [hj]
  simp only [toO_ok]
  rw [e]
  dsimp only
  rw [e2]
  dsimp only
  rw [if_pos hli]
def pickAt (C : List Int) (u : Nat) : Int := C.getD (u % C.length) 0
def tkI (C : List Int) (u : Nat) (R : List Nat) : Nat → List Nat × List Nat
  | 0 => (R, [])
  | i + 1 => ((tkI C u R i).1.eraseIdx (pickAt C (u + i) % ((tkI C u R i).1.length : Int)).toNat, (tkI C u R i).2 ++ [(tkI C u R i).1.getD (pickAt C (u + i) % ((tkI C u R i).1.length : Int)).toNat 0])
theorem tk_ix {z : Int} {n : Nat} (h : 0 < n) : (z % (n : Int)).toNat < n ∧ 0 ≤ z % (n : Int) ∧ z % (n : Int) < n := by
  have h1 := Int.emod_nonneg z (show (n : Int) ≠ 0 by omega)
  have h2 := Int.emod_lt_of_pos z (show (0 : Int) < n by omega)
  omega
theorem erase_perm {α : Type} : ∀ (l : List α) (i : Nat) (h : i < l.length), (l[i] :: l.eraseIdx i).Perm l
  | a :: l, 0, _ => List.Perm.refl _
  | a :: l, i + 1, h => by
    have h' : i < l.length := by simpa using h
    exact (List.Perm.swap a l[i] _).trans ((erase_perm l i h').cons a)
theorem map_erase {α β : Type} (f : α → β) : ∀ (l : List α) (i : Nat), (l.map f).eraseIdx i = (l.eraseIdx i).map f
  | [], _ => rfl
  | a :: l, 0 => rfl
  | a :: l, i + 1 => by
    show f a :: (l.map f).eraseIdx i = f a :: (l.eraseIdx i).map f
    rw [map_erase f l i]
theorem tkI_len (C : List Int) (u : Nat) (R : List Nat) : ∀ i, i ≤ R.length → (tkI C u R i).1.length = R.length - i ∧ (tkI C u R i).2.length = i ∧ ((tkI C u R i).2 ++ (tkI C u R i).1).Perm R
  | 0, _ => ⟨rfl, rfl, List.Perm.refl _⟩
  | i + 1, h => by
    obtain ⟨h1, h2, h3⟩ := tkI_len C u R i (by omega)
    have hj := (tk_ix (z := pickAt C (u + i)) (n := (tkI C u R i).1.length) (by omega)).1
    unfold tkI
    generalize (pickAt C (u + i) % ((tkI C u R i).1.length : Int)).toNat = j at hj
    generalize tkI C u R i = q at *
    refine ⟨?_, by rw [List.length_append, h2]; rfl, ?_⟩
    · show (q.1.eraseIdx j).length = _
      rw [List.length_eraseIdx_of_lt hj]; omega
    · show ((q.2 ++ [q.1.getD j 0]) ++ q.1.eraseIdx j).Perm R
      refine List.Perm.trans ?_ h3
      rw [List.append_assoc]
      refine List.Perm.append_left _ ?_
      rw [List.getD_eq_getElem?_getD, List.getElem?_eq_getElem hj]
      exact erase_perm q.1 j hj
def srt (T : List Nat) : List Nat := (sortI (T.map fun k : Nat => (k : Int))).map Int.toNat
theorem srt_perm (T : List Nat) : (srt T).Perm T := by
  unfold srt
  refine ((sortI_perm _).map Int.toNat).trans ?_
  rw [List.map_map]
  have : (Int.toNat ∘ fun k : Nat => (k : Int)) = id := by funext k; simp
  rw [this, List.map_id]
theorem sort_ni (T : List Nat) : sortD (.lst (ni T)) = .ok (.lst (ni (srt T))) := by
  rw [ni_cast]
  show ofO (fun ns => D.lst ((sortI ns).map D.int)) (intsD ((T.map fun k : Nat => (k : Int)).map D.int)) = _
  rw [intsD_map]
  show R.ok (D.lst _) = _
  congr 2
  unfold ni srt
  rw [List.map_map]
  refine List.map_congr_left fun z hz => ?_
  have hz' := (sortI_perm _).mem_iff.mp hz
  obtain ⟨k, -, rfl⟩ := List.mem_map.mp hz'
  show D.int (k : Int) = D.int (((k : Int).toNat : Nat) : Int)
  rw [Int.toNat_natCast]
theorem pick_ok {C : List Int} {x : D} (hx : isL C x) (h : 0 < C.length) (u : Nat) : idxD x (.int ((u : Int) % (C.length : Int))) = .ok (.int (pickAt C u)) := by
  have := isL_idx hx (t := u % C.length) (Nat.mod_lt _ h)
  rw [Int.natCast_emod] at this
  exact this
theorem ni_len (S : List Nat) : (ni S).length = S.length := by unfold ni; rw [List.length_map]
theorem ni_erase (S : List Nat) (j : Nat) : (ni S).eraseIdx j = ni (S.eraseIdx j) := by unfold ni; rw [map_erase]
theorem ni_get {S : List Nat} {j : Nat} (h : j < S.length) : (ni S)[j]? = some (.int (S.getD j 0 : Nat)) := by
  unfold ni
  rw [List.getElem?_map, List.getD_eq_getElem?_getD, List.getElem?_eq_getElem h]; rfl
theorem min2D_nat (a b : Nat) : min2D (.int (a : Nat)) (.int (b : Nat)) = .ok (.int ((min a b : Nat) : Int)) := by
  rw [min2D_int]; congr 2; omega
/-- one turn: the statements behind the pick -/
theorem pop_turn {R : List Nat} {C : List Int} {u i : Nat} {x : D} {o0 o1 o6 : Option D} (hi : i < R.length) (hl : R.length < 1000000) :
    apPopO 5 4 [o0, o1, some x, some (.int (u : Nat)), some (.lst (ni (tkI C u R i).1)), some (.lst (ni (tkI C u R i).2)), o6, some (.int (pickAt C (u + i)))] (.ok [.int (pickAt C (u + i) % ((tkI C u R i).1.length : Int))]) = .nx [o0, o1, some x, some (.int (u : Nat)), some (.lst (ni (tkI C u R (i + 1)).1)), some (.lst (ni (tkI C u R (i + 1)).2)), o6, some (.int (pickAt C (u + i)))] := by
  obtain ⟨h1, h2, -⟩ := tkI_len C u R i (by omega)
  obtain ⟨g1, g2, g3⟩ := tk_ix (z := pickAt C (u + i)) (n := (tkI C u R i).1.length) (by omega)
  have := apPop_ok (i := 5) (j := 4) (st := [o0, o1, some x, some (.int (u : Nat)), some (.lst (ni (tkI C u R i).1)), some (.lst (ni (tkI C u R i).2)), o6, some (.int (pickAt C (u + i)))]) (di := ni (tkI C u R i).2) (dj := ni (tkI C u R i).1) rfl rfl (by decide) g2 (by rw [ni_len]; exact g3) (by rw [ni_len]; omega) (by rw [ni_len]; omega) (ni_get g1)
  rw [this, ni_erase]
  have e : ni (tkI C u R i).2 ++ [D.int ((tkI C u R i).1.getD (pickAt C (u + i) % ((tkI C u R i).1.length : Int)).toNat 0 : Nat)] = ni (tkI C u R (i + 1)).2 := by
    unfold ni
    show _ = List.map _ ((tkI C u R i).2 ++ [_])
    rw [List.map_append]
    rfl
  rw [e]
  rfl
section
variable {R : List Nat} {C : List Int} {x : D} (hx : isL C x) (hl : R.length < 1000000) (m u : Nat)
include hx hl
theorem Ltaken_ok : f_Ltaken [.lst (ni R), .int (m : Nat), x, .int (u : Nat)] = .ok (.lst (ni (srt (tkI C u R (min m R.length)).2))) := by
  show (execL b_Ltaken [some (.lst (ni R)), some (.int (m : Nat)), some x, some (.int (u : Nat)), none, none, none, none]).fin = _
  have hlen := isL_len hx
  simp [b_Ltaken, ni_len, min2D_nat, -min2D_int, rngD_len (n := min m R.length) (by omega)]
  refine for_nm (P := fun o => o.fin = .ok (.lst (ni (srt (tkI C u R (min m R.length)).2)))) (fun i s => ∃ o6 o7, s = [some (.lst (ni R)), some (.int (m : Nat)), some x, some (.int (u : Nat)), some (.lst (ni (tkI C u R i).1)), some (.lst (ni (tkI C u R i).2)), o6, o7]) ⟨none, none, rfl⟩ ?_ ?_
  · rintro i d s J hi ⟨o6, o7, rfl⟩ hJ
    obtain ⟨hi', rfl⟩ := at_range hi
    have hiR : i < R.length := by omega
    obtain ⟨h1, h2, -⟩ := tkI_len C u R i (by omega)
    have hq : (0 : Int) < ((tkI C u R i).1.length : Int) := by omega
    have pt := pop_turn (R := R) (C := C) (u := u) (i := i) (x := x) (o0 := some (.lst (ni R))) (o1 := some (.int (m : Nat))) (o6 := some (.int (i : Nat))) hiR hl
    have go := hJ _ ⟨some (.int (i : Nat)), some (.int (pickAt C (u + i))), rfl⟩
    refine step_nx (P := Goes J _ _) (fun s => s = [some (.lst (ni R)), some (.int (m : Nat)), some x, some (.int (u : Nat)), some (.lst (ni (tkI C u R i).1)), some (.lst (ni (tkI C u R i).2)), some (.int (i : Nat)), some (.int 0)]) (fun J h => by simp; exact h _ rfl) ?_
    rintro _ rfl
    refine step_nx (P := Goes J _ _) (fun s => s = [some (.lst (ni R)), some (.int (m : Nat)), some x, some (.int (u : Nat)), some (.lst (ni (tkI C u R i).1)), some (.lst (ni (tkI C u R i).2)), some (.int (i : Nat)), some (.int (pickAt C (u + i)))]) (fun J h => ?_) ?_
    · by_cases c : 0 < C.length
      · have pk := pick_ok hx c (u + i)
        rw [Int.natCast_add] at pk
        simp [hlen, c, modD_int (show (0 : Int) < (C.length : Int) by omega), pk]
        exact h _ rfl
      · have hC : C = [] := List.eq_nil_of_length_eq_zero (by omega)
        have e0 : pickAt C (u + i) = 0 := by unfold pickAt; rw [hC]; simp
        rw [e0] at h
        simp [hlen, c]
        exact h _ rfl
    rintro _ rfl
    simp [ni_len, modD_int hq, pt]
    exact go
  · rintro s ⟨o6, o7, rfl⟩
    rw [List.length_map, List.length_range]
    simp [sort_ni]
theorem taken_steps_ok : f_taken_steps [.lst (ni R), .int (m : Nat), x, .int (u : Nat)] = .ok (.lst (ni (srt (tkI C u R (min m R.length)).2))) := by
  show (execL b_taken_steps [some (.lst (ni R)), some (.int (m : Nat)), some x, some (.int (u : Nat)), none, none, none, none]).fin = _
  have hlen := isL_len hx
  have htr : truthD x = .ok (!C.isEmpty) := by rcases hx with rfl | rfl <;> simp [truthD]
  simp [b_taken_steps, ni_len, min2D_nat, -min2D_int, rngD_len (n := min m R.length) (by omega)]
  refine for_nm (P := fun o => o.fin = .ok (.lst (ni (srt (tkI C u R (min m R.length)).2)))) (fun i s => ∃ o6 o7, s = [some (.lst (ni R)), some (.int (m : Nat)), some x, some (.int (u : Nat)), some (.lst (ni (tkI C u R i).1)), some (.lst (ni (tkI C u R i).2)), o6, o7]) ⟨none, none, rfl⟩ ?_ ?_
  · rintro i d s J hi ⟨o6, o7, rfl⟩ hJ
    obtain ⟨hi', rfl⟩ := at_range hi
    have hiR : i < R.length := by omega
    obtain ⟨h1, h2, -⟩ := tkI_len C u R i (by omega)
    have hq : (0 : Int) < ((tkI C u R i).1.length : Int) := by omega
    have pt := pop_turn (R := R) (C := C) (u := u) (i := i) (x := x) (o0 := some (.lst (ni R))) (o1 := some (.int (m : Nat))) (o6 := some (.int (i : Nat))) hiR hl
    have go := hJ _ ⟨some (.int (i : Nat)), some (.int (pickAt C (u + i))), rfl⟩
    refine step_nx (P := Goes J _ _) (fun s => s = [some (.lst (ni R)), some (.int (m : Nat)), some x, some (.int (u : Nat)), some (.lst (ni (tkI C u R i).1)), some (.lst (ni (tkI C u R i).2)), some (.int (i : Nat)), some (.int 0)]) (fun J h => by simp; exact h _ rfl) ?_
    rintro _ rfl
    refine step_nx (P := Goes J _ _) (fun s => s = [some (.lst (ni R)), some (.int (m : Nat)), some x, some (.int (u : Nat)), some (.lst (ni (tkI C u R i).1)), some (.lst (ni (tkI C u R i).2)), some (.int (i : Nat)), some (.int (pickAt C (u + i)))]) (fun J h => ?_) ?_
    · rcases Nat.eq_zero_or_pos C.length with c | c
      · have hC : C = [] := List.eq_nil_of_length_eq_zero c
        have e0 : pickAt C (u + i) = 0 := by unfold pickAt; rw [hC]; simp
        have ht : truthD x = .ok false := by rw [htr, hC]; rfl
        rw [e0] at h
        simp [ht]
        exact h _ rfl
      · have ht : truthD x = .ok true := by
          rw [htr]
          cases C with
          | nil => simp at c
          | cons _ _ => rfl
        have pk := pick_ok hx c (u + i)
        rw [Int.natCast_add] at pk
        have md := modD_int (a := (u : Int) + (i : Int)) (show (0 : Int) < (C.length : Int) by omega)
        simp [ht, hlen, md, pk]
        exact h _ rfl
    rintro _ rfl
    simp [ni_len, modD_int hq, pt]
    exact go
  · rintro s ⟨o6, o7, rfl⟩
    rw [List.length_map, List.length_range]
    simp [sort_ni]
end

end Law
namespace Law
open PySem PySem.Spec PyProof.Rows L2 Dl
theorem snocR {α : Type} {p : List α → Prop} (h0 : p []) (h1 : ∀ l a, p l → p (l ++ [a])) (l : List α) : p l := by
  have : ∀ l : List α, p l.reverse := by
    intro l
    induction l with
    | nil => exact h0
    | cons a l ih => rw [List.reverse_cons]; exact h1 _ _ ih
  rw [← l.reverse_reverse]
  exact this _
/-! ### the rounds -/
theorem nodup_len : ∀ {A B : List Nat}, A.Nodup → (∀ x ∈ A, x ∈ B) → A.length ≤ B.length
  | [], _, _, _ => by simp
  | a :: A, B, hA, h => by
    rw [List.nodup_cons] at hA
    have ha := h a List.mem_cons_self
    have := nodup_len (B := B.erase a) hA.2 fun x hx => (List.mem_erase_of_ne (fun (z : x = a) => hA.1 (by rw [← z]; exact hx))).mpr (h x (List.mem_cons_of_mem _ hx))
    rw [List.length_erase_of_mem ha] at this
    have := List.length_pos_of_mem ha
    simp only [List.length_cons]
    omega
theorem least_of {p : Nat → Prop} (dec : ∀ n, Decidable (p n)) : ∀ B : Nat, p B → ∃ N, N ≤ B ∧ p N ∧ ∀ u, u < N → ¬ p u := by
  intro B
  induction B using Nat.strongRecOn with
  | ind B ih =>
    intro hB
    by_cases q : ∃ m, m < B ∧ p m
    · obtain ⟨m, m1, m2⟩ := q
      obtain ⟨N, n1, n2, n3⟩ := ih m m1 m2
      exact ⟨N, by omega, n2, n3⟩
    · exact ⟨B, Nat.le_refl _, hB, fun u hu hp => q ⟨u, hu, hp⟩⟩
def isIn (P : List Stp) (k : Nat) : Bool := match P[k]? with
  | some s => !s.leaf
  | none => false
def inners (P : List Stp) : List Nat := (List.range P.length).filter (isIn P)
theorem inners_nodup (P : List Stp) : (inners P).Nodup := List.Pairwise.filter _ List.nodup_range
theorem inners_len (P : List Stp) : (inners P).length = work P := by
  refine snocR (p := fun P => (inners P).length = work P) rfl (fun P s ih => ?_) P
  rw [work_snoc, ← ih]
  unfold inners
  rw [List.length_append, List.length_cons, List.length_nil, Nat.zero_add, List.range_succ, List.filter_append, List.length_append]
  congr 1
  · congr 1
    refine List.filter_congr fun k hk => ?_
    have hk' := List.mem_range.mp hk
    unfold isIn
    rw [List.getElem?_append_left hk']
  · have e : isIn (P ++ [s]) P.length = !s.leaf := by
      unfold isIn
      rw [List.getElem?_append_right (Nat.le_refl _), Nat.sub_self]
      rfl
    cases h : s.leaf <;> simp [e, h]
theorem mem_inners {P : List Stp} {k : Nat} : k ∈ inners P ↔ isIn P k = true := by
  unfold inners
  rw [List.mem_filter, List.mem_range]
  constructor
  · exact fun h => h.2
  · intro h
    refine ⟨?_, h⟩
    unfold isIn at h
    cases e : P[k]? with
    | none => rw [e] at h; cases h
    | some s => exact (List.getElem?_eq_some_iff.mp e).1
theorem ready_mem {P : List Stp} {S : List Nat} {k : Nat} (h : k ∈ ready P S) : k ∉ S ∧ k ∈ inners P := by
  unfold ready at h
  rw [List.mem_filter] at h
  have h2 := h.2
  unfold rdy at h2
  rw [mem_inners]
  unfold isIn
  cases e : P[k]? with
  | none => rw [e] at h2; cases h2
  | some s =>
    rw [e] at h2
    cases s with
    | inp _ => cases h2
    | num _ => cases h2
    | add a b => simp [rdyB] at h2; exact ⟨h2.1, rfl⟩
    | mul a b => simp [rdyB] at h2; exact ⟨h2.1, rfl⟩
theorem ready_nodup (P : List Stp) (S : List Nat) : (ready P S).Nodup := List.Pairwise.filter _ List.nodup_range
theorem ready_ne {Q : Str → Prop} {P : List Stp} (wf : WF Q P) {S : List Nat} : ∀ k, isIn P k = true → k ∉ S → ready P S ≠ [] := by
  intro k
  induction k using Nat.strongRecOn with
  | ind k ih =>
    intro hk hS
    have hlt : k < P.length := by
      have := mem_inners.mpr hk
      unfold inners at this
      rw [List.mem_filter, List.mem_range] at this
      exact this.1
    have hs : P[k]? = some P[k] := List.getElem?_eq_getElem hlt
    have go : ∀ a b : Nat, a < k → b < k → (rdyB P S k P[k] = (!decide (k ∈ S) && (okS P S a && okS P S b))) → ready P S ≠ [] := fun a b ha hb e => by
      by_cases qa : okS P S a = true
      · by_cases qb : okS P S b = true
        · have : k ∈ ready P S := by
            unfold ready
            rw [List.mem_filter, List.mem_range]
            refine ⟨hlt, ?_⟩
            rw [rdy_at hs, e, qa, qb]
            simpa using hS
          intro z
          rw [z] at this
          cases this
        · refine ih b hb ?_ ?_
          · unfold okS at qb
            unfold isIn
            rw [List.getElem?_eq_getElem (by omega)] at qb ⊢
            simp at qb ⊢
            exact qb.2
          · unfold okS at qb
            simp at qb
            exact qb.1
      · refine ih a ha ?_ ?_
        · unfold okS at qa
          unfold isIn
          rw [List.getElem?_eq_getElem (by omega)] at qa ⊢
          simp at qa ⊢
          exact qa.2
        · unfold okS at qa
          simp at qa
          exact qa.1
    have hw := wf k _ hs
    unfold isIn at hk
    rw [hs] at hk
    generalize P[k] = s at *
    cases s with
    | inp _ => cases hk
    | num _ => cases hk
    | add a b => exact go a b hw.1 hw.2 rfl
    | mul a b => exact go a b hw.1 hw.2 rfl
theorem ready_all {P : List Stp} {S : List Nat} (h : ∀ k ∈ inners P, k ∈ S) : ready P S = [] := by
  cases e : ready P S with
  | nil => rfl
  | cons k r =>
    have hk : k ∈ ready P S := by rw [e]; exact List.mem_cons_self
    obtain ⟨h1, h2⟩ := ready_mem hk
    exact absurd (h k h2) h1
/-- what the crew takes in a round -/
def tkn (P : List Stp) (H : Int) (L C : List Int) (S : List Nat) (t : Nat) : List Nat := srt (tkI C S.length (ready P S) (min (wk H L t).toNat (ready P S).length)).2
theorem tkn_facts (P : List Stp) (H : Int) (L C : List Int) (S : List Nat) (t : Nat) : (tkn P H L C S t).Nodup ∧ (∀ k ∈ tkn P H L C S t, k ∉ S ∧ k ∈ inners P) ∧ (tkn P H L C S t).length = min (wk H L t).toNat (ready P S).length := by
  obtain ⟨h1, h2, h3⟩ := tkI_len C S.length (ready P S) (min (wk H L t).toNat (ready P S).length) (Nat.min_le_right _ _)
  have hp := srt_perm (tkI C S.length (ready P S) (min (wk H L t).toNat (ready P S).length)).2
  have nd := h3.nodup_iff.mpr (ready_nodup P S)
  refine ⟨hp.nodup_iff.mpr (List.nodup_append.mp nd).1, fun k hk => ?_, ?_⟩
  · have hk2 := hp.mem_iff.mp hk
    exact ready_mem (h3.mem_iff.mp (List.mem_append_left _ hk2))
  · unfold tkn
    rw [hp.length_eq, h2]
theorem foldl_addO : ∀ (T S : List Nat), T.Nodup → (∀ k ∈ T, k ∉ S) → T.foldl addO S = S ++ T
  | [], S, _, _ => by simp
  | a :: T, S, nd, h => by
    rw [List.nodup_cons] at nd
    have ha : addO S a = S ++ [a] := if_neg (h a List.mem_cons_self)
    rw [List.foldl_cons, ha, foldl_addO T (S ++ [a]) nd.2 fun k hk hm => ?_]
    · simp
    · rcases List.mem_append.mp hm with hm | hm
      · exact h k (List.mem_cons_of_mem _ hk) hm
      · rw [List.mem_singleton] at hm
        subst hm
        exact nd.1 hk
/-- the done steps behind t rounds -/
def Sq (P : List Stp) (H : Int) (L C : List Int) : Nat → List Nat
  | 0 => []
  | t + 1 => if work P ≤ (Sq P H L C t).length then Sq P H L C t else Sq P H L C t ++ tkn P H L C (Sq P H L C t) t
theorem Sq_inv (P : List Stp) (H : Int) (L C : List Int) : ∀ t, (Sq P H L C t).Nodup ∧ ∀ k ∈ Sq P H L C t, k ∈ inners P
  | 0 => ⟨List.nodup_nil, fun k h => by cases h⟩
  | t + 1 => by
    obtain ⟨h1, h2⟩ := Sq_inv P H L C t
    obtain ⟨g1, g2, -⟩ := tkn_facts P H L C (Sq P H L C t) t
    unfold Sq
    split
    · exact ⟨h1, h2⟩
    · refine ⟨List.nodup_append.mpr ⟨h1, g1, fun a ha b hb e => (g2 b hb).1 (e ▸ ha)⟩, fun k hk => ?_⟩
      rcases List.mem_append.mp hk with hk | hk
      · exact h2 k hk
      · exact (g2 k hk).2
theorem Sq_go {Q : Str → Prop} {P : List Stp} (wf : WF Q P) {H : Int} {L C : List Int} (hH : 1 ≤ H) : ∀ m, min m (work P) ≤ (Sq P H L C (L.length + m)).length
  | 0 => by simp
  | m + 1 => by
    have ih := Sq_go wf (L := L) (C := C) hH m
    obtain ⟨h1, h2⟩ := Sq_inv P H L C (L.length + m)
    show _ ≤ (Sq P H L C ((L.length + m) + 1)).length
    rw [Sq]
    split
    · omega
    · rename_i hc
      obtain ⟨-, -, g3⟩ := tkn_facts P H L C (Sq P H L C (L.length + m)) (L.length + m)
      rw [List.length_append, g3]
      have hw : wk H L (L.length + m) = H := by
        unfold wk
        rw [getD_out (by omega)]; omega
      have hr : ready P (Sq P H L C (L.length + m)) ≠ [] := by
        have : ∃ k, isIn P k = true ∧ k ∉ Sq P H L C (L.length + m) := by
          by_cases q : ∃ k, isIn P k = true ∧ k ∉ Sq P H L C (L.length + m)
          · exact q
          · have := nodup_len (inners_nodup P) (B := Sq P H L C (L.length + m)) fun k hk => by
              by_cases z : k ∈ Sq P H L C (L.length + m)
              · exact z
              · exact absurd ⟨k, mem_inners.mp hk, z⟩ q
            rw [inners_len] at this
            omega
        obtain ⟨k, k1, k2⟩ := this
        exact ready_ne wf k k1 k2
      have hl := List.length_pos_iff.mpr hr
      rw [hw]
      omega
/-- how many rounds there are -/
theorem rounds_ex {Q : Str → Prop} {P : List Stp} (wf : WF Q P) {H : Int} (L C : List Int) (hH : 1 ≤ H) : ∃ N, N ≤ L.length + work P ∧ work P ≤ (Sq P H L C N).length ∧ ∀ u, u < N → ¬ work P ≤ (Sq P H L C u).length := by
  refine least_of (fun n => inferInstance) _ ?_
  have := Sq_go wf (L := L) (C := C) hH (work P)
  omega
theorem Sq_next {P : List Stp} {H : Int} {L C : List Int} {t : Nat} (h : ¬ work P ≤ (Sq P H L C t).length) : Sq P H L C (t + 1) = Sq P H L C t ++ tkn P H L C (Sq P H L C t) t := by
  rw [Sq, if_neg h]
theorem Sq_full {P : List Stp} {H : Int} {L C : List Int} {t : Nat} (h : work P ≤ (Sq P H L C t).length) : ∀ k ∈ inners P, k ∈ Sq P H L C t := by
  intro k hk
  obtain ⟨h1, h2⟩ := Sq_inv P H L C t
  by_cases z : k ∈ Sq P H L C t
  · exact z
  · have := nodup_len (A := k :: Sq P H L C t) (B := inners P) (List.nodup_cons.mpr ⟨z, h1⟩) fun x hx => by
      rcases List.mem_cons.mp hx with rfl | hx
      · exact hk
      · exact h2 x hx
    rw [inners_len] at this
    simp only [List.length_cons] at this
    omega

end Law
namespace Law
open PySem PySem.Spec PyProof.Rows L2 Dl
section
variable {Q : Str → Prop} {P : List Stp} (wf : WF Q P) (hp : P.length < 1000000)
include wf hp
theorem work_of_ok (outs : List Nat) : f_work_of [Pro P outs] = .ok (.int ((P.filter fun s => !s.leaf).length : Nat)) := by
  show (execL b_work_of [some (Pro P outs), none]).fin = _
  have key : ∀ v, compR (.nm 1) (evC (.some (.call "is_inner" f_is_inner (.cons (.v 1) .nil)))) (evE (.v 1)) [v, none] (P.map Stp.d) = .ok (.lst ((P.filter fun s => !s.leaf).map Stp.d)) := fun v => by
    have cl : ∀ P : List Stp, compL (.nm 1) (evC (.some (.call "is_inner" f_is_inner (.cons (.v 1) .nil)))) (evE (.v 1)) [v, none] (P.map Stp.d) = some ((P.filter fun s => !s.leaf).map Stp.d) := by
      intro P
      induction P with
      | nil => rfl
      | cons s P ih =>
        rw [List.map_cons]
        unfold compL
        have hin := inner_ok s
        have g : getSt ((wipeS [v, none] (Tg.nm 1).vs).set 1 (some s.d)) 1 = .ok s.d := rfl
        cases hl : s.leaf with
        | true =>
          rw [hl] at hin
          simp [g, hin, ih, hl]
        | false =>
          rw [hl] at hin
          simp [g, hin, ih, hl]
    exact compR_ok (cl P) (by rw [List.length_map]; omega)
  simp [b_work_of, key]
end

end Law
namespace Law
open PySem PySem.Spec PyProof.Rows L2 Dl
/-! ### the runs -/
theorem nodct_ni (S : List Nat) : D.nodcts (ni S) = true := by
  unfold ni
  induction S with
  | nil => rfl
  | cons k S ih =>
    show (D.nodct (.int (k : Nat)) && D.nodcts (S.map fun k => D.int (k : Nat))) = true
    rw [ih]; rfl
theorem lend_ni {i : Nat} {st : SD} {p : List D × List D} (h : dctOf st i = some p) (S : List Nat) : lendR i st (.ok (.lst (ni S))) = .ok (.lst (ni S)) := by
  unfold lendR
  rw [h]
  show (if D.nodct (.lst (ni S)) = true then R.ok (D.lst (ni S)) else .un) = _
  have h2 : (D.lst (ni S)).nodct = true := nodct_ni S
  rw [if_pos h2]
theorem set_const (c : D) : ∀ (S : List Nat) (j : Nat), (S.map fun _ => c).set j c = S.map fun _ => c
  | [], _ => rfl
  | _ :: S, 0 => rfl
  | _ :: S, j + 1 => by
    show c :: (S.map fun _ => c).set j c = c :: S.map fun _ => c
    rw [set_const c S j]
theorem setKey_ok {i : Nat} {st : SD} {S : List Nat} (k : Nat) (h : dctOf st i = some (ni S, S.map fun _ => D.bl true)) (hl : S.length < 16777216) : setKey i st (.ok (.int (k : Nat))) (.ok (.bl true)) = .nx (st.set i (some (dD (addO S k)))) := by
  have e : Dl.putK (ni S) (S.map fun _ => D.bl true) (.int (k : Nat)) (.bl true) = .ok (dD (addO S k)) := by
    unfold Dl.putK
    rw [dIdx_ni, bind_ok]
    have m := find_mem k S
    cases ef : S.findIdx? (fun y => decide (y = k)) with
    | none =>
      rw [ef] at m
      have hk : k ∉ S := by simpa using m.symm
      unfold addO
      rw [if_neg hk]
      show (if (ni S).length < 16777216 then R.ok _ else .un) = _
      rw [if_pos (by rw [ni_len]; exact hl)]
      unfold dD ni
      rw [List.map_append, List.map_append]
      rfl
    | some j =>
      rw [ef] at m
      have hk : k ∈ S := by simpa using m.symm
      unfold addO
      rw [if_pos hk]
      show R.ok (D.dct (ni S) ((S.map fun _ => D.bl true).set j (.bl true))) = _
      rw [set_const]
      rfl
  unfold setKey
  simp only [toO_ok]
  rw [h]
  dsimp only
  rw [e]
  rfl
theorem addO_le : ∀ (T S : List Nat), (T.foldl addO S).length ≤ S.length + T.length
  | [], S => by simp
  | a :: T, S => by
    rw [List.foldl_cons]
    have h1 := addO_le T (addO S a)
    have h2 := (addO_len S a).2
    simp only [List.length_cons]
    omega
theorem len_dD {S : List Nat} : lenD (dD S) = .ok (.int (S.length : Nat)) := by
  show (if (ni S).all flatOk = true ∨ (ni S).all tupOk = true then R.ok (D.int (ni S).length) else .un) = _
  rw [if_pos (.inl (flat_ni S)), ni_len]
def bD5 : ISs := .cons (.setd 5 (.v 9) (.kB true)) .nil
def bD4 : ISs := .cons (.setd 4 (.v 9) (.kB true)) .nil
theorem done5 {a b c d e g h i j : Option D} : ∀ (T S : List Nat) (o9 : Option D), S.length + T.length < 1000000 → ∃ o9', forL (bindT (.nm 9)) (execL bD5) (ni T) [a, b, c, d, e, some (dD S), g, h, i, o9, j] = .nx [a, b, c, d, e, some (dD (T.foldl addO S)), g, h, i, o9', j]
  | [], S, o9, _ => ⟨o9, rfl⟩
  | k :: T, S, o9, hl => by
    simp only [List.length_cons] at hl
    obtain ⟨o9', ih⟩ := done5 T (addO S k) (some (.int (k : Nat))) (by have := (addO_len S k).2; omega)
    refine ⟨o9', ?_⟩
    have e1 : execL bD5 [a, b, c, d, e, some (dD S), g, h, i, some (.int (k : Nat)), j] = .nx [a, b, c, d, e, some (dD (addO S k)), g, h, i, some (.int (k : Nat)), j] := by
      have := setKey_ok (i := 5) (st := [a, b, c, d, e, some (dD S), g, h, i, some (.int (k : Nat)), j]) (S := S) k rfl (by omega)
      unfold bD5
      simp only [exL_cons, exL_nil, exS_setd, evE_v, evE_kB, getSt_0, getSt_s, this, obind_nx, List.set_cons_succ, List.set_cons_zero]
    show forL (bindT (.nm 9)) (execL bD5) (.int (k : Nat) :: ni T) _ = _
    rw [forL_cons (s1 := [a, b, c, d, e, some (dD S), g, h, i, some (.int (k : Nat)), j]) rfl, e1]
    exact ih
theorem done4 {a b c d e g h i : Option D} : ∀ (T S : List Nat) (o9 : Option D), S.length + T.length < 1000000 → ∃ o9', forL (bindT (.nm 9)) (execL bD4) (ni T) [a, b, c, d, some (dD S), e, g, h, i, o9] = .nx [a, b, c, d, some (dD (T.foldl addO S)), e, g, h, i, o9']
  | [], S, o9, _ => ⟨o9, rfl⟩
  | k :: T, S, o9, hl => by
    simp only [List.length_cons] at hl
    obtain ⟨o9', ih⟩ := done4 T (addO S k) (some (.int (k : Nat))) (by have := (addO_len S k).2; omega)
    refine ⟨o9', ?_⟩
    have e1 : execL bD4 [a, b, c, d, some (dD S), e, g, h, i, some (.int (k : Nat))] = .nx [a, b, c, d, some (dD (addO S k)), e, g, h, i, some (.int (k : Nat))] := by
      have := setKey_ok (i := 4) (st := [a, b, c, d, some (dD S), e, g, h, i, some (.int (k : Nat))]) (S := S) k rfl (by omega)
      unfold bD4
      simp only [exL_cons, exL_nil, exS_setd, evE_v, evE_kB, getSt_0, getSt_s, this, obind_nx, List.set_cons_succ, List.set_cons_zero]
    show forL (bindT (.nm 9)) (execL bD4) (.int (k : Nat) :: ni T) _ = _
    rw [forL_cons (s1 := [a, b, c, d, some (dD S), e, g, h, i, some (.int (k : Nat))]) rfl, e1]
    exact ih
/-- one round of the law's -/
def bLR : ISs := .cons (.ifs (.cmp .ge (.b1 .len (.v 5)) (.v 4)) (.cons (.brk) .nil) .nil) (.cons (.set 8 false (.call "_law_taken" f_Ltaken (.cons (.lend 5 (.call "_law_ready" f_Lready (.cons (.v 0) (.cons (.v 5) .nil)))) (.cons (.call "_law_working" f_Lworking (.cons (.v 1) (.cons (.v 2) (.cons (.v 7) .nil)))) (.cons (.v 3) (.cons (.b1 .len (.v 5)) .nil)))))) (.cons (.fors [5, 6] (.nm 9) (.any (.v 8)) bD5) (.cons (.me .append 6 none (.cons (.v 8) .nil)) .nil)))
/-- one round of the program's -/
def bPR : ISs := .cons (.set 7 false (.lend 4 (.call "ready_indexes" f_ready_indexes (.cons (.fld ["Straight"] "steps" (.v 0)) (.cons (.v 4) .nil))))) (.cons (.set 8 false (.call "taken_steps" f_taken_steps (.cons (.v 7) (.cons (.call "working_hands" f_working_hands (.cons (.v 1) (.cons (.v 2) (.cons (.b1 .len (.v 5)) .nil)))) (.cons (.v 3) (.cons (.v 6) .nil)))))) (.cons (.set 6 false (.bin .add (.v 6) (.b1 .len (.v 8)))) (.cons (.fors [4, 5] (.nm 9) (.any (.v 8)) bD4) (.cons (.me .append 5 none (.cons (.b1 .tuple (.v 8)) .nil)) .nil))))
section
variable {Q : Str → Prop} {P : List Stp} (wf : WF Q P) (hp : P.length ≤ 80) {H : Int} {L C : List Int} {x y : D} (hx : isL L x) (hy : isL C y) (hL : LateOk H L) (hH : 1 ≤ H)
include wf hp hx hy hL hH
theorem wk_nat (t : Nat) : wk H L t = (((wk H L t).toNat : Nat) : Int) := by
  have := hL.at (by omega) t
  unfold wk
  omega
theorem bLR_go {S : List Nat} {t : Nat} {rounds : List D} {o8 o9 o10 : Option D} (hS : S.Nodup ∧ ∀ k ∈ S, k ∈ inners P) (hn : ¬ work P ≤ S.length) (hr : rounds.length < 1000000) : ∃ o8' o9', execL bLR [some (.tup (P.map Stp.d)), some (.int H), some x, some y, some (.int (work P : Nat)), some (dD S), some (.lst rounds), some (.int (t : Nat)), o8, o9, o10] = .nx [some (.tup (P.map Stp.d)), some (.int H), some x, some y, some (.int (work P : Nat)), some (dD (S ++ tkn P H L C S t)), some (.lst (rounds ++ [.lst (ni (tkn P H L C S t))])), some (.int (t : Nat)), o8', o9', o10] := by
  obtain ⟨t1, t2, t3⟩ := tkn_facts P H L C S t
  have hwp : work P ≤ P.length := List.length_filter_le _ _
  have hTl : (tkn P H L C S t).length ≤ 80 := by
    have := nodup_len t1 fun k hk => (t2 k hk).2
    rw [inners_len] at this
    omega
  have hf := foldl_addO (tkn P H L C S t) S t1 fun k hk => (t2 k hk).1
  obtain ⟨o9', hd⟩ := done5 (a := some (.tup (P.map Stp.d))) (b := some (.int H)) (c := some x) (d := some y) (e := some (.int (work P : Nat))) (g := some (.lst rounds)) (h := some (.int (t : Nat))) (i := some (.lst (ni (tkn P H L C S t)))) (j := o10) (tkn P H L C S t) S o9 (by omega)
  rw [hf] at hd
  have h1 := Lready_ok wf (by omega) (holds_dD S)
  have h2 := lend_ni (i := 5) (st := [some (.tup (P.map Stp.d)), some (.int H), some x, some y, some (.int (work P : Nat)), some (dD S), some (.lst rounds), some (.int (t : Nat)), o8, o9, o10]) (p := (ni S, S.map fun _ => D.bl true)) rfl (ready P S)
  have h3 := Lworking_ok (H := H) hx t
  have hw := wk_nat wf hp hx hy hL hH t
  have hrl : (ready P S).length ≤ 80 := by
    unfold ready
    have := List.length_filter_le (rdy P S) (List.range P.length)
    rw [List.length_range] at this
    omega
  have h4 := Ltaken_ok (R := ready P S) hy (by omega) (wk H L t).toNat S.length
  rw [← hw] at h4
  have h4' : f_Ltaken [.lst (ni (ready P S)), .int (wk H L t), y, .int (S.length : Nat)] = .ok (.lst (ni (tkn P H L C S t))) := h4
  have hn' : ¬ (work P : Int) ≤ (S.length : Int) := by omega
  generalize tkn P H L C S t = T at *
  refine ⟨some (.lst (ni T)), o9', ?_⟩
  have it : iterD (.lst (ni T)) = .ok (ni T) := rfl
  unfold bLR
  simp only [exL_cons, exL_nil, exS_ifs, evE_cmp, evE_b1, evE_v, getSt_0, getSt_s, bind_ok, b1D_len, len_dD, cmpD_ge, geD_int, decide_eq_false hn', tR_bl, toO_ok, Bool.false_eq_true, if_false, obind_nx, exS_set, evE_call, evL_cons, evL_nil, seqL_cons, seqL_nil, evE_lend, h1, h2, h3, h4', List.set_cons_succ, List.set_cons_zero, exS_fors, evI_any, it, hd, exS_me]
  rw [meO_append (ds := rounds) rfl (by omega)]
  rfl
omit wf hp hx hy hL hH in
theorem bLR_end {S : List Nat} {t : Nat} {rounds : List D} {a b c d o8 o9 o10 : Option D} (hn : work P ≤ S.length) : execL bLR [a, b, c, d, some (.int (work P : Nat)), some (dD S), some (.lst rounds), some (.int (t : Nat)), o8, o9, o10] = .bk [a, b, c, d, some (.int (work P : Nat)), some (dD S), some (.lst rounds), some (.int (t : Nat)), o8, o9, o10] := by
  have hn' : (work P : Int) ≤ (S.length : Int) := by omega
  unfold bLR
  simp only [exL_cons, exL_nil, exS_ifs, evE_cmp, evE_b1, evE_v, getSt_0, getSt_s, bind_ok, b1D_len, len_dD, cmpD_ge, geD_int, decide_eq_true hn', tR_bl, toO_ok, if_true, exS_brk, obind_bk]
theorem bPR_go {outs : List Nat} {S : List Nat} {rounds : List D} {o7 o8 o9 : Option D} (hS : S.Nodup ∧ ∀ k ∈ S, k ∈ inners P) (hn : ¬ work P ≤ S.length) (hr : rounds.length < 1000000) : ∃ o7' o8' o9', execL bPR [some (Pro P outs), some (.int H), some x, some y, some (dD S), some (.lst rounds), some (.int (S.length : Nat)), o7, o8, o9] = .nx [some (Pro P outs), some (.int H), some x, some y, some (dD (S ++ tkn P H L C S rounds.length)), some (.lst (rounds ++ [.tup (ni (tkn P H L C S rounds.length))])), some (.int ((S ++ tkn P H L C S rounds.length).length : Nat)), o7', o8', o9'] := by
  obtain ⟨t1, t2, t3⟩ := tkn_facts P H L C S rounds.length
  have hwp : work P ≤ P.length := List.length_filter_le _ _
  have hTl : (tkn P H L C S rounds.length).length ≤ 80 := by
    have := nodup_len t1 fun k hk => (t2 k hk).2
    rw [inners_len] at this
    omega
  have hf := foldl_addO (tkn P H L C S rounds.length) S t1 fun k hk => (t2 k hk).1
  obtain ⟨o9', hd⟩ := done4 (a := some (Pro P outs)) (b := some (.int H)) (c := some x) (d := some y) (e := some (.lst rounds)) (g := some (.int ((S.length : Int) + ((tkn P H L C S rounds.length).length : Int)))) (h := some (.lst (ni (ready P S)))) (i := some (.lst (ni (tkn P H L C S rounds.length)))) (tkn P H L C S rounds.length) S o9 (by omega)
  rw [hf] at hd
  have h1 := ready_indexes_ok wf (by omega) (holds_dD S)
  have h2 := lend_ni (i := 4) (st := [some (Pro P outs), some (.int H), some x, some y, some (dD S), some (.lst rounds), some (.int (S.length : Nat)), o7, o8, o9]) (p := (ni S, S.map fun _ => D.bl true)) rfl (ready P S)
  have h3 := working_ok (H := H) hx rounds.length
  have hw := wk_nat wf hp hx hy hL hH rounds.length
  have hrl : (ready P S).length ≤ 80 := by
    unfold ready
    have := List.length_filter_le (rdy P S) (List.range P.length)
    rw [List.length_range] at this
    omega
  have h4 := taken_steps_ok (R := ready P S) hy (by omega) (wk H L rounds.length).toNat S.length
  rw [← hw] at h4
  have h4' : f_taken_steps [.lst (ni (ready P S)), .int (wk H L rounds.length), y, .int (S.length : Nat)] = .ok (.lst (ni (tkn P H L C S rounds.length))) := h4
  generalize tkn P H L C S rounds.length = T at *
  refine ⟨some (.lst (ni (ready P S))), some (.lst (ni T)), o9', ?_⟩
  have it : iterD (.lst (ni T)) = .ok (ni T) := rfl
  unfold bPR
  simp only [exL_cons, exL_nil, evE_b1, evE_v, getSt_0, getSt_s, bind_ok, b1D_len, toO_ok, obind_nx, exS_set, evE_call, evE_fld, fld_steps, evL_cons, evL_nil, seqL_cons, seqL_nil, evE_lend, h1, h2, h3, h4', lenD_lst, ni_len, evE_bin, binD_add, addD_int, List.set_cons_succ, List.set_cons_zero, exS_fors, evI_any, it, hd, exS_me, b1D_tuple, tupleD_lst]
  rw [meO_append (ds := rounds) rfl (by omega)]
  rw [List.length_append, Int.natCast_add]
  rfl
end

end Law
namespace Law
open PySem PySem.Spec PyProof.Rows L2 Dl
/-! ### the runs' loops -/
theorem for_brk {B : SD → O} {j : Nat} {S : Nat → SD → Prop} {E : SD → Prop} {N : Nat} (step : ∀ u s, u < N → S u s → ∃ s', S (u + 1) s' ∧ B (s.set j (some (.int (u : Nat)))) = .nx s') (stop : ∀ s, S N s → ∃ s', E s' ∧ B (s.set j (some (.int (N : Nat)))) = .bk s') : ∀ (r u m : Nat) (s : SD), u + r = N → S u s → ∃ s', E s' ∧ forL (bindT (.nm j)) B ((List.range' u (r + m + 1)).map fun i => D.int (i : Nat)) s = .nx s'
  | 0, u, m, s, hr, hs => by
    obtain rfl : u = N := by omega
    obtain ⟨s', h1, h2⟩ := stop s hs
    refine ⟨s', h1, ?_⟩
    rw [List.range'_succ, List.map_cons]
    show (match B (s.set j (some (.int (u : Nat)))) with
      | .nx s => forL (bindT (.nm j)) B _ s
      | .ct s => forL (bindT (.nm j)) B _ s
      | .bk s => .nx s
      | .rt d => .rt d
      | .ex s c ns es => .ex s c ns es
      | .un => .un) = _
    rw [h2]
  | r + 1, u, m, s, hr, hs => by
    obtain ⟨s1, h1, h2⟩ := step u s (by omega) hs
    obtain ⟨s', h3, h4⟩ := for_brk step stop r (u + 1) m s1 (by omega) h1
    refine ⟨s', h3, ?_⟩
    rw [show r + 1 + m + 1 = (r + m + 1) + 1 by omega, List.range'_succ, List.map_cons]
    show (match B (s.set j (some (.int (u : Nat)))) with
      | .nx s => forL (bindT (.nm j)) B _ s
      | .ct s => forL (bindT (.nm j)) B _ s
      | .bk s => .nx s
      | .rt d => .rt d
      | .ex s c ns es => .ex s c ns es
      | .un => .un) = _
    rw [h2]
    exact h4
theorem while_inv {F : SD → R Bool} {B : SD → O} {S : Nat → SD → Prop} {N : Nat} (hT : ∀ s, S N s → F s = .ok false) (hF : ∀ u s, u < N → S u s → F s = .ok true ∧ ∃ s', S (u + 1) s' ∧ B s = .nx s') : ∀ (r u f : Nat) (s : SD), u + r = N → S u s → ∃ s', S N s' ∧ whileL F B (f + r + 1) s = .nx s'
  | 0, u, f, s, hr, hs => by
    obtain rfl : u = N := by omega
    refine ⟨s, hs, ?_⟩
    unfold whileL
    rw [hT s hs]
  | r + 1, u, f, s, hr, hs => by
    obtain ⟨h0, s1, h1, h2⟩ := hF u s (by omega) hs
    obtain ⟨s', h3, h4⟩ := while_inv hT hF r (u + 1) f s1 (by omega) h1
    refine ⟨s', h3, ?_⟩
    rw [show f + (r + 1) + 1 = (f + r + 1) + 1 by omega]
    unfold whileL
    rw [h0]
    dsimp only
    rw [h2]
    exact h4
/-- what the rounds take -/
def tk (P : List Stp) (H : Int) (L C : List Int) (u : Nat) : List Nat := tkn P H L C (Sq P H L C u) u
def rdsL (P : List Stp) (H : Int) (L C : List Int) (t : Nat) : List D := (List.range t).map fun u => D.lst (ni (tk P H L C u))
def rdsT (P : List Stp) (H : Int) (L C : List Int) (t : Nat) : List D := (List.range t).map fun u => D.tup (ni (tk P H L C u))
theorem rdsL_succ (P : List Stp) (H : Int) (L C : List Int) (t : Nat) : rdsL P H L C (t + 1) = rdsL P H L C t ++ [.lst (ni (tk P H L C t))] := by
  unfold rdsL
  rw [List.range_succ, List.map_append]
  rfl
theorem rdsT_succ (P : List Stp) (H : Int) (L C : List Int) (t : Nat) : rdsT P H L C (t + 1) = rdsT P H L C t ++ [.tup (ni (tk P H L C t))] := by
  unfold rdsT
  rw [List.range_succ, List.map_append]
  rfl
theorem rdsL_len (P : List Stp) (H : Int) (L C : List Int) (t : Nat) : (rdsL P H L C t).length = t := by
  unfold rdsL
  rw [List.length_map, List.length_range]
theorem rdsT_len (P : List Stp) (H : Int) (L C : List Int) (t : Nat) : (rdsT P H L C t).length = t := by
  unfold rdsT
  rw [List.length_map, List.length_range]
structure Nd (P : List Stp) (H : Int) (L C : List Int) (N : Nat) : Prop where
  ok : work P ≤ (Sq P H L C N).length
  un : ∀ u, u < N → ¬ work P ≤ (Sq P H L C u).length
  b : N ≤ 2000
section
variable {Q : Str → Prop} {P : List Stp} (wf : WF Q P) (hp : P.length ≤ 80) {H : Int} {L C : List Int} {x y : D} (hx : isL L x) (hy : isL C y) (hL : LateOk H L) (hH : 1 ≤ H) {N : Nat} (hN : Nd P H L C N)
include wf hp hx hy hL hH hN
theorem Lrun_ok : f_Lrun [.tup (P.map Stp.d), .int H, x, y] = .ok (.lst (rdsL P H L C N)) := by
  have hb : b_Lrun = .cons (.set 4 false (.b1 .len (.comp [("_law_step", 10)] (.nm 10) (.any (.v 0)) (.some (.cmp .«in» (.idx (.v 10) (.kI 0)) (.tup (.cons (.kS "plus") (.cons (.kS "times") .nil))))) (.v 10)))) (.cons (.set 5 true (.dnil)) (.cons (.set 6 true (.lst .nil)) (.cons (.fors [5, 6] (.nm 7) (.rng1 (.kI 1000000)) bLR) (.cons (.frz [6] (.ret (.v 6))) .nil)))) := rfl
  show (execL b_Lrun [some (.tup (P.map Stp.d)), some (.int H), some x, some y, none, none, none, none, none, none, none]).fin = _
  rw [hb]
  have ci : compR (.nm 10) (evC (.some (.cmp .«in» (.idx (.v 10) (.kI 0)) (.tup (.cons (.kS "plus") (.cons (.kS "times") .nil)))))) (evE (.v 10)) [some (.tup (P.map Stp.d)), some (.int H), some x, some y, none, none, none, none, none, none, none] (P.map Stp.d) = .ok (.lst ((P.filter fun s => !s.leaf).map Stp.d)) :=
    comp_inner (by omega) (fun s => by cases s <;> simp [wipeS, in_i, in_n, in_p, in_t, Stp.leaf]) (by simp)
  have hwl : ((P.filter fun s => !s.leaf).map Stp.d).length = work P := by rw [List.length_map]; rfl
  have fb := for_brk (B := execL bLR) (j := 7) (N := N) (S := fun t s => ∃ o7 o8 o9, s = [some (.tup (P.map Stp.d)), some (.int H), some x, some y, some (.int (work P : Nat)), some (dD (Sq P H L C t)), some (.lst (rdsL P H L C t)), o7, o8, o9, none])
    (E := fun s => ∃ o7 o8 o9, s = [some (.tup (P.map Stp.d)), some (.int H), some x, some y, some (.int (work P : Nat)), some (dD (Sq P H L C N)), some (.lst (rdsL P H L C N)), o7, o8, o9, none])
    (fun u s hu hs => by
      obtain ⟨o7, o8, o9, rfl⟩ := hs
      obtain ⟨o8', o9', h⟩ := bLR_go wf hp hx hy hL hH (S := Sq P H L C u) (t := u) (rounds := rdsL P H L C u) (o8 := o8) (o9 := o9) (o10 := none) (Sq_inv P H L C u) (hN.un u hu) (by rw [rdsL_len]; have := hN.b; omega)
      refine ⟨_, ⟨some (.int (u : Nat)), o8', o9', rfl⟩, ?_⟩
      rw [Sq_next (hN.un u hu), rdsL_succ]
      exact h)
    (fun s hs => by
      obtain ⟨o7, o8, o9, rfl⟩ := hs
      exact ⟨_, ⟨_, _, _, rfl⟩, bLR_end hN.ok⟩)
  obtain ⟨s', ⟨o7, o8, o9, rfl⟩, he⟩ := fb N 0 (999999 - N) [some (.tup (P.map Stp.d)), some (.int H), some x, some y, some (.int (work P : Nat)), some (dD []), some (.lst []), none, none, none, none] (by omega) ⟨none, none, none, rfl⟩
  have hNb := hN.b
  rw [show N + (999999 - N) + 1 = 1000000 by omega, ← List.range_eq_range'] at he
  have rn := rngD_len (n := 1000000) (by decide)
  generalize hW : ((List.range 1000000).map fun i => D.int (i : Nat)) = IT at he rn
  have rn' : rngD 0 1000000 = .ok IT := rn
  have hd : (D.dct [] []) = dD [] := rfl
  simp only [exL_cons, exL_nil, exS_set, evE_b1, evE_comp, evI_any, evE_v, getSt_0, getSt_s, bind_ok, iterD_tup, ci, b1D_len, lenD_lst, hwl, toO_ok, obind_nx, List.set_cons_succ, List.set_cons_zero, evE_dnil, evE_lst, evL_nil, seqL_nil, lstR_ok, List.length_nil, Nat.zero_le, if_true, exS_fors, evI_rng1, rng1R_int, evE_kI, rn', hd, he, exS_frz, exS_ret, obind_rt, fin_rt]
theorem run_body (outs : List Nat) : runD n_run_rounds 4 b_run_rounds [Pro P outs, .int H, x, y] = .ok (.tup (rdsT P H L C N)) := by
  have hb : b_run_rounds = .cons (.set 4 true (.dnil)) (.cons (.set 5 true (.lst .nil)) (.cons (.set 6 false (.kI 0)) (.cons (.whiles [4, 5] (fuel_run_rounds_0) (.cmp .lt (.b1 .len (.v 4)) (.call "work_of" f_work_of (.cons (.v 0) .nil))) bPR) (.cons (.ret (.b1 .tuple (.v 5))) .nil)))) := rfl
  show (execL b_run_rounds [some (Pro P outs), some (.int H), some x, some y, none, none, none, none, none, none]).fin = _
  rw [hb]
  have hwk : f_work_of [Pro P outs] = .ok (.int (work P : Nat)) := work_of_ok wf (by omega) outs
  obtain ⟨F, hF⟩ : ∃ F : SD → R Bool, F = fun st => tR (evE (.cmp .lt (.b1 .len (.v 4)) (.call "work_of" f_work_of (.cons (.v 0) .nil))) st) := ⟨_, rfl⟩
  have ev : ∀ S r u o7 o8 o9, F [some (Pro P outs), some (.int H), some x, some y, some (dD S), r, u, o7, o8, o9] = .ok (decide ((S.length : Int) < (work P : Int))) := fun S r u o7 o8 o9 => by
    rw [hF]
    simp only [evE_cmp, evE_b1, evE_v, getSt_0, getSt_s, bind_ok, b1D_len, len_dD, evE_call, evL_cons, evL_nil, seqL_cons, seqL_nil, hwk, cmpD_lt, ltD_int, tR_bl]
  have wi := while_inv (F := F) (B := execL bPR) (N := N) (S := fun t s => ∃ o7 o8 o9, s = [some (Pro P outs), some (.int H), some x, some y, some (dD (Sq P H L C t)), some (.lst (rdsT P H L C t)), some (.int ((Sq P H L C t).length : Nat)), o7, o8, o9])
    (fun s hs => by
      obtain ⟨o7, o8, o9, rfl⟩ := hs
      rw [ev, decide_eq_false (by have := hN.ok; omega)])
    (fun u s hu hs => by
      obtain ⟨o7, o8, o9, rfl⟩ := hs
      have hn := hN.un u hu
      refine ⟨by rw [ev, decide_eq_true (by omega)], ?_⟩
      obtain ⟨o7', o8', o9', h⟩ := bPR_go wf hp hx hy hL hH (outs := outs) (S := Sq P H L C u) (rounds := rdsT P H L C u) (o7 := o7) (o8 := o8) (o9 := o9) (Sq_inv P H L C u) hn (by rw [rdsT_len]; have := hN.b; omega)
      refine ⟨_, ⟨o7', o8', o9', rfl⟩, ?_⟩
      rw [Sq_next hn, rdsT_succ]
      rw [rdsT_len] at h
      exact h)
  have hNb := hN.b
  obtain ⟨s', ⟨o7, o8, o9, rfl⟩, he⟩ := wi N 0 (99999 - N) [some (Pro P outs), some (.int H), some x, some y, some (dD []), some (.lst []), some (.int 0), none, none, none] (by omega) ⟨none, none, none, rfl⟩
  rw [show 99999 - N + N + 1 = 100000 by omega, hF] at he
  have he' : whileL (fun st => tR (evE (.cmp .lt (.b1 .len (.v 4)) (.call "work_of" f_work_of (.cons (.v 0) .nil))) st)) (execL bPR) (fuel_run_rounds_0 [some (Pro P outs), some (.int H), some x, some y, some (dD []), some (.lst []), some (.int 0), none, none, none]) [some (Pro P outs), some (.int H), some x, some y, some (dD []), some (.lst []), some (.int 0), none, none, none] = _ := he
  have hd : (D.dct [] []) = dD [] := rfl
  simp only [exL_cons, exL_nil, exS_set, evE_b1, evE_v, getSt_0, getSt_s, bind_ok, toO_ok, obind_nx, List.set_cons_succ, List.set_cons_zero, evE_dnil, evE_lst, evL_nil, seqL_nil, lstR_ok, List.length_nil, Nat.zero_le, if_true, evE_kI, hd, exS_whiles, he', b1D_tuple, tupleD_lst, exS_ret, obind_rt, fin_rt]
end

end Law
namespace Law
open PySem PySem.Spec PyProof.Rows L2 Dl
/-! ### the law's own rows -/
def T1 : List Int := [8, 12, 2, 8, 8, 8, 8]
def T3 : List Int := [9, 6, 3, 20, 20, 20, 20, 20, 20, 20, 20]
theorem rep_t : repD (.lst [.int 20]) (.int 8) = .ok (.lst [.int 20, .int 20, .int 20, .int 20, .int 20, .int 20, .int 20, .int 20]) := repD_ok (by decide) (by decide) (by decide)
theorem add_t1 : addD (.lst [.int 8, .int 12, .int 2]) (.lst [.int 8, .int 8, .int 8, .int 8]) = .ok (.lst (T1.map .int)) := addD_lst (by decide)
theorem add_t3 : addD (.lst [.int 9, .int 6, .int 3]) (.lst [.int 20, .int 20, .int 20, .int 20, .int 20, .int 20, .int 20, .int 20]) = .ok (.lst (T3.map .int)) := addD_lst (by decide)
theorem row_two {r : List Int} (h : Row T1 r) : Row RS (r.drop 2) := by
  have := row_tail (row_tail h)
  have e : r.drop 2 = (r.drop 1).drop 1 := by rw [List.drop_drop]
  rw [e]
  exact this
/-- what of a range is kept -/
theorem comp_filt {j : Nat} {st : SD} {c : IE} {p : Nat → Bool} {n : Nat} (hn : n < 1000000) (hc : ∀ k, k < n → tR (evE c ((wipeS st [j]).set j (some (.int (k : Nat))))) = .ok (p k)) (hj : j < st.length) :
    compR (.nm j) (evC (.some c)) (evE (.v j)) st ((List.range n).map fun i => D.int (i : Nat)) = .ok (.lst (ni ((List.range n).filter p))) := by
  have hw : (wipeS st [j]).length = st.length := by
    show (st.set j none).length = _
    rw [List.length_set]
  have cl : ∀ L : List Nat, (∀ k ∈ L, k < n) → compL (.nm j) (evC (.some c)) (evE (.v j)) st (L.map fun i => D.int (i : Nat)) = some (ni (L.filter p)) := by
    intro L
    induction L with
    | nil => intro _; rfl
    | cons k L ih =>
      intro hL
      have ih := ih fun k hk => hL k (List.mem_cons_of_mem _ hk)
      have h1 := hc k (hL k List.mem_cons_self)
      have h3 : evE (.v j) ((wipeS st [j]).set j (some (.int (k : Nat)))) = .ok (.int (k : Nat)) := by
        rw [evE_v]
        unfold getSt
        rw [List.getElem?_set_self (by rw [hw]; exact hj)]
      rw [List.map_cons]
      unfold compL
      have hb : bindT (.nm j) (.int (k : Nat)) (wipeS st (Tg.nm j).vs) = .ok ((wipeS st [j]).set j (some (.int (k : Nat)))) := rfl
      have hcc : evC (.some c) ((wipeS st [j]).set j (some (.int (k : Nat)))) = .ok (p k) := h1
      rw [hb]
      dsimp only
      rw [hcc, List.filter_cons]
      cases p k with
      | true =>
        simp only [h3, ih]
        rfl
      | false =>
        simp only [ih]
        rfl
  exact compR_ok (cl _ fun k hk => List.mem_range.mp hk) (by rw [List.length_map, List.length_range]; omega)
theorem comp_tup {j : Nat} {st : SD} (P : List Stp) (H : Int) (L C : List Int) {N : Nat} (hN : N < 1000000) (hj : j < st.length) : compR (.nm j) (evC .none) (evE (.b1 .tuple (.v j))) st (rdsL P H L C N) = .ok (.lst (rdsT P H L C N)) := by
  have hw : (wipeS st [j]).length = st.length := by
    show (st.set j none).length = _
    rw [List.length_set]
  refine compR_ok ?_ (by rw [rdsL_len]; omega)
  have := compL_all (g := .nm j) (f := evE (.b1 .tuple (.v j))) (st := st) (c := evC .none) (fun d => match d with | .lst ds => .tup ds | d => d) (rdsL P H L C N) (fun d hd => by
    unfold rdsL at hd
    obtain ⟨u, -, rfl⟩ := List.mem_map.mp hd
    refine ⟨(wipeS st [j]).set j (some (.lst (ni (tk P H L C u)))), rfl, rfl, ?_⟩
    have h3 : evE (.v j) ((wipeS st [j]).set j (some (.lst (ni (tk P H L C u))))) = .ok (.lst (ni (tk P H L C u))) := by
      rw [evE_v]
      unfold getSt
      rw [List.getElem?_set_self (by rw [hw]; exact hj)]
    rw [evE_b1, h3, bind_ok, b1D_tuple, tupleD_lst])
  rw [this]
  unfold rdsL rdsT
  rw [List.map_map]
  rfl
theorem tt_ni (S : List Nat) (h : S.length < 1000000) : ttok 1 (.tup (ni S)) := ttok_nats S 0 (by omega)
theorem tt_rds (P : List Stp) (H : Int) (L C : List Int) {N : Nat} (hN : N < 1000000) (hp : P.length ≤ 80) : ttok 2 (.tup (rdsT P H L C N)) := by
  refine ⟨by rw [rdsT_len]; omega, fun d hd => ?_⟩
  unfold rdsT at hd
  obtain ⟨u, -, rfl⟩ := List.mem_map.mp hd
  refine tt_ni _ ?_
  obtain ⟨t1, t2, -⟩ := tkn_facts P H L C (Sq P H L C u) u
  have := nodup_len t1 fun k hk => (t2 k hk).2
  rw [inners_len] at this
  have hwp : work P ≤ P.length := List.length_filter_le _ _
  show (tkn P H L C (Sq P H L C u) u).length < _
  omega
theorem ne_ni (S : List Nat) : neD (.lst (ni S)) (.lst (ni S)) = .ok (.bl false) := by
  rw [ni_cast]
  exact ne_ints _
theorem ni_add {A B : List Nat} (h : A.length + B.length < 1000000) : addD (.lst (ni A)) (.lst (ni B)) = .ok (.lst (ni (A ++ B))) := by
  rw [addD_lst (by rw [ni_len, ni_len]; omega)]
  unfold ni
  rw [List.map_append]
/-- the law's own done list -/
def Dq (P : List Stp) (H : Int) (L C : List Int) : Nat → List Nat
  | 0 => []
  | t + 1 => tk P H L C t ++ Dq P H L C t
theorem Dq_mem {P : List Stp} {H : Int} {L C : List Int} {N : Nat} (hN : Nd P H L C N) : ∀ t, t ≤ N → (∀ k, k ∈ Dq P H L C t ↔ k ∈ Sq P H L C t) ∧ (Dq P H L C t).length = (Sq P H L C t).length
  | 0, _ => ⟨fun k => by rfl, rfl⟩
  | t + 1, ht => by
    obtain ⟨h1, h2⟩ := Dq_mem hN t (by omega)
    rw [Sq_next (hN.un t (by omega))]
    refine ⟨fun k => ?_, ?_⟩
    · show k ∈ tk P H L C t ++ Dq P H L C t ↔ _
      rw [List.mem_append, List.mem_append, h1]
      exact Or.comm
    · show (tk P H L C t ++ Dq P H L C t).length = _
      rw [List.length_append, List.length_append, h2]
      exact Nat.add_comm _ _
theorem Sq_len (P : List Stp) (H : Int) (L C : List Int) (t : Nat) : (Sq P H L C t).length ≤ P.length := by
  obtain ⟨h1, h2⟩ := Sq_inv P H L C t
  have := nodup_len h1 h2
  rw [inners_len] at this
  have hwp : work P ≤ P.length := List.length_filter_le _ _
  omega
theorem rdsL_get {P : List Stp} {H : Int} {L C : List Int} {N i : Nat} {d : D} (h : (rdsL P H L C N)[i]? = some d) : i < N ∧ d = .lst (ni (tk P H L C i)) := at_range h

end Law
namespace Law
open PySem PySem.Spec PyProof.Rows L2 Dl
/-! ### the law -/
theorem nd_ex {Q : Str → Prop} {P : List Stp} (wf : WF Q P) (hp : P.length ≤ 80) {H : Int} (hH : 1 ≤ H) (L C : List Int) (hL : L.length ≤ 1000) : ∃ N, Nd P H L C N := by
  obtain ⟨N, n1, n2, n3⟩ := rounds_ex wf L C hH
  have hwp : work P ≤ P.length := List.length_filter_le _ _
  exact ⟨N, n2, n3, by omega⟩
theorem chosen_ok (ns : List Int) {z : Int} (h0 : 0 ≤ z) (h1 : z < 6) {rest : SD} (hr : rest.length = 16) : ∃ C : List Int, compR (.nm 16) (evC .none) (evE (.idx (.call "_law_digits" f_Ldigits (.cons (.call "_law_cell" f_Lcell (.cons (.v 0) (.cons (.bin .add (.kI 4) (.v 16)) .nil))) (.cons (.lst (.cons (.bin .pow (.kI 10) (.kI 9)) .nil)) .nil))) (.kI 0))) (some (.lst (ns.map .int)) :: rest) ((List.range z.toNat).map fun i => D.int (i : Nat)) = .ok (.lst (C.map .int)) := by
  obtain ⟨out, g1, g2, g3⟩ := comp_ex (g := .nm 16) (f := evE (.idx (.call "_law_digits" f_Ldigits (.cons (.call "_law_cell" f_Lcell (.cons (.v 0) (.cons (.bin .add (.kI 4) (.v 16)) .nil))) (.cons (.lst (.cons (.bin .pow (.kI 10) (.kI 9)) .nil)) .nil))) (.kI 0))) (st := some (.lst (ns.map .int)) :: rest) (c := evC .none) (fun _ d => ∃ z : Int, d = .int z) ((List.range z.toNat).map fun i => D.int (i : Nat)) (by rw [List.length_map, List.length_range]; omega) (fun i d hi => by
      obtain ⟨hi', rfl⟩ := at_range hi
      obtain ⟨c, hc⟩ := cell_ok ns (4 + (i : Int)) (by omega) (by omega)
      obtain ⟨row, hrow, hd⟩ := digits_ok c [1000000000] (by decide) (by decide)
      obtain ⟨z, dz, -, -, -⟩ := hrow.get (i := 0) (by decide) (y := 1000000000) rfl
      have g : getSt ((some (.lst (ns.map .int)) :: rest).set 16 (some (.int (i : Nat)))) 16 = .ok (.int (i : Nat)) := by
        unfold getSt
        rw [List.getElem?_set_self (by simp [hr])]
      have hw : wipeS (some (.lst (ns.map .int)) :: rest) [16] = (some (.lst (ns.map .int)) :: rest).set 16 none := rfl
      refine ⟨(some (.lst (ns.map .int)) :: rest).set 16 (some (.int (i : Nat))), .int z, ?_, rfl, ?_, z, rfl⟩
      · show R.ok (((some (.lst (ns.map .int)) :: rest).set 16 none).set 16 (some (.int (i : Nat)))) = _
        rw [List.set_set]
      · have pw : binD .pow (.int 10) (.int 9) = .ok (.int 1000000000) := by rfl
        have g0 : getSt ((some (.lst (ns.map .int)) :: rest).set 16 (some (.int (i : Nat)))) 0 = .ok (.lst (ns.map .int)) := rfl
        simp only [evE_idx, evE_call, evL_cons, evL_nil, seqL_cons, seqL_nil, evE_v, evE_bin, evE_kI, evE_lst, g, g0, pw, bind_ok, binD_add, addD_int, hc, lstR_ok, List.length_cons, List.length_nil]
        have hd' : f_Ldigits [.int c, .lst [.int 1000000000]] = .ok (.lst (row.map .int)) := hd
        simp [hd', dz])
  have : ∃ L : List Int, out = L.map D.int := by
    clear g1 g2
    have hq : ∀ d ∈ out, ∃ z : Int, d = .int z := fun d hd => by
      obtain ⟨i, hi, e⟩ := List.mem_iff_getElem.mp hd
      exact g3 i d (by rw [List.getElem?_eq_getElem hi, e])
    clear g3
    induction out with
    | nil => exact ⟨[], rfl⟩
    | cons d out ih =>
      obtain ⟨L, e⟩ := ih fun d hd => hq d (List.mem_cons_of_mem _ hd)
      obtain ⟨z, rfl⟩ := hq d List.mem_cons_self
      exact ⟨z :: L, by rw [e]; rfl⟩
  obtain ⟨C, rfl⟩ := this
  exact ⟨C, g1⟩
theorem drawn_ok {more : List Int} (hm : Row T3 more) {I : List Nat} (hI : 0 < I.length) (hI2 : I.length ≤ 1000) {z : Int} (h0 : 0 ≤ z) (h1 : z < 8) {x a b c d e f g h i j k l m n o : Option D} : ∃ dr : List Nat, dr.length ≤ 7 ∧ compR (.nm 16) (evC .none) (evE (.idx (.v 7) (.bin .mod (.b1 .int (.idx (.v 3) (.bin .add (.kI 3) (.v 16)))) (.b1 .len (.v 7))))) [x, a, b, some (.lst (more.map .int)), c, d, e, some (.lst (ni I)), f, g, h, i, j, k, l, m, n] ((List.range z.toNat).map fun i => D.int (i : Nat)) = .ok (.lst (ni dr)) := by
  obtain ⟨out, g1, g2, g3⟩ := comp_ex (g := .nm 16) (f := evE (.idx (.v 7) (.bin .mod (.b1 .int (.idx (.v 3) (.bin .add (.kI 3) (.v 16)))) (.b1 .len (.v 7))))) (st := [x, a, b, some (.lst (more.map .int)), c, d, e, some (.lst (ni I)), f, g, h, i, j, k, l, m, n]) (c := evC .none) (fun _ d => ∃ z : Nat, d = .int (z : Nat)) ((List.range z.toNat).map fun i => D.int (i : Nat)) (by rw [List.length_map, List.length_range]; omega) (fun i d hi => by
      obtain ⟨hi', rfl⟩ := at_range hi
      have ht : ∀ k : Nat, k < 7 → T3[3 + k]? = some 20 := by decide
      obtain ⟨z, dz, -, za, zb⟩ := hm.get (i := 3 + (i : Int)) (by omega) (y := 20) (by rw [show (3 + (i : Int)).toNat = 3 + i by omega]; exact ht i (by omega))
      obtain ⟨t1, t2, t3⟩ := tk_ix (z := z) hI
      have ix : idxD (.lst (ni I)) (.int (z % (I.length : Int))) = .ok (.int (I.getD (z % (I.length : Int)).toNat 0 : Nat)) := idxD_lst (j := (z % (I.length : Int)).toNat) (ixN_at t2 (by rw [ni_len]; exact t3)) (ni_get t1)
      refine ⟨_, .int (I.getD (z % (I.length : Int)).toNat 0 : Nat), rfl, rfl, ?_, _, rfl⟩
      simp [Tg.vs, wipeS, dz, ni_len, modD_int (show (0 : Int) < (I.length : Int) by omega), ix])
  have : ∃ L : List Nat, out = ni L := by
    clear g1 g2
    have hq : ∀ d ∈ out, ∃ z : Nat, d = .int (z : Nat) := fun d hd => by
      obtain ⟨i, hi, e⟩ := List.mem_iff_getElem.mp hd
      exact g3 i d (by rw [List.getElem?_eq_getElem hi, e])
    clear g3
    induction out with
    | nil => exact ⟨[], rfl⟩
    | cons d out ih =>
      obtain ⟨L, e⟩ := ih fun d hd => hq d (List.mem_cons_of_mem _ hd)
      obtain ⟨z, rfl⟩ := hq d List.mem_cons_self
      exact ⟨z :: L, by rw [e]; rfl⟩
  obtain ⟨dr, rfl⟩ := this
  refine ⟨dr, ?_, g1⟩
  rw [ni_len, List.length_map, List.length_range] at g2
  omega
theorem inner_at {P : List Stp} {k : Nat} (hk : k < P.length) {st : SD} (h2 : getSt st 2 = .ok (.tup (P.map Stp.d))) (h16 : getSt st 16 = .ok (.int (k : Nat))) : tR (evE (.cmp .«in» (.idx (.idx (.v 2) (.v 16)) (.kI 0)) (.tup (.cons (.kS "plus") (.cons (.kS "times") .nil)))) st) = .ok (isIn P k) := by
  have e : P[k]? = some P[k] := List.getElem?_eq_getElem hk
  have ix : idxD (.tup (P.map Stp.d)) (.int (k : Nat)) = .ok P[k].d := idxD_tup (j := k) (ixN_at (by omega) (by rw [List.length_map]; omega)) (by rw [List.getElem?_map, e]; rfl)
  have hs : isIn P k = !P[k].leaf := by
    unfold isIn
    rw [e]
  rw [hs]
  generalize P[k] = s at *
  cases s <;> simp [h2, h16, ix, in_i, in_n, in_p, in_t, Stp.leaf]

end Law
namespace Law
open PySem PySem.Spec PyProof.Rows L2 Dl
def bDue : ISs := .cons (.ifs (.not (.call "_law_same" f_Lsame (.cons (.call "ready_steps" f_ready_steps (.cons (.v 8) (.cons (.b1 .tuple (.v 14)) .nil))) (.cons (.b1 .tuple (.call "_law_ready" f_Lready (.cons (.v 2) (.cons (.v 14) .nil)))) .nil)))) (.cons (.ret (.kB false)) .nil) .nil) (.cons (.set 14 false (.bin .add (.v 15) (.v 14))) .nil)
theorem due_loop {Q : Str → Prop} {P : List Stp} (wf : WF Q P) (hp : P.length ≤ 80) (outs : List Nat) {H : Int} {L C : List Int} {N : Nat} (hN : Nd P H L C N) {x a b c d e f g h i j k : Option D} {Pst : O → Prop} {kk : SD → O}
    (post : ∀ o15, Pst (kk [x, a, some (.tup (P.map Stp.d)), b, c, d, e, f, some (Pro P outs), g, h, i, j, k, some (.lst (ni (Dq P H L C N))), o15, none])) :
    Pst ((forL (bindT (.nm 15)) (execL bDue) (rdsL P H L C N) [x, a, some (.tup (P.map Stp.d)), b, c, d, e, f, some (Pro P outs), g, h, i, j, k, some (.lst []), none, none]).bind kk) := by
  refine for_nm (P := Pst) (body := execL bDue) (fun t s => ∃ o15, s = [x, a, some (.tup (P.map Stp.d)), b, c, d, e, f, some (Pro P outs), g, h, i, j, k, some (.lst (ni (Dq P H L C t))), o15, none]) ⟨none, rfl⟩ ?_ ?_
  · intro t dd s J hi hs hJ
    obtain ⟨o15, rfl⟩ := hs
    obtain ⟨ht, rfl⟩ := rdsL_get hi
    have hlen := (Dq_mem hN t (by omega)).2
    have hsl := Sq_len P H L C t
    obtain ⟨t1, t2, -⟩ := tkn_facts P H L C (Sq P H L C t) t
    have htl := nodup_len t1 fun k hk => (t2 k hk).2
    rw [inners_len] at htl
    have hwp : work P ≤ P.length := List.length_filter_le _ _
    have htl' : (tk P H L C t).length ≤ 80 := by
      show (tkn P H L C (Sq P H L C t) t).length ≤ 80
      omega
    have hrl : (ready P (Dq P H L C t)).length ≤ 80 := by
      unfold ready
      have := List.length_filter_le (rdy P (Dq P H L C t)) (List.range P.length)
      rw [List.length_range] at this
      omega
    have r1 := ready_steps_ok wf (by omega) outs (L := Dq P H L C t) (by omega) (y := .tup (ni (Dq P H L C t))) (.inr rfl)
    have r2 := Lready_ok wf (by omega) (holds_nl (Dq P H L C t))
    have r3 := same_ok (tt_ni (ready P (Dq P H L C t)) (by omega)) (by decide)
    have r4 := ni_add (A := tk P H L C t) (B := Dq P H L C t) (by omega)
    refine (?_ : Goes J _ _ (execL bDue [x, a, some (.tup (P.map Stp.d)), b, c, d, e, f, some (Pro P outs), g, h, i, j, k, some (.lst (ni (Dq P H L C t))), some (.lst (ni (tk P H L C t))), none]))
    unfold bDue
    simp only [exL_cons, exL_nil, exS_ifs, evE_not, evE_call, evL_cons, evL_nil, seqL_cons, seqL_nil, evE_v, getSt_0, getSt_s, evE_b1, bind_ok, b1D_tuple, tupleD_lst, r1, r2, r3, tR_bl, Bool.not_true, notR_bl, toO_ok, Bool.false_eq_true, if_false, obind_nx, exS_set, evE_bin, binD_add, r4, List.set_cons_succ, List.set_cons_zero, goes_nx]
    exact hJ _ ⟨_, rfl⟩
  · intro s hs
    rw [rdsL_len] at hs
    obtain ⟨o15, rfl⟩ := hs
    exact post o15

end Law
namespace Law
open PySem PySem.Spec PyProof.Rows L2 Dl
theorem stp_bl {s : IS} {ss : ISs} {st : SD} (Q : SD → Prop) (h : ∀ J : SD → Prop, (∀ s', Q s' → J s') → Nx J (execS s st)) (k : ∀ s', Q s' → (execL ss s').fin = R.ok (D.bl true)) : (execL (.cons s ss) st).fin = R.ok (D.bl true) := step_nx (P := fun o : O => o.fin = R.ok (D.bl true)) Q h k
theorem good : ∀ ns : List Int, ns.length ≤ 63 → (∀ z ∈ ns, PySem.Builtin.Int.intBits z ≤ 1048576) → f_law [.lst (ns.map .int)] = .ok (.bl true) := by
  intro ns _ _
  obtain ⟨c0, hc0⟩ := cell_ok ns 0 (by decide) (by decide)
  obtain ⟨c1, hc1⟩ := cell_ok ns 1 (by decide) (by decide)
  obtain ⟨c2, hc2⟩ := cell_ok ns 2 (by decide) (by decide)
  obtain ⟨c3, hc3⟩ := cell_ok ns 3 (by decide) (by decide)
  obtain ⟨shp, hshp, hd1⟩ := digits_ok c1 T1 (by decide) (by decide)
  obtain ⟨row, hrow, hd0⟩ := digits_ok c0 WS (fun y hy => ⟨(WS_ok.1 y hy).1, by have := (WS_ok.1 y hy).2; omega⟩) WS_ok.2
  obtain ⟨more, hmore, hd2⟩ := digits_ok c2 T3 (by decide) (by decide)
  obtain ⟨lrow, hlrow, hd3⟩ := digits_ok c3 LS (by decide) (by decide)
  obtain ⟨lr2, hlr2, hd4⟩ := digits_ok c3 LS2 (by decide) (by decide)
  obtain ⟨s0, es0, -, sa, sb⟩ := hshp.get (i := 0) (by decide) (y := 8) rfl
  obtain ⟨s1, es1, -, -, -⟩ := hshp.get (i := 1) (by decide) (y := 12) rfl
  obtain ⟨hn1, hn2, hn3⟩ := names_ok sa sb
  obtain ⟨P0, L0, wo, hL0, hl0, hP0⟩ := wide_ok hrow hn2
  obtain ⟨m0, em0, -, ma0, mb0⟩ := hmore.get (i := 0) (by decide) (y := 9) rfl
  obtain ⟨m1, em1, -, ma1, mb1⟩ := hmore.get (i := 1) (by decide) (y := 6) rfl
  obtain ⟨m2, em2, -, ma2, mb2⟩ := hmore.get (i := 2) (by decide) (y := 3) rfl
  obtain ⟨m3, em3, -, ma3, mb3⟩ := hmore.get (i := 3) (by decide) (y := 20) rfl
  obtain ⟨l9, el9, -, la9, lb9⟩ := hlr2.get (i := 9) (by decide) (y := 6) rfl
  obtain ⟨H, ⟨hH1, hH2⟩, eH⟩ := pickH ma0 mb0
  obtain ⟨N, ⟨hN1, hN2⟩, eN⟩ := pickM la9 lb9
  obtain ⟨Lb, okb, hlb, eLb⟩ := Llate_ok hlrow hH1 hH2
  have wf0 : WF NameQ P0 := wo.wf.imp fun x hx => menu_q x (hn3 x hx)
  have lf0 : ∀ (i : Nat) (s : Stp), P0[i]? = some s → s.leaf = true → i < 4 := fun i s e hl => by have := (wo.lf i s e).mp hl; omega
  have hrt : Row RS (shp.drop 2) := row_two hshp
  have cutS : Dl.cutD (shp.map D.int) (some 2) none = (shp.drop 2).map D.int := by
    have := cut_from (xs := shp.map D.int) (k := 2) (by rw [List.length_map, hshp.1]; decide)
    rw [List.map_drop]
    exact this
  obtain ⟨lr, elr, okl, hll⟩ : ∃ lr : List Int, repD (.lst (Lb.map .int)) (.int N) = .ok (.lst (lr.map .int)) ∧ LateOk H lr ∧ lr.length ≤ 160 := by
    have h := late_rep okb N.toNat
    refine ⟨_, by rw [repD_ok (by omega) (by omega) (by rw [List.length_map]; omega), rep_map], h.1, ?_⟩
    rw [h.2]
    have : N.toNat * Lb.length ≤ 8 * 20 := Nat.mul_le_mul (by omega) hlb
    omega
  have chs := fun rest hr => chosen_ok ns ma1 mb1 (rest := rest) hr
  have rn1 := rngD_len (n := m1.toNat) (by omega)
  rw [show ((m1.toNat : Nat) : Int) = m1 by omega] at rn1
  show (execL b_law [some (.lst (ns.map .int)), none, none, none, none, none, none, none, none, none, none, none, none, none, none, none, none]).fin = _
  generalize D.lst (ns.map .int) = X at *
  unfold b_law
  refine stp_bl (fun s => s = [some X, some (.lst (shp.map .int)), none, none, none, none, none, none, none, none, none, none, none, none, none, none, none]) (fun J h => by simp [hc1, rep_a, add_t1, hd1]; exact h _ rfl) ?_
  rintro _ rfl
  refine stp_bl (fun s => s = [some X, some (.lst (shp.map .int)), some (.tup (P0.map Stp.d)), none, none, none, none, none, none, none, none, none, none, none, none, none, none]) (fun J h => by simp [hc0, rep_c, add_c, hd0, es0, hn1, hP0]; exact h _ rfl) ?_
  rintro _ rfl
  refine stp_bl (fun s => ∃ P1 : List Stp, WF NameQ P1 ∧ 2 ≤ P1.length ∧ P1.length ≤ 20 ∧ (∀ (i : Nat) (s : Stp), P1[i]? = some s → s.leaf = true → i < 4) ∧ s = [some X, some (.lst (shp.map .int)), some (.tup (P1.map Stp.d)), none, none, none, none, none, none, none, none, none, none, none, none, none, none]) (fun J h => ?_) ?_
  · by_cases c : s1 = 0
    · have cut : Dl.cutD (P0.map Stp.d) none (some 2) = (P0.take 2).map Stp.d := by
        have := cut_to (xs := P0.map Stp.d) (k := 2) (by rw [List.length_map]; omega)
        rw [List.map_take]
        exact this
      simp [es1, c, cut]
      exact h _ ⟨P0.take 2, wf_take wf0 2, by rw [List.length_take]; omega, by rw [List.length_take]; omega, (fun i s e hl => by
        rw [List.getElem?_take] at e
        split at e
        · omega
        · cases e), by rw [List.map_take]⟩
    · simp [es1, c]
      exact h _ ⟨P0, wf0, by omega, hl0.2, lf0, rfl⟩
  clear wf0 lf0 wo hL0 hl0 hP0
  clear P0
  rintro _ ⟨P1, wf1, hp1, hp2, lf1, rfl⟩
  obtain ⟨P, wf, hP1, hP2, eP⟩ := late_ok wf1 hp1 hp2 lf1 hrt
  refine stp_bl (fun s => s = [some X, some (.lst (shp.map .int)), some (.tup (P.map Stp.d)), none, none, none, none, none, none, none, none, none, none, none, none, none, none]) (fun J h => by simp only [exS_set, evE_call, evL_cons, evL_nil, seqL_cons, seqL_nil, evE_v, getSt_0, getSt_s, evE_slice, evP_some, evP_none, evE_kI, bind_ok, partR_int, sliceD_lst, cutS, eP, toO_ok, List.set_cons_succ, List.set_cons_zero, nx_nx]; exact h _ rfl) ?_
  rintro _ rfl
  clear wf1 hp1 hp2 lf1 eP
  clear P1
  refine stp_bl (fun s => s = [some X, some (.lst (shp.map .int)), some (.tup (P.map Stp.d)), some (.lst (more.map .int)), none, none, none, none, none, none, none, none, none, none, none, none, none]) (fun J h => by simp [hc2, rep_t, add_t3, hd2]; exact h _ rfl) ?_
  rintro _ rfl
  refine stp_bl (fun s => s = [some X, some (.lst (shp.map .int)), some (.tup (P.map Stp.d)), some (.lst (more.map .int)), some (.int H), none, none, none, none, none, none, none, none, none, none, none, none]) (fun J h => by simp [em0, eH]; exact h _ rfl) ?_
  rintro _ rfl
  refine stp_bl (fun s => s = [some X, some (.lst (shp.map .int)), some (.tup (P.map Stp.d)), some (.lst (more.map .int)), some (.int H), some (.lst (Lb.map .int)), none, none, none, none, none, none, none, none, none, none, none]) (fun J h => by simp [hc3, rep_b, add_b, hd3, eLb]; exact h _ rfl) ?_
  rintro _ rfl
  refine stp_bl (fun s => s = [some X, some (.lst (shp.map .int)), some (.tup (P.map Stp.d)), some (.lst (more.map .int)), some (.int H), some (.lst (lr.map .int)), none, none, none, none, none, none, none, none, none, none, none]) (fun J h => by simp [hc3, rep_b, add_b, add_d, hd4, el9, eN, elr]; exact h _ rfl) ?_
  rintro _ rfl
  obtain ⟨C, eC⟩ := chs [some (.lst (shp.map .int)), some (.tup (P.map Stp.d)), some (.lst (more.map .int)), some (.int H), some (.lst (lr.map .int)), none, none, none, none, none, none, none, none, none, none, none] rfl
  refine stp_bl (fun s => s = [some X, some (.lst (shp.map .int)), some (.tup (P.map Stp.d)), some (.lst (more.map .int)), some (.int H), some (.lst (lr.map .int)), some (.lst (C.map .int)), none, none, none, none, none, none, none, none, none, none]) (fun J h => by simp only [exS_set, evE_comp, evI_rng1, evE_idx, evE_v, getSt_0, getSt_s, evE_kI, bind_ok, em1, rng1R_int, rn1, eC, toO_ok, List.set_cons_succ, List.set_cons_zero, nx_nx]; exact h _ rfl) ?_
  rintro _ rfl
  clear chs eC rn1 hc0 hc1 hc2 hc3 hd0 hd1 hd2 hd3 hd4
  have rnP := rngD_len (n := P.length) (by omega)
  have eI := comp_filt (j := 16) (st := [some X, some (.lst (shp.map .int)), some (.tup (P.map Stp.d)), some (.lst (more.map .int)), some (.int H), some (.lst (lr.map .int)), some (.lst (C.map .int)), none, none, none, none, none, none, none, none, none, none]) (c := .cmp .«in» (.idx (.idx (.v 2) (.v 16)) (.kI 0)) (.tup (.cons (.kS "plus") (.cons (.kS "times") .nil)))) (p := isIn P) (n := P.length) (by omega) (fun k hk => inner_at hk rfl rfl) (by simp)
  refine stp_bl (fun s => s = [some X, some (.lst (shp.map .int)), some (.tup (P.map Stp.d)), some (.lst (more.map .int)), some (.int H), some (.lst (lr.map .int)), some (.lst (C.map .int)), some (.lst (ni (inners P))), none, none, none, none, none, none, none, none, none]) (fun J h => by simp only [exS_set, evE_comp, evI_rng1, evE_b1, evE_v, getSt_0, getSt_s, bind_ok, b1D_len, lenD_tup, List.length_map, rng1R_int, rnP, eI, toO_ok, List.set_cons_succ, List.set_cons_zero, nx_nx]; exact h _ rfl) ?_
  rintro _ rfl
  clear eI rnP
  obtain ⟨ou, hou⟩ : ∃ ou : Nat, (P.length : Int) - 1 = (ou : Int) ∧ ou < P.length := ⟨P.length - 1, by omega, by omega⟩
  have hst : f_iStraight [.tup (P.map Stp.d), .tup [.int (ou : Nat)]] = .ok (Pro P [ou]) := straight_ok (outs := [ou]) (fun _ h => h) wf (fun o ho => by rw [List.mem_singleton] at ho; omega) (by omega) (by simp)
  refine stp_bl (fun s => s = [some X, some (.lst (shp.map .int)), some (.tup (P.map Stp.d)), some (.lst (more.map .int)), some (.int H), some (.lst (lr.map .int)), some (.lst (C.map .int)), some (.lst (ni (inners P))), some (Pro P [ou]), none, none, none, none, none, none, none, none]) (fun J h => by simp [hou.1, hst]; exact h _ rfl) ?_
  rintro _ rfl
  refine stp_bl (fun s => s = [some X, some (.lst (shp.map .int)), some (.tup (P.map Stp.d)), some (.lst (more.map .int)), some (.int H), some (.lst (lr.map .int)), some (.lst (C.map .int)), some (.lst (ni (inners P))), some (Pro P [ou]), some (.lst (ni [])), none, none, none, none, none, none, none]) (fun J h => by simp; exact h _ rfl) ?_
  rintro _ rfl
  have hwp : work P ≤ P.length := List.length_filter_le _ _
  refine stp_bl (fun s => ∃ dr : List Nat, dr.length ≤ 7 ∧ s = [some X, some (.lst (shp.map .int)), some (.tup (P.map Stp.d)), some (.lst (more.map .int)), some (.int H), some (.lst (lr.map .int)), some (.lst (C.map .int)), some (.lst (ni (inners P))), some (Pro P [ou]), some (.lst (ni dr)), none, none, none, none, none, none, none]) (fun J h => ?_) ?_
  · by_cases c : 0 < (inners P).length
    · have q0 := Int.emod_nonneg m3 (show (6 : Int) ≠ 0 by decide)
      have q1 := Int.emod_lt_of_pos m3 (show (0 : Int) < 6 by decide)
      obtain ⟨dr, d1, d2⟩ := drawn_ok hmore c (by rw [inners_len]; omega) (z := m2 + m3 % 6) (by omega) (by omega) (x := some X) (a := some (.lst (shp.map .int))) (b := some (.tup (P.map Stp.d))) (c := some (.int H)) (d := some (.lst (lr.map .int))) (e := some (.lst (C.map .int))) (f := some (Pro P [ou])) (g := some (.lst (ni []))) (h := none) (i := none) (j := none) (k := none) (l := none) (m := none) (n := none) (o := none)
      have rn := rngD_len (n := (m2 + m3 % 6).toNat) (by omega)
      rw [show (((m2 + m3 % 6).toNat : Nat) : Int) = m2 + m3 % 6 by omega] at rn
      have c' : (0 : Int) < ((inners P).length : Int) := by omega
      simp only [exS_ifs, evE_cmp, evE_b1, evE_v, getSt_0, getSt_s, bind_ok, b1D_len, lenD_lst, ni_len, evE_kI, cmpD_gt, gtD_int, decide_eq_true c', tR_bl, toO_ok, if_true, exL_cons, exL_nil, exS_set, evE_comp, evI_rng1, evE_bin, evE_idx, em2, em3, b1D_int, intD_int, binD_mod, modD_int (show (0 : Int) < 6 by decide), binD_add, addD_int, rng1R_int, rn, d2, obind_nx, List.set_cons_succ, List.set_cons_zero, nx_nx]
      exact h _ ⟨dr, d1, rfl⟩
    · have c' : ¬ (0 : Int) < ((inners P).length : Int) := by omega
      simp only [exS_ifs, evE_cmp, evE_b1, evE_v, getSt_0, getSt_s, bind_ok, b1D_len, lenD_lst, ni_len, evE_kI, cmpD_gt, gtD_int, decide_eq_false c', tR_bl, toO_ok, Bool.false_eq_true, if_false, exL_nil, nx_nx]
      exact h _ ⟨[], by simp, rfl⟩
  rintro _ ⟨dr, hdr, rfl⟩
  have hrl : ∀ S, (ready P S).length ≤ 80 := fun S => by
    unfold ready
    have := List.length_filter_le (rdy P S) (List.range P.length)
    rw [List.length_range] at this
    omega
  have r1 := ready_steps_ok wf (by omega) [ou] (L := dr) (by omega) (y := .lst (ni dr)) (.inl rfl)
  have r2 := Lready_ok wf (by omega) (holds_nl dr)
  have r3 := same_ok (tt_ni (ready P dr) (by have := hrl dr; omega)) (by decide)
  have r4 := ne_ni dr
  refine stp_bl (fun s => s = [some X, some (.lst (shp.map .int)), some (.tup (P.map Stp.d)), some (.lst (more.map .int)), some (.int H), some (.lst (lr.map .int)), some (.lst (C.map .int)), some (.lst (ni (inners P))), some (Pro P [ou]), some (.lst (ni dr)), some (.lst (ni dr)), none, none, none, none, none, none]) (fun J h => by simp only [exS_set, evE_b1, evE_v, getSt_0, getSt_s, bind_ok, b1D_list, listD_lst, toO_ok, List.set_cons_succ, List.set_cons_zero, nx_nx]; exact h _ rfl) ?_
  rintro _ rfl
  refine stp_bl (fun s => s = [some X, some (.lst (shp.map .int)), some (.tup (P.map Stp.d)), some (.lst (more.map .int)), some (.int H), some (.lst (lr.map .int)), some (.lst (C.map .int)), some (.lst (ni (inners P))), some (Pro P [ou]), some (.lst (ni dr)), some (.lst (ni dr)), none, none, none, none, none, none]) (fun J h => by simp [r1, r2, r3, r4]; exact h _ rfl) ?_
  rintro _ rfl
  clear r1 r2 r3 r4
  obtain ⟨NA, hA⟩ := nd_ex wf hP2 hH1 lr C (by omega)
  obtain ⟨NB, hB⟩ := nd_ex wf hP2 hH1 [] [] (by decide)
  obtain ⟨NC, hC⟩ := nd_ex wf hP2 hH1 [] C (by decide)
  have okn : LateOk H [] := fun x hx => by cases hx
  have a1 : f_Lrun [.tup (P.map Stp.d), .int H, .lst (lr.map .int), .lst (C.map .int)] = _ := Lrun_ok wf hP2 (.inl rfl) (.inl rfl) okl hH1 hA
  have a2 : f_run_rounds_k_late_picks [Pro P [ou], .int H, .lst (lr.map .int), .tup (C.map .int)] = _ := run_body wf hP2 (.inl rfl) (.inr rfl) okl hH1 hA [ou]
  have a3 : f_run_rounds_k_late_picks [Pro P [ou], .int H, .tup (lr.map .int), .lst (C.map .int)] = _ := run_body wf hP2 (.inr rfl) (.inl rfl) okl hH1 hA [ou]
  have a4 := same_ok (tt_rds P H lr C (N := NA) (by have := hA.b; omega) hP2) (by decide)
  have b1 : f_Lrun [.tup (P.map Stp.d), .int H, .lst [], .lst []] = _ := Lrun_ok wf hP2 (L := []) (C := []) (.inl rfl) (.inl rfl) okn hH1 hB
  have b2 : f_run_rounds_b [Pro P [ou], .int H] = _ := run_body wf hP2 (L := []) (C := []) (.inr rfl) (.inr rfl) okn hH1 hB [ou]
  have b3 := same_ok (tt_rds P H [] [] (N := NB) (by have := hB.b; omega) hP2) (by decide)
  have d1 : f_Lrun [.tup (P.map Stp.d), .int H, .lst [], .lst (C.map .int)] = _ := Lrun_ok wf hP2 (L := []) (C := C) (.inl rfl) (.inl rfl) okn hH1 hC
  have d2 : f_run_rounds_k_picks [Pro P [ou], .int H, .lst (C.map .int)] = _ := run_body wf hP2 (L := []) (C := C) (.inr rfl) (.inl rfl) okn hH1 hC [ou]
  have d3 := same_ok (tt_rds P H [] C (N := NC) (by have := hC.b; omega) hP2) (by decide)
  have n1 := ne_ints lr
  have n2 := ne_ints C
  have cA : ∀ p0 p1 p2 p3 p4 p5 p6 p7 p8 p9 p10 p11 p12 p13 p14 p15 p16 : Option D, compR (.nm 15) (evC .none) (evE (.b1 .tuple (.v 15))) [p0, p1, p2, p3, p4, p5, p6, p7, p8, p9, p10, p11, p12, p13, p14, p15, p16] (rdsL P H lr C NA) = _ := fun p0 p1 p2 p3 p4 p5 p6 p7 p8 p9 p10 p11 p12 p13 p14 p15 p16 => comp_tup P H lr C (N := NA) (by have := hA.b; omega) (by simp)
  have cB : ∀ p0 p1 p2 p3 p4 p5 p6 p7 p8 p9 p10 p11 p12 p13 p14 p15 p16 : Option D, compR (.nm 15) (evC .none) (evE (.b1 .tuple (.v 15))) [p0, p1, p2, p3, p4, p5, p6, p7, p8, p9, p10, p11, p12, p13, p14, p15, p16] (rdsL P H [] [] NB) = _ := fun p0 p1 p2 p3 p4 p5 p6 p7 p8 p9 p10 p11 p12 p13 p14 p15 p16 => comp_tup P H [] [] (N := NB) (by have := hB.b; omega) (by simp)
  have cC : ∀ p0 p1 p2 p3 p4 p5 p6 p7 p8 p9 p10 p11 p12 p13 p14 p15 p16 : Option D, compR (.nm 15) (evC .none) (evE (.b1 .tuple (.v 15))) [p0, p1, p2, p3, p4, p5, p6, p7, p8, p9, p10, p11, p12, p13, p14, p15, p16] (rdsL P H [] C NC) = _ := fun p0 p1 p2 p3 p4 p5 p6 p7 p8 p9 p10 p11 p12 p13 p14 p15 p16 => comp_tup P H [] C (N := NC) (by have := hC.b; omega) (by simp)
  have dl : ∀ {x a b c d e f g h i j k : Option D} {Pst : O → Prop} {kk : SD → O}, (∀ o15, Pst (kk [x, a, some (.tup (P.map Stp.d)), b, c, d, e, f, some (Pro P [ou]), g, h, i, j, k, some (.lst (ni (Dq P H lr C NA))), o15, none])) → _ := fun p => due_loop wf hP2 [ou] hA p
  have rf : ready P (Dq P H lr C NA) = [] := by
    rw [ready_congr (Dq_mem hA NA (Nat.le_refl _)).1]
    exact ready_all (Sq_full hA.ok)
  have f1 := ready_steps_ok wf (by omega) [ou] (L := Dq P H lr C NA) (by rw [(Dq_mem hA NA (Nat.le_refl _)).2]; have := Sq_len P H lr C NA; omega) (y := .lst (ni (Dq P H lr C NA))) (.inl rfl)
  rw [rf] at f1
  have f2 := same_ok (tt_ni [] (by decide)) (by decide)
  have f2' : f_Lsame [.tup (ni []), .tup []] = .ok (.bl true) := f2
  refine stp_bl (fun s => s = [some X, some (.lst (shp.map .int)), some (.tup (P.map Stp.d)), some (.lst (more.map .int)), some (.int H), some (.lst (lr.map .int)), some (.lst (C.map .int)), some (.lst (ni (inners P))), some (Pro P [ou]), some (.lst (ni dr)), some (.lst (ni dr)), some (.lst (rdsL P H lr C NA)), none, none, none, none, none]) (fun J h => by simp only [exS_set, evE_call, evL_cons, evL_nil, seqL_cons, seqL_nil, evE_v, getSt_0, getSt_s, a1, bind_ok, toO_ok, List.set_cons_succ, List.set_cons_zero, nx_nx]; exact h _ rfl) ?_
  rintro _ rfl
  refine stp_bl (fun s => s = [some X, some (.lst (shp.map .int)), some (.tup (P.map Stp.d)), some (.lst (more.map .int)), some (.int H), some (.lst (lr.map .int)), some (.lst (C.map .int)), some (.lst (ni (inners P))), some (Pro P [ou]), some (.lst (ni dr)), some (.lst (ni dr)), some (.lst (rdsL P H lr C NA)), some (.tup (rdsT P H lr C NA)), none, none, none, none]) (fun J h => by simp only [exS_set, evE_b1, evE_comp, evI_any, evE_v, getSt_0, getSt_s, bind_ok, iterD_lst]; rw [cA]; simp only [bind_ok, b1D_tuple, tupleD_lst, toO_ok, List.set_cons_succ, List.set_cons_zero, nx_nx]; exact h _ rfl) ?_
  rintro _ rfl
  refine stp_bl (fun s => s = [some X, some (.lst (shp.map .int)), some (.tup (P.map Stp.d)), some (.lst (more.map .int)), some (.int H), some (.lst (lr.map .int)), some (.lst (C.map .int)), some (.lst (ni (inners P))), some (Pro P [ou]), some (.lst (ni dr)), some (.lst (lr.map .int)), some (.lst (rdsL P H lr C NA)), some (.tup (rdsT P H lr C NA)), none, none, none, none]) (fun J h => by simp only [exS_set, evE_b1, evE_v, getSt_0, getSt_s, bind_ok, b1D_list, listD_lst, toO_ok, List.set_cons_succ, List.set_cons_zero, nx_nx]; exact h _ rfl) ?_
  rintro _ rfl
  refine stp_bl (fun s => s = [some X, some (.lst (shp.map .int)), some (.tup (P.map Stp.d)), some (.lst (more.map .int)), some (.int H), some (.lst (lr.map .int)), some (.lst (C.map .int)), some (.lst (ni (inners P))), some (Pro P [ou]), some (.lst (ni dr)), some (.lst (lr.map .int)), some (.lst (rdsL P H lr C NA)), some (.tup (rdsT P H lr C NA)), some (.lst (C.map .int)), none, none, none]) (fun J h => by simp only [exS_set, evE_b1, evE_v, getSt_0, getSt_s, bind_ok, b1D_list, listD_lst, toO_ok, List.set_cons_succ, List.set_cons_zero, nx_nx]; exact h _ rfl) ?_
  rintro _ rfl
  generalize hpr : Pro P [ou] = pr at *
  generalize hLr : lr.map D.int = LR at *
  generalize hCr : C.map D.int = CR at *
  generalize hT : rdsT P H lr C NA = TA at *
  refine stp_bl (fun s => s = [some X, some (.lst (shp.map .int)), some (.tup (P.map Stp.d)), some (.lst (more.map .int)), some (.int H), some (.lst LR), some (.lst CR), some (.lst (ni (inners P))), some pr, some (.lst (ni dr)), some (.lst LR), some (.lst (rdsL P H lr C NA)), some (.tup TA), some (.lst CR), none, none, none]) (fun J h => by simp [a2, a4, n1]; exact h _ rfl) ?_
  rintro _ rfl
  refine stp_bl (fun s => s = [some X, some (.lst (shp.map .int)), some (.tup (P.map Stp.d)), some (.lst (more.map .int)), some (.int H), some (.lst LR), some (.lst CR), some (.lst (ni (inners P))), some pr, some (.lst (ni dr)), some (.lst LR), some (.lst (rdsL P H lr C NA)), some (.tup TA), some (.lst CR), none, none, none]) (fun J h => by simp [a3, a4, n2]; exact h _ rfl) ?_
  rintro _ rfl
  refine stp_bl (fun s => s = [some X, some (.lst (shp.map .int)), some (.tup (P.map Stp.d)), some (.lst (more.map .int)), some (.int H), some (.lst LR), some (.lst CR), some (.lst (ni (inners P))), some pr, some (.lst (ni dr)), some (.lst LR), some (.lst (rdsL P H lr C NA)), some (.tup TA), some (.lst CR), none, none, none]) (fun J h => by simp [b1, b2]; rw [cB]; simp [b3]; exact h _ rfl) ?_
  rintro _ rfl
  refine stp_bl (fun s => s = [some X, some (.lst (shp.map .int)), some (.tup (P.map Stp.d)), some (.lst (more.map .int)), some (.int H), some (.lst LR), some (.lst CR), some (.lst (ni (inners P))), some pr, some (.lst (ni dr)), some (.lst LR), some (.lst (rdsL P H lr C NA)), some (.tup TA), some (.lst CR), none, none, none]) (fun J h => by simp [d1, d2]; rw [cC]; simp [d3]; exact h _ rfl) ?_
  rintro _ rfl
  refine stp_bl (fun s => s = [some X, some (.lst (shp.map .int)), some (.tup (P.map Stp.d)), some (.lst (more.map .int)), some (.int H), some (.lst LR), some (.lst CR), some (.lst (ni (inners P))), some pr, some (.lst (ni dr)), some (.lst LR), some (.lst (rdsL P H lr C NA)), some (.tup TA), some (.lst CR), some (.lst []), none, none]) (fun J h => by simp; exact h _ rfl) ?_
  rintro _ rfl
  simp only [exL_cons, exL_nil, exS_fors, evI_any, evE_v, getSt_0, getSt_s, bind_ok, iterD_lst, toO_ok]
  refine dl (Pst := fun o => o.fin = _) fun o15 => ?_
  simp only [exL_cons, exL_nil, exS_ret, evE_call, evL_cons, evL_nil, seqL_cons, seqL_nil, evE_v, getSt_0, getSt_s, evE_tup, bind_ok, f1, tupR_ok, List.length_nil, Nat.zero_le, if_true, f2', toO_ok, obind_rt, fin_rt]

end Law
open PySem PySem.W PyProof.Rows
set_option maxRecDepth 100000 in
set_option maxHeartbeats 0 in
theorem PySem.Challenge.cw_shallowsums_k44_rounds_run_holds : PySem.Challenge.rw_shallowsums_k44_rounds_run.Holds := by
  w_on; o_law; k_head; (case hw => w_witness2)
  k_fill
  refine Dl.walkG (l := PySem.Challenge.rw_shallowsums_k44_rounds_run) (n := 63) (k := 11) (x := "_law_script") (g := Law.f_law) rfl (by decide) rfl ⟨rfl, by decide, by decide⟩ (fun w h Y => PySem.W.kIn_of Y) ?F Law.good
  case F =>
    intro w mg fa h KX G hmg
    refine' Law.all_mk KX G hmg ?aC0 ?pg0 ?hd0 ?po0 ?sa0 ?mk0 ?kc0 ?n0_0 ?n0_1 ?a0 ?l0 ?c0 ?k0 ?a1 ?l1 ?c1 ?k1 ?a2 ?l2 ?c2 ?k2 ?a3 ?l3 ?c3 ?k3 ?a4 ?l4 ?c4 ?k4 ?a5 ?l5 ?c5 ?k5 ?a6 ?l6 ?c6 ?k6 ?a7 ?l7 ?c7 ?k7 ?a8 ?l8 ?c8 ?k8 ?a9 ?l9 ?c9 ?k9 ?a10 ?l10 ?c10 ?k10 ?a11 ?l11 ?c11 ?k11 ?i12 ?a12 ?l12 ?c12 ?k12 ?a13 ?l13 ?c13 ?k13 ?a14 ?l14 ?c14 ?k14 ?a15 ?l15 ?c15 ?k15 ?a16 ?l16 ?c16 ?k16 ?a17 ?l17 ?c17 ?k17 ?a18 ?l18 ?c18 ?k18 ?a19 ?l19 ?c19 ?k19 ?a20 ?l20 ?c20 ?k20 ?a21 ?l21 ?c21 ?k21 ?a22 ?l22 ?c22 ?k22 ?a23 ?l23 ?c23 ?k23 ?a24 ?l24 ?c24 ?k24 ?a25 ?l25 ?c25 ?k25 ?a26 ?l26 ?c26 ?k26 ?kd26_0 ?ke26_0 ?kd26_1 ?ke26_1 ?a27 ?l27 ?c27 ?k27 ?z0 ?z1 ?z2 ?z3 ?z4 ?z5 ?z6 ?z7 ?z8 ?z9 ?z10 ?z11 ?z12 ?z13 ?z14 ?z15 ?z16 ?z17 ?z18 ?qg0 ?qg1 ?qg2
    (case aC0 => k_is); (case pg0 => k_is); (case hd0 => k_is); (case po0 => k_is); (case sa0 => k_is); (case mk0 => k_is); (case kc0 => k_is); (case n0_0 => k_is)
    (case n0_1 => k_is); (case a0 => k_is); (case l0 => k_is); (case c0 => k_is); (case k0 => k_is); (case a1 => k_is); (case l1 => k_is); (case c1 => k_is)
    (case k1 => k_is); (case a2 => k_is); (case l2 => k_is); (case c2 => k_is); (case k2 => k_is); (case a3 => k_is); (case l3 => k_is); (case c3 => k_is)
    (case k3 => k_is); (case a4 => k_is); (case l4 => k_is); (case c4 => k_is); (case k4 => k_is); (case a5 => k_is); (case l5 => k_is); (case c5 => k_is)
    (case k5 => k_is); (case a6 => k_is); (case l6 => k_is); (case c6 => k_is); (case k6 => k_is); (case a7 => k_is); (case l7 => k_is); (case c7 => k_is)
    (case k7 => k_is); (case a8 => k_is); (case l8 => k_is); (case c8 => k_is); (case k8 => k_is); (case a9 => k_is); (case l9 => k_is); (case c9 => k_is)
    (case k9 => k_is); (case a10 => k_is); (case l10 => k_is); (case c10 => k_is); (case k10 => k_is); (case a11 => k_is); (case l11 => k_is); (case c11 => k_is)
    (case k11 => k_is); (case i12 => k_is); (case a12 => k_is); (case l12 => k_is); (case c12 => k_is); (case k12 => k_is); (case a13 => k_is); (case l13 => k_is)
    (case c13 => k_is); (case k13 => k_is); (case a14 => k_is); (case l14 => k_is); (case c14 => k_is); (case k14 => k_is); (case a15 => k_is); (case l15 => k_is)
    (case c15 => k_is); (case k15 => k_is); (case a16 => k_is); (case l16 => k_is); (case c16 => k_is); (case k16 => k_is); (case a17 => k_is); (case l17 => k_is)
    (case c17 => k_is); (case k17 => k_is); (case a18 => k_is); (case l18 => k_is); (case c18 => k_is); (case k18 => k_is); (case a19 => k_is); (case l19 => k_is)
    (case c19 => k_is); (case k19 => k_is); (case a20 => k_is); (case l20 => k_is); (case c20 => k_is); (case k20 => k_is); (case a21 => k_is); (case l21 => k_is)
    (case c21 => k_is); (case k21 => k_is); (case a22 => k_is); (case l22 => k_is); (case c22 => k_is); (case k22 => k_is); (case a23 => k_is); (case l23 => k_is)
    (case c23 => k_is); (case k23 => k_is); (case a24 => k_is); (case l24 => k_is); (case c24 => k_is); (case k24 => k_is); (case a25 => k_is); (case l25 => k_is)
    (case c25 => k_is); (case k25 => k_is); (case a26 => k_is); (case l26 => k_is); (case c26 => k_is); (case k26 => k_is); (case kd26_0 => k_is); (case ke26_0 => k_is)
    (case kd26_1 => k_is); (case ke26_1 => k_is); (case a27 => k_is); (case l27 => k_is); (case c27 => k_is); (case k27 => k_is); (case z0 => k_is); (case z1 => k_is)
    (case z2 => k_is); (case z3 => k_is); (case z4 => k_is); (case z5 => k_is); (case z6 => k_is); (case z7 => k_is); (case z8 => k_is); (case z9 => k_is)
    (case z10 => k_is); (case z11 => k_is); (case z12 => k_is); (case z13 => k_is); (case z14 => k_is); (case z15 => k_is); (case z16 => k_is); (case z17 => k_is)
    (case z18 => k_is); (case qg0 => k_is); (case qg1 => k_is); (case qg2 => k_is)

