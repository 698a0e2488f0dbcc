import PyProof.Rows.All
import Wide.All
import OpenK.AllK
import Wide.FinOn
import HandS.ForMost
import HandS.ForExc
import HandS.RaiseMore
import HandS.IsInst
import HandS.Conv
import HandS.SortInts
import HandS.Flow
import HandS.Wide
import HandS.TupAny
import HandS.TupLen
import HandS.Style
import HandS.TupMul
import HandS.Deep
import HandS.Zip
import HandS.More
import HandS.TupSets
import HandS.SortOrd
import HandS.SortRule
import KE.KDictCopyH
import KE.KSortTupAny
import KE.KDictDisplayH
import HandS.TupLe
import HandS.SetFor
import HandS.Strs
import HandS.Ends
import HandS.EndBits
import PyProof.ReprRoads
import KE.SortKeyHeap
import KE.SortData
import HandS.SortKw
import KE.KDictWalk
import KE.KDictKeyed
import KE.KDictPairs
import KE.DataCmp
import HandS.SetKeys
import KE.GoesMore
import PyProof.Draws
import PyProof.EnumMake
import HandS.ExcValue
import HandS.Exc
import HandS.ExcIs
import PyProof.TupleOfSeq
import PyProof.AutoSeq1
import HandS.ExcInit
import HandS.TryOnly
import HandS.ExcField
import KE.KDictZip
import PyProof.StrBlock2
import KE.DataFind
import PyProof.Rows.Digits
import PyProof.Rows.StrOr
import HandS.Iter
import PyProof.ReprBulk
import PyProof.Rows.ReprOcc
import PySem.Challenge.RW_heldmarks_k71_turns_as_texts
set_option Elab.async false
set_option linter.all false
set_option maxRecDepth 100000
set_option maxHeartbeats 4000000
noncomputable section
namespace MM
open PySem PySem.Spec PyProof.Rows L2

/-! ### data -/
inductive D where
  | non | bl (b : Bool) | int (i : Int) | str (x : Str)
  | lst (xs : List D) | tup (xs : List D)
  | dK (kvs : List (Key × D)) | dT (kvs : List (List Key × D)) | dTf (kvs : List (List Key × D))
  | scr (ns : List Int) | opq (v : V) | deep (d : D)
  | nam (b : Bool) (x : Str) | xn (x f : Str) (i : Int) | fz (d : D) | tz (xs : List D)
/-- what is told of a kept exception -/
def trk (cls : Value) (d : Option Addr) (a : Addr) : HO := .ext fun h => ∃ (oe : Obj) (vs : Array Value), h.get? a = some oe ∧ oe.cls = cls ∧ oe.dict = d ∧ oe.data = .fields vs
/-- an exception object of the class at C, no fields of its own, at a -/
def ExK (C a : Addr) : HO := .ext fun h => ∃ (oe : Obj) (vs : Array Value), h.get? a = some oe ∧ oe.cls = .ref C ∧ oe.dict = none ∧ oe.data = .fields vs

mutual
inductive Rep (K : PySem.W.Frag) (Z : Hp) : D → V → Prop
  | non : Rep K Z .non .non
  | bl (b : Bool) : Rep K Z (.bl b) (.bl b)
  | int (i : Int) : Rep K Z (.int i) (.int i)
  | str (x : Str) : Rep K Z (.str x) (.str x)
  | lst {a : Addr} {vs : List V} {ds : List D} : Z a = some (.lst vs) → RepL K Z ds vs → Rep K Z (.lst ds) (.ref a)
  | tup {a : Addr} {vs : List V} {ds : List D} : Z a = some (.tup vs) → RepL K Z ds vs → Rep K Z (.tup ds) (.ref a)
  | dK {a : Addr} {kws : List (Key × V)} {kvs : List (Key × D)} : Z a = some (.dK kws) → RepK K Z kvs kws → Rep K Z (.dK kvs) (.ref a)
  | dT {a : Addr} {kws : List (List Key × V)} {kvs : List (List Key × D)} : Z a = some (.dT kws) → RepT K Z kvs kws → Rep K Z (.dT kvs) (.ref a)
  | dTf {a : Addr} {o : Obj} {kws : List (List Key × V)} {kvs : List (List Key × D)} : Z a = some (.frz o (.dT kws)) → RepT K Z kvs kws → Rep K Z (.dTf kvs) (.ref a)
  | scr {a : Addr} {ns : List Int} : SqL K Z a (ns.map V.int) → Rep K Z (.scr ns) (.ref a)
  | opq (v : V) : Rep K Z (.opq v) v
  | cls {x : Str} {C : Addr} : PySem.W.nsIn K mainGlobals x = some (some (.ref C)) → Rep K Z (.nam false x) (.ref C)
  | exn {x : Str} {C a : Addr} : PySem.W.nsIn K mainGlobals x = some (some (.ref C)) → Z a = some (ExK C a) → Rep K Z (.nam true x) (.ref a)
  | xn {x f : Str} {i : Int} {C a dx : Addr} : PySem.W.nsIn K mainGlobals x = some (some (.ref C)) → Z a = some (trk (.ref C) (some dx) a) → Z dx = some (.xd [(f, .int i)]) → Rep K Z (.xn x f i) (.ref a)
  | deep {d : D} {v : V} : Rep K Z d v → Rep K Z (.deep d) v
  | frzn {d : D} {v : V} : Rep K Z d v → Rep K Z (.fz d) v
  | tz {a : Addr} {o : Obj} {vs : List V} {ds : List D} : Z a = some (.frz o (.tup vs)) → o.dict = none → RepL K Z ds vs → Rep K Z (.tz ds) (.ref a)
inductive RepL (K : PySem.W.Frag) (Z : Hp) : List D → List V → Prop
  | nil : RepL K Z [] []
  | cons {d : D} {v : V} {ds : List D} {vs : List V} : Rep K Z d v → RepL K Z ds vs → RepL K Z (d :: ds) (v :: vs)
inductive RepK (K : PySem.W.Frag) (Z : Hp) : List (Key × D) → List (Key × V) → Prop
  | nil : RepK K Z [] []
  | cons {k : Key} {d : D} {v : V} {ds : List (Key × D)} {vs : List (Key × V)} : Rep K Z d v → RepK K Z ds vs → RepK K Z ((k, d) :: ds) ((k, v) :: vs)
inductive RepT (K : PySem.W.Frag) (Z : Hp) : List (List Key × D) → List (List Key × V) → Prop
  | nil : RepT K Z [] []
  | cons {k : List Key} {d : D} {v : V} {ds : List (List Key × D)} {vs : List (List Key × V)} : Rep K Z d v → RepT K Z ds vs → RepT K Z ((k, d) :: ds) ((k, v) :: vs)
end

def Ex (H H' : Hp) : Prop := ∀ a o, H a = some o → H' a = some o
theorem Ex.refl (H : Hp) : Ex H H := fun _ _ h => h
theorem Ex.trans {H H1 H2 : Hp} (a : Ex H H1) (b : Ex H1 H2) : Ex H H2 := fun x o h => b x o (a x o h)
theorem ex_new {H : Hp} {p : Addr} {o : HO} (h : H p = none) : Ex H (upd H p o) := fun a u e => by
  rw [upd_ne (ne_of_none e h)]
  exact e
theorem sql_mono {K : PySem.W.Frag} {H H' : Hp} {a : Addr} {xs : List V} (e : Ex H H') (h : SqL K H a xs) : SqL K H' a xs := by
  rcases h with (h | ⟨o, h⟩) | h
  · exact .inl (.inl (e _ _ h))
  · exact .inl (.inr ⟨o, e _ _ h⟩)
  · exact .inr h

section
variable {K : PySem.W.Frag} {Z Z' : Hp}
mutual
theorem Rep.mono (e : Ex Z Z') : ∀ {d : D} {v : V}, Rep K Z d v → Rep K Z' d v
  | _, _, .non => .non
  | _, _, .bl b => .bl b
  | _, _, .int b => .int b
  | _, _, .str b => .str b
  | _, _, .lst h r => .lst (e _ _ h) (RepL.mono e r)
  | _, _, .tup h r => .tup (e _ _ h) (RepL.mono e r)
  | _, _, .dK h r => .dK (e _ _ h) (RepK.mono e r)
  | _, _, .dT h r => .dT (e _ _ h) (RepT.mono e r)
  | _, _, .dTf h r => .dTf (e _ _ h) (RepT.mono e r)
  | _, _, .scr h => .scr (sql_mono e h)
  | _, _, .opq v => .opq v
  | _, _, .cls h => .cls h
  | _, _, .exn h g => .exn h (e _ _ g)
  | _, _, .xn h g k => .xn h (e _ _ g) (e _ _ k)
  | _, _, .deep h => .deep (Rep.mono e h)
  | _, _, .frzn h => .frzn (Rep.mono e h)
  | _, _, .tz h d r => .tz (e _ _ h) d (RepL.mono e r)
theorem RepL.mono (e : Ex Z Z') : ∀ {d : List D} {v : List V}, RepL K Z d v → RepL K Z' d v
  | _, _, .nil => .nil
  | _, _, .cons h r => .cons (Rep.mono e h) (RepL.mono e r)
theorem RepK.mono (e : Ex Z Z') : ∀ {d : List (Key × D)} {v : List (Key × V)}, RepK K Z d v → RepK K Z' d v
  | _, _, .nil => .nil
  | _, _, .cons h r => .cons (Rep.mono e h) (RepK.mono e r)
theorem RepT.mono (e : Ex Z Z') : ∀ {d : List (List Key × D)} {v : List (List Key × V)}, RepT K Z d v → RepT K Z' d v
  | _, _, .nil => .nil
  | _, _, .cons h r => .cons (Rep.mono e h) (RepT.mono e r)
end
theorem RepL.length : ∀ {ds : List D} {vs : List V}, RepL K Z ds vs → ds.length = vs.length
  | _, _, .nil => rfl
  | _, _, .cons _ r => by rw [List.length_cons, List.length_cons, RepL.length r]
theorem RepL.get : ∀ {ds : List D} {vs : List V} {i : Nat} {d : D}, RepL K Z ds vs → ds[i]? = some d → ∃ v, vs[i]? = some v ∧ Rep K Z d v
  | _, _, 0, _, .cons h _, e => by cases e; exact ⟨_, rfl, h⟩
  | _, _, i + 1, _, .cons _ r, e => RepL.get (i := i) r e
theorem RepL.append : ∀ {ds es : List D} {vs us : List V}, RepL K Z ds vs → RepL K Z es us → RepL K Z (ds ++ es) (vs ++ us)
  | _, _, _, _, .nil, r => r
  | _, _, _, _, .cons h t, r => .cons h (RepL.append t r)
end

/-! ### ownership: the mutable cells of a value -/
mutual
inductive Own (K : PySem.W.Frag) (H Z : Hp) : D → V → List Addr → Prop
  | frz {d : D} {v : V} : Rep K Z d v → Own K H Z d v []
  | lst {a : Addr} {vs : List V} {ds : List D} {F : List Addr} : H a = some (.lst vs) → OwnL K H Z ds vs F → Own K H Z (.lst ds) (.ref a) (a :: F)
  | tup {a : Addr} {vs : List V} {ds : List D} {F : List Addr} : Z a = some (.tup vs) → OwnL K H Z ds vs F → Own K H Z (.tup ds) (.ref a) F
  | dK {a : Addr} {kws : List (Key × V)} {kvs : List (Key × D)} : H a = some (.dK kws) → RepK K Z kvs kws → Own K H Z (.dK kvs) (.ref a) [a]
  | dT {a : Addr} {kws : List (List Key × V)} {kvs : List (List Key × D)} : H a = some (.dT kws) → RepT K Z kvs kws → Own K H Z (.dT kvs) (.ref a) [a]
  | deep {d : D} {v : V} {F : List Addr} : Own K H Z d v F → Own K H Z (.deep d) v F
inductive OwnL (K : PySem.W.Frag) (H Z : Hp) : List D → List V → List Addr → Prop
  | nil : OwnL K H Z [] [] []
  | cons {d : D} {v : V} {F : List Addr} {ds : List D} {vs : List V} {G : List Addr} : Own K H Z d v F → OwnL K H Z ds vs G → OwnL K H Z (d :: ds) (v :: vs) (F ++ G)
end
section
variable {K : PySem.W.Frag} {H H' Z Z' : Hp}
mutual
theorem Own.step (e : Ex Z Z') : ∀ {d : D} {v : V} {F : List Addr}, Own K H Z d v F → (∀ a ∈ F, ∀ o, H a = some o → H' a = some o) → Own K H' Z' d v F
  | _, _, _, .frz h, _ => .frz (h.mono e)
  | _, _, _, .lst h r, k => .lst (k _ List.mem_cons_self _ h) (OwnL.step e r fun a m => k a (List.mem_cons_of_mem _ m))
  | _, _, _, .tup h r, k => .tup (e _ _ h) (OwnL.step e r k)
  | _, _, _, .dK h r, k => .dK (k _ List.mem_cons_self _ h) (r.mono e)
  | _, _, _, .dT h r, k => .dT (k _ List.mem_cons_self _ h) (r.mono e)
  | _, _, _, .deep h, k => .deep (Own.step e h k)
theorem OwnL.step (e : Ex Z Z') : ∀ {d : List D} {v : List V} {F : List Addr}, OwnL K H Z d v F → (∀ a ∈ F, ∀ o, H a = some o → H' a = some o) → OwnL K H' Z' d v F
  | _, _, _, .nil, _ => .nil
  | _, _, _, .cons h r, k => .cons (Own.step e h fun a m => k a (List.mem_append_left _ m)) (OwnL.step e r fun a m => k a (List.mem_append_right _ m))
end
mutual
/-- its cells are frozen -/
theorem Own.freeze (e : Ex Z Z') : ∀ {d : D} {v : V} {F : List Addr}, Own K H Z d v F → (∀ a ∈ F, ∀ o, H a = some o → Z' a = some o) → Rep K Z' d v
  | _, _, _, .frz h, _ => h.mono e
  | _, _, _, .lst h r, k => .lst (k _ List.mem_cons_self _ h) (OwnL.freeze e r fun a m => k a (List.mem_cons_of_mem _ m))
  | _, _, _, .tup h r, k => .tup (e _ _ h) (OwnL.freeze e r k)
  | _, _, _, .dK h r, k => .dK (k _ List.mem_cons_self _ h) (r.mono e)
  | _, _, _, .dT h r, k => .dT (k _ List.mem_cons_self _ h) (r.mono e)
  | _, _, _, .deep h, k => .deep (Own.freeze e h k)
theorem OwnL.freeze (e : Ex Z Z') : ∀ {d : List D} {v : List V} {F : List Addr}, OwnL K H Z d v F → (∀ a ∈ F, ∀ o, H a = some o → Z' a = some o) → RepL K Z' d v
  | _, _, _, .nil, _ => .nil
  | _, _, _, .cons h r, k => .cons (Own.freeze e h fun a m => k a (List.mem_append_left _ m)) (OwnL.freeze e r fun a m => k a (List.mem_append_right _ m))
end
theorem Own.rep {d : D} {v : V} {F : List Addr} (e : Ex Z H) (h : Own K H Z d v F) : Rep K H d v := h.freeze e fun _ _ _ h => h
theorem OwnL.rep {d : List D} {v : List V} {F : List Addr} (e : Ex Z H) (h : OwnL K H Z d v F) : RepL K H d v := h.freeze e fun _ _ _ h => h
theorem OwnL.length : ∀ {ds : List D} {vs : List V} {F : List Addr}, OwnL K H Z ds vs F → ds.length = vs.length
  | _, _, _, .nil => rfl
  | _, _, _, .cons _ r => by rw [List.length_cons, List.length_cons, OwnL.length r]
theorem OwnL.of_rep : ∀ {ds : List D} {vs : List V}, RepL K Z ds vs → OwnL K H Z ds vs []
  | _, _, .nil => .nil
  | _, _, .cons h r => .cons (F := []) (.frz h) (OwnL.of_rep r)
theorem OwnL.append : ∀ {ds es : List D} {vs us : List V} {F G : List Addr}, OwnL K H Z ds vs F → OwnL K H Z es us G → OwnL K H Z (ds ++ es) (vs ++ us) (F ++ G)
  | _, _, _, _, _, _, .nil, r => r
  | _, _, _, _, _, _, .cons h t, r => by
    rw [List.append_assoc]
    exact .cons h (OwnL.append t r)
theorem OwnL.one {d : D} {v : V} {F : List Addr} (h : Own K H Z d v F) : OwnL K H Z [d] [v] F := by
  have := OwnL.cons h OwnL.nil
  rwa [List.append_nil] at this
theorem OwnL.get : ∀ {ds : List D} {vs : List V} {F : List Addr} {i : Nat} {d : D}, OwnL K H Z ds vs F → ds[i]? = some d → ∃ v G, vs[i]? = some v ∧ Own K H Z d v G ∧ ∀ a ∈ G, a ∈ F
  | _, _, _, 0, _, .cons h _, e => by cases e; exact ⟨_, _, rfl, h, fun a m => List.mem_append_left _ m⟩
  | _, _, _, i + 1, _, .cons _ r, e => by
    obtain ⟨v, G, h1, h2, h3⟩ := OwnL.get (i := i) r e
    exact ⟨v, G, h1, h2, fun a m => List.mem_append_right _ (h3 a m)⟩
end

/-! ### immutable data -/
mutual
def imm : D → Bool
  | .non | .bl _ | .int _ | .str _ | .scr _ | .opq _ | .nam _ _ | .xn _ _ _ | .tz _ => true
  | .tup xs => immL xs
  | .lst _ | .dK _ | .dT _ | .dTf _ | .deep _ | .fz _ => false
def immL : List D → Bool
  | [] => true
  | d :: ds => imm d && immL ds
end
section
variable {K : PySem.W.Frag} {H H' Z Z' : Hp}
mutual
theorem Own.imm : ∀ {d : D} {v : V} {F : List Addr}, Own K H Z d v F → imm d = true → Rep K Z d v
  | _, _, _, .frz h, _ => h
  | _, _, _, .lst h r, k => by simp [MM.imm] at k
  | _, _, _, .tup h r, k => .tup h (OwnL.imm r (by simpa [MM.imm] using k))
  | _, _, _, .dK h r, k => by simp [MM.imm] at k
  | _, _, _, .dT h r, k => by simp [MM.imm] at k
  | _, _, _, .deep h, k => by simp [MM.imm] at k
theorem OwnL.imm : ∀ {d : List D} {v : List V} {F : List Addr}, OwnL K H Z d v F → immL d = true → RepL K Z d v
  | _, _, _, .nil, _ => .nil
  | _, _, _, .cons h r, k => by
    have k' := k
    simp only [immL, Bool.and_eq_true] at k'
    exact .cons (Own.imm h k'.1) (OwnL.imm r k'.2)
end
end

/-! ### the frozen part of a heap -/
open Classical in
def Fz (B : Addr → Prop) (H : Hp) (F : List Addr) : Hp := fun b => if b ∈ F ∨ B b then none else H b
theorem fz_in {B : Addr → Prop} {H : Hp} {F : List Addr} {b : Addr} (h : b ∉ F) (hb : ¬ B b) : Fz B H F b = H b := by
  unfold Fz
  rw [if_neg (fun z => z.elim h hb)]
theorem fz_some {B : Addr → Prop} {H : Hp} {F : List Addr} {b : Addr} {o : HO} (h : Fz B H F b = some o) : H b = some o ∧ b ∉ F ∧ ¬ B b := by
  unfold Fz at h
  split at h
  · cases h
  · rename_i n
    exact ⟨h, fun z => n (.inl z), fun z => n (.inr z)⟩
theorem fz_ex (B : Addr → Prop) (H : Hp) (F : List Addr) : Ex (Fz B H F) H := fun _ _ h => (fz_some h).1
theorem fz_mk {B : Addr → Prop} {H H' : Hp} {F F' : List Addr} {B' : Addr → Prop} (h : ∀ b o, H b = some o → b ∉ F → ¬ B b → H' b = some o ∧ b ∉ F' ∧ ¬ B' b) : Ex (Fz B H F) (Fz B' H' F') := fun b o e => by
  obtain ⟨h1, h2, h3⟩ := fz_some e
  obtain ⟨q1, q2, q3⟩ := h b o h1 h2 h3
  rw [fz_in q2 q3]
  exact q1
theorem fz_congr {B B' : Addr → Prop} {H : Hp} {F F' : List Addr} (h : ∀ b, (b ∈ F ∨ B b) ↔ (b ∈ F' ∨ B' b)) : Fz B H F = Fz B' H F' := by
  funext b
  unfold Fz
  by_cases q : b ∈ F ∨ B b
  · rw [if_pos q, if_pos ((h b).mp q)]
  · rw [if_neg q, if_neg fun z => q ((h b).mpr z)]

/-! ### slots -/
mutual
/-- its mutable cells, counted -/
def mct : D → Nat
  | .lst ds => 1 + mctL ds
  | .tup ds => mctL ds
  | .dK _ | .dT _ => 1
  | .deep d => mct d
  | _ => 0
def mctL : List D → Nat
  | [] => 0
  | d :: ds => mct d + mctL ds
end
mutual
theorem Own.len {K : PySem.W.Frag} {H Z : Hp} : ∀ {d : D} {v : V} {F : List Addr}, Own K H Z d v F → F.length ≤ mct d
  | _, _, _, .frz _ => Nat.zero_le _
  | _, _, _, .lst _ r => by have := OwnL.len r; simp only [mct, List.length_cons]; omega
  | _, _, _, .tup _ r => by have := OwnL.len r; simp only [mct]; omega
  | _, _, _, .dK _ _ => by simp [mct]
  | _, _, _, .dT _ _ => by simp [mct]
  | _, _, _, .deep h => by have := Own.len h; simp only [mct]; omega
theorem OwnL.len {K : PySem.W.Frag} {H Z : Hp} : ∀ {d : List D} {v : List V} {F : List Addr}, OwnL K H Z d v F → F.length ≤ mctL d
  | _, _, _, .nil => Nat.zero_le _
  | _, _, _, .cons h r => by have := Own.len h; have := OwnL.len r; simp only [mctL, List.length_append]; omega
end
/-- a mutable object has its own cell -/
def Exl (d : D) (F : List Addr) : Prop := match d with
  | .lst _ | .dK _ | .dT _ => F ≠ []
  | .deep d => F.length = mct d ∧ F ≠ []
  | _ => True
abbrev St := L2.St
abbrev Env := List (Option (Bool × D))
inductive RelE (K : PySem.W.Frag) (H Z : Hp) : Env → St → List Addr → Prop
  | nil : RelE K H Z [] [] []
  | non {o : Option V} {env : Env} {σ : St} {F : List Addr} : RelE K H Z env σ F → RelE K H Z (none :: env) (o :: σ) F
  | fz {d : D} {v : V} {env : Env} {σ : St} {F : List Addr} : Rep K Z d v → RelE K H Z env σ F → RelE K H Z (some (false, d) :: env) (some v :: σ) F
  | ow {d : D} {v : V} {env : Env} {σ : St} {F G : List Addr} : Exl d F → Own K H Z d v F → RelE K H Z env σ G → RelE K H Z (some (true, d) :: env) (some v :: σ) (F ++ G)
section
variable {K : PySem.W.Frag} {H H' Z Z' : Hp}
theorem RelE.step (e : Ex Z Z') : ∀ {env : Env} {σ : St} {F : List Addr}, RelE K H Z env σ F → (∀ a ∈ F, ∀ o, H a = some o → H' a = some o) → RelE K H' Z' env σ F
  | _, _, _, .nil, _ => .nil
  | _, _, _, .non r, k => .non (RelE.step e r k)
  | _, _, _, .fz h r, k => .fz (h.mono e) (RelE.step e r k)
  | _, _, _, .ow x h r, k => .ow x (h.step e fun a m => k a (List.mem_append_left _ m)) (RelE.step e r fun a m => k a (List.mem_append_right _ m))
theorem RelE.length : ∀ {env : Env} {σ : St} {F : List Addr}, RelE K H Z env σ F → env.length = σ.length
  | _, _, _, .nil => rfl
  | _, _, _, .non r => by rw [List.length_cons, List.length_cons, RelE.length r]
  | _, _, _, .fz _ r => by rw [List.length_cons, List.length_cons, RelE.length r]
  | _, _, _, .ow _ _ r => by rw [List.length_cons, List.length_cons, RelE.length r]
/-- what a frozen slot holds -/
theorem RelE.fzAt : ∀ {env : Env} {σ : St} {F : List Addr} {i : Nat} {d : D}, RelE K H Z env σ F → env[i]? = some (some (false, d)) → ∃ v, σ[i]? = some (some v) ∧ Rep K Z d v
  | _, _, _, 0, _, .fz h _, e => by cases e; exact ⟨_, rfl, h⟩
  | _, _, _, i + 1, _, .non r, e => RelE.fzAt (i := i) r e
  | _, _, _, i + 1, _, .fz _ r, e => RelE.fzAt (i := i) r e
  | _, _, _, i + 1, _, .ow _ _ r, e => RelE.fzAt (i := i) r e
/-- what any slot holds -/
theorem RelE.anyAt : ∀ {env : Env} {σ : St} {F : List Addr} {i : Nat} {k : Bool} {d : D}, RelE K H Z env σ F → env[i]? = some (some (k, d)) → ∃ v G, σ[i]? = some (some v) ∧ Own K H Z d v G ∧ ∀ a ∈ G, a ∈ F
  | _, _, _, 0, _, _, .fz h _, e => by cases e; exact ⟨_, [], rfl, .frz h, nofun⟩
  | _, _, _, 0, _, _, .ow _ h _, e => by cases e; exact ⟨_, _, rfl, h, fun a m => List.mem_append_left _ m⟩
  | _, _, _, i + 1, _, _, .non r, e => RelE.anyAt (i := i) r e
  | _, _, _, i + 1, _, _, .fz _ r, e => RelE.anyAt (i := i) r e
  | _, _, _, i + 1, _, _, .ow _ _ r, e => by
    obtain ⟨v, G, h1, h2, h3⟩ := RelE.anyAt (i := i) r e
    exact ⟨v, G, h1, h2, fun a m => List.mem_append_right _ (h3 a m)⟩
end
end MM

set_option Elab.async false
set_option linter.all false
set_option maxRecDepth 100000
set_option maxHeartbeats 4000000
noncomputable section
namespace MM
open PySem PySem.Spec PyProof.Rows L2

structure Exn where
  cls : Str
  fld : Option (Str × Int)
inductive R (α : Type) where
  | ok (a : α) (env : Env) | ex (e : Exn) (env : Env) | no
abbrev M (α : Type) := Env → R α

/-! ### slots changed -/
section
variable {K : PySem.W.Frag} {H H' Z Z' : Hp}
theorem RelE.cut : ∀ {env : Env} {σ : St} {F : List Addr} {i : Nat}, RelE K H Z env σ F → i < env.length → ∃ F1 Fi F2, F = F1 ++ (Fi ++ F2) ∧
    (∀ d, env[i]? = some (some (true, d)) → ∃ v, σ[i]? = some (some v) ∧ Exl d Fi ∧ Own K H Z d v Fi) ∧
    ∀ H' Z', Ex Z Z' → (∀ a, a ∈ F1 ∨ a ∈ F2 → ∀ o, H a = some o → H' a = some o) →
      (∀ d' v' Fi', Exl d' Fi' → Own K H' Z' d' v' Fi' → RelE K H' Z' (env.set i (some (true, d'))) (σ.set i (some v')) (F1 ++ (Fi' ++ F2))) ∧
      (∀ d' v', Rep K Z' d' v' → RelE K H' Z' (env.set i (some (false, d'))) (σ.set i (some v')) (F1 ++ F2)) ∧
      ∀ o', RelE K H' Z' (env.set i none) (σ.set i o') (F1 ++ F2)
  | _, _, _, 0, .nil, h => absurd h (Nat.not_lt_zero _)
  | _, _, _, i + 1, .nil, h => absurd h (Nat.not_lt_zero _)
  | _, _, _, 0, .non (F := F) r, _ => by
    refine ⟨[], [], F, rfl, fun d e => by simp at e, fun H' Z' e k => ?_⟩
    have r' := r.step e fun a m => k a (.inr m)
    exact ⟨fun d v Fi x o => RelE.ow (F := Fi) x o r', fun d v o => .fz o r', fun o => .non r'⟩
  | _, _, _, 0, .fz (F := F) h r, _ => by
    refine ⟨[], [], F, rfl, fun d e => by simp at e, fun H' Z' e k => ?_⟩
    have r' := r.step e fun a m => k a (.inr m)
    exact ⟨fun d v Fi x o => RelE.ow (F := Fi) x o r', fun d v o => .fz o r', fun o => .non r'⟩
  | _, _, _, 0, .ow (F := F) (G := G) x h r, _ => by
    refine ⟨[], F, G, rfl, fun d e => by simp at e; subst e; exact ⟨_, rfl, x, h⟩, fun H' Z' e k => ?_⟩
    have r' := r.step e fun a m => k a (.inr m)
    exact ⟨fun d v Fi x o => RelE.ow (F := Fi) x o r', fun d v o => .fz o r', fun o => .non r'⟩
  | _, _, _, i + 1, .non r, h => by
    obtain ⟨F1, Fi, F2, e, s, g⟩ := RelE.cut (i := i) r (Nat.lt_of_succ_lt_succ h)
    refine ⟨F1, Fi, F2, e, s, fun H' Z' ez k => ?_⟩
    obtain ⟨g1, g2, g3⟩ := g H' Z' ez k
    exact ⟨fun d v Fi x o => .non (g1 d v Fi x o), fun d v o => .non (g2 d v o), fun o => .non (g3 o)⟩
  | _, _, _, i + 1, .fz q r, h => by
    obtain ⟨F1, Fi, F2, e, s, g⟩ := RelE.cut (i := i) r (Nat.lt_of_succ_lt_succ h)
    refine ⟨F1, Fi, F2, e, s, fun H' Z' ez k => ?_⟩
    obtain ⟨g1, g2, g3⟩ := g H' Z' ez k
    have q' := q.mono ez
    exact ⟨fun d v Fi x o => .fz q' (g1 d v Fi x o), fun d v o => .fz q' (g2 d v o), fun o => .fz q' (g3 o)⟩
  | _, _, _, i + 1, .ow (F := F0) x0 q r, h => by
    obtain ⟨F1, Fi, F2, e, s, g⟩ := RelE.cut (i := i) r (Nat.lt_of_succ_lt_succ h)
    refine ⟨F0 ++ F1, Fi, F2, by rw [e, List.append_assoc], s, fun H' Z' ez k => ?_⟩
    obtain ⟨g1, g2, g3⟩ := g H' Z' ez fun a m => k a (m.elim (fun m => .inl (List.mem_append_right _ m)) .inr)
    have q' := q.step ez fun a m => k a (.inl (List.mem_append_left _ m))
    refine ⟨fun d v Fi x o => ?_, fun d v o => ?_, fun o => ?_⟩
    · rw [List.append_assoc]; exact .ow x0 q' (g1 d v Fi x o)
    · rw [List.append_assoc]; exact .ow x0 q' (g2 d v o)
    · rw [List.append_assoc]; exact .ow x0 q' (g3 o)
end
theorem set_same {σ : St} {i : Nat} {v : V} (h : σ[i]? = some (some v)) : σ.set i (some v) = σ := by
  obtain ⟨hi, e⟩ := List.getElem?_eq_some_iff.mp h
  rw [← e]
  exact List.set_getElem_self hi

/-! ### the state -/
/-- a cell that is no tuple -/
def NT (o : Option HO) : Prop := o ≠ none ∧ (∀ ys, o ≠ some (.tup ys)) ∧ ∀ fs, o ≠ some (.xd fs)
structure Sta (K : PySem.W.Frag) (B : Addr → Prop) (env : Env) (σ : St) (H : Hp) (F : List Addr) : Prop where
  rel : RelE K H (Fz B H F) env σ F
  nd : F.Nodup
  liv : ∀ a ∈ F, NT (H a)
  bad : ∀ b, B b → NT (H b) ∧ b ∉ F
/-- with values in hand -/
structure StaL (K : PySem.W.Frag) (B : Addr → Prop) (env : Env) (σ : St) (H : Hp) (F : List Addr) (ds : List D) (vs : List V) (Fd : List Addr) : Prop where
  rel : RelE K H (Fz B H (F ++ Fd)) env σ F
  own : OwnL K H (Fz B H (F ++ Fd)) ds vs Fd
  nd : (F ++ Fd).Nodup
  liv : ∀ a ∈ F ++ Fd, NT (H a)
  bad : ∀ b, B b → NT (H b) ∧ b ∉ F ++ Fd
structure Nxt (H : Hp) (F : List Addr) (H' : Hp) (F' : List Addr) : Prop where
  fr : ∀ b o, H b = some o → b ∉ F → H' b = some o
  sub : ∀ a ∈ F', a ∈ F ∨ H a = none
abbrev Hid (B : Addr → Prop) (Fd : List Addr) : Addr → Prop := fun b => B b ∨ b ∈ Fd
section
variable {K : PySem.W.Frag} {B B' : Addr → Prop} {env env1 env2 : Env} {σ σ1 : St} {H H1 H2 : Hp} {F F1 F2 Fd Fs G G1 G2 : List Addr} {ds es : List D} {vs us : List V} {p : Addr} {o : HO}
theorem Nxt.refl : Nxt H F H F := ⟨fun _ _ h _ => h, fun _ h => .inl h⟩
theorem Nxt.none_of (N : Nxt H F H1 G) {a : Addr} (h : H1 a = none) : a ∈ F ∨ H a = none := by
  by_cases m : a ∈ F
  · exact .inl m
  · refine .inr ?_
    cases q : H a with
    | none => rfl
    | some o => rw [N.fr a o q m] at h; cases h
theorem Nxt.trans (N1 : Nxt H F H1 G1) (N2 : Nxt H1 F1 H2 G2) (s : ∀ a ∈ F1, a ∈ G1) : Nxt H F H2 G2 where
  fr := fun b o h hb => N2.fr b o (N1.fr b o h hb) fun z => (N1.sub b (s b z)).elim hb fun q => by rw [q] at h; cases h
  sub := fun a m => (N2.sub a m).elim (fun m => N1.sub a (s a m)) N1.none_of
theorem Nxt.weak (N : Nxt H F H1 G) (s : ∀ a ∈ G1, a ∈ G) : Nxt H F H1 G1 := ⟨N.fr, fun a m => N.sub a (s a m)⟩
theorem Nxt.more (N : Nxt H F H1 G) (N1 : Nxt H F H1 G1) : Nxt H F H1 (G ++ G1) := ⟨N.fr, fun a m => (List.mem_append.mp m).elim (N.sub a) (N1.sub a)⟩
theorem Nxt.grow (N : Nxt H F H1 G) (e : Ex H1 H2) : Nxt H F H2 G := ⟨fun b o h hb => e _ _ (N.fr b o h hb), N.sub⟩
theorem Nxt.ex (e : Ex H H1) : Nxt H F H1 F := ⟨fun b o h _ => e _ _ h, fun _ h => .inl h⟩
theorem Nxt.cons (N1 : Nxt H F H1 (F1 ++ Fd)) (N2 : Nxt H1 F1 H2 (F2 ++ Fs)) : Nxt H F H2 (F2 ++ (Fd ++ Fs)) where
  fr := (N1.trans N2 fun a m => List.mem_append_left _ m).fr
  sub := fun a m => by
    have t := (N1.trans N2 fun a m => List.mem_append_left _ m).sub a
    rcases List.mem_append.mp m with m | m
    · exact t (List.mem_append_left _ m)
    · rcases List.mem_append.mp m with m | m
      · exact N1.sub a (List.mem_append_right _ m)
      · exact t (List.mem_append_right _ m)

theorem Sta.nil (S : Sta K B env σ H F) : StaL K B env σ H F [] [] [] := by
  have e : F ++ [] = F := List.append_nil _
  exact ⟨by rw [e]; exact S.rel, .nil, by rw [e]; exact S.nd, by rw [e]; exact S.liv, by rw [e]; exact S.bad⟩
theorem Sta.rep (S : Sta K B env σ H F) (r : RepL K (Fz B H F) ds vs) : StaL K B env σ H F ds vs [] := by
  have e : F ++ [] = F := List.append_nil _
  exact ⟨by rw [e]; exact S.rel, by rw [e]; exact .of_rep r, by rw [e]; exact S.nd, by rw [e]; exact S.liv, by rw [e]; exact S.bad⟩
theorem Sta.imp (S : Sta K B' env σ H F) (h : ∀ b, B b → B' b) : Sta K B env σ H F :=
  ⟨S.rel.step (fz_mk fun b o e m n => ⟨e, m, fun z => n (h b z)⟩) fun _ _ _ h => h, S.nd, S.liv, fun b q => S.bad b (h b q)⟩
theorem StaL.imp (S : StaL K B' env σ H F ds vs Fd) (h : ∀ b, B b → B' b) : StaL K B env σ H F ds vs Fd := by
  have e : Ex (Fz B' H (F ++ Fd)) (Fz B H (F ++ Fd)) := fz_mk fun b o e m n => ⟨e, m, fun z => n (h b z)⟩
  exact ⟨S.rel.step e fun _ _ _ h => h, S.own.step e fun _ _ _ h => h, S.nd, S.liv, fun b q => S.bad b (h b q)⟩
/-- the values in hand hidden -/
theorem StaL.hide (S : StaL K B env σ H F ds vs Fd) : Sta K (Hid B Fd) env σ H F := by
  have nd := List.nodup_append.mp S.nd
  refine ⟨?_, nd.1, fun a m => S.liv a (List.mem_append_left _ m), fun b h => ?_⟩
  · rw [fz_congr (B' := B) (F' := F ++ Fd) fun b => ?_]
    · exact S.rel
    · show b ∈ F ∨ (B b ∨ b ∈ Fd) ↔ b ∈ F ++ Fd ∨ B b
      rw [List.mem_append, or_assoc, or_comm (a := B b)]
  · rcases h with h | h
    · exact ⟨(S.bad b h).1, fun z => (S.bad b h).2 (List.mem_append_left _ z)⟩
    · exact ⟨S.liv b (List.mem_append_right _ h), fun z => nd.2.2 b z b h rfl⟩
/-- let go: they are frozen -/
theorem StaL.freeze (S : StaL K B env σ H F ds vs Fd) : Sta K B env σ H F ∧ RepL K (Fz B H F) ds vs := by
  have nd := List.nodup_append.mp S.nd
  have e : Ex (Fz B H (F ++ Fd)) (Fz B H F) := fz_mk fun b o e m n => ⟨e, fun z => m (List.mem_append_left _ z), n⟩
  refine ⟨⟨S.rel.step e fun _ _ _ h => h, nd.1, fun a m => S.liv a (List.mem_append_left _ m), fun b h => ⟨(S.bad b h).1, fun z => (S.bad b h).2 (List.mem_append_left _ z)⟩⟩, S.own.freeze e fun a m o h => ?_⟩
  rw [fz_in (fun z => nd.2.2 a z a m rfl) fun z => (S.bad a z).2 (List.mem_append_right _ m)]
  exact h
theorem StaL.sta (S : StaL K B env σ H F ds vs Fd) : Sta K B env σ H F := S.freeze.1
theorem StaL.repZ (S : StaL K B env σ H F ds vs Fd) : RepL K (Fz B H F) ds vs := S.freeze.2
theorem StaL.repH (S : StaL K B env σ H F ds vs Fd) : RepL K H ds vs := S.own.rep (fz_ex _ _ _)
/-- values evaluated further -/
theorem StaL.cons (S1 : StaL K B env1 σ1 H1 F1 ds vs Fd) (S2 : StaL K (Hid B Fd) env2 σ H2 F2 es us Fs) (N : Nxt H1 F1 H2 (F2 ++ Fs)) : StaL K B env2 σ H2 F2 (ds ++ es) (vs ++ us) (Fd ++ Fs) := by
  have nd := List.nodup_append.mp S1.nd
  have ez : Fz B H2 (F2 ++ (Fd ++ Fs)) = Fz (Hid B Fd) H2 (F2 ++ Fs) := fz_congr fun b => by
    simp only [List.mem_append, Hid]
    constructor
    · rintro ((h | h | h) | h)
      · exact .inl (.inl h)
      · exact .inr (.inr h)
      · exact .inl (.inr h)
      · exact .inr (.inl h)
    · rintro ((h | h) | h | h)
      · exact .inl (.inl h)
      · exact .inl (.inr (.inr h))
      · exact .inr h
      · exact .inl (.inr (.inl h))
  have ex : Ex (Fz B H1 (F1 ++ Fd)) (Fz B H2 (F2 ++ (Fd ++ Fs))) := fz_mk fun b o e m n => by
    refine ⟨N.fr b o e fun z => m (List.mem_append_left _ z), fun z => ?_, n⟩
    have q : b ∈ F2 ++ Fs → False := fun z => (N.sub b z).elim (fun z => m (List.mem_append_left _ z)) fun z => by rw [z] at e; cases e
    rcases List.mem_append.mp z with z | z
    · exact q (List.mem_append_left _ z)
    · rcases List.mem_append.mp z with z | z
      · exact m (List.mem_append_right _ z)
      · exact q (List.mem_append_right _ z)
  refine ⟨by rw [ez]; exact S2.rel, .append (S1.own.step ex fun a m o h => N.fr a o h fun z => nd.2.2 a z a m rfl) (by rw [ez]; exact S2.own), ?_, fun a m => ?_, fun b h => ⟨(S2.bad b (.inl h)).1, fun z => ?_⟩⟩
  · have nd2 := List.nodup_append.mp S2.nd
    refine List.nodup_append.mpr ⟨nd2.1, List.nodup_append.mpr ⟨nd.2.1, nd2.2.1, fun a m b q e => ?_⟩, fun a m b q e => ?_⟩
    · subst e
      exact (S2.bad a (.inr m)).2 (List.mem_append_right _ q)
    · subst e
      rcases List.mem_append.mp q with q | q
      · exact (S2.bad a (.inr q)).2 (List.mem_append_left _ m)
      · exact nd2.2.2 a m a q rfl
  · rcases List.mem_append.mp m with m | m
    · exact S2.liv a (List.mem_append_left _ m)
    · rcases List.mem_append.mp m with m | m
      · exact (S2.bad a (.inr m)).1
      · exact S2.liv a (List.mem_append_right _ m)
  · rcases List.mem_append.mp z with z | z
    · exact (S2.bad b (.inl h)).2 (List.mem_append_left _ z)
    · rcases List.mem_append.mp z with z | z
      · exact (S1.bad b h).2 (List.mem_append_right _ z)
      · exact (S2.bad b (.inl h)).2 (List.mem_append_right _ z)
theorem StaL.sub0 (S : StaL K B env σ H F ds vs Fd) (h : H p = none) : p ∉ F ++ Fd ∧ ¬ B p := ⟨fun m => (S.liv p m).1 h, fun b => (S.bad p b).1.1 h⟩
/-- a new object beside -/
theorem StaL.new (S : StaL K B env σ H F ds vs Fd) (h : H p = none) : StaL K B env σ (upd H p o) F ds vs Fd := by
  have e := ex_new (o := o) h
  have ez : Ex (Fz B H (F ++ Fd)) (Fz B (upd H p o) (F ++ Fd)) := fz_mk fun b u q m n => ⟨e _ _ q, m, n⟩
  refine ⟨S.rel.step ez fun a _ u q => e _ _ q, S.own.step ez fun a _ u q => e _ _ q, S.nd, fun a m => ?_, fun b q => ⟨?_, (S.bad b q).2⟩⟩
  · rw [upd_ne (fun z => by subst z; exact (S.liv _ m).1 h)]
    exact S.liv a m
  · rw [upd_ne (fun z => by subst z; exact (S.bad _ q).1.1 h)]
    exact (S.bad b q).1
theorem Sta.new (S : Sta K B env σ H F) (h : H p = none) : Sta K B env σ (upd H p o) F := (S.nil.new h).sta
/-- a new list of the values in hand -/
theorem StaL.mkL (S : StaL K B env σ H F ds vs Fd) (h : H p = none) : StaL K B env σ (upd H p (.lst vs)) F [.lst ds] [.ref p] (p :: Fd) := by
  have S1 := S.new (o := .lst vs) h
  obtain ⟨hp, hb⟩ := S.sub0 h
  have ez : Ex (Fz B (upd H p (.lst vs)) (F ++ Fd)) (Fz B (upd H p (.lst vs)) (F ++ p :: Fd)) → True := fun _ => trivial
  have nd := List.nodup_append.mp S.nd
  have ex : Ex (Fz B H (F ++ Fd)) (Fz B (upd H p (.lst vs)) (F ++ p :: Fd)) := fz_mk fun b u q m n => by
    have np : b ≠ p := fun z => by subst z; rw [h] at q; cases q
    refine ⟨by rw [upd_ne np]; exact q, fun z => ?_, n⟩
    rcases List.mem_append.mp z with z | z
    · exact m (List.mem_append_left _ z)
    · rcases List.mem_cons.mp z with z | z
      · exact np z
      · exact m (List.mem_append_right _ z)
  have ek := ex_new (o := .lst vs) h
  refine ⟨S.rel.step ex fun a _ u q => ek _ _ q, .one (.lst upd_same (S.own.step ex fun a _ u q => ek _ _ q)), ?_, fun a m => ?_, fun b q => ⟨(S1.bad b q).1, fun z => ?_⟩⟩
  · refine List.nodup_append.mpr ⟨nd.1, List.nodup_cons.mpr ⟨fun m => hp (List.mem_append_right _ m), nd.2.1⟩, fun a m b q e => ?_⟩
    subst e
    rcases List.mem_cons.mp q with q | q
    · subst q; exact hp (List.mem_append_left _ m)
    · exact nd.2.2 a m a q rfl
  · rcases List.mem_append.mp m with m | m
    · exact S1.liv a (List.mem_append_left _ m)
    · rcases List.mem_cons.mp m with m | m
      · subst m; rw [upd_same]; exact ⟨nofun, nofun, nofun⟩
      · exact S1.liv a (List.mem_append_right _ m)
  · rcases List.mem_append.mp z with z | z
    · exact (S.bad b q).2 (List.mem_append_left _ z)
    · rcases List.mem_cons.mp z with z | z
      · subst z; exact hb q
      · exact (S.bad b q).2 (List.mem_append_right _ z)
/-- a new tuple of them -/
theorem StaL.mkT (S : StaL K B env σ H F ds vs Fd) (h : H p = none) : StaL K B env σ (upd H p (.tup vs)) F [.tup ds] [.ref p] Fd := by
  have S1 := S.new (o := .tup vs) h
  obtain ⟨hp, hb⟩ := S.sub0 h
  refine ⟨S1.rel, .one (.tup (vs := vs) (by rw [fz_in hp hb]; exact upd_same) S1.own), S1.nd, S1.liv, S1.bad⟩
theorem Nxt.add (N : Nxt H F H1 G) (h : H1 p = none) : Nxt H F (upd H1 p o) (p :: G) :=
  ⟨fun b u q m => ex_new h _ _ (N.fr b u q m), fun a m => (List.mem_cons.mp m).elim (fun e => by rw [e]; exact N.none_of h) (N.sub a)⟩
theorem Nxt.mkL (N : Nxt H F H1 (F1 ++ Fd)) (h : H1 p = none) : Nxt H F (upd H1 p o) (F1 ++ p :: Fd) :=
  (N.add h).weak fun a m => (List.mem_append.mp m).elim (fun m => List.mem_cons_of_mem _ (List.mem_append_left _ m)) fun m => (List.mem_cons.mp m).elim (fun e => e ▸ List.mem_cons_self) fun m => List.mem_cons_of_mem _ (List.mem_append_right _ m)
end
end MM

set_option Elab.async false
set_option linter.all false
set_option maxRecDepth 100000
set_option maxHeartbeats 4000000
noncomputable section
namespace MM
open PySem PySem.Spec PyProof.Rows L2

/-! ### what an expression does -/
def ExnAt (mg : Str → Option Value) (H : Hp) (e : Exn) (cls : Value) (dd : Option Addr) : Prop :=
  mg e.cls = some cls ∧ match e.fld with
    | none => dd = none
    | some (f, i) => ∃ a, dd = some a ∧ H a = some (.xd [(f, .int i)])
section
variable (K : PySem.W.Frag) (mg : Str → Option Value) (W : WX)
def ExP (B : Addr → Prop) (σ : St) (H : Hp) (F : List Addr) (e : Exn) (env' : Env) : Prop :=
  ∀ cls dd H' F', Sta K B env' σ H' F' → Nxt H F H' F' → ExnAt mg H' e cls dd → W cls dd σ H'
def PureP (p : Bool) (env env' : Env) (F F' : List Addr) (H H' : Hp) : Prop := p = true → env' = env ∧ F' = F ∧ Ex H H'
def EvE (p : Bool) (t : TE) (m : M D) : Prop := ∀ B env σ H F (Q : VK), Sta K B env σ H F → (match m env with
  | .ok d env' => ∀ v H' F' Fd, StaL K B env' σ H' F' [d] [v] Fd → Nxt H F H' (F' ++ Fd) → PureP p env env' F F' H H' → Q v H'
  | .ex e env' => ExP K mg W B σ H F e env'
  | .no => False) → t σ H Q
/-- .. whose answer is new -/
def EvN (p : Bool) (t : TE) (m : M D) : Prop := ∀ B env σ H F (Q : VK), Sta K B env σ H F → (match m env with
  | .ok d env' => ∀ v H' F' Fd, StaL K B env' σ H' F' [d] [v] Fd → Exl d Fd → Nxt H F H' (F' ++ Fd) → PureP p env env' F F' H H' → Q v H'
  | .ex e env' => ExP K mg W B σ H F e env'
  | .no => False) → t σ H Q
/-- arguments, to be kept -/
def EvA (p : Bool) (t : TA) (m : M (List D)) : Prop := ∀ B env σ H F (Q : List V → Hp → Prop), Sta K B env σ H F → (match m env with
  | .ok ds env' => ∀ vs H' F' Fd, StaL K B env' σ H' F' ds vs Fd → Nxt H F H' (F' ++ Fd) → PureP p env env' F F' H H' → Q vs H'
  | .ex e env' => ExP K mg W B σ H F e env'
  | .no => False) → t σ H Q
/-- arguments, to be read -/
def EvR (p : Bool) (t : TA) (m : M (List D)) : Prop := ∀ B env σ H F (Q : List V → Hp → Prop), Sta K B env σ H F → (match m env with
  | .ok ds env' => ∀ vs H' F', Sta K B env' σ H' F' → RepL K H' ds vs → Nxt H F H' F' → PureP p env env' F F' H H' → Q vs H'
  | .ex e env' => ExP K mg W B σ H F e env'
  | .no => False) → t σ H Q
/-- a place that is read -/
def EvT (t : TE) (m : Env → Option D) : Prop := ∀ B env σ H F (Q : VK) d, Sta K B env σ H F → m env = some d →
  (∀ v H' Fs, Ex H H' → Sta K B env σ H' F → Own K H' (Fz B H' F) d v Fs → (∀ a ∈ Fs, a ∈ F) → Q v H') → t σ H Q
/-- a test -/
def EvB (p : Bool) (t : TT) (m : M Bool) : Prop := ∀ B env σ H F (Q : Bool → Hp → Prop), Sta K B env σ H F → (match m env with
  | .ok b env' => ∀ H' F', Sta K B env' σ H' F' → Nxt H F H' F' → PureP p env env' F F' H H' → Q b H'
  | .ex e env' => ExP K mg W B σ H F e env'
  | .no => False) → t σ H Q
end

/-! ### the mirror's words -/
def rdM (i : Nat) (env : Env) : Option D := match env[i]? with
  | some (some (_, d)) => some d
  | _ => none
def vrM (i : Nat) : M D := fun env => match env[i]? with
  | some (some (false, d)) => .ok d env
  | _ => .no
def cM (d : D) : M D := fun env => .ok d env
def nilM : M (List D) := fun env => .ok [] env
def consM (m : M D) (ms : M (List D)) : M (List D) := fun env => match m env with
  | .ok d e1 => match ms e1 with
    | .ok ds e2 => .ok (d :: ds) e2
    | .ex e e2 => .ex e e2
    | .no => .no
  | .ex e e1 => .ex e e1
  | .no => .no
def consTM (m : Env → Option D) (ms : M (List D)) : M (List D) := fun env => match m env with
  | some d => match ms env with
    | .ok ds e2 => .ok (d :: ds) e2
    | .ex e e2 => .ex e e2
    | .no => .no
  | none => .no
def consNM (i : Nat) (ms : M (List D)) : M (List D) := fun env => match rdM i env with
  | some _ => match ms env with
    | .ok ds e2 => match rdM i e2 with
      | some d => .ok (d :: ds) e2
      | none => .no
    | .ex e e2 => .ex e e2
    | .no => .no
  | none => .no
/-- an operation on what was evaluated -/
def opM (f : List D → Option D) (ms : M (List D)) : M D := fun env => match ms env with
  | .ok ds e2 => match f ds with
    | some d => .ok d e2
    | none => .no
  | .ex e e2 => .ex e e2
  | .no => .no
def tstM (m : M D) : M Bool := fun env => match m env with
  | .ok (.bl b) e => .ok b e
  | .ok _ _ => .no
  | .ex e e2 => .ex e e2
  | .no => .no
def andM (a b : M Bool) : M Bool := fun env => match a env with
  | .ok true e => b e
  | r => r
def orM (a b : M Bool) : M Bool := fun env => match a env with
  | .ok false e => b e
  | r => r
def notM (a : M Bool) : M Bool := fun env => match a env with
  | .ok b e => .ok (!b) e
  | r => r
def ifM {α : Type} (c : M Bool) (a b : M α) : M α := fun env => match c env with
  | .ok true e => a e
  | .ok false e => b e
  | .ex e e2 => .ex e e2
  | .no => .no
def andVM (a b : M D) : M D := fun env => match a env with
  | .ok (.bl true) e => b e
  | .ok (.bl false) e => .ok (.bl false) e
  | .ok _ _ => .no
  | r => r
def orVM (a b : M D) : M D := fun env => match a env with
  | .ok (.bl false) e => b e
  | .ok (.bl true) e => .ok (.bl true) e
  | .ok _ _ => .no
  | r => r
def notVM (a : M D) : M D := fun env => match a env with
  | .ok (.bl b) e => .ok (.bl (!b)) e
  | .ok _ _ => .no
  | r => r
def immM (m : Env → Option D) : M D := fun env => match m env with
  | some d => if imm d then .ok d env else .no
  | none => .no

section
variable {K : PySem.W.Frag} {mg : Str → Option Value} {W : WX} {p q : Bool} {t t1 t2 ta tb : TE} {m m1 m2 : M D} {tA : TA} {ms : M (List D)} {i : Nat} {mt : Env → Option D}

theorem ExP.mono {B B' : Addr → Prop} {σ : St} {H H1 : Hp} {F F1 : List Addr} {e : Exn} {env' : Env} (h : ExP K mg W B σ H F e env') (N : ∀ H' F', Nxt H1 F1 H' F' → Nxt H F H' F') (hB : ∀ b, B b → B' b) : ExP K mg W B' σ H1 F1 e env' :=
  fun cls dd H' F' S n x => h cls dd H' F' (S.imp hB) (N H' F' n) x

theorem EvN.e (h : EvN K mg W p t m) : EvE K mg W p t m := fun B env σ H F Q S g => by
  refine h B env σ H F Q S ?_
  cases em : m env with
  | ok d e => rw [em] at g; exact fun v H' F' Fd s _ n pp => g v H' F' Fd s n pp
  | ex e e2 => rw [em] at g; exact g
  | no => rw [em] at g; exact g
theorem exl_imm {d : D} (h : imm d = true) (F : List Addr) : Exl d F := by
  cases d <;> first | trivial | (simp [imm] at h)
def imM (m : M D) : M D := fun env => match m env with
  | .ok d e => if imm d then .ok d e else .no
  | r => r
theorem en_imm (h : EvE K mg W p t m) : EvN K mg W p t (imM m) := fun B env σ H F Q S g => by
  refine h B env σ H F Q S ?_
  unfold imM at g
  cases em : m env with
  | ok d e =>
    rw [em] at g
    dsimp only at g
    by_cases hi : imm d = true
    · rw [if_pos hi] at g
      exact fun v H' F' Fd s n pp => g v H' F' Fd s (exl_imm hi _) n pp
    · rw [if_neg hi] at g
      exact g.elim
  | ex e e2 => rw [em] at g; exact g
  | no => rw [em] at g; exact g
/-- a frozen slot -/
theorem ev_var : EvE K mg W true (tVar i) (vrM i) := fun B env σ H F Q S h => by
  unfold vrM at h
  split at h
  · rename_i d env' e1 e2
    split at e2
    · rename_i d' e3
      cases e2
      obtain ⟨v, hv, r⟩ := S.rel.fzAt e3
      exact ⟨v, hv, h v H F [] (S.rep (.cons r .nil)) (by rw [List.append_nil]; exact .refl) fun _ => ⟨rfl, rfl, .refl _⟩⟩
    · cases e2
  · rename_i e1 e2
    split at e2 <;> cases e2
  · exact h.elim
theorem evt_var : EvT K (tVar i) (rdM i) := fun B env σ H F Q d S e h => by
  unfold rdM at e
  split at e
  · rename_i k d' e3
    cases e
    obtain ⟨v, G, hv, r, g⟩ := S.rel.anyAt e3
    exact ⟨v, hv, h v H G (.refl _) S r g⟩
  · cases e
theorem ev_c {d : D} {v : V} (h : ∀ Z, Rep K Z d v) : EvE K mg W true (tC v) (cM d) := fun B env σ H F Q S g =>
  g v H F [] (S.rep (.cons (h _) .nil)) (by rw [List.append_nil]; exact .refl) fun _ => ⟨rfl, rfl, .refl _⟩
theorem ev_int {z : Int} : EvE K mg W true (tC (.int z)) (cM (.int z)) := ev_c fun _ => .int z
theorem ev_bl {z : Bool} : EvE K mg W true (tC (.bl z)) (cM (.bl z)) := ev_c fun _ => .bl z
theorem ev_str {z : Str} : EvE K mg W true (tC (.str z)) (cM (.str z)) := ev_c fun _ => .str z
/-- any expression is a place to be read -/
theorem ev_imm (h : EvT K t mt) : EvE K mg W true t (immM mt) := fun B env σ H F Q S g => by
  unfold immM at g
  split at g
  · rename_i d env' e1
    split at e1
    · rename_i d' e2
      split at e1
      · rename_i hi
        cases e1
        exact h B env σ H F Q _ S e2 fun v H' Fs ex S' o _ => g v H' F [] (S'.rep (.cons (o.imm hi) .nil)) (by rw [List.append_nil]; exact .ex ex) fun _ => ⟨rfl, rfl, ex⟩
      · cases e1
    · cases e1
  · rename_i e1
    split at e1
    · split at e1 <;> cases e1
    · cases e1
  · exact g.elim

/-! ### lists of arguments -/
theorem ea_nil : EvA K mg W true tNil nilM := fun B env σ H F Q S h => h [] H F [] S.nil (by rw [List.append_nil]; exact .refl) fun _ => ⟨rfl, rfl, .refl _⟩
theorem ea_cons (h1 : EvE K mg W p t m) (h2 : EvA K mg W q tA ms) : EvA K mg W (p && q) (tCons t tA) (consM m ms) := fun B env σ H F Q S h => by
  unfold consM at h
  refine h1 B env σ H F _ S ?_
  split
  · rename_i d e1 em
    rw [em] at h
    dsimp only at h
    intro v H1 F1 Fd S1 N1 P1
    refine h2 (Hid B Fd) e1 σ H1 F1 _ S1.hide ?_
    split
    · rename_i ds e2 em2
      rw [em2] at h
      intro vs H2 F2 Fs S2 N2 P2
      have N2' : Nxt H1 F1 H2 (F2 ++ Fs) := N2
      refine h (v :: vs) H2 F2 (Fd ++ Fs) (S1.cons S2 N2') (N1.cons N2') fun hp => ?_
      obtain ⟨a1, a2, a3⟩ := P1 (by simp at hp; exact hp.1)
      obtain ⟨b1, b2, b3⟩ := P2 (by simp at hp; exact hp.2)
      exact ⟨b1.trans a1, b2.trans a2, a3.trans b3⟩
    · rename_i e e2 em2
      rw [em2] at h
      exact h.mono (fun H' F' n => N1.trans n fun a m => List.mem_append_left _ m) fun b z => .inl z
    · rename_i em2
      rw [em2] at h
      exact h
  · rename_i e e1 em
    rw [em] at h
    exact h
  · rename_i em
    rw [em] at h
    exact h
theorem er_nil : EvR K mg W true tNil nilM := fun B env σ H F Q S h => h [] H F S .nil .refl fun _ => ⟨rfl, rfl, .refl _⟩
theorem er_cons (h1 : EvE K mg W p t m) (h2 : EvR K mg W q tA ms) : EvR K mg W (p && q) (tCons t tA) (consM m ms) := fun B env σ H F Q S h => by
  unfold consM at h
  refine h1 B env σ H F _ S ?_
  split
  · rename_i d e1 em
    rw [em] at h
    dsimp only at h
    intro v H1 F1 Fd S1 N1 P1
    refine h2 (Hid B Fd) e1 σ H1 F1 _ S1.hide ?_
    split
    · rename_i ds e2 em2
      rw [em2] at h
      intro vs H2 F2 S2 r2 N2 P2
      have hN : Nxt H1 F1 H2 (F2 ++ []) := by rw [List.append_nil]; exact N2
      have S3 := S1.cons S2.nil hN
      have N3 := N1.cons hN
      have hv : Rep K H2 d v := by
        cases S3.repH with
        | cons r _ => exact r
      refine h (v :: vs) H2 F2 S3.sta (.cons hv r2) (N3.weak fun a m => List.mem_append_left _ m) fun hp => ?_
      obtain ⟨a1, a2, a3⟩ := P1 (by simp at hp; exact hp.1)
      obtain ⟨b1, b2, b3⟩ := P2 (by simp at hp; exact hp.2)
      exact ⟨b1.trans a1, b2.trans a2, a3.trans b3⟩
    · rename_i e e2 em2
      rw [em2] at h
      exact h.mono (fun H' F' n => N1.trans n fun a m => List.mem_append_left _ m) fun b z => .inl z
    · rename_i em2
      rw [em2] at h
      exact h
  · rename_i e e1 em
    rw [em] at h
    exact h
  · rename_i em
    rw [em] at h
    exact h
theorem er_consT (h1 : EvT K t mt) (h2 : EvR K mg W true tA ms) : EvR K mg W true (tCons t tA) (consTM mt ms) := fun B env σ H F Q S h => by
  unfold consTM at h
  cases e1 : mt env with
  | none => rw [e1] at h; exact h.elim
  | some d =>
    rw [e1] at h
    refine h1 B env σ H F _ d S e1 fun v H1 Fs ex S1 o _ => ?_
    refine h2 B env σ H1 F _ S1 ?_
    dsimp only at h
    split
    · rename_i ds e2 em2
      rw [em2] at h
      intro vs H2 F2 S2 r2 N2 P2
      obtain ⟨b1, b2, b3⟩ := P2 rfl
      subst b2
      exact h (v :: vs) H2 F2 S2 (.cons ((o.rep (fz_ex _ _ _)).mono b3) r2) ((Nxt.ex ex).trans N2 fun a m => m) fun _ => ⟨b1, rfl, ex.trans b3⟩
    · rename_i e e2 em2
      rw [em2] at h
      exact ExP.mono h (fun H' F' n => (Nxt.ex ex).trans n fun a m => m) fun b z => z
    · rename_i em2
      rw [em2] at h
      exact h
end
end MM

set_option Elab.async false
set_option linter.all false
set_option maxRecDepth 100000
set_option maxHeartbeats 4000000
noncomputable section
namespace MM
open PySem PySem.Spec PyProof.Rows L2

inductive Sc : D → V → Prop
  | non : Sc .non .non
  | bl (b : Bool) : Sc (.bl b) (.bl b)
  | int (i : Int) : Sc (.int i) (.int i)
  | str (x : Str) : Sc (.str x) (.str x)
theorem Sc.rep {K : PySem.W.Frag} {Z : Hp} {d : D} {v : V} (h : Sc d v) : Rep K Z d v := by
  cases h
  · exact .non
  · exact .bl _
  · exact .int _
  · exact .str _
/-- a relation on values keeps the word of a function on data: a flat answer -/
def OpS (K : PySem.W.Frag) (r : List V → Hp → VK → Prop) (f : List D → Option D) : Prop :=
  ∀ H ds vs (Q : VK) d, RepL K H ds vs → f ds = some d → (∀ v, Sc d v → Q v H) → r vs H Q
/-- any answer over frozen data -/
def OpG (K : PySem.W.Frag) (r : List V → Hp → VK → Prop) (f : List D → Option D) : Prop :=
  ∀ Z H ds vs (Q : VK) d, Ex Z H → RepL K Z ds vs → f ds = some d → (∀ v, Rep K Z d v → Q v H) →
    (∀ es p us, d = .lst es → H p = none → RepL K Z es us → Q (.ref p) (upd H p (.lst us))) →
    (∀ es p us, d = .tup es → H p = none → RepL K Z es us → Q (.ref p) (upd H p (.tup us))) →
    (∀ es p us, d = .dK es → H p = none → RepK K Z es us → Q (.ref p) (upd H p (.dK us))) →
    (∀ es p us, d = .dT es → H p = none → RepT K Z es us → Q (.ref p) (upd H p (.dT us))) → r vs H Q
/-- .. where a mutable answer is new -/
def OpN (K : PySem.W.Frag) (r : List V → Hp → VK → Prop) (f : List D → Option D) : Prop :=
  ∀ Z H ds vs (Q : VK) d, Ex Z H → RepL K Z ds vs → f ds = some d → (∀ v, Rep K Z d v → Exl d [] → Q v H) →
    (∀ es p us, d = .lst es → H p = none → RepL K Z es us → Q (.ref p) (upd H p (.lst us))) →
    (∀ es p us, d = .tup es → H p = none → RepL K Z es us → Q (.ref p) (upd H p (.tup us))) → r vs H Q
theorem OpN.g {K : PySem.W.Frag} {r : List V → Hp → VK → Prop} {f : List D → Option D} (h : OpN K r f) : OpG K r f :=
  fun Z H ds vs Q d e R hf q ql qt _ _ => h Z H ds vs Q d e R hf (fun v s _ => q v s) ql qt
theorem OpS.g {K : PySem.W.Frag} {r : List V → Hp → VK → Prop} {f : List D → Option D} (h : OpS K r f) : OpG K r f :=
  fun Z H ds vs Q d e R hf q _ _ _ _ => h H ds vs Q d (R.mono e) hf fun v s => q v s.rep

section
variable {K : PySem.W.Frag} {mg : Str → Option Value} {W : WX} {p q : Bool} {t t1 t2 ta tb : TE} {m m1 m2 : M D} {tA : TA} {ms : M (List D)} {i : Nat} {mt : Env → Option D} {r : List V → Hp → VK → Prop} {f : List D → Option D}

theorem ev_sc (hr : OpS K r f) (ha : EvR K mg W p tA ms) (ht : ∀ σ H Q, tA σ H (fun vs H' => r vs H' Q) → t σ H Q := by exact fun _ _ _ h => h) : EvE K mg W p t (opM f ms) := fun B env σ H F Q S h => by
  refine ht σ H Q (ha B env σ H F _ S ?_)
  unfold opM at h
  split
  · rename_i ds e2 em
    rw [em] at h
    dsimp only at h
    intro vs H2 F2 S2 r2 N2 P2
    cases ef : f ds with
    | none => rw [ef] at h; exact h.elim
    | some d =>
      rw [ef] at h
      dsimp only at h
      exact hr H2 ds vs Q d r2 ef fun v sc => h v H2 F2 [] (S2.rep (.cons sc.rep .nil)) (by rw [List.append_nil]; exact N2) P2
  · rename_i e e2 em
    rw [em] at h
    exact h
  · rename_i em
    rw [em] at h
    exact h
theorem ev_g (hr : OpG K r f) (ha : EvA K mg W p tA ms) (ht : ∀ σ H Q, tA σ H (fun vs H' => r vs H' Q) → t σ H Q := by exact fun _ _ _ h => h) : EvE K mg W p t (opM f ms) := fun B env σ H F Q S h => by
  refine ht σ H Q (ha B env σ H F _ S ?_)
  unfold opM at h
  split
  · rename_i ds e2 em
    rw [em] at h
    dsimp only at h
    intro vs H2 F2 Fd S1 N1 P2
    obtain ⟨S2, r2⟩ := S1.freeze
    have N2 : Nxt H F H2 F2 := N1.weak fun a m => List.mem_append_left _ m
    cases ef : f ds with
    | none => rw [ef] at h; exact h.elim
    | some d =>
      rw [ef] at h
      dsimp only at h
      have gro : ∀ {pp : Addr} {o : HO}, H2 pp = none → PureP p env e2 F F2 H (upd H2 pp o) := fun hp q => by
        obtain ⟨a1, a2, a3⟩ := P2 q
        exact ⟨a1, a2, a3.trans (ex_new hp)⟩
      refine hr _ H2 ds vs Q d (fz_ex B H2 F2) r2 ef (fun v rv => ?_) (fun es pp us e hp ru => ?_) (fun es pp us e hp ru => ?_) (fun es pp us e hp ru => ?_) (fun es pp us e hp ru => ?_)
      · exact h v H2 F2 [] (S2.rep (.cons rv .nil)) (by rw [List.append_nil]; exact N2) P2
      · subst e
        have S3 := (S2.rep ru).mkL hp
        exact h _ _ F2 [pp] S3 (Nxt.mkL (by rw [List.append_nil]; exact N2) hp) (gro hp)
      · subst e
        have S3 := (S2.rep ru).mkT hp
        exact h _ _ F2 [] S3 (by rw [List.append_nil]; exact N2.grow (ex_new hp)) (gro hp)
      · subst e
        have hn := (S2.nil.sub0 hp)
        rw [List.append_nil] at hn
        have S3 : Sta K B e2 σ (upd H2 pp (.dK us)) F2 := S2.new hp
        have e4 : Ex (Fz B H2 F2) (Fz B (upd H2 pp (.dK us)) F2) := fz_mk fun b o e m n => ⟨ex_new hp _ _ e, m, n⟩
        refine h _ _ F2 [] (S3.rep (.cons (.dK (by rw [fz_in hn.1 hn.2]; exact upd_same) (ru.mono e4)) .nil)) (by rw [List.append_nil]; exact N2.grow (ex_new hp)) (gro hp)
      · subst e
        have hn := (S2.nil.sub0 hp)
        rw [List.append_nil] at hn
        have S3 : Sta K B e2 σ (upd H2 pp (.dT us)) F2 := S2.new hp
        have e4 : Ex (Fz B H2 F2) (Fz B (upd H2 pp (.dT us)) F2) := fz_mk fun b o e m n => ⟨ex_new hp _ _ e, m, n⟩
        refine h _ _ F2 [] (S3.rep (.cons (.dT (by rw [fz_in hn.1 hn.2]; exact upd_same) (ru.mono e4)) .nil)) (by rw [List.append_nil]; exact N2.grow (ex_new hp)) (gro hp)
  · rename_i e e2 em
    rw [em] at h
    exact h
  · rename_i em
    rw [em] at h
    exact h
theorem en_n (hr : OpN K r f) (ha : EvA K mg W p tA ms) (ht : ∀ σ H Q, tA σ H (fun vs H' => r vs H' Q) → t σ H Q := by exact fun _ _ _ h => h) : EvN K mg W p t (opM f ms) := fun B env σ H F Q S h => by
  refine ht σ H Q (ha B env σ H F _ S ?_)
  unfold opM at h
  split
  · rename_i ds e2 em
    rw [em] at h
    dsimp only at h
    intro vs H2 F2 Fd S1 N1 P2
    obtain ⟨S2, r2⟩ := S1.freeze
    have N2 : Nxt H F H2 F2 := N1.weak fun a m => List.mem_append_left _ m
    cases ef : f ds with
    | none => rw [ef] at h; exact h.elim
    | some d =>
      rw [ef] at h
      dsimp only at h
      have gro : ∀ {pp : Addr} {o : HO}, H2 pp = none → PureP p env e2 F F2 H (upd H2 pp o) := fun hp q => by
        obtain ⟨a1, a2, a3⟩ := P2 q
        exact ⟨a1, a2, a3.trans (ex_new hp)⟩
      refine hr _ H2 ds vs Q d (fz_ex B H2 F2) r2 ef (fun v rv x => ?_) (fun es pp us e hp ru => ?_) (fun es pp us e hp ru => ?_)
      · exact h v H2 F2 [] (S2.rep (.cons rv .nil)) x (by rw [List.append_nil]; exact N2) P2
      · subst e
        exact h _ _ F2 [pp] ((S2.rep ru).mkL hp) (List.cons_ne_nil _ _) (Nxt.mkL (by rw [List.append_nil]; exact N2) hp) (gro hp)
      · subst e
        exact h _ _ F2 [] ((S2.rep ru).mkT hp) trivial (by rw [List.append_nil]; exact N2.grow (ex_new hp)) (gro hp)
  · rename_i e e2 em
    rw [em] at h
    exact h
  · rename_i em
    rw [em] at h
    exact h
/-- displays -/
def lstM (ms : M (List D)) : M D := opM (fun ds => haveI : Decidable (ds.length ≤ sizeLine) := Classical.propDecidable _; if ds.length ≤ sizeLine then some (.lst ds) else none) ms
def tupM (ms : M (List D)) : M D := opM (fun ds => haveI : Decidable (ds.length ≤ sizeLine) := Classical.propDecidable _; if ds.length ≤ sizeLine then some (.tup ds) else none) ms
theorem en_lst (ha : EvA K mg W p tA ms) : EvN K mg W p (tLst tA) (lstM ms) := fun B env σ H F Q S h => by
  refine ha B env σ H F _ S ?_
  unfold lstM opM at h
  split
  · rename_i ds e2 em
    rw [em] at h
    dsimp only at h
    intro vs H2 F2 Fd S1 N1 P2
    by_cases hz : ds.length ≤ sizeLine
    · rw [if_pos hz] at h
      refine ⟨by rw [← S1.own.length]; exact hz, fun pp hp => h _ _ F2 _ (S1.mkL hp) (List.cons_ne_nil _ _) (N1.mkL hp) fun q => ?_⟩
      obtain ⟨a1, a2, a3⟩ := P2 q
      exact ⟨a1, a2, a3.trans (ex_new hp)⟩
    · rw [if_neg hz] at h; exact h.elim
  · rename_i e e2 em
    rw [em] at h
    exact h
  · rename_i em
    rw [em] at h
    exact h
/-! ### truths -/
theorem eb_of (h : EvE K mg W p t m) : EvB K mg W p (tTest t) (tstM m) := fun B env σ H F Q S g => by
  refine h B env σ H F _ S ?_
  unfold tstM at g
  split
  · rename_i d e2 em
    rw [em] at g
    intro v H2 F2 Fd S1 N1 P2
    cases d with
    | bl b =>
      dsimp only at g
      cases S1.repZ with
      | cons r _ =>
        cases r
        exact ⟨b, rfl, g H2 F2 S1.sta (N1.weak fun a m => List.mem_append_left _ m) P2⟩
    | _ => exact g.elim
  · rename_i e e2 em
    rw [em] at g
    exact g
  · rename_i em
    rw [em] at g
    exact g
theorem eb_ofB (h : EvE K mg W p t m) : EvB K mg W p (tB t) (tstM m) := eb_of h
theorem eb_and {t u : TT} {a b : M Bool} (h1 : EvB K mg W p t a) (h2 : EvB K mg W q u b) : EvB K mg W (p && q) (tAnd t u) (andM a b) := fun B env σ H F Q S g => by
  refine h1 B env σ H F _ S ?_
  unfold andM at g
  split
  · rename_i c e2 em
    rw [em] at g
    intro H2 F2 S2 N2 P2
    cases c with
    | true =>
      dsimp only at g
      show u σ H2 Q
      refine h2 B e2 σ H2 F2 _ S2 ?_
      split
      · rename_i c' e3 em3
        rw [em3] at g
        intro H3 F3 S3 N3 P3
        refine g H3 F3 S3 (N2.trans N3 fun a m => m) fun hp => ?_
        obtain ⟨a1, a2, a3⟩ := P2 (by simp at hp; exact hp.1)
        obtain ⟨b1, b2, b3⟩ := P3 (by simp at hp; exact hp.2)
        exact ⟨b1.trans a1, b2.trans a2, a3.trans b3⟩
      · rename_i e e3 em3
        rw [em3] at g
        exact ExP.mono g (fun H' F' n => N2.trans n fun a m => m) fun b z => z
      · rename_i em3
        rw [em3] at g
        exact g
    | false =>
      dsimp only at g
      show Q false H2
      exact g H2 F2 S2 N2 fun hp => P2 (by simp at hp; exact hp.1)
  · rename_i e e2 em
    rw [em] at g
    exact g
  · rename_i em
    rw [em] at g
    exact g
theorem eb_or {t u : TT} {a b : M Bool} (h1 : EvB K mg W p t a) (h2 : EvB K mg W q u b) : EvB K mg W (p && q) (tOr t u) (orM a b) := fun B env σ H F Q S g => by
  refine h1 B env σ H F _ S ?_
  unfold orM at g
  split
  · rename_i c e2 em
    rw [em] at g
    intro H2 F2 S2 N2 P2
    cases c with
    | false =>
      dsimp only at g
      show u σ H2 Q
      refine h2 B e2 σ H2 F2 _ S2 ?_
      split
      · rename_i c' e3 em3
        rw [em3] at g
        intro H3 F3 S3 N3 P3
        refine g H3 F3 S3 (N2.trans N3 fun a m => m) fun hp => ?_
        obtain ⟨a1, a2, a3⟩ := P2 (by simp at hp; exact hp.1)
        obtain ⟨b1, b2, b3⟩ := P3 (by simp at hp; exact hp.2)
        exact ⟨b1.trans a1, b2.trans a2, a3.trans b3⟩
      · rename_i e e3 em3
        rw [em3] at g
        exact ExP.mono g (fun H' F' n => N2.trans n fun a m => m) fun b z => z
      · rename_i em3
        rw [em3] at g
        exact g
    | true =>
      dsimp only at g
      show Q true H2
      exact g H2 F2 S2 N2 fun hp => P2 (by simp at hp; exact hp.1)
  · rename_i e e2 em
    rw [em] at g
    exact g
  · rename_i em
    rw [em] at g
    exact g
theorem eb_not {t : TT} {a : M Bool} (h1 : EvB K mg W p t a) : EvB K mg W p (tNot t) (notM a) := fun B env σ H F Q S g => by
  refine h1 B env σ H F _ S ?_
  unfold notM at g
  split
  · rename_i c e2 em
    rw [em] at g
    exact g
  · rename_i e e2 em
    rw [em] at g
    exact g
  · rename_i em
    rw [em] at g
    exact g
theorem ev_notV (h1 : EvE K mg W p ta m) : EvE K mg W p (tNotV ta) (notVM m) := fun B env σ H F Q S g => by
  refine h1 B env σ H F _ S ?_
  unfold notVM at g
  split
  · rename_i d e2 em
    rw [em] at g
    intro v H2 F2 Fd S1 N1 P2
    cases d with
    | bl b =>
      dsimp only at g
      obtain ⟨S2, r⟩ := S1.freeze
      cases r with
      | cons r _ =>
        cases r
        exact ⟨b, rfl, g _ H2 F2 [] (S2.rep (.cons (.bl _) .nil)) (by rw [List.append_nil]; exact N1.weak fun a m => List.mem_append_left _ m) P2⟩
    | _ => exact g.elim
  · rename_i e e2 em
    rw [em] at g
    exact g
  · rename_i em
    rw [em] at g
    exact g
theorem ev_andV (h1 : EvE K mg W p ta m1) (h2 : EvE K mg W q tb m2) : EvE K mg W (p && q) (tAndV ta tb) (andVM m1 m2) := fun B env σ H F Q S g => by
  refine h1 B env σ H F _ S ?_
  unfold andVM at g
  split
  · rename_i d e2 em
    rw [em] at g
    intro v H2 F2 Fd S1 N1 P2
    obtain ⟨S2, r⟩ := S1.freeze
    have N2 : Nxt H F H2 F2 := N1.weak fun a m => List.mem_append_left _ m
    cases d with
    | bl b =>
      cases r with
      | cons r _ =>
        cases r
        refine ⟨b, rfl, ?_⟩
        cases b with
        | true =>
          dsimp only at g
          show tb σ H2 Q
          refine h2 B e2 σ H2 F2 _ S2 ?_
          split
          · rename_i c' e3 em3
            rw [em3] at g
            intro v3 H3 F3 Fd3 S3 N3 P3
            refine g v3 H3 F3 Fd3 S3 (N2.trans N3 fun a m => m) fun hp => ?_
            obtain ⟨a1, a2, a3⟩ := P2 (by simp at hp; exact hp.1)
            obtain ⟨b1, b2, b3⟩ := P3 (by simp at hp; exact hp.2)
            exact ⟨b1.trans a1, b2.trans a2, a3.trans b3⟩
          · rename_i e e3 em3
            rw [em3] at g
            exact ExP.mono g (fun H' F' n => N2.trans n fun a m => m) fun b z => z
          · rename_i em3
            rw [em3] at g
            exact g
        | false =>
          dsimp only at g
          show Q (.bl false) H2
          exact g _ H2 F2 [] (S2.rep (.cons (.bl _) .nil)) (by rw [List.append_nil]; exact N2) fun hp => P2 (by simp at hp; exact hp.1)
    | _ => exact g.elim
  · rename_i e e2 em
    rw [em] at g
    exact g
  · rename_i em
    rw [em] at g
    exact g
theorem ev_orV (h1 : EvE K mg W p ta m1) (h2 : EvE K mg W q tb m2) : EvE K mg W (p && q) (tOrV ta tb) (orVM m1 m2) := fun B env σ H F Q S g => by
  refine h1 B env σ H F _ S ?_
  unfold orVM at g
  split
  · rename_i d e2 em
    rw [em] at g
    intro v H2 F2 Fd S1 N1 P2
    obtain ⟨S2, r⟩ := S1.freeze
    have N2 : Nxt H F H2 F2 := N1.weak fun a m => List.mem_append_left _ m
    cases d with
    | bl b =>
      cases r with
      | cons r _ =>
        cases r
        refine ⟨b, rfl, ?_⟩
        cases b with
        | false =>
          dsimp only at g
          show tb σ H2 Q
          refine h2 B e2 σ H2 F2 _ S2 ?_
          split
          · rename_i c' e3 em3
            rw [em3] at g
            intro v3 H3 F3 Fd3 S3 N3 P3
            refine g v3 H3 F3 Fd3 S3 (N2.trans N3 fun a m => m) fun hp => ?_
            obtain ⟨a1, a2, a3⟩ := P2 (by simp at hp; exact hp.1)
            obtain ⟨b1, b2, b3⟩ := P3 (by simp at hp; exact hp.2)
            exact ⟨b1.trans a1, b2.trans a2, a3.trans b3⟩
          · rename_i e e3 em3
            rw [em3] at g
            exact ExP.mono g (fun H' F' n => N2.trans n fun a m => m) fun b z => z
          · rename_i em3
            rw [em3] at g
            exact g
        | true =>
          dsimp only at g
          show Q (.bl true) H2
          exact g _ H2 F2 [] (S2.rep (.cons (.bl _) .nil)) (by rw [List.append_nil]; exact N2) fun hp => P2 (by simp at hp; exact hp.1)
    | _ => exact g.elim
  · rename_i e e2 em
    rw [em] at g
    exact g
  · rename_i em
    rw [em] at g
    exact g
end
end MM

set_option Elab.async false
set_option linter.all false
set_option maxRecDepth 100000
set_option maxHeartbeats 4000000
noncomputable section
namespace MM
open PySem PySem.Spec PyProof.Rows L2

inductive RS where
  | nx (env : Env) | rt (d : D) (env : Env) | bk (env : Env) | ct (env : Env) | ex (e : Exn) (env : Env) | no
def Kp (ps : List Nat) (σ σ' : St) : Prop := ∀ i ∈ ps, σ'[i]? = σ[i]?
theorem Kp.refl {ps : List Nat} {σ : St} : Kp ps σ σ := fun _ _ => rfl
theorem Kp.trans {ps : List Nat} {σ σ1 σ2 : St} (a : Kp ps σ σ1) (b : Kp ps σ1 σ2) : Kp ps σ σ2 := fun i m => (b i m).trans (a i m)
theorem Kp.set {ps : List Nat} {σ : St} {i : Nat} {o : Option V} (h : i ∉ ps) : Kp ps σ (σ.set i o) := fun j m => List.getElem?_set_ne (fun e => h (by rw [e]; exact m))
section
variable (K : PySem.W.Frag) (mg : Str → Option Value) (W : WX) (ps : List Nat) (ro : Bool)
def NxP (B : Addr → Prop) (σ : St) (H : Hp) (F : List Addr) (env' : Env) (q : St → Hp → Prop) : Prop :=
  ∀ σ' H' F', Sta K B env' σ' H' F' → Nxt H F H' F' → Kp ps σ σ' → q σ' H'
def RtP (B : Addr → Prop) (σ : St) (H : Hp) (F : List Addr) (d : D) (env' : Env) (q : VK) : Prop :=
  ∀ v σ' H' F' Fd, StaL K B env' σ' H' F' [d] [v] Fd → (ro = true → Exl d Fd) → Nxt H F H' (F' ++ Fd) → Kp ps σ σ' → q v H'
def XsP (B : Addr → Prop) (σ : St) (H : Hp) (F : List Addr) (e : Exn) (env' : Env) : Prop :=
  ∀ cls dd σ' H' F', Sta K B env' σ' H' F' → Nxt H F H' F' → Kp ps σ σ' → ExnAt mg H' e cls dd → W cls dd σ' H'
def PostS (B : Addr → Prop) (σ : St) (H : Hp) (F : List Addr) (D : Ends) : RS → Prop
  | .nx env' => NxP K ps B σ H F env' D.nx
  | .bk env' => NxP K ps B σ H F env' D.bk
  | .ct env' => NxP K ps B σ H F env' D.ct
  | .rt d env' => RtP K ps ro B σ H F d env' D.rt
  | .ex e env' => XsP K mg W ps B σ H F e env'
  | .no => False
def EvS (t : TS) (m : Env → RS) : Prop := ∀ B env σ H F (D : Ends), Sta K B env σ H F → PostS K mg W ps ro B σ H F D (m env) → t D σ H
end

/-! ### the mirror's statements -/
abbrev MS := Env → RS
def seqM (a b : MS) : MS := fun env => match a env with
  | .nx e => b e
  | r => r
def nxM : MS := fun env => .nx env
def brM : MS := fun env => .bk env
def ctM : MS := fun env => .ct env
def retM (m : M D) : MS := fun env => match m env with
  | .ok d e => .rt d e
  | .ex e e2 => .ex e e2
  | .no => .no
def retNM : MS := fun env => .rt .non env
def ifS (c : M Bool) (a b : MS) : MS := fun env => match c env with
  | .ok true e => a e
  | .ok false e => b e
  | .ex e e2 => .ex e e2
  | .no => .no
/-- x = e: frozen, owned -/
def asgF (i : Nat) (m : M D) : MS := fun env => match m env with
  | .ok d e => .nx (e.set i (some (false, d)))
  | .ex e e2 => .ex e e2
  | .no => .no
def asgO (i : Nat) (m : M D) : MS := fun env => match m env with
  | .ok d e => .nx (e.set i (some (true, d)))
  | .ex e e2 => .ex e e2
  | .no => .no
def dropM (m : M D) : MS := fun env => match m env with
  | .ok _ e => .nx e
  | .ex e e2 => .ex e e2
  | .no => .no
/-- the slot frozen -/
def frzE (i : Nat) (env : Env) : Env := match env[i]? with
  | some (some (_, d)) => env.set i (some (false, d))
  | _ => env
def frzM (i : Nat) (a : MS) : MS := fun env => a (frzE i env)
def whM (test : M Bool) (body : MS) : Nat → MS
  | 0, _ => .no
  | n + 1, env => match test env with
    | .ok true e => match body e with
      | .nx e2 => whM test body n e2
      | .ct e2 => whM test body n e2
      | .bk e2 => .nx e2
      | r => r
    | .ok false e => .nx e
    | .ex e e2 => .ex e e2
    | .no => .no

section
variable {K : PySem.W.Frag} {mg : Str → Option Value} {W : WX} {ps : List Nat} {ro : Bool} {p q : Bool} {te : TE} {m : M D} {t u : TS} {a b : MS} {i : Nat} {tA : TA} {ms : M (List D)}

theorem PostS.mono {B : Addr → Prop} {σ σ1 : St} {H H1 : Hp} {F F1 : List Addr} {D : Ends} {r : RS} (h : PostS K mg W ps ro B σ H F D r) (N : ∀ H' F', Nxt H1 F1 H' F' → Nxt H F H' F') (kp : Kp ps σ σ1) : PostS K mg W ps ro B σ1 H1 F1 D r := by
  cases r with
  | nx e => exact fun σ' H' F' S n k => h σ' H' F' S (N _ _ n) (kp.trans k)
  | bk e => exact fun σ' H' F' S n k => h σ' H' F' S (N _ _ n) (kp.trans k)
  | ct e => exact fun σ' H' F' S n k => h σ' H' F' S (N _ _ n) (kp.trans k)
  | rt d e => exact fun v σ' H' F' Fd S x n k => h v σ' H' F' Fd S x (N _ _ n) (kp.trans k)
  | ex e e2 => exact fun c d σ' H' F' S n k x => h c d σ' H' F' S (N _ _ n) (kp.trans k) x
  | no => exact h
theorem ExP.xs {B : Addr → Prop} {σ : St} {H : Hp} {F : List Addr} {e : Exn} {env' : Env} (h : XsP K mg W ps B σ H F e env') : ExP K mg W B σ H F e env' :=
  fun cls dd H' F' S N x => h cls dd σ H' F' S N .refl x

theorem es_nx : EvS K mg W ps ro tNext nxM := fun B env σ H F D S h => h σ H F S .refl .refl
theorem es_seq (h1 : EvS K mg W ps ro t a) (h2 : EvS K mg W ps ro u b) : EvS K mg W ps ro (tSeq t u) (seqM a b) := fun B env σ H F D S h => by
  refine h1 B env σ H F _ S ?_
  unfold seqM at h
  cases em : a env with
  | nx e =>
    rw [em] at h
    exact fun σ' H' F' S' N k => h2 B e σ' H' F' D S' (h.mono (fun _ _ n => N.trans n fun a m => m) k)
  | bk e => rw [em] at h; exact h
  | ct e => rw [em] at h; exact h
  | rt d e => rw [em] at h; exact h
  | ex e e2 => rw [em] at h; exact h
  | no => rw [em] at h; exact h
theorem es_ret (h1 : EvE K mg W p te m) : EvS K mg W ps false (tRet te) (retM m) := fun B env σ H F D S h => by
  refine h1 B env σ H F _ S ?_
  unfold retM at h
  cases em : m env with
  | ok d e => rw [em] at h; exact fun v H' F' Fd S' N _ => h v σ H' F' Fd S' (fun z => nomatch z) N .refl
  | ex e e2 => rw [em] at h; exact .xs h
  | no => rw [em] at h; exact h
theorem es_retO (h1 : EvN K mg W p te m) : EvS K mg W ps ro (tRet te) (retM m) := fun B env σ H F D S h => by
  refine h1 B env σ H F _ S ?_
  unfold retM at h
  cases em : m env with
  | ok d e => rw [em] at h; exact fun v H' F' Fd S' x N _ => h v σ H' F' Fd S' (fun _ => x) N .refl
  | ex e e2 => rw [em] at h; exact .xs h
  | no => rw [em] at h; exact h
theorem es_drop (h1 : EvE K mg W p te m) : EvS K mg W ps ro (tDrop te) (dropM m) := fun B env σ H F D S h => by
  refine h1 B env σ H F _ S ?_
  unfold dropM at h
  cases em : m env with
  | ok d e => rw [em] at h; exact fun v H' F' Fd S' N _ => h σ H' F' S'.sta (N.weak fun a m => List.mem_append_left _ m) .refl
  | ex e e2 => rw [em] at h; exact .xs h
  | no => rw [em] at h; exact h
theorem es_if {c : TT} {mc : M Bool} (hc : EvB K mg W p c mc) (h1 : EvS K mg W ps ro t a) (h2 : EvS K mg W ps ro u b) : EvS K mg W ps ro (tIfS c t u) (ifS mc a b) := fun B env σ H F D S h => by
  refine hc B env σ H F _ S ?_
  unfold ifS at h
  cases em : mc env with
  | ok d e =>
    rw [em] at h
    intro H' F' S' N _
    cases d with
    | true => exact h1 B e σ H' F' D S' (h.mono (fun _ _ n => N.trans n fun a m => m) .refl)
    | false => exact h2 B e σ H' F' D S' (h.mono (fun _ _ n => N.trans n fun a m => m) .refl)
  | ex e e2 => rw [em] at h; exact .xs h
  | no => rw [em] at h; exact h

theorem Sta.lenE {B : Addr → Prop} {env : Env} {σ : St} {H : Hp} {F : List Addr} (S : Sta K B env σ H F) : env.length = σ.length := S.rel.length
/-- a slot gets a frozen value -/
theorem Sta.putF {B : Addr → Prop} {env : Env} {σ : St} {H : Hp} {F : List Addr} {d : D} {v : V} (S : Sta K B env σ H F) (r : Rep K (Fz B H F) d v) (hi : i < env.length) :
    ∃ F', Sta K B (env.set i (some (false, d))) (σ.set i (some v)) H F' ∧ ∀ a ∈ F', a ∈ F := by
  obtain ⟨F1, Fi, F2, eF, _, g⟩ := S.rel.cut hi
  have sub : ∀ a ∈ F1 ++ F2, a ∈ F := fun a m => by
    rw [eF]
    rcases List.mem_append.mp m with m | m
    · exact List.mem_append_left _ m
    · exact List.mem_append_right _ (List.mem_append_right _ m)
  have ex : Ex (Fz B H F) (Fz B H (F1 ++ F2)) := fz_mk fun b o e m n => ⟨e, fun z => m (sub b z), n⟩
  obtain ⟨_, g2, _⟩ := g H (Fz B H (F1 ++ F2)) ex fun _ _ _ h => h
  have nd := S.nd
  rw [eF] at nd
  refine ⟨F1 ++ F2, ⟨g2 d v (r.mono ex), ?_, fun a m => S.liv a (sub a m), fun b h => ⟨(S.bad b h).1, fun z => (S.bad b h).2 (sub b z)⟩⟩, sub⟩
  have n1 := List.nodup_append.mp nd
  have n2 := List.nodup_append.mp n1.2.1
  exact List.nodup_append.mpr ⟨n1.1, n2.2.1, fun a m b q => n1.2.2 a m b (List.mem_append_right _ q)⟩
/-- a slot gets an owned value -/
theorem StaL.putO {B : Addr → Prop} {env : Env} {σ : St} {H : Hp} {F Fd : List Addr} {d : D} {v : V} (S : StaL K B env σ H F [d] [v] Fd) (hx : Exl d Fd) (hi : i < env.length) :
    ∃ F', Sta K B (env.set i (some (true, d))) (σ.set i (some v)) H F' ∧ ∀ a ∈ F', a ∈ F ++ Fd := by
  obtain ⟨F1, Fi, F2, eF, _, g⟩ := S.rel.cut hi
  have sub : ∀ a ∈ F1 ++ (Fd ++ F2), a ∈ F ++ Fd := fun a m => by
    rw [eF]
    rcases List.mem_append.mp m with m | m
    · exact List.mem_append_left _ (List.mem_append_left _ m)
    · rcases List.mem_append.mp m with m | m
      · exact List.mem_append_right _ m
      · exact List.mem_append_left _ (List.mem_append_right _ (List.mem_append_right _ m))
  have ex : Ex (Fz B H (F ++ Fd)) (Fz B H (F1 ++ (Fd ++ F2))) := fz_mk fun b o e m n => ⟨e, fun z => m (sub b z), n⟩
  obtain ⟨g1, _, _⟩ := g H (Fz B H (F1 ++ (Fd ++ F2))) ex fun _ _ _ h => h
  have nd := S.nd
  have o : Own K H (Fz B H (F ++ Fd)) d v Fd := by
    have := S.own
    cases this with
    | @cons _ _ F' _ _ G' h t =>
      cases t
      rw [List.append_nil]
      rw [List.append_nil] at *
      exact h
  refine ⟨F1 ++ (Fd ++ F2), ⟨g1 d v Fd hx (o.step ex fun _ _ _ h => h), ?_, fun a m => S.liv a (sub a m), fun b h => ⟨(S.bad b h).1, fun z => (S.bad b h).2 (sub b z)⟩⟩, sub⟩
  have n0 := List.nodup_append.mp nd
  have n00 := n0.1
  rw [eF] at n00
  have n1 := List.nodup_append.mp n00
  have n2 := List.nodup_append.mp n1.2.1
  refine List.nodup_append.mpr ⟨n1.1, List.nodup_append.mpr ⟨n0.2.1, n2.2.1, fun a m b q e => ?_⟩, fun a m b q e => ?_⟩
  · subst e
    exact n0.2.2 a (by rw [eF]; exact List.mem_append_right _ (List.mem_append_right _ q)) a m rfl
  · subst e
    rcases List.mem_append.mp q with q | q
    · exact n0.2.2 a (by rw [eF]; exact List.mem_append_left _ m) a q rfl
    · exact n1.2.2 a m a (List.mem_append_right _ q) rfl
theorem es_asgF (h1 : EvE K mg W p te m) (hi : i ∉ ps) : EvS K mg W ps ro (tAsg te (gName i)) (asgF i m) := fun B env σ H F D S h => by
  refine h1 B env σ H F _ S ?_
  unfold asgF at h
  cases em : m env with
  | ok d e =>
    rw [em] at h
    intro v H' F' Fd S' N _
    show D.nx (σ.set i (some v)) H'
    obtain ⟨S2, r⟩ := S'.freeze
    have r1 : Rep K (Fz B H' F') d v := by
      cases r with
      | cons r _ => exact r
    by_cases hl : i < e.length
    · obtain ⟨F2, S3, sub⟩ := S2.putF (i := i) r1 hl
      exact h _ H' F2 S3 (N.weak fun a m => List.mem_append_left _ (sub a m)) (.set hi)
    · have e1 : e.set i (some (false, d)) = e := List.set_eq_of_length_le (by omega)
      have e2 : σ.set i (some v) = σ := List.set_eq_of_length_le (by rw [← S2.lenE]; omega)
      rw [e2]
      dsimp only at h
      rw [e1] at h
      exact h _ H' F' S2 (N.weak fun a m => List.mem_append_left _ m) .refl
  | ex e e2 => rw [em] at h; exact .xs h
  | no => rw [em] at h; exact h
theorem es_asgO (h1 : EvN K mg W p te m) (hi : i ∉ ps) : EvS K mg W ps ro (tAsg te (gName i)) (asgO i m) := fun B env σ H F D S h => by
  refine h1 B env σ H F _ S ?_
  unfold asgO at h
  cases em : m env with
  | ok d e =>
    rw [em] at h
    intro v H' F' Fd S' hx N _
    show D.nx (σ.set i (some v)) H'
    by_cases hl : i < e.length
    · obtain ⟨F2, S3, sub⟩ := S'.putO (i := i) hx hl
      exact h _ H' F2 S3 (N.weak sub) (.set hi)
    · have e1 : e.set i (some (true, d)) = e := List.set_eq_of_length_le (by omega)
      have e2 : σ.set i (some v) = σ := List.set_eq_of_length_le (by rw [← S'.sta.lenE]; omega)
      rw [e2]
      dsimp only at h
      rw [e1] at h
      exact h _ H' F' S'.sta (N.weak fun a m => List.mem_append_left _ m) .refl
  | ex e e2 => rw [em] at h; exact .xs h
  | no => rw [em] at h; exact h
/-- a ghost: the slot is frozen ahead of a statement -/
theorem Sta.frz {B : Addr → Prop} {env : Env} {σ : St} {H : Hp} {F : List Addr} (S : Sta K B env σ H F) (i : Nat) : ∃ F', Sta K B (frzE i env) σ H F' ∧ ∀ a ∈ F', a ∈ F := by
  unfold frzE
  split
  · rename_i k d e
    obtain ⟨hl, _⟩ := List.getElem?_eq_some_iff.mp e
    obtain ⟨F1, Fi, F2, eF, sl, g⟩ := S.rel.cut hl
    have sub : ∀ a ∈ F1 ++ F2, a ∈ F := fun a m => by
      rw [eF]
      rcases List.mem_append.mp m with m | m
      · exact List.mem_append_left _ m
      · exact List.mem_append_right _ (List.mem_append_right _ m)
    have ex : Ex (Fz B H F) (Fz B H (F1 ++ F2)) := fz_mk fun b o e m n => ⟨e, fun z => m (sub b z), n⟩
    have nd := S.nd
    rw [eF] at nd
    have n1 := List.nodup_append.mp nd
    have n2 := List.nodup_append.mp n1.2.1
    cases k with
    | false =>
      refine ⟨F, ?_, fun a m => m⟩
      obtain ⟨hl', e'⟩ := List.getElem?_eq_some_iff.mp e
      have e3 : env.set i (some (false, d)) = env := by
        rw [← e']
        exact List.set_getElem_self hl'
      rw [e3]
      exact S
    | true =>
      obtain ⟨v, hv, _, o⟩ := sl d e
      obtain ⟨_, g2, _⟩ := g H (Fz B H (F1 ++ F2)) ex fun _ _ _ h => h
      have r : Rep K (Fz B H (F1 ++ F2)) d v := o.freeze ex fun a m u hu => by
        rw [fz_in (fun z => ?_) (fun z => (S.bad a z).2 (by rw [eF]; exact List.mem_append_right _ (List.mem_append_left _ m)))]
        · exact hu
        · rcases List.mem_append.mp z with z | z
          · exact n1.2.2 a z a (List.mem_append_left _ m) rfl
          · exact n2.2.2 a m a z rfl
      have g3 := g2 d v r
      rw [set_same hv] at g3
      exact ⟨F1 ++ F2, ⟨g3, List.nodup_append.mpr ⟨n1.1, n2.2.1, fun a m b q => n1.2.2 a m b (List.mem_append_right _ q)⟩, fun a m => S.liv a (sub a m), fun b h => ⟨(S.bad b h).1, fun z => (S.bad b h).2 (sub b z)⟩⟩, sub⟩
  · exact ⟨F, S, fun a m => m⟩
theorem es_frz (i : Nat) (h1 : EvS K mg W ps ro t a) : EvS K mg W ps ro t (frzM i a) := fun B env σ H F D S h => by
  obtain ⟨F', S', sub⟩ := S.frz i
  exact h1 B _ σ H F' D S' (PostS.mono h (fun H2 F2 n => ⟨fun b o e m => n.fr b o e fun z => m (sub b z), fun a m => (n.sub a m).elim (fun z => .inl (sub a z)) .inr⟩) .refl)
/-- while -/
theorem es_while {tt : TT} {mc : M Bool} (n : Nat) (hc : EvB K mg W p tt mc) (hb : EvS K mg W ps ro t a) : EvS K mg W ps ro (tWhile tt t) (whM mc a n) := fun B env σ H F D S h => by
  refine ⟨fun k σ1 H1 => ∃ F1 env1, Sta K B env1 σ1 H1 F1 ∧ Nxt H F H1 F1 ∧ Kp ps σ σ1 ∧ PostS K mg W ps ro B σ1 H1 F1 D (whM mc a k env1), ⟨n, F, env, S, .refl, .refl, h⟩, ?_⟩
  rintro k σ1 H1 ⟨F1, env1, S1, N1, k1, h1⟩
  cases k with
  | zero => exact h1.elim
  | succ k =>
    unfold whM at h1
    refine hc B env1 σ1 H1 F1 _ S1 ?_
    cases em : mc env1 with
    | ok c e =>
      rw [em] at h1
      intro H2 F2 S2 N2 _
      cases c with
      | false =>
        rw [if_neg Bool.false_ne_true]
        exact h1 σ1 H2 F2 S2 N2 .refl
      | true =>
        rw [if_pos rfl]
        dsimp only at h1
        refine ⟨_, fun σ' H' n' => n', hb B e σ1 H2 F2 _ S2 ?_⟩
        have go : ∀ {e3 : Env}, PostS K mg W ps ro B σ1 H1 F1 D (whM mc a k e3) → NxP K ps B σ1 H2 F2 e3 (fun σ' H' => ∃ m', m' < k + 1 ∧ ∃ F1 env1, Sta K B env1 σ' H' F1 ∧ Nxt H F H' F1 ∧ Kp ps σ σ' ∧ PostS K mg W ps ro B σ' H' F1 D (whM mc a m' env1)) := fun {e3} h3 σ' H' F' S' N' kp =>
          ⟨k, Nat.lt_succ_self k, F', e3, S', N1.trans (N2.trans N' fun a m => m) fun a m => m, k1.trans kp, h3.mono (fun _ _ n => N2.trans (N'.trans n fun a m => m) fun a m => m) kp⟩
        cases em2 : a e with
        | nx e3 => rw [em2] at h1; exact go h1
        | ct e3 => rw [em2] at h1; exact go h1
        | bk e3 => rw [em2] at h1; exact fun σ' H' F' S' N' kp => h1 σ' H' F' S' (N2.trans N' fun a m => m) kp
        | rt d e3 => rw [em2] at h1; exact fun v σ' H' F' Fd S' x N' kp => h1 v σ' H' F' Fd S' x (N2.trans N' fun a m => m) kp
        | ex e4 e3 => rw [em2] at h1; exact fun c d σ' H' F' S' N' kp x => h1 c d σ' H' F' S' (N2.trans N' fun a m => m) kp x
        | no => rw [em2] at h1; exact h1
    | ex e e2 => rw [em] at h1; exact .xs h1
    | no => rw [em] at h1; exact h1
end
end MM

set_option Elab.async false
set_option linter.all false
set_option maxRecDepth 100000
set_option maxHeartbeats 4000000
noncomputable section
namespace MM
open PySem PySem.Spec PyProof.Rows L2

theorem nd_swap {F1 Fr Fc Fa F' Fd : List Addr} {l : Addr} (h : ((F1 ++ ((l :: Fc) ++ Fr)) ++ Fa).Nodup) (h1 : (F' ++ Fd).Nodup) (h2 : ∀ a ∈ F' ++ Fd, a ∈ Fc ++ Fa) : ((F1 ++ ((l :: F') ++ Fr)) ++ Fd).Nodup := by
  simp only [List.nodup_append, List.nodup_cons, List.mem_append, List.mem_cons, List.cons_append] at *
  grind
section
variable {K : PySem.W.Frag} {mg : Str → Option Value} {W : WX} {ps : List Nat} {ro : Bool} {p q : Bool} {te : TE} {m : M D} {i : Nat} {tA : TA} {ms : M (List D)}
  {B : Addr → Prop} {env : Env} {σ : St} {H H0 : Hp} {F F0 Fa : List Addr} {as : List D} {us : List V}
theorem Own.top {K : PySem.W.Frag} {H Z : Hp} {ds : List D} {v : V} {F : List Addr} (o : Own K H Z (.lst ds) v F) (x : Exl (.lst ds) F) : ∃ a vs G, v = .ref a ∧ H a = some (.lst vs) ∧ F = a :: G ∧ OwnL K H Z ds vs G := by
  cases o with
  | frz _ => exact (x rfl).elim
  | lst h r => exact ⟨_, _, _, rfl, h, rfl, r⟩
theorem Own.topK {K : PySem.W.Frag} {H Z : Hp} {ds : List (Key × D)} {v : V} {F : List Addr} (o : Own K H Z (.dK ds) v F) (x : Exl (.dK ds) F) : ∃ a vs, v = .ref a ∧ H a = some (.dK vs) ∧ F = [a] ∧ RepK K Z ds vs := by
  cases o with
  | frz _ => exact (x rfl).elim
  | dK h r => exact ⟨_, _, rfl, h, rfl, r⟩
theorem Own.topT {K : PySem.W.Frag} {H Z : Hp} {ds : List (List Key × D)} {v : V} {F : List Addr} (o : Own K H Z (.dT ds) v F) (x : Exl (.dT ds) F) : ∃ a vs, v = .ref a ∧ H a = some (.dT vs) ∧ F = [a] ∧ RepT K Z ds vs := by
  cases o with
  | frz _ => exact (x rfl).elim
  | dT h r => exact ⟨_, _, rfl, h, rfl, r⟩
/-- a mutable slot: its cell, and the slot changed -/
theorem StaL.mutL (S : StaL K B env σ H F as us Fa) {ds : List D} (hi : env[i]? = some (some (true, .lst ds))) : ∃ l vs Fc, σ[i]? = some (some (.ref l)) ∧ H l = some (.lst vs) ∧
    OwnL K H (Fz B H (F ++ Fa)) ds vs Fc ∧ (Fc ++ Fa).Nodup ∧ l ∉ Fc ++ Fa ∧ l ∈ F ∧ ∀ es vs' d v F' Fd, OwnL K H (Fz B H (F ++ Fa)) es vs' F' → Own K H (Fz B H (F ++ Fa)) d v Fd → (F' ++ Fd).Nodup →
      (∀ a ∈ F' ++ Fd, a ∈ Fc ++ Fa) → ∃ F3, StaL K B (env.set i (some (true, .lst es))) σ (upd H l (.lst vs')) F3 [d] [v] Fd ∧ ∀ a ∈ F3 ++ Fd, a ∈ F ++ Fa := by
  obtain ⟨hl, _⟩ := List.getElem?_eq_some_iff.mp hi
  obtain ⟨F1, Fi, F2, eF, sl, g⟩ := S.rel.cut hl
  obtain ⟨v0, hv, x0, o0⟩ := sl _ hi
  obtain ⟨l, vs, Fc, rfl, hH, rfl, oc⟩ := o0.top x0
  have nd := S.nd
  rw [eF] at nd
  have nl : l ∉ F1 ∧ l ∉ F2 ∧ l ∉ Fc ∧ l ∉ Fa := by
    simp only [List.nodup_append, List.nodup_cons, List.mem_append, List.mem_cons, List.cons_append] at nd
    grind
  have lF : l ∈ F := by rw [eF]; simp
  refine ⟨l, vs, Fc, hv, hH, oc, ?_, ?_, lF, fun es vs' d v F' Fd o1 o2 n2 sb => ?_⟩
  · simp only [List.nodup_append, List.nodup_cons, List.mem_append, List.mem_cons, List.cons_append] at *
    grind
  · simp only [List.mem_append, not_or]
    exact ⟨nl.2.2.1, nl.2.2.2⟩
  · have nd3 := nd_swap nd n2 sb
    have sub : ∀ a ∈ (F1 ++ ((l :: F') ++ F2)) ++ Fd, a ∈ F ++ Fa := fun a m => by
      have := sb a
      rw [eF]
      simp only [List.mem_append, List.mem_cons, List.cons_append] at *
      grind
    have lnotF' : l ∉ F' ++ Fd := fun z => by
      have := sb l z
      simp only [List.mem_append] at this
      exact this.elim nl.2.2.1 nl.2.2.2
    have ex : Ex (Fz B H (F ++ Fa)) (Fz B (upd H l (.lst vs')) ((F1 ++ ((l :: F') ++ F2)) ++ Fd)) := fz_mk fun b o e m n => by
      have nb : b ≠ l := fun z => m (by rw [z]; exact List.mem_append_left _ lF)
      exact ⟨by rw [upd_ne nb]; exact e, fun z => m (sub b z), n⟩
    have kp : ∀ a, a ≠ l → ∀ o, H a = some o → (upd H l (.lst vs')) a = some o := fun a n o h => by rw [upd_ne n]; exact h
    obtain ⟨g1, _, _⟩ := g (upd H l (.lst vs')) (Fz B (upd H l (.lst vs')) ((F1 ++ ((l :: F') ++ F2)) ++ Fd)) ex fun a m o h => kp a (fun z => by subst z; exact m.elim nl.1 nl.2.1) o h
    have r1 := g1 (.lst es) (.ref l) (l :: F') (List.cons_ne_nil _ _) (.lst upd_same (o1.step ex fun a m o h => kp a (fun z => by subst z; exact lnotF' (List.mem_append_left _ m)) o h))
    rw [set_same hv] at r1
    refine ⟨F1 ++ ((l :: F') ++ F2), ⟨r1, .one (o2.step ex fun a m o h => kp a (fun z => by subst z; exact lnotF' (List.mem_append_right _ m)) o h), nd3, fun a m => ?_, fun b q => ⟨?_, fun z => (S.bad b q).2 (sub b z)⟩⟩, sub⟩
    · by_cases e : a = l
      · subst e; rw [upd_same]; exact ⟨nofun, nofun, nofun⟩
      · rw [upd_ne e]; exact S.liv a (sub a m)
    · by_cases e : b = l
      · subst e; rw [upd_same]; exact ⟨nofun, nofun, nofun⟩
      · rw [upd_ne e]; exact (S.bad b q).1
theorem Nxt.mut {G G1 : List Addr} {l : Addr} {o : HO} (N : Nxt H0 F0 H G) (hl : l ∈ G) (s : ∀ a ∈ G1, a ∈ G) : Nxt H0 F0 (upd H l o) G1 := by
  refine ⟨fun b u e m => ?_, fun a m => N.sub a (s a m)⟩
  have nb : b ≠ l := fun z => by
    subst z
    exact (N.sub b hl).elim m fun z => by rw [z] at e; cases e
  rw [upd_ne nb]
  exact N.fr b u e m
/-- what a method of a list does to its items -/
def MutL (K : PySem.W.Frag) (r : V → List V → Hp → VK → Prop) (f : List D → List D → Option (List D × D)) : Prop :=
  ∀ H Z l ds vs Fc as us Fa (Q : VK) es d, Ex Z H → H l = some (.lst vs) → OwnL K H Z ds vs Fc → OwnL K H Z as us Fa → (Fc ++ Fa).Nodup → l ∉ Fc ++ Fa → f ds as = some (es, d) →
    (∀ vs' v F' Fd, OwnL K H Z es vs' F' → Own K H Z d v Fd → (F' ++ Fd).Nodup → (∀ a ∈ F' ++ Fd, a ∈ Fc ++ Fa) → Q v (upd H l (.lst vs'))) → r (.ref l) us H Q
def mutM (i : Nat) (f : List D → List D → Option (List D × D)) (ms : M (List D)) : M D := fun env => match env[i]? with
  | some (some (true, .lst _)) => match ms env with
    | .ok as e2 => match e2[i]? with
      | some (some (true, .lst ds)) => match f ds as with
        | some (es, d) => .ok d (e2.set i (some (true, .lst es)))
        | none => .no
      | _ => .no
    | .ex e e2 => .ex e e2
    | .no => .no
  | _ => .no
theorem ev_mut {r : V → List V → Hp → VK → Prop} {f : List D → List D → Option (List D × D)} {t : TE} (hr : MutL K r f) (ha : EvA K mg W p tA ms)
    (ht : ∀ σ H Q, (∃ v, σ[i]? = some (some v) ∧ tyV K "list" v H ∧ tA σ H fun us H1 => r v us H1 Q) → t σ H Q := by exact fun _ _ _ h => h) : EvE K mg W false t (mutM i f ms) := fun B env σ H F Q S h => by
  unfold mutM at h
  split at h
  · rename_i d env' em0
    split at em0
    · rename_i ds0 ei
      obtain ⟨l, vs, Fc, hv, hH, _, _, _, lF, _⟩ := S.nil.mutL ei
      refine ht σ H Q ⟨.ref l, hv, .inl ⟨rfl, vs, .of hH⟩, ha B env σ H F _ S ?_⟩
      split at em0
      · rename_i as e2 em
        try rw [em]
        split at em0
        · rename_i ds ei2
          split at em0
          · rename_i es d' ef
            cases em0
            intro us H2 F2 Fa S2 N2 _
            obtain ⟨l2, vs2, Fc2, hv2, hH2, oc, ndc, nl, lF2, go⟩ := S2.mutL ei2
            rw [hv] at hv2
            cases hv2
            refine hr H2 _ l ds vs2 Fc2 as us Fa Q es d (fz_ex _ _ _) hH2 oc S2.own ndc nl ef fun vs' v F' Fd o1 o2 n2 sb => ?_
            obtain ⟨F3, S3, s3⟩ := go es vs' d v F' Fd o1 o2 n2 sb
            exact h v _ F3 Fd S3 (N2.mut (List.mem_append_left _ lF2) s3) (fun z => nomatch z)
          · cases em0
        · cases em0
      · cases em0
      · cases em0
    · cases em0
  · rename_i e env' em0
    split at em0
    · rename_i ds0 ei
      obtain ⟨l, vs, Fc, hv, hH, _, _, _, lF, _⟩ := S.nil.mutL ei
      refine ht σ H Q ⟨.ref l, hv, .inl ⟨rfl, vs, .of hH⟩, ha B env σ H F _ S ?_⟩
      split at em0
      · split at em0
        · split at em0 <;> cases em0
        · cases em0
      · rename_i e' e2 em
        try rw [em]
        cases em0
        exact h
      · cases em0
    · cases em0
  · exact h.elim

/-! ### the methods of lists -/
theorem OwnL.snoc {K : PySem.W.Frag} {H Z : Hp} {ds : List D} {vs : List V} {F G : List Addr} {d : D} {v : V} (h : OwnL K H Z ds vs F) (o : Own K H Z d v G) : OwnL K H Z (ds ++ [d]) (vs ++ [v]) (F ++ G) := h.append (.one o)
theorem OwnL.one_inv {K : PySem.W.Frag} {H Z : Hp} {d : D} {vs : List V} {F : List Addr} (h : OwnL K H Z [d] vs F) : ∃ v, vs = [v] ∧ Own K H Z d v F := by
  cases h with
  | cons h t =>
    cases t
    rw [List.append_nil]
    exact ⟨_, rfl, h⟩
def appendF (ds as : List D) : Option (List D × D) := match as with
  | [d] => haveI : Decidable (ds.length < sizeLine) := Classical.propDecidable _; if ds.length < sizeLine then some (ds ++ [d], .non) else none
  | _ => none
theorem mut_append : MutL K rAppend appendF := fun H Z l ds vs Fc as us Fa Q es d ez hH oc oa nd nl ef q => by
  unfold appendF at ef
  split at ef
  · rename_i d'
    split at ef
    · rename_i hz
      cases ef
      obtain ⟨v, rfl, o⟩ := oa.one_inv
      exact ⟨l, vs, v, rfl, rfl, hH, by rw [← oc.length]; exact hz, q (vs ++ [v]) .non (Fc ++ Fa) [] (oc.snoc o) (.frz .non) (by rw [List.append_nil]; exact nd) fun a m => by rwa [List.append_nil] at m⟩
    · cases ef
  · cases ef
def extendF (ds as : List D) : Option (List D × D) := match as with
  | [.lst xs] => haveI : Decidable (ds.length + xs.length ≤ sizeLine) := Classical.propDecidable _; if ds.length + xs.length ≤ sizeLine then some (ds ++ xs, .non) else none
  | _ => none
/-- a list's cell and its items, own or frozen -/
theorem Own.items {K : PySem.W.Frag} {H Z : Hp} {ds : List D} {v : V} {F : List Addr} (ez : Ex Z H) (o : Own K H Z (.lst ds) v F) : ∃ a vs G, v = .ref a ∧ H a = some (.lst vs) ∧ OwnL K H Z ds vs G ∧ G.Sublist F := by
  cases o with
  | frz r =>
    cases r with
    | lst h r => exact ⟨_, _, [], rfl, ez _ _ h, .of_rep r, List.nil_sublist _⟩
  | lst h r => exact ⟨_, _, _, rfl, h, r, List.sublist_cons_self _ _⟩
theorem mut_extend : MutL K rExtend extendF := fun H Z l ds vs Fc as us Fa Q es d ez hH oc oa nd nl ef q => by
  unfold extendF at ef
  split at ef
  · rename_i xs
    split at ef
    · rename_i hz
      cases ef
      obtain ⟨v, rfl, o⟩ := oa.one_inv
      obtain ⟨a, ws, G, rfl, ha, og, sl⟩ := o.items ez
      refine ⟨l, a, vs, ws, rfl, rfl, hH, ha, by rw [← oc.length, ← og.length]; exact hz, q (vs ++ ws) .non (Fc ++ G) [] (oc.append og) (.frz .non) ?_ fun b m => ?_⟩
      · rw [List.append_nil]
        exact nd.sublist (List.Sublist.append_left sl _)
      · rw [List.append_nil] at m
        rcases List.mem_append.mp m with m | m
        · exact List.mem_append_left _ m
        · exact List.mem_append_right _ (sl.subset m)
    · cases ef
  · cases ef
theorem OwnL.erase {K : PySem.W.Frag} {H Z : Hp} : ∀ {ds : List D} {vs : List V} {F : List Addr} {k : Nat} {d : D}, OwnL K H Z ds vs F → ds[k]? = some d → ∃ v F' Fd, vs[k]? = some v ∧ OwnL K H Z (ds.eraseIdx k) (vs.eraseIdx k) F' ∧ Own K H Z d v Fd ∧ (F' ++ Fd).Perm F
  | _, _, _, 0, _, .cons (F := F0) (G := G0) h t, e => by
    cases e
    exact ⟨_, G0, F0, rfl, t, h, List.perm_append_comm⟩
  | _, _, _, k + 1, _, .cons (F := F0) (G := G0) h t, e => by
    obtain ⟨v, F', Fd, h1, h2, h3, h4⟩ := OwnL.erase (k := k) t e
    refine ⟨v, F0 ++ F', Fd, h1, .cons h h2, h3, ?_⟩
    rw [List.append_assoc]
    exact h4.append_left F0
def popAtF (ds as : List D) : Option (List D × D) := match as with
  | [.int i] => haveI : Decidable (-(2 ^ 63) ≤ i ∧ i < 2 ^ 63) := Classical.propDecidable _; if -(2 ^ 63) ≤ i ∧ i < 2 ^ 63 then match seqIndex? i ds.length with
    | some k => match ds[k]? with
      | some d => some (ds.eraseIdx k, d)
      | none => none
    | none => none
    else none
  | _ => none
theorem mut_popAt : MutL K rPopAt popAtF := fun H Z l ds vs Fc as us Fa Q es d ez hH oc oa nd nl ef q => by
  unfold popAtF at ef
  split at ef
  · rename_i j
    split at ef
    · rename_i hb
      split at ef
      · rename_i k ek
        split at ef
        · rename_i d' ed
          cases ef
          obtain ⟨v1, rfl, o⟩ := oa.one_inv
          have e1 : v1 = .int j := by
            have := o.imm rfl
            cases this
            rfl
          subst e1
          obtain ⟨v, F', Fd, h1, h2, h3, h4⟩ := oc.erase ed
          refine ⟨l, vs, j, k, v, rfl, rfl, hH, hb.1, hb.2, by rw [← oc.length]; exact ek, h1, ?_⟩
          exact q _ v F' Fd h2 h3 (h4.nodup_iff.mpr (List.nodup_append.mp nd).1) fun a m => List.mem_append_left _ (h4.mem_iff.mp m)
        · cases ef
      · cases ef
    · cases ef
  · cases ef
end
end MM

set_option Elab.async false
set_option linter.all false
set_option maxRecDepth 100000
set_option maxHeartbeats 4000000
noncomputable section
namespace MM
open PySem PySem.Spec PyProof.Rows L2

/-! ### rules by values, joined -/
section
variable {X : Cx}
theorem opor {f : Value → Value → Sem Value} {r r' : R2} (h : OpR X f r) (h' : OpR X f r') : OpR X f (fun x y H Q => r x y H Q ∨ r' x y H Q) := by
  intro pins s σ H x y v u Q I rx ry q
  rcases q with q | q
  · exact h pins s σ H x y v u Q I rx ry q
  · exact h' pins s σ H x y v u Q I rx ry q
def rIxD : R2 := fun x y H Q => ∃ a v, x = .ref a ∧ DGet H a y (some v) ∧ Q v H
theorem ix_dict (hu : X.A.units + 1 < cLine) : IxR X rIxD := by
  intro value slice pins s σ H x y v u Q I rx ry h hs
  obtain ⟨a, z, rfl, g, q⟩ := h
  obtain rfl : v = Value.ref a := rx
  have hT := dict_typeIs I g
  unfold subscriptTail
  refine wpAny_bind ?_
  rw [getitemInPython_of_ne hT.not_modules]
  refine wpAny_bind (wpAny_specialOf hT PySem.F.slot_dict_getitem.lookup ?_)
  have fin : wpAny (model X.prog X.w) X.A (subscripted slice false (.ref a) u) (fun r s₃ => wpAny (model X.prog X.w) X.A (letTemporaryGo value (.ref a) r >>= fun _ => pure r) (EP X pins σ Q) X.xe s₃) X.xe s := by
    rw [hs]
    exact wpAny_operating (d_getItem hu I g ry fun w' s3 I3 rw' => wpAny_bind (wpAny_letTemporaryGo (wpAny_pure ⟨z, H, I3, rw', q⟩)))
  first
    | exact wpAny_pure (wpAny_bind fin)
    | exact wpAny_bind (wpAny_pure (wpAny_bind fin))
    | exact wpAny_bind fin
def rSetD : TSet := fun o i v H Q => ∃ a H', o = .ref a ∧ DPut H a i v H' ∧ Q H'
theorem set_dict (hu : X.A.units + 1 < cLine) : PSet X rSetD := by
  intro pins s σ H o i v ov iv u Q I ro ri rv h
  obtain ⟨a, H', rfl, g, q⟩ := h
  obtain rfl : ov = Value.ref a := ro
  exact d_setItem hu I g ri rv fun s' I' => ⟨H', I', q⟩
def rSetAny : TSet := fun o i v H Q => rSetL o i v H Q ∨ rSetD o i v H Q
theorem set_any (hu : X.A.units + 1 < cLine) : PSet X rSetAny := by
  intro pins s σ H o i v ov iv u Q I ro ri rv h
  rcases h with h | h
  · exact set_list pins s σ H o i v ov iv u Q I ro ri rv h
  · exact set_dict hu pins s σ H o i v ov iv u Q I ro ri rv h
def rInDic (neg : Bool) : R2 := fun x y H Q => ∃ a o, y = .ref a ∧ DGet H a x o ∧ Q (.bl (if neg then !o.isSome else o.isSome)) H
theorem op_inDic (hu : X.A.units + 1 < cLine) : OpR X (compareOp .In) (rInDic false) := by
  intro pins s σ H x y v u Q I rx ry h
  obtain ⟨a, o, rfl, g, q⟩ := h
  obtain rfl : u = Value.ref a := ry
  exact d_in hu I g rx fun s' I' => ⟨.bl o.isSome, H, I', rfl, q⟩
theorem op_notInDic (hu : X.A.units + 1 < cLine) : OpR X (compareOp .NotIn) (rInDic true) := by
  intro pins s σ H x y v u Q I rx ry h
  obtain ⟨a, o, rfl, g, q⟩ := h
  obtain rfl : u = Value.ref a := ry
  exact d_notIn hu I g rx fun s' I' => ⟨.bl (!o.isSome), H, I', rfl, q⟩
def rIxAny (K : PySem.W.Frag) : R2 := fun x y H Q => rIx K x y H Q ∨ rIxD x y H Q
theorem ix_any (hu : X.A.units + 1 < cLine) : IxR X (rIxAny X.K) := ix_seq.or (ix_dict hu)
def rInAny (K : PySem.W.Frag) (neg : Bool) : R2 := fun x y H Q => rInDic neg x y H Q ∨ rIn K neg x y H Q
theorem op_inAny (hu : X.A.units + 1 < cLine) : OpR X (compareOp .In) (rInAny X.K false) := opor (op_inDic hu) op_in_seq
theorem op_notInAny (hu : X.A.units + 1 < cLine) : OpR X (compareOp .NotIn) (rInAny X.K true) := opor (op_notInDic hu) op_notIn_seq
end

/-! ### keys -/
def keyD : D → Option Key
  | .int i => some (.inl i)
  | .str x => some (.inr x)
  | _ => none
def keysD : List D → Option (List Key)
  | [] => some []
  | d :: ds => match keyD d, keysD ds with
    | some k, some ks => some (k :: ks)
    | _, _ => none
def valG {κ α : Type} [DecidableEq κ] (kvs : List (κ × α)) (k : κ) : Option α := (kvs.find? fun kv => decide (kv.1 = k)).map (·.2)
def putG {κ α : Type} [DecidableEq κ] (kvs : List (κ × α)) (k : κ) (v : α) : List (κ × α) :=
  if (kvs.any fun kv => decide (kv.1 = k)) = true then kvs.map (fun kv => if kv.1 = k then (kv.1, v) else kv) else kvs ++ [(k, v)]
section
variable {K : PySem.W.Frag} {Z H : Hp}
theorem keyD_rep {d : D} {v : V} {k : Key} (r : Rep K Z d v) (e : keyD d = some k) : v = kV k := by
  cases r <;> first | (cases e; rfl) | (simp [keyD] at e)
theorem keysD_rep : ∀ {ds : List D} {vs : List V} {ks : List Key}, RepL K Z ds vs → keysD ds = some ks → vs = ks.map kV
  | _, _, _, .nil, e => by cases e; rfl
  | _, _, _, .cons h t, e => by
    unfold keysD at e
    split at e
    · rename_i k ks e1 e2
      cases e
      rw [keyD_rep h e1, keysD_rep t e2]
      rfl
    · cases e
theorem RepK.val {k : Key} : ∀ {kvs : List (Key × D)} {kws : List (Key × V)}, RepK K Z kvs kws → (valG kvs k = none ∧ valV kws k = none) ∨ ∃ d v, valG kvs k = some d ∧ valV kws k = some v ∧ Rep K Z d v
  | _, _, .nil => .inl ⟨rfl, rfl⟩
  | _, _, .cons (k := k0) (d := d0) (v := v0) (ds := ds) (vs := vs) h t => by
    by_cases e : k0 = k
    · exact .inr ⟨d0, v0, by simp [valG, List.find?_cons, e], by simp [valV, List.find?_cons, e], h⟩
    · have e1 : valG ((k0, d0) :: ds) k = valG ds k := by simp [valG, List.find?_cons, e]
      have e2 : valV ((k0, v0) :: vs) k = valV vs k := by simp [valV, List.find?_cons, e]
      rw [e1, e2]
      exact RepK.val t
theorem RepT.val {k : List Key} : ∀ {kvs : List (List Key × D)} {kws : List (List Key × V)}, RepT K Z kvs kws → (valG kvs k = none ∧ valV kws k = none) ∨ ∃ d v, valG kvs k = some d ∧ valV kws k = some v ∧ Rep K Z d v
  | _, _, .nil => .inl ⟨rfl, rfl⟩
  | _, _, .cons (k := k0) (d := d0) (v := v0) (ds := ds) (vs := vs) h t => by
    by_cases e : k0 = k
    · exact .inr ⟨d0, v0, by simp [valG, List.find?_cons, e], by simp [valV, List.find?_cons, e], h⟩
    · have e1 : valG ((k0, d0) :: ds) k = valG ds k := by simp [valG, List.find?_cons, e]
      have e2 : valV ((k0, v0) :: vs) k = valV vs k := by simp [valV, List.find?_cons, e]
      rw [e1, e2]
      exact RepT.val t
theorem RepK.any {k : Key} : ∀ {kvs : List (Key × D)} {kws : List (Key × V)}, RepK K Z kvs kws → (kvs.any fun kv => decide (kv.1 = k)) = kws.any fun kv => decide (kv.1 = k)
  | _, _, .nil => rfl
  | _, _, .cons h t => by rw [List.any_cons, List.any_cons, RepK.any t]
theorem RepT.any {k : List Key} : ∀ {kvs : List (List Key × D)} {kws : List (List Key × V)}, RepT K Z kvs kws → (kvs.any fun kv => decide (kv.1 = k)) = kws.any fun kv => decide (kv.1 = k)
  | _, _, .nil => rfl
  | _, _, .cons h t => by rw [List.any_cons, List.any_cons, RepT.any t]
theorem RepK.setAll {k : Key} {d : D} {v : V} (r : Rep K Z d v) : ∀ {kvs : List (Key × D)} {kws : List (Key × V)}, RepK K Z kvs kws → RepK K Z (kvs.map fun kv => if kv.1 = k then (kv.1, d) else kv) (kws.map fun kv => if kv.1 = k then (kv.1, v) else kv)
  | _, _, .nil => .nil
  | _, _, .cons (k := k0) h t => by
    rw [List.map_cons, List.map_cons]
    dsimp only
    split
    · exact .cons r (RepK.setAll r t)
    · exact .cons h (RepK.setAll r t)
theorem RepT.setAll {k : List Key} {d : D} {v : V} (r : Rep K Z d v) : ∀ {kvs : List (List Key × D)} {kws : List (List Key × V)}, RepT K Z kvs kws → RepT K Z (kvs.map fun kv => if kv.1 = k then (kv.1, d) else kv) (kws.map fun kv => if kv.1 = k then (kv.1, v) else kv)
  | _, _, .nil => .nil
  | _, _, .cons (k := k0) h t => by
    rw [List.map_cons, List.map_cons]
    dsimp only
    split
    · exact .cons r (RepT.setAll r t)
    · exact .cons h (RepT.setAll r t)
theorem RepK.snoc {k : Key} {d : D} {v : V} (r : Rep K Z d v) : ∀ {kvs : List (Key × D)} {kws : List (Key × V)}, RepK K Z kvs kws → RepK K Z (kvs ++ [(k, d)]) (kws ++ [(k, v)])
  | _, _, .nil => .cons r .nil
  | _, _, .cons h t => .cons h (RepK.snoc r t)
theorem RepT.snoc {k : List Key} {d : D} {v : V} (r : Rep K Z d v) : ∀ {kvs : List (List Key × D)} {kws : List (List Key × V)}, RepT K Z kvs kws → RepT K Z (kvs ++ [(k, d)]) (kws ++ [(k, v)])
  | _, _, .nil => .cons r .nil
  | _, _, .cons h t => .cons h (RepT.snoc r t)
theorem RepK.put {k : Key} {d : D} {v : V} (r : Rep K Z d v) {kvs : List (Key × D)} {kws : List (Key × V)} (h : RepK K Z kvs kws) : RepK K Z (putG kvs k d) (putK kws k v) := by
  unfold putG putK
  rw [h.any]
  split
  · exact h.setAll r
  · exact h.snoc r
theorem RepT.put {k : List Key} {d : D} {v : V} (r : Rep K Z d v) {kvs : List (List Key × D)} {kws : List (List Key × V)} (h : RepT K Z kvs kws) : RepT K Z (putG kvs k d) (putK kws k v) := by
  unfold putG putK
  rw [h.any]
  split
  · exact h.setAll r
  · exact h.snoc r
theorem RepK.length : ∀ {kvs : List (Key × D)} {kws : List (Key × V)}, RepK K Z kvs kws → kvs.length = kws.length
  | _, _, .nil => rfl
  | _, _, .cons h t => by rw [List.length_cons, List.length_cons, RepK.length t]
theorem RepT.length : ∀ {kvs : List (List Key × D)} {kws : List (List Key × V)}, RepT K Z kvs kws → kvs.length = kws.length
  | _, _, .nil => rfl
  | _, _, .cons h t => by rw [List.length_cons, List.length_cons, RepT.length t]
end
/-- what a dict answers at a key: none where the key is of no use -/
def getD2 (d k : D) : Option (Option D) := match d with
  | .dK kvs => match keyD k with
    | some k => some (valG kvs k)
    | none => none
  | .dT kvs => match k with
    | .tup ks => match keysD ks with
      | some k => some (valG kvs k)
      | none => none
    | _ => none
  | _ => none
section
variable {K : PySem.W.Frag} {Z H : Hp}
theorem getD2_get {d k : D} {x y : V} {r : Option D} (rx : Rep K Z d x) (ry : Rep K Z k y) (e : getD2 d k = some r) : ∃ a o, x = .ref a ∧ DGet Z a y o ∧ ((r = none ∧ o = none) ∨ ∃ d v, r = some d ∧ o = some v ∧ Rep K Z d v) := by
  unfold getD2 at e
  split at e
  · split at e
    · rename_i kvs k' k2 ek
      cases e
      cases rx with
      | dK h r =>
        rw [keyD_rep ry ek]
        refine ⟨_, _, rfl, .inl ⟨_, _, .inl h, rfl, rfl⟩, ?_⟩
        rcases r.val (k := k2) with ⟨e1, e2⟩ | ⟨d, v, e1, e2, r⟩
        · exact .inl ⟨e1, e2⟩
        · exact .inr ⟨d, v, e1, e2, r⟩
    · cases e
  · split at e
    · rename_i kvs k' ks
      split at e
      · rename_i k2 ek
        cases e
        cases rx with
        | dT h r =>
          cases ry with
          | tup hb rb =>
            rw [keysD_rep rb ek] at hb
            refine ⟨_, _, rfl, .inr ⟨_, _, _, .inl h, rfl, hb, rfl⟩, ?_⟩
            rcases r.val (k := k2) with ⟨e1, e2⟩ | ⟨d, v, e1, e2, r⟩
            · exact .inl ⟨e1, e2⟩
            · exact .inr ⟨d, v, e1, e2, r⟩
      · cases e
    · cases e
  · cases e
theorem dget_mono {Z H : Hp} {a : Addr} {y : V} {o : Option V} (e : Ex Z H) (g : DGet Z a y o) : DGet H a y o := by
  rcases g with ⟨kvs, k, h, e1, e2⟩ | ⟨kvs, k, b, h, e1, hb, e2⟩
  · exact .inl ⟨kvs, k, h.elim (fun h => .inl (e _ _ h)) fun ⟨o, h⟩ => .inr ⟨o, e _ _ h⟩, e1, e2⟩
  · exact .inr ⟨kvs, k, b, h.elim (fun h => .inl (e _ _ h)) fun ⟨o, h⟩ => .inr ⟨o, e _ _ h⟩, e1, e _ _ hb, e2⟩
end

/-! ### the operations on data -/
def two (r : R2) : List V → Hp → VK → Prop := fun vs H Q => match vs with
  | [x, y] => r x y H Q
  | _ => False
def one (r : V → Hp → VK → Prop) : List V → Hp → VK → Prop := fun vs H Q => match vs with
  | [x] => r x H Q
  | _ => False
theorem RepL.two_inv {K : PySem.W.Frag} {Z : Hp} {a b : D} {vs : List V} (h : RepL K Z [a, b] vs) : ∃ x y, vs = [x, y] ∧ Rep K Z a x ∧ Rep K Z b y := by
  cases h with
  | cons h t =>
    cases t with
    | cons h2 t =>
      cases t
      exact ⟨_, _, rfl, h, h2⟩
theorem RepL.one_inv {K : PySem.W.Frag} {Z : Hp} {a : D} {vs : List V} (h : RepL K Z [a] vs) : ∃ x, vs = [x] ∧ Rep K Z a x := by
  cases h with
  | cons h t =>
    cases t
    exact ⟨_, rfl, h⟩
section
variable {K : PySem.W.Frag}
def ixF : List D → Option D
  | [.lst ds, .int i] => atI ds i
  | [.tup ds, .int i] => atI ds i
  | [.tz ds, .int i] => atI ds i
  | [.scr ns, .int i] => (atI ns i).map .int
  | [.str z, .int i] => haveI : Decidable (z.length ≤ sizeLine) := Classical.propDecidable _; if z.length ≤ sizeLine then (atI z.cps.toList i).map fun c => .str ⟨#[c]⟩ else none
  | [d, k] => match getD2 d k with
    | some r => r
    | none => none
  | _ => none
theorem atI_repL {Z : Hp} {ds : List D} {vs : List V} {i : Int} {d : D} (r : RepL K Z ds vs) (e : atI ds i = some d) : ∃ v, atI vs i = some v ∧ Rep K Z d v := by
  unfold atI at e ⊢
  rw [← r.length]
  cases ej : ixN ds.length i with
  | none => rw [ej] at e; cases e
  | some j =>
    rw [ej] at e
    exact r.get (i := j) e
theorem ix_core (Z H : Hp) (ds : List D) (vs : List V) (Q : VK) (d : D) (ez : Ex Z H) (R : RepL K Z ds vs) (ef : ixF ds = some d) (q : ∀ v, Rep K Z d v → Q v H) : two (rIxAny K) vs H Q := by
  unfold ixF at ef
  split at ef
  · rename_i ds i
    obtain ⟨x, y, rfl, rx, ry⟩ := R.two_inv
    cases ry
    cases rx with
    | lst h r =>
      obtain ⟨v, ev, rv⟩ := atI_repL r ef
      exact .inl (.inl ⟨_, _, i, v, rfl, rfl, .of (ez _ _ h), ev, q v rv⟩)
  · rename_i ds i
    obtain ⟨x, y, rfl, rx, ry⟩ := R.two_inv
    cases ry
    cases rx with
    | tup h r =>
      obtain ⟨v, ev, rv⟩ := atI_repL r ef
      exact .inl (.inr (.inl ⟨_, _, i, v, rfl, rfl, .of (ez _ _ h), ev, q v rv⟩))
  · rename_i ds i
    obtain ⟨x, y, rfl, rx, ry⟩ := R.two_inv
    cases ry
    cases rx with
    | tz h _ r =>
      obtain ⟨v, ev, rv⟩ := atI_repL r ef
      exact .inl (.inr (.inl ⟨_, _, i, v, rfl, rfl, .inl (.inr ⟨_, ez _ _ h⟩), ev, q v rv⟩))
  · rename_i ns i
    obtain ⟨x, y, rfl, rx, ry⟩ := R.two_inv
    cases ry
    cases rx with
    | scr h =>
      cases en : atI ns i with
      | none => rw [en] at ef; cases ef
      | some n =>
        rw [en] at ef
        cases ef
        refine .inl (.inl ⟨_, _, i, .int n, rfl, rfl, sql_mono ez h, ?_, q _ (.int n)⟩)
        unfold atI at en ⊢
        rw [List.length_map]
        cases ej : ixN ns.length i with
        | none => rw [ej] at en; cases en
        | some j =>
          rw [ej] at en
          have en' : ns[j]? = some n := en
          show (ns.map V.int)[j]? = _
          rw [List.getElem?_map, en']
          rfl
  · rename_i z i
    obtain ⟨x, y, rfl, rx, ry⟩ := R.two_inv
    cases ry
    cases rx
    split at ef
    · rename_i hz
      cases ec : atI z.cps.toList i with
      | none => rw [ec] at ef; cases ef
      | some c =>
        rw [ec] at ef
        cases ef
        exact .inl (.inr (.inr ⟨z, i, c, rfl, rfl, hz, ec, q _ (.str _)⟩))
    · cases ef
  · rename_i d1 k1 _ _ _ _ _
    obtain ⟨x, y, rfl, rx, ry⟩ := R.two_inv
    cases eg : getD2 d1 k1 with
    | none => rw [eg] at ef; cases ef
    | some r =>
      rw [eg] at ef
      dsimp only at ef
      subst ef
      obtain ⟨a, o, rfl, g, h⟩ := getD2_get rx ry eg
      rcases h with ⟨h, _⟩ | ⟨d', v, e1, e2, rv⟩
      · cases h
      · cases e1
        subst e2
        exact .inr ⟨a, v, rfl, dget_mono ez g, q v rv⟩
  · cases ef
theorem g_ix : OpG K (two (rIxAny K)) ixF := fun Z H ds vs Q d ez R ef q _ _ _ _ => ix_core Z H ds vs Q d ez R ef q
def subF : List D → Option D
  | [.int i, .int j] => some (.int (i - j))
  | _ => none
theorem s_sub : OpS K (two (rI0 fun i j => .int (i - j))) subF := fun H ds vs Q d R ef q => by
  unfold subF at ef
  split at ef
  · obtain ⟨x, y, rfl, rx, ry⟩ := R.two_inv
    cases rx; cases ry; cases ef
    exact ⟨_, _, rfl, rfl, q _ (.int _)⟩
  · cases ef
def fdivF : List D → Option D
  | [.int i, .int j] => haveI : Decidable (j ≠ 0 ∧ j.natAbs < 1073741824) := Classical.propDecidable _; if j ≠ 0 ∧ j.natAbs < 1073741824 then some (.int (i.fdiv j)) else none
  | _ => none
theorem s_fdiv : OpS K (two (rI CDivN fun i j => .int (i.fdiv j))) fdivF := fun H ds vs Q d R ef q => by
  unfold fdivF at ef
  split at ef
  · obtain ⟨x, y, rfl, rx, ry⟩ := R.two_inv
    split at ef
    · rename_i hc
      cases rx; cases ry; cases ef
      exact ⟨_, _, rfl, rfl, hc, q _ (.int _)⟩
    · cases ef
  · cases ef
def modF : List D → Option D
  | [.int i, .int j] => if j ≠ 0 then some (.int (i.fmod j)) else none
  | _ => none
theorem s_mod : OpS K (two (rI (fun _ j => j ≠ 0) fun i j => .int (i.fmod j))) modF := fun H ds vs Q d R ef q => by
  unfold modF at ef
  split at ef
  · obtain ⟨x, y, rfl, rx, ry⟩ := R.two_inv
    split at ef
    · rename_i hc
      cases rx; cases ry; cases ef
      exact ⟨_, _, rfl, rfl, hc, q _ (.int _)⟩
    · cases ef
  · cases ef
def powF : List D → Option D
  | [.int i, .int j] => haveI : Decidable (0 ≤ j ∧ j ≤ 1000000 ∧ i.natAbs < 2 ^ 64) := Classical.propDecidable _; if 0 ≤ j ∧ j ≤ 1000000 ∧ i.natAbs < 2 ^ 64 then some (.int (i ^ j.toNat)) else none
  | _ => none
theorem s_pow : OpS K (two (rI CPow fun i j => .int (i ^ j.toNat))) powF := fun H ds vs Q d R ef q => by
  unfold powF at ef
  split at ef
  · obtain ⟨x, y, rfl, rx, ry⟩ := R.two_inv
    split at ef
    · rename_i hc
      cases rx; cases ry; cases ef
      exact ⟨_, _, rfl, rfl, hc, q _ (.int _)⟩
    · cases ef
  · cases ef
def negF : List D → Option D
  | [.int i] => some (.int (-i))
  | _ => none
theorem s_neg : OpS K (one (rU fun i => .int (-i))) negF := fun H ds vs Q d R ef q => by
  unfold negF at ef
  split at ef
  · obtain ⟨x, rfl, rx⟩ := R.one_inv
    cases rx; cases ef
    exact ⟨_, rfl, q _ (.int _)⟩
  · cases ef
/-- ints, texts, lists, tuples -/
def rAddAny (K : PySem.W.Frag) : R2 := fun x y H Q => rI0 (fun i j => .int (i + j)) x y H Q ∨ ((∃ i j, x = .str i ∧ y = .str j ∧ i.length + j.length ≤ sizeLine ∧ Q (.str (i ++ j)) H) ∨ (rCat x y H Q ∨ rCatA K x y H Q))
theorem op_addAny {X : Cx} : OpR X (binaryOp .Add) (rAddAny X.K) := opor op_add (opor op_add_str (opor op_cat op_catA))
def addF : List D → Option D
  | [.int i, .int j] => some (.int (i + j))
  | [.str i, .str j] => haveI : Decidable (i.length + j.length ≤ sizeLine) := Classical.propDecidable _; if i.length + j.length ≤ sizeLine then some (.str (i ++ j)) else none
  | [.lst i, .lst j] => haveI : Decidable (i.length + j.length ≤ sizeLine) := Classical.propDecidable _; if i.length + j.length ≤ sizeLine then some (.lst (i ++ j)) else none
  | [.tup i, .tup j] => haveI : Decidable (i.length + j.length ≤ sizeLine) := Classical.propDecidable _; if i.length + j.length ≤ sizeLine then some (.tup (i ++ j)) else none
  | _ => none
theorem g_add : OpN K (two (rAddAny K)) addF := fun Z H ds vs Q d ez R ef q ql qt => by
  unfold addF at ef
  split at ef
  · obtain ⟨x, y, rfl, rx, ry⟩ := R.two_inv
    cases rx; cases ry; cases ef
    exact .inl ⟨_, _, rfl, rfl, q _ (.int _) trivial⟩
  · obtain ⟨x, y, rfl, rx, ry⟩ := R.two_inv
    split at ef
    · rename_i hc
      cases rx; cases ry; cases ef
      exact .inr (.inl ⟨_, _, rfl, rfl, hc, q _ (.str _) trivial⟩)
    · cases ef
  · obtain ⟨x, y, rfl, rx, ry⟩ := R.two_inv
    split at ef
    · rename_i hc
      cases ef
      cases rx with
      | lst h1 r1 =>
        cases ry with
        | lst h2 r2 =>
          exact .inr (.inr (.inl ⟨_, _, _, _, rfl, rfl, ez _ _ h1, ez _ _ h2, by rw [← r1.length, ← r2.length]; exact hc, fun p hp => ql _ p _ rfl hp (r1.append r2)⟩))
    · cases ef
  · obtain ⟨x, y, rfl, rx, ry⟩ := R.two_inv
    split at ef
    · rename_i hc
      cases ef
      cases rx with
      | tup h1 r1 =>
        cases ry with
        | tup h2 r2 =>
          refine .inr (.inr (.inr ⟨_, _, _, _, rfl, rfl, .of (ez _ _ h1), .of (ez _ _ h2), by rw [← r1.length, ← r2.length]; exact hc, fun e => ?_, fun _ e => ?_, fun _ _ p hp => qt _ p _ rfl hp (r1.append r2)⟩))
          · subst e
            cases r1
            exact q _ (.tup h2 r2) trivial
          · subst e
            cases r2
            rw [List.append_nil] at q
            exact q _ (.tup h1 r1) trivial
    · cases ef
  · cases ef
/-- ints, list * int -/
def CMulA (i j : Int) : Prop := CMul i j ∨ CMulW i j
theorem op_mulA {X : Cx} : OpR X (binaryOp .Mult) (rI CMulA fun i j => .int (i * j)) := by
  intro pins s σ H x y v u Q I rx ry h
  obtain ⟨i, j, e1, e2, hc, q⟩ := h
  rcases hc with hc | hc
  · exact op_mul pins s σ H x y v u Q I rx ry ⟨i, j, e1, e2, hc, q⟩
  · exact op_mulW pins s σ H x y v u Q I rx ry ⟨i, j, e1, e2, hc, q⟩
def rMulAny (K : PySem.W.Frag) : R2 := fun x y H Q => rI CMulA (fun i j => .int (i * j)) x y H Q ∨ rRep x y H Q
theorem op_mulAny {X : Cx} : OpR X (binaryOp .Mult) (rMulAny X.K) := opor op_mulA op_rep
end
end MM

set_option Elab.async false
set_option linter.all false
set_option maxRecDepth 100000
set_option maxHeartbeats 4000000
noncomputable section
namespace MM
open PySem PySem.Spec PyProof.Rows L2

/-! ### data as the library has it -/
mutual
def toPy : D → Option PyData
  | .non => some .none
  | .bl b => some (.bool b)
  | .int i => some (.int i)
  | .str x => some (.str x)
  | .lst xs => match toPyL xs with
    | some ys => some (.list ys)
    | none => none
  | .tup xs => match toPyL xs with
    | some ys => some (.tuple ys)
    | none => none
  | .tz xs => match toPyL xs with
    | some ys => some (.tuple ys)
    | none => none
  | .scr ns => some (.list (ns.map .int))
  | .dK _ | .dT _ | .dTf _ | .opq _ | .deep _ | .nam _ _ | .xn _ _ _ | .fz _ => none
def toPyL : List D → Option (List PyData)
  | [] => some []
  | d :: ds => match toPy d with
    | some y => match toPyL ds with
      | some ys => some (y :: ys)
      | none => none
    | none => none
end
section
variable {K : PySem.W.Frag} {H : Hp}
theorem dpAll_ints : ∀ ns : List Int, DpAll K H (ns.map V.int) (ns.map PyData.int)
  | [] => .nil
  | n :: ns => .cons (.int n) (dpAll_ints ns)
mutual
theorem Rep.dp : ∀ {d : D} {v : V} {p : PyData}, Rep K H d v → toPy d = some p → Dp K H v p
  | _, _, _, .non, e => by simp only [toPy] at e; cases e; exact .non
  | _, _, _, .bl b, e => by simp only [toPy] at e; cases e; exact .bl b
  | _, _, _, .int b, e => by simp only [toPy] at e; cases e; exact .int b
  | _, _, _, .str b, e => by simp only [toPy] at e; cases e; exact .str b
  | _, _, _, .lst h r, e => by
    simp only [toPy] at e
    split at e
    · rename_i ys e1
      cases e
      exact .lst (.of h) (RepL.dp r e1)
    · cases e
  | _, _, _, .tup h r, e => by
    simp only [toPy] at e
    split at e
    · rename_i ys e1
      cases e
      exact .tup (.of h) (RepL.dp r e1)
    · cases e
  | _, _, _, .dK h r, e => by simp only [toPy] at e; cases e
  | _, _, _, .dT h r, e => by simp only [toPy] at e; cases e
  | _, _, _, .dTf h r, e => by simp only [toPy] at e; cases e
  | _, _, _, .scr h, e => by simp only [toPy] at e; cases e; exact .lst h (dpAll_ints _)
  | _, _, _, .opq v, e => by simp only [toPy] at e; cases e
  | _, _, _, .cls _, e => by simp only [toPy] at e; cases e
  | _, _, _, .exn _ _, e => by simp only [toPy] at e; cases e
  | _, _, _, .xn _ _ _, e => by simp only [toPy] at e; cases e
  | _, _, _, .deep _, e => by simp only [toPy] at e; cases e
  | _, _, _, .frzn _, e => by simp only [toPy] at e; cases e
  | _, _, _, .tz h _ r, e => by
    simp only [toPy] at e
    split at e
    · rename_i ys e1
      cases e
      exact .tup (.inl (.inr ⟨_, h⟩)) (RepL.dp r e1)
    · cases e
theorem RepL.dp : ∀ {d : List D} {v : List V} {p : List PyData}, RepL K H d v → toPyL d = some p → DpAll K H v p
  | _, _, _, .nil, e => by simp only [toPyL] at e; cases e; exact .nil
  | _, _, _, .cons h r, e => by
    simp only [toPyL] at e
    split at e
    · rename_i y e1
      split at e
      · rename_i ys e2
        cases e
        exact .cons (Rep.dp h e1) (RepL.dp r e2)
      · cases e
    · cases e
end
end
/-- == of data -/
def eqP (a b : D) : Option Bool := match toPy a with
  | some p => match toPy b with
    | some q => haveI : Decidable (SeqAt.shaped p = true ∧ SeqAt.shaped q = true) := Classical.propDecidable _; if SeqAt.shaped p = true ∧ SeqAt.shaped q = true then some (PyData.eqv p q) else none
    | none => none
  | none => none
def eqF : List D → Option D
  | [a, b] => (eqP a b).map .bl
  | _ => none
def neF : List D → Option D
  | [a, b] => (eqP a b).map fun c => .bl (!c)
  | _ => none
/-- x in a list, whatever is in it; in a tuple of flat things; in a dict -/
def flatOf : D → Option V
  | .non => some .non
  | .bl b => some (.bl b)
  | .int i => some (.int i)
  | .str x => some (.str x)
  | _ => none
def flatsOf : List D → Option (List V)
  | [] => some []
  | d :: ds => match flatOf d with
    | some v => match flatsOf ds with
      | some vs => some (v :: vs)
      | none => none
    | none => none
def inP (x : D) : D → Option Bool
  | .lst ds => match toPy x with
    | some p => match toPyL ds with
      | some ps => haveI : Decidable (SeqAt.shaped p = true ∧ SeqAt.shaped (.list ps) = true) := Classical.propDecidable _; if SeqAt.shaped p = true ∧ SeqAt.shaped (.list ps) = true then some (ps.any fun z => PyData.eqv z p) else none
      | none => none
    | none => none
  | .tup ds => match flatOf x with
    | some v => match flatsOf ds with
      | some vs => some (inV v vs)
      | none => none
    | none => none
  | .tz ds => match flatOf x with
    | some v => match flatsOf ds with
      | some vs => some (inV v vs)
      | none => none
    | none => none
  | d => match getD2 d x with
    | some r => some r.isSome
    | none => none
def inF : List D → Option D
  | [x, y] => (inP x y).map .bl
  | _ => none
def notInF : List D → Option D
  | [x, y] => (inP x y).map fun c => .bl (!c)
  | _ => none
section
variable {X : Cx}
def rInW (K : PySem.W.Frag) : R2 := fun x y H Q => rInAny K false x y H Q ∨ rInD K x y H Q
def rNotInW (K : PySem.W.Frag) : R2 := fun x y H Q => rInAny K true x y H Q ∨ rNotInD K x y H Q
theorem op_inW (hu : X.A.units + 65 < cLine) : OpR X (compareOp .In) (rInW X.K) := opor (op_inAny (by omega)) (op_inD hu)
theorem op_notInW (hu : X.A.units + 65 < cLine) : OpR X (compareOp .NotIn) (rNotInW X.K) := opor (op_notInAny (by omega)) (op_notInD hu)
end
section
variable {K : PySem.W.Frag}
theorem s_eq : OpS K (two (rEqD K)) eqF := fun H ds vs Q d R ef q => by
  unfold eqF at ef
  split at ef
  · obtain ⟨x, y, rfl, rx, ry⟩ := R.two_inv
    unfold eqP at ef
    split at ef
    · rename_i p e1
      split at ef
      · rename_i p2 e2
        split at ef
        · rename_i hs
          cases ef
          exact ⟨p, p2, rx.dp e1, ry.dp e2, hs.1, hs.2, q _ (.bl _)⟩
        · cases ef
      · cases ef
    · cases ef
  · cases ef
theorem s_ne : OpS K (two (rNeD K)) neF := fun H ds vs Q d R ef q => by
  unfold neF at ef
  split at ef
  · obtain ⟨x, y, rfl, rx, ry⟩ := R.two_inv
    unfold eqP at ef
    split at ef
    · rename_i p e1
      split at ef
      · rename_i p2 e2
        split at ef
        · rename_i hs
          cases ef
          exact ⟨p, p2, rx.dp e1, ry.dp e2, hs.1, hs.2, q _ (.bl _)⟩
        · cases ef
      · cases ef
    · cases ef
  · cases ef
theorem flatOf_rep {H : Hp} {d : D} {v w : V} (r : Rep K H d v) (e : flatOf d = some w) : v = w ∧ flatV v = true := by
  cases r <;> first | (cases e; exact ⟨rfl, rfl⟩) | (simp [flatOf] at e)
theorem flatsOf_rep {H : Hp} : ∀ {ds : List D} {vs ws : List V}, RepL K H ds vs → flatsOf ds = some ws → vs = ws ∧ vs.all flatV = true
  | _, _, _, .nil, e => by cases e; exact ⟨rfl, rfl⟩
  | _, _, _, .cons h t, e => by
    unfold flatsOf at e
    split at e
    · rename_i v e1
      split at e
      · rename_i vs e2
        cases e
        obtain ⟨a1, a2⟩ := flatOf_rep h e1
        obtain ⟨b1, b2⟩ := flatsOf_rep t e2
        subst a1 b1
        exact ⟨rfl, by rw [List.all_cons, a2, b2]; rfl⟩
      · cases e
    · cases e
theorem inP_in {H : Hp} {a b : D} {x y : V} {c : Bool} (rx : Rep K H a x) (ry : Rep K H b y) (e : inP a b = some c) (Q : VK) :
    (Q (.bl c) H → rInW K x y H Q) ∧ (Q (.bl (!c)) H → rNotInW K x y H Q) := by
  unfold inP at e
  split at e
  · rename_i ds
    split at e
    · rename_i p e1
      split at e
      · rename_i ps e2
        split at e
        · rename_i hs
          cases e
          have h1 := rx.dp e1
          have h2 : Dp K H y (.list ps) := ry.dp (by simp only [toPy, e2])
          exact ⟨fun q => .inr ⟨p, ps, h1, h2, hs.1, hs.2, q⟩, fun q => .inr ⟨p, ps, h1, h2, hs.1, hs.2, q⟩⟩
        · cases e
      · cases e
    · cases e
  · rename_i ds
    split at e
    · rename_i v e1
      split at e
      · rename_i vs e2
        cases e
        obtain ⟨a1, a2⟩ := flatOf_rep rx e1
        subst a1
        cases ry with
        | tup h r =>
          obtain ⟨b1, b2⟩ := flatsOf_rep r e2
          subst b1
          exact ⟨fun q => .inl (.inr ⟨_, _, rfl, .inr (.of h), a2, b2, q⟩), fun q => .inl (.inr ⟨_, _, rfl, .inr (.of h), a2, b2, q⟩)⟩
      · cases e
    · cases e
  · rename_i ds
    split at e
    · rename_i v e1
      split at e
      · rename_i vs e2
        cases e
        obtain ⟨a1, a2⟩ := flatOf_rep rx e1
        subst a1
        cases ry with
        | tz h _ r =>
          obtain ⟨b1, b2⟩ := flatsOf_rep r e2
          subst b1
          exact ⟨fun q => .inl (.inr ⟨_, _, rfl, .inr (.inl (.inr ⟨_, h⟩)), a2, b2, q⟩), fun q => .inl (.inr ⟨_, _, rfl, .inr (.inl (.inr ⟨_, h⟩)), a2, b2, q⟩)⟩
      · cases e
    · cases e
  · split at e
    · rename_i r e1
      cases e
      obtain ⟨a', o, rfl, g, h⟩ := getD2_get ry rx e1
      have hs : o.isSome = r.isSome := by
        rcases h with ⟨h1, h2⟩ | ⟨d, v, h1, h2, _⟩
        · rw [h1, h2]; rfl
        · rw [h1, h2]; rfl
      exact ⟨fun q => .inl (.inl ⟨a', o, rfl, g, by rw [if_neg Bool.false_ne_true, hs]; exact q⟩), fun q => .inl (.inl ⟨a', o, rfl, g, by rw [if_pos rfl, hs]; exact q⟩)⟩
    · cases e
theorem s_in : OpS K (two (rInW K)) inF := fun H ds vs Q d R ef q => by
  unfold inF at ef
  split at ef
  · rename_i a b
    obtain ⟨x, y, rfl, rx, ry⟩ := R.two_inv
    cases ec : inP a b with
    | none => rw [ec] at ef; cases ef
    | some c =>
      rw [ec] at ef
      cases ef
      exact (inP_in rx ry ec Q).1 (q _ (.bl _))
  · cases ef
theorem s_notIn : OpS K (two (rNotInW K)) notInF := fun H ds vs Q d R ef q => by
  unfold notInF at ef
  split at ef
  · rename_i a b
    obtain ⟨x, y, rfl, rx, ry⟩ := R.two_inv
    cases ec : inP a b with
    | none => rw [ec] at ef; cases ef
    | some c =>
      rw [ec] at ef
      cases ef
      exact (inP_in rx ry ec Q).2 (q _ (.bl _))
  · cases ef
/-! ints compared -/
def cmpF (f : Int → Int → Bool) : List D → Option D
  | [.int i, .int j] => some (.bl (f i j))
  | _ => none
theorem s_cmp {f : Int → Int → Bool} : OpS K (two (rI0 fun i j => .bl (f i j))) (cmpF f) := fun H ds vs Q d R ef q => by
  unfold cmpF at ef
  split at ef
  · obtain ⟨x, y, rfl, rx, ry⟩ := R.two_inv
    cases rx; cases ry; cases ef
    exact ⟨_, _, rfl, rfl, q _ (.bl _)⟩
  · cases ef
abbrev ltF := cmpF fun i j => decide (i < j)
abbrev gtF := cmpF fun i j => decide (j < i)
abbrev geF := cmpF fun i j => decide (j ≤ i)
/-! is None -/
/-! products -/
instance (i j : Int) : Decidable (CMulA i j) := by unfold CMulA CMul CMulW; exact inferInstance
def mulF : List D → Option D
  | [.int i, .int j] => haveI : Decidable (CMulA i j) := Classical.propDecidable _; if CMulA i j then some (.int (i * j)) else none
  | [.lst ds, .int k] => haveI : Decidable (-(2 ^ 63) ≤ k ∧ k < 2 ^ 63 ∧ ds.length * k.toNat ≤ sizeLine) := Classical.propDecidable _; if -(2 ^ 63) ≤ k ∧ k < 2 ^ 63 ∧ ds.length * k.toNat ≤ sizeLine then some (.lst (List.replicate k.toNat ds).flatten) else none
  | _ => none
theorem RepL.rep {Z : Hp} {ds : List D} {vs : List V} (h : RepL K Z ds vs) : ∀ n, RepL K Z (List.replicate n ds).flatten (List.replicate n vs).flatten
  | 0 => .nil
  | n + 1 => by
    rw [List.replicate_succ, List.replicate_succ, List.flatten_cons, List.flatten_cons]
    exact h.append (RepL.rep h n)
theorem g_mul : OpN K (two (rMulAny K)) mulF := fun Z H ds vs Q d ez R ef q ql _ => by
  unfold mulF at ef
  split at ef
  · obtain ⟨x, y, rfl, rx, ry⟩ := R.two_inv
    split at ef
    · rename_i hc
      cases rx; cases ry; cases ef
      exact .inl ⟨_, _, rfl, rfl, hc, q _ (.int _) trivial⟩
    · cases ef
  · obtain ⟨x, y, rfl, rx, ry⟩ := R.two_inv
    split at ef
    · rename_i hc
      cases ry; cases ef
      cases rx with
      | lst h r => exact .inr ⟨_, _, _, rfl, rfl, ez _ _ h, hc.1, hc.2.1, by rw [← r.length]; exact hc.2.2, fun p hp => ql _ p _ rfl hp (r.rep _)⟩
    · cases ef
  · cases ef
/-! len -/
def lenF : List D → Option D
  | [.lst ds] => some (.int ds.length)
  | [.tup ds] => some (.int ds.length)
  | [.tz ds] => some (.int ds.length)
  | [.scr ds] => some (.int ds.length)
  | [.dK ds] => some (.int ds.length)
  | [.dT ds] => some (.int ds.length)
  | [.str z] => haveI : Decidable (z.length ≤ sizeLine) := Classical.propDecidable _; if z.length ≤ sizeLine then some (.int z.length) else none
  | _ => none
def rLenAny (K : PySem.W.Frag) : List V → Hp → VK → Prop := fun xs H Q => ((∃ p ys, xs = [.ref p] ∧ (SqL K H p ys ∨ SqT K H p ys) ∧ Q (.int ys.length) H) ∨ (∃ z, xs = [.str z] ∧ z.length ≤ sizeLine ∧ Q (.int z.length) H)) ∨
  ((∃ a kvs, xs = [V.ref a] ∧ H a = some (.dK kvs) ∧ Q (.int kvs.length) H) ∨ rLenT xs H Q)
theorem call_lenAny {X : Cx} : CallR X (.builtin "len") (rLenAny X.K) := (call_len_seq.or call_len_str).or (call_lenD.or call_len_dT)
theorem s_len : OpS K (rLenAny K) lenF := fun H ds vs Q d R ef q => by
  unfold lenF at ef
  split at ef
  · obtain ⟨x, rfl, rx⟩ := R.one_inv
    cases ef
    cases rx with
    | lst h r => exact .inl (.inl ⟨_, _, rfl, .inl (.of h), by rw [← r.length]; exact q _ (.int _)⟩)
  · obtain ⟨x, rfl, rx⟩ := R.one_inv
    cases ef
    cases rx with
    | tup h r => exact .inl (.inl ⟨_, _, rfl, .inr (.of h), by rw [← r.length]; exact q _ (.int _)⟩)
  · obtain ⟨x, rfl, rx⟩ := R.one_inv
    cases ef
    cases rx with
    | tz h _ r => exact .inl (.inl ⟨_, _, rfl, .inr (.inl (.inr ⟨_, h⟩)), by rw [← r.length]; exact q _ (.int _)⟩)
  · obtain ⟨x, rfl, rx⟩ := R.one_inv
    cases ef
    cases rx with
    | scr h => exact .inl (.inl ⟨_, _, rfl, .inl h, by rw [List.length_map]; exact q _ (.int _)⟩)
  · obtain ⟨x, rfl, rx⟩ := R.one_inv
    cases ef
    cases rx with
    | dK h r => exact .inr (.inl ⟨_, _, rfl, h, by rw [← r.length]; exact q _ (.int _)⟩)
  · obtain ⟨x, rfl, rx⟩ := R.one_inv
    cases ef
    cases rx with
    | dT h r => exact .inr (.inr ⟨_, _, rfl, h, by rw [← r.length]; exact q _ (.int _)⟩)
  · obtain ⟨x, rfl, rx⟩ := R.one_inv
    split at ef
    · rename_i hz
      cases ef
      cases rx
      exact .inl (.inr ⟨_, rfl, hz, q _ (.int _)⟩)
    · cases ef
  · cases ef
def absF : List D → Option D
  | [.int i] => some (.int (if i < 0 then -i else i))
  | _ => none
theorem s_abs : OpS K (fun xs H Q => ∃ i, xs = [V.int i] ∧ Q (.int (if i < 0 then -i else i)) H) absF := fun H ds vs Q d R ef q => by
  unfold absF at ef
  split at ef
  · obtain ⟨x, rfl, rx⟩ := R.one_inv
    cases rx; cases ef
    exact ⟨_, rfl, q _ (.int _)⟩
  · cases ef
/-! list(x), tuple(x) -/
def tupleF : List D → Option D
  | [.lst ds] => some (.tup ds)
  | [.tup ds] => some (.tup ds)
  | [.tz ds] => some (.tz ds)
  | _ => none
theorem g_tuple : OpN K (fun xs H Q => ∃ p ys, xs = [V.ref p] ∧ ((SqL K H p ys ∧ ∀ l, H l = none → Q (.ref l) (upd H l (.tup ys))) ∨ (SqT K H p ys ∧ Q (.ref p) H))) tupleF := fun Z H ds vs Q d ez R ef q ql qt => by
  unfold tupleF at ef
  split at ef
  · obtain ⟨x, rfl, rx⟩ := R.one_inv
    cases ef
    cases rx with
    | lst h r => exact ⟨_, _, rfl, .inl ⟨.of (ez _ _ h), fun l hl => qt _ l _ rfl hl r⟩⟩
  · obtain ⟨x, rfl, rx⟩ := R.one_inv
    cases ef
    cases rx with
    | tup h r => exact ⟨_, _, rfl, .inr ⟨.of (ez _ _ h), q _ (.tup h r) trivial⟩⟩
  · obtain ⟨x, rfl, rx⟩ := R.one_inv
    cases ef
    cases rx with
    | tz h d r => exact ⟨_, _, rfl, .inr ⟨.inl (.inr ⟨_, ez _ _ h⟩), q _ (.tz h d r) trivial⟩⟩
  · cases ef
def listF : List D → Option D
  | [.lst ds] => some (.lst ds)
  | [.tup ds] => some (.lst ds)
  | [.tz ds] => some (.lst ds)
  | _ => none
end
end MM

set_option Elab.async false
set_option linter.all false
set_option maxRecDepth 100000
set_option maxHeartbeats 4000000
noncomputable section
namespace MM
open PySem PySem.Spec PyProof.Rows L2

/-! ### what is walked -/
/-- what an iterator gives at a place: a datum that stands, or a new tuple of such -/
def YldOk (K : PySem.W.Frag) (Z H : Hp) (d : D) (x : V) (H' : Hp) : Prop :=
  (H' = H ∧ Rep K Z d x) ∨ ∃ ds vs T, d = .tup ds ∧ x = .ref T ∧ H T = none ∧ RepL K Z ds vs ∧ H' = upd H T (.tup vs)
def Feeds (K : PySem.W.Frag) (Z : Hp) (J : It) (xs : List D) : Prop :=
  ∀ H i, Ex Z H → (∀ d, xs[i]? = some d → J.go i H ∧ ∀ x H', J.yld i H x H' → YldOk K Z H d x H') ∧ (xs.length ≤ i → J.stop i H)
section
variable (K : PySem.W.Frag) (mg : Str → Option Value) (W : WX)
def EvI (p : Bool) (wi : TI) (m : M (List D)) : Prop := ∀ B env σ H F (Q : It → Hp → Prop), Sta K B env σ H F → (match m env with
  | .ok xs env' => ∀ J H' F', Sta K B env' σ H' F' → Feeds K (Fz B H' F') J xs → Nxt H F H' F' → PureP p env env' F F' H H' → Q J H'
  | .ex e env' => ExP K mg W B σ H F e env'
  | .no => False) → wi σ H Q
/-- a target of a frozen value: the slots js are set -/
def EvG (js : List Nat) (g : TG) (bd : D → Env → Option Env) : Prop := ∀ B env σ H F d v env' (Q : St → Hp → Prop), Sta K B env σ H F → Rep K (Fz B H F) d v → bd d env = some env' →
  (∀ σ' F', Sta K B env' σ' H F' → (∀ a ∈ F', a ∈ F) → (∀ i, i ∉ js → σ'[i]? = σ[i]?) → σ'.length = σ.length → Q σ' H) → g v σ H Q
end
/-- the items of a list, a tuple, a script -/
def itemsD : D → Option (List D)
  | .lst ds => some ds
  | .tup ds => some ds
  | .tz ds => some ds
  | .scr ns => some (ns.map .int)
  | _ => none
def itemsM (m : M D) : M (List D) := fun env => match m env with
  | .ok d e => match itemsD d with
    | some ds => .ok ds e
    | none => .no
  | .ex e e2 => .ex e e2
  | .no => .no
/-- list or tuple -/
def iSeq (K : PySem.W.Frag) (tl : TE) : TI := fun σ H R => tl σ H fun x H1 => ∃ a, x = .ref a ∧ (((∃ xs, SqL K H1 a xs) ∧ R (Itl K a) H1) ∨ ((∃ xs, SqT K H1 a xs) ∧ R (Itt K a) H1))
theorem pi_seq {X : Cx} {tg l : Expr} {tl : TE} (hl : PE X l tl) : PI X tg l (iSeq X.K tl) := by
  refine ⟨fun pins s σ H R I h => ?_⟩
  refine thn (hl.run pins s σ H _ I h) fun v s1 ⟨x, H1, I1, r1, q1⟩ => ?_
  obtain ⟨a, e, q1⟩ := q1
  subst e
  cases r1
  rcases q1 with ⟨⟨xs, hq⟩, q⟩ | ⟨⟨xs, hq⟩, q⟩
  · obtain ⟨its, rv, p, hz⟩ := I1.list hq
    refine wpAny_pyIter_list p.isList ?_
    refine ⟨s1.heap.objs.size, [s1.heap.objs.size], _, _, H1, rfl, I1.kept (t' := s1.toks) fun b o e => Heap.get?_push_of_some _ e, turn_list a _, ⟨_, Heap.get?_push_size _ rfl, rfl, rfl⟩, fun b hb => ?_, q⟩
    have e : b = s1.heap.objs.size := by simpa using hb
    subst e
    exact I1.fpOk (Nat.le_refl _) (I1.hok.fresh (Nat.le_refl _))
  · obtain ⟨its, rv, p, hz⟩ := I1.tuple hq
    refine wpAny_pyIter_tuple (show s1.heap.IsTuple a its.toArray from p) ?_
    refine ⟨s1.heap.objs.size, [s1.heap.objs.size], _, _, H1, rfl, I1.kept (t' := s1.toks) fun b o e => Heap.get?_push_of_some _ e, turn_tuple a _, ⟨_, Heap.get?_push_size _ rfl, rfl, rfl⟩, fun b hb => ?_, q⟩
    have e : b = s1.heap.objs.size := by simpa using hb
    subst e
    exact I1.fpOk (Nat.le_refl _) (I1.hok.fresh (Nat.le_refl _))
section
variable {K : PySem.W.Frag} {mg : Str → Option Value} {W : WX} {p q : Bool} {te tl : TE} {m : M D} {tA : TA} {ms : M (List D)} {i : Nat} {Z : Hp}
theorem feeds_list {a : Addr} {vs : List V} {ds : List D} (h : Z a = some (.lst vs)) (r : RepL K Z ds vs) : Feeds K Z (Itl K a) ds := fun H i ez => by
  have hH := ez _ _ h
  refine ⟨fun d hd => ?_, fun hl => ⟨vs, .of hH, by rw [← r.length]; exact hl⟩⟩
  obtain ⟨v, hv, rv⟩ := r.get hd
  exact ⟨⟨vs, v, .of hH, hv⟩, fun x H' y => .inl ⟨y.1, by
    have := y.2 vs (.of hH)
    rw [hv] at this
    cases this
    exact rv⟩⟩
theorem feeds_tup {a : Addr} {vs : List V} {ds : List D} (h : Z a = some (.tup vs)) (r : RepL K Z ds vs) : Feeds K Z (Itt K a) ds := fun H i ez => by
  have hH := ez _ _ h
  refine ⟨fun d hd => ?_, fun hl => ⟨vs, .of hH, by rw [← r.length]; exact hl⟩⟩
  obtain ⟨v, hv, rv⟩ := r.get hd
  exact ⟨⟨vs, v, .of hH, hv⟩, fun x H' y => .inl ⟨y.1, by
    have := y.2 vs (.of hH)
    rw [hv] at this
    cases this
    exact rv⟩⟩
theorem feeds_tz {a : Addr} {o : Obj} {vs : List V} {ds : List D} (h : Z a = some (.frz o (.tup vs))) (r : RepL K Z ds vs) : Feeds K Z (Itt K a) ds := fun H i ez => by
  have hH : SqT K H a vs := .inl (.inr ⟨o, ez _ _ h⟩)
  refine ⟨fun d hd => ?_, fun hl => ⟨vs, hH, by rw [← r.length]; exact hl⟩⟩
  obtain ⟨v, hv, rv⟩ := r.get hd
  exact ⟨⟨vs, v, hH, hv⟩, fun x H' y => .inl ⟨y.1, by
    have := y.2 vs hH
    rw [hv] at this
    cases this
    exact rv⟩⟩
theorem repL_ints {Z : Hp} : ∀ ns : List Int, RepL K Z (ns.map D.int) (ns.map V.int)
  | [] => .nil
  | n :: ns => .cons (.int n) (repL_ints ns)
theorem feeds_scr {a : Addr} {ns : List Int} (h : SqL K Z a (ns.map V.int)) : Feeds K Z (Itl K a) (ns.map .int) := fun H i ez => by
  have hH := sql_mono ez h
  refine ⟨fun d hd => ?_, fun hl => ⟨_, hH, by rw [List.length_map] at *; exact hl⟩⟩
  obtain ⟨v, hv, rv⟩ := (repL_ints (K := K) (Z := Z) ns).get hd
  exact ⟨⟨_, v, hH, hv⟩, fun x H' y => .inl ⟨y.1, by
    have := y.2 _ hH
    rw [hv] at this
    cases this
    exact rv⟩⟩
theorem feeds_range {lo : Int} {n : Nat} : Feeds K Z (Itr lo n) ((List.range n).map fun i => .int (lo + (i : Nat))) := fun H i ez => by
  refine ⟨fun d hd => ?_, fun hl => show n ≤ i by simpa using hl⟩
  rw [List.getElem?_map] at hd
  cases e : (List.range n)[i]? with
  | none => rw [e] at hd; cases hd
  | some j =>
    obtain ⟨h1, h2⟩ := List.getElem?_eq_some_iff.mp e
    rw [List.getElem_range] at h2
    rw [List.length_range] at h1
    rw [e] at hd
    cases hd
    subst h2
    exact ⟨h1, fun x H' y => .inl ⟨y.1, by rw [y.2]; exact .int _⟩⟩
theorem ei_seq (h1 : EvE K mg W p tl m) : EvI K mg W p (iSeq K tl) (itemsM m) := fun B env σ H F Q S h => by
  refine h1 B env σ H F _ S ?_
  unfold itemsM at h
  cases em : m env with
  | ok d e =>
    rw [em] at h
    intro v H' F' Fd S' N P
    obtain ⟨S2, r⟩ := S'.freeze
    have r1 : Rep K (Fz B H' F') d v := by
      cases r with
      | cons r _ => exact r
    dsimp only at h
    cases r1 with
    | lst hz rl => exact ⟨_, rfl, .inl ⟨⟨_, .of (fz_ex _ _ _ _ _ hz)⟩, h _ H' F' S2 (feeds_list hz rl) (N.weak fun a m => List.mem_append_left _ m) P⟩⟩
    | tup hz rl => exact ⟨_, rfl, .inr ⟨⟨_, .of (fz_ex _ _ _ _ _ hz)⟩, h _ H' F' S2 (feeds_tup hz rl) (N.weak fun a m => List.mem_append_left _ m) P⟩⟩
    | tz hz _ rl => exact ⟨_, rfl, .inr ⟨⟨_, .inl (.inr ⟨_, fz_ex _ _ _ _ _ hz⟩)⟩, h _ H' F' S2 (feeds_tz hz rl) (N.weak fun a m => List.mem_append_left _ m) P⟩⟩
    | scr hz => exact ⟨_, rfl, .inl ⟨⟨_, sql_mono (fz_ex _ _ _) hz⟩, h _ H' F' S2 (feeds_scr hz) (N.weak fun a m => List.mem_append_left _ m) P⟩⟩
    | _ => exact h.elim
  | ex e e2 => rw [em] at h; exact h
  | no => rw [em] at h; exact h
def rangeL (lo : Int) (n : Nat) : List D := (List.range n).map fun i => .int (lo + (i : Nat))
def range1M (ms : M (List D)) : M (List D) := fun env => match ms env with
  | .ok [.int j] e => haveI : Decidable (-(2 ^ 62) ≤ j ∧ j < 2 ^ 62) := Classical.propDecidable _; if -(2 ^ 62) ≤ j ∧ j < 2 ^ 62 then .ok (rangeL 0 j.toNat) e else .no
  | .ok _ _ => .no
  | .ex e e2 => .ex e e2
  | .no => .no
theorem ei_range1 (h1 : EvR K mg W p tA ms) : EvI K mg W p (iRng1 tA) (range1M ms) := fun B env σ H F Q S h => by
  refine h1 B env σ H F _ S ?_
  unfold range1M at h
  cases em : ms env with
  | ok ds e =>
    rw [em] at h
    intro vs H' F' S' r N P
    split at h
    · rename_i xs env' eq
      split at eq
      · rename_i j e' eq2
        cases eq2
        obtain ⟨x, rfl, rx⟩ := r.one_inv
        cases rx
        split at eq
        · rename_i hb
          cases eq
          exact ⟨j, rfl, hb.1, hb.2, h _ H' F' S' feeds_range N P⟩
        · cases eq
      · cases eq
      · cases eq
      · cases eq
    · rename_i eq
      split at eq
      · split at eq <;> cases eq
      · cases eq
      · rename_i eq2; cases eq2
      · cases eq
    · exact h.elim
  | ex e e2 => rw [em] at h; exact h
  | no => rw [em] at h; exact h
/-! ### targets -/
def bdName (i : Nat) (d : D) (env : Env) : Option Env := if i < env.length then some (env.set i (some (false, d))) else none
theorem eg_name (i : Nat) : EvG K [i] (gName i) (bdName i) := fun B env σ H F d v env' Q S r e q => by
  unfold bdName at e
  split at e
  · rename_i hl
    cases e
    obtain ⟨F2, S3, sub⟩ := S.putF (i := i) r hl
    exact q _ F2 S3 sub (fun j hj => List.getElem?_set_ne (fun z => hj (by rw [z]; exact List.mem_singleton_self _))) (List.length_set)
  · cases e
def bdList : List (D → Env → Option Env) → List D → Env → Option Env
  | [], [], env => some env
  | b :: bs, d :: ds, env => match b d env with
    | some e => bdList bs ds e
    | none => none
  | _, _, _ => none
def bdTup (bs : List (D → Env → Option Env)) (d : D) (env : Env) : Option Env := match d with
  | .tup ds => bdList bs ds env
  | .tz ds => bdList bs ds env
  | _ => none
end
end MM

set_option Elab.async false
set_option linter.all false
set_option maxRecDepth 100000
set_option maxHeartbeats 4000000
noncomputable section
namespace MM
open PySem PySem.Spec PyProof.Rows L2

def forM (bd : D → Env → Option Env) (body : MS) : List D → MS
  | [], env => .nx env
  | d :: ds, env => match bd d env with
    | none => .no
    | some e1 => match body e1 with
      | .nx e2 => forM bd body ds e2
      | .ct e2 => forM bd body ds e2
      | .bk e2 => .nx e2
      | r => r
def loopM (mi : M (List D)) (bd : D → Env → Option Env) (body : MS) : MS := fun env => match mi env with
  | .ok xs e => forM bd body xs e
  | .ex e e2 => .ex e e2
  | .no => .no
def wipeE (env : Env) : List Nat → Env
  | [] => env
  | v :: vs => (wipeE env vs).set v none
def restE (e1 : Env) : List Nat → Env → Env
  | [], e2 => e2
  | j :: js, e2 => match e1[j]? with
    | some (some (false, d)) => (restE e1 js e2).set j (some (false, d))
    | _ => (restE e1 js e2).set j none
def compM (vs : List Nat) (bd : D → Env → Option Env) (tt : M Bool) (el : M D) : List D → M (List D)
  | [], env => .ok [] env
  | d :: ds, env => match bd d env with
    | none => .no
    | some e1 => match tt e1 with
      | .ok true e2 => match el e2 with
        | .ok y e3 => match compM vs bd tt el ds (wipeE e3 vs) with
          | .ok ys e4 => .ok (y :: ys) e4
          | _ => .no
        | _ => .no
      | .ok false e2 => compM vs bd tt el ds (wipeE e2 vs)
      | _ => .no
def lcM (vs : List Nat) (mi : M (List D)) (bd : D → Env → Option Env) (tt : M Bool) (el : M D) : M D := fun env => match mi env with
  | .ok xs e1 => haveI : Decidable (xs.length ≤ sizeLine) := Classical.propDecidable _; if xs.length ≤ sizeLine then match compM vs bd tt el xs (wipeE e1 vs) with
    | .ok ys e2 => .ok (.lst ys) (restE e1 vs e2)
    | _ => .no
    else .no
  | .ex e e2 => .ex e e2
  | .no => .no
def yesM : M Bool := fun env => .ok true env
section
variable {K : PySem.W.Frag} {mg : Str → Option Value} {W : WX} {ps : List Nat} {ro : Bool} {p q : Bool} {t : TS} {a : MS} {wi : TI} {mi : M (List D)} {g : TG} {js : List Nat} {bd : D → Env → Option Env} {i : Nat}
  {B : Addr → Prop} {env : Env} {σ : St} {H H0 : Hp} {F F0 Fd : List Addr} {ds : List D} {vs : List V}

theorem nxt_ex {H' : Hp} {F' : List Addr} (N : Nxt H F H' F') : Ex (Fz B H F) (Fz B H' F') := fz_mk fun b o e m n => ⟨N.fr b o e m, (fun z => (N.sub b z).elim m fun z => by (rw [z] at e; cases e)), n⟩
theorem nxt_exH {H' : Hp} {F' : List Addr} (N : Nxt H F H' F') : Ex (Fz B H F) H' := fun b o e => by
  obtain ⟨e1, m, n⟩ := fz_some e
  exact N.fr b o e1 m
/-- the datum that has come -/
theorem yld_sta {Z H2 : Hp} {d : D} {x : V} (S : Sta K B env σ H F) (ez : Ex Z (Fz B H F)) (y : YldOk K Z H d x H2) : Sta K B env σ H2 F ∧ Rep K (Fz B H2 F) d x ∧ Ex H H2 := by
  rcases y with ⟨rfl, r⟩ | ⟨ds, vs, T, rfl, rfl, hT, r, rfl⟩
  · exact ⟨S, r.mono ez, .refl _⟩
  · have S2 := S.new (o := .tup vs) hT
    have hn := S.nil.sub0 hT
    rw [List.append_nil] at hn
    have e2 : Ex (Fz B H F) (Fz B (upd H T (.tup vs)) F) := fz_mk fun b o e m n => ⟨ex_new hT _ _ e, m, n⟩
    exact ⟨S2, .tup (by rw [fz_in hn.1 hn.2]; exact upd_same) ((r.mono ez).mono e2), ex_new hT⟩
theorem es_for (hi : EvI K mg W p wi mi) (hg : EvG K js g bd) (hb : EvS K mg W ps ro t a) (hj : ∀ j ∈ ps, j ∉ js) : EvS K mg W ps ro (tFor wi g t) (loopM mi bd a) := fun B env σ H F D S h => by
  refine hi B env σ H F _ S ?_
  unfold loopM at h
  cases em : mi env with
  | ex e e2 => rw [em] at h; exact .xs h
  | no => rw [em] at h; exact h
  | ok xs e =>
    rw [em] at h
    dsimp only at h
    intro J H1 F1 S1 fd N1 _
    refine ⟨fun i m σ2 H2 => m = xs.length - i ∧ i ≤ xs.length ∧ ∃ F2 env2, Sta K B env2 σ2 H2 F2 ∧ Nxt H1 F1 H2 F2 ∧ Kp ps σ σ2 ∧ PostS K mg W ps ro B σ2 H2 F2 D (forM bd a (xs.drop i) env2),
      ⟨_, rfl, Nat.zero_le _, F1, e, S1, .refl, .refl, h.mono (fun _ _ n => N1.trans n fun a m => m) .refl⟩, ?_⟩
    rintro i m σ2 H2 ⟨rfl, hle, F2, env2, S2, N2, k2, h2⟩
    obtain ⟨fy, fs⟩ := fd H2 i (nxt_exH N2)
    by_cases hl : i < xs.length
    · refine .inr ?_
      obtain ⟨go, yl⟩ := fy xs[i] (List.getElem?_eq_getElem hl)
      rw [List.drop_eq_getElem_cons hl] at h2
      unfold forM at h2
      cases eb : bd xs[i] env2 with
      | none => rw [eb] at h2; exact h2.elim
      | some e1 =>
        rw [eb] at h2
        dsimp only at h2
        refine ⟨go, _, fun σ' H' n' => n', fun x H3 y => ?_⟩
        obtain ⟨S3, r3, ex3⟩ := yld_sta S2 (nxt_ex N2) (yl x H3 y)
        refine hg B env2 σ2 H3 F2 xs[i] x e1 _ S3 r3 eb fun σ4 F4 S4 sub4 k4 _ => ?_
        have N4 : Nxt H2 F2 H3 F4 := ⟨fun b o e _ => ex3 _ _ e, fun a m => .inl (sub4 a m)⟩
        have kp4 : Kp ps σ2 σ4 := fun j hjp => k4 j (hj j hjp)
        refine hb B e1 σ4 H3 F4 _ S4 ?_
        have go : ∀ {e5 : Env}, PostS K mg W ps ro B σ2 H2 F2 D (forM bd a (xs.drop (i + 1)) e5) → NxP K ps B σ4 H3 F4 e5 (fun σ' H' => ∃ m', m' < xs.length - i ∧ m' = xs.length - (i + 1) ∧ i + 1 ≤ xs.length ∧ ∃ F2 env2, Sta K B env2 σ' H' F2 ∧ Nxt H1 F1 H' F2 ∧ Kp ps σ σ' ∧ PostS K mg W ps ro B σ' H' F2 D (forM bd a (xs.drop (i + 1)) env2)) := fun {e5} h5 σ' H' F' S' N' kp =>
          ⟨_, by omega, rfl, hl, F', e5, S', N2.trans (N4.trans N' fun a m => m) fun a m => m, k2.trans (kp4.trans kp), h5.mono (fun _ _ n => N4.trans (N'.trans n fun a m => m) fun a m => m) (kp4.trans kp)⟩
        cases ea : a e1 with
        | nx e5 => rw [ea] at h2; exact go h2
        | ct e5 => rw [ea] at h2; exact go h2
        | bk e5 => rw [ea] at h2; exact fun σ' H' F' S' N' kp => h2 σ' H' F' S' (N4.trans N' fun a m => m) (kp4.trans kp)
        | rt d e5 => rw [ea] at h2; exact fun v σ' H' F' Fd S' x N' kp => h2 v σ' H' F' Fd S' x (N4.trans N' fun a m => m) (kp4.trans kp)
        | ex e6 e5 => rw [ea] at h2; exact fun c d σ' H' F' S' N' kp x => h2 c d σ' H' F' S' (N4.trans N' fun a m => m) (kp4.trans kp) x
        | no => rw [ea] at h2; exact h2
    · have hd : xs.drop i = [] := List.drop_eq_nil_of_le (by omega)
      rw [hd] at h2
      exact .inl ⟨fs (by omega), h2 σ2 H2 F2 S2 .refl .refl⟩

/-! ### comprehensions -/
theorem StaL.setN (S : StaL K B env σ H F ds vs Fd) (i : Nat) (o : Option V) : ∃ F', StaL K B (env.set i none) (σ.set i o) H F' ds vs Fd ∧ ∀ a ∈ F', a ∈ F := by
  by_cases hl : i < env.length
  · obtain ⟨F1, Fi, F2, eF, _, g⟩ := S.rel.cut hl
    have sub : ∀ a ∈ F1 ++ F2, a ∈ F := fun a m => by
      rw [eF]
      rcases List.mem_append.mp m with m | m
      · exact List.mem_append_left _ m
      · exact List.mem_append_right _ (List.mem_append_right _ m)
    have sub2 : ∀ a ∈ (F1 ++ F2) ++ Fd, a ∈ F ++ Fd := fun a m => (List.mem_append.mp m).elim (fun m => List.mem_append_left _ (sub a m)) fun m => List.mem_append_right _ m
    have ex : Ex (Fz B H (F ++ Fd)) (Fz B H ((F1 ++ F2) ++ Fd)) := fz_mk fun b o e m n => ⟨e, fun z => m (sub2 b z), n⟩
    obtain ⟨_, _, g3⟩ := g H (Fz B H ((F1 ++ F2) ++ Fd)) ex fun _ _ _ h => h
    have nd := S.nd
    rw [eF] at nd
    refine ⟨F1 ++ F2, ⟨g3 o, S.own.step ex fun _ _ _ h => h, ?_, fun a m => S.liv a (sub2 a m), fun b q => ⟨(S.bad b q).1, fun z => (S.bad b q).2 (sub2 b z)⟩⟩, sub⟩
    simp only [List.nodup_append, List.mem_append] at nd ⊢
    grind
  · have e1 : env.set i none = env := List.set_eq_of_length_le (by omega)
    have e2 : σ.set i o = σ := List.set_eq_of_length_le (by rw [← S.sta.lenE]; omega)
    rw [e1, e2]
    exact ⟨F, S, fun a m => m⟩
theorem StaL.wipe (S : StaL K B env σ H F ds vs Fd) : ∀ ws : List Nat, ∃ F', StaL K B (wipeE env ws) (L2.wipe σ ws) H F' ds vs Fd ∧ ∀ a ∈ F', a ∈ F
  | [] => ⟨F, S, fun a m => m⟩
  | w :: ws => by
    obtain ⟨F1, S1, s1⟩ := StaL.wipe S ws
    obtain ⟨F2, S2, s2⟩ := S1.setN w none
    exact ⟨F2, S2, fun a m => s1 a (s2 a m)⟩
theorem StaL.setF {d : D} {v : V} (S : StaL K B env σ H F ds vs Fd) (r : Rep K (Fz B H (F ++ Fd)) d v) (i : Nat) : ∃ F', StaL K B (env.set i (some (false, d))) (σ.set i (some v)) H F' ds vs Fd ∧ ∀ a ∈ F', a ∈ F := by
  by_cases hl : i < env.length
  · obtain ⟨F1, Fi, F2, eF, _, g⟩ := S.rel.cut hl
    have sub : ∀ a ∈ F1 ++ F2, a ∈ F := fun a m => by
      rw [eF]
      rcases List.mem_append.mp m with m | m
      · exact List.mem_append_left _ m
      · exact List.mem_append_right _ (List.mem_append_right _ m)
    have sub2 : ∀ a ∈ (F1 ++ F2) ++ Fd, a ∈ F ++ Fd := fun a m => (List.mem_append.mp m).elim (fun m => List.mem_append_left _ (sub a m)) fun m => List.mem_append_right _ m
    have ex : Ex (Fz B H (F ++ Fd)) (Fz B H ((F1 ++ F2) ++ Fd)) := fz_mk fun b o e m n => ⟨e, fun z => m (sub2 b z), n⟩
    obtain ⟨_, g2, _⟩ := g H (Fz B H ((F1 ++ F2) ++ Fd)) ex fun _ _ _ h => h
    have nd := S.nd
    rw [eF] at nd
    refine ⟨F1 ++ F2, ⟨g2 d v (r.mono ex), S.own.step ex fun _ _ _ h => h, ?_, fun a m => S.liv a (sub2 a m), fun b q => ⟨(S.bad b q).1, fun z => (S.bad b q).2 (sub2 b z)⟩⟩, sub⟩
    simp only [List.nodup_append, List.mem_append] at nd ⊢
    grind
  · have e1 : env.set i (some (false, d)) = env := List.set_eq_of_length_le (by omega)
    have e2 : σ.set i (some v) = σ := List.set_eq_of_length_le (by rw [← S.sta.lenE]; omega)
    rw [e1, e2]
    exact ⟨F, S, fun a m => m⟩
def unw (σ : St) : List Nat → St → St
  | [], s => s
  | j :: js, s => (unw σ js s).set j ((σ[j]?).getD none)
theorem wipe_get (σ : St) : ∀ (vs : List Nat) (i : Nat), (L2.wipe σ vs)[i]? = if i ∈ vs ∧ i < σ.length then some none else σ[i]?
  | [], i => by simp [L2.wipe]
  | v :: vs, i => by
    unfold L2.wipe
    rw [List.getElem?_set, wipe_length, wipe_get σ vs i]
    by_cases e : v = i
    · subst e
      by_cases hl : v < σ.length
      · simp [hl]
      · simp only [hl, and_false, if_false]
        rw [List.getElem?_eq_none (by omega)]
        simp
    · simp only [e, if_false, List.mem_cons]
      have : i ≠ v := fun z => e z.symm
      simp only [this, false_or]
theorem unw_length (σ : St) : ∀ (js : List Nat) (s : St), (unw σ js s).length = s.length
  | [], s => rfl
  | j :: js, s => by unfold unw; rw [List.length_set, unw_length σ js s]
theorem unw_get (σ s : St) (hl : s.length = σ.length) : ∀ (js : List Nat) (i : Nat), (unw σ js s)[i]? = if i ∈ js then σ[i]? else s[i]?
  | [], i => by simp [unw]
  | j :: js, i => by
    unfold unw
    rw [List.getElem?_set, unw_length, unw_get σ s hl js i]
    by_cases e : j = i
    · subst e
      by_cases h : j < s.length
      · simp only [h, if_true, List.mem_cons, true_or]
        have h' : j < σ.length := by omega
        rw [List.getElem?_eq_getElem h']
        rfl
      · simp only [h, if_true, if_false, List.mem_cons, true_or]
        rw [List.getElem?_eq_none (by omega)]
    · simp only [e, if_false, List.mem_cons]
      have : i ≠ j := fun z => e z.symm
      simp only [this, false_or]
theorem unw_wipe (σ : St) (vs : List Nat) : unw σ vs (L2.wipe σ vs) = σ := by
  refine List.ext_getElem? fun i => ?_
  rw [unw_get σ _ (wipe_length σ vs), wipe_get]
  by_cases h : i ∈ vs
  · rw [if_pos h]
  · rw [if_neg h, if_neg fun z => h z.1]
theorem wipe_eq {σ σ' : St} {vs : List Nat} (hl : σ'.length = σ.length) (h : ∀ i, i ∉ vs → σ'[i]? = (L2.wipe σ vs)[i]?) : L2.wipe σ' vs = L2.wipe σ vs := by
  refine List.ext_getElem? fun i => ?_
  rw [wipe_get]
  by_cases m : i ∈ vs
  · by_cases l : i < σ'.length
    · rw [if_pos ⟨m, l⟩, wipe_get, if_pos ⟨m, by omega⟩]
    · rw [if_neg fun z => l z.2, List.getElem?_eq_none (by omega), List.getElem?_eq_none (by rw [wipe_length]; omega)]
  · rw [if_neg fun z => m z.1, h i m]
/-- back to the def's slots -/
theorem StaL.rest {e1 e2 : Env} {σw : St} (S : StaL K B e2 σw H F ds vs Fd) (hold : ∀ (j : Nat) (d : D), e1[j]? = some (some (false, d)) → ∃ v, σ[j]? = some (some v) ∧ Rep K (Fz B H (F ++ Fd)) d v) :
    ∀ ws : List Nat, ∃ F', StaL K B (restE e1 ws e2) (unw σ ws σw) H F' ds vs Fd ∧ ∀ a ∈ F', a ∈ F
  | [] => ⟨F, S, fun a m => m⟩
  | w :: ws => by
    obtain ⟨F1, S1, s1⟩ := StaL.rest S hold ws
    have ex : Ex (Fz B H (F ++ Fd)) (Fz B H (F1 ++ Fd)) := fz_mk fun b o e m n => ⟨e, fun z => m ((List.mem_append.mp z).elim (fun z => List.mem_append_left _ (s1 b z)) fun z => List.mem_append_right _ z), n⟩
    unfold restE unw
    split
    · rename_i d e
      obtain ⟨v, hv, r⟩ := hold w d e
      rw [hv]
      obtain ⟨F2, S2, s2⟩ := S1.setF (r.mono ex) w
      exact ⟨F2, S2, fun a m => s1 a (s2 a m)⟩
    · obtain ⟨F2, S2, s2⟩ := S1.setN w ((σ[w]?).getD none)
      exact ⟨F2, S2, fun a m => s1 a (s2 a m)⟩
/-- an item put to the list in hand -/
theorem StaL.app {Dl : Addr} {acc : List V} {es : List D} {y : D} {v : V} {Fa Fy : List Addr} (S : StaL K B env σ H F [.lst es, y] [.ref Dl, v] ((Dl :: Fa) ++ Fy)) (hD : H Dl = some (.lst acc))
    (oa : OwnL K H (Fz B H (F ++ ((Dl :: Fa) ++ Fy))) es acc Fa) (oy : Own K H (Fz B H (F ++ ((Dl :: Fa) ++ Fy))) y v Fy) :
    StaL K B env σ (upd H Dl (.lst (acc ++ [v]))) F [.lst (es ++ [y])] [.ref Dl] (Dl :: (Fa ++ Fy)) := by
  have eFF : F ++ (Dl :: (Fa ++ Fy)) = F ++ ((Dl :: Fa) ++ Fy) := rfl
  have nd := S.nd
  have dn : Dl ∉ F ∧ Dl ∉ Fa ∧ Dl ∉ Fy := by
    simp only [List.nodup_append, List.nodup_cons, List.mem_append, List.mem_cons, List.cons_append] at nd
    grind
  have ex : Ex (Fz B H (F ++ ((Dl :: Fa) ++ Fy))) (Fz B (upd H Dl (.lst (acc ++ [v]))) (F ++ (Dl :: (Fa ++ Fy)))) := fz_mk fun b o e m n => by
    have nb : b ≠ Dl := fun z => m (by rw [z]; exact List.mem_append_right _ (List.mem_append_left _ List.mem_cons_self))
    exact ⟨by rw [upd_ne nb]; exact e, m, n⟩
  have kp : ∀ a, a ≠ Dl → ∀ o, H a = some o → (upd H Dl (.lst (acc ++ [v]))) a = some o := fun a n o h => by rw [upd_ne n]; exact h
  refine ⟨S.rel.step ex fun a m o h => kp a (fun z => by subst z; exact dn.1 m) o h, .one (.lst upd_same ?_), by rw [eFF]; exact S.nd, fun a m => ?_, fun b q => ⟨?_, (S.bad b q).2⟩⟩
  · exact (oa.step ex fun a m o h => kp a (fun z => by subst z; exact dn.2.1 m) o h).snoc (oy.step ex fun a m o h => kp a (fun z => by subst z; exact dn.2.2 m) o h)
  · by_cases e : a = Dl
    · subst e; rw [upd_same]; exact ⟨nofun, nofun, nofun⟩
    · rw [upd_ne e]; exact S.liv a m
  · by_cases e : b = Dl
    · subst e; rw [upd_same]; exact ⟨nofun, nofun, nofun⟩
    · rw [upd_ne e]; exact (S.bad b q).1
theorem en_lc {ws : List Nat} {tt : TT} {te : TE} {mt : M Bool} {me : M D} {q1 q2 : Bool} (hi : EvI K mg W p wi mi) (hg : EvG K js g bd) (ht : EvB K mg (fun _ _ _ _ => False) q1 tt mt) (he : EvE K mg (fun _ _ _ _ => False) q2 te me) (hj : ∀ j ∈ js, j ∈ ws) :
    EvN K mg W false (tLc wi g tt te ws) (lcM ws mi bd mt me) := fun B env σ H F Q S h => by
  refine hi B env σ H F _ S ?_
  unfold lcM at h
  cases em : mi env with
  | ex e e2 => rw [em] at h; exact h
  | no => rw [em] at h; exact h
  | ok xs e1 =>
    rw [em] at h
    dsimp only at h
    intro J H1 F1 S1 fd N1 _ Dl hDl
    by_cases hz : xs.length ≤ sizeLine
    · rw [if_pos hz] at h
      -- the start
      obtain ⟨Fw, Sw, sw⟩ := S1.nil.wipe ws
      have S0 := Sw.mkL hDl
      have N0 : Nxt H1 F1 (upd H1 Dl (.lst [])) (Fw ++ [Dl]) := ((Nxt.refl (H := H1) (F := F1)).add (o := .lst []) hDl).weak fun a m => (List.mem_append.mp m).elim (fun m => List.mem_cons_of_mem _ (sw a m)) fun m => by rw [List.mem_singleton.mp m]; exact List.mem_cons_self
      refine ⟨fun i m H2 => m = xs.length - i ∧ i ≤ xs.length ∧ ∃ F2 env2 es acc Fa, StaL K B env2 (L2.wipe σ ws) H2 F2 [.lst es] [.ref Dl] (Dl :: Fa) ∧ H2 Dl = some (.lst acc) ∧ OwnL K H2 (Fz B H2 (F2 ++ (Dl :: Fa))) es acc Fa ∧ Nxt H1 F1 H2 (F2 ++ (Dl :: Fa)) ∧ es.length ≤ i ∧
          ∃ ys e3, compM ws bd mt me (xs.drop i) env2 = .ok ys e3 ∧ compM ws bd mt me xs (wipeE e1 ws) = .ok (es ++ ys) e3, ⟨_, rfl, Nat.zero_le _, ?_⟩, ?_⟩
      · cases ec : compM ws bd mt me xs (wipeE e1 ws) with
        | ok ys e3 => exact ⟨Fw, _, [], [], [], S0, upd_same, .nil, N0, Nat.le_refl _, ys, e3, by rw [List.drop_zero]; exact ec, rfl⟩
        | ex => rw [ec] at h; exact h.elim
        | no => rw [ec] at h; exact h.elim
      · rintro i m H2 ⟨rfl, hle, F2, env2, es, acc, Fa, S2, hD2, oa, N2, hes, ys, e3, ec, ec0⟩
        obtain ⟨fy, fs⟩ := fd H2 i (nxt_exH N2)
        have exZ : Ex (Fz B H1 F1) (Fz (Hid B (Dl :: Fa)) H2 F2) := by
          have := nxt_ex (B := B) N2
          have e : Fz (Hid B (Dl :: Fa)) H2 F2 = Fz B H2 (F2 ++ (Dl :: Fa)) := fz_congr fun b => by
            show b ∈ F2 ∨ (B b ∨ b ∈ Dl :: Fa) ↔ b ∈ F2 ++ (Dl :: Fa) ∨ B b
            rw [List.mem_append, or_assoc, or_comm (a := B b)]
          rw [e]
          exact this
        by_cases hl : i < xs.length
        · refine .inr ?_
          obtain ⟨go, yl⟩ := fy xs[i] (List.getElem?_eq_getElem hl)
          rw [List.drop_eq_getElem_cons hl] at ec
          unfold compM at ec
          cases eb : bd xs[i] env2 with
          | none => rw [eb] at ec; cases ec
          | some e4 =>
            rw [eb] at ec
            dsimp only at ec
            refine ⟨go, _, fun H' n' => n', fun x H3 y => ?_⟩
            obtain ⟨S3, r3, ex3⟩ := yld_sta S2.hide exZ (yl x H3 y)
            refine hg _ env2 _ H3 F2 xs[i] x e4 _ S3 r3 eb fun σ4 F4 S4 sub4 k4 l4 => ?_
            have hw : L2.wipe σ4 ws = L2.wipe σ ws := wipe_eq (l4.trans (wipe_length σ ws)) fun j hj' => k4 j fun z => hj' (hj j z)
            refine ⟨hw, ?_⟩
            refine ht _ e4 σ4 H3 F4 _ S4 ?_
            cases et : mt e4 with
            | ex => rw [et] at ec; cases ec
            | no => rw [et] at ec; cases ec
            | ok b e5 =>
              rw [et] at ec
              intro H5 F5 S5 N5 _
              have N4 : Nxt H2 F2 H3 F4 := ⟨fun b o e _ => ex3 _ _ e, fun a m => .inl (sub4 a m)⟩
              have N25 : Nxt H2 F2 H5 F5 := N4.trans N5 fun a m => m
              have S25 : StaL K B e5 σ4 H5 F5 [.lst es] [.ref Dl] (Dl :: Fa) := by
                have := S2.cons S5.nil (by rw [List.append_nil]; exact N25)
                simpa using this
              have nd2 := List.nodup_append.mp S2.nd
              have hD5 : H5 Dl = some (.lst acc) := N25.fr _ _ hD2 fun z => nd2.2.2 Dl z Dl List.mem_cons_self rfl
              have oa5 : OwnL K H5 (Fz B H5 (F5 ++ (Dl :: Fa))) es acc Fa := by
                refine oa.step ?_ fun a m o ho => N25.fr a o ho fun z => nd2.2.2 a z a (List.mem_cons_of_mem _ m) rfl
                refine fz_mk fun b o e m n => ⟨N25.fr b o e fun z => m (List.mem_append_left _ z), fun z => ?_, n⟩
                rcases List.mem_append.mp z with z | z
                · exact (N25.sub b z).elim (fun z => m (List.mem_append_left _ z)) fun z => by rw [z] at e; cases e
                · exact m (List.mem_append_right _ z)
              have N15 : Nxt H1 F1 H5 (F5 ++ (Dl :: Fa)) := ⟨(N2.trans N25 fun a m => List.mem_append_left _ m).fr, fun a m => (List.mem_append.mp m).elim ((N2.trans N25 fun a m => List.mem_append_left _ m).sub a) fun m => N2.sub a (List.mem_append_right _ m)⟩
              cases b with
              | false =>
                rw [if_neg Bool.false_ne_true]
                dsimp only at ec
                obtain ⟨F6, S6, s6⟩ := S25.wipe ws
                rw [hw] at S6
                have exz : Ex (Fz B H5 (F5 ++ (Dl :: Fa))) (Fz B H5 (F6 ++ (Dl :: Fa))) := fz_mk fun b o e m n => ⟨e, fun z => m ((List.mem_append.mp z).elim (fun z => List.mem_append_left _ (s6 b z)) fun z => List.mem_append_right _ z), n⟩
                exact ⟨_, by omega, rfl, hl, F6, _, es, acc, Fa, S6, hD5, oa5.step exz fun _ _ _ h => h, N15.weak fun a m => (List.mem_append.mp m).elim (fun z => List.mem_append_left _ (s6 a z)) fun z => List.mem_append_right _ z, by omega, ys, e3, ec, ec0⟩
              | true =>
                rw [if_pos rfl]
                dsimp only at ec
                refine he _ e5 σ4 H5 F5 _ S5 ?_
                cases ee : me e5 with
                | ex => rw [ee] at ec; cases ec
                | no => rw [ee] at ec; cases ec
                | ok y e6 =>
                  rw [ee] at ec
                  dsimp only at ec
                  intro v H6 F6 Fy S6 N6 _
                  cases ec6 : compM ws bd mt me (xs.drop (i + 1)) (wipeE e6 ws) with
                  | ex => rw [ec6] at ec; cases ec
                  | no => rw [ec6] at ec; cases ec
                  | ok ys' e7 =>
                    rw [ec6] at ec
                    cases ec
                    have S7 := S25.cons S6 N6
                    have nd5 := List.nodup_append.mp S25.nd
                    have hD6 : H6 Dl = some (.lst acc) := N6.fr _ _ hD5 fun z => nd5.2.2 Dl z Dl List.mem_cons_self rfl
                    have exz : Ex (Fz B H5 (F5 ++ (Dl :: Fa))) (Fz B H6 (F6 ++ ((Dl :: Fa) ++ Fy))) := fz_mk fun b o e m n => by
                      have q : b ∈ F6 ++ Fy → False := fun z => (N6.sub b z).elim (fun z => m (List.mem_append_left _ z)) fun z => by rw [z] at e; cases e
                      refine ⟨N6.fr b o e fun z => m (List.mem_append_left _ z), fun z => ?_, n⟩
                      rcases List.mem_append.mp z with z | z
                      · exact q (List.mem_append_left _ z)
                      · rcases List.mem_append.mp z with z | z
                        · exact m (List.mem_append_right _ z)
                        · exact q (List.mem_append_right _ z)
                    have oa6 : OwnL K H6 (Fz B H6 (F6 ++ ((Dl :: Fa) ++ Fy))) es acc Fa := oa5.step exz fun a m o ho => N6.fr a o ho fun z => nd5.2.2 a z a (List.mem_cons_of_mem _ m) rfl
                    have oy : Own K H6 (Fz B H6 (F6 ++ ((Dl :: Fa) ++ Fy))) y v Fy := by
                      have o := S6.own
                      have e : Fz (Hid B (Dl :: Fa)) H6 (F6 ++ Fy) = Fz B H6 (F6 ++ ((Dl :: Fa) ++ Fy)) := fz_congr fun b => by
                        simp only [List.mem_append, Hid]
                        grind
                      rw [e] at o
                      obtain ⟨v', e', o⟩ := o.one_inv
                      cases e'
                      exact o
                    have S8 := S7.app hD6 oa6 oy
                    obtain ⟨F9, S9, s9⟩ := S8.wipe ws
                    rw [hw] at S9
                    refine ⟨acc, hD6, by rw [← oa6.length]; omega, _, by omega, rfl, hl, F9, _, es ++ [y], acc ++ [v], Fa ++ Fy, S9, upd_same, ?_, ?_, by rw [List.length_append, List.length_singleton]; omega, ys', e3, ec6, by rw [List.append_assoc]; exact ec0⟩
                    · obtain ⟨a, vs', G, e1', e2', e3', o⟩ := (S9.own.one_inv.elim fun v' hv' => by
                        obtain ⟨e, o⟩ := hv'
                        cases e
                        exact o : Own K _ _ (.lst (es ++ [y])) (.ref Dl) _).top (List.cons_ne_nil _ _)
                      cases e1'
                      rw [upd_same] at e2'
                      cases e2'
                      cases e3'
                      exact o
                    · have N16 : Nxt H1 F1 H6 (F6 ++ ((Dl :: Fa) ++ Fy)) := N15.cons N6
                      have N17 := N16.mut (o := .lst (acc ++ [v])) (l := Dl) (by simp) fun a m => m
                      exact N17.weak fun a m => (List.mem_append.mp m).elim (fun z => List.mem_append_left _ (s9 a z)) fun z => List.mem_append_right _ z
        · have hd : xs.drop i = [] := List.drop_eq_nil_of_le (by omega)
          rw [hd] at ec
          cases ec
          rw [List.append_nil] at ec0
          rw [ec0] at h
          dsimp only at h
          refine .inl ⟨fs (by omega), ?_⟩
          obtain ⟨F9, S9, s9⟩ := S2.rest (σ := σ) (e1 := e1) (fun j d ej => by
            obtain ⟨v, hv, r⟩ := S1.rel.fzAt ej
            exact ⟨v, hv, r.mono (nxt_ex N2)⟩) ws
          rw [unw_wipe] at S9
          refine h _ H2 F9 (Dl :: Fa) S9 (List.cons_ne_nil _ _) ?_ (fun z => nomatch z)
          exact (N1.trans N2 fun a m => m).weak fun a m => (List.mem_append.mp m).elim (fun z => List.mem_append_left _ (s9 a z)) fun z => List.mem_append_right _ z
    · rw [if_neg hz] at h
      exact h.elim
end
end MM

set_option Elab.async false
set_option linter.all false
set_option maxRecDepth 100000
set_option maxHeartbeats 4000000
noncomputable section
namespace MM
open PySem PySem.Spec PyProof.Rows L2

/-! ### defs -/
inductive RF where
  | ret (d : D) | ex (e : Exn) | no
inductive RP where
  | ret (d : D) (a : D) | ex (e : Exn) (a : D) | no
section
variable (K : PySem.W.Frag) (mg : Str → Option Value) (ro : Bool)
/-- a def that changes nothing that stood -/
def spF (f : List D → RF) : Sp := fun vs H Q E => ∃ (B : Addr → Prop) (ds : List D), (∀ b, B b → NT (H b)) ∧ RepL K (Fz B H []) ds vs ∧ match f ds with
  | .ret d => ∀ v H' Fd, StaL K B [] [] H' [] [d] [v] Fd → (ro = true → Exl d Fd) → Nxt H [] H' Fd → Q v H'
  | .ex e => ∀ cls dd H', Nxt H [] H' [] → ExnAt mg H' e cls dd → E cls dd H'
  | .no => False
/-- a def that changes its first argument -/
def spP (f : D → List D → RP) : Sp := fun vs H Q E => ∃ (B : Addr → Prop) (a : D) (ds : List D) (x : V) (xs : List V) (F0 : List Addr), vs = x :: xs ∧ Sta K B [some (true, a)] [some x] H F0 ∧ RepL K (Fz B H F0) ds xs ∧ match f a ds with
  | .ret d a' => ∀ v H' F' Fd, StaL K B [some (true, a')] [some x] H' F' [d] [v] Fd → (ro = true → Exl d Fd) → Nxt H F0 H' (F' ++ Fd) → Q v H'
  | .ex e a' => ∀ cls dd H' F', Sta K B [some (true, a')] [some x] H' F' → Nxt H F0 H' F' → ExnAt mg H' e cls dd → E cls dd H'
  | .no => False
end
def envF (n : Nat) (ds : List D) : Env := ds.map (fun d => some (false, d)) ++ List.replicate (n - ds.length) none
def envP (n : Nat) (a : D) (ds : List D) : Env := some (true, a) :: (ds.map (fun d => some (false, d)) ++ List.replicate (n - (ds.length + 1)) none)
/-- np parameters, n slots -/
def callF (np n : Nat) (m : MS) (ds : List D) : RF := if ds.length = np then match m (envF n ds) with
  | .nx _ => .ret .non
  | .rt d _ => .ret d
  | .ex e _ => .ex e
  | _ => .no
  else .no
def ownAt0 : Env → Option D
  | some (true, a) :: _ => some a
  | _ => none
def callP (np n : Nat) (m : MS) (a : D) (ds : List D) : RP := if ds.length + 1 = np then match m (envP n a ds) with
  | .nx e => match ownAt0 e with
    | some a' => .ret .non a'
    | none => .no
  | .rt d e => match ownAt0 e with
    | some a' => .ret d a'
    | none => .no
  | .ex x e => match ownAt0 e with
    | some a' => .ex x a'
    | none => .no
  | _ => .no
  else .no
section
variable {K : PySem.W.Frag} {mg : Str → Option Value} {W : WX} {ps : List Nat} {ro : Bool} {p q : Bool} {t : TS} {m : MS} {i : Nat} {tA : TA} {ms : M (List D)}
  {B : Addr → Prop} {env : Env} {σ : St} {H H0 : Hp} {F F0 Fd : List Addr} {ds : List D} {vs : List V}
theorem relE_nones {Z : Hp} : ∀ n, RelE K H Z (List.replicate n none) (List.replicate n none) []
  | 0 => .nil
  | n + 1 => .non (relE_nones n)
theorem relE_fz {Z : Hp} {env : Env} {σ : St} {F : List Addr} (r : RelE K H Z env σ F) : ∀ {ds : List D} {vs : List V}, RepL K Z ds vs → RelE K H Z (ds.map (fun d => some (false, d)) ++ env) (vs.map some ++ σ) F
  | _, _, .nil => r
  | _, _, .cons h t => .fz h (relE_fz r t)
theorem spF_len {f : MS} {np n : Nat} {vs : List V} {H : Hp} {Q : VK} {E : XK} (h : spF K mg ro (callF np n f) vs H Q E) : vs.length = np := by
  obtain ⟨B, ds, _, r, h⟩ := h
  unfold callF at h
  by_cases hl : ds.length = np
  · rw [← r.length, hl]
  · rw [if_neg hl] at h
    exact h.elim
theorem spP_len {f : MS} {np n : Nat} {vs : List V} {H : Hp} {Q : VK} {E : XK} (h : spP K mg ro (callP np n f) vs H Q E) : vs.length = np := by
  obtain ⟨B, a, ds, x, xs, F0, rfl, _, r, h⟩ := h
  unfold callP at h
  by_cases hl : ds.length + 1 = np
  · rw [List.length_cons, ← r.length, hl]
  · rw [if_neg hl] at h
    exact h.elim
theorem body_F {N : List Str} {np : Nat} {Q : VK} {E : XK} (hb : EvS K mg (fun cls d _ H => E cls d H) [] ro t m) (h : spF K mg ro (callF np N.length m) vs H Q E) : t { nx := fun _ H' => Q .non H', rt := Q } (L2.start N vs) H := by
  obtain ⟨B, ds, hB, r, h⟩ := h
  unfold callF at h
  by_cases hl : ds.length = np
  · rw [if_pos hl] at h
    have S : Sta K B (envF N.length ds) (L2.start N vs) H [] := by
      refine ⟨?_, List.nodup_nil, (fun a m => nomatch m), (fun b q => ⟨hB b q, fun m => nomatch m⟩)⟩
      unfold envF L2.start
      rw [r.length]
      exact relE_fz (relE_nones _) r
    refine hb B _ _ H [] _ S ?_
    have cut : ∀ {env' : Env} {σ' : St} {H' : Hp} {F' Fd : List Addr} {ds : List D} {vs : List V}, StaL K B env' σ' H' F' ds vs Fd → Nxt H [] H' (F' ++ Fd) → StaL K B [] [] H' [] ds vs Fd ∧ Nxt H [] H' Fd := fun {env' σ' H' F' Fd ds vs} S' N' => by
      have nd := List.nodup_append.mp S'.nd
      have ex : Ex (Fz B H' (F' ++ Fd)) (Fz B H' ([] ++ Fd)) := fz_mk fun b o e m n => ⟨e, fun z => m (List.mem_append_right _ z), n⟩
      exact ⟨⟨.nil, S'.own.step ex fun _ _ _ h => h, nd.2.1, fun a m => S'.liv a (List.mem_append_right _ m), fun b q => ⟨(S'.bad b q).1, fun z => (S'.bad b q).2 (List.mem_append_right _ z)⟩⟩, N'.weak fun a m => List.mem_append_right _ m⟩
    cases em : m (envF N.length ds) with
    | nx e =>
      rw [em] at h
      exact fun σ' H' F' S' N' _ => h .non H' [] ((cut (S'.rep (.cons .non .nil)) (by rw [List.append_nil]; exact N')).1) (fun _ => trivial) (N'.weak fun a m => nomatch m)
    | rt d e =>
      rw [em] at h
      exact fun v σ' H' F' Fd S' x N' _ => h v H' Fd (cut S' N').1 x (cut S' N').2
    | ex x e =>
      rw [em] at h
      exact fun cls dd σ' H' F' S' N' _ xx => h cls dd H' (N'.weak fun a m => nomatch m) xx
    | bk e => rw [em] at h; exact h.elim
    | ct e => rw [em] at h; exact h.elim
    | no => rw [em] at h; exact h.elim
  · rw [if_neg hl] at h
    exact h.elim
theorem ownAt0_get {e : Env} {a : D} (h : ownAt0 e = some a) : ∃ r, e = some (true, a) :: r := by
  unfold ownAt0 at h
  split at h
  · cases h; exact ⟨_, rfl⟩
  · cases h
theorem head_only {e : Env} {a : D} {x : V} {σ' : St} {vs : List V} {ds : List D} {H' : Hp} {F' Fd : List Addr} (h : ownAt0 e = some a) (S : StaL K B e σ' H' F' ds vs Fd) (k : σ'[0]? = some (some x)) :
    ∃ F1, StaL K B [some (true, a)] [some x] H' F1 ds vs Fd ∧ ∀ b ∈ F1, b ∈ F' := by
  obtain ⟨r, rfl⟩ := ownAt0_get h
  obtain ⟨rel, own, nd, liv, bad⟩ := S
  cases rel with
  | @ow d v env σ F1 G hx ho hr =>
    have e1 : v = x := by simpa using k
    subst e1
    have sub : ∀ b ∈ F1 ++ Fd, b ∈ (F1 ++ G) ++ Fd := fun b m => (List.mem_append.mp m).elim (fun m => List.mem_append_left _ (List.mem_append_left _ m)) fun m => List.mem_append_right _ m
    have ex : Ex (Fz B H' ((F1 ++ G) ++ Fd)) (Fz B H' (F1 ++ Fd)) := fz_mk fun b o e m n => ⟨e, fun z => m (sub b z), n⟩
    refine ⟨F1, ⟨?_, own.step ex fun _ _ _ h => h, ?_, fun b m => liv b (sub b m), fun b q => ⟨(bad b q).1, fun z => (bad b q).2 (sub b z)⟩⟩, fun b m => List.mem_append_left _ m⟩
    · have := RelE.ow hx (ho.step ex fun _ _ _ h => h) (RelE.nil (K := K) (H := H') (Z := Fz B H' (F1 ++ Fd)))
      rwa [List.append_nil] at this
    · simp only [List.nodup_append, List.mem_append] at nd ⊢
      grind
theorem body_P {N : List Str} {np : Nat} {Q : VK} {E : XK} (hb : EvS K mg (fun cls d _ H => E cls d H) [0] ro t m) (h : spP K mg ro (callP np N.length m) vs H Q E) : t { nx := fun _ H' => Q .non H', rt := Q } (L2.start N vs) H := by
  obtain ⟨B, a, ds, x, xs, F0, rfl, S0, r, h⟩ := h
  unfold callP at h
  by_cases hl : ds.length + 1 = np
  · rw [if_pos hl] at h
    have S : Sta K B (envP N.length a ds) (L2.start N (x :: xs)) H F0 := by
      refine ⟨?_, S0.nd, S0.liv, S0.bad⟩
      have rel := S0.rel
      unfold envP L2.start
      cases rel with
      | @ow d v env σ F1 G hx ho hr =>
        cases hr
        rw [List.append_nil] at *
        have := RelE.ow hx ho (relE_fz (relE_nones (K := K) (H := H) (Z := Fz B H F1) (N.length - (ds.length + 1))) r)
        rw [List.append_nil] at this
        rw [List.length_cons, ← r.length]
        exact this
    refine hb B _ _ H F0 _ S ?_
    have k0 : ∀ {σ' : St}, Kp [0] (L2.start N (x :: xs)) σ' → σ'[0]? = some (some x) := fun k => (k 0 (List.mem_singleton_self _)).trans rfl
    cases em : m (envP N.length a ds) with
    | nx e =>
      rw [em] at h
      intro σ' H' F' S' N' k
      dsimp only at h
      cases eo : ownAt0 e with
      | none => rw [eo] at h; exact h.elim
      | some a' =>
        rw [eo] at h
        obtain ⟨F1, S1, s1⟩ := head_only eo (S'.rep (.cons .non .nil)) (k0 k)
        exact h .non H' F1 [] S1 (fun _ => trivial) (N'.weak fun b m => by rw [List.append_nil] at m; exact s1 b m)
    | rt d e =>
      rw [em] at h
      intro v σ' H' F' Fd S' hx N' k
      dsimp only at h
      cases eo : ownAt0 e with
      | none => rw [eo] at h; exact h.elim
      | some a' =>
        rw [eo] at h
        obtain ⟨F1, S1, s1⟩ := head_only eo S' (k0 k)
        exact h v H' F1 Fd S1 hx (N'.weak fun b m => (List.mem_append.mp m).elim (fun m => List.mem_append_left _ (s1 b m)) fun m => List.mem_append_right _ m)
    | ex y e =>
      rw [em] at h
      intro cls dd σ' H' F' S' N' k xx
      dsimp only at h
      cases eo : ownAt0 e with
      | none => rw [eo] at h; exact h.elim
      | some a' =>
        rw [eo] at h
        obtain ⟨F1, S1, s1⟩ := head_only eo S'.nil (k0 k)
        exact h cls dd H' F1 S1.sta (N'.weak s1) xx
    | bk e => rw [em] at h; exact h.elim
    | ct e => rw [em] at h; exact h.elim
    | no => rw [em] at h; exact h.elim
  · rw [if_neg hl] at h
    exact h.elim
end
section
variable {P : Program} {w : World} {K : PySem.W.Frag} {mg : Str → Option Value} {base : Heap}
end
/-! ### calls -/
def clF (f : List D → RF) (ms : M (List D)) : M D := fun env => match ms env with
  | .ok ds e => match f ds with
    | .ret d => .ok d e
    | .ex x => .ex x e
    | .no => .no
  | .ex e e2 => .ex e e2
  | .no => .no
def clP (i : Nat) (f : D → List D → RP) (ms : M (List D)) : M D := fun env => match rdM i env with
  | some _ => match ms env with
    | .ok ds e => match e[i]? with
      | some (some (true, a)) => match f a ds with
        | .ret d a' => .ok d (e.set i (some (true, a')))
        | .ex x a' => .ex x (e.set i (some (true, a')))
        | .no => .no
      | _ => .no
    | .ex e e2 => .ex e e2
    | .no => .no
  | none => .no
section
variable {K : PySem.W.Frag} {mg : Str → Option Value} {W : WX} {ro : Bool} {p : Bool} {i : Nat} {tA : TA} {ms : M (List D)}
  {B : Addr → Prop} {env : Env} {σ : St} {H H0 : Hp} {F F0 Fd : List Addr} {ds : List D} {vs : List V}
theorem Sta.ext {H' : Hp} (S : Sta K B env σ H F) (e : Ex H H') : Sta K B env σ H' F := by
  have nn : ∀ a, NT (H a) → NT (H' a) := fun a h => by
    cases q : H a with
    | none => exact absurd q h.1
    | some o => rw [e _ _ q, ← q]; exact h
  exact ⟨S.rel.step (fz_mk fun b o h m n => ⟨e _ _ h, m, n⟩) fun a _ o h => e _ _ h, S.nd, fun a m => nn a (S.liv a m), fun b q => ⟨nn b (S.bad b q).1, (S.bad b q).2⟩⟩
theorem call_F {f : List D → RF} (ha : EvA K mg W p tA ms) : (EvE K mg W p (tCallS (spF K mg ro f) (WE W) tA) (clF f ms)) ∧ (ro = true → EvN K mg W p (tCallS (spF K mg ro f) (WE W) tA) (clF f ms)) := by
  have key : ∀ B env σ H F (Q : VK), Sta K B env σ H F → (match clF f ms env with
      | .ok d env' => ∀ v H' F' Fd, StaL K B env' σ H' F' [d] [v] Fd → (ro = true → Exl d Fd) → Nxt H F H' (F' ++ Fd) → PureP p env env' F F' H H' → Q v H'
      | .ex e env' => ExP K mg W B σ H F e env'
      | .no => False) → tCallS (spF K mg ro f) (WE W) tA σ H Q := fun B env σ H F Q S h => by
    refine ha B env σ H F _ S ?_
    unfold clF at h
    cases em : ms env with
    | ex e e2 => rw [em] at h; exact h
    | no => rw [em] at h; exact h
    | ok ds e =>
      rw [em] at h
      intro vs H2 F2 Fa S1 N1 P2
      obtain ⟨S2, r2⟩ := S1.freeze
      have N2 : Nxt H F H2 F2 := N1.weak fun a m => List.mem_append_left _ m
      have ez : Fz (Hid B F2) H2 [] = Fz B H2 F2 := fz_congr fun b => by
        show b ∈ [] ∨ (B b ∨ b ∈ F2) ↔ b ∈ F2 ∨ B b
        simp [or_comm]
      dsimp only at h
      refine ⟨Hid B F2, ds, fun b q => q.elim (fun q => (S2.bad b q).1) fun q => S2.liv b q, by rw [ez]; exact r2, ?_⟩
      cases ef : f ds with
      | no => rw [ef] at h; exact h.elim
      | ret d =>
        rw [ef] at h
        intro v H3 Fd S3 hx N3
        have ex3 : Ex H2 H3 := fun b o e => N3.fr b o e fun z => nomatch z
        have S4 : StaL K B e σ H3 F2 [d] [v] Fd := by
          have := S2.nil.cons (S2 := (?_ : StaL K (Hid B []) e σ H3 F2 [d] [v] Fd)) (N := ⟨fun b o h _ => ex3 _ _ h, fun a m => (List.mem_append.mp m).elim .inl fun m => (N3.sub a m).elim (fun z => nomatch z) .inr⟩)
          · simpa using this
          · have eb : Fz (Hid B []) H3 (F2 ++ Fd) = Fz (Hid B F2) H3 ([] ++ Fd) := fz_congr fun b => by
              simp only [List.mem_append, Hid, List.nil_append]
              grind
            refine ⟨?_, by rw [eb]; exact S3.own, ?_, fun a m => ?_, fun b q => ?_⟩
            · rw [eb]
              refine S2.rel.step ?_ fun a _ o h => ex3 _ _ h
              rw [← ez]
              exact fz_mk fun b o h m n => ⟨ex3 _ _ h, fun z => (N3.sub b (by simpa using z)).elim (fun z => nomatch z) fun z => by (rw [z] at h; cases h), n⟩
            · refine List.nodup_append.mpr ⟨S2.nd, by simpa using S3.nd, fun a m b q z => ?_⟩
              subst z
              exact (S3.bad a (.inr m)).2 (by simpa using q)
            · rcases List.mem_append.mp m with m | m
              · exact (S3.bad a (.inr m)).1
              · exact S3.liv a (by simpa using m)
            · rcases q with q | q
              · refine ⟨(S3.bad b (.inl q)).1, fun z => ?_⟩
                rcases List.mem_append.mp z with z | z
                · exact (S2.bad b q).2 z
                · exact (S3.bad b (.inl q)).2 (by simpa using z)
              · exact nomatch q
        refine h v H3 F2 Fd S4 hx ⟨fun b o h m => ex3 _ _ (N2.fr b o h m), fun a m => ?_⟩ fun hp => ?_
        · rcases List.mem_append.mp m with m | m
          · exact N2.sub a m
          · exact N2.none_of ((N3.sub a m).elim (fun z => nomatch z) id)
        · obtain ⟨a1, a2, a3⟩ := P2 hp
          exact ⟨a1, a2, a3.trans ex3⟩
      | ex x =>
        rw [ef] at h
        intro cls dd H3 N3 xx
        have ex3 : Ex H2 H3 := fun b o e => N3.fr b o e fun z => nomatch z
        have S3 : Sta K B e σ H3 F2 := S2.ext ex3
        exact h cls dd H3 F2 S3 ⟨fun b o h m => ex3 _ _ (N2.fr b o h m), N2.sub⟩ xx
  refine ⟨fun B env σ H F Q S h => key B env σ H F Q S ?_, fun hro B env σ H F Q S h => key B env σ H F Q S ?_⟩
  · cases em : clF f ms env with
    | ok d e => rw [em] at h; exact fun v H' F' Fd s _ n pp => h v H' F' Fd s n pp
    | ex e e2 => rw [em] at h; exact h
    | no => rw [em] at h; exact h
  · cases em : clF f ms env with
    | ok d e => rw [em] at h; exact fun v H' F' Fd s x n pp => h v H' F' Fd s (x hro) n pp
    | ex e e2 => rw [em] at h; exact h
    | no => rw [em] at h; exact h
theorem call_P {f : D → List D → RP} (ha : EvA K mg W p tA ms) : (EvE K mg W false (tCallS (spP K mg ro f) (WE W) (tCons (tVar i) tA)) (clP i f ms)) ∧ (ro = true → EvN K mg W false (tCallS (spP K mg ro f) (WE W) (tCons (tVar i) tA)) (clP i f ms)) := by
  have key : ∀ B env σ H F (Q : VK), Sta K B env σ H F → (match clP i f ms env with
      | .ok d env' => ∀ v H' F' Fd, StaL K B env' σ H' F' [d] [v] Fd → (ro = true → Exl d Fd) → Nxt H F H' (F' ++ Fd) → Q v H'
      | .ex e env' => ExP K mg W B σ H F e env'
      | .no => False) → tCallS (spP K mg ro f) (WE W) (tCons (tVar i) tA) σ H Q := fun B env σ H F Q S h => by
    unfold clP at h
    cases e0 : rdM i env with
    | none => rw [e0] at h; exact h.elim
    | some d0 =>
      rw [e0] at h
      dsimp only at h
      have hv : ∃ v, σ[i]? = some (some v) := by
        unfold rdM at e0
        split at e0
        · rename_i k d' e3
          obtain ⟨v, G, hv, _, _⟩ := S.rel.anyAt e3
          exact ⟨v, hv⟩
        · cases e0
      obtain ⟨v, hv⟩ := hv
      refine ⟨v, hv, ha B env σ H F _ S ?_⟩
      cases em : ms env with
      | ex e e2 => rw [em] at h; exact h
      | no => rw [em] at h; exact h
      | ok ds e =>
        rw [em] at h
        intro vs H2 F2 Fa S1 N1 _
        obtain ⟨S2, r2⟩ := S1.freeze
        have N2 : Nxt H F H2 F2 := N1.weak fun a m => List.mem_append_left _ m
        dsimp only at h
        cases ei : e[i]? with
        | none => rw [ei] at h; exact h.elim
        | some sl =>
          rw [ei] at h
          cases sl with
          | none => exact h.elim
          | some kd =>
            obtain ⟨k, a⟩ := kd
            cases k with
            | false => exact h.elim
            | true =>
              dsimp only at h
              obtain ⟨hl, _⟩ := List.getElem?_eq_some_iff.mp ei
              obtain ⟨F1, Fi, Fr, eF, sl, g⟩ := S2.rel.cut hl
              obtain ⟨v2, hv2, x0, o0⟩ := sl _ ei
              rw [hv] at hv2
              cases hv2
              have nd := S2.nd
              rw [eF] at nd
              have mem : ∀ b, b ∈ F2 ↔ (b ∈ F1 ∨ b ∈ Fi ∨ b ∈ Fr) := fun b => by rw [eF]; simp only [List.mem_append]
              have dis : Fi.Nodup ∧ (∀ b ∈ Fi, b ∉ F1 ∧ b ∉ Fr) ∧ F1.Nodup ∧ Fr.Nodup ∧ (∀ b ∈ F1, b ∉ Fr) := by
                simp only [List.nodup_append, List.mem_append] at nd
                grind
              have ez : Fz (Hid B (F1 ++ Fr)) H2 Fi = Fz B H2 F2 := fz_congr fun b => by
                simp only [mem, Hid, List.mem_append]
                grind
              have S3 : Sta K (Hid B (F1 ++ Fr)) [some (true, a)] [some v] H2 Fi := by
                refine ⟨?_, dis.1, fun b m => S2.liv b ((mem b).mpr (.inr (.inl m))), fun b q => ?_⟩
                · have := RelE.ow x0 o0 (RelE.nil (K := K) (H := H2) (Z := Fz B H2 F2))
                  rw [List.append_nil] at this
                  rw [ez]
                  exact this
                · rcases q with q | q
                  · exact ⟨(S2.bad b q).1, fun m => (S2.bad b q).2 ((mem b).mpr (.inr (.inl m)))⟩
                  · rcases List.mem_append.mp q with q | q
                    · exact ⟨S2.liv b ((mem b).mpr (.inl q)), fun m => (dis.2.1 b m).1 q⟩
                    · exact ⟨S2.liv b ((mem b).mpr (.inr (.inr q))), fun m => (dis.2.1 b m).2 q⟩
              -- behind the call
              have back : ∀ {H3 : Hp} {F3 Fd : List Addr} {a' : D} {ds : List D} {vs : List V}, StaL K (Hid B (F1 ++ Fr)) [some (true, a')] [some v] H3 F3 ds vs Fd → Nxt H2 Fi H3 (F3 ++ Fd) →
                  StaL K B (e.set i (some (true, a'))) σ H3 (F1 ++ (F3 ++ Fr)) ds vs Fd ∧ Nxt H F H3 ((F1 ++ (F3 ++ Fr)) ++ Fd) := fun {H3 F3 Fd a' ds vs} S4 N4 => by
                have ez3 : Fz (Hid B (F1 ++ Fr)) H3 (F3 ++ Fd) = Fz B H3 ((F1 ++ (F3 ++ Fr)) ++ Fd) := fz_congr fun b => by
                  simp only [Hid, List.mem_append]
                  grind
                have keep : ∀ b, b ∈ F1 ∨ b ∈ Fr → ∀ o, H2 b = some o → H3 b = some o := fun b m o ho => N4.fr b o ho fun z => m.elim (dis.2.1 b z).1 (dis.2.1 b z).2
                have ex : Ex (Fz B H2 F2) (Fz B H3 ((F1 ++ (F3 ++ Fr)) ++ Fd)) := by
                  rw [← ez, ← ez3]
                  exact nxt_ex N4
                obtain ⟨g1, _, _⟩ := g H3 _ ex keep
                have rel := S4.rel
                have bad := S4.bad
                have nd4 := S4.nd
                cases rel with
                | @ow d' v' env' σ' F5 G5 hx ho hr =>
                  cases hr
                  rw [List.append_nil] at *
                  have r1 := g1 a' v F5 hx (by rw [← ez3]; exact ho)
                  rw [set_same hv] at r1
                  have nb : ∀ b, b ∈ F1 ∨ b ∈ Fr → b ∉ F5 ++ Fd := fun b m => (bad b (.inr (List.mem_append.mpr m))).2
                  refine ⟨⟨r1, by rw [← ez3]; exact S4.own, ?_, fun b m => ?_, fun b q => ⟨(bad b (.inl q)).1, fun m => ?_⟩⟩, ⟨fun b o ho m => ?_, fun b m => ?_⟩⟩
                  · simp only [List.nodup_append, List.mem_append] at nd4 nb ⊢
                    grind
                  · simp only [List.mem_append] at m
                    rcases m with (m | m | m) | m
                    · exact (bad b (.inr (List.mem_append_left _ m))).1
                    · exact S4.liv b (List.mem_append_left _ m)
                    · exact (bad b (.inr (List.mem_append_right _ m))).1
                    · exact S4.liv b (List.mem_append_right _ m)
                  · simp only [List.mem_append] at m
                    rcases m with (m | m | m) | m
                    · exact (S2.bad b q).2 ((mem b).mpr (.inl m))
                    · exact (bad b (.inl q)).2 (List.mem_append_left _ m)
                    · exact (S2.bad b q).2 ((mem b).mpr (.inr (.inr m)))
                    · exact (bad b (.inl q)).2 (List.mem_append_right _ m)
                  · have h2 := N2.fr b o ho m
                    by_cases mi : b ∈ Fi
                    · exact absurd ((N2.sub b ((mem b).mpr (.inr (.inl mi)))).elim (fun z => m z) fun z => by rw [z] at ho; cases ho) id
                    · exact N4.fr b o h2 mi
                  · simp only [List.mem_append] at m
                    have up : b ∈ F5 ++ Fd → b ∈ F ∨ H b = none := fun m => (N4.sub b m).elim (fun z => N2.sub b ((mem b).mpr (.inr (.inl z)))) N2.none_of
                    rcases m with (m | m | m) | m
                    · exact N2.sub b ((mem b).mpr (.inl m))
                    · exact up (List.mem_append_left _ m)
                    · exact N2.sub b ((mem b).mpr (.inr (.inr m)))
                    · exact up (List.mem_append_right _ m)
              refine ⟨_, a, ds, v, vs, Fi, rfl, S3, by rw [ez]; exact r2, ?_⟩
              cases ef : f a ds with
              | no => rw [ef] at h; exact h.elim
              | ret d a' =>
                rw [ef] at h
                intro v' H3 F3 Fd S4 hx N4
                obtain ⟨S5, N5⟩ := back S4 N4
                exact h v' H3 _ Fd S5 hx N5
              | ex x a' =>
                rw [ef] at h
                intro cls dd H3 F3 S4 N4 xx
                obtain ⟨S5, N5⟩ := back S4.nil (by rw [List.append_nil]; exact N4)
                rw [List.append_nil] at N5
                exact h cls dd H3 _ S5.sta N5 xx
  refine ⟨fun B env σ H F Q S h => key B env σ H F Q S ?_, fun hro B env σ H F Q S h => key B env σ H F Q S ?_⟩
  · cases em : clP i f ms env with
    | ok d e => rw [em] at h; exact fun v H' F' Fd s _ n => h v H' F' Fd s n fun z => nomatch z
    | ex e e2 => rw [em] at h; exact h
    | no => rw [em] at h; exact h
  · cases em : clP i f ms env with
    | ok d e => rw [em] at h; exact fun v H' F' Fd s x n => h v H' F' Fd s (x hro) n fun z => nomatch z
    | ex e e2 => rw [em] at h; exact h
    | no => rw [em] at h; exact h
theorem ev_callP {f : D → List D → RP} (ha : EvA K mg W p tA ms) : EvE K mg W false (tCallS (spP K mg ro f) (WE W) (tCons (tVar i) tA)) (clP i f ms) := (call_P ha).1
theorem en_callP {f : D → List D → RP} (ha : EvA K mg W p tA ms) : EvN K mg W false (tCallS (spP K mg true f) (WE W) (tCons (tVar i) tA)) (clP i f ms) := (call_P ha).2 rfl
theorem ev_callF {f : List D → RF} (ha : EvA K mg W p tA ms) : EvE K mg W p (tCallS (spF K mg ro f) (WE W) tA) (clF f ms) := (call_F ha).1
theorem en_callF {f : List D → RF} (ha : EvA K mg W p tA ms) : EvN K mg W p (tCallS (spF K mg true f) (WE W) tA) (clF f ms) := (call_F ha).2 rfl
end
end MM

set_option Elab.async false
set_option linter.all false
set_option maxRecDepth 100000
set_option maxHeartbeats 4000000
noncomputable section
namespace MM
open PySem PySem.Spec PyProof.Rows L2

/-- a, b = e and the like -/
def asgG (bd : D → Env → Option Env) (m : M D) : MS := fun env => match m env with
  | .ok d e => match bd d e with
    | some e2 => .nx e2
    | none => .no
  | .ex e e2 => .ex e e2
  | .no => .no
/-- the slot's own value handed on -/
def mvM (i : Nat) : M D := fun env => match env[i]? with
  | some (some (true, d)) => .ok d (env.set i none)
  | _ => .no
def ixT (mt : Env → Option D) (mk : M D) (env : Env) : Option D := match mt env with
  | some d => match mk env with
    | .ok k _ => ixF [d, k]
    | _ => none
  | none => none
/-- x[k] = v: a list, a dict -/
def setF (d k v : D) : Option D := match d with
  | .lst ds => match k with
    | .int j => match ixN ds.length j with
      | some n => some (.lst (ds.set n v))
      | none => none
    | _ => none
  | .dK kvs => match keyD k with
    | some k' => haveI : Decidable (kvs.length < sizeLine) := Classical.propDecidable _; if kvs.length < sizeLine then some (.dK (putG kvs k' v)) else none
    | none => none
  | .dT kvs => match k with
    | .tup ks => match keysD ks with
      | some k' => haveI : Decidable (kvs.length < sizeLine) := Classical.propDecidable _; if kvs.length < sizeLine then some (.dT (putG kvs k' v)) else none
      | none => none
    | _ => none
  | _ => none
def setM (i : Nat) (mv mk : M D) : MS := fun env => match mv env with
  | .ok v e1 => match rdM i e1 with
    | some _ => match mk e1 with
      | .ok k e2 => match e2[i]? with
        | some (some (true, d)) => match setF d k v with
          | some d' => .nx (e2.set i (some (true, d')))
          | none => .no
        | _ => .no
      | .ex e e2 => .ex e e2
      | .no => .no
    | none => .no
  | .ex e e2 => .ex e e2
  | .no => .no
section
variable {K : PySem.W.Frag} {mg : Str → Option Value} {W : WX} {ps : List Nat} {ro : Bool} {p q : Bool} {te t1 t2 tk : TE} {m mk : M D} {i : Nat} {tA : TA} {ms : M (List D)} {g : TG} {js : List Nat} {bd : D → Env → Option Env} {mt : Env → Option D}
  {B : Addr → Prop} {env : Env} {σ : St} {H H0 : Hp} {F F0 Fd : List Addr} {ds : List D} {vs : List V}

theorem en_mv : EvN K mg W false (tVar i) (mvM i) := fun B env σ H F Q S h => by
  unfold mvM at h
  split at h
  · rename_i d env' e1
    split at e1
    · rename_i d' e2
      cases e1
      obtain ⟨hl, _⟩ := List.getElem?_eq_some_iff.mp e2
      obtain ⟨F1, Fi, F2, eF, sl, g⟩ := S.rel.cut hl
      obtain ⟨v, hv, hx, o⟩ := sl d e2
      refine ⟨v, hv, ?_⟩
      have sub : ∀ b, b ∈ (F1 ++ F2) ++ Fi ↔ b ∈ F := fun b => by rw [eF]; simp only [List.mem_append]; grind
      have ez : Fz B H ((F1 ++ F2) ++ Fi) = Fz B H F := fz_congr fun b => by rw [sub b]
      obtain ⟨_, _, g3⟩ := g H (Fz B H F) (fun _ _ h => h) fun _ _ _ h => h
      have r3 := g3 (some v)
      rw [set_same hv] at r3
      have nd := S.nd
      rw [eF] at nd
      refine h v H (F1 ++ F2) Fi ⟨by rw [ez]; exact r3, by rw [ez]; exact .one o, ?_, fun b m => S.liv b ((sub b).mp m), fun b q => ⟨(S.bad b q).1, fun z => (S.bad b q).2 ((sub b).mp z)⟩⟩ hx ⟨fun b o h _ => h, fun b m => .inl ((sub b).mp m)⟩ fun z => nomatch z
      simp only [List.nodup_append, List.mem_append] at nd ⊢
      grind
    · cases e1
  · rename_i e1
    split at e1 <;> cases e1
  · exact h.elim
/-- a dict of one's own, or a frozen one, asked -/
theorem Own.dict {Z H : Hp} {F : List Addr} (ez : Ex Z H) {d k : D} {x y : V} {r : Option D} (o : Own K H Z d x F) (ry : Rep K Z k y) (e : getD2 d k = some r) :
    ∃ a o, x = .ref a ∧ DGet H a y o ∧ ((r = none ∧ o = none) ∨ ∃ d v, r = some d ∧ o = some v ∧ Rep K Z d v) := by
  cases o with
  | frz rx =>
    obtain ⟨a, o, e1, g, h⟩ := getD2_get rx ry e
    exact ⟨a, o, e1, dget_mono ez g, h⟩
  | lst _ _ => simp [getD2] at e
  | tup _ _ => simp [getD2] at e
  | deep _ => simp [getD2] at e
  | dK h rk =>
    unfold getD2 at e
    dsimp only at e
    split at e
    · rename_i k2 ek
      cases e
      rw [keyD_rep ry ek]
      refine ⟨_, _, rfl, .inl ⟨_, _, .inl h, rfl, rfl⟩, ?_⟩
      rcases rk.val (k := k2) with ⟨e1, e2⟩ | ⟨d, v, e1, e2, r⟩
      · exact .inl ⟨e1, e2⟩
      · exact .inr ⟨d, v, e1, e2, r⟩
    · cases e
  | dT h rk =>
    unfold getD2 at e
    dsimp only at e
    split at e
    · rename_i ks
      split at e
      · rename_i k2 ek
        cases e
        cases ry with
        | tup hb rb =>
          rw [keysD_rep rb ek] at hb
          refine ⟨_, _, rfl, .inr ⟨_, _, _, .inl h, rfl, ez _ _ hb, rfl⟩, ?_⟩
          rcases rk.val (k := k2) with ⟨e1, e2⟩ | ⟨d, v, e1, e2, r⟩
          · exact .inl ⟨e1, e2⟩
          · exact .inr ⟨d, v, e1, e2, r⟩
      · cases e
    · cases e
theorem Own.itemsT {Z H : Hp} {ds : List D} {v : V} {F : List Addr} (ez : Ex Z H) (o : Own K H Z (.tup ds) v F) : ∃ a vs G, v = .ref a ∧ H a = some (.tup vs) ∧ OwnL K H Z ds vs G ∧ ∀ b ∈ G, b ∈ F := by
  cases o with
  | frz r =>
    cases r with
    | tup h r => exact ⟨_, _, [], rfl, ez _ _ h, .of_rep r, fun b m => nomatch m⟩
  | tup h r => exact ⟨_, _, _, rfl, ez _ _ h, r, fun b m => m⟩
theorem atI_ownL {Z H : Hp} {ds : List D} {vs : List V} {F : List Addr} {i : Int} {d : D} (r : OwnL K H Z ds vs F) (e : atI ds i = some d) : ∃ v G, atI vs i = some v ∧ Own K H Z d v G ∧ ∀ a ∈ G, a ∈ F := by
  unfold atI at e ⊢
  rw [← r.length]
  cases ej : ixN ds.length i with
  | none => rw [ej] at e; cases e
  | some j =>
    rw [ej] at e
    exact r.get (i := j) e
/-- an item, by its place or key -/
theorem Own.ix {Z H : Hp} {F : List Addr} (ez : Ex Z H) {d k r : D} {x y : V} (o : Own K H Z d x F) (ry : Rep K Z k y) (e : ixF [d, k] = some r) : ∃ v G, Own K H Z r v G ∧ (∀ a ∈ G, a ∈ F) ∧ ∀ Q : VK, Q v H → rIxAny K x y H Q := by
  unfold ixF at e
  split at e
  · rename_i eq
    cases eq
    cases ry
    obtain ⟨a, vs, G, rfl, h, r, sl⟩ := o.items ez
    obtain ⟨v, G', ev, o', s⟩ := atI_ownL r e
    exact ⟨v, G', o', fun b m => sl.subset (s b m), fun Q q => .inl (.inl ⟨_, _, _, v, rfl, rfl, .of h, ev, q⟩)⟩
  · rename_i eq
    cases eq
    cases ry
    obtain ⟨a, vs, G, rfl, h, r, sl⟩ := o.itemsT ez
    obtain ⟨v, G', ev, o', s⟩ := atI_ownL r e
    exact ⟨v, G', o', fun b m => sl b (s b m), fun Q q => .inl (.inr (.inl ⟨_, _, _, v, rfl, rfl, .of h, ev, q⟩))⟩
  · rename_i eq
    cases eq
    cases ry
    have rx := o.imm rfl
    cases rx with
    | tz h _ r =>
      obtain ⟨v, ev, rv⟩ := atI_repL r e
      exact ⟨v, [], .frz rv, (fun a m => nomatch m), fun Q q => .inl (.inr (.inl ⟨_, _, _, v, rfl, rfl, .inl (.inr ⟨_, ez _ _ h⟩), ev, q⟩))⟩
  · rename_i ns i eq
    cases eq
    cases ry
    have rx := o.imm rfl
    cases rx with
    | scr h =>
      cases en : atI ns i with
      | none => rw [en] at e; cases e
      | some n =>
        rw [en] at e
        cases e
        refine ⟨.int n, [], .frz (.int n), (fun a m => nomatch m), fun Q q => .inl (.inl ⟨_, _, i, .int n, rfl, rfl, sql_mono ez h, ?_, q⟩)⟩
        unfold atI at en ⊢
        rw [List.length_map]
        cases ej : ixN ns.length i with
        | none => rw [ej] at en; cases en
        | some j =>
          rw [ej] at en
          have en' : ns[j]? = some n := en
          show (ns.map V.int)[j]? = _
          rw [List.getElem?_map, en']
          rfl
  · rename_i z i eq
    cases eq
    cases ry
    have rx := o.imm rfl
    cases rx
    split at e
    · rename_i hz
      cases ec : atI z.cps.toList i with
      | none => rw [ec] at e; cases e
      | some c =>
        rw [ec] at e
        cases e
        exact ⟨_, [], .frz (.str _), (fun a m => nomatch m), fun Q q => .inl (.inr (.inr ⟨z, i, c, rfl, rfl, hz, ec, q⟩))⟩
    · cases e
  · rename_i d1 k1 _ _ _ _ _ eq
    cases eq
    cases eg : getD2 d k with
    | none => rw [eg] at e; cases e
    | some r' =>
      rw [eg] at e
      dsimp only at e
      subst e
      obtain ⟨a, o', rfl, g, h⟩ := o.dict ez ry eg
      rcases h with ⟨h, _⟩ | ⟨d', v, e1, e2, rv⟩
      · cases h
      · cases e1
        subst e2
        exact ⟨v, [], .frz rv, (fun a m => nomatch m), fun Q q => .inr ⟨a, v, rfl, g, q⟩⟩
  · cases e
/-- a place within a place -/
theorem evt_ix (h1 : EvT K t1 mt) (h2 : EvE K mg W true t2 mk) : EvT K (tOp (rIxAny K) t1 t2) (ixT mt mk) := fun B env σ H F Q d S e h => by
  unfold ixT at e
  split at e
  · rename_i d0 e0
    split at e
    · rename_i k e1 ek
      refine h1 B env σ H F _ d0 S e0 fun x H1 Fs ex1 S1 o sb => ?_
      refine h2 B env σ H1 F _ S1 ?_
      rw [ek]
      intro y H2 F2 Fd S2 N2 P2
      obtain ⟨a1, a2, a3⟩ := P2 rfl
      subst a1 a2
      obtain ⟨S3, r3⟩ := S2.freeze
      obtain ⟨y', e', r3⟩ := r3.one_inv
      cases e'
      have o2 : Own K H2 (Fz B H2 F2) d0 x Fs := o.step (fz_mk fun b o e m n => ⟨a3 _ _ e, m, n⟩) fun a _ o h => a3 _ _ h
      obtain ⟨v, G, og, sg, go⟩ := o2.ix (fz_ex _ _ _) r3 e
      exact go Q (h v H2 G (ex1.trans a3) S3 og fun a m => sb a (sg a m))
    · cases e
  · cases e
theorem OwnL.setF {Z H : Hp} {d : D} {v : V} (r : Rep K Z d v) : ∀ {ds : List D} {vs : List V} {F : List Addr} (n : Nat), OwnL K H Z ds vs F → ∃ F', OwnL K H Z (ds.set n d) (vs.set n v) F' ∧ F'.Sublist F
  | _, _, _, n, .nil => ⟨[], .nil, List.Sublist.refl _⟩
  | _, _, _, 0, .cons (F := Fa) (G := Ga) h t => ⟨Ga, .cons (F := []) (.frz r) t, List.sublist_append_right _ _⟩
  | _, _, _, n + 1, .cons (F := Fa) (G := Ga) h t => by
    obtain ⟨F', o, s⟩ := OwnL.setF r n t
    exact ⟨Fa ++ F', .cons h o, s.append_left Fa⟩
/-- a mutable dict in a slot -/
theorem Sta.mutC (S : Sta K B env σ H F) {d : D} {l : Addr} (hi : env[i]? = some (some (true, d))) (hv : σ[i]? = some (some (.ref l))) (hd : ∀ Fi, Exl d Fi → Own K H (Fz B H F) d (.ref l) Fi → Fi = [l]) :
    l ∈ F ∧ ∀ d' o', ((∀ ys, o' ≠ HO.tup ys) ∧ ∀ fs, o' ≠ HO.xd fs) → Exl d' [l] → (∀ H' Z', H' l = some o' → Ex (Fz B H F) Z' → Own K H' Z' d' (.ref l) [l]) → Sta K B (env.set i (some (true, d'))) σ (upd H l o') F := by
  obtain ⟨hl, _⟩ := List.getElem?_eq_some_iff.mp hi
  obtain ⟨F1, Fi, F2, eF, sl, g⟩ := S.rel.cut hl
  obtain ⟨v0, hv0, x0, o0⟩ := sl _ hi
  rw [hv] at hv0
  cases hv0
  have e1 := hd Fi x0 o0
  subst e1
  have lF : l ∈ F := by rw [eF]; simp
  have nd := S.nd
  rw [eF] at nd
  have nl : l ∉ F1 ∧ l ∉ F2 := by
    simp only [List.nodup_append, List.mem_append] at nd
    grind
  refine ⟨lF, fun d' o' nt hx go => ?_⟩
  have ex : Ex (Fz B H F) (Fz B (upd H l o') F) := fz_mk fun b o e m n => by
    have nb : b ≠ l := fun z => m (by rw [z]; exact lF)
    exact ⟨by rw [upd_ne nb]; exact e, m, n⟩
  obtain ⟨g1, _, _⟩ := g (upd H l o') _ ex fun a m o h => by
    have na : a ≠ l := fun z => by subst z; exact m.elim nl.1 nl.2
    rw [upd_ne na]
    exact h
  have r1 := g1 d' (.ref l) [l] hx (go _ _ upd_same ex)
  rw [set_same hv, ← eF] at r1
  refine ⟨r1, S.nd, fun a m => ?_, fun b q => ⟨?_, (S.bad b q).2⟩⟩
  · by_cases e : a = l
    · subst e; rw [upd_same]; exact ⟨nofun, fun ys z => nt.1 ys (Option.some.inj z), fun fs z => nt.2 fs (Option.some.inj z)⟩
    · rw [upd_ne e]; exact S.liv a m
  · by_cases e : b = l
    · subst e; rw [upd_same]; exact ⟨nofun, fun ys z => nt.1 ys (Option.some.inj z), fun fs z => nt.2 fs (Option.some.inj z)⟩
    · rw [upd_ne e]; exact (S.bad b q).1
/-- x[k] = v, on values -/
theorem set_go {Q : Hp → Prop} (S : Sta K B env σ H F) {d d' k0 v0 : D} {k v o : V} (hi : env[i]? = some (some (true, d))) (ho : σ[i]? = some (some o)) (rk : Rep K (Fz B H F) k0 k) (rv : Rep K (Fz B H F) v0 v) (es : setF d k0 v0 = some d')
    (go : ∀ l o' F', o = .ref l → l ∈ F → Sta K B (env.set i (some (true, d'))) σ (upd H l o') F' → (∀ a ∈ F', a ∈ F) → Q (upd H l o')) : rSetAny o k v H Q := by
  obtain ⟨v1, G, hv1, o1, _⟩ := S.rel.anyAt hi
  rw [ho] at hv1
  cases hv1
  cases d with
  | lst ds =>
    cases k0 with
    | int j =>
      simp only [setF] at es
      cases rk
      cases en : ixN ds.length j with
      | none => rw [en] at es; cases es
      | some n =>
        rw [en] at es
        cases es
        have e0 : F ++ [] = F := List.append_nil _
        obtain ⟨l, vs, Fc, hv2, hH2, oc, ndc, nl, lF2, gg⟩ := (S.rep (.cons rv .nil)).mutL hi
        rw [ho] at hv2
        cases hv2
        obtain ⟨F', o2, sl⟩ := oc.setF (v := v) (by rw [e0]; exact rv) n
        obtain ⟨F3, S3, s3⟩ := gg _ _ .non .non F' [] o2 (.frz .non) (by rw [List.append_nil] at ndc ⊢; exact ndc.sublist sl) fun a m => by rw [List.append_nil] at m; exact List.mem_append_left _ (sl.subset m)
        exact .inl ⟨l, vs, j, n, rfl, rfl, hH2, by rw [← oc.length]; exact en, go l _ F3 rfl lF2 S3.sta fun a m => by
          have := s3 a (List.mem_append_left _ m)
          rwa [e0] at this⟩
    | _ => simp [setF] at es
  | dK kvs =>
    simp only [setF] at es
    cases ek : keyD k0 with
    | none => rw [ek] at es; cases es
    | some k' =>
      rw [ek] at es
      dsimp only at es
      by_cases hz : kvs.length < sizeLine
      · rw [if_pos hz] at es
        cases es
        obtain ⟨hl, _⟩ := List.getElem?_eq_some_iff.mp hi
        obtain ⟨F1, Fi, F2, eF, sl, g⟩ := S.rel.cut hl
        obtain ⟨v2, hv2, x2, o2⟩ := sl _ hi
        rw [ho] at hv2
        cases hv2
        obtain ⟨l, kws, rfl, hH, _, rr⟩ := o2.topK x2
        obtain ⟨lF, gg⟩ := S.mutC hi ho fun Fi x o => by
          obtain ⟨l', kws', e1, _, e2, _⟩ := o.topK x
          cases e1
          exact e2
        rw [keyD_rep rk ek]
        exact .inr ⟨l, _, rfl, .inl ⟨kws, k', hH, rfl, by rw [← rr.length]; exact hz, rfl⟩, go l _ F rfl lF (gg _ _ ⟨nofun, nofun⟩ (List.cons_ne_nil _ _) fun H' Z' h e => .dK h ((rr.put rv).mono e)) fun a m => m⟩
      · rw [if_neg hz] at es; cases es
  | dT kvs =>
    cases k0 with
    | tup ks =>
      simp only [setF] at es
      cases ek : keysD ks with
      | none => rw [ek] at es; cases es
      | some k' =>
        rw [ek] at es
        dsimp only at es
        by_cases hz : kvs.length < sizeLine
        · rw [if_pos hz] at es
          cases es
          obtain ⟨hl, _⟩ := List.getElem?_eq_some_iff.mp hi
          obtain ⟨F1, Fi, F2, eF, sl, g⟩ := S.rel.cut hl
          obtain ⟨v2, hv2, x2, o2⟩ := sl _ hi
          rw [ho] at hv2
          cases hv2
          obtain ⟨l, kws, rfl, hH, _, rr⟩ := o2.topT x2
          obtain ⟨lF, gg⟩ := S.mutC hi ho fun Fi x o => by
            obtain ⟨l', kws', e1, _, e2, _⟩ := o.topT x
            cases e1
            exact e2
          cases rk with
          | tup hb rb =>
            rw [keysD_rep rb ek] at hb
            exact .inr ⟨l, _, rfl, .inr ⟨kws, k', _, hH, rfl, fz_ex _ _ _ _ _ hb, by rw [← rr.length]; exact hz, rfl⟩, go l _ F rfl lF (gg _ _ ⟨nofun, nofun⟩ (List.cons_ne_nil _ _) fun H' Z' h e => .dT h ((rr.put rv).mono e)) fun a m => m⟩
        · rw [if_neg hz] at es; cases es
    | _ => simp [setF] at es
  | _ => simp [setF] at es
/-- x[k] = v -/
theorem es_set (h1 : EvE K mg W p te m) (h2 : EvE K mg W q tk mk) : EvS K mg W ps ro (tAsg te (gSub (tVar i) tk rSetAny)) (setM i m mk) := fun B env σ H F D S h => by
  refine h1 B env σ H F _ S ?_
  unfold setM at h
  cases em : m env with
  | ex e e2 => rw [em] at h; exact .xs h
  | no => rw [em] at h; exact h
  | ok v0 e1 =>
    rw [em] at h
    dsimp only at h
    intro v H1 F1 Fd S1 N1 _
    cases e0 : rdM i e1 with
    | none => rw [e0] at h; exact h.elim
    | some d0 =>
      rw [e0] at h
      dsimp only at h
      have hv : ∃ o, σ[i]? = some (some o) := by
        unfold rdM at e0
        split at e0
        · rename_i k d' e3
          obtain ⟨v, G, hv, _, _⟩ := S1.rel.anyAt e3
          exact ⟨v, hv⟩
        · cases e0
      obtain ⟨o, ho⟩ := hv
      refine ⟨o, ho, h2 (Hid B Fd) e1 σ H1 F1 _ S1.hide ?_⟩
      cases ek : mk e1 with
      | ex e e2 =>
        rw [ek] at h
        exact fun c d H' F' S' N' x => h c d σ H' F' (S'.imp fun b z => .inl z) (N1.trans N' fun a m => List.mem_append_left _ m) .refl x
      | no => rw [ek] at h; exact h
      | ok k0 e2 =>
        rw [ek] at h
        dsimp only at h
        intro k H2 F2 Fk S2 N2 _
        have S3 := S1.cons S2 N2
        have N3 := N1.cons N2
        obtain ⟨S4, r4⟩ := S3.freeze
        obtain ⟨x, y, e', rv, rk⟩ := r4.two_inv
        cases e'
        have N4 : Nxt H F H2 F2 := N3.weak fun a m => List.mem_append_left _ m
        cases ei : e2[i]? with
        | none => rw [ei] at h; exact h.elim
        | some sl =>
          rw [ei] at h
          cases sl with
          | none => exact h.elim
          | some kd =>
            obtain ⟨kk, d⟩ := kd
            cases kk with
            | false => exact h.elim
            | true =>
              dsimp only at h
              cases es : setF d k0 v0 with
              | none => rw [es] at h; exact h.elim
              | some d' =>
                rw [es] at h
                exact set_go S4 ei ho rk rv es fun l o' F' e1 lF S5 s5 => h σ _ F' S5 (N4.mut lF s5) .refl
/-! ### displays of dicts -/
theorem en_dnewK : EvN K mg W true tDNewK (cM (.dK [])) := fun B env σ H F Q S h p hp => by
  have S1 : StaL K B env σ (upd H p (.dK [])) F [.dK []] [.ref p] [p] := by
    have S0 := (S.nil.mkL hp)
    have e0 : upd H p (.dK []) = upd (upd H p (.lst [])) p (.dK []) := by rw [upd_upd]
    have hn := S.nil.sub0 hp
    rw [List.append_nil] at hn
    have ex : Ex (Fz B H F) (Fz B (upd H p (.dK [])) (F ++ [p])) := fz_mk fun b o e m n => by
      have np : b ≠ p := fun z => by subst z; rw [hp] at e; cases e
      exact ⟨by rw [upd_ne np]; exact e, by simp [m, np], n⟩
    refine ⟨S.rel.step ex fun a _ o h => ex_new hp _ _ h, .one (.dK upd_same .nil), S0.nd, fun a m => ?_, fun b q => ⟨?_, (S0.bad b q).2⟩⟩
    · by_cases e : a = p
      · subst e; rw [upd_same]; exact ⟨nofun, nofun, nofun⟩
      · rw [upd_ne e]
        have := S0.liv a m
        rwa [upd_ne e] at this
    · have := S0.bad b q
      by_cases e : b = p
      · subst e; rw [upd_same]; exact ⟨nofun, nofun, nofun⟩
      · rw [upd_ne e]
        have := this.1
        rwa [upd_ne e] at this
  exact h _ _ F [p] S1 (List.cons_ne_nil _ _) (Nxt.mkL (F1 := F) (Fd := []) (by rw [List.append_nil]; exact .refl) hp) fun _ => ⟨rfl, rfl, ex_new hp⟩
end
end MM

set_option Elab.async false
set_option linter.all false
set_option maxRecDepth 100000
set_option maxHeartbeats 4000000
noncomputable section
namespace MM
open PySem PySem.Spec PyProof.Rows L2

/-! ### isinstance of built-in classes -/
inductive Ty6 where
  | int | bool | list | tuple | str | dict
def Ty6.nm : Ty6 → String
  | .int => "int" | .bool => "bool" | .list => "list" | .tuple => "tuple" | .str => "str" | .dict => "dict"
def isiB : Ty6 → D → Option Bool
  | .int, .bl _ => some true | .int, .int _ => some true
  | .bool, .bl _ => some true
  | .list, .lst _ => some true
  | .tuple, .tup _ => some true
  | .tuple, .tz _ => some true
  | .str, .str _ => some true
  | .dict, .dK _ => some true | .dict, .dT _ => some true
  | _, .opq _ => none | _, .scr _ => none | _, .deep _ => none | _, .dTf _ => none | _, .nam _ _ => none | _, .xn _ _ _ => none | _, .fz _ => none
  | _, _ => some false
def isiF (T : Ty6) : List D → Option D
  | [d, .opq (.ty n)] => if n = T.nm then (isiB T d).map .bl else none
  | _ => none
section
variable {K : PySem.W.Frag} {mg : Str → Option Value} {W : WX} {p q : Bool} {te ta tb tc : TE} {m ma mb mc : M D} {i : Nat} {tA : TA} {ms : M (List D)}
theorem kb_int : kitB "NoneType" "int" = some false ∧ kitB "bool" "int" = some true ∧ kitB "int" "int" = some true ∧ kitB "str" "int" = some false ∧ kitB "list" "int" = some false ∧ kitB "tuple" "int" = some false ∧ kitB "dict" "int" = some false := by decide +kernel
theorem kb_bool : kitB "NoneType" "bool" = some false ∧ kitB "bool" "bool" = some true ∧ kitB "int" "bool" = some false ∧ kitB "str" "bool" = some false ∧ kitB "list" "bool" = some false ∧ kitB "tuple" "bool" = some false ∧ kitB "dict" "bool" = some false := by decide +kernel
theorem kb_list : kitB "NoneType" "list" = some false ∧ kitB "bool" "list" = some false ∧ kitB "int" "list" = some false ∧ kitB "str" "list" = some false ∧ kitB "list" "list" = some true ∧ kitB "tuple" "list" = some false ∧ kitB "dict" "list" = some false := by decide +kernel
theorem kb_tuple : kitB "NoneType" "tuple" = some false ∧ kitB "bool" "tuple" = some false ∧ kitB "int" "tuple" = some false ∧ kitB "str" "tuple" = some false ∧ kitB "list" "tuple" = some false ∧ kitB "tuple" "tuple" = some true ∧ kitB "dict" "tuple" = some false := by decide +kernel
theorem kb_str : kitB "NoneType" "str" = some false ∧ kitB "bool" "str" = some false ∧ kitB "int" "str" = some false ∧ kitB "str" "str" = some true ∧ kitB "list" "str" = some false ∧ kitB "tuple" "str" = some false ∧ kitB "dict" "str" = some false := by decide +kernel
theorem kb_dict : kitB "NoneType" "dict" = some false ∧ kitB "bool" "dict" = some false ∧ kitB "int" "dict" = some false ∧ kitB "str" "dict" = some false ∧ kitB "list" "dict" = some false ∧ kitB "tuple" "dict" = some false ∧ kitB "dict" "dict" = some true := by decide +kernel
theorem isiB_kit {H : Hp} {T : Ty6} {d : D} {x : V} {b : Bool} (r : Rep K H d x) (e : isiB T d = some b) : ∃ t, TyX K H x t ∧ PySem.W.kitOne K t (.type T.nm) = some b := by
  have a1 := kb_int; have a2 := kb_bool; have a3 := kb_list; have a4 := kb_tuple; have a5 := kb_str; have a6 := kb_dict
  cases r with
  | non => refine ⟨_, .base .non, kit_ty ?_⟩; cases T <;> cases e <;> simp only [Ty6.nm, a1, a2, a3, a4, a5, a6]
  | bl => refine ⟨_, .base (.bl _), kit_ty ?_⟩; cases T <;> cases e <;> simp only [Ty6.nm, a1, a2, a3, a4, a5, a6]
  | int => refine ⟨_, .base (.int _), kit_ty ?_⟩; cases T <;> cases e <;> simp only [Ty6.nm, a1, a2, a3, a4, a5, a6]
  | str => refine ⟨_, .base (.str _), kit_ty ?_⟩; cases T <;> cases e <;> simp only [Ty6.nm, a1, a2, a3, a4, a5, a6]
  | lst h _ => refine ⟨_, .base (.lst h), kit_ty ?_⟩; cases T <;> cases e <;> simp only [Ty6.nm, a1, a2, a3, a4, a5, a6]
  | tup h _ => refine ⟨_, .base (.tup h), kit_ty ?_⟩; cases T <;> cases e <;> simp only [Ty6.nm, a1, a2, a3, a4, a5, a6]
  | dK h _ => refine ⟨_, .base (.dK h), kit_ty ?_⟩; cases T <;> cases e <;> simp only [Ty6.nm, a1, a2, a3, a4, a5, a6]
  | dT h _ => refine ⟨_, .base (.dT h), kit_ty ?_⟩; cases T <;> cases e <;> simp only [Ty6.nm, a1, a2, a3, a4, a5, a6]
  | scr => cases T <;> cases e
  | opq => cases T <;> cases e
  | deep _ => cases T <;> cases e
  | frzn _ => cases T <;> cases e
  | tz h _ _ => refine ⟨_, .fTuple h, kit_ty ?_⟩; cases T <;> cases e <;> simp only [Ty6.nm, a1, a2, a3, a4, a5, a6]
  | dTf _ _ => cases T <;> cases e
  | cls _ => cases T <;> cases e
  | exn _ _ => cases T <;> cases e
  | xn _ _ _ => cases T <;> cases e
theorem s_isi {T : Ty6} : OpS K (rIsi K) (isiF T) := fun H ds vs Q d R ef q => by
  unfold isiF at ef
  split at ef
  · rename_i d0 n
    obtain ⟨x, y, rfl, rx, ry⟩ := R.two_inv
    cases ry
    split at ef
    · rename_i hn
      subst hn
      cases eb : isiB T d0 with
      | none => rw [eb] at ef; cases ef
      | some b =>
        rw [eb] at ef
        cases ef
        obtain ⟨t, ty, k⟩ := isiB_kit rx eb
        exact ⟨x, _, t, _, b, rfl, .ty _, ty, k, q _ (.bl _)⟩
    · cases ef
  · cases ef
theorem ev_ty {n : String} : EvE K mg W true (tC (.ty n)) (cM (.opq (.ty n))) := ev_c fun _ => .opq _

/-! ### ints put in order -/
/-! ### a < b < c -/
def chM (f g : Int → Int → Bool) (ms : M (List D)) (mc : M D) : M D := fun env => match ms env with
  | .ok [.int i, .int j] e => if f i j then match mc e with
      | .ok (.int k) e2 => .ok (.bl (g j k)) e2
      | .ok _ _ => .no
      | .ex x e2 => .ex x e2
      | .no => .no
    else .ok (.bl false) e
  | .ok _ _ => .no
  | .ex e e2 => .ex e e2
  | .no => .no
theorem ev_chain {f g : Int → Int → Bool} (hab : EvR K mg W p (tCons ta (tCons tb tNil)) ms) (hc : EvE K mg W q tc mc) : EvE K mg W (p && q) (tChain (rI0 fun i j => .bl (f i j)) (rI0 fun i j => .bl (g i j)) ta tb tc) (chM f g ms mc) := fun B env σ H F Q S h => by
  have ht : ∀ (Q' : List V → Hp → Prop), (tCons ta (tCons tb tNil)) σ H Q' → (∀ vs H', Q' vs H' = (match vs with | [x, y] => (rI0 fun i j => .bl (f i j)) x y H' fun z H3 => ∃ k, z = .bl k ∧ (if k = true then tc σ H3 fun w' H4 => (rI0 fun i j => .bl (g i j)) y w' H4 Q else Q (.bl false) H3) | _ => False)) → tChain (rI0 fun i j => .bl (f i j)) (rI0 fun i j => .bl (g i j)) ta tb tc σ H Q := fun Q' h1 h2 => by
    have e : Q' = fun vs H' => (match vs with | [x, y] => (rI0 fun i j => .bl (f i j)) x y H' fun z H3 => ∃ k, z = .bl k ∧ (if k = true then tc σ H3 fun w' H4 => (rI0 fun i j => .bl (g i j)) y w' H4 Q else Q (.bl false) H3) | _ => False) := by
      funext vs H'
      exact h2 vs H'
    subst e
    exact h1
  refine ht _ (hab B env σ H F (fun vs H' => (match vs with | [x, y] => (rI0 fun i j => .bl (f i j)) x y H' fun z H3 => ∃ k, z = .bl k ∧ (if k = true then tc σ H3 fun w' H4 => (rI0 fun i j => .bl (g i j)) y w' H4 Q else Q (.bl false) H3) | _ => False)) S ?_) fun _ _ => rfl
  unfold chM at h
  cases em : ms env with
  | ex e e2 => rw [em] at h; exact h
  | no => rw [em] at h; exact h
  | ok ds e =>
    rw [em] at h
    intro vs H2 F2 S2 r2 N2 P2
    split at h
    · rename_i d env' eq
      split at eq
      · rename_i i j e' eq2
        cases eq2
        obtain ⟨x, y, rfl, rx, ry⟩ := r2.two_inv
        cases rx
        cases ry
        refine ⟨i, j, rfl, rfl, f i j, rfl, ?_⟩
        split at eq
        · rename_i hf
          rw [if_pos hf]
          refine hc B e σ H2 F2 _ S2 ?_
          split at eq
          · rename_i k e2 ek
            cases eq
            rw [ek]
            intro v H3 F3 Fd S3 N3 P3
            obtain ⟨S4, r4⟩ := S3.freeze
            obtain ⟨v', e', r4⟩ := r4.one_inv
            cases e'
            cases r4
            refine ⟨j, k, rfl, rfl, h _ H3 F3 [] (S4.rep (.cons (.bl _) .nil)) (by rw [List.append_nil]; exact N2.trans (N3.weak fun a m => List.mem_append_left _ m) fun a m => m) fun hp => ?_⟩
            obtain ⟨a1, a2, a3⟩ := P2 (by simp at hp; exact hp.1)
            obtain ⟨b1, b2, b3⟩ := P3 (by simp at hp; exact hp.2)
            exact ⟨b1.trans a1, b2.trans a2, a3.trans b3⟩
          · cases eq
          · cases eq
          · cases eq
        · rename_i hf
          rw [if_neg hf]
          cases eq
          exact h _ H2 F2 [] (S2.rep (.cons (.bl _) .nil)) (by rw [List.append_nil]; exact N2) fun hp => P2 (by simp at hp; exact hp.1)
      · cases eq
      · cases eq
      · cases eq
    · rename_i x env' eq
      split at eq
      · rename_i i j e' eq2
        cases eq2
        obtain ⟨x, y, rfl, rx, ry⟩ := r2.two_inv
        cases rx
        cases ry
        refine ⟨i, j, rfl, rfl, f i j, rfl, ?_⟩
        split at eq
        · rename_i hf
          rw [if_pos hf]
          refine hc B e σ H2 F2 _ S2 ?_
          split at eq
          · cases eq
          · cases eq
          · rename_i x2 e2 ek
            cases eq
            rw [ek]
            exact ExP.mono h (fun H' F' n => N2.trans n fun a m => m) fun b z => z
          · cases eq
        · cases eq
      · cases eq
      · rename_i eq2; cases eq2
      · cases eq
    · exact h.elim

/-! ### slices -/
def EvO (K : PySem.W.Frag) (mg : Str → Option Value) (W : WX) (p : Bool) (t : TO) (m : M (Option Int)) : Prop := ∀ B env σ H F (Q : Option Int → Hp → Prop), Sta K B env σ H F → (match m env with
  | .ok o env' => ∀ H' F', Sta K B env' σ H' F' → Nxt H F H' F' → PureP p env env' F F' H H' → Q o H'
  | .ex e env' => ExP K mg W B σ H F e env'
  | .no => False) → t σ H Q
def noM : M (Option Int) := fun env => .ok none env
def partM (m : M D) : M (Option Int) := fun env => match m env with
  | .ok (.int i) e => .ok (some i) e
  | .ok _ _ => .no
  | .ex e e2 => .ex e e2
  | .no => .no
theorem eo_no : EvO K mg W true tNoPart noM := fun B env σ H F Q S h => h H F S .refl fun _ => ⟨rfl, rfl, .refl _⟩
theorem eo_part (h1 : EvE K mg W p te m) : EvO K mg W p (tPart te) (partM m) := fun B env σ H F Q S h => by
  refine h1 B env σ H F _ S ?_
  unfold partM at h
  cases em : m env with
  | ex e e2 => rw [em] at h; exact h
  | no => rw [em] at h; exact h
  | ok d e =>
    rw [em] at h
    intro v H2 F2 Fd S1 N1 P1
    obtain ⟨S2, r⟩ := S1.freeze
    obtain ⟨v', e', r⟩ := r.one_inv
    cases e'
    cases d <;> first | exact h.elim | skip
    cases r
    exact ⟨_, rfl, h H2 F2 S2 (N1.weak fun a m => List.mem_append_left _ m) P1⟩
def cutG {α : Type} (xs : List α) (lo hi : Option Int) : List α := (xs.drop (HT.sIx xs.length 0 lo)).take (HT.sIx xs.length xs.length hi - HT.sIx xs.length 0 lo)
theorem RepL.drop {Z : Hp} : ∀ {ds : List D} {vs : List V} (n : Nat), RepL K Z ds vs → RepL K Z (ds.drop n) (vs.drop n)
  | _, _, 0, r => r
  | _, _, _ + 1, .nil => .nil
  | _, _, n + 1, .cons _ t => RepL.drop n t
theorem RepL.take {Z : Hp} : ∀ {ds : List D} {vs : List V} (n : Nat), RepL K Z ds vs → RepL K Z (ds.take n) (vs.take n)
  | _, _, 0, r => .nil
  | _, _, _ + 1, .nil => .nil
  | _, _, n + 1, .cons h t => .cons h (RepL.take n t)
theorem RepL.cut {Z : Hp} {ds : List D} {vs : List V} (r : RepL K Z ds vs) (lo hi : Option Int) : RepL K Z (cutG ds lo hi) (cutV vs lo hi) := by
  unfold cutG cutV
  rw [r.length]
  exact (r.drop _).take _
def slF (d : D) (lo hi : Option Int) : Option D := match d with
  | .lst ds => some (.lst (cutG ds lo hi))
  | .tup ds => some (.tup (cutG ds lo hi))
  | .str z => haveI : Decidable (z.length ≤ sizeLine) := Classical.propDecidable _; if z.length ≤ sizeLine then some (.str (cutS z lo hi)) else none
  | .scr ns => some (.lst (cutG (ns.map .int) lo hi))
  | _ => none
def slM (m : M D) (ml mh : M (Option Int)) : M D := fun env => match m env with
  | .ok d e1 => match ml e1 with
    | .ok lo e2 => match mh e2 with
      | .ok hi e3 => match slF d lo hi with
        | some r => .ok r e3
        | none => .no
      | .ex x e3 => .ex x e3
      | .no => .no
    | .ex x e2 => .ex x e2
    | .no => .no
  | .ex x e1 => .ex x e1
  | .no => .no
def rSlAny (K : PySem.W.Frag) : V → Option Int → Option Int → Hp → VK → Prop := fun x lo hi H Q => rSlL K x lo hi H Q ∨ (rSlA K x lo hi H Q ∨ rSlS x lo hi H Q)
theorem sl_any {X : Cx} : SlR X (rSlAny X.K) := sl_list.or (sl_tupA.or sl_str)
theorem cut_whole {α : Type} {xs : List α} {lo hi : Option Int} (h : HT.sIx xs.length 0 lo = 0 ∧ HT.sIx xs.length xs.length hi = xs.length) : cutG xs lo hi = xs := by
  unfold cutG
  rw [h.1, h.2, List.drop_zero, Nat.sub_zero, List.take_length]
theorem ev_slice {tl th : TO} {ml mh : M (Option Int)} {pl ph : Bool} (h1 : EvE K mg W p te m) (h2 : EvO K mg W pl tl ml) (h3 : EvO K mg W ph th mh) : EvE K mg W (p && (pl && ph)) (tSl (rSlAny K) te tl th) (slM m ml mh) := fun B env σ H F Q S h => by
  refine h1 B env σ H F _ S ?_
  unfold slM at h
  cases em : m env with
  | ex e e2 => rw [em] at h; exact h
  | no => rw [em] at h; exact h
  | ok d e1 =>
    rw [em] at h
    dsimp only at h
    intro v H1 F1 Fd S1 N1 P1
    obtain ⟨S1', r1⟩ := S1.freeze
    have N1' : Nxt H F H1 F1 := N1.weak fun a m => List.mem_append_left _ m
    refine h2 B e1 σ H1 F1 _ S1' ?_
    cases el : ml e1 with
    | ex e e2 => rw [el] at h; exact ExP.mono h (fun H' F' n => N1'.trans n fun a m => m) fun b z => z
    | no => rw [el] at h; exact h
    | ok lo e2 =>
      rw [el] at h
      dsimp only at h
      intro H2 F2 S2 N2 P2
      refine h3 B e2 σ H2 F2 _ S2 ?_
      have N2' := N1'.trans N2 fun a m => m
      cases eh : mh e2 with
      | ex e e2 => rw [eh] at h; exact ExP.mono h (fun H' F' n => N2'.trans n fun a m => m) fun b z => z
      | no => rw [eh] at h; exact h
      | ok hi e3 =>
        rw [eh] at h
        dsimp only at h
        intro H3 F3 S3 N3 P3
        have N3' := N2'.trans N3 fun a m => m
        obtain ⟨v', e', r1⟩ := r1.one_inv
        cases e'
        have r3 : Rep K (Fz B H3 F3) d v := (r1.mono (nxt_ex N2)).mono (nxt_ex N3)
        have ez := fz_ex B H3 F3
        have pur : PureP (p && (pl && ph)) env e3 F F3 H H3 := fun hp => by
          simp only [Bool.and_eq_true] at hp
          obtain ⟨a1, a2, a3⟩ := P1 hp.1
          obtain ⟨b1, b2, b3⟩ := P2 hp.2.1
          obtain ⟨c1, c2, c3⟩ := P3 hp.2.2
          exact ⟨c1.trans (b1.trans a1), c2.trans (b2.trans a2), (a3.trans b3).trans c3⟩
        have purN : ∀ {pp : Addr} {o : HO}, H3 pp = none → PureP (p && (pl && ph)) env e3 F F3 H (upd H3 pp o) := fun hp q => by
          obtain ⟨a1, a2, a3⟩ := pur q
          exact ⟨a1, a2, a3.trans (ex_new hp)⟩
        cases es : slF d lo hi with
        | none => rw [es] at h; exact h.elim
        | some rr =>
          rw [es] at h
          dsimp only at h
          cases r3 with
          | lst hz rl =>
            cases es
            exact .inl ⟨_, _, rfl, .of (ez _ _ hz), fun pp hp => h _ _ F3 [pp] ((S3.rep (rl.cut lo hi)).mkL hp) (Nxt.mkL (by rw [List.append_nil]; exact N3') hp) (purN hp)⟩
          | tup hz rl =>
            cases es
            refine .inr (.inl ⟨_, _, rfl, .of (ez _ _ hz), fun hw => ?_, fun _ pp hp => h _ _ F3 [] ((S3.rep (rl.cut lo hi)).mkT hp) (by rw [List.append_nil]; exact N3'.grow (ex_new hp)) (purN hp)⟩)
            rw [cut_whole (by rw [rl.length]; exact hw)] at h
            exact h _ H3 F3 [] (S3.rep (.cons (.tup hz rl) .nil)) (by rw [List.append_nil]; exact N3') pur
          | str z =>
            unfold slF at es
            dsimp only at es
            split at es
            · rename_i hz
              cases es
              exact .inr (.inr ⟨z, rfl, hz, h _ H3 F3 [] (S3.rep (.cons (.str _) .nil)) (by rw [List.append_nil]; exact N3') pur⟩)
            · cases es
          | scr hz =>
            cases es
            exact .inl ⟨_, _, rfl, sql_mono ez hz, fun pp hp => h _ _ F3 [pp] ((S3.rep ((repL_ints _).cut lo hi)).mkL hp) (Nxt.mkL (by rw [List.append_nil]; exact N3') hp) (purN hp)⟩
          | _ => cases es
/-! ### {'a': e, ..} -/
end
end MM

set_option Elab.async false
set_option linter.all false
set_option maxRecDepth 100000
set_option maxHeartbeats 4000000
noncomputable section
namespace MM
open PySem PySem.Spec PyProof.Rows L2
section
variable {K : PySem.W.Frag} {mg : Str → Option Value} {W : WX} {p q : Bool} {te ta tb tc : TE} {m ma mb mc : M D} {i : Nat} {tA : TA} {ms : M (List D)} {Z : Hp}
/-! ### list(range(..)), tuple(range(..)) -/
instance (a b : Int) : Decidable (RgOk a b) := by unfold RgOk; exact inferInstance
theorem repL_rg (lo : Int) (n : Nat) : RepL K Z (rangeL lo n) ((List.range n).map fun i => V.int (lo + (i : Nat))) := by
  unfold rangeL
  generalize List.range n = xs
  induction xs with
  | nil => exact .nil
  | cons x xs ih => exact .cons (.int _) ih
def lstRg1F : List D → Option D
  | [.int n] => haveI : Decidable (RgOk 0 n) := Classical.propDecidable _; if RgOk 0 n then some (.lst (rangeL 0 n.toNat)) else none
  | _ => none
def rLstRg1 : List V → Hp → VK → Prop := fun vs H Q => match vs with
  | [x] => ∃ n, x = .int n ∧ (RgOk 0 n ∧ ∀ q, H q = none → Q (.ref q) (upd H q (.lst (rgV 0 n))))
  | _ => False
theorem n_lstRg1 : OpN K rLstRg1 lstRg1F := fun Z H ds vs Q d ez R ef q ql qt => by
  unfold lstRg1F at ef
  split at ef
  · rename_i n
    obtain ⟨x, rfl, rx⟩ := R.one_inv
    cases rx
    split at ef
    · rename_i hb
      cases ef
      refine ⟨n, rfl, hb, fun p hp => ?_⟩
      have := ql _ p _ rfl hp (repL_rg (K := K) (Z := Z) 0 n.toNat)
      unfold rgV
      rw [Int.sub_zero]
      exact this
    · cases ef
  · cases ef
/-! ### all, any -/
def blsOf : List D → Option (List Bool)
  | [] => some []
  | .bl b :: ds => match blsOf ds with
    | some bs => some (b :: bs)
    | none => none
  | _ :: _ => none
theorem blsOf_rep {H : Hp} : ∀ {ds : List D} {vs : List V} {bs : List Bool}, RepL K H ds vs → blsOf ds = some bs → vs = bs.map V.bl
  | _, _, _, .nil, e => by cases e; rfl
  | _, _, _, .cons h t, e => by
    cases h <;> first | (simp [blsOf] at e; done) | skip
    simp only [blsOf] at e
    split at e
    · rename_i bs en
      cases e
      rw [blsOf_rep t en]
      rfl
    · cases e
def allF : List D → Option D
  | [.lst ds] => match blsOf ds with
    | some bs => some (.bl (bs.all id))
    | none => none
  | _ => none
theorem s_all : OpS K (rAll K) allF := fun H ds vs Q d R ef q => by
  unfold allF at ef
  split at ef
  · obtain ⟨x, rfl, rx⟩ := R.one_inv
    split at ef
    · rename_i bs en
      cases ef
      cases rx with
      | lst h r => exact ⟨_, bs, rfl, .of (by rw [← blsOf_rep r en]; exact h), q _ (.bl _)⟩
    · cases ef
  · cases ef
/-! ### sorted: a list of ints, a dict of ints -/
/-! ### zip, enumerate -/
def zipD (xs ys : List D) : List D := (xs.zip ys).map fun p => .tup [p.1, p.2]
def zipM (ms : M (List D)) : M (List D) := fun env => match ms env with
  | .ok [.lst xs, .lst ys] e => .ok (zipD xs ys) e
  | .ok [.tup xs, .tup ys] e => .ok (zipD xs ys) e
  | .ok _ _ => .no
  | .ex e e2 => .ex e e2
  | .no => .no
theorem eb_yes : EvB K mg W true tYes yesM := fun B env σ H F Q S h => h H F S .refl fun _ => ⟨rfl, rfl, .refl _⟩
theorem es_never {ps : List Nat} {ro : Bool} : EvS K mg W ps ro tNever (fun _ => .no) := fun B env σ H F D S h => h.elim
end
end MM

set_option Elab.async false
set_option linter.all false
set_option maxRecDepth 100000
set_option maxHeartbeats 4000000
noncomputable section
namespace MM
open PySem PySem.Spec PyProof.Rows L2

/-! ### tuples of ints: their order -/
section
variable {prog : Program} {w : World} {A : Around} {E : Value → Shared → Prop} {s : Shared}
end
section
variable {prog : Program} {w : World} {A : Around} {E : Value → Shared → Prop} {s : Shared}
end
end MM

set_option Elab.async false
set_option linter.all false
set_option maxRecDepth 100000
set_option maxHeartbeats 4000000
noncomputable section
namespace MM
open PySem PySem.Spec PyProof.Rows L2

/-! ### data without mutable cells stays wherever it is seen -/
mutual
def imt : D → Bool
  | .non | .bl _ | .int _ | .str _ | .opq _ => true
  | .tup xs => imtL xs
  | .scr _ | .lst _ | .dK _ | .dT _ | .dTf _ | .deep _ | .nam _ _ | .xn _ _ _ | .fz _ | .tz _ => false
def imtL : List D → Bool
  | [] => true
  | d :: ds => imt d && imtL ds
end
section
variable {K : PySem.W.Frag} {H H' : Hp} {B : Addr → Prop} {F : List Addr}
mutual
theorem Rep.fz (hF : ∀ a ∈ F, NT (H a)) (hB : ∀ b, B b → NT (H b)) : ∀ {d : D} {v : V}, Rep K H d v → imt d = true → Rep K (Fz B H F) d v
  | _, _, .non, _ => .non
  | _, _, .bl b, _ => .bl b
  | _, _, .int b, _ => .int b
  | _, _, .str b, _ => .str b
  | _, _, .lst h r, k => by simp [imt] at k
  | _, _, .tup (a := a) h r, k => .tup (by
      rw [fz_in (fun z => (hF a z).2.1 _ h) fun z => (hB a z).2.1 _ h]; exact h) (RepL.fz hF hB r (by simpa [imt] using k))
  | _, _, .dK h r, k => by simp [imt] at k
  | _, _, .dT h r, k => by simp [imt] at k
  | _, _, .dTf h r, k => by simp [imt] at k
  | _, _, .scr h, k => by simp [imt] at k
  | _, _, .deep h, k => by simp [imt] at k
  | _, _, .frzn h, k => by simp [imt] at k
  | _, _, .tz _ _ _, k => by simp [imt] at k
  | _, _, .cls h, k => by simp [imt] at k
  | _, _, .exn h _, k => by simp [imt] at k
  | _, _, .xn _ _ _, k => by simp [imt] at k
  | _, _, .opq v, _ => .opq v
theorem RepL.fz (hF : ∀ a ∈ F, NT (H a)) (hB : ∀ b, B b → NT (H b)) : ∀ {ds : List D} {vs : List V}, RepL K H ds vs → imtL ds = true → RepL K (Fz B H F) ds vs
  | _, _, .nil, _ => .nil
  | _, _, .cons h r, k => by
    simp only [imtL, Bool.and_eq_true] at k
    exact .cons (Rep.fz hF hB h k.1) (RepL.fz hF hB r k.2)
end
end

/-! ### operations whose answer is immutable, or a new list of immutable things; a def so called -/
def clT (f : List D → RF) (ms : M (List D)) : M D := fun env => match ms env with
  | .ok ds e => match f ds with
    | .ret d => if imt d then .ok d e else .no
    | .ex x => .ex x e
    | .no => .no
  | .ex e e2 => .ex e e2
  | .no => .no
section
variable {K : PySem.W.Frag} {mg : Str → Option Value} {W : WX} {p : Bool} {t : TE} {tA : TA} {ms : M (List D)} {r : List V → Hp → VK → Prop} {f : List D → Option D} {ro : Bool}
  {B : Addr → Prop} {env : Env} {σ : St} {H : Hp} {F : List Addr}
theorem Sta.after {H' : Hp} {Fd : List Addr} (S : Sta K B env σ H F) (N : Nxt H [] H' Fd) : Sta K B env σ H' F := S.ext fun b o e => N.fr b o e fun z => nomatch z
end
end MM

set_option Elab.async false
set_option linter.all false
set_option maxRecDepth 100000
set_option maxHeartbeats 4000000
noncomputable section
namespace MM
open PySem PySem.Spec PyProof.Rows L2

/-! ### sorted, of lists and dicts of tuples of ints -/
section
variable {X : Cx}
end

/-! ### the mirror's sorted -/
/-! ### isinstance with a tuple of built-in classes -/
end MM

set_option Elab.async false
set_option linter.all false
set_option maxRecDepth 100000
set_option maxHeartbeats 4000000
noncomputable section
namespace MM
open PySem PySem.Spec PyProof.Rows L2

/-! ### lists of lists of one's own -/
def EvD (K : PySem.W.Frag) (mg : Str → Option Value) (W : WX) (p : Bool) (t : TE) (m : M D) : Prop := ∀ B env σ H F (Q : VK), Sta K B env σ H F → (match m env with
  | .ok d env' => ∀ v H' F' Fd, StaL K B env' σ H' F' [d] [v] Fd → Exl (.deep d) Fd → Nxt H F H' (F' ++ Fd) → PureP p env env' F F' H H' → Q v H'
  | .ex e env' => ExP K mg W B σ H F e env'
  | .no => False) → t σ H Q
section
variable {K : PySem.W.Frag} {mg : Str → Option Value} {W : WX} {ps : List Nat} {ro : Bool} {p q : Bool} {t : TS} {a : MS} {wi : TI} {mi : M (List D)} {g : TG} {js : List Nat} {bd : D → Env → Option Env} {i : Nat}
  {B : Addr → Prop} {env : Env} {σ : St} {H H0 : Hp} {F F0 Fd : List Addr} {ds : List D} {vs : List V}

theorem OwnL.one_own {Z : Hp} {d : D} {v : V} {Fd : List Addr} (o : OwnL K H Z [d] [v] Fd) : Own K H Z d v Fd := by
  obtain ⟨v', e, o⟩ := o.one_inv
  cases e
  exact o
end
end MM

set_option Elab.async false
set_option linter.all false
set_option maxRecDepth 100000
set_option maxHeartbeats 4000000
noncomputable section
namespace MM
open PySem PySem.Spec PyProof.Rows L2

def asgD (i : Nat) (m : M D) : MS := fun env => match m env with
  | .ok d e => .nx (e.set i (some (true, .deep d)))
  | .ex e e2 => .ex e e2
  | .no => .no
def udE (i : Nat) (env : Env) : Env := match env[i]? with
  | some (some (true, .deep (.lst ds))) => env.set i (some (true, .lst ds))
  | _ => env
/-- the slot's list is no longer looked into -/
def udM (i : Nat) (a : MS) : MS := fun env => match a env with
  | .nx e => .nx (udE i e)
  | r => r
section
variable {K : PySem.W.Frag} {mg : Str → Option Value} {W : WX} {ps : List Nat} {ro : Bool} {p q : Bool} {te t1 t2 ta tb : TE} {t : TS} {m ma mb mv : M D} {a : MS} {i : Nat}
  {B : Addr → Prop} {env : Env} {σ : St} {H H0 : Hp} {F F0 Fd : List Addr} {ds : List D} {vs : List V}
theorem StaL.deep {d : D} {v : V} (S : StaL K B env σ H F [d] [v] Fd) : StaL K B env σ H F [.deep d] [v] Fd :=
  ⟨S.rel, .one (.deep S.own.one_own), S.nd, S.liv, S.bad⟩
theorem RepL.set {Z : Hp} {d : D} {v : V} (r : Rep K Z d v) : ∀ {ds : List D} {vs : List V} (n : Nat), RepL K Z ds vs → RepL K Z (ds.set n d) (vs.set n v)
  | _, _, _, .nil => .nil
  | _, _, 0, .cons _ t => .cons r t
  | _, _, n + 1, .cons h t => .cons h (RepL.set r n t)
end
/-! ### {k: v} with a tuple for a key -/
def dT1M (mk mv : M D) : M D := fun env => match mk env with
  | .ok (.tup ks) e1 => match mv e1 with
    | .ok v e2 => match keysD ks with
      | some k => .ok (.dT [(k, v)]) e2
      | none => .no
    | .ex e e2 => .ex e e2
    | .no => .no
  | .ok _ _ => .no
  | .ex e e2 => .ex e e2
  | .no => .no
section
variable {K : PySem.W.Frag} {mg : Str → Option Value} {W : WX} {p q : Bool} {tk tv : TE} {mk mv : M D}
end
/-! ### a def that calls itself: no fuel left -/
end MM

set_option Elab.async false
set_option linter.all false
set_option maxRecDepth 100000
set_option maxHeartbeats 4000000
noncomputable section
namespace MM
open PySem PySem.Spec PyProof.Rows L2

/-! ### the kit's rules with the written part named: in a block's context too -/
section
variable {X : Cx} {K : PySem.W.Frag}
theorem op_addAny_ (hK : X.K = K) : OpR X (binaryOp .Add) (rAddAny K) := hK ▸ op_addAny
theorem op_mulAny_ (hK : X.K = K) : OpR X (binaryOp .Mult) (rMulAny K) := hK ▸ op_mulAny
theorem ix_any_ (hK : X.K = K) (hu : X.A.units + 1 < cLine) : IxR X (rIxAny K) := hK ▸ ix_any hu
theorem op_eqD_ (hK : X.K = K) (hu : X.A.units + 64 < cLine) : OpR X (compareOp .Eq) (rEqD K) := hK ▸ op_eqD hu
theorem op_neD_ (hK : X.K = K) (hu : X.A.units + 64 < cLine) : OpR X (compareOp .NotEq) (rNeD K) := hK ▸ op_neD hu
theorem op_inW_ (hK : X.K = K) (hu : X.A.units + 65 < cLine) : OpR X (compareOp .In) (rInW K) := hK ▸ op_inW hu
theorem op_notInW_ (hK : X.K = K) (hu : X.A.units + 65 < cLine) : OpR X (compareOp .NotIn) (rNotInW K) := hK ▸ op_notInW hu
theorem call_lenAny_ (hK : X.K = K) : CallR X (.builtin "len") (rLenAny K) := hK ▸ call_lenAny
theorem cr_all_ (hK : X.K = K) (hc : X.calm = true) : CallR X (.builtin "all") (rAll K) := hK ▸ cr_all hc
theorem call_isi_ (hK : X.K = K) : CallR X (.builtin "isinstance") (rIsi K) := hK ▸ call_isi
theorem sl_any_ (hK : X.K = K) : SlR X (rSlAny K) := hK ▸ sl_any
theorem call_tuple_of_ (hK : X.K = K) : CallR X (.type "tuple") (fun xs H Q => ∃ p ys, xs = [.ref p] ∧ ((SqL K H p ys ∧ ∀ l, H l = none → Q (.ref l) (upd H l (.tup ys))) ∨ (SqT K H p ys ∧ Q (.ref p) H))) := by
  subst hK; exact call_tuple_of
theorem pi_seq_ {tg l : Expr} {tl : TE} (hK : X.K = K) (hl : PE X l tl) : PI X tg l (iSeq K tl) := hK ▸ pi_seq hl
end
/-! ### an item, immutable, of what is only read -/
end MM

set_option Elab.async false
set_option linter.all false
set_option maxRecDepth 100000
set_option maxHeartbeats 4000000
noncomputable section
namespace MM
open PySem PySem.Spec PyProof.Rows L2

/-! ### the mirrors evaluated -/
section
variable {a b : MS} {m mk mv ma mb : M D} {ms : M (List D)} {env : Env} {i j : Nat} {c : M Bool} {d : D} {f : List D → Option D}
@[simp] theorem seqM_ap : seqM a b env = match a env with | .nx e => b e | r => r := id rfl
@[simp] theorem nxM_ap : nxM env = .nx env := id rfl
@[simp] theorem brM_ap : brM env = .bk env := id rfl
@[simp] theorem ctM_ap : ctM env = .ct env := id rfl
@[simp] theorem retM_ap : retM m env = match m env with | .ok d e => .rt d e | .ex e e2 => .ex e e2 | .no => .no := id rfl
@[simp] theorem retNM_ap : retNM env = .rt .non env := id rfl
@[simp] theorem ifS_ap : ifS c a b env = match c env with | .ok true e => a e | .ok false e => b e | .ex e e2 => .ex e e2 | .no => .no := id rfl
@[simp] theorem asgF_ap : asgF i m env = match m env with | .ok d e => .nx (e.set i (some (false, d))) | .ex e e2 => .ex e e2 | .no => .no := id rfl
@[simp] theorem asgO_ap : asgO i m env = match m env with | .ok d e => .nx (e.set i (some (true, d))) | .ex e e2 => .ex e e2 | .no => .no := id rfl
@[simp] theorem dropM_ap : dropM m env = match m env with | .ok _ e => .nx e | .ex e e2 => .ex e e2 | .no => .no := id rfl
@[simp] theorem frzE_ap : frzE i env = match env[i]? with | some (some (_, d)) => env.set i (some (false, d)) | _ => env := id rfl
@[simp] theorem frzM_ap : frzM i a env = a (frzE i env) := id rfl
@[simp] theorem rdM_ap : rdM i env = match env[i]? with | some (some (_, d)) => some d | _ => none := id rfl
@[simp] theorem vrM_ap : vrM i env = match env[i]? with | some (some (false, d)) => .ok d env | _ => .no := id rfl
@[simp] theorem cM_ap : cM d env = .ok d env := id rfl
@[simp] theorem nilM_ap : nilM env = .ok [] env := id rfl
@[simp] theorem consM_ap : consM m ms env = match m env with | .ok d e1 => (match ms e1 with | .ok ds e2 => .ok (d :: ds) e2 | .ex e e2 => .ex e e2 | .no => .no) | .ex e e1 => .ex e e1 | .no => .no := id rfl
@[simp] theorem consTM_ap {m : Env → Option D} : consTM m ms env = match m env with | some d => (match ms env with | .ok ds e2 => .ok (d :: ds) e2 | .ex e e2 => .ex e e2 | .no => .no) | none => .no := id rfl
@[simp] theorem consNM_ap : consNM i ms env = match rdM i env with | some _ => (match ms env with | .ok ds e2 => (match rdM i e2 with | some d => .ok (d :: ds) e2 | none => .no) | .ex e e2 => .ex e e2 | .no => .no) | none => .no := id rfl
@[simp] theorem opM_ap : opM f ms env = match ms env with | .ok ds e2 => (match f ds with | some d => .ok d e2 | none => .no) | .ex e e2 => .ex e e2 | .no => .no := id rfl
@[simp] theorem tstM_ap : tstM m env = match m env with | .ok (.bl b) e => .ok b e | .ok _ _ => .no | .ex e e2 => .ex e e2 | .no => .no := id rfl
@[simp] theorem andM_ap {a b : M Bool} : andM a b env = match a env with | .ok true e => b e | r => r := id rfl
@[simp] theorem orM_ap {a b : M Bool} : orM a b env = match a env with | .ok false e => b e | r => r := id rfl
@[simp] theorem notM_ap {a : M Bool} : notM a env = match a env with | .ok b e => .ok (!b) e | r => r := id rfl
@[simp] theorem ifM_ap {α : Type} {a b : M α} : ifM c a b env = match c env with | .ok true e => a e | .ok false e => b e | .ex e e2 => .ex e e2 | .no => .no := id rfl
@[simp] theorem andVM_ap {a b : M D} : andVM a b env = match a env with | .ok (.bl true) e => b e | .ok (.bl false) e => .ok (.bl false) e | .ok _ _ => .no | r => r := id rfl
@[simp] theorem orVM_ap {a b : M D} : orVM a b env = match a env with | .ok (.bl false) e => b e | .ok (.bl true) e => .ok (.bl true) e | .ok _ _ => .no | r => r := id rfl
@[simp] theorem notVM_ap {a : M D} : notVM a env = match a env with | .ok (.bl b) e => .ok (.bl (!b)) e | .ok _ _ => .no | r => r := id rfl
@[simp] theorem immM_ap {m : Env → Option D} : immM m env = match m env with | some d => if imm d then .ok d env else .no | none => .no := id rfl
@[simp] theorem imM_ap : imM m env = match m env with | .ok d e => if imm d then .ok d e else .no | r => r := id rfl
@[simp] theorem ixT_ap {mt : Env → Option D} : ixT mt mk env = match mt env with | some d => (match mk env with | .ok k _ => ixF [d, k] | _ => none) | none => none := id rfl
@[simp] theorem yesM_ap : yesM env = .ok true env := id rfl
@[simp] theorem setM_ap : setM i mv mk env = match mv env with | .ok v e1 => (match rdM i e1 with | some _ => (match mk e1 with | .ok k e2 => (match e2[i]? with | some (some (true, d)) => (match setF d k v with | some d' => .nx (e2.set i (some (true, d'))) | none => .no) | _ => .no) | .ex e e2 => .ex e e2 | .no => .no) | none => .no) | .ex e e2 => .ex e e2 | .no => .no := id rfl
@[simp] theorem mutM_ap {f : List D → List D → Option (List D × D)} : mutM i f ms env = match env[i]? with | some (some (true, .lst _)) => (match ms env with | .ok as e2 => (match e2[i]? with | some (some (true, .lst ds)) => (match f ds as with | some (es, d) => .ok d (e2.set i (some (true, .lst es))) | none => .no) | _ => .no) | .ex e e2 => .ex e e2 | .no => .no) | _ => .no := id rfl
@[simp] theorem mvM_ap : mvM i env = match env[i]? with | some (some (true, d)) => .ok d (env.set i none) | _ => .no := id rfl
@[simp] theorem clF_ap {f : List D → RF} : clF f ms env = match ms env with | .ok ds e => (match f ds with | .ret d => .ok d e | .ex x => .ex x e | .no => .no) | .ex e e2 => .ex e e2 | .no => .no := id rfl
@[simp] theorem clT_ap {f : List D → RF} : clT f ms env = match ms env with | .ok ds e => (match f ds with | .ret d => (if imt d then .ok d e else .no) | .ex x => .ex x e | .no => .no) | .ex e e2 => .ex e e2 | .no => .no := id rfl
@[simp] theorem bdName_ap : bdName i d env = if i < env.length then some (env.set i (some (false, d))) else none := id rfl
@[simp] theorem itemsM_ap : itemsM m env = match m env with | .ok d e => (match itemsD d with | some ds => .ok ds e | none => .no) | .ex e e2 => .ex e e2 | .no => .no := id rfl
@[simp] theorem range1M_ap : range1M ms env = match ms env with | .ok [.int j] e => (haveI : Decidable (-(2 ^ 62) ≤ j ∧ j < 2 ^ 62) := Classical.propDecidable _; if -(2 ^ 62) ≤ j ∧ j < 2 ^ 62 then .ok (rangeL 0 j.toNat) e else .no) | .ok _ _ => .no | .ex e e2 => .ex e e2 | .no => .no := id rfl
@[simp] theorem asgG_ap {bd : D → Env → Option Env} : asgG bd m env = match m env with | .ok d e => (match bd d e with | some e2 => .nx e2 | none => .no) | .ex e e2 => .ex e e2 | .no => .no := id rfl
@[simp] theorem envF_ap {n : Nat} {ds : List D} : envF n ds = ds.map (fun d => some (false, d)) ++ List.replicate (n - ds.length) none := id rfl
@[simp] theorem envP_ap {n : Nat} {a : D} {ds : List D} : envP n a ds = some (true, a) :: (ds.map (fun d => some (false, d)) ++ List.replicate (n - (ds.length + 1)) none) := id rfl
@[simp] theorem callF_ap {np n : Nat} {ds : List D} : callF np n a ds = if ds.length = np then (match a (envF n ds) with | .nx _ => .ret .non | .rt d _ => .ret d | .ex e _ => .ex e | _ => .no) else .no := id rfl
@[simp] theorem callP_ap {np n : Nat} {d : D} {ds : List D} : callP np n a d ds = if ds.length + 1 = np then (match a (envP n d ds) with
  | .nx e => (match ownAt0 e with | some a' => .ret .non a' | none => .no)
  | .rt d e => (match ownAt0 e with | some a' => .ret d a' | none => .no)
  | .ex x e => (match ownAt0 e with | some a' => .ex x a' | none => .no)
  | _ => .no) else .no := id rfl
@[simp] theorem ownAt0_ap {r : Env} : ownAt0 (some (true, d) :: r) = some d := id rfl
@[simp] theorem itemsD_lst {ds : List D} : itemsD (.lst ds) = some ds := rfl
@[simp] theorem itemsD_tup {ds : List D} : itemsD (.tup ds) = some ds := rfl
end
theorem clP_eq {i : Nat} {f : D → List D → RP} {ms : M (List D)} {env : Env} : clP i f ms env = match rdM i env with
  | some _ => (match ms env with
    | .ok ds e => (match e[i]? with
      | some (some (true, a)) => (match f a ds with
        | .ret d a' => .ok d (e.set i (some (true, a')))
        | .ex x a' => .ex x (e.set i (some (true, a')))
        | .no => .no)
      | _ => .no)
    | .ex e e2 => .ex e e2
    | .no => .no)
  | none => .no := rfl
/-- what a def hands back -/
def RetP (r : RP) (Q : D → D → Prop) : Prop := match r with | .ret d a => Q d a | _ => False
def RetF (r : RF) (Q : D → Prop) : Prop := match r with | .ret d => Q d | _ => False
@[simp] theorem RetP_ret {d a : D} {Q : D → D → Prop} : RetP (.ret d a) Q = Q d a := rfl
@[simp] theorem RetF_ret {d : D} {Q : D → Prop} : RetF (.ret d) Q = Q d := rfl
theorem RetP.get {r : RP} {Q : D → D → Prop} (h : RetP r Q) : ∃ d a, r = .ret d a ∧ Q d a := by
  cases r with
  | ret d a => exact ⟨d, a, rfl, h⟩
  | _ => exact h.elim
theorem RetF.get {r : RF} {Q : D → Prop} (h : RetF r Q) : ∃ d, r = .ret d ∧ Q d := by
  cases r with
  | ret d => exact ⟨d, rfl, h⟩
  | _ => exact h.elim
/-! ### ints -/
theorem cmul_l {i j : Int} (h1 : -18446744073709551616 < i) (h2 : i < 18446744073709551616) : CMulA i j := .inl (.inl ⟨by simpa using h1, by simpa using h2⟩)
theorem cmul_r {i j : Int} (h1 : -18446744073709551616 < j) (h2 : j < 18446744073709551616) : CMulA i j := .inl (.inr ⟨by simpa using h1, by simpa using h2⟩)
theorem fmod_pos {x c : Int} (h : 0 < c) : 0 ≤ x.fmod c ∧ x.fmod c < c := ⟨Int.fmod_nonneg_of_pos _ h, Int.fmod_lt_of_pos _ h⟩
theorem cmul_fmod {x c j : Int} (h : 0 < c) (h2 : c < 18446744073709551616) : CMulA (x.fmod c) j := by
  obtain ⟨a, b⟩ := fmod_pos (x := x) h
  exact cmul_l (by omega) (by omega)
theorem addF_int {i j : Int} : addF [.int i, .int j] = some (.int (i + j)) := rfl
theorem mulF_l {i j : Int} (h1 : -18446744073709551616 < i) (h2 : i < 18446744073709551616) : mulF [.int i, .int j] = some (.int (i * j)) := if_pos (cmul_l h1 h2)
theorem mulF_r {i j : Int} (h1 : -18446744073709551616 < j) (h2 : j < 18446744073709551616) : mulF [.int i, .int j] = some (.int (i * j)) := if_pos (cmul_r h1 h2)
theorem mulF_fmod {x c j : Int} (h : 0 < c) (h2 : c < 18446744073709551616) : mulF [.int (x.fmod c), .int j] = some (.int (x.fmod c * j)) := if_pos (cmul_fmod h h2)
theorem modF_int {i j : Int} (h : 0 < j) : modF [.int i, .int j] = some (.int (i.fmod j)) := if_pos (by omega)
theorem fdivF_int {i j : Int} (h : 0 < j) (h2 : j < 1073741824) : fdivF [.int i, .int j] = some (.int (i.fdiv j)) := if_pos (by omega)
theorem cmpF_int {f : Int → Int → Bool} {i j : Int} : cmpF f [.int i, .int j] = some (.bl (f i j)) := rfl
theorem lenF_lst {ds : List D} : lenF [.lst ds] = some (.int ds.length) := rfl
theorem lenF_tup {ds : List D} : lenF [.tup ds] = some (.int ds.length) := rfl
theorem lenF_scr {ds : List Int} : lenF [.scr ds] = some (.int ds.length) := rfl
theorem atI_nat {α : Type} {xs : List α} {i : Int} (h0 : 0 ≤ i) (h : i < xs.length) : atI xs i = xs[i.toNat]? := by
  unfold atI ixN
  rw [if_pos h0, if_pos h]
  rfl
theorem ixF_scr {ns : List Int} {i : Int} (h0 : 0 ≤ i) (h : i < ns.length) : ixF [.scr ns, .int i] = some (.int (ns.getD i.toNat 0)) := by
  show (atI ns i).map D.int = _
  rw [atI_nat h0 h]
  have : i.toNat < ns.length := by omega
  simp [List.getElem?_eq_getElem this, List.getD_eq_getElem?_getD]
theorem ixF_lst {ds : List D} {i : Int} (h0 : 0 ≤ i) (h : i < ds.length) : ixF [.lst ds, .int i] = ds[i.toNat]? := atI_nat h0 h
theorem ixF_tup {ds : List D} {i : Int} (h0 : 0 ≤ i) (h : i < ds.length) : ixF [.tup ds, .int i] = ds[i.toNat]? := atI_nat h0 h
end MM

set_option Elab.async false
set_option linter.all false
set_option maxRecDepth 100000
set_option maxHeartbeats 4000000
noncomputable section
namespace MM
open PySem PySem.Spec PyProof.Rows L2

/-! ### data of numbers -/
def ofN (l : List Nat) : List D := l.map fun (n : Nat) => D.int (n : Int)
abbrev tupN (l : List Nat) : D := .tup (ofN l)
abbrev lstN (l : List Nat) : D := .lst (ofN l)
@[simp] theorem ofN_length (l : List Nat) : (ofN l).length = l.length := List.length_map ..
@[simp] theorem ofN_nil : ofN [] = [] := rfl
@[simp] theorem ofN_cons (n : Nat) (l : List Nat) : ofN (n :: l) = .int n :: ofN l := rfl
@[simp] theorem ofN_append (l m : List Nat) : ofN (l ++ m) = ofN l ++ ofN m := List.map_append ..
theorem ofN_get (l : List Nat) (i : Nat) : (ofN l)[i]? = (l[i]?).map fun (n : Nat) => D.int (n : Int) := List.getElem?_map ..
theorem rangeL_get? {lo : Int} {n i : Nat} (h : i < n) : (rangeL lo n)[i]? = some (.int (lo + i)) := by
  unfold rangeL
  rw [List.getElem?_map, List.getElem?_range h]
  rfl
@[simp] theorem rangeL_length {lo : Int} {n : Nat} : (rangeL lo n).length = n := by unfold rangeL; rw [List.length_map, List.length_range]
theorem rangeL_get {lo : Int} {n i : Nat} (h : i < (rangeL lo n).length) : (rangeL lo n)[i] = .int (lo + i) :=
  Option.some.inj ((List.getElem?_eq_getElem h).symm.trans (rangeL_get? (by rwa [rangeL_length] at h)))
theorem rangeL_ofN (n : Nat) : rangeL 0 n = ofN (List.range n) := by
  unfold rangeL ofN
  exact List.map_congr_left fun i _ => by simp
theorem rangeL_ofN1 (a n : Nat) : rangeL (a : Int) n = ofN (List.range' a n) := by
  unfold rangeL ofN
  rw [List.range'_eq_map_range, List.map_map]
  exact List.map_congr_left fun i _ => by simp
/-! ### loops -/
theorem forM_ind {bd : D → Env → Option Env} {body : MS} (P : Nat → Env → Prop) : ∀ (xs : List D) (s : Nat) (e : Env), P s e →
    (∀ i (h : i < xs.length) e, P (s + i) e → ∃ e1 e2, bd xs[i] e = some e1 ∧ (body e1 = .nx e2 ∨ body e1 = .ct e2) ∧ P (s + i + 1) e2) → ∃ e', forM bd body xs e = .nx e' ∧ P (s + xs.length) e'
  | [], s, e, h0, _ => ⟨e, rfl, h0⟩
  | x :: xs, s, e, h0, hs => by
    obtain ⟨e1, e2, h1, h2, h3⟩ := hs 0 (Nat.zero_lt_succ _) e h0
    obtain ⟨e', g1, g2⟩ := forM_ind P xs (s + 1) e2 h3 fun i h e hp => by
      have := hs (i + 1) (Nat.succ_lt_succ h) e (by rw [← Nat.add_assoc, Nat.add_right_comm]; exact hp)
      simpa [Nat.add_assoc, Nat.add_comm 1] using this
    refine ⟨e', ?_, by rw [List.length_cons, Nat.add_comm xs.length, ← Nat.add_assoc]; exact g2⟩
    unfold forM
    have h1' : bd x e = some e1 := h1
    rw [h1']
    rcases h2 with h2 | h2 <;> (dsimp only; rw [h2]; exact g1)
theorem loop_ind {mi : M (List D)} {bd : D → Env → Option Env} {body : MS} {e e0 : Env} {xs : List D} (P : Nat → Env → Prop) (hm : mi e = .ok xs e0) (h0 : P 0 e0)
    (hs : ∀ i (h : i < xs.length) e, P i e → ∃ e1 e2, bd xs[i] e = some e1 ∧ (body e1 = .nx e2 ∨ body e1 = .ct e2) ∧ P (i + 1) e2) : ∃ e', loopM mi bd body e = .nx e' ∧ P xs.length e' := by
  obtain ⟨e', g1, g2⟩ := forM_ind P xs 0 e0 h0 fun i h e hp => by
    have := hs i h e (by rwa [Nat.zero_add] at hp)
    rwa [Nat.zero_add]
  refine ⟨e', ?_, by rwa [Nat.zero_add] at g2⟩
  unfold loopM
  rw [hm]
  exact g1
theorem loop_on {mi : M (List D)} {bd : D → Env → Option Env} {body : MS} {e : Env} {r : RS} (hL : loopM mi bd body e = r) (xs : List D) (P : Nat → Env → Prop) (hm : mi e = .ok xs e) (h0 : P 0 e)
    (hs : ∀ i (h : i < xs.length) e, P i e → ∃ e1 e2, bd xs[i] e = some e1 ∧ (body e1 = .nx e2 ∨ body e1 = .ct e2) ∧ P (i + 1) e2) : ∃ e', r = .nx e' ∧ P xs.length e' := by
  rw [← hL]
  exact loop_ind P hm h0 hs
/-- .. over range(n) -/
theorem loop_rg {n : Nat} {ms : M (List D)} {bd : D → Env → Option Env} {body : MS} {e : Env} {r : RS} (hL : loopM (range1M ms) bd body e = r) (P : Nat → Env → Prop) (hm : ms e = .ok [.int n] e) (hn : n < 1000000000) (h0 : P 0 e)
    (hs : ∀ i (h : i < n) e, P i e → ∃ e1 e2, bd (.int i) e = some e1 ∧ (body e1 = .nx e2 ∨ body e1 = .ct e2) ∧ P (i + 1) e2) : ∃ e', r = .nx e' ∧ P n e' := by
  have := loop_on hL (rangeL 0 n) P (by rw [range1M_ap, hm]; dsimp only; rw [if_pos (by omega)]; simp) h0 fun i h e hp => by
    rw [rangeL_length] at h
    have := hs i h e hp
    rw [rangeL_get, Int.zero_add]
    exact this
  rwa [rangeL_length] at this
end MM

set_option Elab.async false
set_option linter.all false
set_option maxRecDepth 100000
set_option maxHeartbeats 4000000
noncomputable section
namespace MM
open PySem PySem.Spec PyProof.Rows L2

/-- a statement that goes on -/
def NxS (r : RS) (Q : Env → Prop) : Prop := match r with
  | .nx e => Q e
  | .ct e => Q e
  | _ => False
@[simp] theorem NxS_nx {e : Env} {Q : Env → Prop} : NxS (.nx e) Q = Q e := rfl
@[simp] theorem NxS_ct {e : Env} {Q : Env → Prop} : NxS (.ct e) Q = Q e := rfl
def bdB (bd : D → Env → Option Env) (body : MS) (d : D) (e : Env) : RS := match bd d e with
  | some e1 => body e1
  | none => .no
@[simp] theorem bdB_ap {bd : D → Env → Option Env} {body : MS} {d : D} {e : Env} : bdB bd body d e = match bd d e with | some e1 => body e1 | none => .no := id rfl
theorem NxS.get {bd : D → Env → Option Env} {body : MS} {d : D} {e : Env} {Q : Env → Prop} (h : NxS (bdB bd body d e) Q) : ∃ e1 e2, bd d e = some e1 ∧ (body e1 = .nx e2 ∨ body e1 = .ct e2) ∧ Q e2 := by
  unfold bdB at h
  cases eb : bd d e with
  | none => rw [eb] at h; exact h.elim
  | some e1 =>
    rw [eb] at h
    dsimp only at h
    cases er : body e1 with
    | nx e2 => rw [er] at h; exact ⟨e1, e2, rfl, .inl er, h⟩
    | ct e2 => rw [er] at h; exact ⟨e1, e2, rfl, .inr er, h⟩
    | _ => rw [er] at h; exact h.elim
theorem for_rg {n : Nat} {ms : M (List D)} {bd : D → Env → Option Env} {body : MS} {e : Env} {r : RS} (hL : loopM (range1M ms) bd body e = r) (P : Nat → Env → Prop) (hm : ms e = .ok [.int n] e) (hn : n < 1000000000) (h0 : P 0 e)
    (hs : ∀ i (h : i < n) e, P i e → NxS (bdB bd body (.int i) e) (P (i + 1))) : ∃ e', r = .nx e' ∧ P n e' :=
  loop_rg hL P hm hn h0 fun i h e hp => (hs i h e hp).get
end MM

set_option linter.all false
set_option maxRecDepth 100000
namespace MM
/-! ### lists without repeats -/
theorem len_of_sub {α : Type} [DecidableEq α] : ∀ {l m : List α}, l.Nodup → (∀ x ∈ l, x ∈ m) → l.length ≤ m.length
  | [], _, _, _ => Nat.zero_le _
  | a :: l, m, hn, hs => by
    have hn' := List.nodup_cons.mp hn
    have ha := hs a List.mem_cons_self
    have ih := len_of_sub (m := m.erase a) hn'.2 fun y hy => by
      have ya : y ≠ a := fun z => hn'.1 (z ▸ hy)
      exact (List.mem_erase_of_ne ya).mpr (hs y (List.mem_cons_of_mem _ hy))
    rw [List.length_erase_of_mem ha] at ih
    have : 0 < m.length := List.length_pos_of_mem ha
    simp
    omega
/-! ### turns -/
def Turn (n : Nat) (l : List Nat) : Prop := l.Perm (List.range n)
def comp (a b : List Nat) : List Nat := a.map fun k => b.getD k 0
theorem Turn.len {n : Nat} {l : List Nat} (h : Turn n l) : l.length = n := by
  have := h.length_eq
  simpa using this
theorem Turn.nodup {n : Nat} {l : List Nat} (h : Turn n l) : l.Nodup := h.nodup_iff.mpr List.nodup_range
theorem Turn.mem {n : Nat} {l : List Nat} (h : Turn n l) {x : Nat} : x ∈ l ↔ x < n := by
  rw [h.mem_iff, List.mem_range]
theorem getD_lt {l : List Nat} {i : Nat} (h : i < l.length) : l.getD i 0 = l[i] := by
  rw [List.getD_eq_getElem?_getD, List.getElem?_eq_getElem h]; rfl
theorem Turn.lt {n : Nat} {l : List Nat} (h : Turn n l) {i : Nat} (hi : i < n) : l.getD i 0 < n := by
  rw [getD_lt (by rw [h.len]; exact hi)]
  exact h.mem.mp (List.getElem_mem _)
theorem Turn.inj {n : Nat} {l : List Nat} (h : Turn n l) {i j : Nat} (hi : i < n) (hj : j < n) (e : l.getD i 0 = l.getD j 0) : i = j := by
  have hi' : i < l.length := by rw [h.len]; exact hi
  have hj' : j < l.length := by rw [h.len]; exact hj
  rw [getD_lt hi', getD_lt hj'] at e
  have pw := List.pairwise_iff_getElem.mp h.nodup
  rcases Nat.lt_trichotomy i j with c | c | c
  · exact absurd e (pw i j hi' hj' c)
  · exact c
  · exact absurd e.symm (pw j i hj' hi' c)
theorem Turn.surj {n : Nat} {l : List Nat} (h : Turn n l) {x : Nat} (hx : x < n) : ∃ i, i < n ∧ l.getD i 0 = x := by
  obtain ⟨i, hi, e⟩ := List.getElem_of_mem (h.mem.mpr hx)
  exact ⟨i, by rw [← h.len]; exact hi, by rw [getD_lt hi, e]⟩
@[simp] theorem comp_length {a b : List Nat} : (comp a b).length = a.length := by simp [comp]
theorem comp_getD {n : Nat} {a b : List Nat} (ha : Turn n a) {i : Nat} (hi : i < n) : (comp a b).getD i 0 = b.getD (a.getD i 0) 0 := by
  have hi' : i < a.length := by rw [ha.len]; exact hi
  rw [getD_lt (by simpa using hi'), getD_lt hi']
  simp [comp]
theorem turn_ext {n : Nat} {a b : List Nat} (ha : a.length = n) (hb : b.length = n) (h : ∀ i, i < n → a.getD i 0 = b.getD i 0) : a = b := by
  refine List.ext_getElem (by rw [ha, hb]) fun i h1 h2 => ?_
  have := h i (by omega)
  rwa [getD_lt h1, getD_lt h2] at this
theorem range_turn (n : Nat) : Turn n (List.range n) := .refl _
theorem range_getD {n i : Nat} (h : i < n) : (List.range n).getD i 0 = i := by
  rw [getD_lt (by simpa using h)]; simp
theorem id_comp {n : Nat} {a : List Nat} (ha : Turn n a) : comp (List.range n) a = a := by
  refine turn_ext (n := n) (by simp) ha.len fun i hi => ?_
  rw [comp_getD (range_turn n) hi, range_getD hi]
/-! ### houses -/
end MM

set_option linter.all false
set_option maxRecDepth 100000
namespace MM
/-! ### the order of a turn of at most seven things -/
/-- its powers -/
def pw (n : Nat) (g : List Nat) : Nat → List Nat
  | 0 => List.range n
  | k + 1 => comp (pw n g k) g
end MM

set_option linter.all false
set_option maxRecDepth 100000
namespace MM
/-! ### what comes of some, one step after another -/
section
variable {α β : Type} [DecidableEq α] (step : α → β → α)
def addAll (one : α) : List β → List α × List α → List α × List α
  | [], s => s
  | g :: gs, s => addAll one gs (if step one g ∈ s.1 then s else (s.1 ++ [step one g], s.2 ++ [step one g]))
inductive Reach (e : α) (gs : List β) : α → Prop
  | base : Reach e gs e
  | step {x : α} {g : β} : Reach e gs x → g ∈ gs → Reach e gs (step x g)
structure Wk (e : α) (gs : List β) (f w : List α) : Prop where
  nd : f.Nodup
  wn : w.Nodup
  sub : ∀ x ∈ w, x ∈ f
  base : e ∈ f
  rc : ∀ x ∈ f, Reach step e gs x
  dn : ∀ x ∈ f, x ∉ w → ∀ g ∈ gs, step x g ∈ f
variable {step}
theorem Wk.start (e : α) (gs : List β) : Wk step e gs [e] [e] where
  nd := by simp
  wn := by simp
  sub := fun x h => h
  base := List.mem_cons_self
  rc := fun x h => by
    rw [List.mem_singleton] at h
    subst h
    exact .base
  dn := fun x h n => absurd h n
theorem addAll_spec (one : α) : ∀ (gs : List β) (f w : List α), ∃ new, addAll step one gs (f, w) = (f ++ new, w ++ new) ∧ (f.Nodup → (f ++ new).Nodup) ∧ (∀ x ∈ new, ∃ g ∈ gs, x = step one g) ∧ ∀ g ∈ gs, step one g ∈ f ++ new
  | [], f, w => ⟨[], by simp [addAll], by simp, by simp, by simp⟩
  | g :: gs, f, w => by
    by_cases h : step one g ∈ f
    · obtain ⟨new, h1, h2, h3, h4⟩ := addAll_spec one gs f w
      refine ⟨new, by rw [addAll, if_pos h, h1], h2, fun x hx => ?_, fun x hx => ?_⟩
      · obtain ⟨g', hg, e⟩ := h3 x hx
        exact ⟨g', List.mem_cons_of_mem _ hg, e⟩
      · rcases List.mem_cons.mp hx with z | z
        · rw [z]; exact List.mem_append_left _ h
        · exact h4 x z
    · obtain ⟨new, h1, h2, h3, h4⟩ := addAll_spec one gs (f ++ [step one g]) (w ++ [step one g])
      refine ⟨step one g :: new, by rw [addAll, if_neg h, h1]; simp, fun hn => ?_, fun x hx => ?_, fun x hx => ?_⟩
      · have : (f ++ [step one g]).Nodup := by
          refine List.nodup_append.mpr ⟨hn, by simp, fun a ha b hb e => ?_⟩
          rw [List.mem_singleton] at hb
          subst hb
          subst e
          exact h ha
        have := h2 this
        simpa using this
      · rcases List.mem_cons.mp hx with z | z
        · exact ⟨g, List.mem_cons_self, z⟩
        · obtain ⟨g', hg, e⟩ := h3 x z
          exact ⟨g', List.mem_cons_of_mem _ hg, e⟩
      · rcases List.mem_cons.mp hx with z | z
        · rw [z]; simp
        · have := h4 x z
          simpa using this
theorem Wk.next {e : α} {gs : List β} {f w : List α} {one : α} (W : Wk step e gs f (w ++ [one])) : ∃ new, addAll step one gs (f, w) = (f ++ new, w ++ new) ∧ Wk step e gs (f ++ new) (w ++ new) := by
  obtain ⟨new, h1, h2, h3, h4⟩ := addAll_spec (step := step) one gs f w
  have ho : one ∈ f := W.sub one (by simp)
  have hnn := List.nodup_append.mp (h2 W.nd)
  refine ⟨new, h1, h2 W.nd, List.nodup_append.mpr ⟨(List.nodup_append.mp W.wn).1, hnn.2.1, fun a ha b hb e => hnn.2.2 a (W.sub a (List.mem_append_left _ ha)) b hb e⟩, fun x hx => ?_, List.mem_append_left _ W.base, fun x hx => ?_, fun x hx hn g hg => ?_⟩
  · rcases List.mem_append.mp hx with z | z
    · exact List.mem_append_left _ (W.sub x (List.mem_append_left _ z))
    · exact List.mem_append_right _ z
  · rcases List.mem_append.mp hx with z | z
    · exact W.rc x z
    · obtain ⟨g, hg, rfl⟩ := h3 x z
      exact .step (W.rc one ho) hg
  · by_cases e : x = one
    · subst e; exact h4 g hg
    · have hw : x ∉ w := fun z => hn (List.mem_append_left _ z)
      have hnew : x ∉ new := fun z => hn (List.mem_append_right _ z)
      have hf : x ∈ f := by
        rcases List.mem_append.mp hx with z | z
        · exact z
        · exact absurd z hnew
      exact List.mem_append_left _ (W.dn x hf (fun z => by
        rcases List.mem_append.mp z with z | z
        · exact hw z
        · exact e (List.mem_singleton.mp z)) g hg)
/-- at the end: all that can be reached -/
theorem Wk.done {e : α} {gs : List β} {f : List α} (W : Wk step e gs f []) (x : α) : x ∈ f ↔ Reach step e gs x :=
  ⟨W.rc x, fun h => by
    induction h with
    | base => exact W.base
    | step _ hg ih => exact W.dn _ ih (by simp) _ hg⟩
theorem Reach.mono {e : α} {gs hs : List β} (h : ∀ g ∈ gs, g ∈ hs) {x : α} (r : Reach step e gs x) : Reach step e hs x := by
  induction r with
  | base => exact .base
  | step _ hg ih => exact .step ih (h _ hg)
end
/-! ### turns that come of some -/
/-! ### numbers of a house that come of some -/
end MM

set_option linter.all false
set_option maxRecDepth 100000
namespace MM
/-! ### pairs -/
structure PwOk (M o : Nat) (p : Nat → Nat) : Prop where
  hM : 0 < M
  ho : 0 < o
  zero : p 0 % M = 1 % M
  mul : ∀ j v, j < o → v < o → p ((j + v) % o) % M = (p j * p v) % M
section
variable {M o : Nat} {p : Nat → Nat} (P : PwOk M o p)
include P
end
end MM

set_option Elab.async false
set_option linter.all false
set_option maxRecDepth 100000
set_option maxHeartbeats 4000000
noncomputable section
namespace MM
open PySem PySem.Spec PyProof.Rows L2

/-! ### equality -/
structure Py (k : Nat) (d : D) (p : PyData) : Prop where
  to : toPy d = some p
  can : p.canLay0 = true
  dep : p.depth ≤ k
structure PyL (k : Nat) (d : List D) (p : List PyData) : Prop where
  to : toPyL d = some p
  can : PyData.canLayAll0 p = true
  dep : PyData.depthAll p ≤ k
theorem Py.shaped {k : Nat} {d : D} {p : PyData} (h : Py k d p) (hk : k ≤ 64) : SeqAt.shaped p = true := by
  unfold SeqAt.shaped
  have := h.dep
  rw [h.can, decide_eq_true (by omega)]
  rfl
theorem Py.int (i : Int) : Py 0 (.int i) (.int i) := ⟨by simp only [toPy], by simp only [PyData.canLay0], by simp only [PyData.depth]; omega⟩
theorem Py.bl (i : Bool) : Py 0 (.bl i) (.bool i) := ⟨by simp only [toPy], by simp only [PyData.canLay0], by simp only [PyData.depth]; omega⟩
theorem Py.non : Py 0 .non .none := ⟨by simp only [toPy], by simp only [PyData.canLay0], by simp only [PyData.depth]; omega⟩
theorem PyL.nil {k : Nat} : PyL k [] [] := ⟨by simp only [toPyL], by simp only [PyData.canLayAll0], by simp only [PyData.depthAll]; omega⟩
theorem PyL.cons {k : Nat} {d : D} {p : PyData} {ds : List D} {ps : List PyData} (h : Py k d p) (t : PyL k ds ps) : PyL k (d :: ds) (p :: ps) :=
  ⟨by simp only [toPyL, h.to, t.to], by simp only [PyData.canLayAll0, h.can, t.can, Bool.and_self], by simp only [PyData.depthAll]; have := h.dep; have := t.dep; omega⟩
theorem Py.lst {k : Nat} {ds : List D} {ps : List PyData} (t : PyL k ds ps) : Py (k + 1) (.lst ds) (.list ps) :=
  ⟨by simp only [toPy, t.to], by simp only [PyData.canLay0, t.can], by simp only [PyData.depth]; have := t.dep; omega⟩
theorem Py.tup {k : Nat} {ds : List D} {ps : List PyData} (t : PyL k ds ps) : Py (k + 1) (.tup ds) (.tuple ps) :=
  ⟨by simp only [toPy, t.to], by simp only [PyData.canLay0, t.can], by simp only [PyData.depth]; have := t.dep; omega⟩
theorem Py.mono {k k' : Nat} {d : D} {p : PyData} (h : Py k d p) (hk : k ≤ k') : Py k' d p := ⟨h.to, h.can, Nat.le_trans h.dep hk⟩
def pyN (l : List Nat) : List PyData := l.map fun (n : Nat) => PyData.int (n : Int)
theorem PyL.ofN : ∀ l : List Nat, PyL 0 (ofN l) (pyN l)
  | [] => .nil
  | n :: l => .cons (.int n) (PyL.ofN l)
theorem PyL.map {α : Type} {k : Nat} {f : α → D} {g : α → PyData} : ∀ {l : List α}, (∀ x ∈ l, Py k (f x) (g x)) → PyL k (l.map f) (l.map g)
  | [], _ => .nil
  | x :: l, h => .cons (h x List.mem_cons_self) (PyL.map fun y hy => h y (List.mem_cons_of_mem _ hy))
theorem eqP_of {k k' : Nat} {a b : D} {p q : PyData} (ha : Py k a p) (hb : Py k' b q) (h1 : k ≤ 64 := by decide) (h2 : k' ≤ 64 := by decide) : eqP a b = some (PyData.eqv p q) := by
  unfold eqP
  rw [ha.to, hb.to]
  dsimp only
  rw [if_pos ⟨ha.shaped h1, hb.shaped h2⟩]
mutual
theorem eqv_refl : ∀ p : PyData, p.canLay0 = true → PyData.eqv p p = true
  | .none, _ => by simp only [PyData.eqv]
  | .bool b, _ => by simp only [PyData.eqv, beq_self_eq_true]
  | .int b, _ => by simp only [PyData.eqv, beq_self_eq_true]
  | .str b, _ => by simp only [PyData.eqv, beq_self_eq_true]
  | .list xs, h => by
    simp only [PyData.eqv]
    exact eqvAll_refl xs (by simpa only [PyData.canLay0] using h)
  | .tuple xs, h => by
    simp only [PyData.eqv]
    exact eqvAll_refl xs (by simpa only [PyData.canLay0] using h)
  | .dict _, h => by simp [PyData.canLay0] at h
theorem eqvAll_refl : ∀ p : List PyData, PyData.canLayAll0 p = true → PyData.eqvAll p p = true
  | [], _ => by simp only [PyData.eqvAll]
  | x :: xs, h => by
    simp only [PyData.canLayAll0, Bool.and_eq_true] at h
    simp only [PyData.eqvAll, eqv_refl x h.1, eqvAll_refl xs h.2, Bool.and_self]
end
theorem eqP_refl {k : Nat} {a : D} {p : PyData} (ha : Py k a p) (h1 : k ≤ 64 := by decide) : eqP a a = some true := by
  rw [eqP_of ha ha h1 h1, eqv_refl p ha.can]
theorem eqvAll_nats : ∀ l m : List Nat, PyData.eqvAll (pyN l) (pyN m) = decide (l = m)
  | [], [] => by simp [pyN, PyData.eqvAll]
  | [], _ :: _ => by simp [pyN, PyData.eqvAll]
  | _ :: _, [] => by simp [pyN, PyData.eqvAll]
  | x :: l, y :: m => by
    have ih := eqvAll_nats l m
    show PyData.eqvAll (.int x :: pyN l) (.int y :: pyN m) = _
    simp only [PyData.eqvAll, PyData.eqv, ih]
    by_cases e : x = y
    · subst e; simp
    · have : (x : Int) ≠ y := by omega
      simp [e, this]
theorem eqP_int (a b : Int) : eqP (.int a) (.int b) = some (decide (a = b)) := by
  rw [eqP_of (.int a) (.int b)]
  simp only [PyData.eqv]
  by_cases e : a = b <;> simp [e]
theorem eqF_ap {a b : D} : eqF [a, b] = (eqP a b).map .bl := rfl
theorem neF_ap {a b : D} : neF [a, b] = (eqP a b).map fun c => .bl (!c) := rfl
theorem inF_ap {a b : D} : inF [a, b] = (inP a b).map .bl := rfl
theorem notInF_ap {a b : D} : notInF [a, b] = (inP a b).map fun c => .bl (!c) := rfl
theorem eqF_int (a b : Int) : eqF [.int a, .int b] = some (.bl (decide (a = b))) := by rw [eqF_ap, eqP_int]; rfl
theorem neF_int (a b : Int) : neF [.int a, .int b] = some (.bl (!decide (a = b))) := by rw [neF_ap, eqP_int]; rfl
theorem eqP_lstN (l m : List Nat) : eqP (lstN l) (lstN m) = some (decide (l = m)) := by
  rw [eqP_of (.lst (.ofN l)) (.lst (.ofN m))]
  simp only [PyData.eqv, eqvAll_nats]
theorem eqF_lstN (l m : List Nat) : eqF [lstN l, lstN m] = some (.bl (decide (l = m))) := by rw [eqF_ap, eqP_lstN]; rfl
/-! ### dicts as sets of numbers -/
/-! ### sorted -/
/-! ### comprehensions, by their items -/
def OkSlot (e : Env) (k : Nat) : Prop := match e[k]? with
  | some none => True
  | some (some (false, _)) => True
  | _ => False
theorem OkSlot.lt {e : Env} {k : Nat} (h : OkSlot e k) : k < e.length := by
  unfold OkSlot at h
  cases q : e[k]? with
  | none => rw [q] at h; exact h.elim
  | some o => exact (List.getElem?_eq_some_iff.mp q).1
theorem OkSlot.rest {e : Env} {k : Nat} (h : OkSlot e k) (v : Option (Bool × D)) : restE e [k] (e.set k v) = e := by
  unfold restE restE
  unfold OkSlot at h
  cases q : e[k]? with
  | none => rw [q] at h; exact h.elim
  | some o =>
    rw [q] at h
    obtain ⟨hl, e1⟩ := List.getElem?_eq_some_iff.mp q
    cases o with
    | none =>
      dsimp only
      rw [List.set_set, ← e1]
      exact List.set_getElem_self hl
    | some o =>
      obtain ⟨b, d⟩ := o
      cases b with
      | true => exact h.elim
      | false =>
        dsimp only
        rw [List.set_set, ← e1]
        exact List.set_getElem_self hl
theorem comp_mp {α : Type} {vs : List Nat} {bd : D → Env → Option Env} {tt : M Bool} {el : M D} {E : Env} (g : α → D) (c : α → Bool) (f : α → D) : ∀ l : List α,
    (∀ x ∈ l, ∃ e1, bd (g x) E = some e1 ∧ tt e1 = .ok (c x) e1 ∧ (c x = true → el e1 = .ok (f x) e1) ∧ wipeE e1 vs = E) → compM vs bd tt el (l.map g) E = .ok ((l.filter c).map f) E
  | [], _ => rfl
  | x :: l, h => by
    obtain ⟨e1, h1, h2, h3, h4⟩ := h x List.mem_cons_self
    have ih := comp_mp (vs := vs) (bd := bd) (tt := tt) (el := el) g c f l fun y hy => h y (List.mem_cons_of_mem _ hy)
    rw [List.map_cons]
    unfold compM
    rw [h1]
    dsimp only
    rw [h2]
    cases hc : c x with
    | true =>
      dsimp only
      rw [h3 hc]
      dsimp only
      rw [h4, ih, List.filter_cons_of_pos hc]
      rfl
    | false =>
      dsimp only
      rw [h4, ih, List.filter_cons_of_neg (by rw [hc]; exact nofun)]
/-- [el for k in xs if tt], that changes nothing -/
theorem lc_mp {α : Type} {k : Nat} {mi : M (List D)} {tt : M Bool} {el : M D} {e : Env} (l : List α) (g : α → D) (c : α → Bool) (f : α → D) (hm : mi e = .ok (l.map g) e) (hk : OkSlot e k) (hz : l.length < 1000000)
    (h : ∀ x ∈ l, tt (e.set k (some (false, g x))) = .ok (c x) (e.set k (some (false, g x))) ∧ (c x = true → el (e.set k (some (false, g x))) = .ok (f x) (e.set k (some (false, g x))))) :
    lcM [k] mi (bdName k) tt el e = .ok (.lst ((l.filter c).map f)) e := by
  have := comp_mp (vs := [k]) (bd := bdName k) (tt := tt) (el := el) (E := e.set k none) g c f l fun x hx => ⟨e.set k (some (false, g x)), by
    unfold bdName
    rw [if_pos (by rw [List.length_set]; exact hk.lt), List.set_set], (h x hx).1, (h x hx).2, by
    unfold wipeE wipeE
    rw [List.set_set]⟩
  unfold lcM
  rw [hm]
  dsimp only
  rw [if_pos (by rw [List.length_map, sizeLine_eq]; omega)]
  have e0 : wipeE e [k] = e.set k none := rfl
  rw [e0, this]
  dsimp only
  rw [hk.rest]
/-- .. without an if -/
theorem lc_mp' {α : Type} {k : Nat} {mi : M (List D)} {el : M D} {e : Env} (l : List α) (g : α → D) (f : α → D) (hm : mi e = .ok (l.map g) e) (hk : OkSlot e k) (hz : l.length < 1000000)
    (h : ∀ x ∈ l, el (e.set k (some (false, g x))) = .ok (f x) (e.set k (some (false, g x)))) :
    lcM [k] mi (bdName k) yesM el e = .ok (.lst (l.map f)) e := by
  have := lc_mp (k := k) (mi := mi) (tt := yesM) (el := el) (e := e) l g (fun _ => true) f hm hk hz fun x hx => ⟨rfl, fun _ => h x hx⟩
  rwa [List.filter_eq_self.mpr (fun _ _ => rfl)] at this
/-- .. over range(n) -/
theorem range1_ok {n : Nat} {ms : M (List D)} {e e0 : Env} (hm : ms e = .ok [.int n] e0) (hn : n < 1000000000) : range1M ms e = .ok ((List.range n).map fun (i : Nat) => D.int (i : Int)) e0 := by
  rw [range1M_ap, hm]
  dsimp only
  rw [if_pos (by omega), Int.toNat_natCast, rangeL_ofN]
  rfl
theorem lc_on {α : Type} {k : Nat} {mi : M (List D)} {tt : M Bool} {el : M D} {e : Env} {rc : R D} (hC : lcM [k] mi (bdName k) tt el e = rc) (l : List α) (g : α → D) (c : α → Bool) (f : α → D) (hm : mi e = .ok (l.map g) e) (hk : OkSlot e k) (hz : l.length < 1000000)
    (h : ∀ x ∈ l, tt (e.set k (some (false, g x))) = .ok (c x) (e.set k (some (false, g x))) ∧ (c x = true → el (e.set k (some (false, g x))) = .ok (f x) (e.set k (some (false, g x))))) : rc = .ok (.lst ((l.filter c).map f)) e := hC ▸ lc_mp l g c f hm hk hz h
theorem lc_on' {α : Type} {k : Nat} {mi : M (List D)} {el : M D} {e : Env} {rc : R D} (hC : lcM [k] mi (bdName k) yesM el e = rc) (l : List α) (g : α → D) (f : α → D) (hm : mi e = .ok (l.map g) e) (hk : OkSlot e k) (hz : l.length < 1000000)
    (h : ∀ x ∈ l, el (e.set k (some (false, g x))) = .ok (f x) (e.set k (some (false, g x)))) : rc = .ok (.lst (l.map f)) e := hC ▸ lc_mp' l g f hm hk hz h
/-- a for, by the items that were walked -/
theorem for_ls {α : Type} {bd : D → Env → Option Env} {body : MS} (g : α → D) (P : List α → Env → Prop) (L : List α) : ∀ (l done : List α) (e : Env), L = done ++ l → P done e →
    (∀ done x rest e, L = done ++ x :: rest → P done e → NxS (bdB bd body (g x) e) (P (done ++ [x]))) → ∃ e', forM bd body (l.map g) e = .nx e' ∧ P L e'
  | [], done, e, hL, h0, _ => ⟨e, rfl, by rw [hL, List.append_nil]; exact h0⟩
  | x :: l, done, e, hL, h0, hs => by
    obtain ⟨e1, e2, h1, h2, h3⟩ := (hs done x l e hL h0).get
    obtain ⟨e', g1, g2⟩ := for_ls g P L l (done ++ [x]) e2 (by rw [hL, List.append_assoc]; rfl) h3 hs
    refine ⟨e', ?_, g2⟩
    rw [List.map_cons]
    unfold forM
    rw [h1]
    rcases h2 with h2 | h2 <;> (dsimp only; rw [h2]; exact g1)
theorem for_items {α : Type} {mi : M (List D)} {bd : D → Env → Option Env} {body : MS} {e : Env} {r : RS} (hL : loopM mi bd body e = r) (l : List α) (g : α → D) (P : List α → Env → Prop) (hm : mi e = .ok (l.map g) e) (h0 : P [] e)
    (hs : ∀ done x rest e, l = done ++ x :: rest → P done e → NxS (bdB bd body (g x) e) (P (done ++ [x]))) : ∃ e', r = .nx e' ∧ P l e' := by
  obtain ⟨e', h1, h2⟩ := for_ls (bd := bd) (body := body) g P l l [] e rfl h0 hs
  refine ⟨e', ?_, h2⟩
  rw [← hL]
  unfold loopM
  rw [hm]
  exact h1
@[simp] theorem dT1M_ap {mk mv : M D} {env : Env} : dT1M mk mv env = match mk env with
  | .ok (.tup ks) e1 => (match mv e1 with
    | .ok v e2 => (match keysD ks with
      | some k => .ok (.dT [(k, v)]) e2
      | none => .no)
    | .ex e e2 => .ex e e2
    | .no => .no)
  | .ok _ _ => .no
  | .ex e e2 => .ex e e2
  | .no => .no := id rfl
@[simp] theorem slM_ap {m : M D} {ml mh : M (Option Int)} {env : Env} : slM m ml mh env = match m env with
  | .ok d e1 => (match ml e1 with
    | .ok lo e2 => (match mh e2 with
      | .ok hi e3 => (match slF d lo hi with
          | some r => .ok r e3
          | none => .no)
      | .ex x e3 => .ex x e3
      | .no => .no)
    | .ex x e2 => .ex x e2
    | .no => .no)
  | .ex x e1 => .ex x e1
  | .no => .no := id rfl
@[simp] theorem noM_ap {env : Env} : noM env = .ok none env := id rfl
@[simp] theorem partM_ap {m : M D} {env : Env} : partM m env = match m env with
  | .ok (.int i) e => .ok (some i) e
  | .ok _ _ => .no
  | .ex e e2 => .ex e e2
  | .no => .no := id rfl
@[simp] theorem lstM_ap {ms : M (List D)} {env : Env} : lstM ms env = match ms env with
  | .ok ds e2 => (haveI : Decidable (ds.length ≤ sizeLine) := Classical.propDecidable _; if ds.length ≤ sizeLine then R.ok (D.lst ds) e2 else .no)
  | .ex e e2 => .ex e e2
  | .no => .no := by
  unfold lstM opM
  cases ms env with
  | ok ds e2 => dsimp only; by_cases h : ds.length ≤ sizeLine <;> simp only [h, if_true, if_false]
  | _ => rfl
@[simp] theorem tupM_ap {ms : M (List D)} {env : Env} : tupM ms env = match ms env with
  | .ok ds e2 => (haveI : Decidable (ds.length ≤ sizeLine) := Classical.propDecidable _; if ds.length ≤ sizeLine then R.ok (D.tup ds) e2 else .no)
  | .ex e e2 => .ex e e2
  | .no => .no := by
  unfold tupM opM
  cases ms env with
  | ok ds e2 => dsimp only; by_cases h : ds.length ≤ sizeLine <;> simp only [h, if_true, if_false]
  | _ => rfl
theorem le_size {n : Nat} (h : n < 1000000) : (n ≤ sizeLine) = True := eq_true (by rw [sizeLine_eq]; omega)
theorem wh_retN {t : M Bool} {body : MS} (P : Nat → Env → Prop) (Q : D → Env → Prop) : ∀ (n m : Nat) (e : Env), P m e → m < n →
    (∀ m e, P m e → t e = .ok false e ∨ (t e = .ok true e ∧ match body e with | .nx e2 => ∃ m', m' < m ∧ P m' e2 | .ct e2 => ∃ m', m' < m ∧ P m' e2 | .rt d e2 => Q d e2 | _ => False)) →
    (∃ e' m', whM t body n e = .nx e' ∧ P m' e' ∧ t e' = .ok false e') ∨ ∃ d e', whM t body n e = .rt d e' ∧ Q d e'
  | 0, _, _, _, h, _ => absurd h (Nat.not_lt_zero _)
  | n + 1, m, e, hp, hm, hs => by
    rcases hs m e hp with h1 | ⟨h1, h2⟩
    · exact .inl ⟨e, m, by unfold whM; rw [h1], hp, h1⟩
    · cases hb : body e with
      | nx e2 =>
        rw [hb] at h2
        obtain ⟨m', hm', hp'⟩ := h2
        have ih := wh_retN P Q n m' e2 hp' (by omega) hs
        unfold whM
        rw [h1]
        dsimp only
        rw [hb]
        exact ih
      | ct e2 =>
        rw [hb] at h2
        obtain ⟨m', hm', hp'⟩ := h2
        have ih := wh_retN P Q n m' e2 hp' (by omega) hs
        unfold whM
        rw [h1]
        dsimp only
        rw [hb]
        exact ih
      | rt d e2 =>
        rw [hb] at h2
        refine .inr ⟨d, e2, ?_, h2⟩
        unfold whM
        rw [h1]
        dsimp only
        rw [hb]
      | _ => rw [hb] at h2; exact h2.elim
/-- .. that only ends -/
theorem wh_on {t : M Bool} {body : MS} {n : Nat} {e : Env} {r : RS} (hW : whM t body n e = r) (P : Nat → Env → Prop) (m : Nat) (h0 : P m e) (hm : m < n)
    (hs : ∀ m e, P m e → t e = .ok false e ∨ (t e = .ok true e ∧ NxS (body e) fun e2 => ∃ m', m' < m ∧ P m' e2)) :
    ∃ e' m', r = .nx e' ∧ P m' e' ∧ t e' = .ok false e' := by
  subst hW
  rcases wh_retN (t := t) (body := body) P (fun _ _ => False) n m e h0 hm fun m e hp => (hs m e hp).imp_right fun ⟨h1, h2⟩ => ⟨h1, by
    cases hb : body e with
    | nx e2 => rw [hb] at h2; exact h2
    | ct e2 => rw [hb] at h2; exact h2
    | _ => rw [hb] at h2; exact h2.elim⟩ with h | ⟨d, e', h1, h2⟩
  · exact h
  · exact h2.elim
/-! ### pop, cuts -/
/-! ### comprehensions that draw: the state goes through F -/
theorem OkSlot.rest2 {e e' : Env} {k : Nat} (h : OkSlot e k) (he : e'[k]? = e[k]?) (v : Option (Bool × D)) : restE e [k] (e'.set k v) = e' := by
  have h' : OkSlot e' k := by unfold OkSlot at h ⊢; rw [he]; exact h
  have := h'.rest v
  unfold restE at this ⊢
  rw [← he]
  exact this
@[simp] theorem chM_ap {f g : Int → Int → Bool} {ms : M (List D)} {mc : M D} {env : Env} : chM f g ms mc env = match ms env with
  | .ok [.int i, .int j] e => (if f i j then (match mc e with
      | .ok (.int k) e2 => .ok (.bl (g j k)) e2
      | .ok _ _ => .no
      | .ex x e2 => .ex x e2
      | .no => .no)
    else .ok (.bl false) e)
  | .ok _ _ => .no
  | .ex e e2 => .ex e e2
  | .no => .no := id rfl
theorem blsOf_map {α : Type} (p : α → Bool) : ∀ l : List α, blsOf (l.map fun x => D.bl (p x)) = some (l.map p)
  | [] => rfl
  | x :: l => by rw [List.map_cons, blsOf, blsOf_map p l]; rfl
theorem allF_map {α : Type} (p : α → Bool) (l : List α) : allF [.lst (l.map fun x => D.bl (p x))] = some (.bl (l.all p)) := by
  unfold allF
  simp only [blsOf_map, List.all_map, Function.id_comp]
@[simp] theorem zipM_ap {ms : M (List D)} {env : Env} : zipM ms env = match ms env with
  | .ok [.lst xs, .lst ys] e => .ok (zipD xs ys) e
  | .ok [.tup xs, .tup ys] e => .ok (zipD xs ys) e
  | .ok _ _ => .no
  | .ex e e2 => .ex e e2
  | .no => .no := id rfl
end MM

set_option Elab.async false
set_option linter.all false
set_option maxRecDepth 100000
set_option maxHeartbeats 4000000
noncomputable section
namespace MM
open PySem PySem.Spec PyProof.Rows L2

/-! ### is, of truths -/
section
variable {K : PySem.W.Frag} {mg : Str → Option Value} {W : WX} {p q : Bool} {te to ta tb tc : TE} {m ma mb mc : M D} {i : Nat} {tA : TA} {ms : M (List D)} {Z : Hp}
/-! ### sum, min, max of a list of numbers -/
/-! ### methods of lists that are read -/
def bmM (f : List D → Option D) (m : M D) (ms : M (List D)) : M D := fun env => match m env with
  | .ok (.lst ds) e1 => match ms e1 with
    | .ok as e2 => match f (.lst ds :: as) with
      | some d => .ok d e2
      | none => .no
    | .ex e e2 => .ex e e2
    | .no => .no
  | .ok _ _ => .no
  | .ex e e2 => .ex e e2
  | .no => .no
end
section
variable {X : Cx} {K : PySem.W.Frag}
theorem pe_bm_ {o e : Expr} {es : List Expr} {to : TE} {t : TA} {name : Str} {apos cpos : Pos} {T id : String} {r : V → List V → Hp → VK → Prop} (hK : X.K = K) (pa : PlainAttrs T) (slot : Slot T name id) (hty : typeOf (.builtin id) = pure (.type "method_descriptor")) (hm : MtR X id r) (ho : PE X o to) (ha : PA X (e :: es) t)
    (hbase : attributeBase o name X.env (eval o X.env) = eval o X.env := by rfl)
    (hfew : ((backTo cpos (starEach (e :: es) X.env)).all (fun x => !x.1) && (backToKw cpos (keywordEach [] X.env)).all (fun x => x.1.isSome)
      && decide ((e :: es).length + ([] : List Keyword).length + (if ([] : List Keyword).isEmpty then 0 else 1) < 30)) = true := by rfl)
    (hline : (apos.endLine == cpos.line) = true := by rfl) (hs : starEach (e :: es) X.env = (false, eval e X.env) :: starEach es X.env := by rfl) (hplain : (backTo cpos (starEach es X.env)).any (·.1) = false := by rfl) :
    PE X (.Call (.Attribute o name apos) (e :: es) [] cpos) (tBM K T r to t) := hK ▸ pe_bm pa slot hty hm ho ha hbase hfew hline hs hplain
end
@[simp] theorem bmM_ap {f : List D → Option D} {m : M D} {ms : M (List D)} {env : Env} : bmM f m ms env = match m env with
  | .ok (.lst ds) e1 => (match ms e1 with
    | .ok as e2 => (match f (.lst ds :: as) with
      | some d => .ok d e2
      | none => .no)
    | .ex e e2 => .ex e e2
    | .no => .no)
  | .ok _ _ => .no
  | .ex e e2 => .ex e e2
  | .no => .no := id rfl
end MM

set_option Elab.async false
set_option linter.all false
set_option maxRecDepth 100000
set_option maxHeartbeats 4000000
noncomputable section
namespace MM
open PySem PySem.Spec PyProof.Rows L2

/-! ### defs that are run where nothing is being shown: the guards are empty -/
structure FnG (P : Program) (w : World) (K : PySem.W.Frag) (mg : Str → Option Value) (base : Heap) (k : Nat) (f : Addr) (fd : FuncData) (ps : List Str) (sp : Sp) : Prop where
  len : ∀ {vs H Q E}, sp vs H Q E → vs.length = ps.length
  run : ∀ {A outer s H args us vs Q E}, Room k A → A.guards = some [] → Env0 P w K mg base A outer s H → BindsTo s fd args (List.zip ps us) → Vals vs us → sp vs H Q E →
    codeAny (model P w) A (Code.call (Value.ref f) args) (CR (L2.CX P w) outer P w H s Q E) s
section
variable {P : Program} {w : World} {K : PySem.W.Frag} {mg : Str → Option Value} {base : Heap}
theorem FnG.mono {j k : Nat} {f : Addr} {fd : FuncData} {ps : List Str} {sp : Sp} (F : FnG P w K mg base j f fd ps sp) (h : j ≤ k) : FnG P w K mg base k f fd ps sp where
  len := F.len
  run := fun r g e b v x => F.run (r.mono h) g e b v x
theorem FnG.imp {k : Nat} {f : Addr} {fd : FuncData} {ps : List Str} {sp sp' : Sp} (F : FnG P w K mg base k f fd ps sp) (h : ∀ {vs H Q E}, sp' vs H Q E → sp vs H Q E) : FnG P w K mg base k f fd ps sp' where
  len := fun x => F.len (h x)
  run := fun r g e b v x => F.run r g e b v (h x)
/-- the end of a body is the end of its call -/
theorem end_of_body {CX : CXT} {N : List Str} {qual : Str} {scope : Scope} {f : Addr} {cdv : Value} {A : Around} {outer : List PySem.Env} {s s2 : Shared} {H H2 : Hp} {E : XK} {σ2 : St} {Q : VK} {v : V} {u : Value}
    (J : Inv (cxOf CX P w K mg base N qual scope f cdv A outer s H E) [] σ2 H2 s2) (rv : RelV v u) (q : Q v H2) : CE outer P w H s Q u s2 := by
  refine ⟨v, H2, ?_⟩
  exact ⟨J.os, J.bare, J.base, J.hok, rv, q⟩
theorem fnG_body {x qual : Str} {st : Stmt} {f : Addr} {fd : FuncData} {N ps : List Str} {k : Nat} {sp : Sp} (F : Fun K x qual st f fd) (S : FnScope N ps (defScope st)) (len : ∀ {vs H Q E}, sp vs H Q E → vs.length = ps.length)
    (hb : ∀ (cdv : Value) (A : Around) (outer : List PySem.Env) (s : Shared) (H : Hp) (vs : List V) (Q : VK) (E : XK), Room k (A.deeper (envOfC qual (defScope st) s.heap.objs.size f cdv)) → A.guards = some [] → sp vs H Q E →
      ∃ t, PSs (cxOf (L2.CX P w) P w K mg base N qual (defScope st) f cdv A outer s H E) (defBody st) t ∧ t { nx := fun _ H' => Q .non H', rt := Q } (L2.start N vs) H) : FnG P w K mg base (k + 1) f fd ps sp where
  len := len
  run := by
    intro A outer s H args us vs Q E room hg e0 hbind r hsp
    obtain ⟨oc, od, kV, doc, pm, an, cdv, ct, osl, rfl, lk, hcd⟩ := F.ex
    have old : ∀ b o, base.get? b = some o → s.heap.get? b = some o := fun b o e => (e0.bs b o e).1
    have KX := e0.mod.kin.keeps old
    have lim := e0.mod.nolimit.keeps old
    have lens := len hsp
    refine codeAny_call_function room.depth (KX _ _ lk) rfl S.co S.gen rfl (PySem.W.codeRec_of KX hcd) (hbind _ _ _ _ ?_)
    have kinds : ∀ y ∈ ps.zip us, (defScope st).names.lookup y.1 = some NameKind.local ∨ ((defScope st).names.lookup y.1 = some NameKind.cell ∧ ((cellsFrom (s.heap.objs.size + 1) (defScope st).names []).lookup y.1).isSome = true) := by
      rintro ⟨n, v⟩ hy
      have hn := S.par n (List.of_mem_zip hy).1
      cases hn with
      | inl q => exact Or.inl q
      | inr q => exact Or.inr ⟨q, PySem.W.cellsFrom_some _ _ _ (.inl q)⟩
    refine wpAny_newFunctionEnv_cells S.kind kinds ?_
    intro env he s1 entered
    subst he
    refine ⟨lim.keeps entered.toInCall.keep, codeAny_func ?_⟩
    obtain ⟨t, ht, hq⟩ := hb cdv A outer s H vs Q E (room.deeper _) hg hsp
    have I := inv_start (CX := L2.CX P w) (E := E) S room.hd e0 lens r entered
    refine wpAny_mono (ht.run [] s1 (L2.start N vs) H _ I hq) ?_ (fun _ _ z => z)
    intro fl s2 hs
    match fl, hs with
    | .ret u, ⟨v, σ2, H2, J, rv, q⟩ => exact end_of_body J rv q
    | .next, ⟨σ2, H2, J, q⟩ => exact end_of_body (v := V.non) (u := .none) J rfl q
    | .brk, ⟨_, _, _, q⟩ => exact q.elim
    | .cont, ⟨_, _, _, q⟩ => exact q.elim
/-- what a def of the layer promises, from its mirror -/
theorem fnF_G {x qual : Str} {st : Stmt} {f : Addr} {fd : FuncData} {N ps : List Str} {k : Nat} {ro : Bool} {m : MS} {g : List D → RF} {np nn : Nat} (hp : ps.length = np) (hn : N.length = nn) (hf : callF np nn m = g) (F : Fun K x qual st f fd) (S : FnScope N ps (defScope st))
    (hbody : ∀ (cdv : Value) (A : Around) (outer : List PySem.Env) (s : Shared) (H : Hp) (E : XK), Room k (A.deeper (envOfC qual (defScope st) s.heap.objs.size f cdv)) → A.guards = some [] →
      ∃ t, PSs (cxOf (L2.CX P w) P w K mg base N qual (defScope st) f cdv A outer s H E) (defBody st) t ∧ EvS K mg (fun cls d _ H => E cls d H) [] ro t m) :
    FnG P w K mg base (k + 1) f fd ps (spF K mg ro g) := by
  subst hf hp hn
  exact fnG_body F S (fun h => spF_len h) fun cdv A outer s H vs Q E hr hg h => by
    obtain ⟨t, h1, h2⟩ := hbody cdv A outer s H E hr hg
    exact ⟨t, h1, body_F h2 h⟩
theorem fnP_G {x qual : Str} {st : Stmt} {f : Addr} {fd : FuncData} {N ps : List Str} {k : Nat} {ro : Bool} {m : MS} {g : D → List D → RP} {np nn : Nat} (hp : ps.length = np) (hn : N.length = nn) (hf : callP np nn m = g) (F : Fun K x qual st f fd) (S : FnScope N ps (defScope st))
    (hbody : ∀ (cdv : Value) (A : Around) (outer : List PySem.Env) (s : Shared) (H : Hp) (E : XK), Room k (A.deeper (envOfC qual (defScope st) s.heap.objs.size f cdv)) → A.guards = some [] →
      ∃ t, PSs (cxOf (L2.CX P w) P w K mg base N qual (defScope st) f cdv A outer s H E) (defBody st) t ∧ EvS K mg (fun cls d _ H => E cls d H) [0] ro t m) :
    FnG P w K mg base (k + 1) f fd ps (spP K mg ro g) := by
  subst hf hp hn
  exact fnG_body F S (fun h => spP_len h) fun cdv A outer s H vs Q E hr hg h => by
    obtain ⟨t, h1, h2⟩ := hbody cdv A outer s H E hr hg
    exact ⟨t, h1, body_P h2 h⟩
end
section
variable {X : Cx} {k : Nat} {f : Addr} {fd : FuncData} {ps : List Str} {sp : Sp} {E : St → XK} {x : Str} {p pos : Pos} {e : Expr} {es : List Expr} {t : TA}
theorem runG {pins : List (Addr × Obj)} {σ : St} {H : Hp} {s : Shared} {Q : VK} {us : List Value} {vs : List V} (F : FnG X.prog X.w X.K X.mg X.base k f fd ps sp) (room : Room k X.A) (hg : X.A.guards = some []) (hb : Binds X.K fd ps []) (hx : PassesAt (L2.CX X.prog X.w) X σ (E σ))
    (I : Inv X pins σ H s) (r : Vals vs us) (h : sp vs H Q (E σ)) : wpAny (model X.prog X.w) X.A (call (.ref f) us) (EP X pins σ Q) X.xe s := by
  have lens : (us ++ []).length = ps.length := by simpa [← r.length] using F.len h
  have b := hb s us I.kIn lens
  simp only [List.append_nil] at b
  refine wpAny_call (codeAny_mono (F.run room hg I.env0 b r h) ?_)
  intro res s2 hq
  match res, hq with
  | .error u, hq => exact hx pins H s u s2 I hq
  | .ok (.ret u), hq => exact I.after hq
  | .ok .next, hq => exact hq.elim
  | .ok .brk, hq => exact hq.elim
  | .ok .cont, hq => exact hq.elim
theorem pe_callG (F : FnG X.prog X.w X.K X.mg X.base k f fd ps sp) (room : Room k X.A) (hgd : X.A.guards = some []) (hg : Gl X x) (hm : X.mg x = some (.ref f)) (hk : PySem.W.keepIn X.K (.ref f) = true) (hb : Binds X.K fd ps []) (hx : ∀ σ, PassesAt (L2.CX X.prog X.w) X σ (E σ))
    (ha : PA X (e :: es) t) (hdb : (x == ("__debug__" : Str)) = false := by decide) (he : starEach (e :: es) X.env = (false, eval e X.env) :: starEach es X.env := by rfl) (hpl : (backTo pos (starEach es X.env)).any (·.1) = false := by rfl) :
    PE X (.Call (.Name x p) (e :: es) [] pos) (tCallS sp E t) where
  run := by
    intro pins s σ H Q I h
    have args := ha.run pos pins s σ H _ I h
    refine wpAny_Call_Name_kw (ld_glob I hg hm (PySem.W.callWith_K (h₀ := X.base) I.ok.mod.kin hk (thn args ?_) he hpl) hdb)
    rintro us s1 ⟨vs, H1, I1, r, q⟩
    exact ⟨I1.kIn, runG F room hgd hb (hx σ) I1 r q⟩
end
/-! ### the head: the law is called where nothing is being shown -/
section
variable {P : Program} {w : World} {K : PySem.W.Frag} {mg mb : Str → Option Value} {k : Nat} {fa a : Addr} {fd : FuncData} {x : Str} {sp : Sp} {s1 : Shared} {vs : List Value} {ns : List Int}
/-- one list at most is tracked: the script -/
structure OneTr (K : PySem.W.Frag) (s1 : Shared) (a : Addr) (H : Hp) : Prop where
  only : Only H
  at_ : ∀ {b}, H b ≠ none → b = a
  own : H a ≠ none → K.lookup a = none
theorem OneTr.free {H : Hp} (O : OneTr K s1 a H) (ha : s1.heap.get? a = some { cls := .type "list", data := .seq vs.toArray }) {b : Addr} {o : Obj} {es : Array DictEntry} {ep : Nat} (e : s1.heap.get? b = some o) (d : o.data = .dict es ep) : H b = none := by
  refine Classical.byContradiction fun n => ?_
  obtain rfl := O.at_ n
  rw [ha] at e
  injection e with e
  subst e
  cases d
theorem OneTr.nsp {H : Hp} (O : OneTr K s1 a H) (ha : s1.heap.get? a = some { cls := .type "list", data := .seq vs.toArray }) {b : Addr} {m : Str → Option Value} (h : s1.heap.Ns b m) : (hidT s1.heap H).Ns b m := by
  obtain ⟨o, es, ep, e, d, r⟩ := h
  exact ⟨o, es, ep, hidT_get e (O.free ha e d), d, r⟩
theorem OneTr.kin {H : Hp} (O : OneTr K s1 a H) (KX : K.In s1.heap) : K.In (hidT s1.heap H) := by
  intro b o e
  refine hidT_get (KX b o e) (Classical.byContradiction fun n => ?_)
  obtain rfl := O.at_ n
  rw [O.own n] at e
  cases e
theorem head_from {H : Hp} (O : OneTr K s1 a H) (hS : SqL K H a (ns.map V.int)) (hok : HOk P w H s1.heap) (KX : K.In s1.heap) (hns : s1.heap.Ns mainGlobals mg) (hb : s1.heap.Ns builtinsNs mb) (hbb : ∀ y : Str, y ≠ "__name__" → mb y = bootBuiltins y) (hlim : s1.heap.NoLimit) (hg : s1.gens = #[])
    (ha : s1.heap.get? a = some { cls := .type "list", data := .seq vs.toArray }) (room : Room k callerA)
    (F : ∀ base : Heap, K.In base → base.Ns mainGlobals mg → FnG P w K mg base k fa fd [x] sp) (hbind : ∀ (s : Shared) (u : Value), BindsTo s fd ⟨[u], []⟩ [(x, u)])
    (hsp : sp [.ref a] H (fun v _ => v = .bl true) fun _ _ _ => False) :
    codeAny (model P w) callerA (Code.call (Value.ref fa) ⟨[.ref a], []⟩) (fun r s' => r = .ok (.ret (.bool true)) ∧ OldK s1.heap s'.heap ∧ s'.os = s1.os ∧ AllBare s'.gens) s1 := by
  have K2 := O.kin KX
  have ns2 := O.nsp ha hns
  obtain ⟨mc, c1, c2⟩ := hlim
  have M : Mod K mg (hidT s1.heap H) := ⟨K2, ns2, ⟨mb, O.nsp ha hb, hbb⟩, mc, O.nsp ha c1, c2⟩
  have e0 : Env0 P w K mg (hidT s1.heap H) callerA [] s1 H := by
    refine ⟨rfl, M, ?_, ?_, trivial, ?_, hok, .of_eq hg⟩
    · exact fun b o e => of_hidT e
    · exact Nat.le_of_eq (hidT_size _ _)
    · exact fun b z => (List.not_mem_nil z).elim
  have r1 : Vals [V.ref a] [Value.ref a] := .cons rfl .nil
  have go := (F _ K2 ns2).run room rfl e0 (hbind s1 (.ref a)) r1 hsp
  refine codeAny_mono go ?_
  intro res s2 hq
  match res, hq with
  | .error e, hq =>
    obtain ⟨_, _, _, _, _, _, _, _, _, _, _, _, z⟩ := hq
    exact z.elim
  | .ok .next, hq => exact hq.elim
  | .ok .brk, hq => exact hq.elim
  | .ok .cont, hq => exact hq.elim
  | .ok (.ret u), ⟨v, H2, os, bare, un, hok2, rv, q⟩ =>
    subst q
    cases (show u = Value.bool true from rv)
    refine ⟨rfl, OldK.of_keep fun b o e => ?_, os, bare⟩
    rcases O.only b with z | ⟨ob, xs, z⟩
    · exact un.keep b o e z (List.not_mem_nil) (by simp)
    · have f1 := (hok b _ z).1
      have f2 := (hok2 b _ (un.frzs b ob _ z)).1
      rw [f1] at e
      rw [f2, ← e]
theorem law_G (KX : K.In s1.heap) (hns : s1.heap.Ns mainGlobals mg) (hb : s1.heap.Ns builtinsNs mb) (hbb : ∀ y : Str, y ≠ "__name__" → mb y = bootBuiltins y) (hlim : s1.heap.NoLimit) (hg : s1.gens = #[])
    (ha : s1.heap.get? a = some { cls := .type "list", data := .seq vs.toArray }) (hi : IntsAre vs ns) (hl : ns.length ≤ sizeLine) (room : Room k callerA)
    (F : ∀ base : Heap, K.In base → base.Ns mainGlobals mg → FnG P w K mg base k fa fd [x] sp) (hbind : ∀ (s : Shared) (u : Value), BindsTo s fd ⟨[u], []⟩ [(x, u)])
    (hsp : ∀ H : Hp, SqL K H a (ns.map V.int) → sp [.ref a] H (fun v _ => v = .bl true) fun _ _ _ => False) :
    codeAny (model P w) callerA (Code.call (Value.ref fa) ⟨[.ref a], []⟩) (fun r s' => r = .ok (.ret (.bool true)) ∧ OldK s1.heap s'.heap ∧ s'.os = s1.os ∧ AllBare s'.gens) s1 := by
  have rv := vals_ints hi
  have lenV := hi.length
  cases hk : K.lookup a with
  | some o =>
    have e := KX a o hk
    rw [ha] at e
    injection e with e
    subst e
    have S : SqL K (fun _ => none) a (ns.map V.int) := .inr ⟨_, vs.toArray, _, hk, rfl, rfl, rfl, by simpa [lenV] using hl, by simpa using rv⟩
    refine head_from ⟨fun _ => .inl rfl, fun n => (n rfl).elim, fun n => (n rfl).elim⟩ S (fun b u z => nomatch z) KX hns hb hbb hlim hg ha room F hbind (hsp _ S)
  | none =>
    let H : Hp := fun b => if b = a then some (.frz { cls := .type "list", data := .seq vs.toArray } (.lst (ns.map V.int))) else none
    have Ha : H a = some (.frz { cls := .type "list", data := .seq vs.toArray } (.lst (ns.map V.int))) := if_pos rfl
    have Hn : ∀ b, b ≠ a → H b = none := fun b n => if_neg n
    have S : SqL K H a (ns.map V.int) := .inl (.inr ⟨_, Ha⟩)
    refine head_from (H := H) ⟨fun b => ?_, fun {b} n => Classical.byContradiction fun z => n (Hn b z), fun _ => hk⟩ S (fun b u z => ?_) KX hns hb hbb hlim hg ha room F hbind (hsp _ S)
    · by_cases e : b = a
      · subst e; exact .inr ⟨_, _, Ha⟩
      · exact .inl (Hn b e)
    · by_cases e : b = a
      · subst e
        rw [Ha] at z
        injection z with z
        subst z
        exact ⟨ha, by rw [List.length_map]; exact hl, vs, _, rv, ha⟩
      · rw [Hn b e] at z
        cases z
end
theorem walk_G {l : PySem.W.OpenLaw} {n k : Nat} {q : Program} {loose : List Str} {XP : (Str → Option Value) → Heap → Prop} {YP : World → Heap → Prop} {d : DefRec} {K : Params → PySem.W.Frag} {sp : World → Sp} {x : Str}
    (hn : l.most = some n) (hn2 : n ≤ sizeLine) (hdf : d.params.defaults = []) (room : Room k callerA) (hY : ∀ (w : World) (h : Heap), YP w h → (K w.params).In h)
    (F : ∀ (w : World) (mg : Str → Option Value) (fa : Addr) (h : Heap), (K w.params).In h → h.Ns mainGlobals mg → mg d.name = some (.ref fa) →
      ∃ fd : FuncData, (∀ (s : Shared) (u : Value), BindsTo s fd ⟨[u], []⟩ [(x, u)]) ∧ ∀ base : Heap, (K w.params).In base → base.Ns mainGlobals mg → FnG l.prog w (K w.params) mg base k fa fd [x] (sp w))
    (hsp : ∀ (w : World) (H : Hp) (a : Addr) (ns : List Int), ns.length ≤ n → (∀ z ∈ ns, Builtin.Int.intBits z ≤ 1048576) → SqL (K w.params) H a (ns.map V.int) → sp w [.ref a] H (fun v _ => v = .bl true) fun _ _ _ => False) :
    PySem.W.WalkO q loose XP YP l.row.toRowW d [] (fun f vs => PySem.call f vs) := by
  refine Att.attach_callB hn hdf ?_
  intro w s0 s1 mg mb fa o pm cd doc a vs ns G Y ho hd hcd hmg hobj hints hlen hbits hg
  have KX := hY w _ Y
  obtain ⟨fd, hb, hF⟩ := F w mg fa _ KX G.T.g hmg
  exact law_G KX G.T.g G.T.b G.T.builtins G.T.nolimit hg hobj hints (Nat.le_trans hlen hn2) room hF hb fun H hS => hsp w H a ns hlen hbits hS
end MM

set_option Elab.async false
set_option linter.all false
set_option maxRecDepth 100000
set_option maxHeartbeats 4000000
noncomputable section
namespace MM
open PySem PySem.Spec PyProof.Rows L2

/-! ### for k in d: d a dict of tuples that is not used behind -/
def kD : Key → D
  | .inl i => .int i
  | .inr x => .str x
def keysTM (i : Nat) : M (List D) := fun env => match env[i]? with
  | some (some (true, .dT kvs)) => .ok (kvs.map fun p => .tup (p.1.map kD)) (env.set i (some (false, .dTf kvs)))
  | some (some (false, .dTf kvs)) => .ok (kvs.map fun p => .tup (p.1.map kD)) env
  | _ => .no
section
variable {K : PySem.W.Frag} {mg : Str → Option Value} {W : WX} {i : Nat} {Z : Hp}
end
@[simp] theorem keysTM_ap {i : Nat} {env : Env} : keysTM i env = match env[i]? with
  | some (some (true, .dT kvs)) => .ok (kvs.map fun p => .tup (p.1.map kD)) (env.set i (some (false, .dTf kvs)))
  | some (some (false, .dTf kvs)) => .ok (kvs.map fun p => .tup (p.1.map kD)) env
  | _ => .no := id rfl
end MM

set_option Elab.async false
set_option linter.all false
set_option maxRecDepth 100000
set_option maxHeartbeats 4000000
noncomputable section
namespace MM
open PySem PySem.Spec PyProof.Rows L2

/-! ### a slot hidden while an expression is evaluated -/
def hideM (j : Nat) (m : M D) : M D := fun env => match env[j]? with
  | some (some (true, d)) => match m (env.set j none) with
    | .ok v e => match e[j]? with
      | some none => .ok v (e.set j (some (true, d)))
      | _ => .no
    | .ex x e => match e[j]? with
      | some none => .ex x (e.set j (some (true, d)))
      | _ => .no
    | .no => .no
  | _ => m env
section
variable {K : PySem.W.Frag} {mg : Str → Option Value} {W : WX} {p : Bool} {t : TE} {m : M D} {i j : Nat} {B : Addr → Prop} {env : Env} {σ : St} {H : Hp} {F : List Addr}
theorem EvN.imp (h0 : EvN K mg W p t m) : EvN K mg W false t m := fun B env σ H F Q S h => by
  refine h0 B env σ H F Q S ?_
  cases em : m env with
  | ok d e => rw [em] at h; exact fun v H' F' Fd s x n _ => h v H' F' Fd s x n nofun
  | ex e e2 => rw [em] at h; exact h
  | no => rw [em] at h; exact h
/-! ### data of lists of immutable things, wholly owned, need nothing that is frozen -/
end
mutual
def flat : D → Bool
  | .lst xs | .tup xs => flatL xs
  | .non | .bl _ | .int _ | .str _ | .opq _ => true
  | .dK _ | .dT _ | .dTf _ | .scr _ | .deep _ | .nam _ _ | .xn _ _ _ | .fz _ | .tz _ => false
def flatL : List D → Bool
  | [] => true
  | d :: ds => flat d && flatL ds
end
section
variable {K : PySem.W.Frag} {mg : Str → Option Value} {W : WX} {p : Bool} {t : TE} {m : M D} {i j : Nat} {B : Addr → Prop} {env : Env} {σ : St} {H Z : Hp} {F G : List Addr}
def isOwn : Option (Bool × D) → Bool
  | some (true, _) => true
  | _ => false
/-! ### a slot lent: frozen while an expression is evaluated whose answer keeps nothing -/
end
def sole (i : Nat) (env : Env) : Bool := !((env.set i none).any isOwn)
def lendOk : D → Bool
  | .deep d => flat d
  | .lst es => imtL es
  | d => imt d
/-- what is lent is looked into -/
def unD : D → D
  | .deep d => d
  | d => d
theorem Rep.un {K : PySem.W.Frag} {Z : Hp} {d : D} {v : V} (r : Rep K Z d v) : Rep K Z (unD d) v := by
  cases r with
  | deep r => exact r
  | _ => first | assumption | (constructor <;> assumption)
def lendM (i : Nat) (m : M D) : M D := fun env => match env[i]? with
  | some (some (true, d)) => if sole i env then match m (env.set i (some (false, unD d))) with
      | .ok v _ => if lendOk v then .ok v env else .no
      | .ex x _ => .ex x env
      | .no => .no
    else .no
  | _ => .no
section
variable {K : PySem.W.Frag} {mg : Str → Option Value} {W : WX} {p : Bool} {t : TE} {m : M D} {i j : Nat} {B : Addr → Prop} {env : Env} {σ : St} {H Z : Hp} {F G : List Addr}
end
@[simp] theorem hideM_ap {j : Nat} {m : M D} {env : Env} : hideM j m env = match env[j]? with
  | some (some (true, d)) => match m (env.set j none) with
    | .ok v e => match e[j]? with
      | some none => .ok v (e.set j (some (true, d)))
      | _ => .no
    | .ex x e => match e[j]? with
      | some none => .ex x (e.set j (some (true, d)))
      | _ => .no
    | .no => .no
  | _ => m env := id rfl
@[simp] theorem lendM_ap {i : Nat} {m : M D} {env : Env} : lendM i m env = match env[i]? with
  | some (some (true, d)) => if sole i env then match m (env.set i (some (false, unD d))) with
      | .ok v _ => if lendOk v then .ok v env else .no
      | .ex x _ => .ex x env
      | .no => .no
    else .no
  | _ => .no := id rfl
end MM

set_option Elab.async false
set_option linter.all false
set_option maxRecDepth 100000
set_option maxHeartbeats 4000000
noncomputable section
namespace MM
open PySem PySem.Spec PyProof.Rows L2

/-! ### a slot that is wholly owned, read -/
def rdDM (i : Nat) (env : Env) : Option D := match env[i]? with
  | some (some (_, .deep d)) => some d
  | _ => none
/-- an answer wholly owned: taken, given -/
def undM (m : M D) : M D := fun env => match m env with
  | .ok (.deep d) e => .ok d e
  | .ok _ _ => .no
  | .ex e e2 => .ex e e2
  | .no => .no
def reM (m : M D) : M D := fun env => match m env with
  | .ok d e => .ok (.deep d) e
  | .ex e e2 => .ex e e2
  | .no => .no
def flM (m : M D) : M D := fun env => match m env with
  | .ok d e => if flat d then .ok d e else .no
  | .ex e e2 => .ex e e2
  | .no => .no
section
variable {K : PySem.W.Frag} {mg : Str → Option Value} {W : WX} {ps : List Nat} {ro : Bool} {p q : Bool} {te t1 t2 ta tb : TE} {t : TE} {m m1 m2 ma mb mv : M D} {a : MS} {i : Nat} {tA : TA} {ms : M (List D)}
  {B : Addr → Prop} {env : Env} {σ : St} {H H0 Z : Hp} {F F0 Fd Fa : List Addr} {ds : List D} {vs : List V}
theorem EvD.e (h0 : EvD K mg W p t m) : EvE K mg W p t m := fun B env σ H F Q S h => by
  refine h0 B env σ H F Q S ?_
  cases em : m env with
  | ex e e2 => rw [em] at h; exact h
  | no => rw [em] at h; exact h
  | ok d e =>
    rw [em] at h
    exact fun v H' F' Fd S' x N P => h v H' F' Fd S' N P
theorem EvD.n (h0 : EvD K mg W p t m) : EvN K mg W p t (flM m) := fun B env σ H F Q S h => by
  refine h0 B env σ H F Q S ?_
  unfold flM at h
  cases em : m env with
  | ex e e2 => rw [em] at h; exact h
  | no => rw [em] at h; exact h
  | ok d e =>
    rw [em] at h
    dsimp only at h
    cases ef : flat d with
    | false => rw [ef] at h; exact h.elim
    | true =>
      rw [ef, if_pos rfl] at h
      refine fun v H' F' Fd S' x N P => h v H' F' Fd S' ?_ N P
      cases d with
      | lst es => exact x.2
      | dK _ => cases ef
      | dT _ => cases ef
      | deep _ => cases ef
      | _ => trivial
/-! ### arguments that are new, wholly owned -/
/-- an immutable one, held by nobody's cells -/
def imtM (m : M D) : M D := fun env => match m env with
  | .ok d e => if imt d then .ok d e else .no
  | .ex e e2 => .ex e e2
  | .no => .no
def newM (m : M D) : M D := fun env => match m env with
  | .ok d e => if mct d = 0 then .no else .ok d e
  | .ex e e2 => .ex e e2
  | .no => .no
end
end MM

set_option Elab.async false
set_option linter.all false
set_option maxRecDepth 100000
set_option maxHeartbeats 4000000
noncomputable section
namespace MM
open PySem PySem.Spec PyProof.Rows L2

section
variable {K : PySem.W.Frag} {mg : Str → Option Value} {W : WX} {ps : List Nat} {ro : Bool} {p q : Bool} {te t1 t2 ta tb : TE} {t : TE} {m m1 m2 ma mb mv : M D} {a : MS} {i n : Nat} {tA : TA} {ms : M (List D)}
  {B : Addr → Prop} {env : Env} {σ : St} {H H0 Z : Hp} {F F0 Fd Fa : List Addr} {ds es as : List D} {vs us : List V}
/-- x.append(e), all new -/
def deepL (i : Nat) (env : Env) : Option (List D) := match env[i]? with
  | some (some (true, .deep (.lst ds))) => some ds
  | _ => none
def appDM (i : Nat) (ms : M (List D)) : M D := fun env => match deepL i env with
  | some _ => match ms env with
    | .ok [d] e2 => match deepL i e2 with
      | some ds => haveI : Decidable (ds.length < sizeLine) := Classical.propDecidable _; if ds.length < sizeLine then .ok .non (e2.set i (some (true, .deep (.lst (ds ++ [d]))))) else .no
      | none => .no
    | .ok _ _ => .no
    | .ex e e2 => .ex e e2
    | .no => .no
  | none => .no
/-! ### a list within a wholly owned one, changed -/
/-- the list at a place of the slot's list or tuple -/
def inL (i : Nat) (n : Nat) (env : Env) : Option (List D) := match env[i]? with
  | some (some (true, .deep (.lst ds))) => match ds[n]? with
    | some (.lst es) => some es
    | _ => none
  | some (some (true, .deep (.tup ds))) => match ds[n]? with
    | some (.lst es) => some es
    | _ => none
  | _ => none
def inLen (i : Nat) (env : Env) : Nat := match env[i]? with
  | some (some (true, .deep (.lst ds))) => ds.length
  | some (some (true, .deep (.tup ds))) => ds.length
  | _ => 0
def inSet (i : Nat) (n : Nat) (es : List D) (env : Env) : Env := match env[i]? with
  | some (some (true, .deep (.lst ds))) => env.set i (some (true, .deep (.lst (ds.set n (.lst es)))))
  | some (some (true, .deep (.tup ds))) => env.set i (some (true, .deep (.tup (ds.set n (.lst es)))))
  | _ => env
end
end MM

set_option Elab.async false
set_option linter.all false
set_option maxRecDepth 100000
set_option maxHeartbeats 4000000
noncomputable section
namespace MM
open PySem PySem.Spec PyProof.Rows L2

/-- x[k].m(..), x wholly owned -/
def mutInM (i : Nat) (mk : M D) (f : List D → List D → Option (List D × D)) (ms : M (List D)) : M D := fun env => match mk env with
  | .ok (.int k) _ => match ixN (inLen i env) k with
    | some n => match inL i n env with
      | some es => match ms env with
        | .ok as _ => match f es as with
          | some (es', d) => if mctL es = 0 ∧ mctL es' = 0 ∧ imt d = true then .ok d (inSet i n es' env) else .no
          | none => .no
        | _ => .no
      | none => .no
    | none => .no
  | _ => .no
/-- x[a][b] = v, x wholly owned -/
def setInM (i : Nat) (mv ma mb : M D) : MS := fun env => match mv env with
  | .ok v env => match ma env with
    | .ok (.int a) _ => match mb env with
      | .ok (.int b) _ => match ixN (inLen i env) a with
        | some n => match inL i n env with
          | some es => match ixN es.length b with
            | some k => if mctL es = 0 ∧ mct v = 0 then .nx (inSet i n (es.set k v) env) else .no
            | none => .no
          | none => .no
        | none => .no
      | _ => .no
    | _ => .no
  | .ex e e2 => .ex e e2
  | .no => .no
/-- x.m(..), read -/
def bmTM (f : List D → Option D) (m : Env → Option D) (ms : M (List D)) : M D := fun env => match m env with
  | some (.lst ds) => match ms env with
    | .ok as e2 => match f (.lst ds :: as) with
      | some d => .ok d e2
      | none => .no
    | .ex e e2 => .ex e e2
    | .no => .no
  | _ => .no
section
variable {K : PySem.W.Frag} {mg : Str → Option Value} {W : WX} {ps : List Nat} {ro : Bool} {p q : Bool} {te to t1 t2 ta tb : TE} {t : TE} {m m1 m2 ma mb mv : M D} {a : MS} {i n : Nat} {tA : TA} {ms : M (List D)} {mt : Env → Option D}
  {B : Addr → Prop} {env : Env} {σ : St} {H H0 Z : Hp} {F F0 Fd Fa : List Addr} {ds es as : List D} {vs us : List V}
end
/-! ### evaluation -/
section
variable {i n : Nat} {m ma mb mv mk : M D} {ms : M (List D)} {env : Env} {f : List D → List D → Option (List D × D)} {g : List D → Option D} {mt : Env → Option D}
@[simp] theorem rdDM_ap : rdDM i env = match env[i]? with
  | some (some (_, .deep d)) => some d
  | _ => none := id rfl
@[simp] theorem undM_ap : undM m env = match m env with
  | .ok (.deep d) e => .ok d e
  | .ok _ _ => .no
  | .ex e e2 => .ex e e2
  | .no => .no := id rfl
@[simp] theorem reM_ap : reM m env = match m env with
  | .ok d e => .ok (.deep d) e
  | .ex e e2 => .ex e e2
  | .no => .no := id rfl
@[simp] theorem imtM_ap : imtM m env = match m env with
  | .ok d e => if imt d then .ok d e else .no
  | .ex e e2 => .ex e e2
  | .no => .no := id rfl
@[simp] theorem flM_ap : flM m env = match m env with
  | .ok d e => if flat d then .ok d e else .no
  | .ex e e2 => .ex e e2
  | .no => .no := id rfl
@[simp] theorem newM_ap : newM m env = match m env with
  | .ok d e => if mct d = 0 then .no else .ok d e
  | .ex e e2 => .ex e e2
  | .no => .no := id rfl
@[simp] theorem deepL_ap : deepL i env = match env[i]? with
  | some (some (true, .deep (.lst ds))) => some ds
  | _ => none := id rfl
@[simp] theorem appDM_ap : appDM i ms env = match deepL i env with
  | some _ => match ms env with
    | .ok [d] e2 => match deepL i e2 with
      | some ds => haveI : Decidable (ds.length < sizeLine) := Classical.propDecidable _; if ds.length < sizeLine then .ok .non (e2.set i (some (true, .deep (.lst (ds ++ [d]))))) else .no
      | none => .no
    | .ok _ _ => .no
    | .ex e e2 => .ex e e2
    | .no => .no
  | none => .no := id rfl
@[simp] theorem mutInM_ap : mutInM i mk f ms env = match mk env with
  | .ok (.int k) _ => match ixN (inLen i env) k with
    | some n => match inL i n env with
      | some es => match ms env with
        | .ok as _ => match f es as with
          | some (es', d) => if mctL es = 0 ∧ mctL es' = 0 ∧ imt d = true then .ok d (inSet i n es' env) else .no
          | none => .no
        | _ => .no
      | none => .no
    | none => .no
  | _ => .no := id rfl
@[simp] theorem setInM_ap : setInM i mv ma mb env = match mv env with
  | .ok v env => match ma env with
    | .ok (.int a) _ => match mb env with
      | .ok (.int b) _ => match ixN (inLen i env) a with
        | some n => match inL i n env with
          | some es => match ixN es.length b with
            | some k => if mctL es = 0 ∧ mct v = 0 then .nx (inSet i n (es.set k v) env) else .no
            | none => .no
          | none => .no
        | none => .no
      | _ => .no
    | _ => .no
  | .ex e e2 => .ex e e2
  | .no => .no := id rfl
@[simp] theorem bmTM_ap : bmTM g mt ms env = match mt env with
  | some (.lst ds) => match ms env with
    | .ok as e2 => match g (.lst ds :: as) with
      | some d => .ok d e2
      | none => .no
    | .ex e e2 => .ex e e2
    | .no => .no
  | _ => .no := id rfl
end
end MM

set_option Elab.async false
set_option linter.all false
set_option maxRecDepth 100000
set_option maxHeartbeats 4000000
noncomputable section
namespace MM
open PySem PySem.Spec PyProof.Rows L2

/-! ### dict(xs), xs a list of pairs whose keys are tuples of ints -/
end MM

set_option Elab.async false
set_option linter.all false
set_option maxRecDepth 100000
set_option maxHeartbeats 4000000
noncomputable section
namespace MM
open PySem PySem.Spec PyProof.Rows L2

/-! ### dict(xs) of pairs: the mirror -/
section
variable {K : PySem.W.Frag} {mg : Str → Option Value} {W : WX} {p : Bool} {t : TE} {tA : TA} {ms : M (List D)} {B : Addr → Prop} {env : Env} {σ : St} {H Z : Hp} {F : List Addr} {pp : Addr}
end
/-! ### x.insert(i, e) -/
/-! ### a wholly owned slot, changed as a plain one -/
def preudM (i : Nat) (a : MS) : MS := fun env => a (udE i env)
@[simp] theorem preudM_ap {i : Nat} {a : MS} {env : Env} : preudM i a env = a (udE i env) := id rfl
/-! ### f() -/
section
variable {X : Cx} {k : Nat} {f : Addr} {fd : FuncData} {ps : List Str} {sp : Sp} {E : St → XK} {x : Str} {p pos : Pos}
end
end MM

set_option Elab.async false
set_option linter.all false
set_option maxRecDepth 100000
set_option maxHeartbeats 4000000
noncomputable section
namespace MM
open PySem PySem.Spec PyProof.Rows L2

/-! ### data compared as Python compares them -/
section
variable {X : Cx} {K : PySem.W.Frag}
end
/-! ### repr(x) of lists and tuples -/
def ShowOk (p : PyData) : Prop := p.showable = true ∧ p.hasDict = false ∧ p.depth ≤ 60 ∧ p.shown.length ≤ sizeLine
def rRepr (K : PySem.W.Frag) : List V → Hp → VK → Prop := fun xs H Q => ∃ (a : Addr) (d : PyData), xs = [.ref a] ∧ Dp K H (.ref a) d ∧ ShowOk d ∧ Q (.str d.shown) H
theorem call_repr {X : Cx} {K : PySem.W.Frag} (hK : X.K = K) (hg : X.A.guards = some []) (hu : X.A.units + 65 < cLine) : CallR X (.builtin "repr") (rRepr K) := by
  subst hK
  intro pins s σ H xs us Q I r q
  obtain ⟨a, d, rfl, hd, hs, q⟩ := q
  obtain ⟨u, eu, rx⟩ := vals1 r
  subst eu
  obtain ⟨as, rr⟩ := Dp.reads I d _ u hd rx
  cases rx
  exact repr_of_reads' rr hs.1 (fun z => by rw [hs.2.1] at z; cases z) hg (by have := hs.2.2.1; omega) (fun _ _ e => e) (fun h' u tk hk => ⟨.str d.shown, H, I.kept (t' := tk) hk, ⟨_, rfl⟩, q⟩) hs.2.2.2
open Classical in
def reprF : List D → Option D
  | [.lst xs] => match toPyL xs with
    | some ps => if ShowOk (.list ps) then some (.str (PyData.list ps).shown) else none
    | none => none
  | [.tup xs] => match toPyL xs with
    | some ps => if ShowOk (.tuple ps) then some (.str (PyData.tuple ps).shown) else none
    | none => none
  | _ => none
theorem s_repr {K : PySem.W.Frag} : OpS K (rRepr K) reprF := fun H ds vs Q d R ef q => by
  unfold reprF at ef
  split at ef
  · rename_i xs
    obtain ⟨x, rfl, rx⟩ := R.one_inv
    split at ef
    · rename_i ps ep
      split at ef
      · rename_i hs
        cases ef
        have hd := rx.dp (p := .list ps) (by simp only [toPy, ep])
        cases rx with
        | lst h r => exact ⟨_, _, rfl, hd, hs, q _ (.str _)⟩
      · cases ef
    · cases ef
  · rename_i xs
    obtain ⟨x, rfl, rx⟩ := R.one_inv
    split at ef
    · rename_i ps ep
      split at ef
      · rename_i hs
        cases ef
        have hd := rx.dp (p := .tuple ps) (by simp only [toPy, ep])
        cases rx with
        | tup h r => exact ⟨_, _, rfl, hd, hs, q _ (.str _)⟩
      · cases ef
    · cases ef
  · cases ef
end MM

set_option Elab.async false
set_option linter.all false
set_option maxRecDepth 100000
set_option maxHeartbeats 4000000
noncomputable section
namespace MM
open PySem PySem.Spec PyProof.Rows L2

/-! ### min and max of two, xor -/
section
variable {K : PySem.W.Frag} {mg : Str → Option Value} {W : WX} {p q : Bool} {te to ta tb tc : TE} {m ma mb mc : M D} {i : Nat} {tA : TA} {ms : M (List D)} {Z : Hp}
end
/-! ### range(a, b, -1) -/
section
variable {K : PySem.W.Frag} {mg : Str → Option Value} {W : WX} {p : Bool} {tA : TA} {ms : M (List D)} {Z : Hp}
theorem feeds_rangeC {lo c : Int} {n : Nat} : Feeds K Z (Itc lo c n) ((List.range n).map fun (i : Nat) => .int (lo + (i : Nat) * c)) := fun H i ez => by
  refine ⟨fun d hd => ?_, fun hl => show n ≤ i by simpa using hl⟩
  rw [List.getElem?_map] at hd
  cases e : (List.range n)[i]? with
  | none => rw [e] at hd; cases hd
  | some j =>
    obtain ⟨h1, h2⟩ := List.getElem?_eq_some_iff.mp e
    rw [List.getElem_range] at h2
    rw [List.length_range] at h1
    rw [e] at hd
    cases hd
    subst h2
    exact ⟨h1, fun x H' y => .inl ⟨y.1, by rw [y.2]; exact .int _⟩⟩
end
end MM

set_option Elab.async false
set_option linter.all false
set_option maxRecDepth 100000
set_option maxHeartbeats 4000000
noncomputable section
namespace MM
open PySem PySem.Spec PyProof.Rows L2

/-! ### enumerate(tuple) -/
section
variable {K : PySem.W.Frag} {mg : Str → Option Value} {W : WX} {p : Bool} {tA : TA} {ms : M (List D)}
end
end MM

set_option Elab.async false
set_option linter.all false
set_option maxRecDepth 100000
set_option maxHeartbeats 4000000
noncomputable section
namespace MM
open PySem PySem.Spec PyProof.Rows L2

/-! ### x or y, by truth -/
def truD : D → Option Bool
  | .non => some false
  | .bl b => some b
  | .int i => some (i != 0)
  | .lst ds => some (!ds.isEmpty)
  | .tup ds => some (!ds.isEmpty)
  | _ => none
def orTM (a b : M D) : M D := fun env => match a env with
  | .ok d e => match truD d with
    | some true => .ok d e
    | some false => b e
    | none => .no
  | .ex x e => .ex x e
  | .no => .no
section
variable {K : PySem.W.Frag} {mg : Str → Option Value} {W : WX} {p q : Bool} {ta tb : TE} {ma mb : M D} {H Z : Hp}
end
theorem pe_orT_ {X : Cx} {K : PySem.W.Frag} {a b : Expr} {ta tb : TE} {rest : List Expr} {pos : Pos} (hK : X.K = K) (ha : PE X a ta) (hb : PE X (.BoolOp .Or (b :: rest) pos) tb) : PE X (.BoolOp .Or (a :: b :: rest) pos) (tOrT K ta tb) := hK ▸ pe_orT ha hb
@[simp] theorem orTM_ap {a b : M D} {env : Env} : orTM a b env = match a env with
  | .ok d e => match truD d with
    | some true => .ok d e
    | some false => b e
    | none => .no
  | .ex x e => .ex x e
  | .no => .no := id rfl
end MM

set_option Elab.async false
set_option linter.all false
set_option maxRecDepth 100000
set_option maxHeartbeats 8000000
noncomputable section
namespace MM
open PySem PySem.Spec PyProof.Rows L2

/-! ### try: .. except x as n: .., the exception kept beyond -/
section
variable {X : Cx} {pins : List (Addr × Obj)} {σ : St} {H : Hp} {s : Shared}
end

section
variable {X : Cx} {x n : Str} {c : Value} {i : Nat} {body suite : List Stmt} {b₀ : Stmt} {np pos pos' : Pos} {tb : WX → TS} {ts : Addr → Value → Option Addr → TS} {Wout : WX}
end

/-! ### the mirror's words: raise X("m"), try .. except M as e: c = e -/
/-- what the classes xs are, by the clause's class at c -/
structure Takers (K : PySem.W.Frag) (mg : Str → Option Value) (c : Value) (xs : List Str) : Prop where
  at_ : ∀ x ∈ xs, ∃ C : Addr, mg x = some (.ref C) ∧ PySem.W.nsIn K mainGlobals x = some (some (.ref C)) ∧ PySem.W.exmOne K (.ref C) c = some true
theorem Takers.one {K : PySem.W.Frag} {mg : Str → Option Value} {c : Value} {x : Str} {C : Addr} (h1 : mg x = some (.ref C)) (h2 : PySem.W.nsIn K mainGlobals x = some (some (.ref C))) (h3 : PySem.W.exmOne K (.ref C) c = some true) : Takers K mg c [x] where
  at_ := fun y m => by
    rw [List.mem_singleton.mp m]
    exact ⟨C, h1, h2, h3⟩
section
variable {K : PySem.W.Frag} {mg : Str → Option Value} {W : WX} {ps : List Nat} {ro : Bool} {i j : Nat} {xs : List Str} {m : MS} {tb : WX → TS} {c : Value}
end

/-! ### isinstance of a kept exception -/
/-- what the written part says of the class x0 at C -/
structure XT (K : PySem.W.Frag) (x0 : Str) (ys : List Str) : Prop where
  exc : ∀ C, PySem.W.nsIn K mainGlobals x0 = some (some (.ref C)) → ExcC K C
  val : ∀ C, PySem.W.nsIn K mainGlobals x0 = some (some (.ref C)) → PySem.W.kitOne K (.ref C) (.type "ValueError") = some true
  oth : ∀ C, PySem.W.nsIn K mainGlobals x0 = some (some (.ref C)) → ∀ y ∈ ys, ∀ D, PySem.W.nsIn K mainGlobals y = some (some (.ref D)) → PySem.W.kitOne K (.ref C) (.ref D) = some false
section
variable {K : PySem.W.Frag} {x0 : Str} {ys : List Str} {H : Hp}
end
end MM

set_option Elab.async false
set_option linter.all false
set_option maxRecDepth 100000
set_option maxHeartbeats 8000000
noncomputable section
namespace MM
open PySem PySem.Spec PyProof.Rows L2

/-! ### repr of lists that hold dicts of plain things -/
def keyP : Key → PyData
  | .inl i => .int i
  | .inr x => .str x
theorem key_reads {h : Heap} : ∀ {k : Key} {v : Value}, keyIs k v = true → Reads h v (keyP k) [] := fun {k v} e => by
  rcases keyIs_shape e with ⟨i, t, rfl, rfl⟩ | ⟨x, t, rfl, rfl⟩
  · exact Reads.int i t
  · exact Reads.str x t
def scP : D → Option PyData
  | .non => some .none
  | .bl b => some (.bool b)
  | .int i => some (.int i)
  | .str x => some (.str x)
  | _ => none
def scK : List (Key × D) → Option (List (PyData × PyData))
  | [] => some []
  | (k, d) :: ds => match scP d with
    | some y => match scK ds with
      | some ys => some ((keyP k, y) :: ys)
      | none => none
    | none => none
/-- what can be shown: without a dict, or a dict of plain things -/
def elP : D → Option PyData
  | .dK kvs => match scK kvs with
    | some ys => some (.dict ys)
    | none => none
  | d => match toPy d with
    | some p => if p.hasDict = false then some p else none
    | none => none
section
variable {X : Cx} {pins : List (Addr × Obj)} {σ : St} {H : Hp} {s : Shared}
theorem sc_reads {h : Heap} {K : PySem.W.Frag} {d : D} {v : V} {p : PyData} {u : Value} (r : Rep K H d v) (e : scP d = some p) (rv : RelV v u) : Reads h u p [] := by
  cases r with
  | non => cases e; cases rv; exact Reads.none
  | bl b => cases e; cases rv; exact Reads.bool b
  | int i => cases e; obtain ⟨t, rfl⟩ := rv; exact Reads.int i t
  | str x => cases e; obtain ⟨t, rfl⟩ := rv; exact Reads.str x t
  | _ => cases e
theorem pairs_keys {P : Program} {w : World} : ∀ {es : List DictEntry} {vs : List (Key × Value)}, Pairs (mixKind P w) es vs → Paired (fun (e : DictEntry) (q : Key × Value) => keyIs q.1 e.key = true ∧ e.val = q.2) es vs
  | _, _, .nil => .nil
  | _, _, .cons h1 h2 r => .cons ⟨h1, h2⟩ (pairs_keys r)
theorem scK_reads {h : Heap} {K : PySem.W.Frag} : ∀ {ds : List (Key × D)} {kws : List (Key × V)} {ps : List (PyData × PyData)} {vs : List (Key × Value)} {es : List DictEntry}, RepK K H ds kws → scK ds = some ps → KV kws vs →
    Paired (fun (e : DictEntry) (q : Key × Value) => keyIs q.1 e.key = true ∧ e.val = q.2) es vs →
    ReadsAll h (es.map (·.key)) (ps.map (·.1)) [] ∧ ReadsAll h (es.map (·.val)) (ps.map (·.2)) []
  | _, _, _, _, _, .nil, e, kv, pr => by
    simp only [scK] at e
    cases e
    cases kv
    cases pr
    exact ⟨ReadsAll.nil, ReadsAll.nil⟩
  | _, _, _, _, _, .cons (k := k) hh t, e, kv, pr => by
    simp only [scK] at e
    split at e
    · rename_i y e1
      split at e
      · rename_i ys e2
        cases e
        cases kv with
        | cons r1 r2 =>
          cases pr with
          | cons p1 p2 =>
            obtain ⟨k1, v1⟩ := r1
            obtain ⟨k2, v2⟩ := p1
            dsimp only at k1 v1
            rw [← k1] at k2
            rw [← v2] at v1
            obtain ⟨q1, q2⟩ := scK_reads (h := h) t e2 r2 p2
            exact ⟨ReadsAll.cons (as := []) (key_reads k2) q1, ReadsAll.cons (as := []) (sc_reads hh e1 v1) q2⟩
      · cases e
    · cases e
theorem el_reads (I : Inv X pins σ H s) {d : D} {v : V} {p : PyData} {u : Value} (r : Rep X.K H d v) (e : elP d = some p) (rv : RelV v u) : ∃ as, Reads s.heap u p as ∧ (p.hasDict = true → sysModules ∉ as) := by
  by_cases hd : ∃ kvs, d = .dK kvs
  · obtain ⟨kvs, rfl⟩ := hd
    unfold elP at e
    dsimp only at e
    split at e
    · rename_i ys e1
      cases e
      cases r with
      | dK h rk =>
        cases rv
        obtain ⟨_, hns, vs, kv, o, es, ep, ho, hx, hd, _, pr, _⟩ := (show ObjOk X.prog X.w H s.heap _ (.dK _) from I.hok _ _ h)
        obtain ⟨q1, q2⟩ := scK_reads (h := s.heap) rk e1 kv (pairs_keys pr)
        refine ⟨_, Reads.dict ho hx.1 hd q1 q2, fun _ m => ?_⟩
        rw [List.append_nil, List.mem_singleton] at m
        rw [← m] at hns
        simp at hns
    · cases e
  · have e' : (match toPy d with | some p => if p.hasDict = false then some p else none | none => none) = some p := by
      unfold elP at e
      split at e
      · exact absurd ⟨_, rfl⟩ hd
      · exact e
    split at e'
    · rename_i p' e1
      split at e'
      · rename_i hn
        cases e'
        obtain ⟨as, q⟩ := Dp.reads I p v u (r.dp e1) rv
        exact ⟨as, q, fun z => by rw [hn] at z; cases z⟩
      · cases e'
    · cases e'
/-- things read one by one -/
inductive RdE (h : Heap) : List Value → List PyData → Prop
  | nil : RdE h [] []
  | cons {v : Value} {vs : List Value} {d : PyData} {ds : List PyData} {as : List Addr} : Reads h v d as → (d.hasDict = true → sysModules ∉ as) → RdE h vs ds → RdE h (v :: vs) (d :: ds)
end
section
variable {prog : Program} {w : World} {h₀ : Heap}
theorem RdE.all : ∀ {vs : List Value} {ds : List PyData}, RdE h₀ vs ds → ∃ as, ReadsAll h₀ vs ds as
  | _, _, .nil => ⟨_, .nil⟩
  | _, _, .cons r _ t => by
    obtain ⟨as, q⟩ := RdE.all t
    exact ⟨_, .cons r q⟩
end
def ShowX (p : PyData) : Prop := p.showable = true ∧ p.depth ≤ 60 ∧ p.shown.length ≤ sizeLine
end MM

set_option Elab.async false
set_option linter.all false
set_option maxRecDepth 100000
set_option maxHeartbeats 8000000
noncomputable section
namespace MM
open PySem PySem.Spec PyProof.Rows L2

/-! ### repr of anything that can be shown; str of a tuple -/
section
variable {X : Cx} {K : PySem.W.Frag}
end
/-! ### str of a number or a tuple -/
def strP : D → Option PyData
  | .int i => some (.int i)
  | .tup xs => elP (.tup xs)
  | _ => none
def rStrA (K : PySem.W.Frag) : List V → Hp → VK → Prop := fun xs H Q => ∃ (x : V) (d : D) (p : PyData), xs = [x] ∧ Rep K H d x ∧ strP d = some p ∧ ShowX p ∧ Q (.str p.shown) H
theorem call_strA {X : Cx} {K : PySem.W.Frag} (hK : X.K = K) (hg : X.A.guards = some []) (hu : X.A.units + 65 < cLine) : CallR X (.type "str") (rStrA K) := by
  subst hK
  intro pins s σ H xs us Q I r q
  obtain ⟨x, d, p, rfl, hd, hp, hsx, q⟩ := q
  obtain ⟨u, eu, rx⟩ := vals1 r
  subst eu
  cases d with
  | int i =>
    cases hp
    cases hd
    obtain ⟨t, rfl⟩ := rx
    refine P.str_of_int (by have := hsx.1; rw [PyData.showable] at this; exact of_decide_eq_true this) ⟨.str _, H, I.tok _, ⟨_, rfl⟩, ?_⟩
    simp only [PyData.shown] at q
    exact q
  | tup xs =>
    have hp : elP (.tup xs) = some p := hp
    obtain ⟨as, rr, ns⟩ := el_reads I hd hp rx
    cases hd
    cases rx
    exact str_of_reads rr hsx.1 ns hg (by have := hsx.2.1; omega) (fun _ _ e => e) (fun h' u tk hk => ⟨.str p.shown, H, I.kept (t' := tk) hk, ⟨_, rfl⟩, q⟩) hsx.2.2
  | _ => cases hp
open Classical in
def strAF : List D → Option D
  | [d] => match strP d with
    | some p => if ShowX p then some (.str p.shown) else none
    | none => none
  | _ => none
theorem s_strA {K : PySem.W.Frag} : OpS K (rStrA K) strAF := fun H ds vs Q d R ef q => by
  unfold strAF at ef
  split at ef
  · rename_i d0
    obtain ⟨x, rfl, rx⟩ := R.one_inv
    split at ef
    · rename_i p ep
      split at ef
      · rename_i hs
        cases ef
        exact ⟨x, d0, p, rfl, rx, ep, hs, q _ (.str _)⟩
      · cases ef
    · cases ef
  · cases ef
end MM

set_option Elab.async false
set_option linter.all false
set_option maxRecDepth 100000
set_option maxHeartbeats 8000000
noncomputable section
namespace MM
open PySem PySem.Spec PyProof.Rows L2

/-! ### repr of lists that hold dicts, or tuples of plain things and dicts -/
section
variable {X : Cx} {pins : List (Addr × Obj)} {σ : St} {H : Hp} {s : Shared}
end
end MM

set_option Elab.async false
set_option linter.all false
set_option maxRecDepth 100000
set_option maxHeartbeats 4000000
noncomputable section
namespace MM
open PySem PySem.Spec PyProof.Rows L2

/-! ### two rows of a wholly owned list exchanged -/
def swpDM (i a b : Nat) : MS := fun env => match deepL i env, env[a]?, env[b]? with
  | some ds, some (some (_, .int x)), some (some (_, .int y)) => match ixN ds.length x, ixN ds.length y with
    | some n, some m => match ds[n]?, ds[m]? with
      | some dn, some dm => .nx (env.set i (some (true, .deep (.lst ((ds.set n dm).set m dn)))))
      | _, _ => .no
    | _, _ => .no
  | _, _, _ => .no
section
variable {K : PySem.W.Frag} {mg : Str → Option Value} {W : WX} {ps : List Nat} {ro : Bool} {H Z : Hp}
theorem OwnL.part {d : D} : ∀ {ds : List D} {vs : List V} {F : List Addr} {n : Nat}, OwnL K H Z ds vs F → ds[n]? = some d → ∃ F1 Fi F2 v, F = F1 ++ (Fi ++ F2) ∧ vs[n]? = some v ∧ Own K H Z d v Fi ∧
    ∀ d' v' Fi', Own K H Z d' v' Fi' → OwnL K H Z (ds.set n d') (vs.set n v') (F1 ++ (Fi' ++ F2))
  | _, _, _, 0, .cons (F := Fa) (G := Ga) h t, e => by
    cases e
    exact ⟨[], Fa, Ga, _, rfl, rfl, h, fun d' v' Fi' o => .cons (F := Fi') o t⟩
  | _, _, _, n + 1, .cons (F := Fa) (G := Ga) h t, e => by
    obtain ⟨F1, Fi, F2, v, eF, ev, o, g⟩ := OwnL.part (n := n) t e
    refine ⟨Fa ++ F1, Fi, F2, v, by rw [eF, List.append_assoc], ev, o, fun d' v' Fi' o' => ?_⟩
    rw [List.append_assoc]
    exact .cons h (g d' v' Fi' o')
  | _, _, _, _, .nil, e => nomatch e
theorem OwnL.swap {ds : List D} {vs : List V} {F : List Addr} {n m : Nat} {dn dm : D} (o : OwnL K H Z ds vs F) (hn : ds[n]? = some dn) (hm : ds[m]? = some dm) :
    ∃ vn vm F', vs[n]? = some vn ∧ vs[m]? = some vm ∧ OwnL K H Z ((ds.set n dm).set m dn) ((vs.set n vm).set m vn) F' ∧ F'.Perm F := by
  obtain ⟨F1, Fn, F2, vn, eF, en, on, gn⟩ := o.part hn
  by_cases q : n = m
  · subst q
    rw [hn] at hm
    cases hm
    exact ⟨vn, vn, _, en, en, by rw [List.set_set, List.set_set]; exact gn dn vn Fn on, by rw [eF]⟩
  · obtain ⟨G1, Fm, G2, vm, eG, em, om, gm⟩ := (gn .non .non [] (.frz .non)).part (d := dm) (n := m) (by rw [List.getElem?_set_ne q]; exact hm)
    rw [List.getElem?_set_ne q] at em
    have o3 := gm dn vn Fn on
    obtain ⟨hl, _⟩ := List.getElem?_eq_some_iff.mp hn
    obtain ⟨L1, Fz0, L2, v0, eL, ev0, o0, g0⟩ := o3.part (d := .non) (n := n) (by rw [List.getElem?_set_ne (Ne.symm q), List.getElem?_set_self hl])
    have e0 : Fz0 = [] := by cases o0; rfl
    subst e0
    have r := g0 dm vm Fm om
    have e9 : ∀ {α : Type} (l : List α) (x y z : α), ((l.set n x).set m y).set n z = (l.set n z).set m y := fun l x y z => by rw [List.set_comm _ _ (Ne.symm q), List.set_set]
    rw [e9, e9] at r
    refine ⟨vn, vm, _, en, em, r, ?_⟩
    rw [eF]
    rw [List.nil_append] at eG eL
    have p1 : (F1 ++ (Fn ++ F2)).Perm (Fn ++ (F1 ++ F2)) := List.perm_append_comm_assoc ..
    have p2 : (L1 ++ (Fm ++ L2)).Perm (Fm ++ (L1 ++ L2)) := List.perm_append_comm_assoc ..
    refine p2.trans (.trans ?_ p1.symm)
    rw [← eL, eG]
    have p3 : (G1 ++ (Fn ++ G2)).Perm (Fn ++ (G1 ++ G2)) := List.perm_append_comm_assoc ..
    have p4 : (G1 ++ (Fm ++ G2)).Perm (Fm ++ (G1 ++ G2)) := List.perm_append_comm_assoc ..
    refine (p3.append_left Fm).trans (.trans ?_ (p4.append_left Fn).symm)
    exact List.perm_append_comm_assoc ..
end
@[simp] theorem swpDM_ap {i a b : Nat} {env : Env} : swpDM i a b env = match deepL i env, env[a]?, env[b]? with
  | some ds, some (some (_, .int x)), some (some (_, .int y)) => match ixN ds.length x, ixN ds.length y with
    | some n, some m => match ds[n]?, ds[m]? with
      | some dn, some dm => .nx (env.set i (some (true, .deep (.lst ((ds.set n dm).set m dn)))))
      | _, _ => .no
    | _, _ => .no
  | _, _, _ => .no := id rfl
/-! ### a slot read, wholly owned or not -/
def rdXM (i : Nat) (env : Env) : Option D := match env[i]? with
  | some (some (_, d)) => some (unD d)
  | _ => none
@[simp] theorem rdXM_ap {i : Nat} {env : Env} : rdXM i env = match env[i]? with | some (some (_, d)) => some (unD d) | _ => none := id rfl
/-! ### repr of any thing, of a list of odd things -/
end MM

set_option Elab.async false
set_option linter.all false
set_option maxRecDepth 100000
set_option maxHeartbeats 8000000
noncomputable section
namespace MM
open PySem PySem.Spec PyProof.Rows L2

/-! ### what the written part must say -/
section
variable {X : Cx} {K : PySem.W.Frag} {mg : Str → Option Value} {x : Str} {ys : List Str}
end

/-! ### own exceptions whose __init__ asks the base's and keeps one whole number -/
theorem pe_minit {X : Cx} {CM : Addr} {x : Str} {e : Expr} {es : List Expr} {ta : TA} {p1 p2 pos : Pos} {pl : Sem Bool} (hg : Gl X x) (hm : X.mg x = some (.ref CM))
    (ga : PySem.W.specialIn X.K (.ref CM) "__getattribute__" = some (some (.builtin "type.__getattribute__"))) (rd : PySem.W.readsIn X.K CM (.type "type") = true) (vV : PySem.W.findCls X.K (.ref CM) (.type "type") "__init__" = some (.val (.builtin "ValueError.__init__"))) (ha : PA X (e :: es) ta)
    (hdb : (x == ("__debug__" : Str)) = false := by decide)
    (hc : eval (.Call (.Attribute (.Name x p1) "__init__" p2) (e :: es) [] pos) X.env = (do
      let ov ← eval (.Name x p1) X.env
      standAt p2.atName
      let (f, first) ← holding [ov] (getMethod ov "__init__" pl)
      callWith pos f first (backTo pos (starEach (e :: es) X.env)) (backToKw pos (keywordEach [] X.env))) := by rfl)
    (he : starEach (e :: es) X.env = (false, eval e X.env) :: starEach es X.env := by rfl) (hpl : (backTo pos (starEach es X.env)).any (·.1) = false := by rfl) :
    PE X (.Call (.Attribute (.Name x p1) "__init__" p2) (e :: es) [] pos) (tVeI X.K ta) := by
  refine ⟨fun pins s σ H Q I h => ?_⟩
  refine PySem.W.methodCall_KW (ld_glob I hg hm ?_ hdb) hc
  refine PySem.W.method_cls I.kIn ga (PySem.W.cls_value I.kIn rd vV (by decide +kernel) ?_)
  show wpAny _ _ (callWith pos (Value.builtin "ValueError.__init__") [] (backTo pos (starEach (e :: es) X.env)) []) _ _ _
  refine PyProof.Rows.callWith_method1 (thn (ha.run pos pins _ σ H _ (I.tok _) h) fun us s1 ⟨vs, H1, I1, r1, a, C, ws, ev, hl, T, ea, q⟩ => ?_) he hpl
  subst ev
  cases r1 with
  | @cons _ u0 _ ur ra rw' =>
    obtain rfl : u0 = Value.ref a := ra
    have hlen : ur.length ≤ sizeLine := by
      rw [← Paired.length rw', sizeLine_eq]
      omega
    exact oinit_ok T I1 ea hlen fun s' J => ⟨.non, H1, J, rfl, q⟩
/-- what such an __init__ does -/
def spIni (K : PySem.W.Frag) (f : Str) : Sp := fun vs H Q _ => ∃ (a C : Addr) (i : Int), vs = [.ref a, .int i] ∧ OexC K C ∧ PySem.W.findIn K (.ref C) f = some none ∧ H a = some (exo a C none) ∧
  ∀ dx, H dx = none → dx ≠ a → Q .non (upd (upd H dx (exd dx [(f, .int i)])) a (exo a C (some dx)))
def tIni (K : PySem.W.Frag) (f : Str) (m : Str) : TS := tSeq (tDrop (tVeI K (tCons (tVar 0) (tCons (tC (.str m)) tNil)))) (tOst K f (tVar 0) (tVar 1))
theorem ini_run {K : PySem.W.Frag} {f m : Str} {N : List Str} {vs : List V} {H : Hp} {Q : VK} {E : XK} (h : spIni K f vs H Q E) : tIni K f m { nx := fun _ H' => Q .non H', rt := Q } (L2.start N vs) H := by
  obtain ⟨a, C, i, rfl, T, hno, ea, q⟩ := h
  exact ⟨.ref a, rfl, a, C, [.str m], rfl, by simp, T, ea, .int i, rfl, .ref a, rfl, a, C, rfl, T, hno, .inl ⟨ea, q⟩⟩
/-- the def that a class body holds -/
def initOf : Stmt → Stmt
  | .ClassDef _ _ _ body _ _ _ _ _ _ _ => body.getD 0 (.Pass ⟨0, 0, 0, 0⟩)
  | s => s
/-- what the written part says of an own exception class with its own __init__ -/
structure IniT (K : PySem.W.Frag) (mg : Str → Option Value) (x f : Str) (st : Stmt) (qual : Str) where
  C : Addr
  fI : Addr
  fd : FuncData
  oC : OexC K C
  no : PySem.W.findIn K (.ref C) f = some none
  ini : PySem.W.findIn K (.ref C) "__init__" = some (some (.ref fI))
  tI : PySem.W.typeIn K (.ref fI) = some (.type "function")
  mgx : mg x = some (.ref C)
  nsx : PySem.W.nsIn K mainGlobals x = some (some (.ref C))
  F : Fun K "__init__" qual st fI fd
  b : Binds K fd ["self", f] []
def iniT_mk {K : PySem.W.Frag} {h : Heap} {mg : Str → Option Value} {x f : Str} {st : Stmt} {qual : Str} {C N fI : Addr} {nm q : Str} {bs bm : List Value} {sn : List Str} {sub : List Value} {ab : Bool} {col : Option Bool} {dd od an : Option Addr} {k0 k1 k2 k3 k5 : Option Value} {oc kV dc pm cd ct : Value} {sl : Array (Option Value)}
    (X : K.In h) (G : h.Ns mainGlobals mg) (ns : PySem.W.nsIn K mainGlobals x = some (some (.ref C))) (l : K.lookup C = some (excClassObj nm q C N bs bm true sn sub ab col dd k0 k1 k2 k3 k5 "ValueError.__new__")) (rv : PySem.HandSPX.refsVE bm = true)
    (sa : PySem.W.findIn K (.ref C) "__setattr__" = some (some (.builtin "object.__setattr__"))) (exC : PySem.W.subIn K (.ref C) (.type "BaseException") = some true) (tyC : PySem.W.typeIn K (.ref C) = some (.type "type")) (kC : PySem.W.keepIn K (.ref C) = true)
    (no : PySem.W.findIn K (.ref C) f = some none) (ini : PySem.W.findIn K (.ref C) "__init__" = some (some (.ref fI))) (tI : PySem.W.typeIn K (.ref fI) = some (.type "function"))
    (lF : K.lookup fI = some ⟨oc, od, .func (PySem.W.fnOf "__init__" qual (defArgs st) (defBody st) (defScope st) .none kV dc pm an cd ct), sl⟩) (cF : PySem.W.codeIn K cd qual = true) (kF : PySem.W.keepIn K (.ref fI) = true)
    (hb : ∀ (kV doc pm : Value) (an : Option Addr) (cdv ct : Value) (us : List Value), us.length = 2 → bindArgs (PySem.W.fnOf "__init__" qual (defArgs st) (defBody st) (defScope st) .none kV doc pm an cdv ct) ⟨us, []⟩ = pure ([("self" : Str), f].zip us)) : IniT K mg x f st qual where
  C := C
  fI := fI
  fd := PySem.W.fnOf "__init__" qual (defArgs st) (defBody st) (defScope st) .none kV dc pm an cd ct
  oC := ⟨⟨nm, q, N, bs, bm, sn, sub, ab, col, dd, k0, k1, k2, k3, k5, l, rv⟩, sa, exC, tyC, kC⟩
  no := no
  ini := ini
  tI := tI
  mgx := PySem.W.mg_of X G ns
  nsx := ns
  F := fun_mk lF cF kF
  b := (fun_mk lF cF kF).binds hb
/-- the base class, as its __init__ is asked for by name -/
structure BasT (K : PySem.W.Frag) (mg : Str → Option Value) (x : Str) where
  C : Addr
  mgx : mg x = some (.ref C)
  ga : PySem.W.specialIn K (.ref C) "__getattribute__" = some (some (.builtin "type.__getattribute__"))
  rd : PySem.W.readsIn K C (.type "type") = true
  vV : PySem.W.findCls K (.ref C) (.type "type") "__init__" = some (.val (.builtin "ValueError.__init__"))
def basT_mk {K : PySem.W.Frag} {h : Heap} {mg : Str → Option Value} {x : Str} {C : Addr} (X : K.In h) (G : h.Ns mainGlobals mg) (ns : PySem.W.nsIn K mainGlobals x = some (some (.ref C)))
    (ga : PySem.W.specialIn K (.ref C) "__getattribute__" = some (some (.builtin "type.__getattribute__"))) (rd : PySem.W.readsIn K C (.type "type") = true) (vV : PySem.W.findCls K (.ref C) (.type "type") "__init__" = some (.val (.builtin "ValueError.__init__"))) : BasT K mg x := ⟨C, PySem.W.mg_of X G ns, ga, rd, vV⟩
section
variable {P : Program} {w : World} {K : PySem.W.Frag} {mg : Str → Option Value} {base : Heap}
theorem fnIni {x f m qual : Str} {st : Stmt} (T : IniT K mg x f st qual) {N ps : List Str} {k : Nat} (hp : ps.length = 2) (S : FnScope N ps (defScope st))
    (hbody : ∀ (cdv : Value) (A : Around) (outer : List PySem.Env) (s : Shared) (H : Hp) (E : XK), Room k (A.deeper (envOfC qual (defScope st) s.heap.objs.size T.fI cdv)) →
      PSs (cxOf (L2.CX P w) P w K mg base N qual (defScope st) T.fI cdv A outer s H E) (defBody st) (tIni K f m)) :
    FnOk P w K mg base (L2.CX P w) (k + 1) T.fI T.fd ps (spIni K f) :=
  T.F.okX S (fun _ _ _ _ h => by
    obtain ⟨_, _, _, rfl, _⟩ := h
    exact hp.symm) fun cdv A outer s H vs Q E hr h => ⟨_, hbody cdv A outer s H E hr, ini_run h⟩
/-- raise x(e) -/
def raiseIM (x f : Str) (m : M D) : MS := fun env => match m env with
  | .ok (.int i) e => .ex ⟨x, some (f, i)⟩ e
  | .ex e e2 => .ex e e2
  | _ => .no
@[simp] theorem raiseIM_ap {x f : Str} {m : M D} {env : Env} : raiseIM x f m env = match m env with
  | .ok (.int i) e => .ex ⟨x, some (f, i)⟩ e
  | .ex e e2 => .ex e e2
  | _ => .no := rfl
theorem es_raiseI {W : WX} {ps : List Nat} {ro p : Bool} {x f qual : Str} {st : Stmt} {te : TE} {m : M D} (T : IniT K mg x f st qual) (h1 : EvE K mg W p te m) :
    EvS K mg W ps ro (fun _ σ H => tMkO T.C (spIni K f) [] (tCons te tNil) σ H fun cls d H' => W cls d σ H') (raiseIM x f m) := fun B env σ H F D S h => by
  unfold raiseIM at h
  refine h1 B env σ H F _ S ?_
  cases em : m env with
  | ex e e2 =>
    rw [em] at h
    dsimp only at h
    exact fun cls dd H' F' S' N' x => h cls dd σ H' F' S' N' .refl x
  | no => rw [em] at h; exact h.elim
  | ok d e =>
    rw [em] at h
    intro v H1 F1 Fd S1 N1 _
    cases d with
    | int i =>
      dsimp only at h
      have S2 := S1.sta
      have N2 : Nxt H F H1 F1 := N1.weak fun a m => List.mem_append_left _ m
      have hv : v = .int i := by
        cases S1.repH with
        | cons r _ => cases r; rfl
      subst hv
      refine ⟨by simp, fun a na => ⟨a, T.C, i, rfl, T.oC, T.no, upd_same, fun dx ndx ne => ⟨rfl, dx, [(f, .int i)], ?_, ?_, ?_, ?_⟩⟩⟩
      · exact upd_same
      · rw [upd_ne ne, upd_same]
      · rwa [upd_ne ne] at ndx
      · have n1 : H1 dx = none := by rwa [upd_ne ne] at ndx
        have eH : upd (del (upd (upd (upd H1 a (exo a T.C none)) dx (exd dx [(f, .int i)])) a (exo a T.C (some dx))) a) dx (.xd [(f, .int i)]) = upd H1 dx (.xd [(f, .int i)]) := by
          funext b
          by_cases hb : b = dx
          · rw [hb, upd_same, upd_same]
          · rw [upd_ne hb, upd_ne hb]
            by_cases ha : b = a
            · rw [ha, del_same, na]
            · rw [del_ne ha, upd_ne ha, upd_ne hb, upd_ne ha]
        show W (.ref T.C) (some dx) σ _
        rw [eH]
        exact h (.ref T.C) (some dx) σ _ F1 (S2.new n1) (N2.grow (ex_new n1)) .refl ⟨T.mgx, dx, rfl, upd_same⟩
    | _ => exact h.elim
end
/-! ### raise, and try .. except x: without a name -/
theorem passN {X : Cx} {W : WX} (tk : Takes X W) : Passes (L2.CX X.prog X.w) X (fun _ _ _ => False) := fun pins σ H s e s' I c => tk e s' (XE.of_call I (fun _ _ _ h => h.elim) c)
section
variable {X : Cx} {K : PySem.W.Frag} {mg : Str → Option Value} {x f qual : Str} {st : Stmt}
theorem ps_raiseI (T : IniT K mg x f st qual) {W : WX} {k : Nat} {e : Expr} {te : TE} {p pos pos2 : Pos} (hK : X.K = K) (hm : X.mg = mg) (F1 : FnOk X.prog X.w K mg X.base (L2.CX X.prog X.w) k T.fI T.fd ["self", f] (spIni K f)) (hr : Room (k + 1) X.A) (hc : X.calm = true) (tk : Takes X W) (hg : Gl X x) (ha : PA X [e] (tCons te tNil))
    (hdb : (x == ("__debug__" : Str)) = false := by decide) (hs : starEach [e] X.env = (false, eval e X.env) :: starEach [] X.env := by rfl) :
    PS X (.Raise (some (.Call (.Name x p) [e] [] pos2)) none pos) (fun _ σ H => tMkO T.C (spIni K f) [] (tCons te tNil) σ H fun cls d H' => W cls d σ H') := by
  subst hK hm
  exact ps_raise hc tk (pmk_oex T.oC T.ini T.tI F1 hr T.b .nil (passN tk) hg T.mgx ha hdb hs)
theorem names_ini (T : IniT K mg x f st qual) (hm : X.mg = mg) (hg : Gl X x) (hdb : (x == ("__debug__" : Str)) = false := by decide) : Names X x (.ref T.C) := by
  subst hm
  exact ⟨hg, hdb, .inl T.mgx⟩
end
def tryM1 (xs : List Str) (m mh : MS) : MS := fun env => match m env with
  | .ex ⟨x, _⟩ e => if x ∈ xs then mh e else .no
  | r => r
theorem tryM1_nx {xs : List Str} {m mh : MS} {env e : Env} (h : m env = .nx e) : tryM1 xs m mh env = .nx e := by
  unfold tryM1
  rw [h]
section
variable {K : PySem.W.Frag} {mg : Str → Option Value} {W : WX} {ps : List Nat} {ro : Bool} {xs : List Str} {m mh : MS} {tb : WX → TS} {ts : Addr → Value → Option Addr → TS} {c : Value}
theorem es_try1 (T : Takers K mg c xs) (hb : ∀ W', EvS K mg W' ps ro (tb W') m) (hh : ∀ a cls d, EvS K mg W ps ro (ts a cls d) mh) : EvS K mg W ps ro (fun D σ H => tb (wOnly K c ts W D) D σ H) (tryM1 xs m mh) := fun B env σ H F D S h => by
  refine hb _ B env σ H F D S ?_
  unfold tryM1 at h
  cases em : m env with
  | nx e => rw [em] at h; exact h
  | bk e => rw [em] at h; exact h
  | ct e => rw [em] at h; exact h
  | rt d e => rw [em] at h; exact h
  | no => rw [em] at h; exact h
  | ex x e =>
    obtain ⟨x, f⟩ := x
    rw [em] at h
    dsimp only at h
    by_cases hx : x ∈ xs
    · rw [if_pos hx] at h
      obtain ⟨C, g1, g2, g3⟩ := T.at_ x hx
      intro cls dd σ1 H1 F1 S1 N1 k1 xx
      obtain ⟨x1, x2⟩ := xx
      dsimp only at x1
      rw [g1] at x1
      cases x1
      exact ⟨true, g3, fun _ a na => hh a _ _ B e σ1 H1 F1 D S1 (h.mono (fun _ _ n => N1.trans n fun a m => m) k1), fun z => nomatch z⟩
    · rw [if_neg hx] at h
      exact h.elim
end
end MM

set_option Elab.async false
set_option linter.all false
set_option maxRecDepth 100000
set_option maxHeartbeats 8000000
noncomputable section
namespace MM
section
open PySem PySem.Spec PySem.Calls PyProof.Rows PySem.W
variable {prog : Program} {w : World} {A : Around} {E : Value → Shared → Prop} {s : Shared} {K : Frag} {x D : Addr} {ox : Obj} {od : Option Obj}
/-! ### isinstance of an exception that holds fields -/
end
open PySem PySem.Spec PyProof.Rows L2
def lookX : List (Str × List Str) → Str → Option (List Str)
  | [], _ => none
  | (y, ys) :: t, x => if x = y then some ys else lookX t x
def XTs (K : PySem.W.Frag) (tb : List (Str × List Str)) : Prop := ∀ x ys, lookX tb x = some ys → XT K x ys
theorem XTs.nil {K : PySem.W.Frag} : XTs K [] := fun _ _ h => by cases h
theorem XTs.cons {K : PySem.W.Frag} {tb : List (Str × List Str)} {x : Str} {ys : List Str} (h : XT K x ys) (t : XTs K tb) : XTs K ((x, ys) :: tb) := fun y zs e => by
  unfold lookX at e
  split at e
  · rename_i hy
    cases e
    rw [hy]
    exact h
  · exact t y zs e
section
variable {K : PySem.W.Frag} {tb : List (Str × List Str)}
end
/-! ### the field of a kept exception -/
def FX (K : PySem.W.Frag) (f : Str) (xs : List Str) : Prop := ∀ x ∈ xs, ∀ C, PySem.W.nsIn K mainGlobals x = some (some (.ref C)) → XfC K C ∧ PySem.W.findIn K (.ref C) f = some none
theorem FX.nil {K : PySem.W.Frag} {f : Str} : FX K f [] := fun _ h => nomatch h
theorem FX.cons {K : PySem.W.Frag} {mg : Str → Option Value} {f x qual : Str} {st : Stmt} {xs : List Str} (T : IniT K mg x f st qual) (Z : XfC K T.C) (h : FX K f xs) : FX K f (x :: xs) := fun y m C hC => by
  rcases List.mem_cons.mp m with e | m
  · subst e
    have := T.nsx
    rw [hC] at this
    cases this
    exact ⟨Z, T.no⟩
  · exact h y m C hC
def xatM (xs : List Str) (f : Str) (m : M D) : M D := fun env => match m env with
  | .ok (.xn x g i) e => if x ∈ xs ∧ g = f then .ok (.int i) e else .no
  | .ex e e2 => .ex e e2
  | _ => .no
@[simp] theorem xatM_ap {xs : List Str} {f : Str} {m : M D} {env : Env} : xatM xs f m env = match m env with
  | .ok (.xn x g i) e => if x ∈ xs ∧ g = f then .ok (.int i) e else .no
  | .ex e e2 => .ex e e2
  | _ => .no := rfl
section
variable {K : PySem.W.Frag} {mg : Str → Option Value} {W : WX} {p : Bool} {xs : List Str} {f : Str} {te : TE} {m : M D}
end
/-! ### try .. except M as e: c = e, of exceptions that hold a field -/
theorem Takers.nil {K : PySem.W.Frag} {mg : Str → Option Value} {c : Value} : Takers K mg c [] := ⟨fun _ h => nomatch h⟩
theorem Takers.cons {K : PySem.W.Frag} {mg : Str → Option Value} {c : Value} {x : Str} {xs : List Str} {C : Addr} (h1 : mg x = some (.ref C)) (h2 : PySem.W.nsIn K mainGlobals x = some (some (.ref C))) (h3 : PySem.W.exmOne K (.ref C) c = some true) (t : Takers K mg c xs) : Takers K mg c (x :: xs) where
  at_ := fun y m => by
    rcases List.mem_cons.mp m with e | m
    · rw [e]
      exact ⟨C, h1, h2, h3⟩
    · exact t.at_ y m
section
variable {K : PySem.W.Frag} {mg : Str → Option Value} {W : WX} {ps : List Nat} {ro : Bool} {i j : Nat} {xs : List Str} {m : MS} {tb : WX → TS} {c : Value}
end
/-! ### X(e).f -/
def mkatM (x f : Str) (m : M D) : M D := fun env => match m env with
  | .ok (.int i) e => .ok (.int i) e
  | .ex e e2 => .ex e e2
  | _ => .no
@[simp] theorem mkatM_ap {x f : Str} {m : M D} {env : Env} : mkatM x f m env = match m env with
  | .ok (.int i) e => .ok (.int i) e
  | .ex e e2 => .ex e e2
  | _ => .no := rfl
section
variable {K : PySem.W.Frag} {mg : Str → Option Value} {W : WX} {x f qual : Str} {st : Stmt} {te : TE} {m : M D}
end
end MM

set_option Elab.async false
set_option linter.all false
set_option maxRecDepth 100000
set_option maxHeartbeats 8000000
noncomputable section
namespace MM
open PySem PySem.Spec PyProof.Rows L2

/-! ### tuple(range(a, b)) -/
def tupRg2F : List D → Option D
  | [.int a, .int n] => haveI : Decidable (RgOk a n) := Classical.propDecidable _; if RgOk a n then some (.tup (rangeL a (n - a).toNat)) else none
  | _ => none
def rTupRg2 : List V → Hp → VK → Prop := fun vs H Q => match vs with
  | [x, y] => ∃ i j, x = .int i ∧ y = .int j ∧ (RgOk i j ∧ ∀ q, H q = none → Q (.ref q) (upd H q (.tup (rgV i j))))
  | _ => False
section
variable {K : PySem.W.Frag}
theorem n_tupRg2 : OpN K rTupRg2 tupRg2F := fun Z H ds vs Q d ez R ef q ql qt => by
  unfold tupRg2F at ef
  split at ef
  · rename_i a n
    obtain ⟨x, y, rfl, rx, ry⟩ := R.two_inv
    cases rx
    cases ry
    split at ef
    · rename_i hb
      cases ef
      exact ⟨a, n, rfl, rfl, hb, fun p hp => qt _ p _ rfl hp (repL_rg (K := K) (Z := Z) a (n - a).toNat)⟩
    · cases ef
  · cases ef
end
/-! ### "..".join(a list of texts) -/
def strsOf : List D → Option (List Str)
  | [] => some []
  | .str x :: ds => match strsOf ds with
    | some ys => some (x :: ys)
    | none => none
  | _ :: _ => none
theorem strsOf_rep {K : PySem.W.Frag} {H : Hp} : ∀ {ds : List D} {vs : List V} {ys : List Str}, RepL K H ds vs → strsOf ds = some ys → vs = ys.map V.str
  | [], _, ys, .nil, e => by
    cases e
    rfl
  | d :: ds, v :: vs, ys, .cons r t, e => by
    unfold strsOf at e
    split at e
    · rename_i h
      cases h
    · rename_i x ds' h
      cases h
      split at e
      · rename_i zs ez
        cases e
        cases r
        rw [List.map_cons, strsOf_rep t ez]
      · cases e
    · cases e
open Classical in
def joinM (a : Str) (m : M D) : M D := fun env => match m env with
  | .ok (.lst ds) e => match strsOf ds with
    | some ys => if (ys.map (·.length)).sum + ys.length * a.length ≤ 16777216 then .ok (.str (Txt.join a ys)) e else .no
    | none => .no
  | .ex e e2 => .ex e e2
  | _ => .no
open Classical in
@[simp] theorem joinM_ap {a : Str} {m : M D} {env : Env} : joinM a m env = match m env with
  | .ok (.lst ds) e => match strsOf ds with
    | some ys => if (ys.map (·.length)).sum + ys.length * a.length ≤ 16777216 then .ok (.str (Txt.join a ys)) e else .no
    | none => .no
  | .ex e e2 => .ex e e2
  | _ => .no := rfl
section
variable {K : PySem.W.Frag} {mg : Str → Option Value} {W : WX} {p : Bool} {te : TE} {m : M D} {a : Str}
theorem ev_join (h1 : EvE K mg W p te m) : EvE K mg W p (tM1 (fun x xs H Q => ∃ a p, ∃ ys : List Str, x = .str a ∧ xs = [.ref p] ∧ (SqL K H p (ys.map V.str) ∨ SqT K H p (ys.map V.str)) ∧
      (ys.map (·.length)).sum + ys.length * a.length ≤ 16777216 ∧ Q (.str (Txt.join a ys)) H) (tC (.str a)) te) (joinM a m) := fun B env σ H F Q S h => by
  unfold joinM at h
  refine ⟨⟨a, rfl⟩, h1 B env σ H F _ S ?_⟩
  cases em : m env with
  | ex e e2 => rw [em] at h; exact h
  | no => rw [em] at h; exact h.elim
  | ok d e =>
    rw [em] at h
    intro v H1 F1 Fd S1 N1 P1
    cases d with
    | lst ds =>
      dsimp only at h
      cases es : strsOf ds with
      | none => rw [es] at h; exact h.elim
      | some ys =>
        rw [es] at h
        dsimp only at h
        by_cases hz : (ys.map (·.length)).sum + ys.length * a.length ≤ 16777216
        · rw [if_pos hz] at h
          have S2 := S1.sta
          have rr : Rep K H1 (.lst ds) v := by
            cases S1.repH with
            | cons r _ => exact r
          cases rr with
          | lst hh rl =>
            have ev := strsOf_rep rl es
            subst ev
            exact ⟨a, _, ys, rfl, rfl, .inl (.of hh), hz, h (.str _) H1 F1 [] (S2.rep (.cons (.str _) .nil)) (by rw [List.append_nil]; exact N1.weak fun a m => List.mem_append_left _ m) P1⟩
        · rw [if_neg hz] at h
          exact h.elim
    | _ => exact h.elim
end
end MM

set_option Elab.async false
set_option linter.all false
set_option maxRecDepth 100000
set_option maxHeartbeats 8000000
noncomputable section
namespace MM
open PySem PySem.Spec PyProof.Rows L2

/-! ### a list at the end of a path into a wholly owned thing -/
def lenD : D → Nat
  | .lst ds => ds.length
  | .tup ds => ds.length
  | _ => 0
def chD : D → Nat → Option D
  | .lst ds, n => ds[n]?
  | .tup ds, n => ds[n]?
  | _, _ => none
/-- the cells that lead there -/
def Chain (H : Hp) : D → V → List Nat → Addr → Prop
  | _, v, [], l => v = .ref l
  | d, v, n :: p, l => ∃ (a : Addr) (vs : List V) (u : V) (d1 : D), v = .ref a ∧ (H a = some (.lst vs) ∨ H a = some (.tup vs)) ∧ vs.length = lenD d ∧ vs[n]? = some u ∧ chD d n = some d1 ∧ Chain H d1 u p l
theorem Chain.mono {H H' : Hp} : ∀ {p : List Nat} {d : D} {v : V} {l : Addr}, Chain H d v p l → (∀ a o, H a = some o → H' a = some o) → Chain H' d v p l
  | [], _, _, _, h, _ => h
  | n :: p, _, _, _, ⟨a, vs, u, d1, e, h, hl, hu, hd, c⟩, k => ⟨a, vs, u, d1, e, h.imp (k _ _) (k _ _), hl, hu, hd, c.mono k⟩
theorem Chain.inj {H : Hp} : ∀ {p : List Nat} {d : D} {v : V} {l l' : Addr}, Chain H d v p l → Chain H d v p l' → l = l'
  | [], _, _, _, _, h, h' => by
    have e := h.symm.trans h'
    exact V.ref.inj e
  | n :: p, _, _, _, _, ⟨a, vs, u, d1, e, h, _, hu, hd, c⟩, ⟨a', vs', u', d1', e', h', _, hu', hd', c'⟩ => by
    subst e
    cases e'
    have ev : vs = vs' := by
      rcases h with h | h <;> rcases h' with h' | h' <;> (rw [h] at h'; cases h') <;> rfl
    subst ev
    rw [hu] at hu'
    cases hu'
    rw [hd] at hd'
    cases hd'
    exact c.inj c'
section
variable {K : PySem.W.Frag}
variable {B : Addr → Prop} {env : Env} {σ : St} {H : Hp} {F : List Addr} {i : Nat} {d : D} {p : List Nat} {es : List D}
end
/-! ### x[a][b][c] = v, x wholly owned, the indices read alone -/
section
variable {K : PySem.W.Frag} {mg : Str → Option Value} {W : WX} {ps : List Nat} {ro : Bool} {q : Bool} {te ta tb tc : TE} {mv ma mb mc : M D} {i : Nat}
end
end MM

set_option Elab.async false
set_option linter.all false
set_option maxRecDepth 100000
set_option maxHeartbeats 8000000
noncomputable section
namespace MM
open PySem PySem.Spec PyProof.Rows L2

/-! ### repr of a list of any things, dicts at any depth -/
section
variable {prog : Program} {w : World} {h₀ : Heap}
end
/-! told things as data -/
section
variable {X : Cx} {pins : List (Addr × Obj)} {σ : St} {H : Hp} {s : Shared}
end
/-! ### one letter, repeated -/
end MM

set_option Elab.async false
set_option linter.all false
set_option maxRecDepth 100000
set_option maxHeartbeats 4000000
noncomputable section
namespace MM
open PySem PySem.Spec PyProof.Rows L2

/-! ### tuples of which it is known that they have no dict: made -/
section
variable {K : PySem.W.Frag} {mg : Str → Option Value} {W : WX} {p q : Bool} {B : Addr → Prop} {env : Env} {σ : St} {H : Hp} {F : List Addr} {ds : List D} {vs : List V} {pp : Addr} {o : Obj} {tA : TA} {ms : M (List D)} {t to : TE} {m : M D}
/-- an answer that stands, or a new tuple -/
def OpZ (K : PySem.W.Frag) (r : List V → Hp → VK → Prop) (f : List D → Option D) : Prop :=
  ∀ Z H ds vs (Q : VK) d, Ex Z H → RepL K Z ds vs → f ds = some d → (∀ v, Rep K Z d v → Exl d [] → Q v H) →
    (∀ es p (o : Obj) us, d = .tz es → H p = none → o.dict = none → RepL K Z es us → Q (.ref p) (upd H p (.frz o (.tup us)))) → r vs H Q
/-! tuple(xs) -/
def rTupZ (K : PySem.W.Frag) : List V → Hp → VK → Prop := fun xs H Q => ∃ p ys, xs = [.ref p] ∧ ((SqL K H p ys ∧ ∀ l (o : Obj), H l = none → o.dict = none → Q (.ref l) (upd H l (.frz o (.tup ys)))) ∨ (SqT K H p ys ∧ Q (.ref p) H))
def tupleZF : List D → Option D
  | [.lst ds] => some (.tz ds)
  | [.tz ds] => some (.tz ds)
  | _ => none
theorem z_tuple : OpZ K (rTupZ K) tupleZF := fun Z H ds vs Q d ez R ef q qz => by
  unfold tupleZF at ef
  split at ef
  · obtain ⟨x, rfl, rx⟩ := R.one_inv
    cases ef
    cases rx with
    | lst h r => exact ⟨_, _, rfl, .inl ⟨.of (ez _ _ h), fun l o hl hd => qz _ l o _ rfl hl hd r⟩⟩
  · obtain ⟨x, rfl, rx⟩ := R.one_inv
    cases ef
    cases rx with
    | tz h d r => exact ⟨_, _, rfl, .inr ⟨.inl (.inr ⟨_, ez _ _ h⟩), q _ (.tz h d r) trivial⟩⟩
  · cases ef
/-! tuple(range(n)) -/
/-! a display -/
end
/-! ### methods: t.index(x), t.count(x) -/
section
variable {X : Cx} {K : PySem.W.Frag} {mg : Str → Option Value} {W : WX} {p q : Bool} {to : TE} {m : M D} {tA : TA} {ms : M (List D)}
def bmZM (f : List D → Option D) (m : M D) (ms : M (List D)) : M D := fun env => match m env with
  | .ok (.tz ds) e1 => match ms e1 with
    | .ok as e2 => match f (.tz ds :: as) with
      | some d => .ok d e2
      | none => .no
    | .ex e e2 => .ex e e2
    | .no => .no
  | .ok _ _ => .no
  | .ex e e2 => .ex e e2
  | .no => .no
@[simp] theorem bmZM_ap {f : List D → Option D} {m : M D} {ms : M (List D)} {env : Env} : bmZM f m ms env = match m env with
  | .ok (.tz ds) e1 => (match ms e1 with
    | .ok as e2 => (match f (.tz ds :: as) with
      | some d => .ok d e2
      | none => .no)
    | .ex e e2 => .ex e e2
    | .no => .no)
  | .ok _ _ => .no
  | .ex e e2 => .ex e e2
  | .no => .no := id rfl
end
/-! ### evaluation -/
@[simp] theorem itemsD_tz {ds : List D} : itemsD (.tz ds) = some ds := rfl
/-- a tuple, known to have no dict or not -/
def IsTp (x : D) (ds : List D) : Prop := x = .tup ds ∨ x = .tz ds
theorem IsTp.len {x : D} {ds : List D} (h : IsTp x ds) : lenF [x] = some (.int ds.length) := by rcases h with rfl | rfl <;> rfl
theorem IsTp.imm {x : D} {ds : List D} (h : IsTp x ds) (k : immL ds = true) : imm x = true := by rcases h with rfl | rfl <;> simp [MM.imm, k]
theorem IsTp.list {x : D} {ds : List D} (h : IsTp x ds) : listF [x] = some (.lst ds) := by rcases h with rfl | rfl <;> rfl
/-! ### tuples of numbers -/
end MM

set_option Elab.async false
set_option linter.all false
set_option maxRecDepth 100000
set_option maxHeartbeats 4000000
noncomputable section
namespace MM
open PySem PySem.Spec PyProof.Rows L2

/-! ### texts: a method with one argument -/
section
variable {K : PySem.W.Frag} {mg : Str → Option Value} {W : WX} {p q : Bool} {te to : TE} {mo me m : M D} {Z : Hp}
def OpStr (K : PySem.W.Frag) (r : V → List V → Hp → VK → Prop) (f : Str → D → Option D) : Prop :=
  ∀ Z H z d v (Q : VK) y, Ex Z H → Rep K Z d v → f z d = some y → (∀ w, Rep K Z y w → Exl y [] → Q w H) → (∀ es p us, y = .lst es → H p = none → RepL K Z es us → Q (.ref p) (upd H p (.lst us))) → r (.str z) [v] H Q
def strM (f : Str → D → Option D) (mo me : M D) : M D := fun env => match mo env with
  | .ok d e1 => match d with
    | .str z => match me e1 with
      | .ok d2 e2 => match f z d2 with
        | some y => .ok y e2
        | none => .no
      | .ex x e2 => .ex x e2
      | .no => .no
    | _ => .no
  | .ex x e1 => .ex x e1
  | .no => .no
theorem strM_ap {f : Str → D → Option D} {mo me : M D} {env : Env} : strM f mo me env = match mo env with
  | .ok d e1 => match d with
    | .str z => match me e1 with
      | .ok d2 e2 => match f z d2 with
        | some y => .ok y e2
        | none => .no
      | .ex x e2 => .ex x e2
      | .no => .no
    | _ => .no
  | .ex x e1 => .ex x e1
  | .no => .no := id rfl
theorem en_str {r : V → List V → Hp → VK → Prop} {f : Str → D → Option D} (hr : OpStr K r f) (h1 : EvE K mg W p to mo) (h2 : EvE K mg W q te me) : EvN K mg W (p && q) (tM1 r to te) (strM f mo me) := fun B env σ H F Q S h => by
  refine h1 B env σ H F _ S ?_
  unfold strM at h
  cases em : mo env with
  | ex e e2 => rw [em] at h; exact h
  | no => rw [em] at h; exact h
  | ok d e1 =>
    rw [em] at h
    have hd0 : ∃ z, d = .str z := by
      cases d <;> first | exact ⟨_, rfl⟩ | exact h.elim
    obtain ⟨z, rfl⟩ := hd0
    dsimp only at h
    intro v H1 F1 Fd S1 N1 P1
    obtain ⟨S1', r1⟩ := S1.freeze
    obtain ⟨_, e', rx⟩ := r1.one_inv
    cases e'
    cases rx
    refine ⟨⟨z, rfl⟩, ?_⟩
    have N1' : Nxt H F H1 F1 := N1.weak fun a m => List.mem_append_left _ m
    refine h2 B e1 σ H1 F1 _ S1' ?_
    cases em2 : me e1 with
    | ex e e2 => rw [em2] at h; exact ExP.mono h (fun H' F' n => N1'.trans n fun a m => m) fun b z => z
    | no => rw [em2] at h; exact h
    | ok d2 e2 =>
      rw [em2] at h
      dsimp only at h
      intro v2 H2 F2 Fd2 S2 N2 P2
      obtain ⟨S2', r2⟩ := S2.freeze
      obtain ⟨_, e', rv⟩ := r2.one_inv
      cases e'
      have N2' : Nxt H F H2 F2 := N1'.trans (N2.weak fun a m => List.mem_append_left _ m) fun a m => m
      have pur : PureP (p && q) env e2 F F2 H H2 := fun hp => by
        simp only [Bool.and_eq_true] at hp
        obtain ⟨a1, a2, a3⟩ := P1 hp.1
        obtain ⟨b1, b2, b3⟩ := P2 hp.2
        exact ⟨b1.trans a1, b2.trans a2, a3.trans b3⟩
      cases ef : f z d2 with
      | none => rw [ef] at h; exact h.elim
      | some y =>
        rw [ef] at h
        dsimp only at h
        refine hr _ H2 z d2 _ Q y (fz_ex B H2 F2) rv ef (fun w rw x => h w H2 F2 [] (S2'.rep (.cons rw .nil)) x (by rw [List.append_nil]; exact N2') pur) fun es pp us e hp ru => ?_
        subst e
        exact h _ _ F2 [pp] ((S2'.rep ru).mkL hp) (List.cons_ne_nil _ _) (Nxt.mkL (by rw [List.append_nil]; exact N2') hp) fun hq => by
          obtain ⟨a1, a2, a3⟩ := pur hq
          exact ⟨a1, a2, a3.trans (ex_new hp)⟩
/-! sep.join(list of texts) -/
/-! text.split(sep) -/
open Classical in
def splitS (z : Str) : D → Option D
  | .str b => if (b.length == 0) = false ∧ z.length + 2 ≤ sizeLine then some (.lst ((Txt.split z b).map .str)) else none
  | _ => none
def rSplit : V → List V → Hp → VK → Prop := fun x xs H Q => ∃ a b, x = .str a ∧ xs = [.str b] ∧ (b.length == 0) = false ∧ a.length + 2 ≤ sizeLine ∧ rNewStrs (Txt.split a b) H Q
theorem repL_strs : ∀ ys : List Str, RepL K Z (ys.map D.str) (ys.map V.str)
  | [] => .nil
  | y :: ys => .cons (.str y) (repL_strs ys)
theorem o_split : OpStr K rSplit splitS := fun Z H z d v Q y ez rv ef _ ql => by
  unfold splitS at ef
  split at ef
  · rename_i b
    split at ef
    · rename_i hc
      cases ef
      cases rv
      exact ⟨z, b, rfl, rfl, hc.1, hc.2, fun p hp => ql _ p _ rfl hp (repL_strs _)⟩
    · cases ef
  · cases ef
end
/-! int(text) -/
open Classical in
def intSF : List D → Option D
  | [.str a] => match PySem.intText? a with
    | some n => if a.length ≤ 640 then some (.int n) else none
    | none => none
  | _ => none
theorem s_intS {K : PySem.W.Frag} : OpS K (fun xs H Q => ∃ a n, xs = [.str a] ∧ PySem.intText? a = some n ∧ a.length ≤ 640 ∧ Q (.int n) H) intSF := fun H ds vs Q d R ef q => by
  unfold intSF at ef
  split at ef
  · obtain ⟨x, rfl, rx⟩ := R.one_inv
    split at ef
    · rename_i n en
      split at ef
      · rename_i hc
        cases ef
        cases rx
        exact ⟨_, _, rfl, en, hc, q _ (.int _)⟩
      · cases ef
    · cases ef
  · cases ef
/-! one sign in a text -/
def inSgF : List D → Option D
  | [.str x, .str z] => match x.cps.toList with
    | [c] => some (.bl (decide (c ∈ z.cps.toList)))
    | _ => none
  | _ => none
theorem s_inSg {K : PySem.W.Frag} : OpS K (two fun x y H Q => ∃ (c : Nat) (z : Str), x = .str ⟨#[c]⟩ ∧ y = .str z ∧ Q (.bl (decide (c ∈ z.cps.toList))) H) inSgF := fun H ds vs Q d R ef q => by
  unfold inSgF at ef
  split at ef
  · rename_i x z
    obtain ⟨a, b, rfl, ra, rb⟩ := R.two_inv
    split at ef
    · rename_i c ec
      cases ef
      cases ra
      cases rb
      have ex : x = ⟨#[c]⟩ := by
        cases x with
        | mk cps =>
          have : cps = #[c] := by
            apply Array.ext'
            exact ec
          rw [this]
      subst ex
      exact ⟨c, z, rfl, rfl, q _ (.bl _)⟩
    · cases ef
  · cases ef
/-! the signs of a text -/
def sgD (x : Str) : List D := x.cps.toList.map fun c => .str ⟨#[c]⟩
def signsM (m : M D) : M (List D) := fun env => match m env with
  | .ok (.str x) e => .ok (sgD x) e
  | .ok _ _ => .no
  | .ex x e => .ex x e
  | .no => .no
theorem signsM_ap {m : M D} {env : Env} : signsM m env = match m env with
  | .ok (.str x) e => .ok (sgD x) e
  | .ok _ _ => .no
  | .ex x e => .ex x e
  | .no => .no := id rfl
section
variable {K : PySem.W.Frag} {mg : Str → Option Value} {W : WX} {p : Bool} {te : TE} {m : M D} {Z : Hp}
theorem feeds_str {x : Str} : Feeds K Z (Its x) (sgD x) := fun H i ez => by
  have hl : (sgD x).length = x.cps.size := by unfold sgD; rw [List.length_map, Array.length_toList]
  refine ⟨fun d hd => ?_, fun h => by rw [hl] at h; exact h⟩
  unfold sgD at hd
  rw [List.getElem?_map, Array.getElem?_toList] at hd
  cases ec : x.cps[i]? with
  | none => rw [ec] at hd; cases hd
  | some c =>
    rw [ec] at hd
    cases hd
    refine ⟨(Array.getElem?_eq_some_iff.mp ec).1, fun y H' ⟨e1, c', e2, e3⟩ => ?_⟩
    rw [ec] at e2
    cases e2
    exact .inl ⟨e1, by rw [e3]; exact .str _⟩
theorem ei_signs (h1 : EvE K mg W p te m) : EvI K mg W p (iStr te) (signsM m) := fun B env σ H F Q S h => by
  refine h1 B env σ H F _ S ?_
  unfold signsM at h
  cases em : m env with
  | ex e e2 => rw [em] at h; exact h
  | no => rw [em] at h; exact h
  | ok d e =>
    rw [em] at h
    have hd0 : ∃ z, d = .str z := by
      cases d <;> first | exact ⟨_, rfl⟩ | exact h.elim
    obtain ⟨z, rfl⟩ := hd0
    dsimp only at h
    intro v H1 F1 Fd S1 N1 P1
    obtain ⟨S1', r1⟩ := S1.freeze
    obtain ⟨_, e', rx⟩ := r1.one_inv
    cases e'
    cases rx
    exact ⟨z, rfl, h _ H1 F1 S1' feeds_str (N1.weak fun a m => List.mem_append_left _ m) P1⟩
end
/-! range(a, b, c) -/
open Classical in
def rangeCM (ms : M (List D)) : M (List D) := fun env => match ms env with
  | .ok [.int i, .int j, .int c] e => if RgC i j c (Builtin.Range.rangeSize i j c).toNat then .ok ((List.range (Builtin.Range.rangeSize i j c).toNat).map fun (k : Nat) => D.int (i + (k : Nat) * c)) e else .no
  | .ok _ _ => .no
  | .ex e e2 => .ex e e2
  | .no => .no
section
variable {K : PySem.W.Frag} {mg : Str → Option Value} {W : WX} {p : Bool} {tA : TA} {ms : M (List D)} {Z : Hp}
theorem ei_rangeC (h1 : EvR K mg W p tA ms) : EvI K mg W p (iRng3 tA) (rangeCM ms) := fun B env σ H F Q S h => by
  refine h1 B env σ H F _ S ?_
  unfold rangeCM at h
  cases em : ms env with
  | ok ds e =>
    rw [em] at h
    intro vs H' F' S' r N P
    split at h
    · rename_i xs env' eq
      split at eq
      · rename_i i j c e' eq2
        cases eq2
        cases r with
        | cons rx r =>
          obtain ⟨y, z, rfl, ry, rz⟩ := r.two_inv
          cases rx
          cases ry
          cases rz
          split at eq
          · rename_i hb
            cases eq
            exact ⟨i, j, c, _, rfl, hb, h _ H' F' S' feeds_rangeC N P⟩
          · cases eq
      · cases eq
      · cases eq
      · cases eq
    · rename_i eq
      split at eq
      · split at eq <;> cases eq
      · cases eq
      · rename_i eq2; cases eq2
      · cases eq
    · exact h.elim
  | ex e e2 => rw [em] at h; exact h
  | no => rw [em] at h; exact h
theorem rangeC_ok {i j c : Int} {n : Nat} {ms : M (List D)} {e e0 : Env} (hm : ms e = .ok [.int i, .int j, .int c] e0) (h : RgC i j c n) : rangeCM ms e = .ok ((List.range n).map fun (k : Nat) => D.int (i + (k : Nat) * c)) e0 := by
  have hn : (Builtin.Range.rangeSize i j c).toNat = n := by rw [h.2.2.2]; rfl
  unfold rangeCM
  rw [hm]
  dsimp only
  rw [hn]
  exact if_pos h
end
/-! text or b -/
open Classical in
def truS : D → Option Bool
  | .str z => if z.length ≤ sizeLine then some ((z.length : Int) != 0) else none
  | _ => none
def orSM (a b : M D) : M D := fun env => match a env with
  | .ok d e => match truS d with
    | some true => .ok d e
    | some false => b e
    | none => .no
  | .ex x e => .ex x e
  | .no => .no
theorem orSM_ap {a b : M D} {env : Env} : orSM a b env = match a env with
  | .ok d e => match truS d with
    | some true => .ok d e
    | some false => b e
    | none => .no
  | .ex x e => .ex x e
  | .no => .no := id rfl
section
variable {K : PySem.W.Frag} {mg : Str → Option Value} {W : WX} {p q : Bool} {ta tb : TE} {ma mb : M D} {H Z : Hp}
theorem truS_of {d : D} {v : V} {F : List Addr} {k : Bool} (ez : Ex Z H) (o : Own K H Z d v F) (h : truS d = some k) : TruV K v H k := by
  have r := o.rep ez
  unfold truS at h
  split at h
  · split at h
    · rename_i hz
      cases h
      cases r
      exact ⟨hz, rfl⟩
    · cases h
  · cases h
theorem ev_orS (h1 : EvE K mg W p ta ma) (h2 : EvE K mg W q tb mb) : EvE K mg W false (tOrT K ta tb) (orSM ma mb) := fun B env σ H F Q S h => by
  refine h1 B env σ H F _ S ?_
  unfold orSM at h
  cases em : ma env with
  | ex x e => rw [em] at h; exact h
  | no => rw [em] at h; exact h
  | ok d e =>
    rw [em] at h
    dsimp only at h
    intro v H1 F1 Fd S1 N1 _
    cases ht : truS d with
    | none => rw [ht] at h; exact h.elim
    | some k =>
      rw [ht] at h
      refine ⟨k, truS_of (fz_ex _ _ _) S1.own.one_own ht, ?_⟩
      cases k with
      | true =>
        rw [if_pos rfl]
        exact h v H1 F1 Fd S1 N1 nofun
      | false =>
        rw [if_neg Bool.false_ne_true]
        dsimp only at h
        refine h2 B e σ H1 F1 Q S1.sta ?_
        have N1' : Nxt H F H1 F1 := N1.weak fun a m => List.mem_append_left _ m
        cases em2 : mb e with
        | ex x e2 => rw [em2] at h; exact ExP.mono h (fun H' F' n => N1'.trans n fun a m => m) fun b z => z
        | no => rw [em2] at h; exact h
        | ok d2 e2 =>
          rw [em2] at h
          exact fun v2 H2 F2 Fd2 S2 N2 _ => h v2 H2 F2 Fd2 S2 (N1'.trans N2 fun a m => m) nofun
end
end MM

set_option Elab.async false
set_option linter.all false
set_option maxRecDepth 100000
set_option maxHeartbeats 4000000
noncomputable section
namespace MM
open PySem PySem.Spec PyProof.Rows L2
def fuel : Nat := 1000000
def m__law_pen : MS :=
  retM (lstM (consM (vrM 0) (consM (cM (.int 0)) (consM (cM (.int 0)) (nilM)))))
def f__law_pen : List D → RF := callF 1 1 m__law_pen
def m__law_draw_13 : MS :=
  seqM (asgF 5 (opM modF (consM (opM mulF (consM (opM addF (consM (opM addF (consM (opM modF (consM (vrM 4) (consM (cM (.int 2147483587)) (nilM)))) (consM (opM mulF (consM (cM (.int 39119)) (consM (vrM 3) nilM))) nilM))) (consM (cM (.int 17)) nilM))) (consM (cM (.int 48271)) nilM))) (consM (cM (.int 2147483647)) (nilM)))))
  (seqM (asgF 5 (opM modF (consM (opM addF (consM (opM addF (consM (opM mulF (consM (vrM 5) (consM (vrM 5) nilM))) (consM (opM mulF (consM (cM (.int 69623)) (consM (vrM 5) nilM))) nilM))) (consM (vrM 3) nilM))) (consM (cM (.int 2147483629)) (nilM)))))
  (retM (opM modF (consM (opM fdivF (consM (opM modF (consM (opM mulF (consM (vrM 5) (consM (opM addF (consM (opM modF (consM (vrM 5) (consM (cM (.int 65519)) (nilM)))) (consM (cM (.int 3)) nilM))) nilM))) (consM (cM (.int 2147483563)) (nilM)))) (consM (cM (.int 64)) (nilM)))) (consM (vrM 1) (nilM))))))
def m__law_draw_10 : MS :=
  seqM (ifS (andM (tstM (opM ltF (consM (vrM 3) (consM (opM lenF (consTM (ixT (rdM 0) (cM (.int 0))) (nilM))) (nilM))))) (tstM (opM geF (consM (opM absF (consM (vrM 4) (nilM))) (consM (opM powF (consM (cM (.int 10)) (consM (cM (.int 18)) (nilM)))) (nilM)))))) (seqM (setM 0 (opM fdivF (consM (opM absF (consM (vrM 4) (nilM))) (consM (vrM 1) (nilM)))) (cM (.int 2)))
  (retM (opM modF (consM (opM absF (consM (vrM 4) (nilM))) (consM (vrM 1) (nilM)))))) (nxM))
  (m__law_draw_13)
def m__law_draw_5 : MS :=
  seqM (asgF 3 (immM (ixT (rdM 0) (cM (.int 1)))))
  (seqM (setM 0 (opM addF (consM (vrM 3) (consM (cM (.int 1)) nilM))) (cM (.int 1)))
  (seqM (asgF 4 (cM (.int 11)))
  (seqM (ifS (tstM (opM gtF (consM (opM lenF (consTM (ixT (rdM 0) (cM (.int 0))) (nilM))) (consM (cM (.int 0)) (nilM))))) (asgF 4 (immM (ixT (ixT (rdM 0) (cM (.int 0))) (opM modF (consM (vrM 3) (consM (opM lenF (consTM (ixT (rdM 0) (cM (.int 0))) (nilM))) (nilM))))))) (nxM))
  (m__law_draw_10))))
def m__law_draw : MS :=
  seqM (ifS (tstM (opM gtF (consTM (ixT (rdM 0) (cM (.int 2))) (consM (cM (.int 0)) (nilM))))) (seqM (asgF 2 (opM modF (consTM (ixT (rdM 0) (cM (.int 2))) (consM (vrM 1) (nilM)))))
  (seqM (setM 0 (opM fdivF (consTM (ixT (rdM 0) (cM (.int 2))) (consM (vrM 1) (nilM)))) (cM (.int 2)))
  (retM (vrM 2)))) (nxM))
  (m__law_draw_5)
def p__law_draw : D → List D → RP := callP 2 6 m__law_draw
def m__law_order : MS :=
  seqM (asgO 2 (opM lstRg1F (consM (vrM 1) (nilM))))
  (retM (lcM [3] (range1M (consM (vrM 1) (nilM))) (bdName 3) (yesM) (mutM 2 popAtF (consM (clP 0 p__law_draw (consM (opM lenF (consTM (rdM 2) (nilM))) (nilM))) (nilM)))))
def p__law_order : D → List D → RP := callP 2 4 m__law_order
def m__law_turn_8 : MS :=
  setM 4 (immM (ixT (rdM 3) (vrM 5))) (immM (ixT (rdM 3) (opM subF (consM (vrM 5) (consM (cM (.int 1)) (nilM))))))
def m__law_turn_11 : MS :=
  seqM (setM 4 (immM (ixT (rdM 3) (vrM 5))) (immM (ixT (rdM 3) (opM subF (consM (vrM 5) (consM (cM (.int 1)) (nilM)))))))
  (setM 4 (immM (ixT (rdM 3) (opM subF (consM (vrM 5) (consM (cM (.int 1)) (nilM)))))) (immM (ixT (rdM 3) (vrM 5))))
def m__law_turn_14 : MS :=
  frzM 4 (retM (opM tupleF (consM (vrM 4) (nilM))))
def m__law_turn_6 : MS :=
  seqM (ifS (tstM (opM eqF (consM (vrM 2) (consM (cM (.int 1)) (nilM))))) (loopM (range1M (consM (vrM 1) (nilM))) (bdName 5) (m__law_turn_8)) (ifS (tstM (opM eqF (consM (vrM 2) (consM (cM (.int 2)) (nilM))))) (loopM (rangeCM (consM (cM (.int 1)) (consM (vrM 1) (consM (cM (.int 2)) (nilM))))) (bdName 5) (m__law_turn_11)) (asgO 4 (mvM 3))))
  (m__law_turn_14)
def m__law_turn : MS :=
  seqM (asgF 2 (clP 0 p__law_draw (consM (cM (.int 5)) (nilM))))
  (seqM (asgO 3 (clP 0 p__law_order (consM (vrM 1) (nilM))))
  (seqM (asgO 4 (opM lstRg1F (consM (vrM 1) (nilM))))
  (seqM (ifS (tstM (opM eqF (consM (vrM 2) (consM (cM (.int 0)) (nilM))))) (frzM 4 (retM (opM tupleF (consM (vrM 4) (nilM))))) (nxM))
  (m__law_turn_6))))
def p__law_turn : D → List D → RP := callP 2 6 m__law_turn
def m__law_text_7 : MS :=
  seqM (setM 2 (cM (.bl true)) (vrM 5))
  (seqM (dropM (mutM 4 appendF (consM (opM strAF (consM (vrM 5) (nilM))) (nilM))))
  (asgF 5 (opM ixF (consM (vrM 0) (consM (vrM 5) nilM)))))
def m__law_text_10 : MS :=
  ifS (tstM (opM gtF (consM (opM lenF (consTM (rdM 4) (nilM))) (consM (cM (.int 1)) (nilM))))) (frzM 4 (dropM (mutM 1 appendF (consM (opM addF (consM (opM addF (consM (cM (.str "(")) (consM (joinM " " (vrM 4)) nilM))) (consM (cM (.str ")")) nilM))) (nilM))))) (nxM)
def m__law_text_4 : MS :=
  seqM (asgO 4 (lstM (nilM)))
  (seqM (asgF 5 (vrM 3))
  (seqM (whM (tstM (opM notInF (consM (vrM 5) (consTM (rdM 2) (nilM))))) (m__law_text_7) fuel)
  (m__law_text_10)))
def m__law_text_12 : MS :=
  frzM 1 (retM (imM (orSM (joinM " " (vrM 1)) (cM (.str "()")))))
def m__law_text : MS :=
  seqM (asgO 1 (lstM (nilM)))
  (seqM (asgO 2 (cM (.dK [])))
  (seqM (loopM (range1M (consM (opM lenF (consM (vrM 0) (nilM))) (nilM))) (bdName 3) (m__law_text_4))
  (m__law_text_12)))
def f__law_text : List D → RF := callF 1 6 m__law_text
def m_rings_7 : MS :=
  dropM (mutM 4 appendF (consM (opM ixF (consM (vrM 0) (consM (immM (ixT (rdM 4) (opM negF (consM (cM (.int 1)) (nilM))))) nilM))) (nilM)))
def m_rings_8 : MS :=
  seqM (frzM 4 (dropM (mutM 2 extendF (consM (vrM 4) (nilM)))))
  (frzM 4 (dropM (mutM 1 appendF (consM (vrM 4) (nilM)))))
def m_rings_4 : MS :=
  ifS (tstM (opM notInF (consM (vrM 3) (consTM (rdM 2) (nilM))))) (seqM (asgO 4 (lstM (consM (vrM 3) (nilM))))
  (seqM (whM (tstM (opM neF (consM (opM ixF (consM (vrM 0) (consM (immM (ixT (rdM 4) (opM negF (consM (cM (.int 1)) (nilM))))) nilM))) (consM (vrM 3) (nilM))))) (m_rings_7) fuel)
  (m_rings_8))) (nxM)
def m_rings : MS :=
  seqM (asgO 1 (lstM (nilM)))
  (seqM (asgO 2 (lstM (nilM)))
  (seqM (loopM (range1M (consM (opM lenF (consM (vrM 0) (nilM))) (nilM))) (bdName 3) (m_rings_4))
  (retM (mvM 1))))
def f_rings : List D → RF := callF 1 5 m_rings
def m_show_numbers : MS :=
  retM (joinM " " (lcM [1] (itemsM (vrM 0)) (bdName 1) (yesM) (opM strAF (consM (vrM 1) (nilM)))))
def f_show_numbers : List D → RF := callF 1 2 m_show_numbers
def m_show_turn : MS :=
  seqM (asgF 1 (lcM [2] (itemsM (clF f_rings (consM (vrM 0) (nilM)))) (bdName 2) (tstM (opM gtF (consM (opM lenF (consM (vrM 2) (nilM))) (consM (cM (.int 1)) (nilM))))) (opM addF (consM (opM addF (consM (cM (.str "(")) (consM (clF f_show_numbers (consM (vrM 2) (nilM))) nilM))) (consM (cM (.str ")")) nilM)))))
  (retM (imM (orSM (joinM " " (vrM 1)) (cM (.str "()")))))
def f_show_turn : List D → RF := callF 1 3 m_show_turn
def m_is_whole : MS :=
  retM (imM (andVM (opM (isiF .int) (consM (vrM 0) (consM (cM (.opq (.ty "int"))) (nilM)))) (notVM (opM (isiF .bool) (consM (vrM 0) (consM (cM (.opq (.ty "bool"))) (nilM)))))))
def f_is_whole : List D → RF := callF 1 1 m_is_whole
def m_turn_of_12 : MS :=
  dropM (mutM 3 appendF (consM (vrM 6) (nilM)))
def m_turn_of_10 : MS :=
  seqM (ifS (orM (notM (tstM (clF f_is_whole (consM (vrM 6) (nilM))))) (orM (notM (tstM (chM (fun i j => decide (i ≤ j)) (fun i j => decide (i < j)) (consM (cM (.int 0)) (consM (vrM 6) (nilM))) (vrM 0)))) (tstM (opM inF (consM (vrM 6) (consTM (rdM 3) (nilM))))))) (raiseIM "NoTurn" "at" (vrM 4)) (nxM))
  (m_turn_of_12)
def m_turn_of_14 : MS :=
  setM 2 (opM ixF (consM (vrM 5) (consM (vrM 7) nilM))) (opM ixF (consM (vrM 5) (consM (opM subF (consM (vrM 7) (consM (cM (.int 1)) (nilM)))) nilM)))
def m_turn_of_13 : MS :=
  loopM (range1M (consM (opM lenF (consM (vrM 5) (nilM))) (nilM))) (bdName 7) (m_turn_of_14)
def m_turn_of_9 : MS :=
  seqM (loopM (itemsM (vrM 5)) (bdName 6) (m_turn_of_10))
  (m_turn_of_13)
def m_turn_of_6 : MS :=
  seqM (asgF 5 (opM ixF (consM (vrM 1) (consM (vrM 4) nilM))))
  (seqM (ifS (tstM (opM eqF (consM (vrM 5) (consM (lstM (nilM)) (nilM))))) (raiseIM "NoTurn" "at" (vrM 4)) (nxM))
  (m_turn_of_9))
def m_turn_of_15 : MS :=
  frzM 2 (retM (opM tupleF (consM (vrM 2) (nilM))))
def m_turn_of_3 : MS :=
  seqM (asgO 2 (opM lstRg1F (consM (vrM 0) (nilM))))
  (seqM (asgO 3 (lstM (nilM)))
  (seqM (loopM (range1M (consM (opM lenF (consM (vrM 1) (nilM))) (nilM))) (bdName 4) (m_turn_of_6))
  (m_turn_of_15)))
def m_turn_of : MS :=
  seqM (ifS (notM (tstM (chM (fun i j => decide (i ≤ j)) (fun i j => decide (i ≤ j)) (consM (cM (.int 1)) (consM (vrM 0) (nilM))) (cM (.int 7))))) (raiseIM "NoTurn" "at" (opM negF (consM (cM (.int 1)) (nilM)))) (nxM))
  (m_turn_of_3)
def f_turn_of : List D → RF := callF 2 8 m_turn_of
def m_is_number_3 : MS :=
  retM (imM (orVM (opM eqF (consM (vrM 0) (consM (cM (.str "0")) (nilM)))) (opM neF (consM (opM ixF (consM (vrM 0) (consM (cM (.int 0)) nilM))) (consM (cM (.str "0")) (nilM))))))
def m_is_number : MS :=
  seqM (ifS (orM (notM (tstM (chM (fun i j => decide (i ≤ j)) (fun i j => decide (i ≤ j)) (consM (cM (.int 1)) (consM (opM lenF (consM (vrM 0) (nilM))) (nilM))) (cM (.int 30))))) (notM (tstM (opM allF (consM (lcM [1] (signsM (vrM 0)) (bdName 1) (yesM) (opM inSgF (consM (vrM 1) (consM (cM (.str "0123456789")) (nilM))))) (nilM)))))) (retM (imM (cM (.bl false)))) (nxM))
  (m_is_number_3)
def f_is_number : List D → RF := callF 1 2 m_is_number
def m_rings_in_10 : MS :=
  dropM (mutM 1 appendF (consM (lcM [4] (itemsM (vrM 3)) (bdName 4) (yesM) (opM intSF (consM (vrM 4) (nilM)))) (nilM)))
def m_rings_in_7 : MS :=
  seqM (asgF 3 (strM splitS (vrM 2) (cM (.str " "))))
  (seqM (ifS (notM (tstM (opM allF (consM (lcM [4] (itemsM (vrM 3)) (bdName 4) (yesM) (clF f_is_number (consM (vrM 4) (nilM)))) (nilM))))) ((fun _ => .no)) (nxM))
  (m_rings_in_10))
def m_rings_in_5 : MS :=
  seqM (asgO 1 (lstM (nilM)))
  (seqM (loopM (itemsM (strM splitS (slM (vrM 0) (partM (cM (.int 1))) (partM (opM negF (consM (cM (.int 1)) (nilM))))) (cM (.str ") (")))) (bdName 2) (m_rings_in_7))
  (retM (mvM 1)))
def m_rings_in_3 : MS :=
  seqM (ifS (orM (tstM (opM neF (consM (slM (vrM 0) (noM) (partM (cM (.int 1)))) (consM (cM (.str "(")) (nilM))))) (tstM (opM neF (consM (slM (vrM 0) (partM (opM negF (consM (cM (.int 1)) (nilM)))) (noM)) (consM (cM (.str ")")) (nilM)))))) ((fun _ => .no)) (nxM))
  (m_rings_in_5)
def m_rings_in : MS :=
  seqM (ifS (tstM (opM eqF (consM (vrM 0) (consM (cM (.str "()")) (nilM))))) (retM (lstM (nilM))) (nxM))
  (m_rings_in_3)
def f_rings_in : List D → RF := callF 1 5 m_rings_in
def m_read_turn_3 : MS :=
  seqM (tryM1 ["NoTurn"] (asgF 2 (clF f_turn_of (consM (vrM 0) (consM (clF f_rings_in (consM (vrM 1) (nilM))) (nilM))))) ((fun _ => .no)))
  (seqM (ifS (tstM (opM neF (consM (clF f_show_turn (consM (vrM 2) (nilM))) (consM (vrM 1) (nilM))))) ((fun _ => .no)) (nxM))
  (retM (vrM 2)))
def m_read_turn : MS :=
  seqM (ifS (notM (tstM (opM (isiF .str) (consM (vrM 1) (consM (cM (.opq (.ty "str"))) (nilM)))))) ((fun _ => .no)) (nxM))
  (m_read_turn_3)
def f_read_turn : List D → RF := callF 2 3 m_read_turn
def m_law_10 : MS :=
  ifS (orM (tstM (opM neF (consM (opM reprF (consM (clF f_read_turn (consM (cM (.int 7)) (consM (vrM 5) (nilM)))) (nilM))) (consM (opM reprF (consM (vrM 6) (nilM))) (nilM))))) (tstM (opM neF (consM (clF f_show_turn (consM (vrM 6) (nilM))) (consM (vrM 5) (nilM)))))) (retM (imM (cM (.bl false)))) (nxM)
def m_law_8 : MS :=
  seqM (ifS (orM (tstM (opM neF (consM (clF f_show_turn (consM (vrM 4) (nilM))) (consM (vrM 5) (nilM))))) (tstM (opM neF (consM (opM reprF (consM (clF f_read_turn (consM (vrM 3) (consM (vrM 5) (nilM)))) (nilM))) (consM (opM reprF (consM (vrM 4) (nilM))) (nilM)))))) (retM (imM (cM (.bl false)))) (nxM))
  (m_law_10)
def m_law_3 : MS :=
  seqM (asgF 3 (opM addF (consM (cM (.int 1)) (consM (clP 1 p__law_draw (consM (cM (.int 7)) (nilM))) nilM))))
  (seqM (asgF 4 (clP 1 p__law_turn (consM (vrM 3) (nilM))))
  (seqM (asgF 5 (clF f__law_text (consM (vrM 4) (nilM))))
  (seqM (asgF 6 (opM addF (consM (vrM 4) (consM (opM tupRg2F (consM (vrM 3) (consM (cM (.int 7)) (nilM)))) nilM))))
  (loopM (range1M (consM (cM (.int 2)) (nilM))) (bdName 7) (m_law_8)))))
def m_law_12 : MS :=
  retM (imM (cM (.bl true)))
def m_law : MS :=
  seqM (asgO 1 (clF f__law_pen (consM (vrM 0) (nilM))))
  (seqM (loopM (range1M (consM (cM (.int 12)) (nilM))) (bdName 2) (m_law_3))
  (m_law_12))
def f_law : List D → RF := callF 1 8 m_law
end MM

set_option Elab.async false
set_option linter.all false
set_option maxRecDepth 100000
set_option maxHeartbeats 4000000
noncomputable section
namespace MM
open PySem PySem.Spec PyProof.Rows L2

theorem lstRg1_ok {n : Nat} (h : n < 1000000) : lstRg1F [.int n] = some (lstN (List.range n)) := by
  have hr : RgOk 0 (n : Int) := by unfold RgOk; omega
  have e : lstRg1F [.int n] = some (.lst (rangeL 0 (n : Int).toNat)) := if_pos hr
  rw [e, Int.toNat_natCast, rangeL_ofN]
theorem lt_size {n : Nat} (h : n < 1000000) : n < sizeLine := by rw [sizeLine_eq]; omega
theorem appendF_ok {ds : List D} {d : D} (h : ds.length < 1000000) : appendF ds [d] = some (ds ++ [d], .non) := if_pos (lt_size h)
theorem seqIx {i n : Nat} (h : i < n) : seqIndex? (i : Int) n = some i := by
  unfold seqIndex?
  have h1 : ¬ (i : Int) < 0 := by omega
  have h2 : (i : Int) < n := by omega
  simp [h1, h2]
theorem erase_map (l : List Nat) (i : Nat) : (ofN l).eraseIdx i = ofN (l.eraseIdx i) := by
  induction l generalizing i with
  | nil => rfl
  | cons x l ih => cases i with
    | zero => rfl
    | succ i => simp [List.eraseIdx, ih]
theorem cons_erase {α : Type} : ∀ {l : List α} {i : Nat} (h : i < l.length), (l[i] :: l.eraseIdx i).Perm l
  | x :: l, 0, _ => .refl _
  | x :: l, i + 1, h => by
    have := cons_erase (l := l) (i := i) (Nat.lt_of_succ_lt_succ h)
    exact (List.Perm.swap _ _ _).trans (this.cons x)
theorem popAtF_ok {l : List Nat} {i : Nat} (h : i < l.length) (hl : l.length < 1000000) : popAtF (ofN l) [.int i] = some (ofN (l.eraseIdx i), .int (l[i] : Nat)) := by
  have e : seqIndex? (i : Int) (ofN l).length = some i := seqIx (by simpa using h)
  have hb : -(2 ^ 63) ≤ (i : Int) ∧ (i : Int) < 2 ^ 63 := by omega
  have e2 : (ofN l)[i]? = some (.int (l[i] : Nat)) := by rw [ofN_get, List.getElem?_eq_getElem h]; rfl
  unfold popAtF
  simp only [e, hb, e2, and_self, if_true]
  rw [erase_map]
theorem perm_pop {found left : List Nat} {i : Nat} (h : i < left.length) {R : List Nat} (p : (found ++ left).Perm R) : ((found ++ [left[i]]) ++ left.eraseIdx i).Perm R := by
  refine List.Perm.trans ?_ p
  rw [List.append_assoc]
  refine List.Perm.append_left _ ?_
  show (left[i] :: left.eraseIdx i).Perm left
  exact cons_erase h


/-! ### houses -/
def rowD (n : Nat) (f : Nat → Nat) : D := lstN ((List.range n).map f)
def rowsD (k n : Nat) (m : Nat → Nat → Nat) : List D := (List.range k).map fun a => rowD n (m a)
def dH (n : Nat) (m : Nat → Nat → Nat) : D := .lst (rowsD n n m)
@[simp] theorem rowsD_length {k n : Nat} {m : Nat → Nat → Nat} : (rowsD k n m).length = k := by simp [rowsD]
theorem rowsD_get {k n : Nat} {m : Nat → Nat → Nat} {a : Nat} (h : a < k) : (rowsD k n m)[a]? = some (rowD n (m a)) := by
  unfold rowsD
  rw [List.getElem?_map, List.getElem?_range h]
  rfl
@[simp] theorem len_house {n : Nat} {m : Nat → Nat → Nat} : lenF [dH n m] = some (.int n) := by
  unfold dH; rw [lenF_lst, rowsD_length]
@[simp] theorem items_house {n : Nat} {m : Nat → Nat → Nat} : itemsD (dH n m) = some (rowsD n n m) := rfl
theorem ix_lstN {l : List Nat} {k : Nat} (h : k < l.length) : ixF [lstN l, .int k] = some (.int (l.getD k 0 : Nat)) := by
  unfold lstN
  rw [ixF_lst (by omega) (by simp; omega), Int.toNat_natCast, ofN_get, List.getElem?_eq_getElem h, List.getD_eq_getElem?_getD, List.getElem?_eq_getElem h]
  rfl
/-! ### numbered anew -/
theorem ofN_set (l : List Nat) (i v : Nat) : (ofN l).set i (.int v) = ofN (l.set i v) := by
  unfold ofN
  rw [List.map_set]
theorem map_set_range (f : Nat → Nat) {n y v : Nat} : ((List.range n).map f).set y v = (List.range n).map fun b => if b = y then v else f b := by
  refine List.ext_getElem? fun i => ?_
  rw [List.getElem?_set]
  by_cases hi : i < n
  · rw [List.getElem?_map, List.getElem?_map, List.getElem?_range hi]
    by_cases e : y = i
    · subst e; simp [hi]
    · have : ¬ i = y := fun z => e z.symm
      simp [e, this]
  · have h1 : ((List.range n).map f)[i]? = none := by simp; omega
    have h2 : ((List.range n).map fun b => if b = y then v else f b)[i]? = none := by simp; omega
    rw [h1, h2]
    by_cases e : y = i
    · subst e; simp [hi]
    · simp [e]
@[simp] theorem asgD_ap {i : Nat} {m : M D} {env : Env} : asgD i m env = match m env with | .ok d e => .nx (e.set i (some (true, .deep d))) | .ex e e2 => .ex e e2 | .no => .no := id rfl
@[simp] theorem udM_ap {i : Nat} {a : MS} {env : Env} : udM i a env = match a env with | .nx e => .nx (udE i e) | r => r := id rfl
/-- the order's places -/
def ordO (ord : List Nat) (k : Nat) : Nat := ord.getD k 0
structure Ord (n : Nat) (ord : List Nat) : Prop where
  len : ord.length = n
  perm : ord.Perm (List.range n)
  zero : ordO ord 0 = 0
theorem Ord.lt {n : Nat} {ord : List Nat} (O : Ord n ord) {k : Nat} (h : k < n) : ordO ord k < n := by
  have h' : k < ord.length := by rw [O.len]; exact h
  have : ordO ord k ∈ ord := by
    unfold ordO
    rw [List.getD_eq_getElem?_getD, List.getElem?_eq_getElem h']
    exact List.getElem_mem h'
  exact List.mem_range.mp (O.perm.mem_iff.mp this)
theorem Ord.inj {n : Nat} {ord : List Nat} (O : Ord n ord) {a b : Nat} (ha : a < n) (hb : b < n) (h : ordO ord a = ordO ord b) : a = b := by
  have ha' : a < ord.length := by rw [O.len]; exact ha
  have hb' : b < ord.length := by rw [O.len]; exact hb
  unfold ordO at h
  rw [List.getD_eq_getElem?_getD, List.getElem?_eq_getElem ha', List.getD_eq_getElem?_getD, List.getElem?_eq_getElem hb'] at h
  have nd : ord.Nodup := O.perm.nodup_iff.mpr List.nodup_range
  have pw := List.pairwise_iff_getElem.mp nd
  have h' : ord[a] = ord[b] := h
  rcases Nat.lt_trichotomy a b with c | c | c
  · exact absurd h' (pw a b ha' hb' c)
  · exact c
  · exact absurd h'.symm (pw b a hb' ha' c)
theorem Ord.surj {n : Nat} {ord : List Nat} (O : Ord n ord) {x : Nat} (h : x < n) : ∃ a, a < n ∧ ordO ord a = x := by
  have : x ∈ ord := O.perm.mem_iff.mpr (List.mem_range.mpr h)
  obtain ⟨a, ha, e⟩ := List.getElem_of_mem this
  refine ⟨a, by rw [← O.len]; exact ha, ?_⟩
  unfold ordO
  rw [List.getD_eq_getElem?_getD, List.getElem?_eq_getElem ha]
  exact e
def pairD (R k : Nat) : D := .tup [.int (k % R : Nat), .int (k / R : Nat)]
def pairsD (R n : Nat) : List D := (List.range n).map (pairD R)
@[simp] theorem pairsD_length {R n : Nat} : (pairsD R n).length = n := by simp [pairsD]
theorem pairsD_get {R n k : Nat} (h : k < (pairsD R n).length) : (pairsD R n)[k] = pairD R k := by
  have h' : k < n := by simpa using h
  have e : (pairsD R n)[k]? = some (pairD R k) := by
    unfold pairsD
    rw [List.getElem?_map, List.getElem?_range h']
    rfl
  exact Option.some.inj ((List.getElem?_eq_getElem h).symm.trans e)
@[simp] theorem bdTup_ap {bs : List (D → Env → Option Env)} {ds : List D} {e : Env} : bdTup bs (.tup ds) e = bdList bs ds e := rfl
@[simp] theorem bdList_nil {e : Env} : bdList [] [] e = some e := rfl
@[simp] theorem bdList_cons {b : D → Env → Option Env} {bs : List (D → Env → Option Env)} {d : D} {ds : List D} {e : Env} : bdList (b :: bs) (d :: ds) e = match b d e with | some e => bdList bs ds e | none => none := id rfl
theorem ix_last {l : List Nat} {k : Nat} (h : l.length = k + 1) : ixF [lstN l, .int (-1)] = some (.int (l.getD k 0 : Nat)) := by
  show atI (ofN l) (-1) = _
  unfold atI ixN
  rw [if_neg (by omega), if_pos (by rw [ofN_length]; omega), Option.bind_some]
  rw [show ((-1 : Int) + ((ofN l).length : Nat)).toNat = k by rw [ofN_length]; omega, ofN_get, List.getElem?_eq_getElem (by omega), List.getD_eq_getElem?_getD, List.getElem?_eq_getElem (by omega)]
  rfl
theorem addF_nat {a b : Nat} : addF [.int a, .int b] = some (.int (a + b : Nat)) := by
  rw [addF_int, Int.natCast_add]
theorem add1 {a : Nat} : addF [.int 1, .int a] = some (.int (1 + a : Nat)) := addF_nat (a := 1)
theorem getD_append_lt {l m : List Nat} {j : Nat} (h : j < l.length) : (l ++ m).getD j 0 = l.getD j 0 := by
  rw [List.getD_eq_getElem?_getD, List.getD_eq_getElem?_getD, List.getElem?_append_left h]
theorem getD_append_eq {l : List Nat} {x k : Nat} (h : l.length = k) : (l ++ [x]).getD k 0 = x := by
  subst h
  rw [List.getD_eq_getElem?_getD, List.getElem?_append_right (Nat.le_refl _)]
  simp
theorem setF_lst {l : List Nat} {x v : Nat} (h : x < l.length) : setF (lstN l) (.int x) (.int v) = some (lstN (l.set x v)) := by
  unfold setF
  have e2 : ixN (ofN l).length (x : Int) = some x := by unfold ixN; rw [ofN_length, if_pos (by omega), if_pos (by omega)]; rfl
  simp only [e2]
  rw [ofN_set]
theorem ix_tupN {l : List Nat} {k : Nat} (h : k < l.length) : ixF [tupN l, .int k] = some (.int (l.getD k 0 : Nat)) := by
  unfold tupN
  rw [ixF_tup (by omega) (by simp; omega), Int.toNat_natCast, ofN_get, List.getElem?_eq_getElem h, List.getD_eq_getElem?_getD, List.getElem?_eq_getElem h]
  rfl
theorem tupleF_lst {l : List Nat} : tupleF [lstN l] = some (tupN l) := rfl
theorem lenF_tupN {l : List Nat} : lenF [tupN l] = some (.int l.length) := by rw [lenF_tup, ofN_length]
theorem lenF_lstN {l : List Nat} : lenF [lstN l] = some (.int l.length) := by rw [lenF_lst, ofN_length]
/-! ### the known groups -/
theorem fuel_eq : fuel = 1000000 := rfl
end MM

set_option Elab.async false
set_option linter.all false
set_option maxRecDepth 100000
set_option maxHeartbeats 4000000
noncomputable section
namespace MM
open PySem PySem.Spec PyProof.Rows L2

/-! ### the pen of the third harness -/
def penD (ns : List Int) (at' left : Int) : D := .lst [.scr ns, .int at', .int left]
section
variable (ns : List Int) (a l : Int)
@[simp] theorem pen_script : ixF [penD ns a l, .int 0] = some (.scr ns) := rfl
@[simp] theorem pen_at : ixF [penD ns a l, .int 1] = some (.int a) := rfl
@[simp] theorem pen_left : ixF [penD ns a l, .int 2] = some (.int l) := rfl
@[simp] theorem pen_setAt (v : Int) : setF (penD ns a l) (.int 1) (.int v) = some (penD ns v l) := rfl
@[simp] theorem pen_setLeft (v : Int) : setF (penD ns a l) (.int 2) (.int v) = some (penD ns a v) := rfl
end
theorem pow18 : powF [.int 10, .int 18] = some (.int 1000000000000000000) := if_pos (by decide)
theorem abs_ex (c : Int) : ∃ z, absF [.int c] = some (.int z) ∧ 0 ≤ z := ⟨_, rfl, by split <;> omega⟩
theorem take1 (ns : List Int) (at' left : Int) (h : 0 < left) (many : Int) (hm : 0 < many) (hm2 : many < 1073741824) :
    p__law_draw (penD ns at' left) [.int many] = .ret (.int (left.fmod many)) (penD ns at' (left.fdiv many)) := by
  unfold p__law_draw m__law_draw m__law_draw_5 m__law_draw_10 m__law_draw_13
  have h1 : many ≠ 0 := by omega
  have h2 : many.natAbs < 1073741824 := by omega
  simp [cmpF, modF, fdivF, imm, h, h1, h2]
def Pen (d : D) : Prop := ∃ ns a l, d = penD ns a l ∧ 0 ≤ a ∧ 0 ≤ l
theorem pen_mk {ns : List Int} {a l : Int} (h0 : 0 ≤ a) (hl : 0 ≤ l) : Pen (penD ns a l) := ⟨ns, a, l, rfl, h0, hl⟩
def Dig (many : Int) (d p : D) : Prop := Pen p ∧ ∃ i, d = .int i ∧ 0 ≤ i ∧ i < many
theorem dig_mk {ns : List Int} {a l x many : Int} (h0 : 0 ≤ a) (hl : 0 ≤ l) (hm : 0 < many) : Dig many (.int (x.fmod many)) (penD ns (a + 1) l) := ⟨pen_mk (by omega) hl, _, rfl, fmod_pos hm⟩
theorem take2 (ns : List Int) (at' left : Int) (h : ¬ 0 < left) (h0 : 0 ≤ at') (hl : 0 ≤ left) (many : Int) (hm : 0 < many) (hm2 : many < 1073741824) :
    RetP (p__law_draw (penD ns at' left) [.int many]) (Dig many) := by
  unfold p__law_draw m__law_draw m__law_draw_5 m__law_draw_10 m__law_draw_13
  have hg : decide (0 < left) = false := decide_eq_false h
  by_cases hn : 0 < ns.length
  · obtain ⟨c, hcx⟩ : ∃ c, ixF [.scr ns, .int (at'.fmod ns.length)] = some (.int c) := ⟨_, ixF_scr (fmod_pos (by omega)).1 (fmod_pos (by omega)).2⟩
    obtain ⟨z, hz, hz0⟩ := abs_ex c
    have hq : 0 ≤ z.fdiv many := Int.fdiv_nonneg hz0 (by omega)
    by_cases ha : at' < ns.length
    · by_cases hb : (1000000000000000000 : Int) ≤ z
      · simp [cmpF_int, hg, imm, addF_int, mulF_l, lenF_scr, hcx, ha, hn, hz, pow18, hb, fdivF_int hm hm2, modF_int, dig_mk h0, hm, hq]
      · simp [cmpF_int, hg, imm, addF_int, mulF_l, lenF_scr, hcx, ha, hn, hz, pow18, hb, fdivF_int, modF_int, mulF_r, mulF_fmod, hm, hm2, dig_mk h0, hl]
    · simp [cmpF_int, hg, imm, addF_int, mulF_l, lenF_scr, hcx, ha, hn, fdivF_int, modF_int, mulF_r, mulF_fmod, hm, hm2, dig_mk h0, hl]
  · have hna : ¬ at' < (ns.length : Int) := by omega
    simp [cmpF_int, hg, imm, addF_int, mulF_l, lenF_scr, hna, hn, fdivF_int, modF_int, mulF_r, mulF_fmod, hm, hm2, dig_mk h0, hl]
theorem take_ok {pen : D} (P : Pen pen) {many : Int} (hm : 0 < many) (hm2 : many < 1073741824) : RetP (p__law_draw pen [.int many]) (Dig many) := by
  obtain ⟨ns, a, l, rfl, h0, hl⟩ := P
  by_cases h : 0 < l
  · rw [take1 ns a l h many hm hm2]
    exact ⟨pen_mk h0 (Int.fdiv_nonneg hl (by omega)), _, rfl, fmod_pos hm⟩
  · exact take2 ns a l h h0 hl many hm hm2
theorem pen_start (ns : List Int) : ∃ pen, f__law_pen [.scr ns] = .ret pen ∧ Pen pen := ⟨penD ns 0 0, by
  unfold f__law_pen m__law_pen
  simp only [lstM_ap, tupM_ap, le_size, seqM_ap, nxM_ap, brM_ap, ctM_ap, retM_ap, retNM_ap, ifS_ap, asgF_ap, asgO_ap, dropM_ap, frzE_ap, frzM_ap, rdM_ap, vrM_ap, cM_ap, nilM_ap, consM_ap, consTM_ap, consNM_ap, opM_ap, tstM_ap, andM_ap, orM_ap, notM_ap, ifM_ap, andVM_ap, orVM_ap, notVM_ap, immM_ap, imM_ap, ixT_ap, yesM_ap, mutM_ap, mvM_ap, clF_ap, clT_ap, bdName_ap, itemsM_ap, asgG_ap, envF_ap, envP_ap, callF_ap, callP_ap, ownAt0_ap, itemsD_lst, itemsD_tup, chM_ap, slM_ap, noM_ap, partM_ap, bdB_ap, bdTup_ap, bdList_cons, bdList_nil, List.length_cons, List.length_nil, List.set_cons_succ, List.set_cons_zero, List.getElem?_cons_zero, List.getElem?_cons_succ, List.map_cons, List.map_nil, List.cons_append, List.nil_append, List.replicate, Nat.zero_add, Nat.reduceAdd, Nat.reduceSub, Nat.reduceLT, Nat.reduceLeDiff, Nat.reduceEqDiff, if_true, if_false, reduceIte, Bool.false_eq_true, NxS_nx, NxS_ct, RetF_ret, RetP_ret, imm, Bool.not_true, Bool.not_false]
  rfl, pen_mk (by omega) (by omega)⟩
theorem take_any {pen : D} (Pn : Pen pen) (k : Nat) (hk : 0 < k) (h2 : k < 1073741824) : ∃ (a : Nat) (pen' : D), p__law_draw pen [.int k] = .ret (.int a) pen' ∧ a < k ∧ Pen pen' := by
  have := take_ok Pn (many := k) (by omega) (by omega)
  unfold RetP at this
  split at this
  · rename_i d p e
    obtain ⟨Pp, i, rfl, h0, h1⟩ := this
    exact ⟨i.toNat, p, by rw [e, Int.toNat_of_nonneg h0], by omega, Pp⟩
  · exact this.elim
end MM

set_option Elab.async false
set_option linter.all false
set_option maxRecDepth 100000
set_option maxHeartbeats 4000000
noncomputable section
namespace MM
open PySem PySem.Spec PyProof.Rows L2

/-! ### a drawn order -/
/-- a comprehension that draws from a state: what it has told so far counts -/
theorem lc_acc {α β S : Type} {k : Nat} {mi : M (List D)} {el : M D} {e : Env} {rc : R D} (hC : lcM [k] mi (bdName k) yesM el e = rc) (l : List α) (g : α → D) (F : S → Env) (I : List β → S → Prop) (o : β → D) (s : S) (hm : mi e = .ok (l.map g) (F s)) (hs : I [] s)
    (hk : ∀ b s, I b s → OkSlot (F s) k) (hkk : ∀ s s', (F s)[k]? = (F s')[k]?) (hz : l.length < 1000000)
    (h : ∀ x ∈ l, ∀ b s, b.length < l.length → I b s → ∃ y s', el ((F s).set k (some (false, g x))) = .ok (o y) ((F s').set k (some (false, g x))) ∧ I (b ++ [y]) s') :
    ∃ (ys : List β) (s' : S), rc = .ok (.lst (ys.map o)) (F s') ∧ I ys s' ∧ ys.length = l.length := by
  have key : ∀ (m : List α) (b : List β) (s : S), b.length + m.length = l.length → (∀ x ∈ m, x ∈ l) → I b s → ∃ (ys : List β) (s' : S), compM [k] (bdName k) yesM el (m.map g) ((F s).set k none) = .ok (ys.map o) ((F s').set k none) ∧ I (b ++ ys) s' ∧ ys.length = m.length := by
    intro m
    induction m with
    | nil => intro b s hb hsub hI; exact ⟨[], s, rfl, by rwa [List.append_nil], rfl⟩
    | cons x m ih =>
      intro b s hb hsub hI
      rw [List.length_cons] at hb
      obtain ⟨y, s1, h1, h2⟩ := h x (hsub x List.mem_cons_self) b s (by omega) hI
      obtain ⟨ys, s2, g1, g2, g3⟩ := ih (b ++ [y]) s1 (by rw [List.length_append, List.length_singleton]; omega) (fun z hz => hsub z (List.mem_cons_of_mem _ hz)) h2
      refine ⟨y :: ys, s2, ?_, by rw [List.append_assoc] at g2; exact g2, by rw [List.length_cons, List.length_cons, g3]⟩
      rw [List.map_cons]
      unfold compM
      have hb : bdName k (g x) ((F s).set k none) = some ((F s).set k (some (false, g x))) := by
        unfold bdName
        rw [if_pos (by rw [List.length_set]; exact (hk b s hI).lt), List.set_set]
      rw [hb]
      simp only [yesM_ap]
      rw [h1]
      dsimp only
      rw [show wipeE ((F s1).set k (some (false, g x))) [k] = (F s1).set k none from by unfold wipeE wipeE; rw [List.set_set], g1]
      rfl
  obtain ⟨ys, s', g1, g2, g3⟩ := key l [] s (by simp) (fun _ h => h) hs
  refine ⟨ys, s', ?_, g2, g3⟩
  rw [← hC]
  unfold lcM
  rw [hm]
  dsimp only
  rw [if_pos (by rw [List.length_map, sizeLine_eq]; omega)]
  have e0 : wipeE (F s) [k] = (F s).set k none := rfl
  rw [e0, g1]
  dsimp only
  rw [(hk _ _ hs).rest2 (hkk s' s)]
theorem order_ok {pen : D} (Pn : Pen pen) {n : Nat} (hn : n < 1000) : ∃ (l : List Nat) (pen' : D), p__law_order pen [.int n] = .ret (lstN l) pen' ∧ Turn n l ∧ Pen pen' := by
  unfold p__law_order m__law_order
  simp only [lstM_ap, tupM_ap, le_size, seqM_ap, nxM_ap, brM_ap, ctM_ap, retM_ap, retNM_ap, ifS_ap, asgF_ap, asgO_ap, dropM_ap, frzE_ap, frzM_ap, rdM_ap, vrM_ap, cM_ap, nilM_ap, consM_ap, consTM_ap, consNM_ap, opM_ap, tstM_ap, andM_ap, orM_ap, notM_ap, ifM_ap, andVM_ap, orVM_ap, notVM_ap, immM_ap, imM_ap, ixT_ap, yesM_ap, mutM_ap, mvM_ap, clF_ap, clT_ap, bdName_ap, itemsM_ap, asgG_ap, envF_ap, envP_ap, callF_ap, callP_ap, ownAt0_ap, itemsD_lst, itemsD_tup, chM_ap, slM_ap, noM_ap, partM_ap, bdB_ap, bdTup_ap, bdList_cons, bdList_nil, List.length_cons, List.length_nil, List.set_cons_succ, List.set_cons_zero, List.getElem?_cons_zero, List.getElem?_cons_succ, List.map_cons, List.map_nil, List.cons_append, List.nil_append, List.replicate, Nat.zero_add, Nat.reduceAdd, Nat.reduceSub, Nat.reduceLT, Nat.reduceLeDiff, Nat.reduceEqDiff, if_true, if_false, reduceIte, Bool.false_eq_true, NxS_nx, NxS_ct, RetF_ret, RetP_ret, imm, Bool.not_true, Bool.not_false, lstRg1_ok (show n < 1000000 by omega)]
  generalize hC : lcM _ _ _ _ _ _ = rc
  obtain ⟨ys, ⟨pen', left⟩, rfl, ⟨P', hp⟩, hl⟩ := lc_acc hC (List.range n) (fun (i : Nat) => D.int (i : Int)) (fun (s : D × List Nat) => [some (true, s.1), some (false, .int n), some (true, lstN s.2), none]) (fun (b : List Nat) s => Pen s.1 ∧ (b ++ s.2).Perm (List.range n)) (fun (x : Nat) => D.int (x : Int)) (pen, List.range n)
    (range1_ok (n := n) (by simp only [lstM_ap, tupM_ap, le_size, seqM_ap, nxM_ap, brM_ap, ctM_ap, retM_ap, retNM_ap, ifS_ap, asgF_ap, asgO_ap, dropM_ap, frzE_ap, frzM_ap, rdM_ap, vrM_ap, cM_ap, nilM_ap, consM_ap, consTM_ap, consNM_ap, opM_ap, tstM_ap, andM_ap, orM_ap, notM_ap, ifM_ap, andVM_ap, orVM_ap, notVM_ap, immM_ap, imM_ap, ixT_ap, yesM_ap, mutM_ap, mvM_ap, clF_ap, clT_ap, bdName_ap, itemsM_ap, asgG_ap, envF_ap, envP_ap, callF_ap, callP_ap, ownAt0_ap, itemsD_lst, itemsD_tup, chM_ap, slM_ap, noM_ap, partM_ap, bdB_ap, bdTup_ap, bdList_cons, bdList_nil, List.length_cons, List.length_nil, List.set_cons_succ, List.set_cons_zero, List.getElem?_cons_zero, List.getElem?_cons_succ, List.map_cons, List.map_nil, List.cons_append, List.nil_append, List.replicate, Nat.zero_add, Nat.reduceAdd, Nat.reduceSub, Nat.reduceLT, Nat.reduceLeDiff, Nat.reduceEqDiff, if_true, if_false, reduceIte, Bool.false_eq_true, NxS_nx, NxS_ct, RetF_ret, RetP_ret, imm, Bool.not_true, Bool.not_false]) (by omega)) ⟨Pn, .refl _⟩ (fun _ _ _ => trivial) (fun _ _ => rfl) (by simp; omega) (by
    rintro x hx b ⟨pen', left⟩ hb ⟨P', hp⟩
    rw [List.length_range] at hb
    have hp : (b ++ left).Perm (List.range n) := hp
    have hll := hp.length_eq
    rw [List.length_append, List.length_range] at hll
    have hlen : left.length < 1000000 := by omega
    obtain ⟨a, pen2, e2, ha, P2⟩ := take_any P' left.length (by omega) (by omega)
    refine ⟨left[a], (pen2, left.eraseIdx a), ?_, P2, perm_pop ha hp⟩
    simp only [clP_eq, lstM_ap, tupM_ap, le_size, seqM_ap, nxM_ap, brM_ap, ctM_ap, retM_ap, retNM_ap, ifS_ap, asgF_ap, asgO_ap, dropM_ap, frzE_ap, frzM_ap, rdM_ap, vrM_ap, cM_ap, nilM_ap, consM_ap, consTM_ap, consNM_ap, opM_ap, tstM_ap, andM_ap, orM_ap, notM_ap, ifM_ap, andVM_ap, orVM_ap, notVM_ap, immM_ap, imM_ap, ixT_ap, yesM_ap, mutM_ap, mvM_ap, clF_ap, clT_ap, bdName_ap, itemsM_ap, asgG_ap, envF_ap, envP_ap, callF_ap, callP_ap, ownAt0_ap, itemsD_lst, itemsD_tup, chM_ap, slM_ap, noM_ap, partM_ap, bdB_ap, bdTup_ap, bdList_cons, bdList_nil, List.length_cons, List.length_nil, List.set_cons_succ, List.set_cons_zero, List.getElem?_cons_zero, List.getElem?_cons_succ, List.map_cons, List.map_nil, List.cons_append, List.nil_append, List.replicate, Nat.zero_add, Nat.reduceAdd, Nat.reduceSub, Nat.reduceLT, Nat.reduceLeDiff, Nat.reduceEqDiff, if_true, if_false, reduceIte, Bool.false_eq_true, NxS_nx, NxS_ct, RetF_ret, RetP_ret, imm, Bool.not_true, Bool.not_false, lenF_lstN, e2]
    simp only [lstN, popAtF_ok ha hlen])
  have hp : (ys ++ left).Perm (List.range n) := hp
  have hleft : left = [] := by
    have := hp.length_eq
    rw [List.length_append, List.length_range] at this
    rw [List.length_range] at hl
    exact List.eq_nil_of_length_eq_zero (by omega)
  subst hleft
  rw [List.append_nil] at hp
  simp only [lstM_ap, tupM_ap, le_size, seqM_ap, nxM_ap, brM_ap, ctM_ap, retM_ap, retNM_ap, ifS_ap, asgF_ap, asgO_ap, dropM_ap, frzE_ap, frzM_ap, rdM_ap, vrM_ap, cM_ap, nilM_ap, consM_ap, consTM_ap, consNM_ap, opM_ap, tstM_ap, andM_ap, orM_ap, notM_ap, ifM_ap, andVM_ap, orVM_ap, notVM_ap, immM_ap, imM_ap, ixT_ap, yesM_ap, mutM_ap, mvM_ap, clF_ap, clT_ap, bdName_ap, itemsM_ap, asgG_ap, envF_ap, envP_ap, callF_ap, callP_ap, ownAt0_ap, itemsD_lst, itemsD_tup, chM_ap, slM_ap, noM_ap, partM_ap, bdB_ap, bdTup_ap, bdList_cons, bdList_nil, List.length_cons, List.length_nil, List.set_cons_succ, List.set_cons_zero, List.getElem?_cons_zero, List.getElem?_cons_succ, List.map_cons, List.map_nil, List.cons_append, List.nil_append, List.replicate, Nat.zero_add, Nat.reduceAdd, Nat.reduceSub, Nat.reduceLT, Nat.reduceLeDiff, Nat.reduceEqDiff, if_true, if_false, reduceIte, Bool.false_eq_true, NxS_nx, NxS_ct, RetF_ret, RetP_ret, imm, Bool.not_true, Bool.not_false]
  exact ⟨ys, pen', rfl, hp, P'⟩
end MM

set_option Elab.async false
set_option linter.all false
set_option maxRecDepth 100000
set_option maxHeartbeats 4000000
noncomputable section
namespace MM
open PySem PySem.Spec PyProof.Rows L2

/-! ### rings, plainly -/
structure Inj7 (f : Nat → Nat) (n : Nat) : Prop where
  lt : ∀ x, x < n → f x < n
  inj : ∀ x y, x < n → y < n → f x = f y → x = y
structure Wlk (f : Nat → Nat) (n t : Nat) (L : List Nat) : Prop where
  pos : 0 < L.length
  hd : L.getD 0 0 = t
  nd : L.Nodup
  lt : ∀ x ∈ L, x < n
  st : ∀ i, i + 1 < L.length → f (L.getD i 0) = L.getD (i + 1) 0
def Cyc (f : Nat → Nat) (n t : Nat) (L : List Nat) : Prop := Wlk f n t L ∧ f (L.getD (L.length - 1) 0) = t
theorem getD_mem7 {L : List Nat} {i : Nat} (h : i < L.length) : L.getD i 0 ∈ L := by
  rw [List.getD_eq_getElem?_getD, List.getElem?_eq_getElem h]
  exact List.getElem_mem h
theorem nd_getD {L : List Nat} (nd : L.Nodup) {i j : Nat} (hi : i < L.length) (hj : j < L.length) (h : L.getD i 0 = L.getD j 0) : i = j := by
  rw [List.getD_eq_getElem?_getD, List.getD_eq_getElem?_getD, List.getElem?_eq_getElem hi, List.getElem?_eq_getElem hj] at h
  exact (List.getElem_inj nd).mp h
theorem mem_getD7 {L : List Nat} {x : Nat} (h : x ∈ L) : ∃ i, i < L.length ∧ L.getD i 0 = x := by
  obtain ⟨i, hi, e⟩ := List.getElem_of_mem h
  exact ⟨i, hi, by rw [List.getD_eq_getElem?_getD, List.getElem?_eq_getElem hi]; exact e⟩
theorem Wlk.one {f : Nat → Nat} {n t : Nat} (h : t < n) : Wlk f n t [t] := ⟨by simp, rfl, by simp, fun x hx => by rw [List.mem_singleton.mp hx]; exact h, fun i hi => by simp at hi⟩
theorem Wlk.len {f : Nat → Nat} {n t : Nat} {L : List Nat} (W : Wlk f n t L) : L.length ≤ n := by
  have := len_of_sub (m := List.range n) W.nd fun x hx => List.mem_range.mpr (W.lt x hx)
  rwa [List.length_range] at this
/-- a thing of a walk whose way leads into it: the end alone, or the walk's thing ahead -/
theorem Wlk.pre {f : Nat → Nat} {n t : Nat} {L : List Nat} (J : Inj7 f n) (W : Wlk f n t L) {x : Nat} (hx : x < n) (h : f x ∈ L) : f x = t ∨ (x ∈ L ∧ x ≠ L.getD (L.length - 1) 0) := by
  obtain ⟨i, hi, e⟩ := mem_getD7 h
  cases i with
  | zero => left; rw [← e]; exact W.hd
  | succ i =>
    right
    have h1 := W.st i hi
    rw [e] at h1
    have hm := getD_mem7 (L := L) (i := i) (by omega)
    have := J.inj _ _ (W.lt _ hm) hx h1
    refine ⟨this ▸ hm, fun z => ?_⟩
    rw [← this] at z
    have := nd_getD W.nd (by omega) (by omega) z
    omega
theorem Wlk.grow {f : Nat → Nat} {n t : Nat} {L : List Nat} (J : Inj7 f n) (W : Wlk f n t L) (h : f (L.getD (L.length - 1) 0) ≠ t) : f (L.getD (L.length - 1) 0) ∉ L ∧ Wlk f n t (L ++ [f (L.getD (L.length - 1) 0)]) := by
  have hp := W.pos
  have hl := W.lt _ (getD_mem7 (L := L) (i := L.length - 1) (by omega))
  have hn : f (L.getD (L.length - 1) 0) ∉ L := fun z => (W.pre J hl z).elim h fun q => q.2 rfl
  refine ⟨hn, by simp, by rw [getD_append_lt hp]; exact W.hd, List.nodup_append.mpr ⟨W.nd, by simp, fun u hu v hv e => hn (by rw [List.mem_singleton] at hv; rw [← hv, ← e]; exact hu)⟩, fun x hx => ?_, fun i hi => ?_⟩
  · rcases List.mem_append.mp hx with z | z
    · exact W.lt x z
    · rw [List.mem_singleton.mp z]; exact J.lt _ hl
  · rw [List.length_append, List.length_singleton] at hi
    rw [getD_append_lt (by omega)]
    by_cases c : i + 1 < L.length
    · rw [getD_append_lt c]; exact W.st i c
    · rw [getD_append_eq (by omega)]
      congr 2
      omega
theorem cyc_ex {f : Nat → Nat} {n t : Nat} (J : Inj7 f n) : ∀ (k : Nat) (L : List Nat), n ≤ L.length + k → Wlk f n t L → ∃ L', Cyc f n t L'
  | 0, L, h, W => by
    refine ⟨L, W, Classical.byContradiction fun c => ?_⟩
    have := (W.grow J c).2.len
    rw [List.length_append, List.length_singleton] at this
    omega
  | k + 1, L, h, W => by
    by_cases c : f (L.getD (L.length - 1) 0) = t
    · exact ⟨L, W, c⟩
    · exact cyc_ex J k _ (by rw [List.length_append, List.length_singleton]; omega) (W.grow J c).2
theorem wlk_same {f : Nat → Nat} {n m t : Nat} {L M : List Nat} (W : Wlk f n t L) (V : Wlk f m t M) : ∀ i, i < L.length → i < M.length → L.getD i 0 = M.getD i 0
  | 0, _, _ => by rw [W.hd, V.hd]
  | i + 1, h1, h2 => by rw [← W.st i h1, ← V.st i h2, wlk_same W V i (by omega) (by omega)]
theorem cyc_le {f : Nat → Nat} {n m t : Nat} {L M : List Nat} (W : Cyc f n t L) (V : Cyc f m t M) : M.length ≤ L.length := by
  refine Classical.byContradiction fun c => ?_
  have hp := W.1.pos
  have h1 := V.1.st (L.length - 1) (by omega)
  rw [← wlk_same W.1 V.1 _ (by omega) (by omega), W.2, show L.length - 1 + 1 = L.length by omega, ← V.1.hd] at h1
  have := nd_getD V.1.nd (by omega) (by omega) h1
  omega
theorem cyc_eq {f : Nat → Nat} {n m t : Nat} {L M : List Nat} (W : Cyc f n t L) (V : Cyc f m t M) : L = M := by
  have hl := Nat.le_antisymm (cyc_le V W) (cyc_le W V)
  refine List.ext_getElem hl fun i h1 h2 => ?_
  have := wlk_same W.1 V.1 i h1 h2
  rw [List.getD_eq_getElem?_getD, List.getD_eq_getElem?_getD, List.getElem?_eq_getElem h1, List.getElem?_eq_getElem h2] at this
  exact this
open Classical in
def ring (f : Nat → Nat) (n t : Nat) : List Nat := if h : ∃ L, Cyc f n t L then choose h else []
theorem ring_cyc {f : Nat → Nat} {n t : Nat} (J : Inj7 f n) (h : t < n) : Cyc f n t (ring f n t) := by
  have hx := cyc_ex J n [t] (by omega) (Wlk.one h)
  unfold ring
  rw [dif_pos hx]
  exact Classical.choose_spec hx
theorem ring_eq {f : Nat → Nat} {n t : Nat} {L : List Nat} (h : Cyc f n t L) : ring f n t = L := by
  have hx : ∃ L, Cyc f n t L := ⟨L, h⟩
  unfold ring
  rw [dif_pos hx]
  exact cyc_eq (Classical.choose_spec hx) h
theorem Cyc.mem {f : Nat → Nat} {n t : Nat} {L : List Nat} (C : Cyc f n t L) : t ∈ L := by
  have := getD_mem7 (L := L) (i := 0) C.1.pos
  rwa [C.1.hd] at this
theorem Cyc.pre {f : Nat → Nat} {n t : Nat} {L : List Nat} (J : Inj7 f n) (C : Cyc f n t L) {x : Nat} (hx : x < n) (h : f x ∈ L) : x ∈ L := by
  have hp := C.1.pos
  have hm := getD_mem7 (L := L) (i := L.length - 1) (by omega)
  rcases C.1.pre J hx h with e | ⟨e, _⟩
  · have := J.inj _ _ hx (C.1.lt _ hm) (e.trans C.2.symm)
    rw [this]; exact hm
  · exact e
/-- the rings of the things below t -/
def rgs (f : Nat → Nat) (n : Nat) : Nat → List (List Nat)
  | 0 => []
  | t + 1 => if t ∈ (rgs f n t).flatten then rgs f n t else rgs f n t ++ [ring f n t]
theorem rgs_in {f : Nat → Nat} {n : Nat} {t : Nat} (h : t ∈ (rgs f n t).flatten) : rgs f n (t + 1) = rgs f n t := if_pos h
theorem rgs_new {f : Nat → Nat} {n : Nat} {t : Nat} (h : t ∉ (rgs f n t).flatten) : rgs f n (t + 1) = rgs f n t ++ [ring f n t] := if_neg h
structure Rgs (f : Nat → Nat) (n t : Nat) (R : List (List Nat)) : Prop where
  cyc : ∀ r ∈ R, ∃ s, s < n ∧ Cyc f n s r
  nd : R.flatten.Nodup
  pre : ∀ x, x < n → f x ∈ R.flatten → x ∈ R.flatten
  all : ∀ x, x < t → x ∈ R.flatten
  lt : ∀ x ∈ R.flatten, x < n
  len : R.length ≤ t
theorem rgs_ok {f : Nat → Nat} {n : Nat} (J : Inj7 f n) : ∀ t, t ≤ n → Rgs f n t (rgs f n t)
  | 0, _ => ⟨fun _ h => (nomatch h), List.nodup_nil, fun _ _ h => (nomatch h), fun _ h => absurd h (Nat.not_lt_zero _), fun _ h => (nomatch h), Nat.le_refl _⟩
  | t + 1, h => by
    have R := rgs_ok J t (by omega)
    by_cases c : t ∈ (rgs f n t).flatten
    · rw [rgs_in c]
      refine ⟨R.cyc, R.nd, R.pre, fun x hx => ?_, R.lt, by have := R.len; omega⟩
      by_cases e : x = t
      · rw [e]; exact c
      · exact R.all x (by omega)
    · rw [rgs_new c]
      have C := ring_cyc J (show t < n by omega)
      generalize ring f n t = r at C
      have back : ∀ i, i < r.length → r.getD i 0 ∈ (rgs f n t).flatten → t ∈ (rgs f n t).flatten := by
        intro i
        induction i with
        | zero => intro _ z; rw [C.1.hd] at z; exact z
        | succ i ih =>
          intro hi z
          rw [← C.1.st i hi] at z
          exact ih (by omega) (R.pre _ (C.1.lt _ (getD_mem7 (by omega))) z)
      refine ⟨fun s hs => ?_, ?_, fun x hx z => ?_, fun x hx => ?_, fun x hx => ?_, ?_⟩
      · rcases List.mem_append.mp hs with z | z
        · exact R.cyc s z
        · rw [List.mem_singleton.mp z]; exact ⟨t, by omega, C⟩
      · rw [List.flatten_append, List.flatten_singleton]
        refine List.nodup_append.mpr ⟨R.nd, C.1.nd, fun u hu v hv e => ?_⟩
        obtain ⟨i, hi, q⟩ := mem_getD7 hv
        exact c (back i hi (by rw [q, ← e]; exact hu))
      · rw [List.flatten_append, List.flatten_singleton] at z ⊢
        rcases List.mem_append.mp z with w | w
        · exact List.mem_append_left _ (R.pre x hx w)
        · exact List.mem_append_right _ (C.pre J hx w)
      · rw [List.flatten_append, List.flatten_singleton]
        by_cases e : x = t
        · rw [e]; exact List.mem_append_right _ C.mem
        · exact List.mem_append_left _ (R.all x (by omega))
      · rw [List.flatten_append, List.flatten_singleton] at hx
        exact (List.mem_append.mp hx).elim (R.lt x) (C.1.lt x)
      · rw [List.length_append, List.length_singleton]
        have := R.len
        omega
/-- the rings of two and more -/
def big (f : Nat → Nat) (n : Nat) : List (List Nat) := (rgs f n n).filter fun r => decide (1 < r.length)
theorem fx_of {f : Nat → Nat} {n : Nat} (J : Inj7 f n) {x : Nat} (hx : x < n) (h : x ∉ (big f n).flatten) : f x = x := by
  have R := rgs_ok J n (Nat.le_refl _)
  obtain ⟨r, hr, hm⟩ := List.mem_flatten.mp (R.all x hx)
  obtain ⟨s, hs, C⟩ := R.cyc r hr
  have hl : ¬ 1 < r.length := fun c => h (List.mem_flatten.mpr ⟨r, List.mem_filter.mpr ⟨hr, by simpa using c⟩, hm⟩)
  have hp := C.1.pos
  obtain ⟨y, rfl⟩ : ∃ y, r = [y] := by
    match r, hp, hl with
    | [y], _, _ => exact ⟨y, rfl⟩
    | _ :: _ :: _, _, hl => simp at hl
  have hy := List.mem_singleton.mp hm
  subst hy
  have h1 := C.2
  have h2 := C.1.hd
  rw [show ([x] : List Nat).length - 1 = 0 from rfl] at h1
  have e : ([x] : List Nat).getD 0 0 = x := rfl
  rw [e] at h1 h2
  rw [h1, h2]
/-- wider -/
theorem cyc_wide {f g : Nat → Nat} {n m t : Nat} {L : List Nat} (hnm : n ≤ m) (hg : ∀ x, x < n → g x = f x) (C : Cyc f n t L) : Cyc g m t L := by
  have hp := C.1.pos
  refine ⟨⟨C.1.pos, C.1.hd, C.1.nd, fun x hx => by have := C.1.lt x hx; omega, fun i hi => ?_⟩, ?_⟩
  · rw [hg _ (C.1.lt _ (getD_mem7 (by omega)))]; exact C.1.st i hi
  · rw [hg _ (C.1.lt _ (getD_mem7 (by omega)))]; exact C.2
theorem rgs_wide {f g : Nat → Nat} {n m : Nat} (J : Inj7 f n) (hnm : n ≤ m) (hg : ∀ x, x < n → g x = f x) : ∀ t, t ≤ n → rgs g m t = rgs f n t
  | 0, _ => rfl
  | t + 1, h => by
    rw [rgs, rgs, rgs_wide J hnm hg t (by omega), ring_eq (cyc_wide hnm hg (ring_cyc J (show t < n by omega)))]
theorem big_wide {f g : Nat → Nat} {n m : Nat} (J : Inj7 f n) (hnm : n ≤ m) (hg : ∀ x, x < n → g x = f x) (hx : ∀ x, n ≤ x → x < m → g x = x) : big g m = big f n := by
  have key : ∀ k, n + k ≤ m → (rgs g m (n + k)).filter (fun r => decide (1 < r.length)) = big f n := by
    intro k
    induction k with
    | zero => intro _; rw [Nat.add_zero, rgs_wide J hnm hg n (Nat.le_refl _)]; rfl
    | succ k ih =>
      intro h
      rw [show n + (k + 1) = n + k + 1 by omega, rgs]
      split
      · exact ih (by omega)
      · have C : Cyc g m (n + k) [n + k] := ⟨Wlk.one (by omega), show g (n + k) = n + k from hx _ (by omega) (by omega)⟩
        rw [ring_eq C, List.filter_append, ih (by omega)]
        simp
  have := key (m - n) (by omega)
  rw [show n + (m - n) = m by omega] at this
  exact this
end MM

set_option Elab.async false
set_option linter.all false
set_option maxRecDepth 100000
set_option maxHeartbeats 4000000
noncomputable section
namespace MM
open PySem PySem.Spec PyProof.Rows L2

/-! ### numbers of turns -/
end MM

set_option Elab.async false
set_option linter.all false
set_option maxRecDepth 100000
set_option maxHeartbeats 4000000
noncomputable section
namespace MM
open PySem PySem.Spec PyProof.Rows L2

end MM

set_option Elab.async false
set_option linter.all false
set_option maxRecDepth 100000
set_option maxHeartbeats 4000000
noncomputable section
namespace MM
open PySem PySem.Spec PyProof.Rows L2

/-! ### the part of some numbers -/
open Classical in
/-- the numbers below n of a kind, rising -/
def rg (n : Nat) (P : Nat → Prop) : List Nat := (List.range n).filter fun x => decide (P x)
def cl (n : Nat) (m : Nat → Nat → Nat) (L : List Nat) : List Nat := rg n (Reach m 0 L)
end MM

set_option Elab.async false
set_option linter.all false
set_option maxRecDepth 100000
set_option maxHeartbeats 4000000
noncomputable section
namespace MM
open PySem PySem.Spec PyProof.Rows L2

/-! ### dicts of numbers, asked for their keys alone -/
def hasK (kvs : List (Key × D)) (x : Nat) : Prop := ∃ p ∈ kvs, p.1 = .inl (x : Int)
theorem hasK_put {kvs : List (Key × D)} {k : Key} {v : D} {x : Nat} : hasK (putG kvs k v) x ↔ hasK kvs x ∨ k = .inl (x : Int) := by
  unfold putG hasK
  split
  · rename_i h
    obtain ⟨p, hp, e⟩ := List.any_eq_true.mp h
    have e := of_decide_eq_true e
    constructor
    · rintro ⟨q, hq, eq⟩
      obtain ⟨r, hr, rfl⟩ := List.mem_map.mp hq
      refine .inl ⟨r, hr, ?_⟩
      split at eq <;> exact eq
    · rintro (⟨q, hq, eq⟩ | eq)
      · refine ⟨_, List.mem_map.mpr ⟨q, hq, rfl⟩, ?_⟩
        split <;> exact eq
      · refine ⟨_, List.mem_map.mpr ⟨p, hp, rfl⟩, ?_⟩
        rw [if_pos e]
        exact e.trans eq
  · constructor
    · rintro ⟨q, hq, eq⟩
      rcases List.mem_append.mp hq with z | z
      · exact .inl ⟨q, z, eq⟩
      · rw [List.mem_singleton.mp z] at eq
        exact .inr eq
    · rintro (⟨q, hq, eq⟩ | eq)
      · exact ⟨q, List.mem_append_left _ hq, eq⟩
      · exact ⟨(k, v), by simp, eq⟩
theorem len_put {kvs : List (Key × D)} {k : Key} {v : D} : (putG kvs k v).length ≤ kvs.length + 1 := by
  unfold putG
  split
  · rw [List.length_map]; omega
  · rw [List.length_append]; simp
open Classical in
theorem notInF_K (kvs : List (Key × D)) (x : Nat) : notInF [.int (x : Nat), .dK kvs] = some (.bl (!decide (hasK kvs x))) := by
  rw [notInF_ap]
  have : inP (.int (x : Nat)) (.dK kvs) = some (decide (hasK kvs x)) := by
    show some (valG kvs (.inl (x : Int))).isSome = _
    congr 1
    unfold valG
    rw [Option.isSome_map, Bool.eq_iff_iff, decide_eq_true_eq, List.find?_isSome]
    unfold hasK
    simp
  rw [this]
  rfl
theorem hasK_nil (x : Nat) : ¬ hasK [] x := fun ⟨_, h, _⟩ => nomatch h
end MM

set_option Elab.async false
set_option linter.all false
set_option maxRecDepth 100000
set_option maxHeartbeats 4000000
noncomputable section
namespace MM
open PySem PySem.Spec PyProof.Rows L2

/-! ### rings told -/
theorem inF_lstN (x : Nat) (l : List Nat) : inF [.int x, lstN l] = some (.bl (decide (x ∈ l))) := by
  rw [inF_ap]
  have h1 : Py 0 (.int (x : Nat)) (.int (x : Nat)) := .int _
  have h2 := Py.lst (k := 0) (.ofN l)
  unfold inP lstN
  dsimp only
  rw [h1.to]
  dsimp only
  rw [(PyL.ofN l).to]
  dsimp only
  rw [if_pos ⟨h1.shaped (by decide), h2.shaped (by decide)⟩]
  unfold pyN
  simp only [Option.map_some, List.any_map, Function.comp_def, PyData.eqv]
  congr 2
  rw [Bool.eq_iff_iff]
  simp only [List.any_eq_true, decide_eq_true_eq]
  constructor
  · rintro ⟨y, hy, e⟩
    have : (y : Int) = x := by simpa using e
    have : y = x := by omega
    rwa [← this]
  · intro h
    exact ⟨x, h, by simp⟩
theorem notInF_lstN (x : Nat) (l : List Nat) : notInF [.int x, lstN l] = some (.bl (!decide (x ∈ l))) := by
  have h := inF_lstN x l
  rw [inF_ap] at h
  rw [notInF_ap]
  cases e : inP (.int x) (lstN l) with
  | none => rw [e] at h; cases h
  | some c =>
    rw [e] at h
    have : c = decide (x ∈ l) := by simpa using h
    rw [this]
    rfl
def tf (l : List Nat) : Nat → Nat := fun x => l.getD x 0
theorem tf_inj {n : Nat} {l : List Nat} (T : Turn n l) : Inj7 (tf l) n := ⟨fun x hx => T.lt hx, fun x y hx hy e => T.inj hx hy e⟩
theorem rings_ok {n : Nat} {l : List Nat} (T : Turn n l) (hn : n ≤ 900) : f_rings [tupN l] = .ret (.lst ((rgs (tf l) n n).map lstN)) := by
  have J := tf_inj T
  have hneg : negF [.int 1] = some (.int (-1)) := rfl
  have hix : ∀ y, y < n → ixF [tupN l, .int (y : Nat)] = some (.int (tf l y : Nat)) := fun y hy => ix_tupN (by rw [T.len]; exact hy)
  have hlen : lenF [tupN l] = some (.int (n : Nat)) := by rw [lenF_tupN, T.len]
  unfold f_rings m_rings
  simp only [lstM_ap, tupM_ap, le_size, seqM_ap, nxM_ap, brM_ap, ctM_ap, retM_ap, retNM_ap, ifS_ap, asgF_ap, asgO_ap, dropM_ap, frzE_ap, frzM_ap, rdM_ap, vrM_ap, cM_ap, nilM_ap, consM_ap, consTM_ap, consNM_ap, opM_ap, tstM_ap, andM_ap, orM_ap, notM_ap, ifM_ap, andVM_ap, orVM_ap, notVM_ap, immM_ap, imM_ap, ixT_ap, yesM_ap, mutM_ap, mvM_ap, clF_ap, clT_ap, bdName_ap, itemsM_ap, asgG_ap, envF_ap, envP_ap, callF_ap, callP_ap, ownAt0_ap, itemsD_lst, itemsD_tup, chM_ap, slM_ap, noM_ap, partM_ap, bdB_ap, bdTup_ap, bdList_cons, bdList_nil, List.length_cons, List.length_nil, List.set_cons_succ, List.set_cons_zero, List.getElem?_cons_zero, List.getElem?_cons_succ, List.map_cons, List.map_nil, List.cons_append, List.nil_append, List.replicate, Nat.zero_add, Nat.reduceAdd, Nat.reduceSub, Nat.reduceLT, Nat.reduceLeDiff, Nat.reduceEqDiff, if_true, if_false, reduceIte, Bool.false_eq_true, NxS_nx, NxS_ct, RetF_ret, RetP_ret, imm, Bool.not_true, Bool.not_false, le_size (show 0 < 1000000 by omega)]
  generalize hL : loopM _ _ _ _ = r
  obtain ⟨e', rfl, d3, d4, rfl⟩ := for_rg hL (n := n) (fun t e => ∃ (d3 d4 : Option (Bool × D)), e = [some (false, tupN l), some (true, .lst ((rgs (tf l) n t).map lstN)), some (true, lstN (rgs (tf l) n t).flatten), d3, d4])
    (by simp only [lstM_ap, tupM_ap, le_size, seqM_ap, nxM_ap, brM_ap, ctM_ap, retM_ap, retNM_ap, ifS_ap, asgF_ap, asgO_ap, dropM_ap, frzE_ap, frzM_ap, rdM_ap, vrM_ap, cM_ap, nilM_ap, consM_ap, consTM_ap, consNM_ap, opM_ap, tstM_ap, andM_ap, orM_ap, notM_ap, ifM_ap, andVM_ap, orVM_ap, notVM_ap, immM_ap, imM_ap, ixT_ap, yesM_ap, mutM_ap, mvM_ap, clF_ap, clT_ap, bdName_ap, itemsM_ap, asgG_ap, envF_ap, envP_ap, callF_ap, callP_ap, ownAt0_ap, itemsD_lst, itemsD_tup, chM_ap, slM_ap, noM_ap, partM_ap, bdB_ap, bdTup_ap, bdList_cons, bdList_nil, List.length_cons, List.length_nil, List.set_cons_succ, List.set_cons_zero, List.getElem?_cons_zero, List.getElem?_cons_succ, List.map_cons, List.map_nil, List.cons_append, List.nil_append, List.replicate, Nat.zero_add, Nat.reduceAdd, Nat.reduceSub, Nat.reduceLT, Nat.reduceLeDiff, Nat.reduceEqDiff, if_true, if_false, reduceIte, Bool.false_eq_true, NxS_nx, NxS_ct, RetF_ret, RetP_ret, imm, Bool.not_true, Bool.not_false, hlen]) (by omega) ⟨none, none, rfl⟩ (by
    rintro t ht e ⟨d3, d4, rfl⟩
    have R := rgs_ok J t (by omega)
    have hn0 := notInF_lstN t (rgs (tf l) n t).flatten
    by_cases c : t ∈ (rgs (tf l) n t).flatten
    · rw [decide_eq_true c] at hn0
      rw [rgs_in c]
      simp only [lstM_ap, tupM_ap, le_size, seqM_ap, nxM_ap, brM_ap, ctM_ap, retM_ap, retNM_ap, ifS_ap, asgF_ap, asgO_ap, dropM_ap, frzE_ap, frzM_ap, rdM_ap, vrM_ap, cM_ap, nilM_ap, consM_ap, consTM_ap, consNM_ap, opM_ap, tstM_ap, andM_ap, orM_ap, notM_ap, ifM_ap, andVM_ap, orVM_ap, notVM_ap, immM_ap, imM_ap, ixT_ap, yesM_ap, mutM_ap, mvM_ap, clF_ap, clT_ap, bdName_ap, itemsM_ap, asgG_ap, envF_ap, envP_ap, callF_ap, callP_ap, ownAt0_ap, itemsD_lst, itemsD_tup, chM_ap, slM_ap, noM_ap, partM_ap, bdB_ap, bdTup_ap, bdList_cons, bdList_nil, List.length_cons, List.length_nil, List.set_cons_succ, List.set_cons_zero, List.getElem?_cons_zero, List.getElem?_cons_succ, List.map_cons, List.map_nil, List.cons_append, List.nil_append, List.replicate, Nat.zero_add, Nat.reduceAdd, Nat.reduceSub, Nat.reduceLT, Nat.reduceLeDiff, Nat.reduceEqDiff, if_true, if_false, reduceIte, Bool.false_eq_true, NxS_nx, NxS_ct, RetF_ret, RetP_ret, imm, Bool.not_true, Bool.not_false, m_rings_4, hn0]
      exact ⟨_, _, rfl⟩
    · rw [decide_eq_false c] at hn0
      rw [rgs_new c]
      have hfl : (rgs (tf l) n t).flatten.length ≤ n := by
        have := len_of_sub (m := List.range n) R.nd fun x hx => List.mem_range.mpr (R.lt x hx)
        rwa [List.length_range] at this
      have hrl := R.len
      generalize rgs (tf l) n t = rs at *
      have hone : D.lst [.int (t : Nat)] = lstN [t] := rfl
      simp only [lstM_ap, tupM_ap, le_size, seqM_ap, nxM_ap, brM_ap, ctM_ap, retM_ap, retNM_ap, ifS_ap, asgF_ap, asgO_ap, dropM_ap, frzE_ap, frzM_ap, rdM_ap, vrM_ap, cM_ap, nilM_ap, consM_ap, consTM_ap, consNM_ap, opM_ap, tstM_ap, andM_ap, orM_ap, notM_ap, ifM_ap, andVM_ap, orVM_ap, notVM_ap, immM_ap, imM_ap, ixT_ap, yesM_ap, mutM_ap, mvM_ap, clF_ap, clT_ap, bdName_ap, itemsM_ap, asgG_ap, envF_ap, envP_ap, callF_ap, callP_ap, ownAt0_ap, itemsD_lst, itemsD_tup, chM_ap, slM_ap, noM_ap, partM_ap, bdB_ap, bdTup_ap, bdList_cons, bdList_nil, List.length_cons, List.length_nil, List.set_cons_succ, List.set_cons_zero, List.getElem?_cons_zero, List.getElem?_cons_succ, List.map_cons, List.map_nil, List.cons_append, List.nil_append, List.replicate, Nat.zero_add, Nat.reduceAdd, Nat.reduceSub, Nat.reduceLT, Nat.reduceLeDiff, Nat.reduceEqDiff, if_true, if_false, reduceIte, Bool.false_eq_true, NxS_nx, NxS_ct, RetF_ret, RetP_ret, imm, Bool.not_true, Bool.not_false, m_rings_4, hn0, le_size (show 1 < 1000000 by omega), hone]
      generalize hW : whM _ _ _ _ = rw'
      have hend : ∀ L, Wlk (tf l) n t L → ixF [lstN L, .int (-1)] = some (.int (L.getD (L.length - 1) 0 : Nat)) ∧ neF [.int (tf l (L.getD (L.length - 1) 0) : Nat), .int (t : Nat)] = some (.bl (!decide (tf l (L.getD (L.length - 1) 0) = t))) := fun L W => by
        have hp := W.pos
        refine ⟨ix_last (by omega), ?_⟩
        rw [neF_int]
        congr 3
        exact decide_eq_decide.mpr (by omega)
      obtain ⟨e', μ, rfl, ⟨L, rfl, W, hμ⟩, hq⟩ := wh_on hW (fun μ e => ∃ L : List Nat, e = [some (false, tupN l), some (true, .lst (rs.map lstN)), some (true, lstN rs.flatten), some (false, .int (t : Nat)), some (true, lstN L)] ∧ Wlk (tf l) n t L ∧ μ = n - L.length) (n - 1)
        ⟨[t], rfl, Wlk.one ht, rfl⟩ (by rw [fuel_eq]; omega) (by
        rintro μ e ⟨L, rfl, W, rfl⟩
        obtain ⟨il, hne⟩ := hend L W
        have hlt := W.lt _ (getD_mem7 (L := L) (i := L.length - 1) (by have := W.pos; omega))
        by_cases c : tf l (L.getD (L.length - 1) 0) = t
        · left
          rw [decide_eq_true c] at hne
          simp only [lstM_ap, tupM_ap, le_size, seqM_ap, nxM_ap, brM_ap, ctM_ap, retM_ap, retNM_ap, ifS_ap, asgF_ap, asgO_ap, dropM_ap, frzE_ap, frzM_ap, rdM_ap, vrM_ap, cM_ap, nilM_ap, consM_ap, consTM_ap, consNM_ap, opM_ap, tstM_ap, andM_ap, orM_ap, notM_ap, ifM_ap, andVM_ap, orVM_ap, notVM_ap, immM_ap, imM_ap, ixT_ap, yesM_ap, mutM_ap, mvM_ap, clF_ap, clT_ap, bdName_ap, itemsM_ap, asgG_ap, envF_ap, envP_ap, callF_ap, callP_ap, ownAt0_ap, itemsD_lst, itemsD_tup, chM_ap, slM_ap, noM_ap, partM_ap, bdB_ap, bdTup_ap, bdList_cons, bdList_nil, List.length_cons, List.length_nil, List.set_cons_succ, List.set_cons_zero, List.getElem?_cons_zero, List.getElem?_cons_succ, List.map_cons, List.map_nil, List.cons_append, List.nil_append, List.replicate, Nat.zero_add, Nat.reduceAdd, Nat.reduceSub, Nat.reduceLT, Nat.reduceLeDiff, Nat.reduceEqDiff, if_true, if_false, reduceIte, Bool.false_eq_true, NxS_nx, NxS_ct, RetF_ret, RetP_ret, imm, Bool.not_true, Bool.not_false, immM_ap, ixT_ap, hneg, il, imm, hix _ hlt, hne]
        · right
          rw [decide_eq_false c] at hne
          obtain ⟨hnew, W'⟩ := W.grow J c
          have hwl := W'.len
          rw [List.length_append, List.length_singleton] at hwl
          have hap : appendF (ofN L) [.int (tf l (L.getD (L.length - 1) 0) : Nat)] = some (ofN (L ++ [tf l (L.getD (L.length - 1) 0)]), .non) := by
            rw [appendF_ok (by rw [ofN_length]; omega), ofN_append]
            rfl
          refine ⟨by simp only [lstM_ap, tupM_ap, le_size, seqM_ap, nxM_ap, brM_ap, ctM_ap, retM_ap, retNM_ap, ifS_ap, asgF_ap, asgO_ap, dropM_ap, frzE_ap, frzM_ap, rdM_ap, vrM_ap, cM_ap, nilM_ap, consM_ap, consTM_ap, consNM_ap, opM_ap, tstM_ap, andM_ap, orM_ap, notM_ap, ifM_ap, andVM_ap, orVM_ap, notVM_ap, immM_ap, imM_ap, ixT_ap, yesM_ap, mutM_ap, mvM_ap, clF_ap, clT_ap, bdName_ap, itemsM_ap, asgG_ap, envF_ap, envP_ap, callF_ap, callP_ap, ownAt0_ap, itemsD_lst, itemsD_tup, chM_ap, slM_ap, noM_ap, partM_ap, bdB_ap, bdTup_ap, bdList_cons, bdList_nil, List.length_cons, List.length_nil, List.set_cons_succ, List.set_cons_zero, List.getElem?_cons_zero, List.getElem?_cons_succ, List.map_cons, List.map_nil, List.cons_append, List.nil_append, List.replicate, Nat.zero_add, Nat.reduceAdd, Nat.reduceSub, Nat.reduceLT, Nat.reduceLeDiff, Nat.reduceEqDiff, if_true, if_false, reduceIte, Bool.false_eq_true, NxS_nx, NxS_ct, RetF_ret, RetP_ret, imm, Bool.not_true, Bool.not_false, immM_ap, ixT_ap, hneg, il, imm, hix _ hlt, hne], ?_⟩
          simp only [lstM_ap, tupM_ap, le_size, seqM_ap, nxM_ap, brM_ap, ctM_ap, retM_ap, retNM_ap, ifS_ap, asgF_ap, asgO_ap, dropM_ap, frzE_ap, frzM_ap, rdM_ap, vrM_ap, cM_ap, nilM_ap, consM_ap, consTM_ap, consNM_ap, opM_ap, tstM_ap, andM_ap, orM_ap, notM_ap, ifM_ap, andVM_ap, orVM_ap, notVM_ap, immM_ap, imM_ap, ixT_ap, yesM_ap, mutM_ap, mvM_ap, clF_ap, clT_ap, bdName_ap, itemsM_ap, asgG_ap, envF_ap, envP_ap, callF_ap, callP_ap, ownAt0_ap, itemsD_lst, itemsD_tup, chM_ap, slM_ap, noM_ap, partM_ap, bdB_ap, bdTup_ap, bdList_cons, bdList_nil, List.length_cons, List.length_nil, List.set_cons_succ, List.set_cons_zero, List.getElem?_cons_zero, List.getElem?_cons_succ, List.map_cons, List.map_nil, List.cons_append, List.nil_append, List.replicate, Nat.zero_add, Nat.reduceAdd, Nat.reduceSub, Nat.reduceLT, Nat.reduceLeDiff, Nat.reduceEqDiff, if_true, if_false, reduceIte, Bool.false_eq_true, NxS_nx, NxS_ct, RetF_ret, RetP_ret, imm, Bool.not_true, Bool.not_false, m_rings_7, immM_ap, ixT_ap, hneg, il, imm, hix _ hlt, lstN, hap]
          exact ⟨n - (L.length + 1), by omega, _, rfl, W', by rw [List.length_append, List.length_singleton]⟩)
      obtain ⟨il, hne⟩ := hend L W
      have hlt := W.lt _ (getD_mem7 (L := L) (i := L.length - 1) (by have := W.pos; omega))
      have hyt : tf l (L.getD (L.length - 1) 0) = t := by
        refine Classical.byContradiction fun c => ?_
        rw [decide_eq_false c] at hne
        simp only [lstM_ap, tupM_ap, le_size, seqM_ap, nxM_ap, brM_ap, ctM_ap, retM_ap, retNM_ap, ifS_ap, asgF_ap, asgO_ap, dropM_ap, frzE_ap, frzM_ap, rdM_ap, vrM_ap, cM_ap, nilM_ap, consM_ap, consTM_ap, consNM_ap, opM_ap, tstM_ap, andM_ap, orM_ap, notM_ap, ifM_ap, andVM_ap, orVM_ap, notVM_ap, immM_ap, imM_ap, ixT_ap, yesM_ap, mutM_ap, mvM_ap, clF_ap, clT_ap, bdName_ap, itemsM_ap, asgG_ap, envF_ap, envP_ap, callF_ap, callP_ap, ownAt0_ap, itemsD_lst, itemsD_tup, chM_ap, slM_ap, noM_ap, partM_ap, bdB_ap, bdTup_ap, bdList_cons, bdList_nil, List.length_cons, List.length_nil, List.set_cons_succ, List.set_cons_zero, List.getElem?_cons_zero, List.getElem?_cons_succ, List.map_cons, List.map_nil, List.cons_append, List.nil_append, List.replicate, Nat.zero_add, Nat.reduceAdd, Nat.reduceSub, Nat.reduceLT, Nat.reduceLeDiff, Nat.reduceEqDiff, if_true, if_false, reduceIte, Bool.false_eq_true, NxS_nx, NxS_ct, RetF_ret, RetP_ret, imm, Bool.not_true, Bool.not_false, immM_ap, ixT_ap, hneg, il, imm, hix _ hlt, hne] at hq
        cases hq
      rw [ring_eq (L := L) ⟨W, hyt⟩]
      have hLl := W.len
      have hex : extendF (ofN rs.flatten) [lstN L] = some (ofN (rs.flatten ++ L), .non) := by
        rw [ofN_append]
        refine if_pos ?_
        rw [ofN_length, ofN_length, sizeLine_eq]
        omega
      have hap := appendF_ok (ds := rs.map lstN) (d := lstN L) (by rw [List.length_map]; omega)
      simp only [lstM_ap, tupM_ap, le_size, seqM_ap, nxM_ap, brM_ap, ctM_ap, retM_ap, retNM_ap, ifS_ap, asgF_ap, asgO_ap, dropM_ap, frzE_ap, frzM_ap, rdM_ap, vrM_ap, cM_ap, nilM_ap, consM_ap, consTM_ap, consNM_ap, opM_ap, tstM_ap, andM_ap, orM_ap, notM_ap, ifM_ap, andVM_ap, orVM_ap, notVM_ap, immM_ap, imM_ap, ixT_ap, yesM_ap, mutM_ap, mvM_ap, clF_ap, clT_ap, bdName_ap, itemsM_ap, asgG_ap, envF_ap, envP_ap, callF_ap, callP_ap, ownAt0_ap, itemsD_lst, itemsD_tup, chM_ap, slM_ap, noM_ap, partM_ap, bdB_ap, bdTup_ap, bdList_cons, bdList_nil, List.length_cons, List.length_nil, List.set_cons_succ, List.set_cons_zero, List.getElem?_cons_zero, List.getElem?_cons_succ, List.map_cons, List.map_nil, List.cons_append, List.nil_append, List.replicate, Nat.zero_add, Nat.reduceAdd, Nat.reduceSub, Nat.reduceLT, Nat.reduceLeDiff, Nat.reduceEqDiff, if_true, if_false, reduceIte, Bool.false_eq_true, NxS_nx, NxS_ct, RetF_ret, RetP_ret, imm, Bool.not_true, Bool.not_false, m_rings_8, hex, hap, lstN]
      refine ⟨some (false, .int (t : Nat)), some (false, lstN L), ?_⟩
      rw [List.flatten_append, List.flatten_singleton, List.map_append]
      rfl)
  simp only [lstM_ap, tupM_ap, le_size, seqM_ap, nxM_ap, brM_ap, ctM_ap, retM_ap, retNM_ap, ifS_ap, asgF_ap, asgO_ap, dropM_ap, frzE_ap, frzM_ap, rdM_ap, vrM_ap, cM_ap, nilM_ap, consM_ap, consTM_ap, consNM_ap, opM_ap, tstM_ap, andM_ap, orM_ap, notM_ap, ifM_ap, andVM_ap, orVM_ap, notVM_ap, immM_ap, imM_ap, ixT_ap, yesM_ap, mutM_ap, mvM_ap, clF_ap, clT_ap, bdName_ap, itemsM_ap, asgG_ap, envF_ap, envP_ap, callF_ap, callP_ap, ownAt0_ap, itemsD_lst, itemsD_tup, chM_ap, slM_ap, noM_ap, partM_ap, bdB_ap, bdTup_ap, bdList_cons, bdList_nil, List.length_cons, List.length_nil, List.set_cons_succ, List.set_cons_zero, List.getElem?_cons_zero, List.getElem?_cons_succ, List.map_cons, List.map_nil, List.cons_append, List.nil_append, List.replicate, Nat.zero_add, Nat.reduceAdd, Nat.reduceSub, Nat.reduceLT, Nat.reduceLeDiff, Nat.reduceEqDiff, if_true, if_false, reduceIte, Bool.false_eq_true, NxS_nx, NxS_ct, RetF_ret, RetP_ret, imm, Bool.not_true, Bool.not_false]
end MM

set_option Elab.async false
set_option linter.all false
set_option maxRecDepth 100000
set_option maxHeartbeats 4000000
noncomputable section
namespace MM
open PySem PySem.Spec PyProof.Rows L2

/-! ### texts of rings -/
def dg (x : Nat) : Str := PyData.shown (.int (x : Nat))
theorem dg_len : ∀ x, x < 8 → (dg x).length = 1 := by decide +kernel
theorem strA_dg {x : Nat} (h : x < 8) : strAF [.int (x : Nat)] = some (.str (dg x)) := by
  have h1 := dg_len x h
  have ok : ShowX (.int (x : Nat)) := by
    refine ⟨?_, by simp only [PyData.depth]; omega, by
      have : (PyData.shown (.int (x : Nat))).length = 1 := h1
      rw [sizeLine_eq]
      omega⟩
    have hlog : ((x : Nat) : Int).natAbs.log2 < 1920 := by
      by_cases z : x = 0
      · subst z; decide
      · have : x.log2 < 11 := (Nat.log2_lt z).mpr (by omega)
        simpa using Nat.lt_of_lt_of_le this (by omega)
    rw [PyData.showable, decide_eq_true hlog]
  unfold strAF
  dsimp only [strP]
  rw [if_pos ok]
  rfl
theorem strsOf_map : ∀ ys : List Str, strsOf (ys.map D.str) = some ys
  | [] => rfl
  | y :: ys => by rw [List.map_cons, strsOf, strsOf_map ys]
theorem sum_le7 {ys : List Str} {B : Nat} (h : ∀ y ∈ ys, y.length ≤ B) : (ys.map (·.length)).sum ≤ ys.length * B := by
  induction ys with
  | nil => simp
  | cons y ys ih =>
    have h1 := h y List.mem_cons_self
    have h2 := ih fun z hz => h z (List.mem_cons_of_mem _ hz)
    rw [List.map_cons, List.sum_cons, List.length_cons, Nat.succ_mul]
    omega
theorem sp_len : (" " : Str).length = 1 := by decide
theorem join_len7 {ys : List Str} {B : Nat} (h : ∀ y ∈ ys, y.length ≤ B) : (Txt.join " " ys).length ≤ ys.length * (B + 1) := by
  have h1 := PySem.StrLaws.join_length_le " " ys
  have h2 := sum_le7 h
  have e : Txt.join " " ys = Str.join " " ys := PySem.StrLaws.glued_eq_join _ _
  rw [e, Nat.mul_add]
  rw [sp_len] at h1
  omega
def inr7 (r : List Nat) : Str := Txt.join " " (r.map dg)
def rt (r : List Nat) : Str := ("(" ++ inr7 r) ++ ")"
open Classical in
def txt (Q : List (List Nat)) : Str := if Q = [] then "()" else Txt.join " " (Q.map rt)
theorem inr_len {r : List Nat} (h : ∀ x ∈ r, x < 8) : (inr7 r).length ≤ r.length * 2 := by
  have := join_len7 (ys := r.map dg) (B := 1) fun y hy => by
    obtain ⟨x, hx, rfl⟩ := List.mem_map.mp hy
    rw [dg_len x (h x hx)]
    exact Nat.le_refl _
  rwa [List.length_map] at this
theorem app_len (a b : Str) : (a ++ b).length = a.length + b.length := PySem.Str.length_append a b
theorem rt_len {r : List Nat} (h : ∀ x ∈ r, x < 8) : (rt r).length ≤ r.length * 2 + 2 := by
  have := inr_len h
  unfold rt
  rw [app_len, app_len, show ("(" : Str).length = 1 by decide, show (")" : Str).length = 1 by decide]
  omega
theorem addF_str {a b : Str} (h : a.length + b.length < 1000000) : addF [.str a, .str b] = some (.str (a ++ b)) := if_pos (by rw [sizeLine_eq]; omega)
theorem rt_add {r : List Nat} (h : ∀ x ∈ r, x < 8) (hl : r.length ≤ 8) : addF [.str "(", .str (inr7 r)] = some (.str ("(" ++ inr7 r)) ∧ addF [.str ("(" ++ inr7 r), .str ")"] = some (.str (rt r)) := by
  have := inr_len h
  refine ⟨addF_str ?_, addF_str ?_⟩
  · rw [show ("(" : Str).length = 1 by decide]; omega
  · rw [app_len, show ("(" : Str).length = 1 by decide, show (")" : Str).length = 1 by decide]; omega
theorem inr_sum {r : List Nat} (h : ∀ x ∈ r, x < 8) (hl : r.length ≤ 8) : ((r.map dg).map (·.length)).sum + (r.map dg).length * (" " : Str).length ≤ 16777216 := by
  have := sum_le7 (ys := r.map dg) (B := 1) fun y hy => by
    obtain ⟨x, hx, rfl⟩ := List.mem_map.mp hy
    rw [dg_len x (h x hx)]
    exact Nat.le_refl _
  rw [sp_len]
  rw [List.length_map] at this ⊢
  omega
structure Small (Q : List (List Nat)) : Prop where
  lt : ∀ r ∈ Q, ∀ x ∈ r, x < 8
  ln : ∀ r ∈ Q, r.length ≤ 8
  len : Q.length ≤ 8
theorem Small.rt {Q : List (List Nat)} (S : Small Q) : ∀ y ∈ Q.map MM.rt, y.length ≤ 18 := fun y hy => by
  obtain ⟨r, hr, rfl⟩ := List.mem_map.mp hy
  have := rt_len (S.lt r hr)
  have := S.ln r hr
  omega
theorem Small.sum {Q : List (List Nat)} (S : Small Q) : ((Q.map MM.rt).map (·.length)).sum + (Q.map MM.rt).length * (" " : Str).length ≤ 16777216 := by
  have := sum_le7 S.rt
  have := S.len
  rw [sp_len]
  rw [List.length_map] at *
  omega
theorem truS_str {z : Str} (h : z.length < 1000000) : truS (.str z) = some ((z.length : Int) != 0) := by
  unfold truS
  exact if_pos (by rw [sizeLine_eq]; omega)
theorem txt_join {Q : List (List Nat)} (S : Small Q) {env : Env} {m : M D} (h : m env = .ok (.lst (Q.map fun r => .str (rt r))) env) : orSM (joinM " " m) (cM (.str "()")) env = .ok (.str (txt Q)) env := by
  have hso : strsOf (Q.map fun r => D.str (rt r)) = some (Q.map rt) := by
    rw [← strsOf_map (Q.map rt), List.map_map]
    rfl
  rw [orSM_ap, joinM_ap, h]
  dsimp only
  rw [hso]
  dsimp only
  rw [if_pos S.sum]
  dsimp only
  have hjl := join_len7 S.rt
  have hQl := S.len
  rw [List.length_map] at hjl
  by_cases c : Q = []
  · subst c
    have e : truS (.str (Txt.join " " (([] : List (List Nat)).map rt))) = some false := by
      rw [truS_str (by simp only [List.length_nil] at hjl; omega)]
      rfl
    rw [e]
    unfold txt
    rw [if_pos rfl]
    rfl
  · have hpos : 0 < (Txt.join " " (Q.map rt)).length := by
      obtain ⟨r, Q', rfl⟩ := List.exists_cons_of_ne_nil c
      have e : Txt.join " " ((r :: Q').map rt) = Str.join " " ((r :: Q').map rt) := PySem.StrLaws.glued_eq_join _ _
      have hr : 0 < (rt r).length := by
        unfold rt
        rw [app_len, show (")" : Str).length = 1 by decide]
        omega
      rw [e]
      cases Q' with
      | nil => exact hr
      | cons q Q'' =>
        show 0 < (rt r ++ " " ++ Str.join " " ((q :: Q'').map rt)).length
        rw [app_len, app_len]
        omega
    have e : truS (.str (Txt.join " " (Q.map rt))) = some true := by
      rw [truS_str (by omega)]
      congr 1
      rw [bne_iff_ne]
      omega
    rw [e]
    unfold txt
    rw [if_neg c]
theorem small_big {n : Nat} {l : List Nat} (T : Turn n l) (hn : n ≤ 7) : Small (big (tf l) n) := by
  have R := rgs_ok (tf_inj T) n (Nat.le_refl _)
  have h : ∀ r ∈ big (tf l) n, ∃ s, s < n ∧ Cyc (tf l) n s r := fun r hr => R.cyc r (List.mem_filter.mp hr).1
  refine ⟨fun r hr x hx => ?_, fun r hr => ?_, ?_⟩
  · obtain ⟨s, _, C⟩ := h r hr
    have := C.1.lt x hx
    omega
  · obtain ⟨s, _, C⟩ := h r hr
    have := C.1.len
    omega
  · have h1 : (big (tf l) n).length ≤ (rgs (tf l) n n).length := List.length_filter_le ..
    have := R.len
    omega
theorem numbers_ok {r : List Nat} (h : ∀ x ∈ r, x < 8) (hl : r.length ≤ 8) : f_show_numbers [lstN r] = .ret (.str (inr7 r)) := by
  unfold f_show_numbers m_show_numbers
  simp only [lstM_ap, tupM_ap, le_size, seqM_ap, nxM_ap, brM_ap, ctM_ap, retM_ap, retNM_ap, ifS_ap, asgF_ap, asgO_ap, dropM_ap, frzE_ap, frzM_ap, rdM_ap, vrM_ap, cM_ap, nilM_ap, consM_ap, consTM_ap, consNM_ap, opM_ap, tstM_ap, andM_ap, orM_ap, notM_ap, ifM_ap, andVM_ap, orVM_ap, notVM_ap, immM_ap, imM_ap, ixT_ap, yesM_ap, mutM_ap, mvM_ap, clF_ap, clT_ap, bdName_ap, itemsM_ap, asgG_ap, envF_ap, envP_ap, callF_ap, callP_ap, ownAt0_ap, itemsD_lst, itemsD_tup, chM_ap, slM_ap, noM_ap, partM_ap, bdB_ap, bdTup_ap, bdList_cons, bdList_nil, List.length_cons, List.length_nil, List.set_cons_succ, List.set_cons_zero, List.getElem?_cons_zero, List.getElem?_cons_succ, List.map_cons, List.map_nil, List.cons_append, List.nil_append, List.replicate, Nat.zero_add, Nat.reduceAdd, Nat.reduceSub, Nat.reduceLT, Nat.reduceLeDiff, Nat.reduceEqDiff, if_true, if_false, reduceIte, Bool.false_eq_true, NxS_nx, NxS_ct, RetF_ret, RetP_ret, imm, Bool.not_true, Bool.not_false, joinM_ap]
  generalize hC : lcM _ _ _ _ _ _ = rc
  have hc := lc_on' hC r (fun (x : Nat) => D.int (x : Int)) (fun x => .str (dg x)) (by simp only [lstM_ap, tupM_ap, le_size, seqM_ap, nxM_ap, brM_ap, ctM_ap, retM_ap, retNM_ap, ifS_ap, asgF_ap, asgO_ap, dropM_ap, frzE_ap, frzM_ap, rdM_ap, vrM_ap, cM_ap, nilM_ap, consM_ap, consTM_ap, consNM_ap, opM_ap, tstM_ap, andM_ap, orM_ap, notM_ap, ifM_ap, andVM_ap, orVM_ap, notVM_ap, immM_ap, imM_ap, ixT_ap, yesM_ap, mutM_ap, mvM_ap, clF_ap, clT_ap, bdName_ap, itemsM_ap, asgG_ap, envF_ap, envP_ap, callF_ap, callP_ap, ownAt0_ap, itemsD_lst, itemsD_tup, chM_ap, slM_ap, noM_ap, partM_ap, bdB_ap, bdTup_ap, bdList_cons, bdList_nil, List.length_cons, List.length_nil, List.set_cons_succ, List.set_cons_zero, List.getElem?_cons_zero, List.getElem?_cons_succ, List.map_cons, List.map_nil, List.cons_append, List.nil_append, List.replicate, Nat.zero_add, Nat.reduceAdd, Nat.reduceSub, Nat.reduceLT, Nat.reduceLeDiff, Nat.reduceEqDiff, if_true, if_false, reduceIte, Bool.false_eq_true, NxS_nx, NxS_ct, RetF_ret, RetP_ret, imm, Bool.not_true, Bool.not_false]; rfl) trivial (by omega) fun x hx => by
    simp only [lstM_ap, tupM_ap, le_size, seqM_ap, nxM_ap, brM_ap, ctM_ap, retM_ap, retNM_ap, ifS_ap, asgF_ap, asgO_ap, dropM_ap, frzE_ap, frzM_ap, rdM_ap, vrM_ap, cM_ap, nilM_ap, consM_ap, consTM_ap, consNM_ap, opM_ap, tstM_ap, andM_ap, orM_ap, notM_ap, ifM_ap, andVM_ap, orVM_ap, notVM_ap, immM_ap, imM_ap, ixT_ap, yesM_ap, mutM_ap, mvM_ap, clF_ap, clT_ap, bdName_ap, itemsM_ap, asgG_ap, envF_ap, envP_ap, callF_ap, callP_ap, ownAt0_ap, itemsD_lst, itemsD_tup, chM_ap, slM_ap, noM_ap, partM_ap, bdB_ap, bdTup_ap, bdList_cons, bdList_nil, List.length_cons, List.length_nil, List.set_cons_succ, List.set_cons_zero, List.getElem?_cons_zero, List.getElem?_cons_succ, List.map_cons, List.map_nil, List.cons_append, List.nil_append, List.replicate, Nat.zero_add, Nat.reduceAdd, Nat.reduceSub, Nat.reduceLT, Nat.reduceLeDiff, Nat.reduceEqDiff, if_true, if_false, reduceIte, Bool.false_eq_true, NxS_nx, NxS_ct, RetF_ret, RetP_ret, imm, Bool.not_true, Bool.not_false, strA_dg (h x hx)]
  subst hc
  have hso : strsOf (r.map fun x => D.str (dg x)) = some (r.map dg) := by
    rw [← strsOf_map (r.map dg), List.map_map]
    rfl
  simp only [hso, if_pos (inr_sum h hl)]
  rfl
theorem turn_text {n : Nat} {l : List Nat} (T : Turn n l) (hn : n ≤ 7) : f_show_turn [tupN l] = .ret (.str (txt (big (tf l) n))) := by
  have S := small_big T hn
  have R := rgs_ok (tf_inj T) n (Nat.le_refl _)
  unfold f_show_turn m_show_turn
  simp only [lstM_ap, tupM_ap, le_size, seqM_ap, nxM_ap, brM_ap, ctM_ap, retM_ap, retNM_ap, ifS_ap, asgF_ap, asgO_ap, dropM_ap, frzE_ap, frzM_ap, rdM_ap, vrM_ap, cM_ap, nilM_ap, consM_ap, consTM_ap, consNM_ap, opM_ap, tstM_ap, andM_ap, orM_ap, notM_ap, ifM_ap, andVM_ap, orVM_ap, notVM_ap, immM_ap, imM_ap, ixT_ap, yesM_ap, mutM_ap, mvM_ap, clF_ap, clT_ap, bdName_ap, itemsM_ap, asgG_ap, envF_ap, envP_ap, callF_ap, callP_ap, ownAt0_ap, itemsD_lst, itemsD_tup, chM_ap, slM_ap, noM_ap, partM_ap, bdB_ap, bdTup_ap, bdList_cons, bdList_nil, List.length_cons, List.length_nil, List.set_cons_succ, List.set_cons_zero, List.getElem?_cons_zero, List.getElem?_cons_succ, List.map_cons, List.map_nil, List.cons_append, List.nil_append, List.replicate, Nat.zero_add, Nat.reduceAdd, Nat.reduceSub, Nat.reduceLT, Nat.reduceLeDiff, Nat.reduceEqDiff, if_true, if_false, reduceIte, Bool.false_eq_true, NxS_nx, NxS_ct, RetF_ret, RetP_ret, imm, Bool.not_true, Bool.not_false]
  generalize hC : lcM _ _ _ _ _ _ = rc
  have hc := lc_on hC (rgs (tf l) n n) lstN (fun r => decide (1 < r.length)) (fun r => .str (rt r)) (by simp only [lstM_ap, tupM_ap, le_size, seqM_ap, nxM_ap, brM_ap, ctM_ap, retM_ap, retNM_ap, ifS_ap, asgF_ap, asgO_ap, dropM_ap, frzE_ap, frzM_ap, rdM_ap, vrM_ap, cM_ap, nilM_ap, consM_ap, consTM_ap, consNM_ap, opM_ap, tstM_ap, andM_ap, orM_ap, notM_ap, ifM_ap, andVM_ap, orVM_ap, notVM_ap, immM_ap, imM_ap, ixT_ap, yesM_ap, mutM_ap, mvM_ap, clF_ap, clT_ap, bdName_ap, itemsM_ap, asgG_ap, envF_ap, envP_ap, callF_ap, callP_ap, ownAt0_ap, itemsD_lst, itemsD_tup, chM_ap, slM_ap, noM_ap, partM_ap, bdB_ap, bdTup_ap, bdList_cons, bdList_nil, List.length_cons, List.length_nil, List.set_cons_succ, List.set_cons_zero, List.getElem?_cons_zero, List.getElem?_cons_succ, List.map_cons, List.map_nil, List.cons_append, List.nil_append, List.replicate, Nat.zero_add, Nat.reduceAdd, Nat.reduceSub, Nat.reduceLT, Nat.reduceLeDiff, Nat.reduceEqDiff, if_true, if_false, reduceIte, Bool.false_eq_true, NxS_nx, NxS_ct, RetF_ret, RetP_ret, imm, Bool.not_true, Bool.not_false, rings_ok T (by omega)]) trivial (by have := R.len; omega) fun r hr => by
    have e : gtF [.int (r.length : Nat), .int 1] = some (.bl (decide (1 < r.length))) := by
      show some (D.bl (decide ((1 : Int) < (r.length : Nat)))) = _
      congr 2
      exact decide_eq_decide.mpr (by omega)
 
    refine ⟨by simp only [lstM_ap, tupM_ap, le_size, seqM_ap, nxM_ap, brM_ap, ctM_ap, retM_ap, retNM_ap, ifS_ap, asgF_ap, asgO_ap, dropM_ap, frzE_ap, frzM_ap, rdM_ap, vrM_ap, cM_ap, nilM_ap, consM_ap, consTM_ap, consNM_ap, opM_ap, tstM_ap, andM_ap, orM_ap, notM_ap, ifM_ap, andVM_ap, orVM_ap, notVM_ap, immM_ap, imM_ap, ixT_ap, yesM_ap, mutM_ap, mvM_ap, clF_ap, clT_ap, bdName_ap, itemsM_ap, asgG_ap, envF_ap, envP_ap, callF_ap, callP_ap, ownAt0_ap, itemsD_lst, itemsD_tup, chM_ap, slM_ap, noM_ap, partM_ap, bdB_ap, bdTup_ap, bdList_cons, bdList_nil, List.length_cons, List.length_nil, List.set_cons_succ, List.set_cons_zero, List.getElem?_cons_zero, List.getElem?_cons_succ, List.map_cons, List.map_nil, List.cons_append, List.nil_append, List.replicate, Nat.zero_add, Nat.reduceAdd, Nat.reduceSub, Nat.reduceLT, Nat.reduceLeDiff, Nat.reduceEqDiff, if_true, if_false, reduceIte, Bool.false_eq_true, NxS_nx, NxS_ct, RetF_ret, RetP_ret, imm, Bool.not_true, Bool.not_false, lenF_lstN, e], fun hb => ?_⟩
    · have hr' : r ∈ big (tf l) n := List.mem_filter.mpr ⟨hr, hb⟩
      obtain ⟨a1, a2⟩ := rt_add (S.lt r hr') (S.ln r hr')
      simp only [lstM_ap, tupM_ap, le_size, seqM_ap, nxM_ap, brM_ap, ctM_ap, retM_ap, retNM_ap, ifS_ap, asgF_ap, asgO_ap, dropM_ap, frzE_ap, frzM_ap, rdM_ap, vrM_ap, cM_ap, nilM_ap, consM_ap, consTM_ap, consNM_ap, opM_ap, tstM_ap, andM_ap, orM_ap, notM_ap, ifM_ap, andVM_ap, orVM_ap, notVM_ap, immM_ap, imM_ap, ixT_ap, yesM_ap, mutM_ap, mvM_ap, clF_ap, clT_ap, bdName_ap, itemsM_ap, asgG_ap, envF_ap, envP_ap, callF_ap, callP_ap, ownAt0_ap, itemsD_lst, itemsD_tup, chM_ap, slM_ap, noM_ap, partM_ap, bdB_ap, bdTup_ap, bdList_cons, bdList_nil, List.length_cons, List.length_nil, List.set_cons_succ, List.set_cons_zero, List.getElem?_cons_zero, List.getElem?_cons_succ, List.map_cons, List.map_nil, List.cons_append, List.nil_append, List.replicate, Nat.zero_add, Nat.reduceAdd, Nat.reduceSub, Nat.reduceLT, Nat.reduceLeDiff, Nat.reduceEqDiff, if_true, if_false, reduceIte, Bool.false_eq_true, NxS_nx, NxS_ct, RetF_ret, RetP_ret, imm, Bool.not_true, Bool.not_false, numbers_ok (S.lt r hr') (S.ln r hr'), a1, a2]
  subst hc
  simp only [lstM_ap, tupM_ap, le_size, seqM_ap, nxM_ap, brM_ap, ctM_ap, retM_ap, retNM_ap, ifS_ap, asgF_ap, asgO_ap, dropM_ap, frzE_ap, frzM_ap, rdM_ap, vrM_ap, cM_ap, nilM_ap, consM_ap, consTM_ap, consNM_ap, opM_ap, tstM_ap, andM_ap, orM_ap, notM_ap, ifM_ap, andVM_ap, orVM_ap, notVM_ap, immM_ap, imM_ap, ixT_ap, yesM_ap, mutM_ap, mvM_ap, clF_ap, clT_ap, bdName_ap, itemsM_ap, asgG_ap, envF_ap, envP_ap, callF_ap, callP_ap, ownAt0_ap, itemsD_lst, itemsD_tup, chM_ap, slM_ap, noM_ap, partM_ap, bdB_ap, bdTup_ap, bdList_cons, bdList_nil, List.length_cons, List.length_nil, List.set_cons_succ, List.set_cons_zero, List.getElem?_cons_zero, List.getElem?_cons_succ, List.map_cons, List.map_nil, List.cons_append, List.nil_append, List.replicate, Nat.zero_add, Nat.reduceAdd, Nat.reduceSub, Nat.reduceLT, Nat.reduceLeDiff, Nat.reduceEqDiff, if_true, if_false, reduceIte, Bool.false_eq_true, NxS_nx, NxS_ct, RetF_ret, RetP_ret, imm, Bool.not_true, Bool.not_false]
  rw [txt_join (Q := big (tf l) n) S (by simp only [lstM_ap, tupM_ap, le_size, seqM_ap, nxM_ap, brM_ap, ctM_ap, retM_ap, retNM_ap, ifS_ap, asgF_ap, asgO_ap, dropM_ap, frzE_ap, frzM_ap, rdM_ap, vrM_ap, cM_ap, nilM_ap, consM_ap, consTM_ap, consNM_ap, opM_ap, tstM_ap, andM_ap, orM_ap, notM_ap, ifM_ap, andVM_ap, orVM_ap, notVM_ap, immM_ap, imM_ap, ixT_ap, yesM_ap, mutM_ap, mvM_ap, clF_ap, clT_ap, bdName_ap, itemsM_ap, asgG_ap, envF_ap, envP_ap, callF_ap, callP_ap, ownAt0_ap, itemsD_lst, itemsD_tup, chM_ap, slM_ap, noM_ap, partM_ap, bdB_ap, bdTup_ap, bdList_cons, bdList_nil, List.length_cons, List.length_nil, List.set_cons_succ, List.set_cons_zero, List.getElem?_cons_zero, List.getElem?_cons_succ, List.map_cons, List.map_nil, List.cons_append, List.nil_append, List.replicate, Nat.zero_add, Nat.reduceAdd, Nat.reduceSub, Nat.reduceLT, Nat.reduceLeDiff, Nat.reduceEqDiff, if_true, if_false, reduceIte, Bool.false_eq_true, NxS_nx, NxS_ct, RetF_ret, RetP_ret, imm, Bool.not_true, Bool.not_false]; rfl)]
  simp only [lstM_ap, tupM_ap, le_size, seqM_ap, nxM_ap, brM_ap, ctM_ap, retM_ap, retNM_ap, ifS_ap, asgF_ap, asgO_ap, dropM_ap, frzE_ap, frzM_ap, rdM_ap, vrM_ap, cM_ap, nilM_ap, consM_ap, consTM_ap, consNM_ap, opM_ap, tstM_ap, andM_ap, orM_ap, notM_ap, ifM_ap, andVM_ap, orVM_ap, notVM_ap, immM_ap, imM_ap, ixT_ap, yesM_ap, mutM_ap, mvM_ap, clF_ap, clT_ap, bdName_ap, itemsM_ap, asgG_ap, envF_ap, envP_ap, callF_ap, callP_ap, ownAt0_ap, itemsD_lst, itemsD_tup, chM_ap, slM_ap, noM_ap, partM_ap, bdB_ap, bdTup_ap, bdList_cons, bdList_nil, List.length_cons, List.length_nil, List.set_cons_succ, List.set_cons_zero, List.getElem?_cons_zero, List.getElem?_cons_succ, List.map_cons, List.map_nil, List.cons_append, List.nil_append, List.replicate, Nat.zero_add, Nat.reduceAdd, Nat.reduceSub, Nat.reduceLT, Nat.reduceLeDiff, Nat.reduceEqDiff, if_true, if_false, reduceIte, Bool.false_eq_true, NxS_nx, NxS_ct, RetF_ret, RetP_ret, imm, Bool.not_true, Bool.not_false]
end MM

set_option Elab.async false
set_option linter.all false
set_option maxRecDepth 100000
set_option maxHeartbeats 4000000
noncomputable section
namespace MM
open PySem PySem.Spec PyProof.Rows L2

/-! ### the law's own text -/
theorem set_K {kvs : List (Key × D)} {x : Nat} {v : D} (hl : kvs.length < 1000000) : setF (.dK kvs) (.int (x : Nat)) v = some (.dK (putG kvs (.inl (x : Int)) v)) := by
  unfold setF
  simp only [keyD]
  rw [if_pos (by rw [sizeLine_eq]; omega)]
open Classical in
theorem law_text {n : Nat} {l : List Nat} (T : Turn n l) (hn : n ≤ 7) : f__law_text [tupN l] = .ret (.str (txt (big (tf l) n))) := by
  have J := tf_inj T
  have S := small_big T hn
  have hix : ∀ y, y < n → ixF [tupN l, .int (y : Nat)] = some (.int (tf l y : Nat)) := fun y hy => ix_tupN (by rw [T.len]; exact hy)
  have hlen : lenF [tupN l] = some (.int (n : Nat)) := by rw [lenF_tupN, T.len]
  unfold f__law_text m__law_text
  simp only [lstM_ap, tupM_ap, le_size, seqM_ap, nxM_ap, brM_ap, ctM_ap, retM_ap, retNM_ap, ifS_ap, asgF_ap, asgO_ap, dropM_ap, frzE_ap, frzM_ap, rdM_ap, vrM_ap, cM_ap, nilM_ap, consM_ap, consTM_ap, consNM_ap, opM_ap, tstM_ap, andM_ap, orM_ap, notM_ap, ifM_ap, andVM_ap, orVM_ap, notVM_ap, immM_ap, imM_ap, ixT_ap, yesM_ap, mutM_ap, mvM_ap, clF_ap, clT_ap, bdName_ap, itemsM_ap, asgG_ap, envF_ap, envP_ap, callF_ap, callP_ap, ownAt0_ap, itemsD_lst, itemsD_tup, chM_ap, slM_ap, noM_ap, partM_ap, bdB_ap, bdTup_ap, bdList_cons, bdList_nil, List.length_cons, List.length_nil, List.set_cons_succ, List.set_cons_zero, List.getElem?_cons_zero, List.getElem?_cons_succ, List.map_cons, List.map_nil, List.cons_append, List.nil_append, List.replicate, Nat.zero_add, Nat.reduceAdd, Nat.reduceSub, Nat.reduceLT, Nat.reduceLeDiff, Nat.reduceEqDiff, if_true, if_false, reduceIte, Bool.false_eq_true, NxS_nx, NxS_ct, RetF_ret, RetP_ret, imm, Bool.not_true, Bool.not_false, le_size (show 0 < 1000000 by omega)]
  generalize hL : loopM _ _ _ _ = r
  obtain ⟨e', rfl, kvs, d3, d4, d5, rfl, _, _⟩ := for_rg hL (n := n) (fun t e => ∃ (kvs : List (Key × D)) (d3 d4 d5 : Option (Bool × D)), e = [some (false, tupN l), some (true, .lst (((rgs (tf l) n t).filter fun r => decide (1 < r.length)).map fun r => .str (rt r))), some (true, .dK kvs), d3, d4, d5] ∧ (∀ x, hasK kvs x ↔ x ∈ (rgs (tf l) n t).flatten) ∧ kvs.length ≤ 10 * t)
    (by simp only [lstM_ap, tupM_ap, le_size, seqM_ap, nxM_ap, brM_ap, ctM_ap, retM_ap, retNM_ap, ifS_ap, asgF_ap, asgO_ap, dropM_ap, frzE_ap, frzM_ap, rdM_ap, vrM_ap, cM_ap, nilM_ap, consM_ap, consTM_ap, consNM_ap, opM_ap, tstM_ap, andM_ap, orM_ap, notM_ap, ifM_ap, andVM_ap, orVM_ap, notVM_ap, immM_ap, imM_ap, ixT_ap, yesM_ap, mutM_ap, mvM_ap, clF_ap, clT_ap, bdName_ap, itemsM_ap, asgG_ap, envF_ap, envP_ap, callF_ap, callP_ap, ownAt0_ap, itemsD_lst, itemsD_tup, chM_ap, slM_ap, noM_ap, partM_ap, bdB_ap, bdTup_ap, bdList_cons, bdList_nil, List.length_cons, List.length_nil, List.set_cons_succ, List.set_cons_zero, List.getElem?_cons_zero, List.getElem?_cons_succ, List.map_cons, List.map_nil, List.cons_append, List.nil_append, List.replicate, Nat.zero_add, Nat.reduceAdd, Nat.reduceSub, Nat.reduceLT, Nat.reduceLeDiff, Nat.reduceEqDiff, if_true, if_false, reduceIte, Bool.false_eq_true, NxS_nx, NxS_ct, RetF_ret, RetP_ret, imm, Bool.not_true, Bool.not_false, hlen]) (by omega) ⟨[], none, none, none, rfl, fun x => ⟨fun h => absurd h (hasK_nil x), fun h => (nomatch h)⟩, by simp⟩ (by
    rintro t ht e ⟨kvs, d3, d4, d5, rfl, hK, hl⟩
    have R := rgs_ok J t (by omega)
    have R' := rgs_ok J (t + 1) (by omega)
    by_cases c : t ∈ (rgs (tf l) n t).flatten
    · rw [rgs_in c]
      have hk := notInF_K kvs t
      rw [decide_eq_true ((hK t).mpr c)] at hk
      simp only [lstM_ap, tupM_ap, le_size, seqM_ap, nxM_ap, brM_ap, ctM_ap, retM_ap, retNM_ap, ifS_ap, asgF_ap, asgO_ap, dropM_ap, frzE_ap, frzM_ap, rdM_ap, vrM_ap, cM_ap, nilM_ap, consM_ap, consTM_ap, consNM_ap, opM_ap, tstM_ap, andM_ap, orM_ap, notM_ap, ifM_ap, andVM_ap, orVM_ap, notVM_ap, immM_ap, imM_ap, ixT_ap, yesM_ap, mutM_ap, mvM_ap, clF_ap, clT_ap, bdName_ap, itemsM_ap, asgG_ap, envF_ap, envP_ap, callF_ap, callP_ap, ownAt0_ap, itemsD_lst, itemsD_tup, chM_ap, slM_ap, noM_ap, partM_ap, bdB_ap, bdTup_ap, bdList_cons, bdList_nil, List.length_cons, List.length_nil, List.set_cons_succ, List.set_cons_zero, List.getElem?_cons_zero, List.getElem?_cons_succ, List.map_cons, List.map_nil, List.cons_append, List.nil_append, List.replicate, Nat.zero_add, Nat.reduceAdd, Nat.reduceSub, Nat.reduceLT, Nat.reduceLeDiff, Nat.reduceEqDiff, if_true, if_false, reduceIte, Bool.false_eq_true, NxS_nx, NxS_ct, RetF_ret, RetP_ret, imm, Bool.not_true, Bool.not_false, m__law_text_4, le_size (show 0 < 1000000 by omega)]
      generalize hW : whM _ _ _ _ = rw'
      obtain ⟨e', μ, rfl, rfl, -⟩ := wh_on hW (fun μ e => e = [some (false, tupN l), some (true, .lst (((rgs (tf l) n t).filter fun r => decide (1 < r.length)).map fun r => .str (rt r))), some (true, .dK kvs), some (false, .int (t : Nat)), some (true, .lst []), some (false, .int (t : Nat))]) 0 rfl (by rw [fuel_eq]; omega) (by
        rintro μ e rfl
        left
        simp only [lstM_ap, tupM_ap, le_size, seqM_ap, nxM_ap, brM_ap, ctM_ap, retM_ap, retNM_ap, ifS_ap, asgF_ap, asgO_ap, dropM_ap, frzE_ap, frzM_ap, rdM_ap, vrM_ap, cM_ap, nilM_ap, consM_ap, consTM_ap, consNM_ap, opM_ap, tstM_ap, andM_ap, orM_ap, notM_ap, ifM_ap, andVM_ap, orVM_ap, notVM_ap, immM_ap, imM_ap, ixT_ap, yesM_ap, mutM_ap, mvM_ap, clF_ap, clT_ap, bdName_ap, itemsM_ap, asgG_ap, envF_ap, envP_ap, callF_ap, callP_ap, ownAt0_ap, itemsD_lst, itemsD_tup, chM_ap, slM_ap, noM_ap, partM_ap, bdB_ap, bdTup_ap, bdList_cons, bdList_nil, List.length_cons, List.length_nil, List.set_cons_succ, List.set_cons_zero, List.getElem?_cons_zero, List.getElem?_cons_succ, List.map_cons, List.map_nil, List.cons_append, List.nil_append, List.replicate, Nat.zero_add, Nat.reduceAdd, Nat.reduceSub, Nat.reduceLT, Nat.reduceLeDiff, Nat.reduceEqDiff, if_true, if_false, reduceIte, Bool.false_eq_true, NxS_nx, NxS_ct, RetF_ret, RetP_ret, imm, Bool.not_true, Bool.not_false, hk])
      have hg : gtF [.int ((0 : Nat) : Int), .int 1] = some (.bl false) := rfl
      simp only [lstM_ap, tupM_ap, le_size, seqM_ap, nxM_ap, brM_ap, ctM_ap, retM_ap, retNM_ap, ifS_ap, asgF_ap, asgO_ap, dropM_ap, frzE_ap, frzM_ap, rdM_ap, vrM_ap, cM_ap, nilM_ap, consM_ap, consTM_ap, consNM_ap, opM_ap, tstM_ap, andM_ap, orM_ap, notM_ap, ifM_ap, andVM_ap, orVM_ap, notVM_ap, immM_ap, imM_ap, ixT_ap, yesM_ap, mutM_ap, mvM_ap, clF_ap, clT_ap, bdName_ap, itemsM_ap, asgG_ap, envF_ap, envP_ap, callF_ap, callP_ap, ownAt0_ap, itemsD_lst, itemsD_tup, chM_ap, slM_ap, noM_ap, partM_ap, bdB_ap, bdTup_ap, bdList_cons, bdList_nil, List.length_cons, List.length_nil, List.set_cons_succ, List.set_cons_zero, List.getElem?_cons_zero, List.getElem?_cons_succ, List.map_cons, List.map_nil, List.cons_append, List.nil_append, List.replicate, Nat.zero_add, Nat.reduceAdd, Nat.reduceSub, Nat.reduceLT, Nat.reduceLeDiff, Nat.reduceEqDiff, if_true, if_false, reduceIte, Bool.false_eq_true, NxS_nx, NxS_ct, RetF_ret, RetP_ret, imm, Bool.not_true, Bool.not_false, m__law_text_10, lenF_lst, hg]
      exact ⟨_, _, _, _, rfl, hK, by omega⟩
    · rw [rgs_new c] at R' ⊢
      have C := ring_cyc J ht
      generalize ring (tf l) n t = r at C R' ⊢
      generalize rgs (tf l) n t = rs at *
      have hrn := C.1.len
      have hr8 : ∀ x ∈ r, x < 8 := fun x hx => by have := C.1.lt x hx; omega
      have hnd := R'.nd
      rw [List.flatten_append, List.flatten_singleton] at hnd
      have hdis : ∀ x ∈ r, x ∉ rs.flatten := fun x hx z => (List.nodup_append.mp hnd).2.2 x z x hx rfl
      have hp := C.1.pos
      simp only [lstM_ap, tupM_ap, le_size, seqM_ap, nxM_ap, brM_ap, ctM_ap, retM_ap, retNM_ap, ifS_ap, asgF_ap, asgO_ap, dropM_ap, frzE_ap, frzM_ap, rdM_ap, vrM_ap, cM_ap, nilM_ap, consM_ap, consTM_ap, consNM_ap, opM_ap, tstM_ap, andM_ap, orM_ap, notM_ap, ifM_ap, andVM_ap, orVM_ap, notVM_ap, immM_ap, imM_ap, ixT_ap, yesM_ap, mutM_ap, mvM_ap, clF_ap, clT_ap, bdName_ap, itemsM_ap, asgG_ap, envF_ap, envP_ap, callF_ap, callP_ap, ownAt0_ap, itemsD_lst, itemsD_tup, chM_ap, slM_ap, noM_ap, partM_ap, bdB_ap, bdTup_ap, bdList_cons, bdList_nil, List.length_cons, List.length_nil, List.set_cons_succ, List.set_cons_zero, List.getElem?_cons_zero, List.getElem?_cons_succ, List.map_cons, List.map_nil, List.cons_append, List.nil_append, List.replicate, Nat.zero_add, Nat.reduceAdd, Nat.reduceSub, Nat.reduceLT, Nat.reduceLeDiff, Nat.reduceEqDiff, if_true, if_false, reduceIte, Bool.false_eq_true, NxS_nx, NxS_ct, RetF_ret, RetP_ret, imm, Bool.not_true, Bool.not_false, m__law_text_4, le_size (show 0 < 1000000 by omega)]
      generalize hW : whM _ _ _ _ = rw'
      obtain ⟨e', μ, rfl, ⟨i, kv, rfl, hi, hk, hkl, hμ⟩, hq⟩ := wh_on hW (fun μ e => ∃ (i : Nat) (kv : List (Key × D)), e = [some (false, tupN l), some (true, .lst ((rs.filter fun r => decide (1 < r.length)).map fun r => .str (rt r))), some (true, .dK kv), some (false, .int (t : Nat)), some (true, .lst ((r.take i).map fun x => .str (dg x))), some (false, .int ((if i < r.length then r.getD i 0 else t : Nat) : Int))] ∧ i ≤ r.length ∧ (∀ x, hasK kv x ↔ x ∈ rs.flatten ∨ x ∈ r.take i) ∧ kv.length ≤ 10 * t + i ∧ μ = r.length - i) r.length
        ⟨0, kvs, by rw [if_pos hp, C.1.hd]; rfl, by omega, fun x => by rw [hK x, List.take_zero]; simp, by omega, rfl⟩ (by rw [fuel_eq]; omega) (by
        rintro μ e ⟨i, kv, rfl, hi, hk, hkl, rfl⟩
        by_cases ci : i < r.length
        · right
          have hm := getD_mem7 ci
          have hlt := C.1.lt _ hm
          have hni : ¬ hasK kv (r.getD i 0) := fun z => by
            rcases (hk _).mp z with z | z
            · exact hdis _ hm z
            · obtain ⟨j, hj, e⟩ := mem_getD7 z
              rw [List.length_take] at hj
              have : (r.take i).getD j 0 = r.getD j 0 := by
                rw [List.getD_eq_getElem?_getD, List.getD_eq_getElem?_getD, List.getElem?_take_of_lt (by omega)]
              rw [this] at e
              have := nd_getD C.1.nd (by omega) ci e
              omega
          have hk0 := notInF_K kv (r.getD i 0)
          rw [decide_eq_false hni] at hk0
          have hset := set_K (kvs := kv) (x := r.getD i 0) (v := .bl true) (by omega)
          have hap := appendF_ok (ds := (r.take i).map fun x => D.str (dg x)) (d := .str (dg (r.getD i 0))) (by rw [List.length_map, List.length_take]; omega)
          have hst : tf l (r.getD i 0) = (if i + 1 < r.length then r.getD (i + 1) 0 else t : Nat) := by
            split
            · exact C.1.st i (by assumption)
            · have := C.2
              rwa [show r.length - 1 = i by omega] at this
          have htk : r.take (i + 1) = r.take i ++ [r.getD i 0] := by
            rw [List.take_succ, List.getD_eq_getElem?_getD, List.getElem?_eq_getElem ci]
            rfl
          rw [if_pos ci]
          refine ⟨by simp only [lstM_ap, tupM_ap, le_size, seqM_ap, nxM_ap, brM_ap, ctM_ap, retM_ap, retNM_ap, ifS_ap, asgF_ap, asgO_ap, dropM_ap, frzE_ap, frzM_ap, rdM_ap, vrM_ap, cM_ap, nilM_ap, consM_ap, consTM_ap, consNM_ap, opM_ap, tstM_ap, andM_ap, orM_ap, notM_ap, ifM_ap, andVM_ap, orVM_ap, notVM_ap, immM_ap, imM_ap, ixT_ap, yesM_ap, mutM_ap, mvM_ap, clF_ap, clT_ap, bdName_ap, itemsM_ap, asgG_ap, envF_ap, envP_ap, callF_ap, callP_ap, ownAt0_ap, itemsD_lst, itemsD_tup, chM_ap, slM_ap, noM_ap, partM_ap, bdB_ap, bdTup_ap, bdList_cons, bdList_nil, List.length_cons, List.length_nil, List.set_cons_succ, List.set_cons_zero, List.getElem?_cons_zero, List.getElem?_cons_succ, List.map_cons, List.map_nil, List.cons_append, List.nil_append, List.replicate, Nat.zero_add, Nat.reduceAdd, Nat.reduceSub, Nat.reduceLT, Nat.reduceLeDiff, Nat.reduceEqDiff, if_true, if_false, reduceIte, Bool.false_eq_true, NxS_nx, NxS_ct, RetF_ret, RetP_ret, imm, Bool.not_true, Bool.not_false, hk0], ?_⟩
          simp only [lstM_ap, tupM_ap, le_size, seqM_ap, nxM_ap, brM_ap, ctM_ap, retM_ap, retNM_ap, ifS_ap, asgF_ap, asgO_ap, dropM_ap, frzE_ap, frzM_ap, rdM_ap, vrM_ap, cM_ap, nilM_ap, consM_ap, consTM_ap, consNM_ap, opM_ap, tstM_ap, andM_ap, orM_ap, notM_ap, ifM_ap, andVM_ap, orVM_ap, notVM_ap, immM_ap, imM_ap, ixT_ap, yesM_ap, mutM_ap, mvM_ap, clF_ap, clT_ap, bdName_ap, itemsM_ap, asgG_ap, envF_ap, envP_ap, callF_ap, callP_ap, ownAt0_ap, itemsD_lst, itemsD_tup, chM_ap, slM_ap, noM_ap, partM_ap, bdB_ap, bdTup_ap, bdList_cons, bdList_nil, List.length_cons, List.length_nil, List.set_cons_succ, List.set_cons_zero, List.getElem?_cons_zero, List.getElem?_cons_succ, List.map_cons, List.map_nil, List.cons_append, List.nil_append, List.replicate, Nat.zero_add, Nat.reduceAdd, Nat.reduceSub, Nat.reduceLT, Nat.reduceLeDiff, Nat.reduceEqDiff, if_true, if_false, reduceIte, Bool.false_eq_true, NxS_nx, NxS_ct, RetF_ret, RetP_ret, imm, Bool.not_true, Bool.not_false, m__law_text_7, setM_ap, hset, strA_dg (hr8 _ hm), hap, hix _ hlt]
          refine ⟨r.length - (i + 1), by omega, i + 1, putG kv (.inl ((r.getD i 0 : Nat) : Int)) (.bl true), ?_, by omega, fun x => ?_, ?_, rfl⟩
          · rw [htk, List.map_append, hst]
            rfl
          · rw [hasK_put, hk x, htk, List.mem_append, List.mem_singleton]
            constructor
            · rintro ((z | z) | z)
              · exact .inl z
              · exact .inr (.inl z)
              · refine .inr (.inr ?_)
                have : ((r.getD i 0 : Nat) : Int) = (x : Int) := Sum.inl.inj z
                omega
            · rintro (z | z | z)
              · exact .inl (.inl z)
              · exact .inl (.inr z)
              · rw [z]; exact .inr rfl
          · have := len_put (kvs := kv) (k := .inl ((r.getD i 0 : Nat) : Int)) (v := .bl true)
            omega
        · left
          have hi' : i = r.length := by omega
          subst hi'
          have hk0 := notInF_K kv t
          rw [decide_eq_true ((hk t).mpr (.inr (by rw [List.take_length]; exact C.mem)))] at hk0
          rw [if_neg ci]
          simp only [lstM_ap, tupM_ap, le_size, seqM_ap, nxM_ap, brM_ap, ctM_ap, retM_ap, retNM_ap, ifS_ap, asgF_ap, asgO_ap, dropM_ap, frzE_ap, frzM_ap, rdM_ap, vrM_ap, cM_ap, nilM_ap, consM_ap, consTM_ap, consNM_ap, opM_ap, tstM_ap, andM_ap, orM_ap, notM_ap, ifM_ap, andVM_ap, orVM_ap, notVM_ap, immM_ap, imM_ap, ixT_ap, yesM_ap, mutM_ap, mvM_ap, clF_ap, clT_ap, bdName_ap, itemsM_ap, asgG_ap, envF_ap, envP_ap, callF_ap, callP_ap, ownAt0_ap, itemsD_lst, itemsD_tup, chM_ap, slM_ap, noM_ap, partM_ap, bdB_ap, bdTup_ap, bdList_cons, bdList_nil, List.length_cons, List.length_nil, List.set_cons_succ, List.set_cons_zero, List.getElem?_cons_zero, List.getElem?_cons_succ, List.map_cons, List.map_nil, List.cons_append, List.nil_append, List.replicate, Nat.zero_add, Nat.reduceAdd, Nat.reduceSub, Nat.reduceLT, Nat.reduceLeDiff, Nat.reduceEqDiff, if_true, if_false, reduceIte, Bool.false_eq_true, NxS_nx, NxS_ct, RetF_ret, RetP_ret, imm, Bool.not_true, Bool.not_false, hk0])
      have hir : i = r.length := by
        refine Classical.byContradiction fun c => ?_
        have ci : i < r.length := by omega
        have hm := getD_mem7 ci
        have hni : ¬ hasK kv (r.getD i 0) := fun z => by
          rcases (hk _).mp z with z | z
          · exact hdis _ hm z
          · obtain ⟨j, hj, e⟩ := mem_getD7 z
            rw [List.length_take] at hj
            have : (r.take i).getD j 0 = r.getD j 0 := by
              rw [List.getD_eq_getElem?_getD, List.getD_eq_getElem?_getD, List.getElem?_take_of_lt (by omega)]
            rw [this] at e
            have := nd_getD C.1.nd (by omega) ci e
            omega
        have hk0 := notInF_K kv (r.getD i 0)
        rw [decide_eq_false hni] at hk0
        rw [if_pos ci] at hq
        simp only [lstM_ap, tupM_ap, le_size, seqM_ap, nxM_ap, brM_ap, ctM_ap, retM_ap, retNM_ap, ifS_ap, asgF_ap, asgO_ap, dropM_ap, frzE_ap, frzM_ap, rdM_ap, vrM_ap, cM_ap, nilM_ap, consM_ap, consTM_ap, consNM_ap, opM_ap, tstM_ap, andM_ap, orM_ap, notM_ap, ifM_ap, andVM_ap, orVM_ap, notVM_ap, immM_ap, imM_ap, ixT_ap, yesM_ap, mutM_ap, mvM_ap, clF_ap, clT_ap, bdName_ap, itemsM_ap, asgG_ap, envF_ap, envP_ap, callF_ap, callP_ap, ownAt0_ap, itemsD_lst, itemsD_tup, chM_ap, slM_ap, noM_ap, partM_ap, bdB_ap, bdTup_ap, bdList_cons, bdList_nil, List.length_cons, List.length_nil, List.set_cons_succ, List.set_cons_zero, List.getElem?_cons_zero, List.getElem?_cons_succ, List.map_cons, List.map_nil, List.cons_append, List.nil_append, List.replicate, Nat.zero_add, Nat.reduceAdd, Nat.reduceSub, Nat.reduceLT, Nat.reduceLeDiff, Nat.reduceEqDiff, if_true, if_false, reduceIte, Bool.false_eq_true, NxS_nx, NxS_ct, RetF_ret, RetP_ret, imm, Bool.not_true, Bool.not_false, hk0] at hq
        cases hq
      subst hir
      rw [List.take_length] at hk ⊢
      have hKn : ∀ x, hasK kv x ↔ x ∈ (rs ++ [r]).flatten := fun x => by
        rw [hk x, List.flatten_append, List.flatten_singleton, List.mem_append]
      have hg : gtF [.int (r.length : Nat), .int 1] = some (.bl (decide (1 < r.length))) := by
        show some (D.bl (decide ((1 : Int) < (r.length : Nat)))) = _
        congr 2
        exact decide_eq_decide.mpr (by omega)
      have hso : strsOf (r.map fun x => D.str (dg x)) = some (r.map dg) := by
        rw [← strsOf_map (r.map dg), List.map_map]
        rfl
      by_cases cl : 1 < r.length
      · obtain ⟨a1, a2⟩ := rt_add hr8 (by omega)
        have hrl := R.len
        have hfl : (rs.filter fun r => decide (1 < r.length)).length ≤ rs.length := List.length_filter_le ..
        have hap := appendF_ok (ds := (rs.filter fun r => decide (1 < r.length)).map fun r => D.str (rt r)) (d := .str (rt r)) (by rw [List.length_map]; omega)
        rw [decide_eq_true cl] at hg
        have hsm := inr_sum hr8 (show r.length ≤ 8 by omega)
        rw [List.length_map] at hsm
        have a1' : addF [.str "(", .str (Txt.join " " (r.map dg))] = some (.str ("(" ++ inr7 r)) := a1
        simp only [lstM_ap, tupM_ap, le_size, seqM_ap, nxM_ap, brM_ap, ctM_ap, retM_ap, retNM_ap, ifS_ap, asgF_ap, asgO_ap, dropM_ap, frzE_ap, frzM_ap, rdM_ap, vrM_ap, cM_ap, nilM_ap, consM_ap, consTM_ap, consNM_ap, opM_ap, tstM_ap, andM_ap, orM_ap, notM_ap, ifM_ap, andVM_ap, orVM_ap, notVM_ap, immM_ap, imM_ap, ixT_ap, yesM_ap, mutM_ap, mvM_ap, clF_ap, clT_ap, bdName_ap, itemsM_ap, asgG_ap, envF_ap, envP_ap, callF_ap, callP_ap, ownAt0_ap, itemsD_lst, itemsD_tup, chM_ap, slM_ap, noM_ap, partM_ap, bdB_ap, bdTup_ap, bdList_cons, bdList_nil, List.length_cons, List.length_nil, List.set_cons_succ, List.set_cons_zero, List.getElem?_cons_zero, List.getElem?_cons_succ, List.map_cons, List.map_nil, List.cons_append, List.nil_append, List.replicate, Nat.zero_add, Nat.reduceAdd, Nat.reduceSub, Nat.reduceLT, Nat.reduceLeDiff, Nat.reduceEqDiff, if_true, if_false, reduceIte, Bool.false_eq_true, NxS_nx, NxS_ct, RetF_ret, RetP_ret, imm, Bool.not_true, Bool.not_false, m__law_text_10, lenF_lst, List.length_map, hg, joinM_ap, hso, if_pos hsm, a1', a2, hap]
        refine ⟨kv, some (false, .int (t : Nat)), some (false, .lst (r.map fun x => .str (dg x))), some (false, .int ((if r.length < r.length then r.getD r.length 0 else t : Nat) : Int)), ?_, hKn, by omega⟩
        rw [List.filter_append, List.map_append, show ([r].filter fun r => decide (1 < r.length)) = [r] by simp [cl]]
        rfl
      · rw [decide_eq_false cl] at hg
        simp only [lstM_ap, tupM_ap, le_size, seqM_ap, nxM_ap, brM_ap, ctM_ap, retM_ap, retNM_ap, ifS_ap, asgF_ap, asgO_ap, dropM_ap, frzE_ap, frzM_ap, rdM_ap, vrM_ap, cM_ap, nilM_ap, consM_ap, consTM_ap, consNM_ap, opM_ap, tstM_ap, andM_ap, orM_ap, notM_ap, ifM_ap, andVM_ap, orVM_ap, notVM_ap, immM_ap, imM_ap, ixT_ap, yesM_ap, mutM_ap, mvM_ap, clF_ap, clT_ap, bdName_ap, itemsM_ap, asgG_ap, envF_ap, envP_ap, callF_ap, callP_ap, ownAt0_ap, itemsD_lst, itemsD_tup, chM_ap, slM_ap, noM_ap, partM_ap, bdB_ap, bdTup_ap, bdList_cons, bdList_nil, List.length_cons, List.length_nil, List.set_cons_succ, List.set_cons_zero, List.getElem?_cons_zero, List.getElem?_cons_succ, List.map_cons, List.map_nil, List.cons_append, List.nil_append, List.replicate, Nat.zero_add, Nat.reduceAdd, Nat.reduceSub, Nat.reduceLT, Nat.reduceLeDiff, Nat.reduceEqDiff, if_true, if_false, reduceIte, Bool.false_eq_true, NxS_nx, NxS_ct, RetF_ret, RetP_ret, imm, Bool.not_true, Bool.not_false, m__law_text_10, lenF_lst, List.length_map, hg]
        refine ⟨kv, some (false, .int (t : Nat)), some (true, .lst (r.map fun x => .str (dg x))), some (false, .int ((if r.length < r.length then r.getD r.length 0 else t : Nat) : Int)), ?_, hKn, by omega⟩
        rw [List.filter_append, show ([r].filter fun r => decide (1 < r.length)) = [] by simp [cl], List.append_nil])
  simp only [lstM_ap, tupM_ap, le_size, seqM_ap, nxM_ap, brM_ap, ctM_ap, retM_ap, retNM_ap, ifS_ap, asgF_ap, asgO_ap, dropM_ap, frzE_ap, frzM_ap, rdM_ap, vrM_ap, cM_ap, nilM_ap, consM_ap, consTM_ap, consNM_ap, opM_ap, tstM_ap, andM_ap, orM_ap, notM_ap, ifM_ap, andVM_ap, orVM_ap, notVM_ap, immM_ap, imM_ap, ixT_ap, yesM_ap, mutM_ap, mvM_ap, clF_ap, clT_ap, bdName_ap, itemsM_ap, asgG_ap, envF_ap, envP_ap, callF_ap, callP_ap, ownAt0_ap, itemsD_lst, itemsD_tup, chM_ap, slM_ap, noM_ap, partM_ap, bdB_ap, bdTup_ap, bdList_cons, bdList_nil, List.length_cons, List.length_nil, List.set_cons_succ, List.set_cons_zero, List.getElem?_cons_zero, List.getElem?_cons_succ, List.map_cons, List.map_nil, List.cons_append, List.nil_append, List.replicate, Nat.zero_add, Nat.reduceAdd, Nat.reduceSub, Nat.reduceLT, Nat.reduceLeDiff, Nat.reduceEqDiff, if_true, if_false, reduceIte, Bool.false_eq_true, NxS_nx, NxS_ct, RetF_ret, RetP_ret, imm, Bool.not_true, Bool.not_false, m__law_text_12]
  rw [txt_join (Q := big (tf l) n) S (by simp only [lstM_ap, tupM_ap, le_size, seqM_ap, nxM_ap, brM_ap, ctM_ap, retM_ap, retNM_ap, ifS_ap, asgF_ap, asgO_ap, dropM_ap, frzE_ap, frzM_ap, rdM_ap, vrM_ap, cM_ap, nilM_ap, consM_ap, consTM_ap, consNM_ap, opM_ap, tstM_ap, andM_ap, orM_ap, notM_ap, ifM_ap, andVM_ap, orVM_ap, notVM_ap, immM_ap, imM_ap, ixT_ap, yesM_ap, mutM_ap, mvM_ap, clF_ap, clT_ap, bdName_ap, itemsM_ap, asgG_ap, envF_ap, envP_ap, callF_ap, callP_ap, ownAt0_ap, itemsD_lst, itemsD_tup, chM_ap, slM_ap, noM_ap, partM_ap, bdB_ap, bdTup_ap, bdList_cons, bdList_nil, List.length_cons, List.length_nil, List.set_cons_succ, List.set_cons_zero, List.getElem?_cons_zero, List.getElem?_cons_succ, List.map_cons, List.map_nil, List.cons_append, List.nil_append, List.replicate, Nat.zero_add, Nat.reduceAdd, Nat.reduceSub, Nat.reduceLT, Nat.reduceLeDiff, Nat.reduceEqDiff, if_true, if_false, reduceIte, Bool.false_eq_true, NxS_nx, NxS_ct, RetF_ret, RetP_ret, imm, Bool.not_true, Bool.not_false]; rfl)]
  simp only [lstM_ap, tupM_ap, le_size, seqM_ap, nxM_ap, brM_ap, ctM_ap, retM_ap, retNM_ap, ifS_ap, asgF_ap, asgO_ap, dropM_ap, frzE_ap, frzM_ap, rdM_ap, vrM_ap, cM_ap, nilM_ap, consM_ap, consTM_ap, consNM_ap, opM_ap, tstM_ap, andM_ap, orM_ap, notM_ap, ifM_ap, andVM_ap, orVM_ap, notVM_ap, immM_ap, imM_ap, ixT_ap, yesM_ap, mutM_ap, mvM_ap, clF_ap, clT_ap, bdName_ap, itemsM_ap, asgG_ap, envF_ap, envP_ap, callF_ap, callP_ap, ownAt0_ap, itemsD_lst, itemsD_tup, chM_ap, slM_ap, noM_ap, partM_ap, bdB_ap, bdTup_ap, bdList_cons, bdList_nil, List.length_cons, List.length_nil, List.set_cons_succ, List.set_cons_zero, List.getElem?_cons_zero, List.getElem?_cons_succ, List.map_cons, List.map_nil, List.cons_append, List.nil_append, List.replicate, Nat.zero_add, Nat.reduceAdd, Nat.reduceSub, Nat.reduceLT, Nat.reduceLeDiff, Nat.reduceEqDiff, if_true, if_false, reduceIte, Bool.false_eq_true, NxS_nx, NxS_ct, RetF_ret, RetP_ret, imm, Bool.not_true, Bool.not_false]
end MM

set_option Elab.async false
set_option linter.all false
set_option maxRecDepth 100000
set_option maxHeartbeats 4000000
noncomputable section
namespace MM
open PySem PySem.Spec PyProof.Rows L2 TL

/-! ### texts read -/
def Lo7 (z : Str) : Prop := ∀ c ∈ tl z, c < 128
theorem Lo7.ok {z : Str} (h : Lo7 z) : PyData.strOk z = true := by
  unfold PyData.strOk
  rw [Array.all_eq_true']
  intro c hc
  have := h c (Array.mem_toList_iff.mpr hc)
  simpa using (show c < 0x110000 by omega)
theorem py_str {z : Str} (hz : Lo7 z) : Py 0 (.str z) (.str z) := ⟨by simp only [toPy], by simp only [PyData.canLay0, hz.ok], by simp only [PyData.depth]; omega⟩
theorem eqP_str {a b : Str} (ha : Lo7 a) (hb : Lo7 b) : eqP (.str a) (.str b) = some (decide (a = b)) := by
  rw [eqP_of (py_str ha) (py_str hb)]
  simp only [PyData.eqv]
  by_cases e : a = b
  · subst e; simp
  · simp [e]
theorem eqF_str {a b : Str} (ha : Lo7 a) (hb : Lo7 b) : eqF [.str a, .str b] = some (.bl (decide (a = b))) := by rw [eqF_ap, eqP_str ha hb]; rfl
theorem neF_str {a b : Str} (ha : Lo7 a) (hb : Lo7 b) : neF [.str a, .str b] = some (.bl (!decide (a = b))) := by rw [neF_ap, eqP_str ha hb]; rfl
theorem lo_app {a b : Str} (ha : Lo7 a) (hb : Lo7 b) : Lo7 (a ++ b) := fun c hc => by
  rw [tl_append, List.mem_append] at hc
  exact hc.elim (ha c) (hb c)
theorem dg_tl : ∀ x, x < 8 → tl (dg x) = [48 + x] := by decide +kernel
theorem tl_joinS : ∀ {ys : List Str} {P : Nat → Prop} {z : Str}, (∀ c ∈ tl z, P c) → (∀ y ∈ ys, ∀ c ∈ tl y, P c) → ∀ c ∈ tl (Str.join z ys), P c
  | [], _, z, _, _ => fun c hc => by
    have e : tl (Str.join z []) = [] := rfl
    rw [e] at hc
    cases hc
  | [y], _, _, _, hy => hy y (List.mem_singleton_self _)
  | x :: y :: r, P, z, hz, hy => fun c hc => by
    have e : Str.join z (x :: y :: r) = x ++ z ++ Str.join z (y :: r) := rfl
    rw [e, tl_append, tl_append, List.mem_append, List.mem_append] at hc
    rcases hc with (hc | hc) | hc
    · exact hy x List.mem_cons_self c hc
    · exact hz c hc
    · exact tl_joinS hz (fun w hw => hy w (List.mem_cons_of_mem _ hw)) c hc
theorem sp_tl : tl (" " : Str) = [32] := by decide
theorem op_tl : tl ("(" : Str) = [40] := by decide
theorem cl_tl : tl (")" : Str) = [41] := by decide
theorem mid_tl : tl (") (" : Str) = [41, 32, 40] := by decide
theorem inr_dg {r : List Nat} (h : ∀ x ∈ r, x < 8) : ∀ c ∈ tl (inr7 r), c = 32 ∨ (48 ≤ c ∧ c < 58) := by
  unfold inr7
  rw [join_eq]
  refine tl_joinS (fun c hc => by rw [sp_tl] at hc; exact .inl (List.mem_singleton.mp hc)) fun y hy c hc => ?_
  obtain ⟨x, hx, rfl⟩ := List.mem_map.mp hy
  rw [dg_tl x (h x hx), List.mem_singleton] at hc
  have := h x hx
  omega
def mid (Q : List (List Nat)) : Str := Txt.join ") (" (Q.map inr7)
theorem mid_eq : ((")" : Str) ++ " ") ++ "(" = ") (" := by decide
theorem txt_mid : ∀ {Q : List (List Nat)}, Q ≠ [] → txt Q = ("(" ++ mid Q) ++ ")"
  | [], h => absurd rfl h
  | r :: Q, _ => by
    unfold txt mid
    rw [if_neg (List.cons_ne_nil _ _), join_eq, join_eq]
    induction Q generalizing r with
    | nil => rfl
    | cons q Q ih =>
      show rt r ++ " " ++ Str.join " " ((q :: Q).map rt) = ("(" ++ (inr7 r ++ ") (" ++ Str.join ") (" ((q :: Q).map inr7))) ++ ")"
      rw [ih q (List.cons_ne_nil _ _), ← mid_eq]
      unfold rt
      simp only [Str.append_assoc]
theorem mid_lo {Q : List (List Nat)} (S : Small Q) : Lo7 (mid Q) := by
  unfold mid Lo7
  rw [join_eq]
  refine tl_joinS (fun c hc => by rw [mid_tl] at hc; simp only [List.mem_cons, List.not_mem_nil, or_false] at hc; omega) fun y hy c hc => ?_
  obtain ⟨r, hr, rfl⟩ := List.mem_map.mp hy
  have := inr_dg (S.lt r hr) c hc
  omega
theorem lo_dec {z : Str} (h : (tl z).all (fun c => decide (c < 128)) = true) : Lo7 z := fun c hc => of_decide_eq_true (List.all_eq_true.mp h c hc)
theorem lo_nil : Lo7 "()" := lo_dec (by decide)
theorem lo_op : Lo7 "(" := lo_dec (by decide)
theorem lo_cl : Lo7 ")" := lo_dec (by decide)
theorem lo_0 : Lo7 "0" := lo_dec (by decide)
theorem txt_lo {Q : List (List Nat)} (S : Small Q) : Lo7 (txt Q) := by
  by_cases c : Q = []
  · subst c
    unfold txt
    rw [if_pos rfl]
    exact lo_nil
  · rw [txt_mid c]
    exact lo_app (lo_app lo_op (mid_lo S)) lo_cl
theorem txt_tl {Q : List (List Nat)} (h : Q ≠ []) : tl (txt Q) = 40 :: (tl (mid Q) ++ [41]) := by
  rw [txt_mid h, tl_append, tl_append, op_tl, cl_tl]
  rfl
theorem txt_len {Q : List (List Nat)} (S : Small Q) (h : Q ≠ []) : (txt Q).length = (tl (mid Q)).length + 2 ∧ (txt Q).length ≤ 200 := by
  have e : (txt Q).length = (tl (mid Q)).length + 2 := by rw [len_tl, txt_tl h]; simp
  refine ⟨e, ?_⟩
  have := join_len7 S.rt
  have hl := S.len
  rw [List.length_map] at this
  unfold txt
  rw [if_neg h]
  omega
theorem cut_txt {Q : List (List Nat)} (S : Small Q) (h : Q ≠ []) : cutS (txt Q) none (some 1) = "(" ∧ cutS (txt Q) (some (-1)) none = ")" ∧ cutS (txt Q) (some 1) (some (-1)) = mid Q := by
  have hl := (txt_len S h).1
  have e := txt_tl h
  have n1 : HT.sIx (txt Q).length 0 (some 1) = 1 := by rw [show (1 : Int) = ((1 : Nat) : Int) from rfl, HT.sIx_nat]; omega
  have n1' : HT.sIx (txt Q).length (txt Q).length (some 1) = 1 := by rw [show (1 : Int) = ((1 : Nat) : Int) from rfl, HT.sIx_nat]; omega
  have n2 : ∀ d, HT.sIx (txt Q).length d (some (-1)) = (tl (mid Q)).length + 1 := fun d => by
    unfold HT.sIx
    dsimp only
    rw [if_pos (by omega), hl]
    omega
  have hd : (tl (txt Q)).drop ((tl (mid Q)).length + 1) = [41] := by rw [e, List.drop_succ_cons, List.drop_left]
  refine ⟨ext_tl ?_, ext_tl ?_, ext_tl ?_⟩
  · unfold cutS
    rw [n1', HT.sIx_none, List.drop_zero, Nat.sub_zero, op_tl]
    show (tl (txt Q)).take 1 = _
    rw [e]
    rfl
  · unfold cutS
    rw [n2, HT.sIx_none, cl_tl]
    show ((tl (txt Q)).drop _).take _ = _
    rw [hd, List.take_of_length_le (by rw [List.length_singleton]; omega)]
  · unfold cutS
    rw [n1, n2]
    show ((tl (txt Q)).drop 1).take _ = _
    rw [e, List.drop_succ_cons, List.drop_zero, Nat.add_sub_cancel, List.take_left]
theorem split_mid {Q : List (List Nat)} (S : Small Q) (h : Q ≠ []) : Txt.split (mid Q) ") (" = Q.map inr7 :=
  split_join mid_tl (by decide +kernel) (fun z => h (List.map_eq_nil_iff.mp z)) fun p hp z => by
    obtain ⟨r, hr, rfl⟩ := List.mem_map.mp hp
    have := inr_dg (S.lt r hr) 41 z
    omega
theorem split_inr {r : List Nat} (hr : ∀ x ∈ r, x < 8) (h : r ≠ []) : Txt.split (inr7 r) " " = r.map dg :=
  split_join sp_tl (by decide +kernel) (fun z => h (List.map_eq_nil_iff.mp z)) fun p hp z => by
    obtain ⟨x, hx, rfl⟩ := List.mem_map.mp hp
    rw [dg_tl x (hr x hx), List.mem_singleton] at z
    omega
theorem dg_mk {x : Nat} (h : x < 8) : dg x = ⟨#[48 + x]⟩ := ext_tl (by rw [dg_tl x h])
theorem splitS_ok {z b : Str} (hz : z.length < 1000000) (hb : (b.length == 0) = false) : splitS z (.str b) = some (.lst ((Txt.split z b).map .str)) := by
  unfold splitS
  exact if_pos ⟨hb, by rw [sizeLine_eq]; omega⟩
theorem dg_lo {x : Nat} (h : x < 8) : Lo7 (dg x) := fun c hc => by
  rw [dg_tl x h, List.mem_singleton] at hc
  omega
theorem dg_zero {x : Nat} (h : x < 8) : decide (dg x = "0") = decide (x = 0) := by
  rw [decide_eq_decide]
  constructor
  · intro e
    have h1 := dg_tl x h
    rw [e, show tl ("0" : Str) = [48] by decide] at h1
    have := List.cons.inj h1
    omega
  · rintro rfl
    exact ext_tl (by rw [dg_tl 0 (by omega)]; decide)
theorem int_dg : ∀ x, x < 8 → PySem.intText? (dg x) = some ((x : Nat) : Int) := by decide +kernel
theorem intS_dg {x : Nat} (h : x < 8) : intSF [.str (dg x)] = some (.int (x : Nat)) := by
  unfold intSF
  dsimp only
  rw [int_dg x h]
  exact if_pos (by rw [dg_len x h]; omega)
theorem number_ok {x : Nat} (h : x < 8) : f_is_number [.str (dg x)] = .ret (.bl true) := by
  have hl : lenF [.str (dg x)] = some (.int 1) := by
    have e : lenF [.str (dg x)] = some (.int ((dg x).length : Nat)) := if_pos (by rw [dg_len x h, sizeLine_eq]; omega)
    rw [e, dg_len x h]
    rfl
  have hin : ∀ x, x < 8 → (48 + x) ∈ ("0123456789" : Str).cps.toList := by decide
  have hsg : signsM (vrM 0) [some (false, .str (dg x)), none] = .ok ([x].map fun x => D.str (dg x)) [some (false, .str (dg x)), none] := by
    rw [signsM_ap]
    simp only [lstM_ap, tupM_ap, le_size, seqM_ap, nxM_ap, brM_ap, ctM_ap, retM_ap, retNM_ap, ifS_ap, asgF_ap, asgO_ap, dropM_ap, frzE_ap, frzM_ap, rdM_ap, vrM_ap, cM_ap, nilM_ap, consM_ap, consTM_ap, consNM_ap, opM_ap, tstM_ap, andM_ap, orM_ap, notM_ap, ifM_ap, andVM_ap, orVM_ap, notVM_ap, immM_ap, imM_ap, ixT_ap, yesM_ap, mutM_ap, mvM_ap, clF_ap, clT_ap, bdName_ap, itemsM_ap, asgG_ap, envF_ap, envP_ap, callF_ap, callP_ap, ownAt0_ap, itemsD_lst, itemsD_tup, chM_ap, slM_ap, noM_ap, partM_ap, bdB_ap, bdTup_ap, bdList_cons, bdList_nil, List.length_cons, List.length_nil, List.set_cons_succ, List.set_cons_zero, List.getElem?_cons_zero, List.getElem?_cons_succ, List.map_cons, List.map_nil, List.cons_append, List.nil_append, List.replicate, Nat.zero_add, Nat.reduceAdd, Nat.reduceSub, Nat.reduceLT, Nat.reduceLeDiff, Nat.reduceEqDiff, if_true, if_false, reduceIte, Bool.false_eq_true, NxS_nx, NxS_ct, RetF_ret, RetP_ret, imm, Bool.not_true, Bool.not_false]
    unfold sgD
    have : (dg x).cps.toList = [48 + x] := dg_tl x h
    rw [this, dg_mk h]
    rfl
  have hix : ixF [.str (dg x), .int 0] = some (.str (dg x)) := by
    have e : ixF [.str (dg x), .int 0] = (atI (dg x).cps.toList 0).map fun c => .str ⟨#[c]⟩ := if_pos (by rw [dg_len x h, sizeLine_eq]; omega)
    have : (dg x).cps.toList = [48 + x] := dg_tl x h
    rw [e, this, dg_mk h]
    rfl
  unfold f_is_number m_is_number
  have h11 : decide ((1 : Int) ≤ 1) = true := rfl
  have h30 : decide ((1 : Int) ≤ 30) = true := rfl
  simp only [lstM_ap, tupM_ap, le_size, seqM_ap, nxM_ap, brM_ap, ctM_ap, retM_ap, retNM_ap, ifS_ap, asgF_ap, asgO_ap, dropM_ap, frzE_ap, frzM_ap, rdM_ap, vrM_ap, cM_ap, nilM_ap, consM_ap, consTM_ap, consNM_ap, opM_ap, tstM_ap, andM_ap, orM_ap, notM_ap, ifM_ap, andVM_ap, orVM_ap, notVM_ap, immM_ap, imM_ap, ixT_ap, yesM_ap, mutM_ap, mvM_ap, clF_ap, clT_ap, bdName_ap, itemsM_ap, asgG_ap, envF_ap, envP_ap, callF_ap, callP_ap, ownAt0_ap, itemsD_lst, itemsD_tup, chM_ap, slM_ap, noM_ap, partM_ap, bdB_ap, bdTup_ap, bdList_cons, bdList_nil, List.length_cons, List.length_nil, List.set_cons_succ, List.set_cons_zero, List.getElem?_cons_zero, List.getElem?_cons_succ, List.map_cons, List.map_nil, List.cons_append, List.nil_append, List.replicate, Nat.zero_add, Nat.reduceAdd, Nat.reduceSub, Nat.reduceLT, Nat.reduceLeDiff, Nat.reduceEqDiff, if_true, if_false, reduceIte, Bool.false_eq_true, NxS_nx, NxS_ct, RetF_ret, RetP_ret, imm, Bool.not_true, Bool.not_false, hl, h11, h30]
  generalize hC : lcM _ _ _ _ _ _ = rc
  have hc := lc_on' hC [x] (fun x => D.str (dg x)) (fun _ => .bl true) (by rw [hsg]) trivial (by simp) fun y hy => by
    have hy' := List.mem_singleton.mp hy
    subst hy'
    have hz : inSgF [.str (dg y), .str "0123456789"] = some (.bl true) := by
      have : (dg y).cps.toList = [48 + y] := dg_tl y h
      unfold inSgF
      dsimp only
      rw [this]
      dsimp only
      rw [decide_eq_true (hin y h)]
    simp only [lstM_ap, tupM_ap, le_size, seqM_ap, nxM_ap, brM_ap, ctM_ap, retM_ap, retNM_ap, ifS_ap, asgF_ap, asgO_ap, dropM_ap, frzE_ap, frzM_ap, rdM_ap, vrM_ap, cM_ap, nilM_ap, consM_ap, consTM_ap, consNM_ap, opM_ap, tstM_ap, andM_ap, orM_ap, notM_ap, ifM_ap, andVM_ap, orVM_ap, notVM_ap, immM_ap, imM_ap, ixT_ap, yesM_ap, mutM_ap, mvM_ap, clF_ap, clT_ap, bdName_ap, itemsM_ap, asgG_ap, envF_ap, envP_ap, callF_ap, callP_ap, ownAt0_ap, itemsD_lst, itemsD_tup, chM_ap, slM_ap, noM_ap, partM_ap, bdB_ap, bdTup_ap, bdList_cons, bdList_nil, List.length_cons, List.length_nil, List.set_cons_succ, List.set_cons_zero, List.getElem?_cons_zero, List.getElem?_cons_succ, List.map_cons, List.map_nil, List.cons_append, List.nil_append, List.replicate, Nat.zero_add, Nat.reduceAdd, Nat.reduceSub, Nat.reduceLT, Nat.reduceLeDiff, Nat.reduceEqDiff, if_true, if_false, reduceIte, Bool.false_eq_true, NxS_nx, NxS_ct, RetF_ret, RetP_ret, imm, Bool.not_true, Bool.not_false, hz]
  subst hc
  have hall : allF [.lst [D.bl true]] = some (.bl true) := allF_map (fun _ => true) [x]
  have hq := eqF_str (dg_lo h) lo_0
  have hn := neF_str (dg_lo h) lo_0
  rw [dg_zero h] at hq hn
  by_cases c : x = 0
  · rw [decide_eq_true c] at hq
    simp only [lstM_ap, tupM_ap, le_size, seqM_ap, nxM_ap, brM_ap, ctM_ap, retM_ap, retNM_ap, ifS_ap, asgF_ap, asgO_ap, dropM_ap, frzE_ap, frzM_ap, rdM_ap, vrM_ap, cM_ap, nilM_ap, consM_ap, consTM_ap, consNM_ap, opM_ap, tstM_ap, andM_ap, orM_ap, notM_ap, ifM_ap, andVM_ap, orVM_ap, notVM_ap, immM_ap, imM_ap, ixT_ap, yesM_ap, mutM_ap, mvM_ap, clF_ap, clT_ap, bdName_ap, itemsM_ap, asgG_ap, envF_ap, envP_ap, callF_ap, callP_ap, ownAt0_ap, itemsD_lst, itemsD_tup, chM_ap, slM_ap, noM_ap, partM_ap, bdB_ap, bdTup_ap, bdList_cons, bdList_nil, List.length_cons, List.length_nil, List.set_cons_succ, List.set_cons_zero, List.getElem?_cons_zero, List.getElem?_cons_succ, List.map_cons, List.map_nil, List.cons_append, List.nil_append, List.replicate, Nat.zero_add, Nat.reduceAdd, Nat.reduceSub, Nat.reduceLT, Nat.reduceLeDiff, Nat.reduceEqDiff, if_true, if_false, reduceIte, Bool.false_eq_true, NxS_nx, NxS_ct, RetF_ret, RetP_ret, imm, Bool.not_true, Bool.not_false, hall, m_is_number_3, orVM_ap, hq]
  · rw [decide_eq_false c] at hq hn
    simp only [lstM_ap, tupM_ap, le_size, seqM_ap, nxM_ap, brM_ap, ctM_ap, retM_ap, retNM_ap, ifS_ap, asgF_ap, asgO_ap, dropM_ap, frzE_ap, frzM_ap, rdM_ap, vrM_ap, cM_ap, nilM_ap, consM_ap, consTM_ap, consNM_ap, opM_ap, tstM_ap, andM_ap, orM_ap, notM_ap, ifM_ap, andVM_ap, orVM_ap, notVM_ap, immM_ap, imM_ap, ixT_ap, yesM_ap, mutM_ap, mvM_ap, clF_ap, clT_ap, bdName_ap, itemsM_ap, asgG_ap, envF_ap, envP_ap, callF_ap, callP_ap, ownAt0_ap, itemsD_lst, itemsD_tup, chM_ap, slM_ap, noM_ap, partM_ap, bdB_ap, bdTup_ap, bdList_cons, bdList_nil, List.length_cons, List.length_nil, List.set_cons_succ, List.set_cons_zero, List.getElem?_cons_zero, List.getElem?_cons_succ, List.map_cons, List.map_nil, List.cons_append, List.nil_append, List.replicate, Nat.zero_add, Nat.reduceAdd, Nat.reduceSub, Nat.reduceLT, Nat.reduceLeDiff, Nat.reduceEqDiff, if_true, if_false, reduceIte, Bool.false_eq_true, NxS_nx, NxS_ct, RetF_ret, RetP_ret, imm, Bool.not_true, Bool.not_false, hall, m_is_number_3, orVM_ap, hq, hix, hn]
theorem rings_in_ok {Q : List (List Nat)} (S : Small Q) (h1 : ∀ r ∈ Q, r ≠ []) : f_rings_in [.str (txt Q)] = .ret (.lst (Q.map lstN)) := by
  have hlo := txt_lo S
  have hq := eqF_str hlo lo_nil
  unfold f_rings_in m_rings_in
  by_cases c : Q = []
  · subst c
    have e : txt [] = "()" := if_pos rfl
    rw [e] at hq ⊢
    rw [decide_eq_true rfl] at hq
    simp only [lstM_ap, tupM_ap, le_size, seqM_ap, nxM_ap, brM_ap, ctM_ap, retM_ap, retNM_ap, ifS_ap, asgF_ap, asgO_ap, dropM_ap, frzE_ap, frzM_ap, rdM_ap, vrM_ap, cM_ap, nilM_ap, consM_ap, consTM_ap, consNM_ap, opM_ap, tstM_ap, andM_ap, orM_ap, notM_ap, ifM_ap, andVM_ap, orVM_ap, notVM_ap, immM_ap, imM_ap, ixT_ap, yesM_ap, mutM_ap, mvM_ap, clF_ap, clT_ap, bdName_ap, itemsM_ap, asgG_ap, envF_ap, envP_ap, callF_ap, callP_ap, ownAt0_ap, itemsD_lst, itemsD_tup, chM_ap, slM_ap, noM_ap, partM_ap, bdB_ap, bdTup_ap, bdList_cons, bdList_nil, List.length_cons, List.length_nil, List.set_cons_succ, List.set_cons_zero, List.getElem?_cons_zero, List.getElem?_cons_succ, List.map_cons, List.map_nil, List.cons_append, List.nil_append, List.replicate, Nat.zero_add, Nat.reduceAdd, Nat.reduceSub, Nat.reduceLT, Nat.reduceLeDiff, Nat.reduceEqDiff, if_true, if_false, reduceIte, Bool.false_eq_true, NxS_nx, NxS_ct, RetF_ret, RetP_ret, imm, Bool.not_true, Bool.not_false, hq, le_size (show 0 < 1000000 by omega)]
  · obtain ⟨l1, l2⟩ := txt_len S c
    obtain ⟨c1, c2, c3⟩ := cut_txt S c
    have hml : 0 < (tl (mid Q)).length := by
      obtain ⟨r, Q', rfl⟩ := List.exists_cons_of_ne_nil c
      have hp := List.length_pos_iff.mpr (h1 r List.mem_cons_self)
      have hpi : 0 < (tl (inr7 r)).length := by
        obtain ⟨x, r', rfl⟩ := List.exists_cons_of_ne_nil (h1 r List.mem_cons_self)
        have hx := dg_tl x (S.lt _ List.mem_cons_self x List.mem_cons_self)
        unfold inr7
        rw [join_eq]
        cases r' with
        | nil =>
          show 0 < (tl (dg x)).length
          rw [hx]
          simp
        | cons y r'' =>
          show 0 < (tl (dg x ++ " " ++ Str.join " " ((y :: r'').map dg))).length
          rw [tl_append, tl_append, hx]
          simp
      unfold mid
      rw [join_eq]
      cases Q' with
      | nil => exact hpi
      | cons q Q'' =>
        show 0 < (tl (inr7 r ++ ") (" ++ Str.join ") (" ((q :: Q'').map inr7))).length
        rw [tl_append, tl_append, List.length_append, List.length_append]
        omega
    have hne : txt Q ≠ "()" := fun z => by
      rw [z, show ("()" : Str).length = 2 by decide] at l1
      omega
    rw [decide_eq_false hne] at hq
    have s1 : slF (.str (txt Q)) none (some 1) = some (.str "(") := by rw [← c1]; exact if_pos (by rw [sizeLine_eq]; omega)
    have s2 : slF (.str (txt Q)) (some (-1)) none = some (.str ")") := by rw [← c2]; exact if_pos (by rw [sizeLine_eq]; omega)
    have s3 : slF (.str (txt Q)) (some 1) (some (-1)) = some (.str (mid Q)) := by rw [← c3]; exact if_pos (by rw [sizeLine_eq]; omega)
    have n1 := neF_str lo_op lo_op
    have n2 := neF_str lo_cl lo_cl
    rw [decide_eq_true rfl] at n1 n2
    have hneg : negF [.int 1] = some (.int (-1)) := rfl
    have hsp := splitS_ok (z := mid Q) (b := ") (") (by rw [len_tl]; omega) (by decide +kernel)
    rw [split_mid S c, List.map_map] at hsp
    simp only [lstM_ap, tupM_ap, le_size, seqM_ap, nxM_ap, brM_ap, ctM_ap, retM_ap, retNM_ap, ifS_ap, asgF_ap, asgO_ap, dropM_ap, frzE_ap, frzM_ap, rdM_ap, vrM_ap, cM_ap, nilM_ap, consM_ap, consTM_ap, consNM_ap, opM_ap, tstM_ap, andM_ap, orM_ap, notM_ap, ifM_ap, andVM_ap, orVM_ap, notVM_ap, immM_ap, imM_ap, ixT_ap, yesM_ap, mutM_ap, mvM_ap, clF_ap, clT_ap, bdName_ap, itemsM_ap, asgG_ap, envF_ap, envP_ap, callF_ap, callP_ap, ownAt0_ap, itemsD_lst, itemsD_tup, chM_ap, slM_ap, noM_ap, partM_ap, bdB_ap, bdTup_ap, bdList_cons, bdList_nil, List.length_cons, List.length_nil, List.set_cons_succ, List.set_cons_zero, List.getElem?_cons_zero, List.getElem?_cons_succ, List.map_cons, List.map_nil, List.cons_append, List.nil_append, List.replicate, Nat.zero_add, Nat.reduceAdd, Nat.reduceSub, Nat.reduceLT, Nat.reduceLeDiff, Nat.reduceEqDiff, if_true, if_false, reduceIte, Bool.false_eq_true, NxS_nx, NxS_ct, RetF_ret, RetP_ret, imm, Bool.not_true, Bool.not_false, hq, m_rings_in_3, m_rings_in_5, hneg, s1, s2, n1, n2, le_size (show 0 < 1000000 by omega)]
    generalize hL : loopM _ _ _ _ = rr
    obtain ⟨e', rfl, d2, d3, rfl⟩ := for_items hL Q (fun r => D.str (inr7 r)) (fun done e => ∃ (d2 d3 : Option (Bool × D)), e = [some (false, .str (txt Q)), some (true, .lst (done.map lstN)), d2, d3, none])
      (by
        simp only [lstM_ap, tupM_ap, le_size, seqM_ap, nxM_ap, brM_ap, ctM_ap, retM_ap, retNM_ap, ifS_ap, asgF_ap, asgO_ap, dropM_ap, frzE_ap, frzM_ap, rdM_ap, vrM_ap, cM_ap, nilM_ap, consM_ap, consTM_ap, consNM_ap, opM_ap, tstM_ap, andM_ap, orM_ap, notM_ap, ifM_ap, andVM_ap, orVM_ap, notVM_ap, immM_ap, imM_ap, ixT_ap, yesM_ap, mutM_ap, mvM_ap, clF_ap, clT_ap, bdName_ap, itemsM_ap, asgG_ap, envF_ap, envP_ap, callF_ap, callP_ap, ownAt0_ap, itemsD_lst, itemsD_tup, chM_ap, slM_ap, noM_ap, partM_ap, bdB_ap, bdTup_ap, bdList_cons, bdList_nil, List.length_cons, List.length_nil, List.set_cons_succ, List.set_cons_zero, List.getElem?_cons_zero, List.getElem?_cons_succ, List.map_cons, List.map_nil, List.cons_append, List.nil_append, List.replicate, Nat.zero_add, Nat.reduceAdd, Nat.reduceSub, Nat.reduceLT, Nat.reduceLeDiff, Nat.reduceEqDiff, if_true, if_false, reduceIte, Bool.false_eq_true, NxS_nx, NxS_ct, RetF_ret, RetP_ret, imm, Bool.not_true, Bool.not_false, strM_ap, hneg, s3, hsp]
        rfl) ⟨none, none, rfl⟩ (by
      rintro done r rest e hh ⟨d2, d3, rfl⟩
      have hr : r ∈ Q := by rw [hh]; simp
      have h8 := S.lt r hr
      have hr8 := S.ln r hr
      have hdl : done.length ≤ 8 := by
        have := congrArg List.length hh
        rw [List.length_append, List.length_cons] at this
        have := S.len
        omega
      have hsp := splitS_ok (z := inr7 r) (b := " ") (by have := inr_len h8; omega) (by decide +kernel)
      rw [split_inr h8 (h1 r hr), List.map_map] at hsp
      have hsp' : splitS (inr7 r) (.str " ") = some (.lst (r.map fun x => D.str (dg x))) := hsp
      simp only [lstM_ap, tupM_ap, le_size, seqM_ap, nxM_ap, brM_ap, ctM_ap, retM_ap, retNM_ap, ifS_ap, asgF_ap, asgO_ap, dropM_ap, frzE_ap, frzM_ap, rdM_ap, vrM_ap, cM_ap, nilM_ap, consM_ap, consTM_ap, consNM_ap, opM_ap, tstM_ap, andM_ap, orM_ap, notM_ap, ifM_ap, andVM_ap, orVM_ap, notVM_ap, immM_ap, imM_ap, ixT_ap, yesM_ap, mutM_ap, mvM_ap, clF_ap, clT_ap, bdName_ap, itemsM_ap, asgG_ap, envF_ap, envP_ap, callF_ap, callP_ap, ownAt0_ap, itemsD_lst, itemsD_tup, chM_ap, slM_ap, noM_ap, partM_ap, bdB_ap, bdTup_ap, bdList_cons, bdList_nil, List.length_cons, List.length_nil, List.set_cons_succ, List.set_cons_zero, List.getElem?_cons_zero, List.getElem?_cons_succ, List.map_cons, List.map_nil, List.cons_append, List.nil_append, List.replicate, Nat.zero_add, Nat.reduceAdd, Nat.reduceSub, Nat.reduceLT, Nat.reduceLeDiff, Nat.reduceEqDiff, if_true, if_false, reduceIte, Bool.false_eq_true, NxS_nx, NxS_ct, RetF_ret, RetP_ret, imm, Bool.not_true, Bool.not_false, m_rings_in_7, strM_ap, hsp']
      generalize hC : lcM _ _ _ _ (clF _ _) _ = rc
      have hc := lc_on' hC r (fun x => D.str (dg x)) (fun _ => .bl true) (by simp only [lstM_ap, tupM_ap, le_size, seqM_ap, nxM_ap, brM_ap, ctM_ap, retM_ap, retNM_ap, ifS_ap, asgF_ap, asgO_ap, dropM_ap, frzE_ap, frzM_ap, rdM_ap, vrM_ap, cM_ap, nilM_ap, consM_ap, consTM_ap, consNM_ap, opM_ap, tstM_ap, andM_ap, orM_ap, notM_ap, ifM_ap, andVM_ap, orVM_ap, notVM_ap, immM_ap, imM_ap, ixT_ap, yesM_ap, mutM_ap, mvM_ap, clF_ap, clT_ap, bdName_ap, itemsM_ap, asgG_ap, envF_ap, envP_ap, callF_ap, callP_ap, ownAt0_ap, itemsD_lst, itemsD_tup, chM_ap, slM_ap, noM_ap, partM_ap, bdB_ap, bdTup_ap, bdList_cons, bdList_nil, List.length_cons, List.length_nil, List.set_cons_succ, List.set_cons_zero, List.getElem?_cons_zero, List.getElem?_cons_succ, List.map_cons, List.map_nil, List.cons_append, List.nil_append, List.replicate, Nat.zero_add, Nat.reduceAdd, Nat.reduceSub, Nat.reduceLT, Nat.reduceLeDiff, Nat.reduceEqDiff, if_true, if_false, reduceIte, Bool.false_eq_true, NxS_nx, NxS_ct, RetF_ret, RetP_ret, imm, Bool.not_true, Bool.not_false]) trivial (by omega) fun x hx => by
        simp only [lstM_ap, tupM_ap, le_size, seqM_ap, nxM_ap, brM_ap, ctM_ap, retM_ap, retNM_ap, ifS_ap, asgF_ap, asgO_ap, dropM_ap, frzE_ap, frzM_ap, rdM_ap, vrM_ap, cM_ap, nilM_ap, consM_ap, consTM_ap, consNM_ap, opM_ap, tstM_ap, andM_ap, orM_ap, notM_ap, ifM_ap, andVM_ap, orVM_ap, notVM_ap, immM_ap, imM_ap, ixT_ap, yesM_ap, mutM_ap, mvM_ap, clF_ap, clT_ap, bdName_ap, itemsM_ap, asgG_ap, envF_ap, envP_ap, callF_ap, callP_ap, ownAt0_ap, itemsD_lst, itemsD_tup, chM_ap, slM_ap, noM_ap, partM_ap, bdB_ap, bdTup_ap, bdList_cons, bdList_nil, List.length_cons, List.length_nil, List.set_cons_succ, List.set_cons_zero, List.getElem?_cons_zero, List.getElem?_cons_succ, List.map_cons, List.map_nil, List.cons_append, List.nil_append, List.replicate, Nat.zero_add, Nat.reduceAdd, Nat.reduceSub, Nat.reduceLT, Nat.reduceLeDiff, Nat.reduceEqDiff, if_true, if_false, reduceIte, Bool.false_eq_true, NxS_nx, NxS_ct, RetF_ret, RetP_ret, imm, Bool.not_true, Bool.not_false, number_ok (h8 x hx)]
      subst hc
      have hall : allF [.lst (r.map fun _ => D.bl true)] = some (.bl true) := by
        rw [allF_map (fun _ => true) r]
        simp
      simp only [lstM_ap, tupM_ap, le_size, seqM_ap, nxM_ap, brM_ap, ctM_ap, retM_ap, retNM_ap, ifS_ap, asgF_ap, asgO_ap, dropM_ap, frzE_ap, frzM_ap, rdM_ap, vrM_ap, cM_ap, nilM_ap, consM_ap, consTM_ap, consNM_ap, opM_ap, tstM_ap, andM_ap, orM_ap, notM_ap, ifM_ap, andVM_ap, orVM_ap, notVM_ap, immM_ap, imM_ap, ixT_ap, yesM_ap, mutM_ap, mvM_ap, clF_ap, clT_ap, bdName_ap, itemsM_ap, asgG_ap, envF_ap, envP_ap, callF_ap, callP_ap, ownAt0_ap, itemsD_lst, itemsD_tup, chM_ap, slM_ap, noM_ap, partM_ap, bdB_ap, bdTup_ap, bdList_cons, bdList_nil, List.length_cons, List.length_nil, List.set_cons_succ, List.set_cons_zero, List.getElem?_cons_zero, List.getElem?_cons_succ, List.map_cons, List.map_nil, List.cons_append, List.nil_append, List.replicate, Nat.zero_add, Nat.reduceAdd, Nat.reduceSub, Nat.reduceLT, Nat.reduceLeDiff, Nat.reduceEqDiff, if_true, if_false, reduceIte, Bool.false_eq_true, NxS_nx, NxS_ct, RetF_ret, RetP_ret, imm, Bool.not_true, Bool.not_false, hall, m_rings_in_10]
      generalize hC : lcM _ _ _ _ _ _ = rc
      have hc := lc_on' hC r (fun x => D.str (dg x)) (fun (x : Nat) => .int (x : Int)) (by simp only [lstM_ap, tupM_ap, le_size, seqM_ap, nxM_ap, brM_ap, ctM_ap, retM_ap, retNM_ap, ifS_ap, asgF_ap, asgO_ap, dropM_ap, frzE_ap, frzM_ap, rdM_ap, vrM_ap, cM_ap, nilM_ap, consM_ap, consTM_ap, consNM_ap, opM_ap, tstM_ap, andM_ap, orM_ap, notM_ap, ifM_ap, andVM_ap, orVM_ap, notVM_ap, immM_ap, imM_ap, ixT_ap, yesM_ap, mutM_ap, mvM_ap, clF_ap, clT_ap, bdName_ap, itemsM_ap, asgG_ap, envF_ap, envP_ap, callF_ap, callP_ap, ownAt0_ap, itemsD_lst, itemsD_tup, chM_ap, slM_ap, noM_ap, partM_ap, bdB_ap, bdTup_ap, bdList_cons, bdList_nil, List.length_cons, List.length_nil, List.set_cons_succ, List.set_cons_zero, List.getElem?_cons_zero, List.getElem?_cons_succ, List.map_cons, List.map_nil, List.cons_append, List.nil_append, List.replicate, Nat.zero_add, Nat.reduceAdd, Nat.reduceSub, Nat.reduceLT, Nat.reduceLeDiff, Nat.reduceEqDiff, if_true, if_false, reduceIte, Bool.false_eq_true, NxS_nx, NxS_ct, RetF_ret, RetP_ret, imm, Bool.not_true, Bool.not_false]) trivial (by omega) fun x hx => by
        simp only [lstM_ap, tupM_ap, le_size, seqM_ap, nxM_ap, brM_ap, ctM_ap, retM_ap, retNM_ap, ifS_ap, asgF_ap, asgO_ap, dropM_ap, frzE_ap, frzM_ap, rdM_ap, vrM_ap, cM_ap, nilM_ap, consM_ap, consTM_ap, consNM_ap, opM_ap, tstM_ap, andM_ap, orM_ap, notM_ap, ifM_ap, andVM_ap, orVM_ap, notVM_ap, immM_ap, imM_ap, ixT_ap, yesM_ap, mutM_ap, mvM_ap, clF_ap, clT_ap, bdName_ap, itemsM_ap, asgG_ap, envF_ap, envP_ap, callF_ap, callP_ap, ownAt0_ap, itemsD_lst, itemsD_tup, chM_ap, slM_ap, noM_ap, partM_ap, bdB_ap, bdTup_ap, bdList_cons, bdList_nil, List.length_cons, List.length_nil, List.set_cons_succ, List.set_cons_zero, List.getElem?_cons_zero, List.getElem?_cons_succ, List.map_cons, List.map_nil, List.cons_append, List.nil_append, List.replicate, Nat.zero_add, Nat.reduceAdd, Nat.reduceSub, Nat.reduceLT, Nat.reduceLeDiff, Nat.reduceEqDiff, if_true, if_false, reduceIte, Bool.false_eq_true, NxS_nx, NxS_ct, RetF_ret, RetP_ret, imm, Bool.not_true, Bool.not_false, intS_dg (h8 x hx)]
      subst hc
      have hap := appendF_ok (ds := done.map lstN) (d := .lst (r.map fun (x : Nat) => D.int (x : Int))) (by rw [List.length_map]; omega)
      simp only [lstM_ap, tupM_ap, le_size, seqM_ap, nxM_ap, brM_ap, ctM_ap, retM_ap, retNM_ap, ifS_ap, asgF_ap, asgO_ap, dropM_ap, frzE_ap, frzM_ap, rdM_ap, vrM_ap, cM_ap, nilM_ap, consM_ap, consTM_ap, consNM_ap, opM_ap, tstM_ap, andM_ap, orM_ap, notM_ap, ifM_ap, andVM_ap, orVM_ap, notVM_ap, immM_ap, imM_ap, ixT_ap, yesM_ap, mutM_ap, mvM_ap, clF_ap, clT_ap, bdName_ap, itemsM_ap, asgG_ap, envF_ap, envP_ap, callF_ap, callP_ap, ownAt0_ap, itemsD_lst, itemsD_tup, chM_ap, slM_ap, noM_ap, partM_ap, bdB_ap, bdTup_ap, bdList_cons, bdList_nil, List.length_cons, List.length_nil, List.set_cons_succ, List.set_cons_zero, List.getElem?_cons_zero, List.getElem?_cons_succ, List.map_cons, List.map_nil, List.cons_append, List.nil_append, List.replicate, Nat.zero_add, Nat.reduceAdd, Nat.reduceSub, Nat.reduceLT, Nat.reduceLeDiff, Nat.reduceEqDiff, if_true, if_false, reduceIte, Bool.false_eq_true, NxS_nx, NxS_ct, RetF_ret, RetP_ret, imm, Bool.not_true, Bool.not_false, hap]
      refine ⟨some (false, .str (inr7 r)), some (false, .lst (r.map fun x => D.str (dg x))), ?_⟩
      rw [List.map_append]
      rfl)
    simp only [lstM_ap, tupM_ap, le_size, seqM_ap, nxM_ap, brM_ap, ctM_ap, retM_ap, retNM_ap, ifS_ap, asgF_ap, asgO_ap, dropM_ap, frzE_ap, frzM_ap, rdM_ap, vrM_ap, cM_ap, nilM_ap, consM_ap, consTM_ap, consNM_ap, opM_ap, tstM_ap, andM_ap, orM_ap, notM_ap, ifM_ap, andVM_ap, orVM_ap, notVM_ap, immM_ap, imM_ap, ixT_ap, yesM_ap, mutM_ap, mvM_ap, clF_ap, clT_ap, bdName_ap, itemsM_ap, asgG_ap, envF_ap, envP_ap, callF_ap, callP_ap, ownAt0_ap, itemsD_lst, itemsD_tup, chM_ap, slM_ap, noM_ap, partM_ap, bdB_ap, bdTup_ap, bdList_cons, bdList_nil, List.length_cons, List.length_nil, List.set_cons_succ, List.set_cons_zero, List.getElem?_cons_zero, List.getElem?_cons_succ, List.map_cons, List.map_nil, List.cons_append, List.nil_append, List.replicate, Nat.zero_add, Nat.reduceAdd, Nat.reduceSub, Nat.reduceLT, Nat.reduceLeDiff, Nat.reduceEqDiff, if_true, if_false, reduceIte, Bool.false_eq_true, NxS_nx, NxS_ct, RetF_ret, RetP_ret, imm, Bool.not_true, Bool.not_false]
end MM

set_option Elab.async false
set_option linter.all false
set_option maxRecDepth 100000
set_option maxHeartbeats 4000000
noncomputable section
namespace MM
open PySem PySem.Spec PyProof.Rows L2 TL

/-! ### the turn of rings -/
open Classical in
def fo (f : Nat → Nat) (n : Nat) (S : Nat → Prop) : List Nat := (List.range n).map fun x => if S x then f x else x
theorem fo_len {f : Nat → Nat} {n : Nat} {S : Nat → Prop} : (fo f n S).length = n := by unfold fo; rw [List.length_map, List.length_range]
theorem fo_set {f : Nat → Nat} {n y : Nat} {S : Nat → Prop} : (fo f n S).set y (f y) = fo f n fun x => S x ∨ x = y := by
  unfold fo
  rw [map_set_range]
  congr 1
  funext b
  by_cases c : b = y
  · subst c
    rw [if_pos rfl, if_pos (.inr rfl)]
  · rw [if_neg c]
    by_cases s : S b
    · rw [if_pos s, if_pos (.inl s)]
    · rw [if_neg s, if_neg fun z => z.elim s c]
theorem fo_congr {f : Nat → Nat} {n : Nat} {S S' : Nat → Prop} (h : ∀ x, S x ↔ S' x) : fo f n S = fo f n S' := by
  rw [show S = S' from funext fun x => propext (h x)]
open Classical in
theorem fo_none {f : Nat → Nat} {n : Nat} {S : Nat → Prop} (h : ∀ x, ¬ S x) : fo f n S = List.range n := by
  unfold fo
  have e : (fun x => if S x then f x else x) = id := funext fun x => if_neg (h x)
  rw [e, List.map_id]
open Classical in
theorem fo_all {l : List Nat} {n : Nat} {S : Nat → Prop} (hl : l.length = n) (h : ∀ x, x < n → ¬ S x → tf l x = x) : fo (tf l) n S = l := by
  refine List.ext_getElem (by rw [fo_len, hl]) fun i h1 h2 => ?_
  have e : tf l i = l[i] := by
    show l.getD i 0 = _
    rw [List.getD_eq_getElem?_getD, List.getElem?_eq_getElem h2]
    rfl
  have hb : (fo (tf l) n S)[i] = if S i then tf l i else i := by
    simp [fo]
  rw [hb]
  split
  · exact e
  · rename_i c
    exact (h i (by omega) c).symm.trans e
def prv (r : List Nat) (j : Nat) : Nat := r.getD (if j = 0 then r.length - 1 else j - 1) 0
theorem prv_step {f : Nat → Nat} {n s : Nat} {r : List Nat} (C : Cyc f n s r) {j : Nat} (hj : j < r.length) : f (prv r j) = r.getD j 0 := by
  unfold prv
  split
  · rename_i h
    rw [C.2, h, C.1.hd]
  · have := C.1.st (j - 1) (by omega)
    rw [this, show j - 1 + 1 = j by omega]
theorem prv_mem {r : List Nat} {x : Nat} : (∃ j, j < r.length ∧ x = prv r j) ↔ x ∈ r := by
  constructor
  · rintro ⟨j, hj, rfl⟩
    unfold prv
    exact getD_mem7 (by split <;> omega)
  · intro h
    obtain ⟨i, hi, rfl⟩ := mem_getD7 h
    by_cases c : i + 1 < r.length
    · exact ⟨i + 1, c, by unfold prv; rw [if_neg (by omega)]; rfl⟩
    · refine ⟨0, by omega, ?_⟩
      unfold prv
      rw [if_pos rfl, show i = r.length - 1 by omega]
theorem whole_nat (x : Nat) : f_is_whole [.int (x : Nat)] = .ret (.bl true) := by
  have i1 : isiF .int [.int (x : Nat), .opq (.ty "int")] = some (.bl true) := rfl
  have i2 : isiF .bool [.int (x : Nat), .opq (.ty "bool")] = some (.bl false) := rfl
  simp only [lstM_ap, tupM_ap, le_size, seqM_ap, nxM_ap, brM_ap, ctM_ap, retM_ap, retNM_ap, ifS_ap, asgF_ap, asgO_ap, dropM_ap, frzE_ap, frzM_ap, rdM_ap, vrM_ap, cM_ap, nilM_ap, consM_ap, consTM_ap, consNM_ap, opM_ap, tstM_ap, andM_ap, orM_ap, notM_ap, ifM_ap, andVM_ap, orVM_ap, notVM_ap, immM_ap, imM_ap, ixT_ap, yesM_ap, mutM_ap, mvM_ap, clF_ap, clT_ap, bdName_ap, itemsM_ap, asgG_ap, envF_ap, envP_ap, callF_ap, callP_ap, ownAt0_ap, itemsD_lst, itemsD_tup, chM_ap, slM_ap, noM_ap, partM_ap, bdB_ap, bdTup_ap, bdList_cons, bdList_nil, List.length_cons, List.length_nil, List.set_cons_succ, List.set_cons_zero, List.getElem?_cons_zero, List.getElem?_cons_succ, List.map_cons, List.map_nil, List.cons_append, List.nil_append, List.replicate, Nat.zero_add, Nat.reduceAdd, Nat.reduceSub, Nat.reduceLT, Nat.reduceLeDiff, Nat.reduceEqDiff, if_true, if_false, reduceIte, Bool.false_eq_true, NxS_nx, NxS_ct, RetF_ret, RetP_ret, imm, Bool.not_true, Bool.not_false, f_is_whole, m_is_whole, i1, i2]
theorem nd_flat {α : Type} {p : List α → Bool} : ∀ {Q : List (List α)}, Q.flatten.Nodup → (Q.filter p).flatten.Nodup ∧ ∀ x ∈ (Q.filter p).flatten, x ∈ Q.flatten
  | [], _ => ⟨List.nodup_nil, fun _ h => nomatch h⟩
  | r :: Q, h => by
    rw [List.flatten_cons] at h
    obtain ⟨h1, h2, h3⟩ := List.nodup_append.mp h
    obtain ⟨i1, i2⟩ := nd_flat (p := p) h2
    rw [List.filter_cons]
    split
    · refine ⟨?_, fun x hx => ?_⟩
      · rw [List.flatten_cons]
        exact List.nodup_append.mpr ⟨h1, i1, fun a ha b hb e => h3 a ha b (i2 b hb) e⟩
      · rw [List.flatten_cons] at hx ⊢
        rcases List.mem_append.mp hx with z | z
        · exact List.mem_append_left _ z
        · exact List.mem_append_right _ (i2 x z)
    · exact ⟨i1, fun x hx => by rw [List.flatten_cons]; exact List.mem_append_right _ (i2 x hx)⟩
theorem turn_of_ok {n : Nat} {l : List Nat} (T : Turn n l) (h1 : 1 ≤ n) (hn : n ≤ 7) : f_turn_of [.int n, .lst ((big (tf l) n).map lstN)] = .ret (tupN l) := by
  have J := tf_inj T
  have S := small_big T hn
  have R := rgs_ok J n (Nat.le_refl _)
  obtain ⟨nd, sub⟩ := nd_flat (p := fun r => decide (1 < r.length)) R.nd
  have hc : ∀ r ∈ big (tf l) n, ∃ s, s < n ∧ Cyc (tf l) n s r := fun r hr => R.cyc r (List.mem_filter.mp hr).1
  have hfx := fun x (hx : x < n) (h : x ∉ (big (tf l) n).flatten) => fx_of J hx h
  have hbd : ∀ x ∈ (big (tf l) n).flatten, x < n := fun x hx => R.lt x (sub x hx)
  have nd : (big (tf l) n).flatten.Nodup := nd
  clear sub R
  generalize big (tf l) n = Q at *
  have hQ := S.len
  have hm1 : decide ((1 : Int) ≤ (n : Nat)) = true := decide_eq_true (by omega)
  have hm2 : decide (((n : Nat) : Int) ≤ 7) = true := decide_eq_true (by omega)
  unfold f_turn_of m_turn_of
  simp only [lstM_ap, tupM_ap, le_size, seqM_ap, nxM_ap, brM_ap, ctM_ap, retM_ap, retNM_ap, ifS_ap, asgF_ap, asgO_ap, dropM_ap, frzE_ap, frzM_ap, rdM_ap, vrM_ap, cM_ap, nilM_ap, consM_ap, consTM_ap, consNM_ap, opM_ap, tstM_ap, andM_ap, orM_ap, notM_ap, ifM_ap, andVM_ap, orVM_ap, notVM_ap, immM_ap, imM_ap, ixT_ap, yesM_ap, mutM_ap, mvM_ap, clF_ap, clT_ap, bdName_ap, itemsM_ap, asgG_ap, envF_ap, envP_ap, callF_ap, callP_ap, ownAt0_ap, itemsD_lst, itemsD_tup, chM_ap, slM_ap, noM_ap, partM_ap, bdB_ap, bdTup_ap, bdList_cons, bdList_nil, List.length_cons, List.length_nil, List.set_cons_succ, List.set_cons_zero, List.getElem?_cons_zero, List.getElem?_cons_succ, List.map_cons, List.map_nil, List.cons_append, List.nil_append, List.replicate, Nat.zero_add, Nat.reduceAdd, Nat.reduceSub, Nat.reduceLT, Nat.reduceLeDiff, Nat.reduceEqDiff, if_true, if_false, reduceIte, Bool.false_eq_true, NxS_nx, NxS_ct, RetF_ret, RetP_ret, imm, Bool.not_true, Bool.not_false, hm1, hm2, m_turn_of_3, lstRg1_ok (show n < 1000000 by omega), le_size (show 0 < 1000000 by omega), lenF_lst, List.length_map]
  generalize hL : loopM _ _ _ _ = rr
  obtain ⟨e', rfl, d4, d5, d6, d7, rfl⟩ := for_rg hL (n := Q.length) (fun i e => ∃ (d4 d5 d6 d7 : Option (Bool × D)), e = [some (false, .int n), some (false, .lst (Q.map lstN)), some (true, lstN (fo (tf l) n fun x => x ∈ (Q.take i).flatten)), some (true, lstN (Q.take i).flatten), d4, d5, d6, d7])
    (by simp only [lstM_ap, tupM_ap, le_size, seqM_ap, nxM_ap, brM_ap, ctM_ap, retM_ap, retNM_ap, ifS_ap, asgF_ap, asgO_ap, dropM_ap, frzE_ap, frzM_ap, rdM_ap, vrM_ap, cM_ap, nilM_ap, consM_ap, consTM_ap, consNM_ap, opM_ap, tstM_ap, andM_ap, orM_ap, notM_ap, ifM_ap, andVM_ap, orVM_ap, notVM_ap, immM_ap, imM_ap, ixT_ap, yesM_ap, mutM_ap, mvM_ap, clF_ap, clT_ap, bdName_ap, itemsM_ap, asgG_ap, envF_ap, envP_ap, callF_ap, callP_ap, ownAt0_ap, itemsD_lst, itemsD_tup, chM_ap, slM_ap, noM_ap, partM_ap, bdB_ap, bdTup_ap, bdList_cons, bdList_nil, List.length_cons, List.length_nil, List.set_cons_succ, List.set_cons_zero, List.getElem?_cons_zero, List.getElem?_cons_succ, List.map_cons, List.map_nil, List.cons_append, List.nil_append, List.replicate, Nat.zero_add, Nat.reduceAdd, Nat.reduceSub, Nat.reduceLT, Nat.reduceLeDiff, Nat.reduceEqDiff, if_true, if_false, reduceIte, Bool.false_eq_true, NxS_nx, NxS_ct, RetF_ret, RetP_ret, imm, Bool.not_true, Bool.not_false, lenF_lst, List.length_map]) (by omega) ⟨none, none, none, none, by rw [fo_none fun x h => (nomatch h)]; rfl⟩ (by
    rintro i hi e ⟨d4, d5, d6, d7, rfl⟩
    have hix : ixF [.lst (Q.map lstN), .int (i : Nat)] = some (lstN Q[i]) := by
      rw [ixF_lst (by omega) (by rw [List.length_map]; omega), Int.toNat_natCast, List.getElem?_map, List.getElem?_eq_getElem hi]
      rfl
    have htk : Q.take (i + 1) = Q.take i ++ [Q[i]] := by
      rw [List.take_succ, List.getElem?_eq_getElem hi]
      rfl
    have hmem : Q[i] ∈ Q := List.getElem_mem hi
    have hsplit : Q = Q.take i ++ (Q[i] :: Q.drop (i + 1)) := by rw [List.getElem_cons_drop, List.take_append_drop]
    have hnd := nd
    rw [hsplit, List.flatten_append, List.flatten_cons] at hnd
    have hlt0 : ∀ x ∈ (Q.take i).flatten, x < n := fun x hx => hbd x (by rw [hsplit, List.flatten_append]; exact List.mem_append_left _ hx)
    rw [htk]
    generalize hr : Q[i] = r at *
    obtain ⟨s, hs, C⟩ := hc r hmem
    have hlt := C.1.lt
    have hr8 := C.1.len
    have hp := C.1.pos
    have hndr := C.1.nd
    have hdis : ∀ x ∈ r, x ∉ (Q.take i).flatten := fun x hx z => (List.nodup_append.mp hnd).2.2 x z x (List.mem_append_left _ hx) rfl
    have hfl : (Q.take i).flatten.length ≤ n := by
      have := len_of_sub (m := List.range n) (List.nodup_append.mp hnd).1 fun x hx => List.mem_range.mpr (hlt0 x hx)
      rwa [List.length_range] at this
    rw [List.flatten_append, List.flatten_singleton]
    generalize (Q.take i).flatten = sn at *
    have hq0 := eqF_lstN r []
    rw [decide_eq_false (fun z => by rw [z] at hp; simp at hp)] at hq0
    have hq : eqF [lstN r, .lst []] = some (.bl false) := hq0
    simp only [lstM_ap, tupM_ap, le_size, seqM_ap, nxM_ap, brM_ap, ctM_ap, retM_ap, retNM_ap, ifS_ap, asgF_ap, asgO_ap, dropM_ap, frzE_ap, frzM_ap, rdM_ap, vrM_ap, cM_ap, nilM_ap, consM_ap, consTM_ap, consNM_ap, opM_ap, tstM_ap, andM_ap, orM_ap, notM_ap, ifM_ap, andVM_ap, orVM_ap, notVM_ap, immM_ap, imM_ap, ixT_ap, yesM_ap, mutM_ap, mvM_ap, clF_ap, clT_ap, bdName_ap, itemsM_ap, asgG_ap, envF_ap, envP_ap, callF_ap, callP_ap, ownAt0_ap, itemsD_lst, itemsD_tup, chM_ap, slM_ap, noM_ap, partM_ap, bdB_ap, bdTup_ap, bdList_cons, bdList_nil, List.length_cons, List.length_nil, List.set_cons_succ, List.set_cons_zero, List.getElem?_cons_zero, List.getElem?_cons_succ, List.map_cons, List.map_nil, List.cons_append, List.nil_append, List.replicate, Nat.zero_add, Nat.reduceAdd, Nat.reduceSub, Nat.reduceLT, Nat.reduceLeDiff, Nat.reduceEqDiff, if_true, if_false, reduceIte, Bool.false_eq_true, NxS_nx, NxS_ct, RetF_ret, RetP_ret, imm, Bool.not_true, Bool.not_false, m_turn_of_6, hix, hq, le_size (show 0 < 1000000 by omega), m_turn_of_9]
    generalize hL1 : loopM _ _ _ _ = r1
    obtain ⟨e', rfl, d6', rfl⟩ := for_items hL1 r (fun (x : Nat) => D.int (x : Int)) (fun done e => ∃ d6 : Option (Bool × D), e = [some (false, .int n), some (false, .lst (Q.map lstN)), some (true, lstN (fo (tf l) n fun x => x ∈ sn)), some (true, lstN (sn ++ done)), some (false, .int (i : Nat)), some (false, lstN r), d6, d7])
      (by simp only [lstM_ap, tupM_ap, le_size, seqM_ap, nxM_ap, brM_ap, ctM_ap, retM_ap, retNM_ap, ifS_ap, asgF_ap, asgO_ap, dropM_ap, frzE_ap, frzM_ap, rdM_ap, vrM_ap, cM_ap, nilM_ap, consM_ap, consTM_ap, consNM_ap, opM_ap, tstM_ap, andM_ap, orM_ap, notM_ap, ifM_ap, andVM_ap, orVM_ap, notVM_ap, immM_ap, imM_ap, ixT_ap, yesM_ap, mutM_ap, mvM_ap, clF_ap, clT_ap, bdName_ap, itemsM_ap, asgG_ap, envF_ap, envP_ap, callF_ap, callP_ap, ownAt0_ap, itemsD_lst, itemsD_tup, chM_ap, slM_ap, noM_ap, partM_ap, bdB_ap, bdTup_ap, bdList_cons, bdList_nil, List.length_cons, List.length_nil, List.set_cons_succ, List.set_cons_zero, List.getElem?_cons_zero, List.getElem?_cons_succ, List.map_cons, List.map_nil, List.cons_append, List.nil_append, List.replicate, Nat.zero_add, Nat.reduceAdd, Nat.reduceSub, Nat.reduceLT, Nat.reduceLeDiff, Nat.reduceEqDiff, if_true, if_false, reduceIte, Bool.false_eq_true, NxS_nx, NxS_ct, RetF_ret, RetP_ret, imm, Bool.not_true, Bool.not_false]; rfl) ⟨d6, by rw [List.append_nil]⟩ (by
      rintro done x rest e hh ⟨d6, rfl⟩
      have hx : x ∈ r := by rw [hh]; simp
      have hxn := hlt x hx
      have hnot : x ∉ sn ++ done := fun z => by
        rcases List.mem_append.mp z with z | z
        · exact hdis x hx z
        · rw [hh] at hndr
          exact (List.nodup_append.mp hndr).2.2 x z x List.mem_cons_self rfl
      have hin := inF_lstN x (sn ++ done)
      rw [decide_eq_false hnot] at hin
      have hdl : done.length ≤ r.length := by
        rw [hh, List.length_append]; omega
      have c1 : decide ((0 : Int) ≤ (x : Nat)) = true := decide_eq_true (by omega)
      have c2 : decide (((x : Nat) : Int) < (n : Nat)) = true := decide_eq_true (by omega)
      have hap : appendF (ofN (sn ++ done)) [.int (x : Nat)] = some (ofN (sn ++ done ++ [x]), .non) := by
        rw [appendF_ok (by rw [ofN_length, List.length_append]; omega), ofN_append (l := sn ++ done)]
        rfl
      simp only [lstM_ap, tupM_ap, le_size, seqM_ap, nxM_ap, brM_ap, ctM_ap, retM_ap, retNM_ap, ifS_ap, asgF_ap, asgO_ap, dropM_ap, frzE_ap, frzM_ap, rdM_ap, vrM_ap, cM_ap, nilM_ap, consM_ap, consTM_ap, consNM_ap, opM_ap, tstM_ap, andM_ap, orM_ap, notM_ap, ifM_ap, andVM_ap, orVM_ap, notVM_ap, immM_ap, imM_ap, ixT_ap, yesM_ap, mutM_ap, mvM_ap, clF_ap, clT_ap, bdName_ap, itemsM_ap, asgG_ap, envF_ap, envP_ap, callF_ap, callP_ap, ownAt0_ap, itemsD_lst, itemsD_tup, chM_ap, slM_ap, noM_ap, partM_ap, bdB_ap, bdTup_ap, bdList_cons, bdList_nil, List.length_cons, List.length_nil, List.set_cons_succ, List.set_cons_zero, List.getElem?_cons_zero, List.getElem?_cons_succ, List.map_cons, List.map_nil, List.cons_append, List.nil_append, List.replicate, Nat.zero_add, Nat.reduceAdd, Nat.reduceSub, Nat.reduceLT, Nat.reduceLeDiff, Nat.reduceEqDiff, if_true, if_false, reduceIte, Bool.false_eq_true, NxS_nx, NxS_ct, RetF_ret, RetP_ret, imm, Bool.not_true, Bool.not_false, m_turn_of_10, m_turn_of_12, whole_nat, c1, c2, hin]
      simp only [lstM_ap, tupM_ap, le_size, seqM_ap, nxM_ap, brM_ap, ctM_ap, retM_ap, retNM_ap, ifS_ap, asgF_ap, asgO_ap, dropM_ap, frzE_ap, frzM_ap, rdM_ap, vrM_ap, cM_ap, nilM_ap, consM_ap, consTM_ap, consNM_ap, opM_ap, tstM_ap, andM_ap, orM_ap, notM_ap, ifM_ap, andVM_ap, orVM_ap, notVM_ap, immM_ap, imM_ap, ixT_ap, yesM_ap, mutM_ap, mvM_ap, clF_ap, clT_ap, bdName_ap, itemsM_ap, asgG_ap, envF_ap, envP_ap, callF_ap, callP_ap, ownAt0_ap, itemsD_lst, itemsD_tup, chM_ap, slM_ap, noM_ap, partM_ap, bdB_ap, bdTup_ap, bdList_cons, bdList_nil, List.length_cons, List.length_nil, List.set_cons_succ, List.set_cons_zero, List.getElem?_cons_zero, List.getElem?_cons_succ, List.map_cons, List.map_nil, List.cons_append, List.nil_append, List.replicate, Nat.zero_add, Nat.reduceAdd, Nat.reduceSub, Nat.reduceLT, Nat.reduceLeDiff, Nat.reduceEqDiff, if_true, if_false, reduceIte, Bool.false_eq_true, NxS_nx, NxS_ct, RetF_ret, RetP_ret, imm, Bool.not_true, Bool.not_false, lstN, hap]
      exact ⟨_, by rw [List.append_assoc]⟩)
    simp only [lstM_ap, tupM_ap, le_size, seqM_ap, nxM_ap, brM_ap, ctM_ap, retM_ap, retNM_ap, ifS_ap, asgF_ap, asgO_ap, dropM_ap, frzE_ap, frzM_ap, rdM_ap, vrM_ap, cM_ap, nilM_ap, consM_ap, consTM_ap, consNM_ap, opM_ap, tstM_ap, andM_ap, orM_ap, notM_ap, ifM_ap, andVM_ap, orVM_ap, notVM_ap, immM_ap, imM_ap, ixT_ap, yesM_ap, mutM_ap, mvM_ap, clF_ap, clT_ap, bdName_ap, itemsM_ap, asgG_ap, envF_ap, envP_ap, callF_ap, callP_ap, ownAt0_ap, itemsD_lst, itemsD_tup, chM_ap, slM_ap, noM_ap, partM_ap, bdB_ap, bdTup_ap, bdList_cons, bdList_nil, List.length_cons, List.length_nil, List.set_cons_succ, List.set_cons_zero, List.getElem?_cons_zero, List.getElem?_cons_succ, List.map_cons, List.map_nil, List.cons_append, List.nil_append, List.replicate, Nat.zero_add, Nat.reduceAdd, Nat.reduceSub, Nat.reduceLT, Nat.reduceLeDiff, Nat.reduceEqDiff, if_true, if_false, reduceIte, Bool.false_eq_true, NxS_nx, NxS_ct, RetF_ret, RetP_ret, imm, Bool.not_true, Bool.not_false, m_turn_of_13]
    generalize hL2 : loopM _ _ _ _ = r2
    obtain ⟨e', rfl, d7', rfl⟩ := for_rg hL2 (n := r.length) (fun k e => ∃ d7 : Option (Bool × D), e = [some (false, .int n), some (false, .lst (Q.map lstN)), some (true, lstN (fo (tf l) n fun x => x ∈ sn ∨ ∃ j, j < k ∧ x = prv r j)), some (true, lstN (sn ++ r)), some (false, .int (i : Nat)), some (false, lstN r), d6', d7])
      (by simp only [lstM_ap, tupM_ap, le_size, seqM_ap, nxM_ap, brM_ap, ctM_ap, retM_ap, retNM_ap, ifS_ap, asgF_ap, asgO_ap, dropM_ap, frzE_ap, frzM_ap, rdM_ap, vrM_ap, cM_ap, nilM_ap, consM_ap, consTM_ap, consNM_ap, opM_ap, tstM_ap, andM_ap, orM_ap, notM_ap, ifM_ap, andVM_ap, orVM_ap, notVM_ap, immM_ap, imM_ap, ixT_ap, yesM_ap, mutM_ap, mvM_ap, clF_ap, clT_ap, bdName_ap, itemsM_ap, asgG_ap, envF_ap, envP_ap, callF_ap, callP_ap, ownAt0_ap, itemsD_lst, itemsD_tup, chM_ap, slM_ap, noM_ap, partM_ap, bdB_ap, bdTup_ap, bdList_cons, bdList_nil, List.length_cons, List.length_nil, List.set_cons_succ, List.set_cons_zero, List.getElem?_cons_zero, List.getElem?_cons_succ, List.map_cons, List.map_nil, List.cons_append, List.nil_append, List.replicate, Nat.zero_add, Nat.reduceAdd, Nat.reduceSub, Nat.reduceLT, Nat.reduceLeDiff, Nat.reduceEqDiff, if_true, if_false, reduceIte, Bool.false_eq_true, NxS_nx, NxS_ct, RetF_ret, RetP_ret, imm, Bool.not_true, Bool.not_false, lenF_lstN]) (by omega) ⟨d7, by
        rw [fo_congr (S := fun x => x ∈ sn) (S' := fun x => x ∈ sn ∨ ∃ j, j < 0 ∧ x = prv r j) fun x => ⟨.inl, fun z => z.elim id fun ⟨j, hj, _⟩ => absurd hj (Nat.not_lt_zero _)⟩]⟩ (by
      rintro k hk e ⟨d7, rfl⟩
      have hpl : prv r k < n := hlt _ (prv_mem.mp ⟨k, hk, rfl⟩)
      have hv : ixF [lstN r, .int (k : Nat)] = some (.int (r.getD k 0 : Nat)) := ix_lstN hk
      have hpx : ∃ z : Int, subF [.int (k : Nat), .int 1] = some (.int z) ∧ ixF [lstN r, .int z] = some (.int (prv r k : Nat)) := by
        refine ⟨(k : Int) - 1, rfl, ?_⟩
        unfold prv
        by_cases c : k = 0
        · subst c
          rw [if_pos rfl]
          exact ix_last (k := r.length - 1) (by omega)
        · rw [if_neg c, show (k : Int) - 1 = ((k - 1 : Nat) : Int) by omega]
          exact ix_lstN (by omega)
      obtain ⟨z, z1, z2⟩ := hpx
      have hset := setF_lst (l := fo (tf l) n fun x => x ∈ sn ∨ ∃ j, j < k ∧ x = prv r j) (x := prv r k) (v := r.getD k 0) (by rw [fo_len]; exact hpl)
      rw [← prv_step C hk, fo_set] at hset
      rw [← prv_step C hk] at hv
      simp only [lstM_ap, tupM_ap, le_size, seqM_ap, nxM_ap, brM_ap, ctM_ap, retM_ap, retNM_ap, ifS_ap, asgF_ap, asgO_ap, dropM_ap, frzE_ap, frzM_ap, rdM_ap, vrM_ap, cM_ap, nilM_ap, consM_ap, consTM_ap, consNM_ap, opM_ap, tstM_ap, andM_ap, orM_ap, notM_ap, ifM_ap, andVM_ap, orVM_ap, notVM_ap, immM_ap, imM_ap, ixT_ap, yesM_ap, mutM_ap, mvM_ap, clF_ap, clT_ap, bdName_ap, itemsM_ap, asgG_ap, envF_ap, envP_ap, callF_ap, callP_ap, ownAt0_ap, itemsD_lst, itemsD_tup, chM_ap, slM_ap, noM_ap, partM_ap, bdB_ap, bdTup_ap, bdList_cons, bdList_nil, List.length_cons, List.length_nil, List.set_cons_succ, List.set_cons_zero, List.getElem?_cons_zero, List.getElem?_cons_succ, List.map_cons, List.map_nil, List.cons_append, List.nil_append, List.replicate, Nat.zero_add, Nat.reduceAdd, Nat.reduceSub, Nat.reduceLT, Nat.reduceLeDiff, Nat.reduceEqDiff, if_true, if_false, reduceIte, Bool.false_eq_true, NxS_nx, NxS_ct, RetF_ret, RetP_ret, imm, Bool.not_true, Bool.not_false, m_turn_of_14, setM_ap, hv, z1, z2, hset]
      refine ⟨some (false, .int (k : Nat)), ?_⟩
      rw [fo_congr (S := fun x => (x ∈ sn ∨ ∃ j, j < k ∧ x = prv r j) ∨ x = prv r k) (S' := fun x => x ∈ sn ∨ ∃ j, j < k + 1 ∧ x = prv r j) fun x => ?_]
      constructor
      · rintro ((w | ⟨j, hj, e⟩) | e)
        · exact .inl w
        · exact .inr ⟨j, by omega, e⟩
        · exact .inr ⟨k, by omega, e⟩
      · rintro (w | ⟨j, hj, e⟩)
        · exact .inl (.inl w)
        · by_cases c : j = k
          · exact .inr (c ▸ e)
          · exact .inl (.inr ⟨j, by omega, e⟩))
    refine ⟨some (false, .int (i : Nat)), some (false, lstN r), d6', d7', ?_⟩
    rw [fo_congr (S' := fun x => x ∈ sn ++ r) fun x => by rw [List.mem_append, prv_mem]])
  rw [List.take_length, fo_all T.len fun x hx h => hfx x hx h]
  simp only [lstM_ap, tupM_ap, le_size, seqM_ap, nxM_ap, brM_ap, ctM_ap, retM_ap, retNM_ap, ifS_ap, asgF_ap, asgO_ap, dropM_ap, frzE_ap, frzM_ap, rdM_ap, vrM_ap, cM_ap, nilM_ap, consM_ap, consTM_ap, consNM_ap, opM_ap, tstM_ap, andM_ap, orM_ap, notM_ap, ifM_ap, andVM_ap, orVM_ap, notVM_ap, immM_ap, imM_ap, ixT_ap, yesM_ap, mutM_ap, mvM_ap, clF_ap, clT_ap, bdName_ap, itemsM_ap, asgG_ap, envF_ap, envP_ap, callF_ap, callP_ap, ownAt0_ap, itemsD_lst, itemsD_tup, chM_ap, slM_ap, noM_ap, partM_ap, bdB_ap, bdTup_ap, bdList_cons, bdList_nil, List.length_cons, List.length_nil, List.set_cons_succ, List.set_cons_zero, List.getElem?_cons_zero, List.getElem?_cons_succ, List.map_cons, List.map_nil, List.cons_append, List.nil_append, List.replicate, Nat.zero_add, Nat.reduceAdd, Nat.reduceSub, Nat.reduceLT, Nat.reduceLeDiff, Nat.reduceEqDiff, if_true, if_false, reduceIte, Bool.false_eq_true, NxS_nx, NxS_ct, RetF_ret, RetP_ret, imm, Bool.not_true, Bool.not_false, m_turn_of_15, tupleF_lst]
theorem read_ok {n : Nat} {l : List Nat} (T : Turn n l) (h1 : 1 ≤ n) (hn : n ≤ 7) : f_read_turn [.int n, .str (txt (big (tf l) n))] = .ret (tupN l) := by
  have S := small_big T hn
  have hr := rings_in_ok S fun r hr e => by
    have := (List.mem_filter.mp hr).2
    rw [e] at this
    simp at this
  have ht := turn_of_ok T h1 hn
  have hs := turn_text T hn
  have hlo := txt_lo S
  have hne := neF_str hlo hlo
  rw [decide_eq_true rfl] at hne
  generalize txt (big (tf l) n) = z at *
  have i1 : isiF .str [.str z, .opq (.ty "str")] = some (.bl true) := rfl
  have htr : tryM1 ["NoTurn"] (asgF 2 (clF f_turn_of (consM (vrM 0) (consM (clF f_rings_in (consM (vrM 1) nilM)) nilM)))) (fun _ => .no) [some (false, .int n), some (false, .str z), none] = .nx [some (false, .int n), some (false, .str z), some (false, tupN l)] := by
    refine tryM1_nx ?_
    simp only [lstM_ap, tupM_ap, le_size, seqM_ap, nxM_ap, brM_ap, ctM_ap, retM_ap, retNM_ap, ifS_ap, asgF_ap, asgO_ap, dropM_ap, frzE_ap, frzM_ap, rdM_ap, vrM_ap, cM_ap, nilM_ap, consM_ap, consTM_ap, consNM_ap, opM_ap, tstM_ap, andM_ap, orM_ap, notM_ap, ifM_ap, andVM_ap, orVM_ap, notVM_ap, immM_ap, imM_ap, ixT_ap, yesM_ap, mutM_ap, mvM_ap, clF_ap, clT_ap, bdName_ap, itemsM_ap, asgG_ap, envF_ap, envP_ap, callF_ap, callP_ap, ownAt0_ap, itemsD_lst, itemsD_tup, chM_ap, slM_ap, noM_ap, partM_ap, bdB_ap, bdTup_ap, bdList_cons, bdList_nil, List.length_cons, List.length_nil, List.set_cons_succ, List.set_cons_zero, List.getElem?_cons_zero, List.getElem?_cons_succ, List.map_cons, List.map_nil, List.cons_append, List.nil_append, List.replicate, Nat.zero_add, Nat.reduceAdd, Nat.reduceSub, Nat.reduceLT, Nat.reduceLeDiff, Nat.reduceEqDiff, if_true, if_false, reduceIte, Bool.false_eq_true, NxS_nx, NxS_ct, RetF_ret, RetP_ret, imm, Bool.not_true, Bool.not_false, hr, ht]
  unfold f_read_turn m_read_turn
  simp only [lstM_ap, tupM_ap, le_size, seqM_ap, nxM_ap, brM_ap, ctM_ap, retM_ap, retNM_ap, ifS_ap, asgF_ap, asgO_ap, dropM_ap, frzE_ap, frzM_ap, rdM_ap, vrM_ap, cM_ap, nilM_ap, consM_ap, consTM_ap, consNM_ap, opM_ap, tstM_ap, andM_ap, orM_ap, notM_ap, ifM_ap, andVM_ap, orVM_ap, notVM_ap, immM_ap, imM_ap, ixT_ap, yesM_ap, mutM_ap, mvM_ap, clF_ap, clT_ap, bdName_ap, itemsM_ap, asgG_ap, envF_ap, envP_ap, callF_ap, callP_ap, ownAt0_ap, itemsD_lst, itemsD_tup, chM_ap, slM_ap, noM_ap, partM_ap, bdB_ap, bdTup_ap, bdList_cons, bdList_nil, List.length_cons, List.length_nil, List.set_cons_succ, List.set_cons_zero, List.getElem?_cons_zero, List.getElem?_cons_succ, List.map_cons, List.map_nil, List.cons_append, List.nil_append, List.replicate, Nat.zero_add, Nat.reduceAdd, Nat.reduceSub, Nat.reduceLT, Nat.reduceLeDiff, Nat.reduceEqDiff, if_true, if_false, reduceIte, Bool.false_eq_true, NxS_nx, NxS_ct, RetF_ret, RetP_ret, imm, Bool.not_true, Bool.not_false, i1, m_read_turn_3, htr, hs, hne]
end MM

set_option Elab.async false
set_option linter.all false
set_option maxRecDepth 100000
set_option maxHeartbeats 4000000
noncomputable section
namespace MM
open PySem PySem.Spec PyProof.Rows L2

/-! ### what can be shown, by its depth, its leaves' length and its bulk -/
def LowS (p : PyData) : Prop := ∀ k, 128 ≤ k → k ∉ p.shown.cps.toList
theorem lowS_int (i : Int) : LowS (.int i) := fun k hk => PyProof.Rows.shown_int_free' ⟨by omega, by omega⟩ i
theorem lowS_join {xs : List PyData} (h : ∀ x ∈ xs, LowS x) {k : Nat} (hk : 128 ≤ k) : k ∉ (Str.join ", " (PyData.shownAll xs)).cps.toList := by
  rw [PyProof.Rows.mem_join, PyProof.Rows.signs_sep]
  rintro (⟨t, ht, hc⟩ | ⟨_, hc⟩)
  · exact PyProof.Rows.shownAll_free (fun x hx => h x hx k hk) t ht hc
  · rcases List.mem_cons.mp hc with z | z
    · omega
    · rw [List.mem_singleton] at z; omega
theorem lowS_tuple {xs : List PyData} (h : ∀ x ∈ xs, LowS x) : LowS (.tuple xs) := fun k hk => by
  rw [PyData.shown_tuple, PyProof.Rows.mem_cps_append, PyProof.Rows.mem_cps_append, PyProof.Rows.signs_lparen]
  rintro ((z | z) | z)
  · rw [List.mem_singleton] at z; omega
  · exact lowS_join h hk z
  · have e1 : ((",)" : String) : Str).cps.toList = [44, 41] := by decide
    have e2 : ((")" : String) : Str).cps.toList = [41] := by decide
    split at z
    · rw [e1] at z
      rcases List.mem_cons.mp z with z | z
      · omega
      · rw [List.mem_singleton] at z; omega
    · rw [e2, List.mem_singleton] at z; omega
theorem lowS_ok {p : PyData} (h : LowS p) : PyData.strOk p.shown = true := by
  unfold PyData.strOk
  rw [Array.all_eq_true']
  intro x hx
  rw [decide_eq_true_eq]
  refine Classical.byContradiction fun hn => h x (by omega) (Array.mem_toList_iff.mpr hx)
structure ShP (c B : Nat) (p : PyData) : Prop where
  lf : PyData.leavesShort c p = true
  sh : PyData.showable p = true
  nd : PyData.hasDict p = false
  bk : PyData.bulk p ≤ B
  lw : LowS p
structure ShPL (c B : Nat) (ps : List PyData) : Prop where
  lf : PyData.leavesShortAll c ps = true
  sh : PyData.showableAll ps = true
  nd : PyData.hasDictAll ps = false
  bk : PyData.bulkAll ps ≤ ps.length * (B + 1)
  lw : ∀ p ∈ ps, LowS p
def ShD (k c B : Nat) (d : D) : Prop := ∃ p, Py k d p ∧ ShP c B p
theorem ShD.mono {k k' c B B' : Nat} {d : D} (h : ShD k c B d) (hk : k ≤ k') (hB : B ≤ B') : ShD k' c B' d := by
  obtain ⟨p, h1, h2⟩ := h
  exact ⟨p, h1.mono hk, h2.lf, h2.sh, h2.nd, Nat.le_trans h2.bk hB, h2.lw⟩
theorem shL {k c B : Nat} : ∀ {ds : List D}, (∀ d ∈ ds, ShD k c B d) → ∃ ps, PyL k ds ps ∧ ShPL c B ps ∧ ps.length = ds.length
  | [], _ => ⟨[], .nil, ⟨rfl, rfl, rfl, by simp [PyData.bulkAll], fun p hp => by cases hp⟩, rfl⟩
  | d :: ds, h => by
    obtain ⟨p, h1, h2⟩ := h d List.mem_cons_self
    obtain ⟨ps, g1, g2, g3⟩ := shL fun x hx => h x (List.mem_cons_of_mem _ hx)
    refine ⟨p :: ps, .cons h1 g1, ⟨?_, ?_, ?_, ?_, ?_⟩, by rw [List.length_cons, g3]; rfl⟩
    · rw [PyData.leavesShortAll, h2.lf, g2.lf]; rfl
    · rw [PyData.showableAll, h2.sh, g2.sh]; rfl
    · rw [PyData.hasDictAll, h2.nd, g2.nd]; rfl
    · rw [PyData.bulkAll, List.length_cons, Nat.succ_mul]
      have := h2.bk
      have := g2.bk
      omega
    · intro q hq
      rcases List.mem_cons.mp hq with rfl | hq
      · exact h2.lw
      · exact g2.lw q hq
theorem sh_tup {k c B N : Nat} {ds : List D} (h : ∀ d ∈ ds, ShD k c B d) (hl : ds.length ≤ N) : ShD (k + 1) c (N * (B + 1)) (.tup ds) := by
  obtain ⟨ps, g1, g2, g3⟩ := shL h
  refine ⟨.tuple ps, .tup g1, ⟨?_, ?_, ?_, ?_, lowS_tuple g2.lw⟩⟩
  · rw [PyData.leavesShort, g2.lf]
  · rw [PyData.showable, g2.sh]
  · rw [PyData.hasDict, g2.nd]
  · rw [PyData.bulk]
    exact Nat.le_trans g2.bk (Nat.mul_le_mul_right _ (by omega))
theorem short_nat : ∀ x, x < 1024 → (PyData.shown (.int (x : Nat))).length ≤ 8 := by decide +kernel
theorem sh_nat {x : Nat} (hx : x < 1024) : ShD 0 8 0 (.int (x : Nat)) := by
  have hlog : ((x : Nat) : Int).natAbs.log2 < 1920 := by
    have : x.log2 < 11 := by
      by_cases z : x = 0
      · subst z; decide
      · exact (Nat.log2_lt z).mpr (by omega)
    simpa using Nat.lt_of_lt_of_le this (by omega)
  refine ⟨.int (x : Nat), .int _, ⟨?_, ?_, ?_, ?_, lowS_int _⟩⟩
  · rw [PyData.leavesShort, decide_eq_true (short_nat x hx)]
  · rw [PyData.showable, decide_eq_true hlog]
  · rw [PyData.hasDict]
  · rw [PyData.bulk]; exact Nat.le_refl _
theorem sh_ints {l : List Nat} (h : ∀ x ∈ l, x < 1024) : ∀ d ∈ ofN l, ShD 0 8 0 d := fun d hd => by
  obtain ⟨x, hx, rfl⟩ := List.mem_map.mp hd
  exact sh_nat (h x hx)
theorem sh_tupN {l : List Nat} {N : Nat} (h : ∀ x ∈ l, x < 1024) (hl : l.length ≤ N) : ShD 1 8 N (tupN l) :=
  (sh_tup (sh_ints h) (by rw [ofN_length]; exact hl)).mono (Nat.le_refl _) (by omega)
theorem showT {k c B : Nat} {ds : List D} (h : ShD k c B (.tup ds)) (hk : k ≤ 30) (hc : 8 ≤ c) (hB : (c + 2) * B + c ≤ 16000000) : ∃ z, reprF [.tup ds] = some (.str z) ∧ PyData.strOk z = true := by
  obtain ⟨p, h1, h2⟩ := h
  have hs := PyData.shown_le_bulk c hc p h2.lf
  have hb : (c + 2) * p.bulk ≤ (c + 2) * B := Nat.mul_le_mul_left _ h2.bk
  have ok : ShowOk p := ⟨h2.sh, h2.nd, by have := h1.dep; omega, by rw [sizeLine_eq]; omega⟩
  have ht := h1.to
  simp only [toPy] at ht
  unfold reprF
  dsimp only
  cases e : toPyL ds with
  | none => rw [e] at ht; cases ht
  | some qs =>
    rw [e] at ht
    cases ht
    dsimp only
    rw [if_pos ok]
    exact ⟨_, rfl, lowS_ok h2.lw⟩
theorem ne_str {z : Str} (hz : PyData.strOk z = true) : neF [.str z, .str z] = some (.bl false) := by
  have h : Py 0 (.str z) (.str z) := ⟨by simp only [toPy], by simp only [PyData.canLay0, hz], by simp only [PyData.depth]; omega⟩
  rw [neF_ap, eqP_refl h]
  rfl
end MM

set_option Elab.async false
set_option linter.all false
set_option maxRecDepth 100000
set_option maxHeartbeats 4000000
noncomputable section
namespace MM
open PySem PySem.Spec PyProof.Rows L2 TL

/-! ### a drawn turn -/
theorem perm_of_sub7 : ∀ {a l : List Nat}, a.Nodup → (∀ x ∈ a, x ∈ l) → a.length = l.length → a.Perm l
  | [], l, _, _, h => by
    have : l = [] := List.eq_nil_of_length_eq_zero h.symm
    rw [this]
  | x :: a, l, nd, s, h => by
    obtain ⟨hx, nd'⟩ := List.nodup_cons.mp nd
    have hm : x ∈ l := s x List.mem_cons_self
    have p := List.perm_cons_erase hm
    have hl := p.length_eq
    rw [List.length_cons] at hl h
    refine (List.Perm.cons x (perm_of_sub7 nd' (fun y hy => ?_) (by omega))).trans p.symm
    exact (List.mem_erase_of_ne (show y ≠ x from fun e => hx (by rw [← e]; exact hy))).mpr (s y (List.mem_cons_of_mem _ hy))
theorem turn_surj {n : Nat} {F : List Nat} (hl : F.length = n) (h : ∀ x, x < n → x ∈ F) : Turn n F :=
  (perm_of_sub7 List.nodup_range (fun x hx => h x (List.mem_range.mp hx)) (by rw [List.length_range, hl])).symm
theorem getD_set7 {F : List Nat} {y v x : Nat} (hy : y < F.length) : (F.set y v).getD x 0 = if x = y then v else F.getD x 0 := by
  rw [List.getD_eq_getElem?_getD, List.getD_eq_getElem?_getD, List.getElem?_set]
  by_cases c : y = x
  · subst c
    simp [hy]
  · rw [if_neg c, if_neg fun z => c z.symm]
def ptn (m j : Nat) : Nat := if j < 2 * m then (if j % 2 = 0 then j + 1 else j - 1) else j
theorem rgc7 : ∀ n : Nat, n < 8 → 1 ≤ n → RgC 1 (n : Int) 2 (n / 2) := by
  unfold RgC
  decide +kernel
theorem turn_any {pen : D} (Pn : Pen pen) {n : Nat} (h1 : 1 ≤ n) (hn : n ≤ 7) : ∃ (l : List Nat) (pen' : D), p__law_turn pen [.int n] = .ret (tupN l) pen' ∧ Turn n l ∧ Pen pen' := by
  obtain ⟨w, pen1, e1, hw, P1⟩ := take_any Pn 5 (by omega) (by omega)
  have e1' : p__law_draw pen [.int 5] = .ret (.int w) pen1 := e1
  obtain ⟨s, pen2, e2, T, P2⟩ := order_ok P1 (n := n) (by omega)
  have hneg : negF [.int 1] = some (.int (-1)) := rfl
  have hsl := T.len
  have hix : ∀ k, k < n → ixF [lstN s, .int (k : Nat)] = some (.int (s.getD k 0 : Nat)) := fun k hk => ix_lstN (by omega)
  have hpx : ∀ k, k < n → ∃ z : Int, subF [.int (k : Nat), .int 1] = some (.int z) ∧ ixF [lstN s, .int z] = some (.int (prv s k : Nat)) := fun k hk => by
    refine ⟨(k : Int) - 1, rfl, ?_⟩
    unfold prv
    by_cases c : k = 0
    · subst c
      rw [if_pos rfl]
      exact ix_last (k := s.length - 1) (by omega)
    · rw [if_neg c, show (k : Int) - 1 = ((k - 1 : Nat) : Int) by omega]
      exact ix_lstN (by omega)
  have hprn : ∀ k, k < n → prv s k < n := fun k hk => T.mem.mp (prv_mem.mp ⟨k, by omega, rfl⟩)
  unfold p__law_turn m__law_turn
  simp only [clP_eq, lstM_ap, tupM_ap, le_size, seqM_ap, nxM_ap, brM_ap, ctM_ap, retM_ap, retNM_ap, ifS_ap, asgF_ap, asgO_ap, dropM_ap, frzE_ap, frzM_ap, rdM_ap, vrM_ap, cM_ap, nilM_ap, consM_ap, consTM_ap, consNM_ap, opM_ap, tstM_ap, andM_ap, orM_ap, notM_ap, ifM_ap, andVM_ap, orVM_ap, notVM_ap, immM_ap, imM_ap, ixT_ap, yesM_ap, mutM_ap, mvM_ap, clF_ap, clT_ap, bdName_ap, itemsM_ap, asgG_ap, envF_ap, envP_ap, callF_ap, callP_ap, ownAt0_ap, itemsD_lst, itemsD_tup, chM_ap, slM_ap, noM_ap, partM_ap, bdB_ap, bdTup_ap, bdList_cons, bdList_nil, List.length_cons, List.length_nil, List.set_cons_succ, List.set_cons_zero, List.getElem?_cons_zero, List.getElem?_cons_succ, List.map_cons, List.map_nil, List.cons_append, List.nil_append, List.replicate, Nat.zero_add, Nat.reduceAdd, Nat.reduceSub, Nat.reduceLT, Nat.reduceLeDiff, Nat.reduceEqDiff, if_true, if_false, reduceIte, Bool.false_eq_true, NxS_nx, NxS_ct, RetF_ret, RetP_ret, imm, Bool.not_true, Bool.not_false, e1', e2, lstRg1_ok (show n < 1000000 by omega)]
  by_cases w0 : w = 0
  · have q : eqF [.int (w : Nat), .int 0] = some (.bl true) := by rw [eqF_int, w0]; rfl
    simp only [lstM_ap, tupM_ap, le_size, seqM_ap, nxM_ap, brM_ap, ctM_ap, retM_ap, retNM_ap, ifS_ap, asgF_ap, asgO_ap, dropM_ap, frzE_ap, frzM_ap, rdM_ap, vrM_ap, cM_ap, nilM_ap, consM_ap, consTM_ap, consNM_ap, opM_ap, tstM_ap, andM_ap, orM_ap, notM_ap, ifM_ap, andVM_ap, orVM_ap, notVM_ap, immM_ap, imM_ap, ixT_ap, yesM_ap, mutM_ap, mvM_ap, clF_ap, clT_ap, bdName_ap, itemsM_ap, asgG_ap, envF_ap, envP_ap, callF_ap, callP_ap, ownAt0_ap, itemsD_lst, itemsD_tup, chM_ap, slM_ap, noM_ap, partM_ap, bdB_ap, bdTup_ap, bdList_cons, bdList_nil, List.length_cons, List.length_nil, List.set_cons_succ, List.set_cons_zero, List.getElem?_cons_zero, List.getElem?_cons_succ, List.map_cons, List.map_nil, List.cons_append, List.nil_append, List.replicate, Nat.zero_add, Nat.reduceAdd, Nat.reduceSub, Nat.reduceLT, Nat.reduceLeDiff, Nat.reduceEqDiff, if_true, if_false, reduceIte, Bool.false_eq_true, NxS_nx, NxS_ct, RetF_ret, RetP_ret, imm, Bool.not_true, Bool.not_false, q, tupleF_lst]
    exact ⟨_, _, rfl, range_turn n, P2⟩
  · have q0 : eqF [.int (w : Nat), .int 0] = some (.bl false) := by rw [eqF_int, decide_eq_false (by omega)]
    by_cases w1 : w = 1
    · have q1 : eqF [.int (w : Nat), .int 1] = some (.bl true) := by rw [eqF_int, w1]; rfl
      simp only [lstM_ap, tupM_ap, le_size, seqM_ap, nxM_ap, brM_ap, ctM_ap, retM_ap, retNM_ap, ifS_ap, asgF_ap, asgO_ap, dropM_ap, frzE_ap, frzM_ap, rdM_ap, vrM_ap, cM_ap, nilM_ap, consM_ap, consTM_ap, consNM_ap, opM_ap, tstM_ap, andM_ap, orM_ap, notM_ap, ifM_ap, andVM_ap, orVM_ap, notVM_ap, immM_ap, imM_ap, ixT_ap, yesM_ap, mutM_ap, mvM_ap, clF_ap, clT_ap, bdName_ap, itemsM_ap, asgG_ap, envF_ap, envP_ap, callF_ap, callP_ap, ownAt0_ap, itemsD_lst, itemsD_tup, chM_ap, slM_ap, noM_ap, partM_ap, bdB_ap, bdTup_ap, bdList_cons, bdList_nil, List.length_cons, List.length_nil, List.set_cons_succ, List.set_cons_zero, List.getElem?_cons_zero, List.getElem?_cons_succ, List.map_cons, List.map_nil, List.cons_append, List.nil_append, List.replicate, Nat.zero_add, Nat.reduceAdd, Nat.reduceSub, Nat.reduceLT, Nat.reduceLeDiff, Nat.reduceEqDiff, if_true, if_false, reduceIte, Bool.false_eq_true, NxS_nx, NxS_ct, RetF_ret, RetP_ret, imm, Bool.not_true, Bool.not_false, q0, m__law_turn_6, q1]
      generalize hL : loopM _ _ _ _ = rr
      obtain ⟨e', rfl, F, d5, rfl, hF, hv⟩ := for_rg hL (n := n) (fun k e => ∃ (F : List Nat) (d5 : Option (Bool × D)), e = [some (true, pen2), some (false, .int n), some (false, .int (w : Nat)), some (true, lstN s), some (true, lstN F), d5] ∧ F.length = n ∧ ∀ j, j < k → F.getD (prv s j) 0 = s.getD j 0)
        (by simp only [lstM_ap, tupM_ap, le_size, seqM_ap, nxM_ap, brM_ap, ctM_ap, retM_ap, retNM_ap, ifS_ap, asgF_ap, asgO_ap, dropM_ap, frzE_ap, frzM_ap, rdM_ap, vrM_ap, cM_ap, nilM_ap, consM_ap, consTM_ap, consNM_ap, opM_ap, tstM_ap, andM_ap, orM_ap, notM_ap, ifM_ap, andVM_ap, orVM_ap, notVM_ap, immM_ap, imM_ap, ixT_ap, yesM_ap, mutM_ap, mvM_ap, clF_ap, clT_ap, bdName_ap, itemsM_ap, asgG_ap, envF_ap, envP_ap, callF_ap, callP_ap, ownAt0_ap, itemsD_lst, itemsD_tup, chM_ap, slM_ap, noM_ap, partM_ap, bdB_ap, bdTup_ap, bdList_cons, bdList_nil, List.length_cons, List.length_nil, List.set_cons_succ, List.set_cons_zero, List.getElem?_cons_zero, List.getElem?_cons_succ, List.map_cons, List.map_nil, List.cons_append, List.nil_append, List.replicate, Nat.zero_add, Nat.reduceAdd, Nat.reduceSub, Nat.reduceLT, Nat.reduceLeDiff, Nat.reduceEqDiff, if_true, if_false, reduceIte, Bool.false_eq_true, NxS_nx, NxS_ct, RetF_ret, RetP_ret, imm, Bool.not_true, Bool.not_false]) (by omega) ⟨List.range n, none, rfl, by simp, fun j hj => absurd hj (Nat.not_lt_zero _)⟩ (by
        rintro k hk e ⟨F, d5, rfl, hF, hv⟩
        obtain ⟨z, z1, z2⟩ := hpx k hk
        have hset := setF_lst (l := F) (x := prv s k) (v := s.getD k 0) (by rw [hF]; exact hprn k hk)
        simp only [lstM_ap, tupM_ap, le_size, seqM_ap, nxM_ap, brM_ap, ctM_ap, retM_ap, retNM_ap, ifS_ap, asgF_ap, asgO_ap, dropM_ap, frzE_ap, frzM_ap, rdM_ap, vrM_ap, cM_ap, nilM_ap, consM_ap, consTM_ap, consNM_ap, opM_ap, tstM_ap, andM_ap, orM_ap, notM_ap, ifM_ap, andVM_ap, orVM_ap, notVM_ap, immM_ap, imM_ap, ixT_ap, yesM_ap, mutM_ap, mvM_ap, clF_ap, clT_ap, bdName_ap, itemsM_ap, asgG_ap, envF_ap, envP_ap, callF_ap, callP_ap, ownAt0_ap, itemsD_lst, itemsD_tup, chM_ap, slM_ap, noM_ap, partM_ap, bdB_ap, bdTup_ap, bdList_cons, bdList_nil, List.length_cons, List.length_nil, List.set_cons_succ, List.set_cons_zero, List.getElem?_cons_zero, List.getElem?_cons_succ, List.map_cons, List.map_nil, List.cons_append, List.nil_append, List.replicate, Nat.zero_add, Nat.reduceAdd, Nat.reduceSub, Nat.reduceLT, Nat.reduceLeDiff, Nat.reduceEqDiff, if_true, if_false, reduceIte, Bool.false_eq_true, NxS_nx, NxS_ct, RetF_ret, RetP_ret, imm, Bool.not_true, Bool.not_false, m__law_turn_8, setM_ap, immM_ap, ixT_ap, hix k hk, z1, z2, hset]
        refine ⟨_, _, rfl, by rw [List.length_set, hF], fun j hj => ?_⟩
        rw [getD_set7 (by rw [hF]; exact hprn k hk)]
        by_cases c : j = k
        · rw [c, if_pos rfl]
        · rw [if_neg fun z => c ?_, hv j (by omega)]
          unfold prv at z
          have := nd_getD T.nodup (by split <;> omega) (by split <;> omega) z
          split at this <;> split at this <;> omega)
      simp only [lstM_ap, tupM_ap, le_size, seqM_ap, nxM_ap, brM_ap, ctM_ap, retM_ap, retNM_ap, ifS_ap, asgF_ap, asgO_ap, dropM_ap, frzE_ap, frzM_ap, rdM_ap, vrM_ap, cM_ap, nilM_ap, consM_ap, consTM_ap, consNM_ap, opM_ap, tstM_ap, andM_ap, orM_ap, notM_ap, ifM_ap, andVM_ap, orVM_ap, notVM_ap, immM_ap, imM_ap, ixT_ap, yesM_ap, mutM_ap, mvM_ap, clF_ap, clT_ap, bdName_ap, itemsM_ap, asgG_ap, envF_ap, envP_ap, callF_ap, callP_ap, ownAt0_ap, itemsD_lst, itemsD_tup, chM_ap, slM_ap, noM_ap, partM_ap, bdB_ap, bdTup_ap, bdList_cons, bdList_nil, List.length_cons, List.length_nil, List.set_cons_succ, List.set_cons_zero, List.getElem?_cons_zero, List.getElem?_cons_succ, List.map_cons, List.map_nil, List.cons_append, List.nil_append, List.replicate, Nat.zero_add, Nat.reduceAdd, Nat.reduceSub, Nat.reduceLT, Nat.reduceLeDiff, Nat.reduceEqDiff, if_true, if_false, reduceIte, Bool.false_eq_true, NxS_nx, NxS_ct, RetF_ret, RetP_ret, imm, Bool.not_true, Bool.not_false, m__law_turn_14, tupleF_lst]
      refine ⟨F, _, rfl, turn_surj hF fun x hx => ?_, P2⟩
      obtain ⟨j, hj, e⟩ := T.surj hx
      rw [← e, ← hv j hj]
      exact getD_mem7 (by rw [hF]; exact hprn j hj)
    · have q1 : eqF [.int (w : Nat), .int 1] = some (.bl false) := by rw [eqF_int, decide_eq_false (by omega)]
      by_cases w2 : w = 2
      · have q2 : eqF [.int (w : Nat), .int 2] = some (.bl true) := by rw [eqF_int, w2]; rfl
        simp only [lstM_ap, tupM_ap, le_size, seqM_ap, nxM_ap, brM_ap, ctM_ap, retM_ap, retNM_ap, ifS_ap, asgF_ap, asgO_ap, dropM_ap, frzE_ap, frzM_ap, rdM_ap, vrM_ap, cM_ap, nilM_ap, consM_ap, consTM_ap, consNM_ap, opM_ap, tstM_ap, andM_ap, orM_ap, notM_ap, ifM_ap, andVM_ap, orVM_ap, notVM_ap, immM_ap, imM_ap, ixT_ap, yesM_ap, mutM_ap, mvM_ap, clF_ap, clT_ap, bdName_ap, itemsM_ap, asgG_ap, envF_ap, envP_ap, callF_ap, callP_ap, ownAt0_ap, itemsD_lst, itemsD_tup, chM_ap, slM_ap, noM_ap, partM_ap, bdB_ap, bdTup_ap, bdList_cons, bdList_nil, List.length_cons, List.length_nil, List.set_cons_succ, List.set_cons_zero, List.getElem?_cons_zero, List.getElem?_cons_succ, List.map_cons, List.map_nil, List.cons_append, List.nil_append, List.replicate, Nat.zero_add, Nat.reduceAdd, Nat.reduceSub, Nat.reduceLT, Nat.reduceLeDiff, Nat.reduceEqDiff, if_true, if_false, reduceIte, Bool.false_eq_true, NxS_nx, NxS_ct, RetF_ret, RetP_ret, imm, Bool.not_true, Bool.not_false, q0, m__law_turn_6, q1, q2]
        generalize hL : loopM _ _ _ _ = rr
        obtain ⟨e', rfl, F, d5, rfl, hF, hv⟩ := for_items hL (List.range (n / 2)) (fun (k : Nat) => D.int (1 + (k : Nat) * 2)) (fun done e => ∃ (F : List Nat) (d5 : Option (Bool × D)), e = [some (true, pen2), some (false, .int n), some (false, .int (w : Nat)), some (true, lstN s), some (true, lstN F), d5] ∧ F.length = n ∧ ∀ j, j < n → F.getD (s.getD j 0) 0 = s.getD (ptn done.length j) 0)
          (rangeC_ok (by simp only [lstM_ap, tupM_ap, le_size, seqM_ap, nxM_ap, brM_ap, ctM_ap, retM_ap, retNM_ap, ifS_ap, asgF_ap, asgO_ap, dropM_ap, frzE_ap, frzM_ap, rdM_ap, vrM_ap, cM_ap, nilM_ap, consM_ap, consTM_ap, consNM_ap, opM_ap, tstM_ap, andM_ap, orM_ap, notM_ap, ifM_ap, andVM_ap, orVM_ap, notVM_ap, immM_ap, imM_ap, ixT_ap, yesM_ap, mutM_ap, mvM_ap, clF_ap, clT_ap, bdName_ap, itemsM_ap, asgG_ap, envF_ap, envP_ap, callF_ap, callP_ap, ownAt0_ap, itemsD_lst, itemsD_tup, chM_ap, slM_ap, noM_ap, partM_ap, bdB_ap, bdTup_ap, bdList_cons, bdList_nil, List.length_cons, List.length_nil, List.set_cons_succ, List.set_cons_zero, List.getElem?_cons_zero, List.getElem?_cons_succ, List.map_cons, List.map_nil, List.cons_append, List.nil_append, List.replicate, Nat.zero_add, Nat.reduceAdd, Nat.reduceSub, Nat.reduceLT, Nat.reduceLeDiff, Nat.reduceEqDiff, if_true, if_false, reduceIte, Bool.false_eq_true, NxS_nx, NxS_ct, RetF_ret, RetP_ret, imm, Bool.not_true, Bool.not_false]) (rgc7 n (by omega) h1)) ⟨List.range n, none, rfl, by simp, fun j hj => by
            have hjl : s.getD j 0 < n := T.lt hj
            have e : ptn ([] : List Nat).length j = j := by unfold ptn; rw [if_neg (by simp)]
            rw [e, List.getD_eq_getElem?_getD, List.getElem?_range hjl]
            rfl⟩ (by
          rintro done k rest e hh ⟨F, d5, rfl, hF, hv⟩
          have hk : k = done.length := by
            have := congrArg (fun l => l[done.length]?) hh
            simp only [List.getElem?_append_right (Nat.le_refl _), Nat.sub_self, List.getElem?_cons_zero] at this
            obtain ⟨_, h⟩ := List.getElem?_eq_some_iff.mp this
            rw [List.getElem_range] at h
            exact h.symm
          have hkn : k < n / 2 := by
            have : k ∈ List.range (n / 2) := by rw [hh]; simp
            exact List.mem_range.mp this
          rw [List.length_append, List.length_singleton, ← hk]
          rw [← hk] at hv
          have ei : (1 : Int) + (k : Nat) * 2 = ((2 * k + 1 : Nat) : Int) := by omega
          have es : subF [.int ((2 * k + 1 : Nat) : Int), .int 1] = some (.int ((2 * k : Nat) : Int)) := by
            show some (D.int (((2 * k + 1 : Nat) : Int) - 1)) = _
            congr 2
            omega
          have ha : s.getD (2 * k) 0 < n := T.lt (by omega)
          have hb : s.getD (2 * k + 1) 0 < n := T.lt (by omega)
          have hs1 := setF_lst (l := F) (x := s.getD (2 * k) 0) (v := s.getD (2 * k + 1) 0) (by rw [hF]; exact ha)
          have hs2 := setF_lst (l := F.set (s.getD (2 * k) 0) (s.getD (2 * k + 1) 0)) (x := s.getD (2 * k + 1) 0) (v := s.getD (2 * k) 0) (by rw [List.length_set, hF]; exact hb)
          simp only [lstM_ap, tupM_ap, le_size, seqM_ap, nxM_ap, brM_ap, ctM_ap, retM_ap, retNM_ap, ifS_ap, asgF_ap, asgO_ap, dropM_ap, frzE_ap, frzM_ap, rdM_ap, vrM_ap, cM_ap, nilM_ap, consM_ap, consTM_ap, consNM_ap, opM_ap, tstM_ap, andM_ap, orM_ap, notM_ap, ifM_ap, andVM_ap, orVM_ap, notVM_ap, immM_ap, imM_ap, ixT_ap, yesM_ap, mutM_ap, mvM_ap, clF_ap, clT_ap, bdName_ap, itemsM_ap, asgG_ap, envF_ap, envP_ap, callF_ap, callP_ap, ownAt0_ap, itemsD_lst, itemsD_tup, chM_ap, slM_ap, noM_ap, partM_ap, bdB_ap, bdTup_ap, bdList_cons, bdList_nil, List.length_cons, List.length_nil, List.set_cons_succ, List.set_cons_zero, List.getElem?_cons_zero, List.getElem?_cons_succ, List.map_cons, List.map_nil, List.cons_append, List.nil_append, List.replicate, Nat.zero_add, Nat.reduceAdd, Nat.reduceSub, Nat.reduceLT, Nat.reduceLeDiff, Nat.reduceEqDiff, if_true, if_false, reduceIte, Bool.false_eq_true, NxS_nx, NxS_ct, RetF_ret, RetP_ret, imm, Bool.not_true, Bool.not_false, m__law_turn_11, setM_ap, immM_ap, ixT_ap, ei, es, hix (2 * k) (by omega), hix (2 * k + 1) (by omega), hs1, hs2]
          refine ⟨_, _, rfl, by rw [List.length_set, List.length_set, hF], fun j hj => ?_⟩
          rw [getD_set7 (by rw [List.length_set, hF]; exact hb), getD_set7 (by rw [hF]; exact ha)]
          by_cases c1 : j = 2 * k + 1
          · subst c1
            rw [if_pos rfl]
            unfold ptn
            rw [if_pos (by omega), if_neg (by omega)]
            rfl
          · rw [if_neg fun z => c1 (T.inj hj (by omega) z)]
            by_cases c2 : j = 2 * k
            · subst c2
              rw [if_pos rfl]
              unfold ptn
              rw [if_pos (by omega), if_pos (by omega)]
            · rw [if_neg fun z => c2 (T.inj hj (by omega) z), hv j hj]
              unfold ptn
              by_cases c3 : j < 2 * k
              · rw [if_pos c3, if_pos (show j < 2 * (k + 1) by omega)]
              · rw [if_neg c3, if_neg (show ¬ j < 2 * (k + 1) by omega)])
        simp only [lstM_ap, tupM_ap, le_size, seqM_ap, nxM_ap, brM_ap, ctM_ap, retM_ap, retNM_ap, ifS_ap, asgF_ap, asgO_ap, dropM_ap, frzE_ap, frzM_ap, rdM_ap, vrM_ap, cM_ap, nilM_ap, consM_ap, consTM_ap, consNM_ap, opM_ap, tstM_ap, andM_ap, orM_ap, notM_ap, ifM_ap, andVM_ap, orVM_ap, notVM_ap, immM_ap, imM_ap, ixT_ap, yesM_ap, mutM_ap, mvM_ap, clF_ap, clT_ap, bdName_ap, itemsM_ap, asgG_ap, envF_ap, envP_ap, callF_ap, callP_ap, ownAt0_ap, itemsD_lst, itemsD_tup, chM_ap, slM_ap, noM_ap, partM_ap, bdB_ap, bdTup_ap, bdList_cons, bdList_nil, List.length_cons, List.length_nil, List.set_cons_succ, List.set_cons_zero, List.getElem?_cons_zero, List.getElem?_cons_succ, List.map_cons, List.map_nil, List.cons_append, List.nil_append, List.replicate, Nat.zero_add, Nat.reduceAdd, Nat.reduceSub, Nat.reduceLT, Nat.reduceLeDiff, Nat.reduceEqDiff, if_true, if_false, reduceIte, Bool.false_eq_true, NxS_nx, NxS_ct, RetF_ret, RetP_ret, imm, Bool.not_true, Bool.not_false, m__law_turn_14, tupleF_lst]
        refine ⟨F, _, rfl, turn_surj hF fun x hx => ?_, P2⟩
        obtain ⟨j, hj, e⟩ := T.surj hx
        rw [List.length_range] at hv
        have hp2 : ptn (n / 2) (ptn (n / 2) j) = j := by
          unfold ptn
          by_cases c : j < 2 * (n / 2)
          · rw [if_pos c]
            by_cases c2 : j % 2 = 0
            · rw [if_pos c2, if_pos (by omega), if_neg (by omega)]; omega
            · rw [if_neg c2, if_pos (by omega), if_pos (by omega)]; omega
          · rw [if_neg c, if_neg c]
        have hpl : ptn (n / 2) j < n := by
          unfold ptn
          split
          · split <;> omega
          · exact hj
        have := hv _ hpl
        rw [hp2, e] at this
        rw [← this]
        exact getD_mem7 (by rw [hF]; exact T.lt hpl)
      · have q2 : eqF [.int (w : Nat), .int 2] = some (.bl false) := by rw [eqF_int, decide_eq_false (by omega)]
        simp only [lstM_ap, tupM_ap, le_size, seqM_ap, nxM_ap, brM_ap, ctM_ap, retM_ap, retNM_ap, ifS_ap, asgF_ap, asgO_ap, dropM_ap, frzE_ap, frzM_ap, rdM_ap, vrM_ap, cM_ap, nilM_ap, consM_ap, consTM_ap, consNM_ap, opM_ap, tstM_ap, andM_ap, orM_ap, notM_ap, ifM_ap, andVM_ap, orVM_ap, notVM_ap, immM_ap, imM_ap, ixT_ap, yesM_ap, mutM_ap, mvM_ap, clF_ap, clT_ap, bdName_ap, itemsM_ap, asgG_ap, envF_ap, envP_ap, callF_ap, callP_ap, ownAt0_ap, itemsD_lst, itemsD_tup, chM_ap, slM_ap, noM_ap, partM_ap, bdB_ap, bdTup_ap, bdList_cons, bdList_nil, List.length_cons, List.length_nil, List.set_cons_succ, List.set_cons_zero, List.getElem?_cons_zero, List.getElem?_cons_succ, List.map_cons, List.map_nil, List.cons_append, List.nil_append, List.replicate, Nat.zero_add, Nat.reduceAdd, Nat.reduceSub, Nat.reduceLT, Nat.reduceLeDiff, Nat.reduceEqDiff, if_true, if_false, reduceIte, Bool.false_eq_true, NxS_nx, NxS_ct, RetF_ret, RetP_ret, imm, Bool.not_true, Bool.not_false, q0, m__law_turn_6, q1, q2, m__law_turn_14, tupleF_lst]
        exact ⟨s, _, rfl, T, P2⟩
/-! ### wider -/
theorem addF_tup7 {a b : List D} (h : a.length + b.length < 1000000) : addF [.tup a, .tup b] = some (.tup (a ++ b)) := if_pos (by rw [sizeLine_eq]; omega)
def wid (n : Nat) (l : List Nat) : List Nat := l ++ List.range' n (7 - n)
theorem wid_ok {n : Nat} {l : List Nat} (T : Turn n l) (hn : n ≤ 7) : (∃ x, tupRg2F [.int n, .int 7] = some (.tup x) ∧ addF [tupN l, .tup x] = some (tupN (wid n l))) ∧ Turn 7 (wid n l) ∧ big (tf (wid n l)) 7 = big (tf l) n := by
  have hl := T.len
  refine ⟨⟨ofN (List.range' n (7 - n)), ?_, ?_⟩, ?_, ?_⟩
  · have hr : RgOk (n : Int) 7 := by unfold RgOk; omega
    have e : tupRg2F [.int (n : Int), .int 7] = some (.tup (rangeL n ((7 : Int) - n).toNat)) := if_pos hr
    rw [e, show ((7 : Int) - n).toNat = 7 - n by omega, rangeL_ofN1]
  · have e := addF_tup7 (a := ofN l) (b := ofN (List.range' n (7 - n))) (by rw [ofN_length, ofN_length, List.length_range']; omega)
    rw [show tupN l = .tup (ofN l) from rfl, e, wid, tupN, ofN_append]
  · refine turn_surj (by rw [wid, List.length_append, List.length_range', hl]; omega) fun x hx => ?_
    rw [wid, List.mem_append]
    by_cases c : x < n
    · exact .inl (T.mem.mpr c)
    · exact .inr (by rw [List.mem_range'_1]; omega)
  · refine big_wide (tf_inj T) hn (fun x hx => ?_) fun x hx h7 => ?_
    · unfold tf wid
      exact getD_append_lt (by omega)
    · unfold tf wid
      rw [List.getD_eq_getElem?_getD, List.getElem?_append_right (by omega), List.getElem?_range' (by omega), hl]
      show n + 1 * (x - n) = x
      omega
end MM

set_option Elab.async false
set_option linter.all false
set_option maxRecDepth 100000
set_option maxHeartbeats 4000000
noncomputable section
namespace MM
open PySem PySem.Spec PyProof.Rows L2 TL

/-! ### the law k71 -/
theorem maths (ns : List Int) (hns : ns.length ≤ 63) : f_law [.scr ns] = .ret (.bl true) := by
  obtain ⟨pen0, e0, P0⟩ := pen_start ns
  unfold f_law m_law
  simp only [clP_eq, lstM_ap, tupM_ap, le_size, seqM_ap, nxM_ap, brM_ap, ctM_ap, retM_ap, retNM_ap, ifS_ap, asgF_ap, asgO_ap, dropM_ap, frzE_ap, frzM_ap, rdM_ap, vrM_ap, cM_ap, nilM_ap, consM_ap, consTM_ap, consNM_ap, opM_ap, tstM_ap, andM_ap, orM_ap, notM_ap, ifM_ap, andVM_ap, orVM_ap, notVM_ap, immM_ap, imM_ap, ixT_ap, yesM_ap, mutM_ap, mvM_ap, clF_ap, clT_ap, bdName_ap, itemsM_ap, asgG_ap, envF_ap, envP_ap, callF_ap, callP_ap, ownAt0_ap, itemsD_lst, itemsD_tup, chM_ap, slM_ap, noM_ap, partM_ap, bdB_ap, bdTup_ap, bdList_cons, bdList_nil, List.length_cons, List.length_nil, List.set_cons_succ, List.set_cons_zero, List.getElem?_cons_zero, List.getElem?_cons_succ, List.map_cons, List.map_nil, List.cons_append, List.nil_append, List.replicate, Nat.zero_add, Nat.reduceAdd, Nat.reduceSub, Nat.reduceLT, Nat.reduceLeDiff, Nat.reduceEqDiff, if_true, if_false, reduceIte, Bool.false_eq_true, NxS_nx, NxS_ct, RetF_ret, RetP_ret, imm, Bool.not_true, Bool.not_false, e0]
  generalize hL : loopM _ _ _ _ = r
  obtain ⟨e', rfl, pen, d2, d3, d4, d5, d6, d7, rfl, P⟩ := for_rg hL (n := 12) (fun _ e => ∃ (pen : D) (d2 d3 d4 d5 d6 d7 : Option (Bool × D)), e = [some (false, .scr ns), some (true, pen), d2, d3, d4, d5, d6, d7] ∧ Pen pen)
    (by simp only [lstM_ap, tupM_ap, le_size, seqM_ap, nxM_ap, brM_ap, ctM_ap, retM_ap, retNM_ap, ifS_ap, asgF_ap, asgO_ap, dropM_ap, frzE_ap, frzM_ap, rdM_ap, vrM_ap, cM_ap, nilM_ap, consM_ap, consTM_ap, consNM_ap, opM_ap, tstM_ap, andM_ap, orM_ap, notM_ap, ifM_ap, andVM_ap, orVM_ap, notVM_ap, immM_ap, imM_ap, ixT_ap, yesM_ap, mutM_ap, mvM_ap, clF_ap, clT_ap, bdName_ap, itemsM_ap, asgG_ap, envF_ap, envP_ap, callF_ap, callP_ap, ownAt0_ap, itemsD_lst, itemsD_tup, chM_ap, slM_ap, noM_ap, partM_ap, bdB_ap, bdTup_ap, bdList_cons, bdList_nil, List.length_cons, List.length_nil, List.set_cons_succ, List.set_cons_zero, List.getElem?_cons_zero, List.getElem?_cons_succ, List.map_cons, List.map_nil, List.cons_append, List.nil_append, List.replicate, Nat.zero_add, Nat.reduceAdd, Nat.reduceSub, Nat.reduceLT, Nat.reduceLeDiff, Nat.reduceEqDiff, if_true, if_false, reduceIte, Bool.false_eq_true, NxS_nx, NxS_ct, RetF_ret, RetP_ret, imm, Bool.not_true, Bool.not_false]; rfl) (by omega) ⟨pen0, none, none, none, none, none, none, rfl, P0⟩ (by
    rintro i hi e ⟨pen, d2, d3, d4, d5, d6, d7, rfl, P0⟩
    obtain ⟨q, pen1, e1, hq, P1⟩ := take_any P0 7 (by omega) (by omega)
    have e1' : p__law_draw pen [.int 7] = .ret (.int q) pen1 := e1
    have a1 : addF [.int 1, .int (q : Nat)] = some (.int ((1 + q : Nat) : Int)) := add1
    obtain ⟨l, pen2, e2, T, P2⟩ := turn_any P1 (n := 1 + q) (by omega) (by omega)
    obtain ⟨⟨x, w1, w2⟩, T7, hb⟩ := wid_ok T (by omega)
    have e3 := law_text T (by omega)
    have e4 := turn_text T (by omega)
    have e5 := read_ok T (by omega) (by omega)
    have e6 := turn_text T7 (by omega)
    have e7 := read_ok T7 (by omega) (by omega)
    rw [hb] at e6 e7
    have hlo := txt_lo (small_big T (by omega))
    have hne := neF_str hlo hlo
    rw [decide_eq_true rfl] at hne
    obtain ⟨y, r1, r2⟩ : ∃ y, reprF [tupN l] = some (.str y) ∧ PyData.strOk y = true := showT (sh_tupN (N := 7) (fun x hx => by have := T.mem.mp hx; omega) (by rw [T.len]; omega)) (by omega) (by omega) (by omega)
    obtain ⟨v, r3, r4⟩ : ∃ y, reprF [tupN (wid (1 + q) l)] = some (.str y) ∧ PyData.strOk y = true := showT (sh_tupN (N := 7) (fun x hx => by have := T7.mem.mp hx; omega) (by rw [T7.len]; omega)) (by omega) (by omega) (by omega)
    generalize txt (big (tf l) (1 + q)) = z at *
    generalize wid (1 + q) l = lw at *
    have e7' : f_read_turn [.int 7, .str z] = .ret (tupN lw) := e7
    simp only [clP_eq, lstM_ap, tupM_ap, le_size, seqM_ap, nxM_ap, brM_ap, ctM_ap, retM_ap, retNM_ap, ifS_ap, asgF_ap, asgO_ap, dropM_ap, frzE_ap, frzM_ap, rdM_ap, vrM_ap, cM_ap, nilM_ap, consM_ap, consTM_ap, consNM_ap, opM_ap, tstM_ap, andM_ap, orM_ap, notM_ap, ifM_ap, andVM_ap, orVM_ap, notVM_ap, immM_ap, imM_ap, ixT_ap, yesM_ap, mutM_ap, mvM_ap, clF_ap, clT_ap, bdName_ap, itemsM_ap, asgG_ap, envF_ap, envP_ap, callF_ap, callP_ap, ownAt0_ap, itemsD_lst, itemsD_tup, chM_ap, slM_ap, noM_ap, partM_ap, bdB_ap, bdTup_ap, bdList_cons, bdList_nil, List.length_cons, List.length_nil, List.set_cons_succ, List.set_cons_zero, List.getElem?_cons_zero, List.getElem?_cons_succ, List.map_cons, List.map_nil, List.cons_append, List.nil_append, List.replicate, Nat.zero_add, Nat.reduceAdd, Nat.reduceSub, Nat.reduceLT, Nat.reduceLeDiff, Nat.reduceEqDiff, if_true, if_false, reduceIte, Bool.false_eq_true, NxS_nx, NxS_ct, RetF_ret, RetP_ret, imm, Bool.not_true, Bool.not_false, m_law_3, e1', a1, e2, e3, w1, w2]
    generalize hL2 : loopM _ _ _ _ = r2'
    obtain ⟨e', rfl, d7', rfl⟩ := for_rg hL2 (n := 2) (fun _ e => ∃ d7 : Option (Bool × D), e = [some (false, .scr ns), some (true, pen2), some (false, .int (i : Nat)), some (false, .int ((1 + q : Nat) : Int)), some (false, tupN l), some (false, .str z), some (false, tupN lw), d7])
      (by simp only [lstM_ap, tupM_ap, le_size, seqM_ap, nxM_ap, brM_ap, ctM_ap, retM_ap, retNM_ap, ifS_ap, asgF_ap, asgO_ap, dropM_ap, frzE_ap, frzM_ap, rdM_ap, vrM_ap, cM_ap, nilM_ap, consM_ap, consTM_ap, consNM_ap, opM_ap, tstM_ap, andM_ap, orM_ap, notM_ap, ifM_ap, andVM_ap, orVM_ap, notVM_ap, immM_ap, imM_ap, ixT_ap, yesM_ap, mutM_ap, mvM_ap, clF_ap, clT_ap, bdName_ap, itemsM_ap, asgG_ap, envF_ap, envP_ap, callF_ap, callP_ap, ownAt0_ap, itemsD_lst, itemsD_tup, chM_ap, slM_ap, noM_ap, partM_ap, bdB_ap, bdTup_ap, bdList_cons, bdList_nil, List.length_cons, List.length_nil, List.set_cons_succ, List.set_cons_zero, List.getElem?_cons_zero, List.getElem?_cons_succ, List.map_cons, List.map_nil, List.cons_append, List.nil_append, List.replicate, Nat.zero_add, Nat.reduceAdd, Nat.reduceSub, Nat.reduceLT, Nat.reduceLeDiff, Nat.reduceEqDiff, if_true, if_false, reduceIte, Bool.false_eq_true, NxS_nx, NxS_ct, RetF_ret, RetP_ret, imm, Bool.not_true, Bool.not_false]; rfl) (by omega) ⟨d7, rfl⟩ (by
      rintro j hj e ⟨d7, rfl⟩
      simp only [lstM_ap, tupM_ap, le_size, seqM_ap, nxM_ap, brM_ap, ctM_ap, retM_ap, retNM_ap, ifS_ap, asgF_ap, asgO_ap, dropM_ap, frzE_ap, frzM_ap, rdM_ap, vrM_ap, cM_ap, nilM_ap, consM_ap, consTM_ap, consNM_ap, opM_ap, tstM_ap, andM_ap, orM_ap, notM_ap, ifM_ap, andVM_ap, orVM_ap, notVM_ap, immM_ap, imM_ap, ixT_ap, yesM_ap, mutM_ap, mvM_ap, clF_ap, clT_ap, bdName_ap, itemsM_ap, asgG_ap, envF_ap, envP_ap, callF_ap, callP_ap, ownAt0_ap, itemsD_lst, itemsD_tup, chM_ap, slM_ap, noM_ap, partM_ap, bdB_ap, bdTup_ap, bdList_cons, bdList_nil, List.length_cons, List.length_nil, List.set_cons_succ, List.set_cons_zero, List.getElem?_cons_zero, List.getElem?_cons_succ, List.map_cons, List.map_nil, List.cons_append, List.nil_append, List.replicate, Nat.zero_add, Nat.reduceAdd, Nat.reduceSub, Nat.reduceLT, Nat.reduceLeDiff, Nat.reduceEqDiff, if_true, if_false, reduceIte, Bool.false_eq_true, NxS_nx, NxS_ct, RetF_ret, RetP_ret, imm, Bool.not_true, Bool.not_false, m_law_8, m_law_10, e4, e5, e6, e7', hne, r1, r3, ne_str r2, ne_str r4]
      exact ⟨_, rfl⟩)
    exact ⟨pen2, _, _, _, _, _, _, rfl, P2⟩)
  simp only [lstM_ap, tupM_ap, le_size, seqM_ap, nxM_ap, brM_ap, ctM_ap, retM_ap, retNM_ap, ifS_ap, asgF_ap, asgO_ap, dropM_ap, frzE_ap, frzM_ap, rdM_ap, vrM_ap, cM_ap, nilM_ap, consM_ap, consTM_ap, consNM_ap, opM_ap, tstM_ap, andM_ap, orM_ap, notM_ap, ifM_ap, andVM_ap, orVM_ap, notVM_ap, immM_ap, imM_ap, ixT_ap, yesM_ap, mutM_ap, mvM_ap, clF_ap, clT_ap, bdName_ap, itemsM_ap, asgG_ap, envF_ap, envP_ap, callF_ap, callP_ap, ownAt0_ap, itemsD_lst, itemsD_tup, chM_ap, slM_ap, noM_ap, partM_ap, bdB_ap, bdTup_ap, bdList_cons, bdList_nil, List.length_cons, List.length_nil, List.set_cons_succ, List.set_cons_zero, List.getElem?_cons_zero, List.getElem?_cons_succ, List.map_cons, List.map_nil, List.cons_append, List.nil_append, List.replicate, Nat.zero_add, Nat.reduceAdd, Nat.reduceSub, Nat.reduceLT, Nat.reduceLeDiff, Nat.reduceEqDiff, if_true, if_false, reduceIte, Bool.false_eq_true, NxS_nx, NxS_ct, RetF_ret, RetP_ret, imm, Bool.not_true, Bool.not_false, m_law_12]
end MM

set_option Elab.async false
set_option linter.all false
set_option maxRecDepth 100000
set_option maxHeartbeats 4000000
noncomputable section
namespace MM
open PySem PySem.Spec PyProof.Rows L2
structure DefAt (K : PySem.W.Frag) (mg : Str → Option Value) (x : Str) (st : Stmt) (ps : List Str) where
  f : Addr
  fd : FuncData
  mg : mg x = some (.ref f)
  F : Fun K x x st f fd
  b : Binds K fd ps []
theorem pe_gi {X : Cx} {x : Str} {i : Int} {pos : Pos} (hg : Gl X x) (h : ∃ t, X.mg x = some (.int i t)) (hd : (x == ("__debug__" : Str)) = false := by decide) : PE X (.Name x pos) (tC (.int i)) := by
  obtain ⟨t, e⟩ := h
  exact pe_glob hg e ⟨t, rfl⟩ hd
theorem pe_gs {X : Cx} {x i : Str} {pos : Pos} (hg : Gl X x) (h : ∃ t, X.mg x = some (.str i t)) (hd : (x == ("__debug__" : Str)) = false := by decide) : PE X (.Name x pos) (tC (.str i)) := by
  obtain ⟨t, e⟩ := h
  exact pe_glob hg e ⟨t, rfl⟩ hd
theorem hu65 {k : Nat} {A : Around} (hr : Room k A) : A.units + 65 < cLine := by have := hr.un; omega
theorem hu4 {k : Nat} {A : Around} (hr : Room k A) : A.units + 4 < cLine := by have := hr.un; omega
theorem hu1 {k : Nat} {A : Around} (hr : Room k A) : A.units + 1 < cLine := by have := hr.un; omega
def topS (i : Nat) : Stmt := PySem.Challenge.pw_heldmarks_k71_turns_as_texts.main.body.getD i (.Pass ⟨0, 0, 0, 0⟩)
abbrev s__law_pen : Stmt := topS 19
abbrev N__law_pen : List Str := ["_law_script"]
abbrev P__law_pen : List Str := ["_law_script"]
theorem sc__law_pen : FnScope N__law_pen P__law_pen (defScope s__law_pen) := ⟨rfl, rfl, rfl, by decide +kernel, rfl, by decide +kernel, by decide +kernel⟩
abbrev s__law_draw : Stmt := topS 20
abbrev N__law_draw : List Str := ["_law_pen_here", "_law_many", "_law_digit", "_law_at", "_law_cell", "_law_number"]
abbrev P__law_draw : List Str := ["_law_pen_here", "_law_many"]
theorem sc__law_draw : FnScope N__law_draw P__law_draw (defScope s__law_draw) := ⟨rfl, rfl, rfl, by decide +kernel, rfl, by decide +kernel, by decide +kernel⟩
abbrev s__law_order : Stmt := topS 21
abbrev N__law_order : List Str := ["_law_pen_here", "_law_many", "_law_left", "_law_k"]
abbrev P__law_order : List Str := ["_law_pen_here", "_law_many"]
theorem sc__law_order : FnScope N__law_order P__law_order (defScope s__law_order) := ⟨rfl, rfl, rfl, by decide +kernel, rfl, by decide +kernel, by decide +kernel⟩
abbrev s__law_turn : Stmt := topS 22
abbrev N__law_turn : List Str := ["_law_pen_here", "_law_many", "_law_way", "_law_names", "_law_found", "_law_k"]
abbrev P__law_turn : List Str := ["_law_pen_here", "_law_many"]
theorem sc__law_turn : FnScope N__law_turn P__law_turn (defScope s__law_turn) := ⟨rfl, rfl, rfl, by decide +kernel, rfl, by decide +kernel, by decide +kernel⟩
abbrev s__law_text : Stmt := topS 23
abbrev N__law_text : List Str := ["_law_turn_here", "_law_found", "_law_known", "_law_first", "_law_ring", "_law_at"]
abbrev P__law_text : List Str := ["_law_turn_here"]
theorem sc__law_text : FnScope N__law_text P__law_text (defScope s__law_text) := ⟨rfl, rfl, rfl, by decide +kernel, rfl, by decide +kernel, by decide +kernel⟩
abbrev s_rings : Stmt := topS 7
abbrev N_rings : List Str := ["turn", "found", "seen", "first", "ring"]
abbrev P_rings : List Str := ["turn"]
theorem sc_rings : FnScope N_rings P_rings (defScope s_rings) := ⟨rfl, rfl, rfl, by decide +kernel, rfl, by decide +kernel, by decide +kernel⟩
abbrev s_show_numbers : Stmt := topS 10
abbrev N_show_numbers : List Str := ["numbers", "number"]
abbrev P_show_numbers : List Str := ["numbers"]
theorem sc_show_numbers : FnScope N_show_numbers P_show_numbers (defScope s_show_numbers) := ⟨rfl, rfl, rfl, by decide +kernel, rfl, by decide +kernel, by decide +kernel⟩
abbrev s_show_turn : Stmt := topS 11
abbrev N_show_turn : List Str := ["turn", "some", "ring"]
abbrev P_show_turn : List Str := ["turn"]
theorem sc_show_turn : FnScope N_show_turn P_show_turn (defScope s_show_turn) := ⟨rfl, rfl, rfl, by decide +kernel, rfl, by decide +kernel, by decide +kernel⟩
abbrev s_is_whole : Stmt := topS 6
abbrev N_is_whole : List Str := ["thing"]
abbrev P_is_whole : List Str := ["thing"]
theorem sc_is_whole : FnScope N_is_whole P_is_whole (defScope s_is_whole) := ⟨rfl, rfl, rfl, by decide +kernel, rfl, by decide +kernel, by decide +kernel⟩
abbrev s_turn_of : Stmt := topS 8
abbrev N_turn_of : List Str := ["many", "some", "found", "seen", "at", "ring", "one", "k"]
abbrev P_turn_of : List Str := ["many", "some"]
theorem sc_turn_of : FnScope N_turn_of P_turn_of (defScope s_turn_of) := ⟨rfl, rfl, rfl, by decide +kernel, rfl, by decide +kernel, by decide +kernel⟩
abbrev s_is_number : Stmt := topS 15
abbrev N_is_number : List Str := ["word", "sign"]
abbrev P_is_number : List Str := ["word"]
theorem sc_is_number : FnScope N_is_number P_is_number (defScope s_is_number) := ⟨rfl, rfl, rfl, by decide +kernel, rfl, by decide +kernel, by decide +kernel⟩
abbrev s_rings_in : Stmt := topS 16
abbrev N_rings_in : List Str := ["text", "found", "part", "words", "word"]
abbrev P_rings_in : List Str := ["text"]
theorem sc_rings_in : FnScope N_rings_in P_rings_in (defScope s_rings_in) := ⟨rfl, rfl, rfl, by decide +kernel, rfl, by decide +kernel, by decide +kernel⟩
abbrev s_read_turn : Stmt := topS 17
abbrev N_read_turn : List Str := ["many", "text", "turn"]
abbrev P_read_turn : List Str := ["many", "text"]
theorem sc_read_turn : FnScope N_read_turn P_read_turn (defScope s_read_turn) := ⟨rfl, rfl, rfl, by decide +kernel, rfl, by decide +kernel, by decide +kernel⟩
abbrev s_law : Stmt := topS 24
abbrev N_law : List Str := ["_law_script", "_law_pen_here", "_law_k", "_law_many", "_law_turn_here", "_law_due", "_law_wider", "_law_again"]
abbrev P_law : List Str := ["_law_script"]
theorem sc_law : FnScope N_law P_law (defScope s_law) := ⟨rfl, rfl, rfl, by decide +kernel, rfl, by decide +kernel, by decide +kernel⟩
abbrev si_NoTurn : Stmt := initOf (topS 2)
theorem sci_NoTurn : FnScope ["self", "at"] ["self", "at"] (defScope si_NoTurn) := ⟨rfl, rfl, rfl, by decide +kernel, rfl, by decide +kernel, by decide +kernel⟩
structure Txt (K : PySem.W.Frag) (mg : Str → Option Value) where
  d__law_pen : DefAt K mg "_law_pen" s__law_pen P__law_pen
  d__law_draw : DefAt K mg "_law_draw" s__law_draw P__law_draw
  d__law_order : DefAt K mg "_law_order" s__law_order P__law_order
  d__law_turn : DefAt K mg "_law_turn" s__law_turn P__law_turn
  d__law_text : DefAt K mg "_law_text" s__law_text P__law_text
  d_rings : DefAt K mg "rings" s_rings P_rings
  d_show_numbers : DefAt K mg "show_numbers" s_show_numbers P_show_numbers
  d_show_turn : DefAt K mg "show_turn" s_show_turn P_show_turn
  d_is_whole : DefAt K mg "is_whole" s_is_whole P_is_whole
  d_turn_of : DefAt K mg "turn_of" s_turn_of P_turn_of
  d_is_number : DefAt K mg "is_number" s_is_number P_is_number
  d_rings_in : DefAt K mg "rings_in" s_rings_in P_rings_in
  d_read_turn : DefAt K mg "read_turn" s_read_turn P_read_turn
  d_law : DefAt K mg "law" s_law P_law
  z_abs : mg "abs" = none
  z_all : mg "all" = none
  z_bool : mg "bool" = none
  z_int : mg "int" = none
  z_isinstance : mg "isinstance" = none
  z_len : mg "len" = none
  z_list : mg "list" = none
  z_range : mg "range" = none
  z_repr : mg "repr" = none
  z_str : mg "str" = none
  z_tuple : mg "tuple" = none
  g_MOST_FIGURES : ∃ t, mg "MOST_FIGURES" = some (.int 30 t)
  g_MOST_THINGS : ∃ t, mg "MOST_THINGS" = some (.int 7 t)
  g_FIGURES : ∃ t, mg "FIGURES" = some (.str "0123456789" t)
  i_NoTurn : IniT K mg "NoTurn" "at" si_NoTurn "NoTurn.__init__"
  t_NoTurn : Takers K mg (.ref i_NoTurn.C) ["NoTurn"]
  x_NoTurn : XfC K i_NoTurn.C
  b_err : BasT K mg "MarkError"
section
variable {P : Program} {w : World} {K : PySem.W.Frag} {mg : Str → Option Value} {base : Heap}
theorem okI_NoTurn (T : Txt K mg) : FnOk P w K mg base (L2.CX P w) 1 T.i_NoTurn.fI T.i_NoTurn.fd ["self", "at"] (spIni K "at") := by
  refine fnIni (m := "no such turn") T.i_NoTurn rfl sci_NoTurn fun cdv A outer s H E hr => ?_
  have sc := sci_NoTurn
  exact pss_cons (ps_expr (pe_minit (by rfl) T.b_err.mgx T.b_err.ga T.b_err.rd T.b_err.vV (pa_cons (pv 0) (pa_cons pe_str pa_nil)))) (pss_one (ps_ost (pv 0) (pv 1)))
theorem ok__law_pen (T : Txt K mg) : FnG P w K mg base 1 T.d__law_pen.f T.d__law_pen.fd P__law_pen (spF K mg true f__law_pen) := by
  refine fnF_G (k := 0) (m := m__law_pen) (np := 1) (nn := 1) rfl rfl rfl T.d__law_pen.F sc__law_pen fun cdv A outer s H E hr hgd => ?_
  have h64 := hr.units
  have h65 := hu65 hr
  have h1 := hu1 hr
  have h4 := hu4 hr
  have sc := sc__law_pen
  refine ⟨_, pss_one (ps_ret (pe_lst (pa_cons (pv 0) (pa_cons (pe_int) (pa_cons (pe_int) (pa_nil)))))), ?_⟩
  unfold m__law_pen
  exact es_retO (en_lst (ea_cons (ev_var (i := 0)) (ea_cons (ev_int) (ea_cons (ev_int) (ea_nil)))))
theorem ok__law_draw (T : Txt K mg) : FnG P w K mg base 1 T.d__law_draw.f T.d__law_draw.fd P__law_draw (spP K mg false p__law_draw) := by
  refine fnP_G (k := 0) (m := m__law_draw) (np := 2) (nn := 6) rfl rfl rfl T.d__law_draw.F sc__law_draw fun cdv A outer s H E hr hgd => ?_
  have h64 := hr.units
  have h65 := hu65 hr
  have h1 := hu1 hr
  have h4 := hu4 hr
  have sc := sc__law_draw
  refine ⟨_, pss_cons (ps_if (pt_cmpR op_gt (pe_ix (ix_any_ (K := K) rfl h1) (pv 0) (pe_int) (fun _ _ => rfl)) (pe_int) (nomark _)) (pss_cons (ps_set (i := 2) sc.nd rfl (Or.inl rfl) (pe_op op_modN (pe_ix (ix_any_ (K := K) rfl h1) (pv 0) (pe_int) (fun _ _ => rfl)) (pv 1)))
      (pss_cons (ps_asg (pe_op op_fdivN (pe_ix (ix_any_ (K := K) rfl h1) (pv 0) (pe_int) (fun _ _ => rfl)) (pv 1)) (pg_sub (pv 0) (pe_int) (set_any h1)))
      (pss_one (ps_ret (pv 2))))) (pss_nil))
      (pss_cons (ps_set (i := 3) sc.nd rfl (Or.inl rfl) (pe_ix (ix_any_ (K := K) rfl h1) (pv 0) (pe_int) (fun _ _ => rfl)))
      (pss_cons (ps_asg (pe_op (op_addAny_ (K := K) rfl) (pv 3) (pe_int)) (pg_sub (pv 0) (pe_int) (set_any h1)))
      (pss_cons (ps_set (i := 4) sc.nd rfl (Or.inl rfl) (pe_int))
      (pss_cons (ps_if (pt_cmpR op_gt (pe_callB (call_lenAny_ (K := K) rfl) (by rfl) T.z_len (by decide +kernel) (pa_cons (pe_ix (ix_any_ (K := K) rfl h1) (pv 0) (pe_int) (fun _ _ => rfl)) (pa_nil))) (pe_int) (nomark _)) (pss_one (ps_set (i := 4) sc.nd rfl (Or.inl rfl) (pe_ix (ix_any_ (K := K) rfl h1) (pe_ix (ix_any_ (K := K) rfl h1) (pv 0) (pe_int) (fun _ _ => rfl)) (pe_op op_modN (pv 3) (pe_callB (call_lenAny_ (K := K) rfl) (by rfl) T.z_len (by decide +kernel) (pa_cons (pe_ix (ix_any_ (K := K) rfl h1) (pv 0) (pe_int) (fun _ _ => rfl)) (pa_nil)))) (fun _ _ => rfl)))) (pss_nil))
      (pss_cons (ps_if (PW.pt (pw_and (pt_cmpR op_lt (pv 3) (pe_callB (call_lenAny_ (K := K) rfl) (by rfl) T.z_len (by decide +kernel) (pa_cons (pe_ix (ix_any_ (K := K) rfl h1) (pv 0) (pe_int) (fun _ _ => rfl)) (pa_nil))) (nomark _)) (pw_and1 (pt_cmpR op_ge (pe_callB call_abs (by rfl) T.z_abs (by decide +kernel) (pa_cons (pv 4) (pa_nil))) (pe_op op_pow (pe_int) (pe_int)) (nomark _))))) (pss_cons (ps_asg (pe_op op_fdivN (pe_callB call_abs (by rfl) T.z_abs (by decide +kernel) (pa_cons (pv 4) (pa_nil))) (pv 1)) (pg_sub (pv 0) (pe_int) (set_any h1)))
      (pss_one (ps_ret (pe_op op_modN (pe_callB call_abs (by rfl) T.z_abs (by decide +kernel) (pa_cons (pv 4) (pa_nil))) (pv 1))))) (pss_nil))
      (pss_cons (ps_set (i := 5) sc.nd rfl (Or.inl rfl) (pe_op op_modN (pe_op (op_mulAny_ (K := K) rfl) (pe_op (op_addAny_ (K := K) rfl) (pe_op (op_addAny_ (K := K) rfl) (pe_op op_modN (pv 4) (pe_int)) (pe_op (op_mulAny_ (K := K) rfl) (pe_int) (pv 3))) (pe_int)) (pe_int)) (pe_int)))
      (pss_cons (ps_set (i := 5) sc.nd rfl (Or.inl rfl) (pe_op op_modN (pe_op (op_addAny_ (K := K) rfl) (pe_op (op_addAny_ (K := K) rfl) (pe_op (op_mulAny_ (K := K) rfl) (pv 5) (pv 5)) (pe_op (op_mulAny_ (K := K) rfl) (pe_int) (pv 5))) (pv 3)) (pe_int)))
      (pss_one (ps_ret (pe_op op_modN (pe_op op_fdivN (pe_op op_modN (pe_op (op_mulAny_ (K := K) rfl) (pv 5) (pe_op (op_addAny_ (K := K) rfl) (pe_op op_modN (pv 5) (pe_int)) (pe_int))) (pe_int)) (pe_int)) (pv 1))))))))))), ?_⟩
  unfold m__law_draw
  exact es_seq (es_if (eb_of (ev_sc s_cmp (er_consT (evt_ix (mg := mg) (W := fun cls d _ H => E cls d H) (evt_var (i := 0)) (ev_int)) (er_cons (ev_int) (er_nil))))) (es_seq (es_asgF (ev_sc s_mod (er_consT (evt_ix (mg := mg) (W := fun cls d _ H => E cls d H) (evt_var (i := 0)) (ev_int)) (er_cons (ev_var (i := 1)) (er_nil)))) (by decide))
      (es_seq (es_set (i := 0) (ev_sc s_fdiv (er_consT (evt_ix (mg := mg) (W := fun cls d _ H => E cls d H) (evt_var (i := 0)) (ev_int)) (er_cons (ev_var (i := 1)) (er_nil)))) (ev_int))
      (es_ret (ev_var (i := 2))))) (es_nx))
      (es_seq (es_asgF (ev_imm (evt_ix (mg := mg) (W := fun cls d _ H => E cls d H) (evt_var (i := 0)) (ev_int))) (by decide))
      (es_seq (es_set (i := 0) ((en_n g_add (ea_cons (ev_var (i := 3)) (ea_cons (ev_int) ea_nil))).e) (ev_int))
      (es_seq (es_asgF (ev_int) (by decide))
      (es_seq (es_if (eb_of (ev_sc s_cmp (er_cons (ev_sc s_len (er_consT (evt_ix (mg := mg) (W := fun cls d _ H => E cls d H) (evt_var (i := 0)) (ev_int)) (er_nil))) (er_cons (ev_int) (er_nil))))) (es_asgF (ev_imm (evt_ix (mg := mg) (W := fun cls d _ H => E cls d H) (evt_ix (mg := mg) (W := fun cls d _ H => E cls d H) (evt_var (i := 0)) (ev_int)) (ev_sc s_mod (er_cons (ev_var (i := 3)) (er_cons (ev_sc s_len (er_consT (evt_ix (mg := mg) (W := fun cls d _ H => E cls d H) (evt_var (i := 0)) (ev_int)) (er_nil))) (er_nil)))))) (by decide)) (es_nx))
      (es_seq (es_if (eb_and (eb_of (ev_sc s_cmp (er_cons (ev_var (i := 3)) (er_cons (ev_sc s_len (er_consT (evt_ix (mg := mg) (W := fun cls d _ H => E cls d H) (evt_var (i := 0)) (ev_int)) (er_nil))) (er_nil))))) (eb_of (ev_sc s_cmp (er_cons (ev_sc s_abs (er_cons (ev_var (i := 4)) (er_nil))) (er_cons (ev_sc s_pow (er_cons (ev_int) (er_cons (ev_int) (er_nil)))) (er_nil)))))) (es_seq (es_set (i := 0) (ev_sc s_fdiv (er_cons (ev_sc s_abs (er_cons (ev_var (i := 4)) (er_nil))) (er_cons (ev_var (i := 1)) (er_nil)))) (ev_int))
      (es_ret (ev_sc s_mod (er_cons (ev_sc s_abs (er_cons (ev_var (i := 4)) (er_nil))) (er_cons (ev_var (i := 1)) (er_nil)))))) (es_nx))
      (es_seq (es_asgF (ev_sc s_mod (er_cons ((en_n g_mul (ea_cons ((en_n g_add (ea_cons ((en_n g_add (ea_cons (ev_sc s_mod (er_cons (ev_var (i := 4)) (er_cons (ev_int) (er_nil)))) (ea_cons ((en_n g_mul (ea_cons (ev_int) (ea_cons (ev_var (i := 3)) ea_nil))).e) ea_nil))).e) (ea_cons (ev_int) ea_nil))).e) (ea_cons (ev_int) ea_nil))).e) (er_cons (ev_int) (er_nil)))) (by decide))
      (es_seq (es_asgF (ev_sc s_mod (er_cons ((en_n g_add (ea_cons ((en_n g_add (ea_cons ((en_n g_mul (ea_cons (ev_var (i := 5)) (ea_cons (ev_var (i := 5)) ea_nil))).e) (ea_cons ((en_n g_mul (ea_cons (ev_int) (ea_cons (ev_var (i := 5)) ea_nil))).e) ea_nil))).e) (ea_cons (ev_var (i := 3)) ea_nil))).e) (er_cons (ev_int) (er_nil)))) (by decide))
      (es_ret (ev_sc s_mod (er_cons (ev_sc s_fdiv (er_cons (ev_sc s_mod (er_cons ((en_n g_mul (ea_cons (ev_var (i := 5)) (ea_cons ((en_n g_add (ea_cons (ev_sc s_mod (er_cons (ev_var (i := 5)) (er_cons (ev_int) (er_nil)))) (ea_cons (ev_int) ea_nil))).e) ea_nil))).e) (er_cons (ev_int) (er_nil)))) (er_cons (ev_int) (er_nil)))) (er_cons (ev_var (i := 1)) (er_nil))))))))))))
theorem ok__law_order (T : Txt K mg) : FnG P w K mg base 2 T.d__law_order.f T.d__law_order.fd P__law_order (spP K mg true p__law_order) := by
  refine fnP_G (k := 1) (m := m__law_order) (np := 2) (nn := 4) rfl rfl rfl T.d__law_order.F sc__law_order fun cdv A outer s H E hr hgd => ?_
  have h64 := hr.units
  have h65 := hu65 hr
  have h1 := hu1 hr
  have h4 := hu4 hr
  have sc := sc__law_order
  refine ⟨_, pss_cons (ps_set (i := 2) sc.nd rfl (Or.inr rfl) (pe_listRg rfl (by rfl) T.z_list (prg_1 (by rfl) T.z_range (pv 1))))
      (pss_one (ps_ret (pe_lc (own := [("_law_k", 3)]) rfl sc.nd (pi_range1 (by rfl) T.z_range (pa_cons (pv 1) (pa_nil))) (blkOk_by (own := [("_law_k", 3)]) (N := N__law_order) (sc := defScope s__law_order) (by decide +kernel)) (fun _ _ _ _ _ => pg_name (i := 3) sc.nd rfl (Or.inl rfl)) (fun _ _ _ _ _ => pts_nil) (fun _ _ _ _ _ => pe_bm_ (K := K) rfl PySem.F.plainAttrs_list PySem.F.slot_list_pop PySem.F.type_list_pop mt_popAt (pv 2) (pa_cons (pe_callG (ok__law_draw T) (hr.mono (by decide)) hgd (by rfl) T.d__law_draw.mg T.d__law_draw.F.kp T.d__law_draw.b (fun σ => passAt takes0 σ) (pa_cons (pv 0) (pa_cons (pe_callB (call_lenAny_ (K := K) rfl) (by rfl) T.z_len (by decide +kernel) (pa_cons (pv 2) (pa_nil))) (pa_nil)))) (pa_nil)))))), ?_⟩
  unfold m__law_order
  exact es_seq (es_asgO (en_n n_lstRg1 (ea_cons (ev_var (i := 1)) (ea_nil))) (by decide))
      (es_retO (en_lc (ws := [3]) (ei_range1 (er_cons (ev_var (i := 1)) (er_nil))) (eg_name 3) (eb_yes) (ev_mut (i := 2) mut_popAt (ea_cons (ev_callP (i := 0) (ea_cons (ev_sc s_len (er_consT (evt_var (i := 2)) (er_nil))) (ea_nil))) (ea_nil))) (by decide)))
theorem ok__law_turn (T : Txt K mg) : FnG P w K mg base 3 T.d__law_turn.f T.d__law_turn.fd P__law_turn (spP K mg true p__law_turn) := by
  refine fnP_G (k := 2) (m := m__law_turn) (np := 2) (nn := 6) rfl rfl rfl T.d__law_turn.F sc__law_turn fun cdv A outer s H E hr hgd => ?_
  have h64 := hr.units
  have h65 := hu65 hr
  have h1 := hu1 hr
  have h4 := hu4 hr
  have sc := sc__law_turn
  refine ⟨_, pss_cons (ps_set (i := 2) sc.nd rfl (Or.inl rfl) (pe_callG (ok__law_draw T) (hr.mono (by decide)) hgd (by rfl) T.d__law_draw.mg T.d__law_draw.F.kp T.d__law_draw.b (fun σ => passAt (takes_of rfl rfl rfl rfl) σ) (pa_cons (pv 0) (pa_cons (pe_int) (pa_nil)))))
      (pss_cons (ps_set (i := 3) sc.nd rfl (Or.inl rfl) (pe_callG (ok__law_order T) (hr.mono (by decide)) hgd (by rfl) T.d__law_order.mg T.d__law_order.F.kp T.d__law_order.b (fun σ => passAt (takes_of rfl rfl rfl rfl) σ) (pa_cons (pv 0) (pa_cons (pv 1) (pa_nil)))))
      (pss_cons (ps_set (i := 4) sc.nd rfl (Or.inl rfl) (pe_listRg rfl (by rfl) T.z_list (prg_1 (by rfl) T.z_range (pv 1))))
      (pss_cons (ps_if (pt_cmpR (op_eqD_ (K := K) rfl h64) (pv 2) (pe_int) (nomark _)) (pss_one (ps_ret (pe_callTy (call_tuple_of_ (K := K) rfl) (by rfl) T.z_tuple (by decide +kernel) (pa_cons (pv 4) (pa_nil))))) (pss_nil))
      (pss_cons (ps_if (pt_cmpR (op_eqD_ (K := K) rfl h64) (pv 2) (pe_int) (nomark _)) (pss_one (ps_for (passes_of rfl) rfl (pi_range1 (by rfl) T.z_range (pa_cons (pv 1) (pa_nil))) (pg_name (i := 5) sc.nd rfl (Or.inl rfl)) (pss_one (ps_asg (pe_ix (ix_any_ (K := K) rfl h1) (pv 3) (pv 5) (fun _ _ => rfl)) (pg_sub (pv 4) (pe_ix (ix_any_ (K := K) rfl h1) (pv 3) (pe_op op_sub (pv 5) (pe_int)) (fun _ _ => rfl)) (set_any h1)))))) (pss_one (ps_if (pt_cmpR (op_eqD_ (K := K) rfl h64) (pv 2) (pe_int) (nomark _)) (pss_one (ps_for (passes_of rfl) rfl (pi_range3 (by rfl) T.z_range (pa_cons (pe_int) (pa_cons (pv 1) (pa_cons (pe_int) (pa_nil))))) (pg_name (i := 5) sc.nd rfl (Or.inl rfl)) (pss_cons (ps_asg (pe_ix (ix_any_ (K := K) rfl h1) (pv 3) (pv 5) (fun _ _ => rfl)) (pg_sub (pv 4) (pe_ix (ix_any_ (K := K) rfl h1) (pv 3) (pe_op op_sub (pv 5) (pe_int)) (fun _ _ => rfl)) (set_any h1)))
      (pss_one (ps_asg (pe_ix (ix_any_ (K := K) rfl h1) (pv 3) (pe_op op_sub (pv 5) (pe_int)) (fun _ _ => rfl)) (pg_sub (pv 4) (pe_ix (ix_any_ (K := K) rfl h1) (pv 3) (pv 5) (fun _ _ => rfl)) (set_any h1))))))) (pss_one (ps_set (i := 4) sc.nd rfl (Or.inl rfl) (pv 3))))))
      (pss_one (ps_ret (pe_callTy (call_tuple_of_ (K := K) rfl) (by rfl) T.z_tuple (by decide +kernel) (pa_cons (pv 4) (pa_nil))))))))), ?_⟩
  unfold m__law_turn
  exact es_seq (es_asgF (ev_callP (i := 0) (ea_cons (ev_int) (ea_nil))) (by decide))
      (es_seq (es_asgO (en_callP (i := 0) (ea_cons (ev_var (i := 1)) (ea_nil))) (by decide))
      (es_seq (es_asgO (en_n n_lstRg1 (ea_cons (ev_var (i := 1)) (ea_nil))) (by decide))
      (es_seq (es_if (eb_of (ev_sc s_eq (er_cons (ev_var (i := 2)) (er_cons (ev_int) (er_nil))))) (es_frz 4 (es_retO (en_n g_tuple (ea_cons (ev_var (i := 4)) (ea_nil))))) (es_nx))
      (es_seq (es_if (eb_of (ev_sc s_eq (er_cons (ev_var (i := 2)) (er_cons (ev_int) (er_nil))))) (es_for (ei_range1 (er_cons (ev_var (i := 1)) (er_nil))) (eg_name 5) (es_set (i := 4) (ev_imm (evt_ix (mg := mg) (W := fun cls d _ H => E cls d H) (evt_var (i := 3)) (ev_var (i := 5)))) (ev_imm (evt_ix (mg := mg) (W := fun cls d _ H => E cls d H) (evt_var (i := 3)) (ev_sc s_sub (er_cons (ev_var (i := 5)) (er_cons (ev_int) (er_nil))))))) (by decide)) (es_if (eb_of (ev_sc s_eq (er_cons (ev_var (i := 2)) (er_cons (ev_int) (er_nil))))) (es_for (ei_rangeC (er_cons (ev_int) (er_cons (ev_var (i := 1)) (er_cons (ev_int) (er_nil))))) (eg_name 5) (es_seq (es_set (i := 4) (ev_imm (evt_ix (mg := mg) (W := fun cls d _ H => E cls d H) (evt_var (i := 3)) (ev_var (i := 5)))) (ev_imm (evt_ix (mg := mg) (W := fun cls d _ H => E cls d H) (evt_var (i := 3)) (ev_sc s_sub (er_cons (ev_var (i := 5)) (er_cons (ev_int) (er_nil)))))))
      (es_set (i := 4) (ev_imm (evt_ix (mg := mg) (W := fun cls d _ H => E cls d H) (evt_var (i := 3)) (ev_sc s_sub (er_cons (ev_var (i := 5)) (er_cons (ev_int) (er_nil)))))) (ev_imm (evt_ix (mg := mg) (W := fun cls d _ H => E cls d H) (evt_var (i := 3)) (ev_var (i := 5)))))) (by decide)) (es_asgO (en_mv (i := 3)) (by decide))))
      (es_frz 4 (es_retO (en_n g_tuple (ea_cons (ev_var (i := 4)) (ea_nil)))))))))
theorem ok__law_text (T : Txt K mg) : FnG P w K mg base 1 T.d__law_text.f T.d__law_text.fd P__law_text (spF K mg true f__law_text) := by
  refine fnF_G (k := 0) (m := m__law_text) (np := 1) (nn := 6) rfl rfl rfl T.d__law_text.F sc__law_text fun cdv A outer s H E hr hgd => ?_
  have h64 := hr.units
  have h65 := hu65 hr
  have h1 := hu1 hr
  have h4 := hu4 hr
  have sc := sc__law_text
  refine ⟨_, pss_cons (ps_set (i := 1) sc.nd rfl (Or.inl rfl) (pe_lst (pa_nil)))
      (pss_cons (ps_set (i := 2) sc.nd rfl (Or.inl rfl) (pe_dnewK))
      (pss_cons (ps_for (passes_of rfl) rfl (pi_range1 (by rfl) T.z_range (pa_cons (pe_callB (call_lenAny_ (K := K) rfl) (by rfl) T.z_len (by decide +kernel) (pa_cons (pv 0) (pa_nil))) (pa_nil))) (pg_name (i := 3) sc.nd rfl (Or.inl rfl)) (pss_cons (ps_set (i := 4) sc.nd rfl (Or.inl rfl) (pe_lst (pa_nil)))
      (pss_cons (ps_set (i := 5) sc.nd rfl (Or.inl rfl) (pv 3))
      (pss_cons (ps_while (passes_of rfl) (pt_cmpR (op_notInW_ (K := K) rfl h65) (pv 5) (pv 2) (by rfl)) (pss_cons (ps_asg (pe_bl) (pg_sub (pv 2) (pv 5) (set_any h1)))
      (pss_cons (ps_expr (pe_bm PySem.F.plainAttrs_list PySem.F.slot_list_append PySem.F.type_list_append mt_append (pv 4) (pa_cons (pe_callTy (call_strA (K := K) rfl hgd h65) (by rfl) T.z_str (by decide +kernel) (pa_cons (pv 5) (pa_nil))) (pa_nil))))
      (pss_one (ps_set (i := 5) sc.nd rfl (Or.inl rfl) (pe_ix (ix_any_ (K := K) rfl h1) (pv 0) (pv 5) (fun _ _ => rfl)))))))
      (pss_one (ps_if (pt_cmpR op_gt (pe_callB (call_lenAny_ (K := K) rfl) (by rfl) T.z_len (by decide +kernel) (pa_cons (pv 4) (pa_nil))) (pe_int) (nomark _)) (pss_one (ps_expr (pe_bm PySem.F.plainAttrs_list PySem.F.slot_list_append PySem.F.type_list_append mt_append (pv 1) (pa_cons (pe_op (op_addAny_ (K := K) rfl) (pe_op (op_addAny_ (K := K) rfl) (pe_str) (pe_join pe_str (pv 4))) (pe_str)) (pa_nil))))) (pss_nil)))))))
      (pss_one (ps_ret (pe_orT_ (K := K) rfl (pe_join pe_str (pv 1)) (pe_one (pe_str))))))), ?_⟩
  unfold m__law_text
  exact es_seq (es_asgO (en_lst (ea_nil)) (by decide))
      (es_seq (es_asgO (en_dnewK) (by decide))
      (es_seq (es_for (ei_range1 (er_cons (ev_sc s_len (er_cons (ev_var (i := 0)) (er_nil))) (er_nil))) (eg_name 3) (es_seq (es_asgO (en_lst (ea_nil)) (by decide))
      (es_seq (es_asgF (ev_var (i := 3)) (by decide))
      (es_seq (es_while fuel (eb_of (ev_sc s_notIn (er_cons (ev_var (i := 5)) (er_consT (evt_var (i := 2)) (er_nil))))) (es_seq (es_set (i := 2) (ev_bl) (ev_var (i := 5)))
      (es_seq (es_drop (ev_mut (i := 4) mut_append (ea_cons (ev_sc s_strA (er_cons (ev_var (i := 5)) (er_nil))) (ea_nil))))
      (es_asgF (ev_g g_ix (ea_cons (ev_var (i := 0)) (ea_cons (ev_var (i := 5)) ea_nil))) (by decide)))))
      (es_if (eb_of (ev_sc s_cmp (er_cons (ev_sc s_len (er_consT (evt_var (i := 4)) (er_nil))) (er_cons (ev_int) (er_nil))))) (es_frz 4 (es_drop (ev_mut (i := 1) mut_append (ea_cons ((en_n g_add (ea_cons ((en_n g_add (ea_cons (ev_str) (ea_cons (ev_join (ev_var (i := 4))) ea_nil))).e) (ea_cons (ev_str) ea_nil))).e) (ea_nil))))) (es_nx))))) (by decide))
      (es_frz 1 (es_retO (en_imm (ev_orS (ev_join (ev_var (i := 1))) (ev_str)))))))
theorem ok_rings (T : Txt K mg) : FnG P w K mg base 1 T.d_rings.f T.d_rings.fd P_rings (spF K mg true f_rings) := by
  refine fnF_G (k := 0) (m := m_rings) (np := 1) (nn := 5) rfl rfl rfl T.d_rings.F sc_rings fun cdv A outer s H E hr hgd => ?_
  have h64 := hr.units
  have h65 := hu65 hr
  have h1 := hu1 hr
  have h4 := hu4 hr
  have sc := sc_rings
  refine ⟨_, pss_cons (ps_set (i := 1) sc.nd rfl (Or.inl rfl) (pe_lst (pa_nil)))
      (pss_cons (ps_set (i := 2) sc.nd rfl (Or.inl rfl) (pe_lst (pa_nil)))
      (pss_cons (ps_for (passes_of rfl) rfl (pi_range1 (by rfl) T.z_range (pa_cons (pe_callB (call_lenAny_ (K := K) rfl) (by rfl) T.z_len (by decide +kernel) (pa_cons (pv 0) (pa_nil))) (pa_nil))) (pg_name (i := 3) sc.nd rfl (Or.inl rfl)) (pss_one (ps_if (pt_cmpR (op_notInW_ (K := K) rfl h65) (pv 3) (pv 2) (by rfl)) (pss_cons (ps_set (i := 4) sc.nd rfl (Or.inl rfl) (pe_lst (pa_cons (pv 3) (pa_nil))))
      (pss_cons (ps_while (passes_of rfl) (pt_cmpR (op_neD_ (K := K) rfl h64) (pe_ix (ix_any_ (K := K) rfl h1) (pv 0) (pe_ix (ix_any_ (K := K) rfl h1) (pv 4) (pe_un un_neg (pe_int)) (fun _ _ => rfl)) (fun _ _ => rfl)) (pv 3) (nomark _)) (pss_one (ps_expr (pe_bm PySem.F.plainAttrs_list PySem.F.slot_list_append PySem.F.type_list_append mt_append (pv 4) (pa_cons (pe_ix (ix_any_ (K := K) rfl h1) (pv 0) (pe_ix (ix_any_ (K := K) rfl h1) (pv 4) (pe_un un_neg (pe_int)) (fun _ _ => rfl)) (fun _ _ => rfl)) (pa_nil))))))
      (pss_cons (ps_expr (pe_bm PySem.F.plainAttrs_list PySem.F.slot_list_extend PySem.F.type_list_extend mt_extend (pv 2) (pa_cons (pv 4) (pa_nil))))
      (pss_one (ps_expr (pe_bm PySem.F.plainAttrs_list PySem.F.slot_list_append PySem.F.type_list_append mt_append (pv 1) (pa_cons (pv 4) (pa_nil)))))))) (pss_nil))))
      (pss_one (ps_ret (pv 1))))), ?_⟩
  unfold m_rings
  exact es_seq (es_asgO (en_lst (ea_nil)) (by decide))
      (es_seq (es_asgO (en_lst (ea_nil)) (by decide))
      (es_seq (es_for (ei_range1 (er_cons (ev_sc s_len (er_cons (ev_var (i := 0)) (er_nil))) (er_nil))) (eg_name 3) (es_if (eb_of (ev_sc s_notIn (er_cons (ev_var (i := 3)) (er_consT (evt_var (i := 2)) (er_nil))))) (es_seq (es_asgO (en_lst (ea_cons (ev_var (i := 3)) (ea_nil))) (by decide))
      (es_seq (es_while fuel (eb_of (ev_sc s_ne (er_cons (ev_g g_ix (ea_cons (ev_var (i := 0)) (ea_cons (ev_imm (evt_ix (mg := mg) (W := fun cls d _ H => E cls d H) (evt_var (i := 4)) (ev_sc s_neg (er_cons (ev_int) (er_nil))))) ea_nil))) (er_cons (ev_var (i := 3)) (er_nil))))) (es_drop (ev_mut (i := 4) mut_append (ea_cons (ev_g g_ix (ea_cons (ev_var (i := 0)) (ea_cons (ev_imm (evt_ix (mg := mg) (W := fun cls d _ H => E cls d H) (evt_var (i := 4)) (ev_sc s_neg (er_cons (ev_int) (er_nil))))) ea_nil))) (ea_nil)))))
      (es_seq (es_frz 4 (es_drop (ev_mut (i := 2) mut_extend (ea_cons (ev_var (i := 4)) (ea_nil)))))
      (es_frz 4 (es_drop (ev_mut (i := 1) mut_append (ea_cons (ev_var (i := 4)) (ea_nil)))))))) (es_nx)) (by decide))
      (es_retO (en_mv (i := 1)))))
theorem ok_show_numbers (T : Txt K mg) : FnG P w K mg base 1 T.d_show_numbers.f T.d_show_numbers.fd P_show_numbers (spF K mg false f_show_numbers) := by
  refine fnF_G (k := 0) (m := m_show_numbers) (np := 1) (nn := 2) rfl rfl rfl T.d_show_numbers.F sc_show_numbers fun cdv A outer s H E hr hgd => ?_
  have h64 := hr.units
  have h65 := hu65 hr
  have h1 := hu1 hr
  have h4 := hu4 hr
  have sc := sc_show_numbers
  refine ⟨_, pss_one (ps_ret (pe_join pe_str (pe_lc (own := [("number", 1)]) rfl sc.nd (pi_seq_ (K := K) rfl (pv 0)) (blkOk_by (own := [("number", 1)]) (N := N_show_numbers) (sc := defScope s_show_numbers) (by decide +kernel)) (fun _ _ _ _ _ => pg_name (i := 1) sc.nd rfl (Or.inl rfl)) (fun _ _ _ _ _ => pts_nil) (fun _ _ _ _ _ => pe_callTy (call_strA (K := K) rfl hgd h65) (by rfl) T.z_str (by decide +kernel) (pa_cons (pv 1) (pa_nil)))))), ?_⟩
  unfold m_show_numbers
  exact es_ret (ev_join ((en_lc (ws := [1]) (ei_seq (ev_var (i := 0))) (eg_name 1) (eb_yes) (ev_sc s_strA (er_cons (ev_var (i := 1)) (er_nil))) (by decide)).e))
theorem ok_show_turn (T : Txt K mg) : FnG P w K mg base 2 T.d_show_turn.f T.d_show_turn.fd P_show_turn (spF K mg true f_show_turn) := by
  refine fnF_G (k := 1) (m := m_show_turn) (np := 1) (nn := 3) rfl rfl rfl T.d_show_turn.F sc_show_turn fun cdv A outer s H E hr hgd => ?_
  have h64 := hr.units
  have h65 := hu65 hr
  have h1 := hu1 hr
  have h4 := hu4 hr
  have sc := sc_show_turn
  refine ⟨_, pss_cons (ps_setLc (i := 1) (own := [("ring", 2)]) (g := _) rfl sc.nd rfl rfl (sw_true rfl rfl rfl (by decide +kernel)) (pi_seq_ (K := K) rfl (pe_callG (ok_rings T) (hr.mono (by decide)) hgd (by rfl) T.d_rings.mg T.d_rings.F.kp T.d_rings.b (fun σ => passAt (takes_of rfl rfl rfl rfl) σ) (pa_cons (pv 0) (pa_nil)))) (blkOk_by (own := [("ring", 2)]) (N := N_show_turn) (sc := defScope s_show_turn) (by decide +kernel)) (fun _ _ _ _ _ => pg_name (i := 2) sc.nd rfl (Or.inl rfl)) (fun _ _ _ _ _ => pts_one (pt_cmpR op_gt (pe_callB (call_lenAny_ (K := K) rfl) (by rfl) T.z_len (by decide +kernel) (pa_cons (pv 2) (pa_nil))) (pe_int) (nomark _))) (fun _ _ _ _ _ => pe_op (op_addAny_ (K := K) rfl) (pe_op (op_addAny_ (K := K) rfl) (pe_str) (pe_callG (ok_show_numbers T) (hr.mono (by decide)) hgd (by rfl) T.d_show_numbers.mg T.d_show_numbers.F.kp T.d_show_numbers.b (fun σ => passAt takes0 σ) (pa_cons (pv 2) (pa_nil)))) (pe_str)))
      (pss_one (ps_ret (pe_orT_ (K := K) rfl (pe_join pe_str (pv 1)) (pe_one (pe_str))))), ?_⟩
  unfold m_show_turn
  exact es_seq (es_asgF ((en_lc (ws := [2]) (ei_seq ((en_callF (ea_cons (ev_var (i := 0)) (ea_nil))).e)) (eg_name 2) (eb_of (ev_sc s_cmp (er_cons (ev_sc s_len (er_cons (ev_var (i := 2)) (er_nil))) (er_cons (ev_int) (er_nil))))) ((en_n g_add (ea_cons ((en_n g_add (ea_cons (ev_str) (ea_cons (ev_callF (ea_cons (ev_var (i := 2)) (ea_nil))) ea_nil))).e) (ea_cons (ev_str) ea_nil))).e) (by decide)).e) (by decide))
      (es_retO (en_imm (ev_orS (ev_join (ev_var (i := 1))) (ev_str))))
theorem ok_is_whole (T : Txt K mg) : FnG P w K mg base 1 T.d_is_whole.f T.d_is_whole.fd P_is_whole (spF K mg true f_is_whole) := by
  refine fnF_G (k := 0) (m := m_is_whole) (np := 1) (nn := 1) rfl rfl rfl T.d_is_whole.F sc_is_whole fun cdv A outer s H E hr hgd => ?_
  have h64 := hr.units
  have h65 := hu65 hr
  have h1 := hu1 hr
  have h4 := hu4 hr
  have sc := sc_is_whole
  refine ⟨_, pss_one (ps_ret (pe_and (pe_callB (call_isi_ (K := K) rfl) (by rfl) T.z_isinstance (by decide +kernel) (pa_cons (pv 0) (pa_cons (pe_bltn (v := .ty "int") (by rfl) T.z_int (by decide +kernel) rfl) (pa_nil)))) (pe_one (pe_not (pe_callB (call_isi_ (K := K) rfl) (by rfl) T.z_isinstance (by decide +kernel) (pa_cons (pv 0) (pa_cons (pe_bltn (v := .ty "bool") (by rfl) T.z_bool (by decide +kernel) rfl) (pa_nil)))))))), ?_⟩
  unfold m_is_whole
  exact es_retO (en_imm (ev_andV (ev_sc (s_isi (T := .int)) (er_cons (ev_var (i := 0)) (er_cons (ev_ty (n := "int")) (er_nil)))) (ev_notV (ev_sc (s_isi (T := .bool)) (er_cons (ev_var (i := 0)) (er_cons (ev_ty (n := "bool")) (er_nil)))))))
theorem ok_turn_of (T : Txt K mg) : FnG P w K mg base 3 T.d_turn_of.f T.d_turn_of.fd P_turn_of (spF K mg true f_turn_of) := by
  refine fnF_G (k := 2) (m := m_turn_of) (np := 2) (nn := 8) rfl rfl rfl T.d_turn_of.F sc_turn_of fun cdv A outer s H E hr hgd => ?_
  have h64 := hr.units
  have h65 := hu65 hr
  have h1 := hu1 hr
  have h4 := hu4 hr
  have sc := sc_turn_of
  refine ⟨_, pss_cons (ps_if (pt_not (pt_chain op_le op_le (pe_int) (pv 0) (pe_gi (by rfl) T.g_MOST_THINGS))) (pss_one (ps_raiseI T.i_NoTurn rfl rfl (okI_NoTurn T) (hr.mono (by decide)) rfl (takes_of rfl rfl rfl rfl) (by rfl) (pa_cons (pe_un un_neg (pe_int)) pa_nil))) (pss_nil))
      (pss_cons (ps_set (i := 2) sc.nd rfl (Or.inl rfl) (pe_listRg rfl (by rfl) T.z_list (prg_1 (by rfl) T.z_range (pv 0))))
      (pss_cons (ps_set (i := 3) sc.nd rfl (Or.inl rfl) (pe_lst (pa_nil)))
      (pss_cons (ps_for (passes_of rfl) rfl (pi_range1 (by rfl) T.z_range (pa_cons (pe_callB (call_lenAny_ (K := K) rfl) (by rfl) T.z_len (by decide +kernel) (pa_cons (pv 1) (pa_nil))) (pa_nil))) (pg_name (i := 4) sc.nd rfl (Or.inl rfl)) (pss_cons (ps_set (i := 5) sc.nd rfl (Or.inl rfl) (pe_ix (ix_any_ (K := K) rfl h1) (pv 1) (pv 4) (fun _ _ => rfl)))
      (pss_cons (ps_if (pt_cmpR (op_eqD_ (K := K) rfl h64) (pv 5) (pe_lst (pa_nil)) (nomark _)) (pss_one (ps_raiseI T.i_NoTurn rfl rfl (okI_NoTurn T) (hr.mono (by decide)) rfl (takes_of rfl rfl rfl rfl) (by rfl) (pa_cons (pv 4) pa_nil))) (pss_nil))
      (pss_cons (ps_for (passes_of rfl) rfl (pi_seq_ (K := K) rfl (pv 5)) (pg_name (i := 6) sc.nd rfl (Or.inl rfl)) (pss_cons (ps_if (PW.pt (pw_or (pt_not (pt_val (pe_callG (ok_is_whole T) (hr.mono (by decide)) hgd (by rfl) T.d_is_whole.mg T.d_is_whole.F.kp T.d_is_whole.b (fun σ => passAt (takes_of rfl rfl rfl rfl) σ) (pa_cons (pv 6) (pa_nil))))) (pw_or (pt_not (pt_chain op_le op_lt (pe_int) (pv 6) (pv 0))) (pw_or1 (pt_cmpR (op_inW_ (K := K) rfl h65) (pv 6) (pv 3) (by rfl)))))) (pss_one (ps_raiseI T.i_NoTurn rfl rfl (okI_NoTurn T) (hr.mono (by decide)) rfl (takes_of rfl rfl rfl rfl) (by rfl) (pa_cons (pv 4) pa_nil))) (pss_nil))
      (pss_one (ps_expr (pe_bm PySem.F.plainAttrs_list PySem.F.slot_list_append PySem.F.type_list_append mt_append (pv 3) (pa_cons (pv 6) (pa_nil)))))))
      (pss_one (ps_for (passes_of rfl) rfl (pi_range1 (by rfl) T.z_range (pa_cons (pe_callB (call_lenAny_ (K := K) rfl) (by rfl) T.z_len (by decide +kernel) (pa_cons (pv 5) (pa_nil))) (pa_nil))) (pg_name (i := 7) sc.nd rfl (Or.inl rfl)) (pss_one (ps_asg (pe_ix (ix_any_ (K := K) rfl h1) (pv 5) (pv 7) (fun _ _ => rfl)) (pg_sub (pv 2) (pe_ix (ix_any_ (K := K) rfl h1) (pv 5) (pe_op op_sub (pv 7) (pe_int)) (fun _ _ => rfl)) (set_any h1))))))))))
      (pss_one (ps_ret (pe_callTy (call_tuple_of_ (K := K) rfl) (by rfl) T.z_tuple (by decide +kernel) (pa_cons (pv 2) (pa_nil)))))))), ?_⟩
  unfold m_turn_of
  exact es_seq (es_if (eb_not (eb_of (ev_chain (f := fun i j => decide (i ≤ j)) (g := fun i j => decide (i ≤ j)) (er_cons (ev_int) (er_cons (ev_var (i := 0)) (er_nil))) (ev_int)))) (es_raiseI T.i_NoTurn (ev_sc s_neg (er_cons (ev_int) (er_nil)))) (es_nx))
      (es_seq (es_asgO (en_n n_lstRg1 (ea_cons (ev_var (i := 0)) (ea_nil))) (by decide))
      (es_seq (es_asgO (en_lst (ea_nil)) (by decide))
      (es_seq (es_for (ei_range1 (er_cons (ev_sc s_len (er_cons (ev_var (i := 1)) (er_nil))) (er_nil))) (eg_name 4) (es_seq (es_asgF (ev_g g_ix (ea_cons (ev_var (i := 1)) (ea_cons (ev_var (i := 4)) ea_nil))) (by decide))
      (es_seq (es_if (eb_of (ev_sc s_eq (er_cons (ev_var (i := 5)) (er_cons ((en_lst (ea_nil)).e) (er_nil))))) (es_raiseI T.i_NoTurn (ev_var (i := 4))) (es_nx))
      (es_seq (es_for (ei_seq (ev_var (i := 5))) (eg_name 6) (es_seq (es_if (eb_or (eb_not (eb_ofB ((en_callF (ea_cons (ev_var (i := 6)) (ea_nil))).e))) (eb_or (eb_not (eb_of (ev_chain (f := fun i j => decide (i ≤ j)) (g := fun i j => decide (i < j)) (er_cons (ev_int) (er_cons (ev_var (i := 6)) (er_nil))) (ev_var (i := 0))))) (eb_of (ev_sc s_in (er_cons (ev_var (i := 6)) (er_consT (evt_var (i := 3)) (er_nil))))))) (es_raiseI T.i_NoTurn (ev_var (i := 4))) (es_nx))
      (es_drop (ev_mut (i := 3) mut_append (ea_cons (ev_var (i := 6)) (ea_nil))))) (by decide))
      (es_for (ei_range1 (er_cons (ev_sc s_len (er_cons (ev_var (i := 5)) (er_nil))) (er_nil))) (eg_name 7) (es_set (i := 2) (ev_g g_ix (ea_cons (ev_var (i := 5)) (ea_cons (ev_var (i := 7)) ea_nil))) (ev_g g_ix (ea_cons (ev_var (i := 5)) (ea_cons (ev_sc s_sub (er_cons (ev_var (i := 7)) (er_cons (ev_int) (er_nil)))) ea_nil)))) (by decide))))) (by decide))
      (es_frz 2 (es_retO (en_n g_tuple (ea_cons (ev_var (i := 2)) (ea_nil))))))))
theorem ok_is_number (T : Txt K mg) : FnG P w K mg base 1 T.d_is_number.f T.d_is_number.fd P_is_number (spF K mg true f_is_number) := by
  refine fnF_G (k := 0) (m := m_is_number) (np := 1) (nn := 2) rfl rfl rfl T.d_is_number.F sc_is_number fun cdv A outer s H E hr hgd => ?_
  have h64 := hr.units
  have h65 := hu65 hr
  have h1 := hu1 hr
  have h4 := hu4 hr
  have sc := sc_is_number
  refine ⟨_, pss_cons (ps_if (PW.pt (pw_or (pt_not (pt_chain op_le op_le (pe_int) (pe_callB (call_lenAny_ (K := K) rfl) (by rfl) T.z_len (by decide +kernel) (pa_cons (pv 0) (pa_nil))) (pe_gi (by rfl) T.g_MOST_FIGURES))) (pw_or1 (pt_not (pt_val (pe_callB (cr_all_ (K := K) rfl rfl) (by rfl) T.z_all (by decide +kernel) (pa_cons (pe_lc (own := [("sign", 1)]) rfl sc.nd (pi_str (pv 0)) (blkOk_by (own := [("sign", 1)]) (N := N_is_number) (sc := defScope s_is_number) (by decide +kernel)) (fun _ _ _ _ _ => pg_name (i := 1) sc.nd rfl (Or.inl rfl)) (fun _ _ _ _ _ => pts_nil) (fun _ _ _ _ _ => pe_cmpR op_in_sign (pv 1) (pe_gs (by rfl) T.g_FIGURES) (by rfl))) (pa_nil)))))))) (pss_one (ps_ret (pe_bl))) (pss_nil))
      (pss_one (ps_ret (pe_or (pe_cmpR (op_eqD_ (K := K) rfl h64) (pv 0) (pe_str) (nomark _)) (pe_one (pe_cmpR (op_neD_ (K := K) rfl h64) (pe_ix (ix_any_ (K := K) rfl h1) (pv 0) (pe_int) (fun _ _ => rfl)) (pe_str) (nomark _)))))), ?_⟩
  unfold m_is_number
  exact es_seq (es_if (eb_or (eb_not (eb_of (ev_chain (f := fun i j => decide (i ≤ j)) (g := fun i j => decide (i ≤ j)) (er_cons (ev_int) (er_cons (ev_sc s_len (er_cons (ev_var (i := 0)) (er_nil))) (er_nil))) (ev_int)))) (eb_not (eb_ofB (ev_sc s_all (er_cons ((en_lc (ws := [1]) (ei_signs (ev_var (i := 0))) (eg_name 1) (eb_yes) (ev_sc s_inSg (er_cons (ev_var (i := 1)) (er_cons (ev_str) (er_nil)))) (by decide)).e) (er_nil)))))) (es_retO (en_imm (ev_bl))) (es_nx))
      (es_retO (en_imm (ev_orV (ev_sc s_eq (er_cons (ev_var (i := 0)) (er_cons (ev_str) (er_nil)))) (ev_sc s_ne (er_cons (ev_g g_ix (ea_cons (ev_var (i := 0)) (ea_cons (ev_int) ea_nil))) (er_cons (ev_str) (er_nil)))))))
theorem ok_rings_in (T : Txt K mg) : FnG P w K mg base 2 T.d_rings_in.f T.d_rings_in.fd P_rings_in (spF K mg true f_rings_in) := by
  refine fnF_G (k := 1) (m := m_rings_in) (np := 1) (nn := 5) rfl rfl rfl T.d_rings_in.F sc_rings_in fun cdv A outer s H E hr hgd => ?_
  have h64 := hr.units
  have h65 := hu65 hr
  have h1 := hu1 hr
  have h4 := hu4 hr
  have sc := sc_rings_in
  refine ⟨_, pss_cons (ps_if (pt_cmpR (op_eqD_ (K := K) rfl h64) (pv 0) (pe_str) (nomark _)) (pss_one (ps_ret (pe_lst (pa_nil)))) (pss_nil))
      (pss_cons (ps_if (PW.pt (pw_or (pt_cmpR (op_neD_ (K := K) rfl h64) (pe_slice (sl_any_ (K := K) rfl) (pv 0) (po_none) (po_some (pe_int))) (pe_str) (nomark _)) (pw_or1 (pt_cmpR (op_neD_ (K := K) rfl h64) (pe_slice (sl_any_ (K := K) rfl) (pv 0) (po_some (pe_un un_neg (pe_int))) (po_none)) (pe_str) (nomark _))))) (pss_one (ps_never)) (pss_nil))
      (pss_cons (ps_set (i := 1) sc.nd rfl (Or.inl rfl) (pe_lst (pa_nil)))
      (pss_cons (ps_for (passes_of rfl) rfl (pi_seq_ (K := K) rfl (pe_split (pe_slice (sl_any_ (K := K) rfl) (pv 0) (po_some (pe_int)) (po_some (pe_un un_neg (pe_int)))) (pe_str))) (pg_name (i := 2) sc.nd rfl (Or.inl rfl)) (pss_cons (ps_set (i := 3) sc.nd rfl (Or.inl rfl) (pe_split (pv 2) (pe_str)))
      (pss_cons (ps_if (pt_not (pt_val (pe_callB (cr_all_ (K := K) rfl rfl) (by rfl) T.z_all (by decide +kernel) (pa_cons (pe_lc (own := [("word", 4)]) rfl sc.nd (pi_seq_ (K := K) rfl (pv 3)) (blkOk_by (own := [("word", 4)]) (N := N_rings_in) (sc := defScope s_rings_in) (by decide +kernel)) (fun _ _ _ _ _ => pg_name (i := 4) sc.nd rfl (Or.inl rfl)) (fun _ _ _ _ _ => pts_nil) (fun _ _ _ _ _ => pe_callG (ok_is_number T) (hr.mono (by decide)) hgd (by rfl) T.d_is_number.mg T.d_is_number.F.kp T.d_is_number.b (fun σ => passAt takes0 σ) (pa_cons (pv 4) (pa_nil)))) (pa_nil))))) (pss_one (ps_never)) (pss_nil))
      (pss_one (ps_expr (pe_bm PySem.F.plainAttrs_list PySem.F.slot_list_append PySem.F.type_list_append mt_append (pv 1) (pa_cons (pe_lc (own := [("word", 4)]) rfl sc.nd (pi_seq_ (K := K) rfl (pv 3)) (blkOk_by (own := [("word", 4)]) (N := N_rings_in) (sc := defScope s_rings_in) (by decide +kernel)) (fun _ _ _ _ _ => pg_name (i := 4) sc.nd rfl (Or.inl rfl)) (fun _ _ _ _ _ => pts_nil) (fun _ _ _ _ _ => pe_callTy call_int_str (by rfl) T.z_int (by decide +kernel) (pa_cons (pv 4) (pa_nil)))) (pa_nil))))))))
      (pss_one (ps_ret (pv 1)))))), ?_⟩
  unfold m_rings_in
  exact es_seq (es_if (eb_of (ev_sc s_eq (er_cons (ev_var (i := 0)) (er_cons (ev_str) (er_nil))))) (es_retO (en_lst (ea_nil))) (es_nx))
      (es_seq (es_if (eb_or (eb_of (ev_sc s_ne (er_cons (ev_slice (ev_var (i := 0)) (eo_no) (eo_part (ev_int))) (er_cons (ev_str) (er_nil))))) (eb_of (ev_sc s_ne (er_cons (ev_slice (ev_var (i := 0)) (eo_part (ev_sc s_neg (er_cons (ev_int) (er_nil)))) (eo_no)) (er_cons (ev_str) (er_nil)))))) (es_never) (es_nx))
      (es_seq (es_asgO (en_lst (ea_nil)) (by decide))
      (es_seq (es_for (ei_seq ((en_str o_split (ev_slice (ev_var (i := 0)) (eo_part (ev_int)) (eo_part (ev_sc s_neg (er_cons (ev_int) (er_nil))))) (ev_str)).e)) (eg_name 2) (es_seq (es_asgF ((en_str o_split (ev_var (i := 2)) (ev_str)).e) (by decide))
      (es_seq (es_if (eb_not (eb_ofB (ev_sc s_all (er_cons ((en_lc (ws := [4]) (ei_seq (ev_var (i := 3))) (eg_name 4) (eb_yes) ((en_callF (ea_cons (ev_var (i := 4)) (ea_nil))).e) (by decide)).e) (er_nil))))) (es_never) (es_nx))
      (es_drop (ev_mut (i := 1) mut_append (ea_cons ((en_lc (ws := [4]) (ei_seq (ev_var (i := 3))) (eg_name 4) (eb_yes) (ev_sc s_intS (er_cons (ev_var (i := 4)) (er_nil))) (by decide)).e) (ea_nil)))))) (by decide))
      (es_retO (en_mv (i := 1))))))
theorem ok_read_turn (T : Txt K mg) : FnG P w K mg base 4 T.d_read_turn.f T.d_read_turn.fd P_read_turn (spF K mg false f_read_turn) := by
  refine fnF_G (k := 3) (m := m_read_turn) (np := 2) (nn := 3) rfl rfl rfl T.d_read_turn.F sc_read_turn fun cdv A outer s H E hr hgd => ?_
  have h64 := hr.units
  have h65 := hu65 hr
  have h1 := hu1 hr
  have h4 := hu4 hr
  have sc := sc_read_turn
  refine ⟨_, pss_cons (ps_if (pt_not (pt_val (pe_callB (call_isi_ (K := K) rfl) (by rfl) T.z_isinstance (by decide +kernel) (pa_cons (pv 1) (pa_cons (pe_bltn (v := .ty "str") (by rfl) T.z_str (by decide +kernel) rfl) (pa_nil)))))) (pss_one (ps_never)) (pss_nil))
      (pss_cons (ps_try_only rfl rfl (names_ini T.i_NoTurn rfl (by rfl)) (takes_of rfl rfl rfl rfl) (fun _ _ _ tkB poB => pss_one (ps_set (i := 2) sc.nd rfl (Or.inl rfl) (pe_callG (ok_turn_of T) (hr.mono (by decide)) hgd (by rfl) T.d_turn_of.mg T.d_turn_of.F.kp T.d_turn_of.b (fun σ => passAt tkB σ) (pa_cons (pv 0) (pa_cons (pe_callG (ok_rings_in T) (hr.mono (by decide)) hgd (by rfl) T.d_rings_in.mg T.d_rings_in.F.kp T.d_rings_in.b (fun σ => passAt tkB σ) (pa_cons (pv 1) (pa_nil))) (pa_nil)))))) (fun _ _ _ _ _ _ _ => pss_one (ps_never)))
      (pss_cons (ps_if (pt_cmpR (op_neD_ (K := K) rfl h64) (pe_callG (ok_show_turn T) (hr.mono (by decide)) hgd (by rfl) T.d_show_turn.mg T.d_show_turn.F.kp T.d_show_turn.b (fun σ => passAt (takes_of rfl rfl rfl rfl) σ) (pa_cons (pv 2) (pa_nil))) (pv 1) (nomark _)) (pss_one (ps_never)) (pss_nil))
      (pss_one (ps_ret (pv 2))))), ?_⟩
  unfold m_read_turn
  exact es_seq (es_if (eb_not (eb_ofB (ev_sc (s_isi (T := .str)) (er_cons (ev_var (i := 1)) (er_cons (ev_ty (n := "str")) (er_nil)))))) (es_never) (es_nx))
      (es_seq (es_try1 T.t_NoTurn (fun W1 => es_asgF ((en_callF (ea_cons (ev_var (i := 0)) (ea_cons ((en_callF (ea_cons (ev_var (i := 1)) (ea_nil))).e) (ea_nil)))).e) (by decide)) (fun _ _ _ => es_never))
      (es_seq (es_if (eb_of (ev_sc s_ne (er_cons ((en_callF (ea_cons (ev_var (i := 2)) (ea_nil))).e) (er_cons (ev_var (i := 1)) (er_nil))))) (es_never) (es_nx))
      (es_ret (ev_var (i := 2)))))
theorem ok_law (T : Txt K mg) : FnG P w K mg base 5 T.d_law.f T.d_law.fd P_law (spF K mg true f_law) := by
  refine fnF_G (k := 4) (m := m_law) (np := 1) (nn := 8) rfl rfl rfl T.d_law.F sc_law fun cdv A outer s H E hr hgd => ?_
  have h64 := hr.units
  have h65 := hu65 hr
  have h1 := hu1 hr
  have h4 := hu4 hr
  have sc := sc_law
  refine ⟨_, pss_cons (ps_set (i := 1) sc.nd rfl (Or.inl rfl) (pe_callG (ok__law_pen T) (hr.mono (by decide)) hgd (by rfl) T.d__law_pen.mg T.d__law_pen.F.kp T.d__law_pen.b (fun σ => passAt (takes_of rfl rfl rfl rfl) σ) (pa_cons (pv 0) (pa_nil))))
      (pss_cons (ps_for (passes_of rfl) rfl (pi_range1 (by rfl) T.z_range (pa_cons (pe_int) (pa_nil))) (pg_name (i := 2) sc.nd rfl (Or.inl rfl)) (pss_cons (ps_set (i := 3) sc.nd rfl (Or.inl rfl) (pe_op (op_addAny_ (K := K) rfl) (pe_int) (pe_callG (ok__law_draw T) (hr.mono (by decide)) hgd (by rfl) T.d__law_draw.mg T.d__law_draw.F.kp T.d__law_draw.b (fun σ => passAt (takes_of rfl rfl rfl rfl) σ) (pa_cons (pv 1) (pa_cons (pe_int) (pa_nil))))))
      (pss_cons (ps_set (i := 4) sc.nd rfl (Or.inl rfl) (pe_callG (ok__law_turn T) (hr.mono (by decide)) hgd (by rfl) T.d__law_turn.mg T.d__law_turn.F.kp T.d__law_turn.b (fun σ => passAt (takes_of rfl rfl rfl rfl) σ) (pa_cons (pv 1) (pa_cons (pv 3) (pa_nil)))))
      (pss_cons (ps_set (i := 5) sc.nd rfl (Or.inl rfl) (pe_callG (ok__law_text T) (hr.mono (by decide)) hgd (by rfl) T.d__law_text.mg T.d__law_text.F.kp T.d__law_text.b (fun σ => passAt (takes_of rfl rfl rfl rfl) σ) (pa_cons (pv 4) (pa_nil))))
      (pss_cons (ps_set (i := 6) sc.nd rfl (Or.inl rfl) (pe_op (op_addAny_ (K := K) rfl) (pv 4) (pe_tupRg rfl (by rfl) T.z_tuple (prg_2 (by rfl) T.z_range (pv 3) (pe_int)))))
      (pss_one (ps_for (passes_of rfl) rfl (pi_range1 (by rfl) T.z_range (pa_cons (pe_int) (pa_nil))) (pg_name (i := 7) sc.nd rfl (Or.inl rfl)) (pss_cons (ps_if (PW.pt (pw_or (pt_cmpR (op_neD_ (K := K) rfl h64) (pe_callG (ok_show_turn T) (hr.mono (by decide)) hgd (by rfl) T.d_show_turn.mg T.d_show_turn.F.kp T.d_show_turn.b (fun σ => passAt (takes_of rfl rfl rfl rfl) σ) (pa_cons (pv 4) (pa_nil))) (pv 5) (nomark _)) (pw_or1 (pt_cmpR (op_neD_ (K := K) rfl h64) (pe_callB (call_repr (K := K) rfl hgd h65) (by rfl) T.z_repr (by decide +kernel) (pa_cons (pe_callG (ok_read_turn T) (hr.mono (by decide)) hgd (by rfl) T.d_read_turn.mg T.d_read_turn.F.kp T.d_read_turn.b (fun σ => passAt (takes_of rfl rfl rfl rfl) σ) (pa_cons (pv 3) (pa_cons (pv 5) (pa_nil)))) (pa_nil))) (pe_callB (call_repr (K := K) rfl hgd h65) (by rfl) T.z_repr (by decide +kernel) (pa_cons (pv 4) (pa_nil))) (nomark _))))) (pss_one (ps_ret (pe_bl))) (pss_nil))
      (pss_one (ps_if (PW.pt (pw_or (pt_cmpR (op_neD_ (K := K) rfl h64) (pe_callB (call_repr (K := K) rfl hgd h65) (by rfl) T.z_repr (by decide +kernel) (pa_cons (pe_callG (ok_read_turn T) (hr.mono (by decide)) hgd (by rfl) T.d_read_turn.mg T.d_read_turn.F.kp T.d_read_turn.b (fun σ => passAt (takes_of rfl rfl rfl rfl) σ) (pa_cons (pe_int) (pa_cons (pv 5) (pa_nil)))) (pa_nil))) (pe_callB (call_repr (K := K) rfl hgd h65) (by rfl) T.z_repr (by decide +kernel) (pa_cons (pv 6) (pa_nil))) (nomark _)) (pw_or1 (pt_cmpR (op_neD_ (K := K) rfl h64) (pe_callG (ok_show_turn T) (hr.mono (by decide)) hgd (by rfl) T.d_show_turn.mg T.d_show_turn.F.kp T.d_show_turn.b (fun σ => passAt (takes_of rfl rfl rfl rfl) σ) (pa_cons (pv 6) (pa_nil))) (pv 5) (nomark _))))) (pss_one (ps_ret (pe_bl))) (pss_nil)))))))))))
      (pss_one (ps_ret (pe_bl)))), ?_⟩
  unfold m_law
  exact es_seq (es_asgO (en_callF (ea_cons (ev_var (i := 0)) (ea_nil))) (by decide))
      (es_seq (es_for (ei_range1 (er_cons (ev_int) (er_nil))) (eg_name 2) (es_seq (es_asgF ((en_n g_add (ea_cons (ev_int) (ea_cons (ev_callP (i := 1) (ea_cons (ev_int) (ea_nil))) ea_nil))).e) (by decide))
      (es_seq (es_asgF ((en_callP (i := 1) (ea_cons (ev_var (i := 3)) (ea_nil))).e) (by decide))
      (es_seq (es_asgF ((en_callF (ea_cons (ev_var (i := 4)) (ea_nil))).e) (by decide))
      (es_seq (es_asgF ((en_n g_add (ea_cons (ev_var (i := 4)) (ea_cons ((en_n n_tupRg2 (ea_cons (ev_var (i := 3)) (ea_cons (ev_int) (ea_nil)))).e) ea_nil))).e) (by decide))
      (es_for (ei_range1 (er_cons (ev_int) (er_nil))) (eg_name 7) (es_seq (es_if (eb_or (eb_of (ev_sc s_ne (er_cons ((en_callF (ea_cons (ev_var (i := 4)) (ea_nil))).e) (er_cons (ev_var (i := 5)) (er_nil))))) (eb_of (ev_sc s_ne (er_cons (ev_sc s_repr (er_cons (ev_callF (ea_cons (ev_var (i := 3)) (ea_cons (ev_var (i := 5)) (ea_nil)))) (er_nil))) (er_cons (ev_sc s_repr (er_cons (ev_var (i := 4)) (er_nil))) (er_nil)))))) (es_retO (en_imm (ev_bl))) (es_nx))
      (es_if (eb_or (eb_of (ev_sc s_ne (er_cons (ev_sc s_repr (er_cons (ev_callF (ea_cons (ev_int) (ea_cons (ev_var (i := 5)) (ea_nil)))) (er_nil))) (er_cons (ev_sc s_repr (er_cons (ev_var (i := 6)) (er_nil))) (er_nil))))) (eb_of (ev_sc s_ne (er_cons ((en_callF (ea_cons (ev_var (i := 6)) (ea_nil))).e) (er_cons (ev_var (i := 5)) (er_nil)))))) (es_retO (en_imm (ev_bl))) (es_nx))) (by decide)))))) (by decide))
      (es_retO (en_imm (ev_bl))))
end
end MM

set_option Elab.async false
set_option linter.all false
set_option maxRecDepth 100000
set_option maxHeartbeats 4000000
noncomputable section
namespace MM
open PySem PySem.Spec PyProof.Rows L2
def defAt_mk {K : PySem.W.Frag} {h : Heap} {mg : Str → Option Value} {x : Str} {st : Stmt} {ps : List Str} {f : Addr} {od an : Option Addr} {sl : Array (Option Value)} {oc kV dc pm cd ct : Value} (X : K.In h) (G : h.Ns mainGlobals mg)
    (a : PySem.W.nsIn K mainGlobals x = some (some (.ref f))) (l : K.lookup f = some ⟨oc, od, .func (PySem.W.fnOf x x (defArgs st) (defBody st) (defScope st) .none kV dc pm an cd ct), sl⟩) (c : PySem.W.codeIn K cd x = true) (k : PySem.W.keepIn K (.ref f) = true)
    (hb : ∀ (kV doc pm : Value) (an : Option Addr) (cdv ct : Value) (us : List Value), us.length = ps.length → bindArgs (PySem.W.fnOf x x (defArgs st) (defBody st) (defScope st) .none kV doc pm an cdv ct) ⟨us, []⟩ = pure (ps.zip us)) : DefAt K mg x st ps where
  f := f
  fd := PySem.W.fnOf x x (defArgs st) (defBody st) (defScope st) .none kV dc pm an cd ct
  mg := PySem.W.mg_of X G a
  F := fun_mk l c k
  b := (fun_mk l c k).binds hb
/-! ### the law -/
def spLaw (K : PySem.W.Frag) : Sp := fun vs H Q _ => ∃ (a : Addr) (ns : List Int), vs = [.ref a] ∧ SqL K H a (ns.map V.int) ∧ ns.length ≤ 63 ∧ ∀ H', Q (.bl true) H'
theorem spLaw_of {K : PySem.W.Frag} {mg : Str → Option Value} {f : List D → RF} (hf : ∀ ns : List Int, ns.length ≤ 63 → f [.scr ns] = .ret (.bl true)) (vs : List V) (H : Hp) (Q : VK) (E : XK) (h : spLaw K vs H Q E) : spF K mg true f vs H Q E := by
  obtain ⟨a, ns, rfl, hS, hl, q⟩ := h
  refine ⟨fun _ => False, [.scr ns], fun b z => z.elim, .cons (.scr ?_) .nil, ?_⟩
  · rw [show Fz (fun _ => False) H [] = H from funext fun b => fz_in (fun z => nomatch z) id]
    exact hS
  · rw [hf ns hl]
    intro v H' Fd S _ _
    obtain ⟨v', e, r⟩ := S.repH.one_inv
    cases e
    cases r
    exact q _
theorem all_mk {l : PySem.W.OpenLaw} {w : World} {K : PySem.W.Frag} {h : Heap} {mg : Str → Option Value} {fa : Addr} (hf : ∀ ns : List Int, ns.length ≤ 63 → f_law [.scr ns] = .ret (.bl true)) (X : K.In h) (G : h.Ns mainGlobals mg) (hfa : mg "law" = some (.ref fa))
    {f1 : Addr} {od1 an1 : Option Addr} {sl1 : Array (Option Value)} {oc1 kV1 dc1 pm1 cd1 ct1 : Value}
    {f2 : Addr} {od2 an2 : Option Addr} {sl2 : Array (Option Value)} {oc2 kV2 dc2 pm2 cd2 ct2 : Value}
    {f3 : Addr} {od3 an3 : Option Addr} {sl3 : Array (Option Value)} {oc3 kV3 dc3 pm3 cd3 ct3 : Value}
    {f4 : Addr} {od4 an4 : Option Addr} {sl4 : Array (Option Value)} {oc4 kV4 dc4 pm4 cd4 ct4 : Value}
    {f5 : Addr} {od5 an5 : Option Addr} {sl5 : Array (Option Value)} {oc5 kV5 dc5 pm5 cd5 ct5 : Value}
    {f6 : Addr} {od6 an6 : Option Addr} {sl6 : Array (Option Value)} {oc6 kV6 dc6 pm6 cd6 ct6 : Value}
    {f7 : Addr} {od7 an7 : Option Addr} {sl7 : Array (Option Value)} {oc7 kV7 dc7 pm7 cd7 ct7 : Value}
    {f8 : Addr} {od8 an8 : Option Addr} {sl8 : Array (Option Value)} {oc8 kV8 dc8 pm8 cd8 ct8 : Value}
    {f9 : Addr} {od9 an9 : Option Addr} {sl9 : Array (Option Value)} {oc9 kV9 dc9 pm9 cd9 ct9 : Value}
    {f10 : Addr} {od10 an10 : Option Addr} {sl10 : Array (Option Value)} {oc10 kV10 dc10 pm10 cd10 ct10 : Value}
    {f11 : Addr} {od11 an11 : Option Addr} {sl11 : Array (Option Value)} {oc11 kV11 dc11 pm11 cd11 ct11 : Value}
    {f12 : Addr} {od12 an12 : Option Addr} {sl12 : Array (Option Value)} {oc12 kV12 dc12 pm12 cd12 ct12 : Value}
    {f13 : Addr} {od13 an13 : Option Addr} {sl13 : Array (Option Value)} {oc13 kV13 dc13 pm13 cd13 ct13 : Value}
    {f14 : Addr} {od14 an14 : Option Addr} {sl14 : Array (Option Value)} {oc14 kV14 dc14 pm14 cd14 ct14 : Value}
    {tg0 : Tok}
    {tg1 : Tok}
    {ts0 : Tok}
    {bM : Addr}
    {iC0 iN0 iF0 : Addr} {inm0 iq0 : Str} {ibs0 ibm0 : List Value} {isn0 : List Str} {isub0 : List Value} {iab0 : Bool} {icol0 : Option Bool} {idd0 iod0 ian0 : Option Addr} {ik00 ik10 ik20 ik30 ik50 : Option Value} {ioc0 ikV0 idc0 ipm0 icd0 ict0 : Value} {isl0 : Array (Option Value)}
    (a1 : PySem.W.nsIn K mainGlobals "_law_pen" = some (some (.ref f1))) (l1 : K.lookup f1 = some ⟨oc1, od1, .func (PySem.W.fnOf "_law_pen" "_law_pen" (defArgs s__law_pen) (defBody s__law_pen) (defScope s__law_pen) .none kV1 dc1 pm1 an1 cd1 ct1), sl1⟩) (c1 : PySem.W.codeIn K cd1 "_law_pen" = true) (k1 : PySem.W.keepIn K (.ref f1) = true)
    (a2 : PySem.W.nsIn K mainGlobals "_law_draw" = some (some (.ref f2))) (l2 : K.lookup f2 = some ⟨oc2, od2, .func (PySem.W.fnOf "_law_draw" "_law_draw" (defArgs s__law_draw) (defBody s__law_draw) (defScope s__law_draw) .none kV2 dc2 pm2 an2 cd2 ct2), sl2⟩) (c2 : PySem.W.codeIn K cd2 "_law_draw" = true) (k2 : PySem.W.keepIn K (.ref f2) = true)
    (a3 : PySem.W.nsIn K mainGlobals "_law_order" = some (some (.ref f3))) (l3 : K.lookup f3 = some ⟨oc3, od3, .func (PySem.W.fnOf "_law_order" "_law_order" (defArgs s__law_order) (defBody s__law_order) (defScope s__law_order) .none kV3 dc3 pm3 an3 cd3 ct3), sl3⟩) (c3 : PySem.W.codeIn K cd3 "_law_order" = true) (k3 : PySem.W.keepIn K (.ref f3) = true)
    (a4 : PySem.W.nsIn K mainGlobals "_law_turn" = some (some (.ref f4))) (l4 : K.lookup f4 = some ⟨oc4, od4, .func (PySem.W.fnOf "_law_turn" "_law_turn" (defArgs s__law_turn) (defBody s__law_turn) (defScope s__law_turn) .none kV4 dc4 pm4 an4 cd4 ct4), sl4⟩) (c4 : PySem.W.codeIn K cd4 "_law_turn" = true) (k4 : PySem.W.keepIn K (.ref f4) = true)
    (a5 : PySem.W.nsIn K mainGlobals "_law_text" = some (some (.ref f5))) (l5 : K.lookup f5 = some ⟨oc5, od5, .func (PySem.W.fnOf "_law_text" "_law_text" (defArgs s__law_text) (defBody s__law_text) (defScope s__law_text) .none kV5 dc5 pm5 an5 cd5 ct5), sl5⟩) (c5 : PySem.W.codeIn K cd5 "_law_text" = true) (k5 : PySem.W.keepIn K (.ref f5) = true)
    (a6 : PySem.W.nsIn K mainGlobals "rings" = some (some (.ref f6))) (l6 : K.lookup f6 = some ⟨oc6, od6, .func (PySem.W.fnOf "rings" "rings" (defArgs s_rings) (defBody s_rings) (defScope s_rings) .none kV6 dc6 pm6 an6 cd6 ct6), sl6⟩) (c6 : PySem.W.codeIn K cd6 "rings" = true) (k6 : PySem.W.keepIn K (.ref f6) = true)
    (a7 : PySem.W.nsIn K mainGlobals "show_numbers" = some (some (.ref f7))) (l7 : K.lookup f7 = some ⟨oc7, od7, .func (PySem.W.fnOf "show_numbers" "show_numbers" (defArgs s_show_numbers) (defBody s_show_numbers) (defScope s_show_numbers) .none kV7 dc7 pm7 an7 cd7 ct7), sl7⟩) (c7 : PySem.W.codeIn K cd7 "show_numbers" = true) (k7 : PySem.W.keepIn K (.ref f7) = true)
    (a8 : PySem.W.nsIn K mainGlobals "show_turn" = some (some (.ref f8))) (l8 : K.lookup f8 = some ⟨oc8, od8, .func (PySem.W.fnOf "show_turn" "show_turn" (defArgs s_show_turn) (defBody s_show_turn) (defScope s_show_turn) .none kV8 dc8 pm8 an8 cd8 ct8), sl8⟩) (c8 : PySem.W.codeIn K cd8 "show_turn" = true) (k8 : PySem.W.keepIn K (.ref f8) = true)
    (a9 : PySem.W.nsIn K mainGlobals "is_whole" = some (some (.ref f9))) (l9 : K.lookup f9 = some ⟨oc9, od9, .func (PySem.W.fnOf "is_whole" "is_whole" (defArgs s_is_whole) (defBody s_is_whole) (defScope s_is_whole) .none kV9 dc9 pm9 an9 cd9 ct9), sl9⟩) (c9 : PySem.W.codeIn K cd9 "is_whole" = true) (k9 : PySem.W.keepIn K (.ref f9) = true)
    (a10 : PySem.W.nsIn K mainGlobals "turn_of" = some (some (.ref f10))) (l10 : K.lookup f10 = some ⟨oc10, od10, .func (PySem.W.fnOf "turn_of" "turn_of" (defArgs s_turn_of) (defBody s_turn_of) (defScope s_turn_of) .none kV10 dc10 pm10 an10 cd10 ct10), sl10⟩) (c10 : PySem.W.codeIn K cd10 "turn_of" = true) (k10 : PySem.W.keepIn K (.ref f10) = true)
    (a11 : PySem.W.nsIn K mainGlobals "is_number" = some (some (.ref f11))) (l11 : K.lookup f11 = some ⟨oc11, od11, .func (PySem.W.fnOf "is_number" "is_number" (defArgs s_is_number) (defBody s_is_number) (defScope s_is_number) .none kV11 dc11 pm11 an11 cd11 ct11), sl11⟩) (c11 : PySem.W.codeIn K cd11 "is_number" = true) (k11 : PySem.W.keepIn K (.ref f11) = true)
    (a12 : PySem.W.nsIn K mainGlobals "rings_in" = some (some (.ref f12))) (l12 : K.lookup f12 = some ⟨oc12, od12, .func (PySem.W.fnOf "rings_in" "rings_in" (defArgs s_rings_in) (defBody s_rings_in) (defScope s_rings_in) .none kV12 dc12 pm12 an12 cd12 ct12), sl12⟩) (c12 : PySem.W.codeIn K cd12 "rings_in" = true) (k12 : PySem.W.keepIn K (.ref f12) = true)
    (a13 : PySem.W.nsIn K mainGlobals "read_turn" = some (some (.ref f13))) (l13 : K.lookup f13 = some ⟨oc13, od13, .func (PySem.W.fnOf "read_turn" "read_turn" (defArgs s_read_turn) (defBody s_read_turn) (defScope s_read_turn) .none kV13 dc13 pm13 an13 cd13 ct13), sl13⟩) (c13 : PySem.W.codeIn K cd13 "read_turn" = true) (k13 : PySem.W.keepIn K (.ref f13) = true)
    (a14 : PySem.W.nsIn K mainGlobals "law" = some (some (.ref f14))) (l14 : K.lookup f14 = some ⟨oc14, od14, .func (PySem.W.fnOf "law" "law" (defArgs s_law) (defBody s_law) (defScope s_law) .none kV14 dc14 pm14 an14 cd14 ct14), sl14⟩) (c14 : PySem.W.codeIn K cd14 "law" = true) (k14 : PySem.W.keepIn K (.ref f14) = true)
    (z_abs : PySem.W.nsIn K mainGlobals "abs" = some none)
    (z_all : PySem.W.nsIn K mainGlobals "all" = some none)
    (z_bool : PySem.W.nsIn K mainGlobals "bool" = some none)
    (z_int : PySem.W.nsIn K mainGlobals "int" = some none)
    (z_isinstance : PySem.W.nsIn K mainGlobals "isinstance" = some none)
    (z_len : PySem.W.nsIn K mainGlobals "len" = some none)
    (z_list : PySem.W.nsIn K mainGlobals "list" = some none)
    (z_range : PySem.W.nsIn K mainGlobals "range" = some none)
    (z_repr : PySem.W.nsIn K mainGlobals "repr" = some none)
    (z_str : PySem.W.nsIn K mainGlobals "str" = some none)
    (z_tuple : PySem.W.nsIn K mainGlobals "tuple" = some none)
    (g_MOST_FIGURES : PySem.W.nsIn K mainGlobals "MOST_FIGURES" = some (some (.int 30 tg0)))
    (g_MOST_THINGS : PySem.W.nsIn K mainGlobals "MOST_THINGS" = some (some (.int 7 tg1)))
    (g_FIGURES : PySem.W.nsIn K mainGlobals "FIGURES" = some (some (.str "0123456789" ts0)))
    (b_ns : PySem.W.nsIn K mainGlobals "MarkError" = some (some (.ref bM)))
    (b_ga : PySem.W.specialIn K (.ref bM) "__getattribute__" = some (some (.builtin "type.__getattribute__")))
    (b_rd : PySem.W.readsIn K bM (.type "type") = true)
    (b_vv : PySem.W.findCls K (.ref bM) (.type "type") "__init__" = some (.val (.builtin "ValueError.__init__")))
    (i0_ns : PySem.W.nsIn K mainGlobals "NoTurn" = some (some (.ref iC0)))
    (i0_l : K.lookup iC0 = some (excClassObj inm0 iq0 iC0 iN0 ibs0 ibm0 true isn0 isub0 iab0 icol0 idd0 ik00 ik10 ik20 ik30 ik50 "ValueError.__new__"))
    (i0_rv : PySem.HandSPX.refsVE ibm0 = true)
    (i0_sa : PySem.W.findIn K (.ref iC0) "__setattr__" = some (some (.builtin "object.__setattr__")))
    (i0_sb : PySem.W.subIn K (.ref iC0) (.type "BaseException") = some true)
    (i0_ty : PySem.W.typeIn K (.ref iC0) = some (.type "type"))
    (i0_kp : PySem.W.keepIn K (.ref iC0) = true)
    (i0_no : PySem.W.findIn K (.ref iC0) "at" = some none)
    (i0_in : PySem.W.findIn K (.ref iC0) "__init__" = some (some (.ref iF0)))
    (i0_tI : PySem.W.typeIn K (.ref iF0) = some (.type "function"))
    (i0_lF : K.lookup iF0 = some ⟨ioc0, iod0, .func (PySem.W.fnOf "__init__" "NoTurn.__init__" (defArgs si_NoTurn) (defBody si_NoTurn) (defScope si_NoTurn) .none ikV0 idc0 ipm0 ian0 icd0 ict0), isl0⟩)
    (i0_cF : PySem.W.codeIn K icd0 "NoTurn.__init__" = true)
    (i0_kF : PySem.W.keepIn K (.ref iF0) = true)
    (i0_hd : PySem.W.hasDictIn K iC0 = true)
    (i0_se : PySem.W.subIn K (.ref iC0) (.ref iC0) = some true)
    (i0_ga : PySem.W.findIn K (.ref iC0) "__getattribute__" = some (some (.builtin "BaseException.__getattribute__")))
    (i0_gg : PySem.W.findIn K (.ref iC0) "__getattr__" = some none) :
    ∃ fd : FuncData, (∀ (s : Shared) (v : Value), BindsTo s fd ⟨[v], []⟩ [("_law_script", v)]) ∧ ∀ base : Heap, K.In base → base.Ns mainGlobals mg → FnG l.prog w K mg base 5 fa fd ["_law_script"] (spLaw K) := by
  have e := hfa.symm.trans (PySem.W.mg_of X G a14)
  cases e
  let T : Txt K mg := {
    d__law_pen := (defAt_mk X G a1 l1 c1 k1 fun _ _ _ _ _ _ us hl => by match us, hl with | [_], _ => rfl),
    d__law_draw := (defAt_mk X G a2 l2 c2 k2 fun _ _ _ _ _ _ us hl => by match us, hl with | [_, _], _ => rfl),
    d__law_order := (defAt_mk X G a3 l3 c3 k3 fun _ _ _ _ _ _ us hl => by match us, hl with | [_, _], _ => rfl),
    d__law_turn := (defAt_mk X G a4 l4 c4 k4 fun _ _ _ _ _ _ us hl => by match us, hl with | [_, _], _ => rfl),
    d__law_text := (defAt_mk X G a5 l5 c5 k5 fun _ _ _ _ _ _ us hl => by match us, hl with | [_], _ => rfl),
    d_rings := (defAt_mk X G a6 l6 c6 k6 fun _ _ _ _ _ _ us hl => by match us, hl with | [_], _ => rfl),
    d_show_numbers := (defAt_mk X G a7 l7 c7 k7 fun _ _ _ _ _ _ us hl => by match us, hl with | [_], _ => rfl),
    d_show_turn := (defAt_mk X G a8 l8 c8 k8 fun _ _ _ _ _ _ us hl => by match us, hl with | [_], _ => rfl),
    d_is_whole := (defAt_mk X G a9 l9 c9 k9 fun _ _ _ _ _ _ us hl => by match us, hl with | [_], _ => rfl),
    d_turn_of := (defAt_mk X G a10 l10 c10 k10 fun _ _ _ _ _ _ us hl => by match us, hl with | [_, _], _ => rfl),
    d_is_number := (defAt_mk X G a11 l11 c11 k11 fun _ _ _ _ _ _ us hl => by match us, hl with | [_], _ => rfl),
    d_rings_in := (defAt_mk X G a12 l12 c12 k12 fun _ _ _ _ _ _ us hl => by match us, hl with | [_], _ => rfl),
    d_read_turn := (defAt_mk X G a13 l13 c13 k13 fun _ _ _ _ _ _ us hl => by match us, hl with | [_, _], _ => rfl),
    d_law := (defAt_mk X G a14 l14 c14 k14 fun _ _ _ _ _ _ us hl => by match us, hl with | [_], _ => rfl),
    z_abs := PySem.W.mg_none_of X G z_abs,
    z_all := PySem.W.mg_none_of X G z_all,
    z_bool := PySem.W.mg_none_of X G z_bool,
    z_int := PySem.W.mg_none_of X G z_int,
    z_isinstance := PySem.W.mg_none_of X G z_isinstance,
    z_len := PySem.W.mg_none_of X G z_len,
    z_list := PySem.W.mg_none_of X G z_list,
    z_range := PySem.W.mg_none_of X G z_range,
    z_repr := PySem.W.mg_none_of X G z_repr,
    z_str := PySem.W.mg_none_of X G z_str,
    z_tuple := PySem.W.mg_none_of X G z_tuple,
    g_MOST_FIGURES := ⟨_, PySem.W.mg_of X G g_MOST_FIGURES⟩,
    g_MOST_THINGS := ⟨_, PySem.W.mg_of X G g_MOST_THINGS⟩,
    g_FIGURES := ⟨_, PySem.W.mg_of X G g_FIGURES⟩,
    b_err := basT_mk X G b_ns b_ga b_rd b_vv,
    x_NoTurn := ⟨i0_ga, i0_gg, i0_sb, i0_hd⟩,
    i_NoTurn := iniT_mk X G i0_ns i0_l i0_rv i0_sa i0_sb i0_ty i0_kp i0_no i0_in i0_tI i0_lF i0_cF i0_kF fun _ _ _ _ _ _ us hl => by match us, hl with | [_, _], _ => rfl,
    t_NoTurn := .one (PySem.W.mg_of X G i0_ns) i0_ns (PySem.W.exm_ref i0_sb i0_hd i0_ty i0_se) }
  exact ⟨T.d_law.fd, fun s v => .of_eq rfl, fun base _ _ => (ok_law T).imp fun h => spLaw_of hf _ _ _ _ h⟩
end MM
open PySem PySem.W PyProof.Rows
set_option maxHeartbeats 0 in
theorem PySem.Challenge.cw_heldmarks_k71_turns_as_texts_holds : PySem.Challenge.rw_heldmarks_k71_turns_as_texts.Holds := by
  w_on; o_law; k_head; (case hw => w_witness2)
  k_fill
  refine MM.walk_G (l := PySem.Challenge.rw_heldmarks_k71_turns_as_texts) (n := 63) (k := 5) (x := "_law_script") (sp := fun w => MM.spLaw _) rfl (by decide) rfl ⟨rfl, by decide, by decide⟩ (fun w h Y => PySem.W.kIn_of Y) ?F fun _ _ a ns hl _ hS => ⟨a, ns, rfl, hS, hl, fun _ => rfl⟩
  case F =>
    intro w mg fa h KX G hmg
    refine' MM.all_mk MM.maths KX G hmg ?a1 ?l1 ?c1 ?k1 ?a2 ?l2 ?c2 ?k2 ?a3 ?l3 ?c3 ?k3 ?a4 ?l4 ?c4 ?k4 ?a5 ?l5 ?c5 ?k5 ?a6 ?l6 ?c6 ?k6 ?a7 ?l7 ?c7 ?k7 ?a8 ?l8 ?c8 ?k8 ?a9 ?l9 ?c9 ?k9 ?a10 ?l10 ?c10 ?k10 ?a11 ?l11 ?c11 ?k11 ?a12 ?l12 ?c12 ?k12 ?a13 ?l13 ?c13 ?k13 ?a14 ?l14 ?c14 ?k14 ?z_abs ?z_all ?z_bool ?z_int ?z_isinstance ?z_len ?z_list ?z_range ?z_repr ?z_str ?z_tuple ?g_MOST_FIGURES ?g_MOST_THINGS ?g_FIGURES ?b_ns ?b_ga ?b_rd ?b_vv ?i0_ns ?i0_l ?i0_rv ?i0_sa ?i0_sb ?i0_ty ?i0_kp ?i0_no ?i0_in ?i0_tI ?i0_lF ?i0_cF ?i0_kF ?i0_hd ?i0_se ?i0_ga ?i0_gg
    (case a1 => k_is)
    (case l1 => k_is)
    (case c1 => k_is)
    (case k1 => k_is)
    (case a2 => k_is)
    (case l2 => k_is)
    (case c2 => k_is)
    (case k2 => k_is)
    (case a3 => k_is)
    (case l3 => k_is)
    (case c3 => k_is)
    (case k3 => k_is)
    (case a4 => k_is)
    (case l4 => k_is)
    (case c4 => k_is)
    (case k4 => k_is)
    (case a5 => k_is)
    (case l5 => k_is)
    (case c5 => k_is)
    (case k5 => k_is)
    (case a6 => k_is)
    (case l6 => k_is)
    (case c6 => k_is)
    (case k6 => k_is)
    (case a7 => k_is)
    (case l7 => k_is)
    (case c7 => k_is)
    (case k7 => k_is)
    (case a8 => k_is)
    (case l8 => k_is)
    (case c8 => k_is)
    (case k8 => k_is)
    (case a9 => k_is)
    (case l9 => k_is)
    (case c9 => k_is)
    (case k9 => k_is)
    (case a10 => k_is)
    (case l10 => k_is)
    (case c10 => k_is)
    (case k10 => k_is)
    (case a11 => k_is)
    (case l11 => k_is)
    (case c11 => k_is)
    (case k11 => k_is)
    (case a12 => k_is)
    (case l12 => k_is)
    (case c12 => k_is)
    (case k12 => k_is)
    (case a13 => k_is)
    (case l13 => k_is)
    (case c13 => k_is)
    (case k13 => k_is)
    (case a14 => k_is)
    (case l14 => k_is)
    (case c14 => k_is)
    (case k14 => k_is)
    (case z_abs => k_is)
    (case z_all => k_is)
    (case z_bool => k_is)
    (case z_int => k_is)
    (case z_isinstance => k_is)
    (case z_len => k_is)
    (case z_list => k_is)
    (case z_range => k_is)
    (case z_repr => k_is)
    (case z_str => k_is)
    (case z_tuple => k_is)
    (case g_MOST_FIGURES => k_is)
    (case g_MOST_THINGS => k_is)
    (case g_FIGURES => k_is)
    (case b_ns => k_is)
    (case b_ga => k_is)
    (case b_rd => k_is)
    (case b_vv => k_is)
    (case i0_ns => k_is)
    (case i0_l => k_is)
    (case i0_rv => rfl)
    (case i0_sa => k_is)
    (case i0_sb => k_is)
    (case i0_ty => k_is)
    (case i0_kp => k_is)
    (case i0_no => k_is)
    (case i0_in => k_is)
    (case i0_tI => k_is)
    (case i0_lF => k_is)
    (case i0_cF => k_is)
    (case i0_kF => k_is)
    (case i0_hd => k_is)
    (case i0_se => k_is)
    (case i0_ga => k_is)
    (case i0_gg => k_is)
