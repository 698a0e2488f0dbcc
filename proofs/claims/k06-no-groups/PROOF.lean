import PyProof.Rows.All
import Wide.All
import OpenK.AllK
import Wide.FinOn
import HandS.ForMost
import HandS.ForExc
import HandS.RaiseMore
import HandS.IsInst
import HandS.Conv
import HandS.SortInts
import HandS.Flow
import HandS.Wide
import HandS.TupAny
import HandS.TupLen
import HandS.Style
import HandS.TupMul
import HandS.Deep
import HandS.Zip
import HandS.More
import HandS.TupSets
import HandS.SortOrd
import HandS.SortRule
import KE.KDictCopyH
import KE.KSortTupAny
import KE.KDictDisplayH
import HandS.TupLe
import HandS.SetFor
import HandS.Strs
import HandS.Ends
import HandS.EndBits
import PyProof.ReprRoads
import KE.SortKeyHeap
import KE.SortData
import HandS.SortKw
import KE.KDictWalk
import KE.KDictKeyed
import KE.KDictPairs
import KE.DataCmp
import HandS.SetKeys
import KE.GoesMore
import PyProof.Draws
import PyProof.EnumMake
import HandS.ExcValue
import HandS.Exc
import HandS.ExcIs
import PyProof.TupleOfSeq
import PyProof.AutoSeq1
import HandS.ExcInit
import HandS.TryOnly
import HandS.ExcField
import PyProof.ReprBulk
import PyProof.Rows.ReprOcc
import PySem.Challenge.RW_heldmarks_k06_no_groups
set_option Elab.async false
set_option linter.all false
set_option maxRecDepth 100000
set_option maxHeartbeats 4000000
noncomputable section
namespace MM
open PySem PySem.Spec PyProof.Rows L2

/-! ### data -/
inductive D where
  | non | bl (b : Bool) | int (i : Int) | str (x : Str)
  | lst (xs : List D) | tup (xs : List D)
  | dK (kvs : List (Key × D)) | dT (kvs : List (List Key × D)) | dTf (kvs : List (List Key × D))
  | scr (ns : List Int) | opq (v : V) | deep (d : D)
  | nam (b : Bool) (x : Str) | xn (x f : Str) (i : Int)
/-- what is told of a kept exception -/
def trk (cls : Value) (d : Option Addr) (a : Addr) : HO := .ext fun h => ∃ (oe : Obj) (vs : Array Value), h.get? a = some oe ∧ oe.cls = cls ∧ oe.dict = d ∧ oe.data = .fields vs
/-- an exception object of the class at C, no fields of its own, at a -/
def ExK (C a : Addr) : HO := .ext fun h => ∃ (oe : Obj) (vs : Array Value), h.get? a = some oe ∧ oe.cls = .ref C ∧ oe.dict = none ∧ oe.data = .fields vs

mutual
inductive Rep (K : PySem.W.Frag) (Z : Hp) : D → V → Prop
  | non : Rep K Z .non .non
  | bl (b : Bool) : Rep K Z (.bl b) (.bl b)
  | int (i : Int) : Rep K Z (.int i) (.int i)
  | str (x : Str) : Rep K Z (.str x) (.str x)
  | lst {a : Addr} {vs : List V} {ds : List D} : Z a = some (.lst vs) → RepL K Z ds vs → Rep K Z (.lst ds) (.ref a)
  | tup {a : Addr} {vs : List V} {ds : List D} : Z a = some (.tup vs) → RepL K Z ds vs → Rep K Z (.tup ds) (.ref a)
  | dK {a : Addr} {kws : List (Key × V)} {kvs : List (Key × D)} : Z a = some (.dK kws) → RepK K Z kvs kws → Rep K Z (.dK kvs) (.ref a)
  | dT {a : Addr} {kws : List (List Key × V)} {kvs : List (List Key × D)} : Z a = some (.dT kws) → RepT K Z kvs kws → Rep K Z (.dT kvs) (.ref a)
  | dTf {a : Addr} {o : Obj} {kws : List (List Key × V)} {kvs : List (List Key × D)} : Z a = some (.frz o (.dT kws)) → RepT K Z kvs kws → Rep K Z (.dTf kvs) (.ref a)
  | scr {a : Addr} {ns : List Int} : SqL K Z a (ns.map V.int) → Rep K Z (.scr ns) (.ref a)
  | opq (v : V) : Rep K Z (.opq v) v
  | cls {x : Str} {C : Addr} : PySem.W.nsIn K mainGlobals x = some (some (.ref C)) → Rep K Z (.nam false x) (.ref C)
  | exn {x : Str} {C a : Addr} : PySem.W.nsIn K mainGlobals x = some (some (.ref C)) → Z a = some (ExK C a) → Rep K Z (.nam true x) (.ref a)
  | xn {x f : Str} {i : Int} {C a dx : Addr} : PySem.W.nsIn K mainGlobals x = some (some (.ref C)) → Z a = some (trk (.ref C) (some dx) a) → Z dx = some (.xd [(f, .int i)]) → Rep K Z (.xn x f i) (.ref a)
  | deep {d : D} {v : V} : Rep K Z d v → Rep K Z (.deep d) v
inductive RepL (K : PySem.W.Frag) (Z : Hp) : List D → List V → Prop
  | nil : RepL K Z [] []
  | cons {d : D} {v : V} {ds : List D} {vs : List V} : Rep K Z d v → RepL K Z ds vs → RepL K Z (d :: ds) (v :: vs)
inductive RepK (K : PySem.W.Frag) (Z : Hp) : List (Key × D) → List (Key × V) → Prop
  | nil : RepK K Z [] []
  | cons {k : Key} {d : D} {v : V} {ds : List (Key × D)} {vs : List (Key × V)} : Rep K Z d v → RepK K Z ds vs → RepK K Z ((k, d) :: ds) ((k, v) :: vs)
inductive RepT (K : PySem.W.Frag) (Z : Hp) : List (List Key × D) → List (List Key × V) → Prop
  | nil : RepT K Z [] []
  | cons {k : List Key} {d : D} {v : V} {ds : List (List Key × D)} {vs : List (List Key × V)} : Rep K Z d v → RepT K Z ds vs → RepT K Z ((k, d) :: ds) ((k, v) :: vs)
end

def Ex (H H' : Hp) : Prop := ∀ a o, H a = some o → H' a = some o
theorem Ex.refl (H : Hp) : Ex H H := fun _ _ h => h
theorem Ex.trans {H H1 H2 : Hp} (a : Ex H H1) (b : Ex H1 H2) : Ex H H2 := fun x o h => b x o (a x o h)
theorem ex_new {H : Hp} {p : Addr} {o : HO} (h : H p = none) : Ex H (upd H p o) := fun a u e => by
  rw [upd_ne (ne_of_none e h)]
  exact e
theorem sql_mono {K : PySem.W.Frag} {H H' : Hp} {a : Addr} {xs : List V} (e : Ex H H') (h : SqL K H a xs) : SqL K H' a xs := by
  rcases h with (h | ⟨o, h⟩) | h
  · exact .inl (.inl (e _ _ h))
  · exact .inl (.inr ⟨o, e _ _ h⟩)
  · exact .inr h

section
variable {K : PySem.W.Frag} {Z Z' : Hp}
mutual
theorem Rep.mono (e : Ex Z Z') : ∀ {d : D} {v : V}, Rep K Z d v → Rep K Z' d v
  | _, _, .non => .non
  | _, _, .bl b => .bl b
  | _, _, .int b => .int b
  | _, _, .str b => .str b
  | _, _, .lst h r => .lst (e _ _ h) (RepL.mono e r)
  | _, _, .tup h r => .tup (e _ _ h) (RepL.mono e r)
  | _, _, .dK h r => .dK (e _ _ h) (RepK.mono e r)
  | _, _, .dT h r => .dT (e _ _ h) (RepT.mono e r)
  | _, _, .dTf h r => .dTf (e _ _ h) (RepT.mono e r)
  | _, _, .scr h => .scr (sql_mono e h)
  | _, _, .opq v => .opq v
  | _, _, .cls h => .cls h
  | _, _, .exn h g => .exn h (e _ _ g)
  | _, _, .xn h g k => .xn h (e _ _ g) (e _ _ k)
  | _, _, .deep h => .deep (Rep.mono e h)
theorem RepL.mono (e : Ex Z Z') : ∀ {d : List D} {v : List V}, RepL K Z d v → RepL K Z' d v
  | _, _, .nil => .nil
  | _, _, .cons h r => .cons (Rep.mono e h) (RepL.mono e r)
theorem RepK.mono (e : Ex Z Z') : ∀ {d : List (Key × D)} {v : List (Key × V)}, RepK K Z d v → RepK K Z' d v
  | _, _, .nil => .nil
  | _, _, .cons h r => .cons (Rep.mono e h) (RepK.mono e r)
theorem RepT.mono (e : Ex Z Z') : ∀ {d : List (List Key × D)} {v : List (List Key × V)}, RepT K Z d v → RepT K Z' d v
  | _, _, .nil => .nil
  | _, _, .cons h r => .cons (Rep.mono e h) (RepT.mono e r)
end
theorem RepL.length : ∀ {ds : List D} {vs : List V}, RepL K Z ds vs → ds.length = vs.length
  | _, _, .nil => rfl
  | _, _, .cons _ r => by rw [List.length_cons, List.length_cons, RepL.length r]
theorem RepL.get : ∀ {ds : List D} {vs : List V} {i : Nat} {d : D}, RepL K Z ds vs → ds[i]? = some d → ∃ v, vs[i]? = some v ∧ Rep K Z d v
  | _, _, 0, _, .cons h _, e => by cases e; exact ⟨_, rfl, h⟩
  | _, _, i + 1, _, .cons _ r, e => RepL.get (i := i) r e
theorem RepL.getV : ∀ {ds : List D} {vs : List V} {i : Nat} {v : V}, RepL K Z ds vs → vs[i]? = some v → ∃ d, ds[i]? = some d ∧ Rep K Z d v
  | _, _, 0, _, .cons h _, e => by cases e; exact ⟨_, rfl, h⟩
  | _, _, i + 1, _, .cons _ r, e => RepL.getV (i := i) r e
theorem RepL.append : ∀ {ds es : List D} {vs us : List V}, RepL K Z ds vs → RepL K Z es us → RepL K Z (ds ++ es) (vs ++ us)
  | _, _, _, _, .nil, r => r
  | _, _, _, _, .cons h t, r => .cons h (RepL.append t r)
end

/-! ### ownership: the mutable cells of a value -/
mutual
inductive Own (K : PySem.W.Frag) (H Z : Hp) : D → V → List Addr → Prop
  | frz {d : D} {v : V} : Rep K Z d v → Own K H Z d v []
  | lst {a : Addr} {vs : List V} {ds : List D} {F : List Addr} : H a = some (.lst vs) → OwnL K H Z ds vs F → Own K H Z (.lst ds) (.ref a) (a :: F)
  | tup {a : Addr} {vs : List V} {ds : List D} {F : List Addr} : Z a = some (.tup vs) → OwnL K H Z ds vs F → Own K H Z (.tup ds) (.ref a) F
  | dK {a : Addr} {kws : List (Key × V)} {kvs : List (Key × D)} : H a = some (.dK kws) → RepK K Z kvs kws → Own K H Z (.dK kvs) (.ref a) [a]
  | dT {a : Addr} {kws : List (List Key × V)} {kvs : List (List Key × D)} : H a = some (.dT kws) → RepT K Z kvs kws → Own K H Z (.dT kvs) (.ref a) [a]
  | deep {d : D} {v : V} {F : List Addr} : Own K H Z d v F → Own K H Z (.deep d) v F
inductive OwnL (K : PySem.W.Frag) (H Z : Hp) : List D → List V → List Addr → Prop
  | nil : OwnL K H Z [] [] []
  | cons {d : D} {v : V} {F : List Addr} {ds : List D} {vs : List V} {G : List Addr} : Own K H Z d v F → OwnL K H Z ds vs G → OwnL K H Z (d :: ds) (v :: vs) (F ++ G)
end
section
variable {K : PySem.W.Frag} {H H' Z Z' : Hp}
mutual
theorem Own.step (e : Ex Z Z') : ∀ {d : D} {v : V} {F : List Addr}, Own K H Z d v F → (∀ a ∈ F, ∀ o, H a = some o → H' a = some o) → Own K H' Z' d v F
  | _, _, _, .frz h, _ => .frz (h.mono e)
  | _, _, _, .lst h r, k => .lst (k _ List.mem_cons_self _ h) (OwnL.step e r fun a m => k a (List.mem_cons_of_mem _ m))
  | _, _, _, .tup h r, k => .tup (e _ _ h) (OwnL.step e r k)
  | _, _, _, .dK h r, k => .dK (k _ List.mem_cons_self _ h) (r.mono e)
  | _, _, _, .dT h r, k => .dT (k _ List.mem_cons_self _ h) (r.mono e)
  | _, _, _, .deep h, k => .deep (Own.step e h k)
theorem OwnL.step (e : Ex Z Z') : ∀ {d : List D} {v : List V} {F : List Addr}, OwnL K H Z d v F → (∀ a ∈ F, ∀ o, H a = some o → H' a = some o) → OwnL K H' Z' d v F
  | _, _, _, .nil, _ => .nil
  | _, _, _, .cons h r, k => .cons (Own.step e h fun a m => k a (List.mem_append_left _ m)) (OwnL.step e r fun a m => k a (List.mem_append_right _ m))
end
mutual
/-- its cells are frozen -/
theorem Own.freeze (e : Ex Z Z') : ∀ {d : D} {v : V} {F : List Addr}, Own K H Z d v F → (∀ a ∈ F, ∀ o, H a = some o → Z' a = some o) → Rep K Z' d v
  | _, _, _, .frz h, _ => h.mono e
  | _, _, _, .lst h r, k => .lst (k _ List.mem_cons_self _ h) (OwnL.freeze e r fun a m => k a (List.mem_cons_of_mem _ m))
  | _, _, _, .tup h r, k => .tup (e _ _ h) (OwnL.freeze e r k)
  | _, _, _, .dK h r, k => .dK (k _ List.mem_cons_self _ h) (r.mono e)
  | _, _, _, .dT h r, k => .dT (k _ List.mem_cons_self _ h) (r.mono e)
  | _, _, _, .deep h, k => .deep (Own.freeze e h k)
theorem OwnL.freeze (e : Ex Z Z') : ∀ {d : List D} {v : List V} {F : List Addr}, OwnL K H Z d v F → (∀ a ∈ F, ∀ o, H a = some o → Z' a = some o) → RepL K Z' d v
  | _, _, _, .nil, _ => .nil
  | _, _, _, .cons h r, k => .cons (Own.freeze e h fun a m => k a (List.mem_append_left _ m)) (OwnL.freeze e r fun a m => k a (List.mem_append_right _ m))
end
mutual
theorem Own.live : ∀ {d : D} {v : V} {F : List Addr}, Own K H Z d v F → ∀ a ∈ F, H a ≠ none
  | _, _, _, .frz h, a, m => nomatch m
  | _, _, _, .lst h r, a, m => by
    rcases List.mem_cons.mp m with e | m
    · rw [e, h]; exact nofun
    · exact OwnL.live r a m
  | _, _, _, .tup h r, a, m => OwnL.live r a m
  | _, _, _, .dK h r, a, m => by
    rcases List.mem_cons.mp m with e | m
    · rw [e, h]; exact nofun
    · exact nomatch m
  | _, _, _, .dT h r, a, m => by
    rcases List.mem_cons.mp m with e | m
    · rw [e, h]; exact nofun
    · exact nomatch m
  | _, _, _, .deep h, a, m => Own.live h a m
theorem OwnL.live : ∀ {d : List D} {v : List V} {F : List Addr}, OwnL K H Z d v F → ∀ a ∈ F, H a ≠ none
  | _, _, _, .nil, a, m => nomatch m
  | _, _, _, .cons h r, a, m => by
    rcases List.mem_append.mp m with m | m
    · exact Own.live h a m
    · exact OwnL.live r a m
end
theorem Own.rep {d : D} {v : V} {F : List Addr} (e : Ex Z H) (h : Own K H Z d v F) : Rep K H d v := h.freeze e fun _ _ _ h => h
theorem OwnL.rep {d : List D} {v : List V} {F : List Addr} (e : Ex Z H) (h : OwnL K H Z d v F) : RepL K H d v := h.freeze e fun _ _ _ h => h
theorem OwnL.length : ∀ {ds : List D} {vs : List V} {F : List Addr}, OwnL K H Z ds vs F → ds.length = vs.length
  | _, _, _, .nil => rfl
  | _, _, _, .cons _ r => by rw [List.length_cons, List.length_cons, OwnL.length r]
theorem OwnL.of_rep : ∀ {ds : List D} {vs : List V}, RepL K Z ds vs → OwnL K H Z ds vs []
  | _, _, .nil => .nil
  | _, _, .cons h r => .cons (F := []) (.frz h) (OwnL.of_rep r)
theorem OwnL.append : ∀ {ds es : List D} {vs us : List V} {F G : List Addr}, OwnL K H Z ds vs F → OwnL K H Z es us G → OwnL K H Z (ds ++ es) (vs ++ us) (F ++ G)
  | _, _, _, _, _, _, .nil, r => r
  | _, _, _, _, _, _, .cons h t, r => by
    rw [List.append_assoc]
    exact .cons h (OwnL.append t r)
theorem OwnL.one {d : D} {v : V} {F : List Addr} (h : Own K H Z d v F) : OwnL K H Z [d] [v] F := by
  have := OwnL.cons h OwnL.nil
  rwa [List.append_nil] at this
theorem OwnL.get : ∀ {ds : List D} {vs : List V} {F : List Addr} {i : Nat} {d : D}, OwnL K H Z ds vs F → ds[i]? = some d → ∃ v G, vs[i]? = some v ∧ Own K H Z d v G ∧ ∀ a ∈ G, a ∈ F
  | _, _, _, 0, _, .cons h _, e => by cases e; exact ⟨_, _, rfl, h, fun a m => List.mem_append_left _ m⟩
  | _, _, _, i + 1, _, .cons _ r, e => by
    obtain ⟨v, G, h1, h2, h3⟩ := OwnL.get (i := i) r e
    exact ⟨v, G, h1, h2, fun a m => List.mem_append_right _ (h3 a m)⟩
end

/-! ### immutable data -/
mutual
def imm : D → Bool
  | .non | .bl _ | .int _ | .str _ | .scr _ | .opq _ | .nam _ _ | .xn _ _ _ => true
  | .tup xs => immL xs
  | .lst _ | .dK _ | .dT _ | .dTf _ | .deep _ => false
def immL : List D → Bool
  | [] => true
  | d :: ds => imm d && immL ds
end
section
variable {K : PySem.W.Frag} {H H' Z Z' : Hp}
mutual
theorem Own.imm : ∀ {d : D} {v : V} {F : List Addr}, Own K H Z d v F → imm d = true → Rep K Z d v
  | _, _, _, .frz h, _ => h
  | _, _, _, .lst h r, k => by simp [MM.imm] at k
  | _, _, _, .tup h r, k => .tup h (OwnL.imm r (by simpa [MM.imm] using k))
  | _, _, _, .dK h r, k => by simp [MM.imm] at k
  | _, _, _, .dT h r, k => by simp [MM.imm] at k
  | _, _, _, .deep h, k => by simp [MM.imm] at k
theorem OwnL.imm : ∀ {d : List D} {v : List V} {F : List Addr}, OwnL K H Z d v F → immL d = true → RepL K Z d v
  | _, _, _, .nil, _ => .nil
  | _, _, _, .cons h r, k => by
    have k' := k
    simp only [immL, Bool.and_eq_true] at k'
    exact .cons (Own.imm h k'.1) (OwnL.imm r k'.2)
end
end

/-! ### the frozen part of a heap -/
open Classical in
def Fz (B : Addr → Prop) (H : Hp) (F : List Addr) : Hp := fun b => if b ∈ F ∨ B b then none else H b
theorem fz_in {B : Addr → Prop} {H : Hp} {F : List Addr} {b : Addr} (h : b ∉ F) (hb : ¬ B b) : Fz B H F b = H b := by
  unfold Fz
  rw [if_neg (fun z => z.elim h hb)]
theorem fz_some {B : Addr → Prop} {H : Hp} {F : List Addr} {b : Addr} {o : HO} (h : Fz B H F b = some o) : H b = some o ∧ b ∉ F ∧ ¬ B b := by
  unfold Fz at h
  split at h
  · cases h
  · rename_i n
    exact ⟨h, fun z => n (.inl z), fun z => n (.inr z)⟩
theorem fz_ex (B : Addr → Prop) (H : Hp) (F : List Addr) : Ex (Fz B H F) H := fun _ _ h => (fz_some h).1
theorem fz_mk {B : Addr → Prop} {H H' : Hp} {F F' : List Addr} {B' : Addr → Prop} (h : ∀ b o, H b = some o → b ∉ F → ¬ B b → H' b = some o ∧ b ∉ F' ∧ ¬ B' b) : Ex (Fz B H F) (Fz B' H' F') := fun b o e => by
  obtain ⟨h1, h2, h3⟩ := fz_some e
  obtain ⟨q1, q2, q3⟩ := h b o h1 h2 h3
  rw [fz_in q2 q3]
  exact q1
theorem fz_congr {B B' : Addr → Prop} {H : Hp} {F F' : List Addr} (h : ∀ b, (b ∈ F ∨ B b) ↔ (b ∈ F' ∨ B' b)) : Fz B H F = Fz B' H F' := by
  funext b
  unfold Fz
  by_cases q : b ∈ F ∨ B b
  · rw [if_pos q, if_pos ((h b).mp q)]
  · rw [if_neg q, if_neg fun z => q ((h b).mpr z)]

/-! ### slots -/
mutual
/-- its mutable cells, counted -/
def mct : D → Nat
  | .lst ds => 1 + mctL ds
  | .tup ds => mctL ds
  | .dK _ | .dT _ => 1
  | .deep d => mct d
  | _ => 0
def mctL : List D → Nat
  | [] => 0
  | d :: ds => mct d + mctL ds
end
mutual
theorem Own.len {K : PySem.W.Frag} {H Z : Hp} : ∀ {d : D} {v : V} {F : List Addr}, Own K H Z d v F → F.length ≤ mct d
  | _, _, _, .frz _ => Nat.zero_le _
  | _, _, _, .lst _ r => by have := OwnL.len r; simp only [mct, List.length_cons]; omega
  | _, _, _, .tup _ r => by have := OwnL.len r; simp only [mct]; omega
  | _, _, _, .dK _ _ => by simp [mct]
  | _, _, _, .dT _ _ => by simp [mct]
  | _, _, _, .deep h => by have := Own.len h; simp only [mct]; omega
theorem OwnL.len {K : PySem.W.Frag} {H Z : Hp} : ∀ {d : List D} {v : List V} {F : List Addr}, OwnL K H Z d v F → F.length ≤ mctL d
  | _, _, _, .nil => Nat.zero_le _
  | _, _, _, .cons h r => by have := Own.len h; have := OwnL.len r; simp only [mctL, List.length_append]; omega
end
/-- a mutable object has its own cell -/
def Exl (d : D) (F : List Addr) : Prop := match d with
  | .lst _ | .dK _ | .dT _ => F ≠ []
  | .deep d => F.length = mct d ∧ F ≠ []
  | _ => True
abbrev St := L2.St
abbrev Env := List (Option (Bool × D))
inductive RelE (K : PySem.W.Frag) (H Z : Hp) : Env → St → List Addr → Prop
  | nil : RelE K H Z [] [] []
  | non {o : Option V} {env : Env} {σ : St} {F : List Addr} : RelE K H Z env σ F → RelE K H Z (none :: env) (o :: σ) F
  | fz {d : D} {v : V} {env : Env} {σ : St} {F : List Addr} : Rep K Z d v → RelE K H Z env σ F → RelE K H Z (some (false, d) :: env) (some v :: σ) F
  | ow {d : D} {v : V} {env : Env} {σ : St} {F G : List Addr} : Exl d F → Own K H Z d v F → RelE K H Z env σ G → RelE K H Z (some (true, d) :: env) (some v :: σ) (F ++ G)
section
variable {K : PySem.W.Frag} {H H' Z Z' : Hp}
theorem RelE.step (e : Ex Z Z') : ∀ {env : Env} {σ : St} {F : List Addr}, RelE K H Z env σ F → (∀ a ∈ F, ∀ o, H a = some o → H' a = some o) → RelE K H' Z' env σ F
  | _, _, _, .nil, _ => .nil
  | _, _, _, .non r, k => .non (RelE.step e r k)
  | _, _, _, .fz h r, k => .fz (h.mono e) (RelE.step e r k)
  | _, _, _, .ow x h r, k => .ow x (h.step e fun a m => k a (List.mem_append_left _ m)) (RelE.step e r fun a m => k a (List.mem_append_right _ m))
theorem RelE.length : ∀ {env : Env} {σ : St} {F : List Addr}, RelE K H Z env σ F → env.length = σ.length
  | _, _, _, .nil => rfl
  | _, _, _, .non r => by rw [List.length_cons, List.length_cons, RelE.length r]
  | _, _, _, .fz _ r => by rw [List.length_cons, List.length_cons, RelE.length r]
  | _, _, _, .ow _ _ r => by rw [List.length_cons, List.length_cons, RelE.length r]
/-- what a frozen slot holds -/
theorem RelE.fzAt : ∀ {env : Env} {σ : St} {F : List Addr} {i : Nat} {d : D}, RelE K H Z env σ F → env[i]? = some (some (false, d)) → ∃ v, σ[i]? = some (some v) ∧ Rep K Z d v
  | _, _, _, 0, _, .fz h _, e => by cases e; exact ⟨_, rfl, h⟩
  | _, _, _, i + 1, _, .non r, e => RelE.fzAt (i := i) r e
  | _, _, _, i + 1, _, .fz _ r, e => RelE.fzAt (i := i) r e
  | _, _, _, i + 1, _, .ow _ _ r, e => RelE.fzAt (i := i) r e
/-- what any slot holds -/
theorem RelE.anyAt : ∀ {env : Env} {σ : St} {F : List Addr} {i : Nat} {k : Bool} {d : D}, RelE K H Z env σ F → env[i]? = some (some (k, d)) → ∃ v G, σ[i]? = some (some v) ∧ Own K H Z d v G ∧ ∀ a ∈ G, a ∈ F
  | _, _, _, 0, _, _, .fz h _, e => by cases e; exact ⟨_, [], rfl, .frz h, nofun⟩
  | _, _, _, 0, _, _, .ow _ h _, e => by cases e; exact ⟨_, _, rfl, h, fun a m => List.mem_append_left _ m⟩
  | _, _, _, i + 1, _, _, .non r, e => RelE.anyAt (i := i) r e
  | _, _, _, i + 1, _, _, .fz _ r, e => RelE.anyAt (i := i) r e
  | _, _, _, i + 1, _, _, .ow _ _ r, e => by
    obtain ⟨v, G, h1, h2, h3⟩ := RelE.anyAt (i := i) r e
    exact ⟨v, G, h1, h2, fun a m => List.mem_append_right _ (h3 a m)⟩
end
end MM

set_option Elab.async false
set_option linter.all false
set_option maxRecDepth 100000
set_option maxHeartbeats 4000000
noncomputable section
namespace MM
open PySem PySem.Spec PyProof.Rows L2

structure Exn where
  cls : Str
  fld : Option (Str × Int)
inductive R (α : Type) where
  | ok (a : α) (env : Env) | ex (e : Exn) (env : Env) | no
abbrev M (α : Type) := Env → R α

/-! ### slots changed -/
section
variable {K : PySem.W.Frag} {H H' Z Z' : Hp}
theorem RelE.cut : ∀ {env : Env} {σ : St} {F : List Addr} {i : Nat}, RelE K H Z env σ F → i < env.length → ∃ F1 Fi F2, F = F1 ++ (Fi ++ F2) ∧
    (∀ d, env[i]? = some (some (true, d)) → ∃ v, σ[i]? = some (some v) ∧ Exl d Fi ∧ Own K H Z d v Fi) ∧
    ∀ H' Z', Ex Z Z' → (∀ a, a ∈ F1 ∨ a ∈ F2 → ∀ o, H a = some o → H' a = some o) →
      (∀ d' v' Fi', Exl d' Fi' → Own K H' Z' d' v' Fi' → RelE K H' Z' (env.set i (some (true, d'))) (σ.set i (some v')) (F1 ++ (Fi' ++ F2))) ∧
      (∀ d' v', Rep K Z' d' v' → RelE K H' Z' (env.set i (some (false, d'))) (σ.set i (some v')) (F1 ++ F2)) ∧
      ∀ o', RelE K H' Z' (env.set i none) (σ.set i o') (F1 ++ F2)
  | _, _, _, 0, .nil, h => absurd h (Nat.not_lt_zero _)
  | _, _, _, i + 1, .nil, h => absurd h (Nat.not_lt_zero _)
  | _, _, _, 0, .non (F := F) r, _ => by
    refine ⟨[], [], F, rfl, fun d e => by simp at e, fun H' Z' e k => ?_⟩
    have r' := r.step e fun a m => k a (.inr m)
    exact ⟨fun d v Fi x o => RelE.ow (F := Fi) x o r', fun d v o => .fz o r', fun o => .non r'⟩
  | _, _, _, 0, .fz (F := F) h r, _ => by
    refine ⟨[], [], F, rfl, fun d e => by simp at e, fun H' Z' e k => ?_⟩
    have r' := r.step e fun a m => k a (.inr m)
    exact ⟨fun d v Fi x o => RelE.ow (F := Fi) x o r', fun d v o => .fz o r', fun o => .non r'⟩
  | _, _, _, 0, .ow (F := F) (G := G) x h r, _ => by
    refine ⟨[], F, G, rfl, fun d e => by simp at e; subst e; exact ⟨_, rfl, x, h⟩, fun H' Z' e k => ?_⟩
    have r' := r.step e fun a m => k a (.inr m)
    exact ⟨fun d v Fi x o => RelE.ow (F := Fi) x o r', fun d v o => .fz o r', fun o => .non r'⟩
  | _, _, _, i + 1, .non r, h => by
    obtain ⟨F1, Fi, F2, e, s, g⟩ := RelE.cut (i := i) r (Nat.lt_of_succ_lt_succ h)
    refine ⟨F1, Fi, F2, e, s, fun H' Z' ez k => ?_⟩
    obtain ⟨g1, g2, g3⟩ := g H' Z' ez k
    exact ⟨fun d v Fi x o => .non (g1 d v Fi x o), fun d v o => .non (g2 d v o), fun o => .non (g3 o)⟩
  | _, _, _, i + 1, .fz q r, h => by
    obtain ⟨F1, Fi, F2, e, s, g⟩ := RelE.cut (i := i) r (Nat.lt_of_succ_lt_succ h)
    refine ⟨F1, Fi, F2, e, s, fun H' Z' ez k => ?_⟩
    obtain ⟨g1, g2, g3⟩ := g H' Z' ez k
    have q' := q.mono ez
    exact ⟨fun d v Fi x o => .fz q' (g1 d v Fi x o), fun d v o => .fz q' (g2 d v o), fun o => .fz q' (g3 o)⟩
  | _, _, _, i + 1, .ow (F := F0) x0 q r, h => by
    obtain ⟨F1, Fi, F2, e, s, g⟩ := RelE.cut (i := i) r (Nat.lt_of_succ_lt_succ h)
    refine ⟨F0 ++ F1, Fi, F2, by rw [e, List.append_assoc], s, fun H' Z' ez k => ?_⟩
    obtain ⟨g1, g2, g3⟩ := g H' Z' ez fun a m => k a (m.elim (fun m => .inl (List.mem_append_right _ m)) .inr)
    have q' := q.step ez fun a m => k a (.inl (List.mem_append_left _ m))
    refine ⟨fun d v Fi x o => ?_, fun d v o => ?_, fun o => ?_⟩
    · rw [List.append_assoc]; exact .ow x0 q' (g1 d v Fi x o)
    · rw [List.append_assoc]; exact .ow x0 q' (g2 d v o)
    · rw [List.append_assoc]; exact .ow x0 q' (g3 o)
end
theorem set_same {σ : St} {i : Nat} {v : V} (h : σ[i]? = some (some v)) : σ.set i (some v) = σ := by
  obtain ⟨hi, e⟩ := List.getElem?_eq_some_iff.mp h
  rw [← e]
  exact List.set_getElem_self hi

/-! ### the state -/
/-- a cell that is no tuple -/
def NT (o : Option HO) : Prop := o ≠ none ∧ (∀ ys, o ≠ some (.tup ys)) ∧ ∀ fs, o ≠ some (.xd fs)
structure Sta (K : PySem.W.Frag) (B : Addr → Prop) (env : Env) (σ : St) (H : Hp) (F : List Addr) : Prop where
  rel : RelE K H (Fz B H F) env σ F
  nd : F.Nodup
  liv : ∀ a ∈ F, NT (H a)
  bad : ∀ b, B b → NT (H b) ∧ b ∉ F
/-- with values in hand -/
structure StaL (K : PySem.W.Frag) (B : Addr → Prop) (env : Env) (σ : St) (H : Hp) (F : List Addr) (ds : List D) (vs : List V) (Fd : List Addr) : Prop where
  rel : RelE K H (Fz B H (F ++ Fd)) env σ F
  own : OwnL K H (Fz B H (F ++ Fd)) ds vs Fd
  nd : (F ++ Fd).Nodup
  liv : ∀ a ∈ F ++ Fd, NT (H a)
  bad : ∀ b, B b → NT (H b) ∧ b ∉ F ++ Fd
structure Nxt (H : Hp) (F : List Addr) (H' : Hp) (F' : List Addr) : Prop where
  fr : ∀ b o, H b = some o → b ∉ F → H' b = some o
  sub : ∀ a ∈ F', a ∈ F ∨ H a = none
abbrev Hid (B : Addr → Prop) (Fd : List Addr) : Addr → Prop := fun b => B b ∨ b ∈ Fd
section
variable {K : PySem.W.Frag} {B B' : Addr → Prop} {env env1 env2 : Env} {σ σ1 : St} {H H1 H2 : Hp} {F F1 F2 Fd Fs G G1 G2 : List Addr} {ds es : List D} {vs us : List V} {p : Addr} {o : HO}
theorem Nxt.refl : Nxt H F H F := ⟨fun _ _ h _ => h, fun _ h => .inl h⟩
theorem Nxt.none_of (N : Nxt H F H1 G) {a : Addr} (h : H1 a = none) : a ∈ F ∨ H a = none := by
  by_cases m : a ∈ F
  · exact .inl m
  · refine .inr ?_
    cases q : H a with
    | none => rfl
    | some o => rw [N.fr a o q m] at h; cases h
theorem Nxt.trans (N1 : Nxt H F H1 G1) (N2 : Nxt H1 F1 H2 G2) (s : ∀ a ∈ F1, a ∈ G1) : Nxt H F H2 G2 where
  fr := fun b o h hb => N2.fr b o (N1.fr b o h hb) fun z => (N1.sub b (s b z)).elim hb fun q => by rw [q] at h; cases h
  sub := fun a m => (N2.sub a m).elim (fun m => N1.sub a (s a m)) N1.none_of
theorem Nxt.weak (N : Nxt H F H1 G) (s : ∀ a ∈ G1, a ∈ G) : Nxt H F H1 G1 := ⟨N.fr, fun a m => N.sub a (s a m)⟩
theorem Nxt.more (N : Nxt H F H1 G) (N1 : Nxt H F H1 G1) : Nxt H F H1 (G ++ G1) := ⟨N.fr, fun a m => (List.mem_append.mp m).elim (N.sub a) (N1.sub a)⟩
theorem Nxt.grow (N : Nxt H F H1 G) (e : Ex H1 H2) : Nxt H F H2 G := ⟨fun b o h hb => e _ _ (N.fr b o h hb), N.sub⟩
theorem Nxt.ex (e : Ex H H1) : Nxt H F H1 F := ⟨fun b o h _ => e _ _ h, fun _ h => .inl h⟩
theorem Nxt.cons (N1 : Nxt H F H1 (F1 ++ Fd)) (N2 : Nxt H1 F1 H2 (F2 ++ Fs)) : Nxt H F H2 (F2 ++ (Fd ++ Fs)) where
  fr := (N1.trans N2 fun a m => List.mem_append_left _ m).fr
  sub := fun a m => by
    have t := (N1.trans N2 fun a m => List.mem_append_left _ m).sub a
    rcases List.mem_append.mp m with m | m
    · exact t (List.mem_append_left _ m)
    · rcases List.mem_append.mp m with m | m
      · exact N1.sub a (List.mem_append_right _ m)
      · exact t (List.mem_append_right _ m)

theorem Sta.nil (S : Sta K B env σ H F) : StaL K B env σ H F [] [] [] := by
  have e : F ++ [] = F := List.append_nil _
  exact ⟨by rw [e]; exact S.rel, .nil, by rw [e]; exact S.nd, by rw [e]; exact S.liv, by rw [e]; exact S.bad⟩
theorem Sta.rep (S : Sta K B env σ H F) (r : RepL K (Fz B H F) ds vs) : StaL K B env σ H F ds vs [] := by
  have e : F ++ [] = F := List.append_nil _
  exact ⟨by rw [e]; exact S.rel, by rw [e]; exact .of_rep r, by rw [e]; exact S.nd, by rw [e]; exact S.liv, by rw [e]; exact S.bad⟩
theorem Sta.imp (S : Sta K B' env σ H F) (h : ∀ b, B b → B' b) : Sta K B env σ H F :=
  ⟨S.rel.step (fz_mk fun b o e m n => ⟨e, m, fun z => n (h b z)⟩) fun _ _ _ h => h, S.nd, S.liv, fun b q => S.bad b (h b q)⟩
theorem StaL.imp (S : StaL K B' env σ H F ds vs Fd) (h : ∀ b, B b → B' b) : StaL K B env σ H F ds vs Fd := by
  have e : Ex (Fz B' H (F ++ Fd)) (Fz B H (F ++ Fd)) := fz_mk fun b o e m n => ⟨e, m, fun z => n (h b z)⟩
  exact ⟨S.rel.step e fun _ _ _ h => h, S.own.step e fun _ _ _ h => h, S.nd, S.liv, fun b q => S.bad b (h b q)⟩
/-- the values in hand hidden -/
theorem StaL.hide (S : StaL K B env σ H F ds vs Fd) : Sta K (Hid B Fd) env σ H F := by
  have nd := List.nodup_append.mp S.nd
  refine ⟨?_, nd.1, fun a m => S.liv a (List.mem_append_left _ m), fun b h => ?_⟩
  · rw [fz_congr (B' := B) (F' := F ++ Fd) fun b => ?_]
    · exact S.rel
    · show b ∈ F ∨ (B b ∨ b ∈ Fd) ↔ b ∈ F ++ Fd ∨ B b
      rw [List.mem_append, or_assoc, or_comm (a := B b)]
  · rcases h with h | h
    · exact ⟨(S.bad b h).1, fun z => (S.bad b h).2 (List.mem_append_left _ z)⟩
    · exact ⟨S.liv b (List.mem_append_right _ h), fun z => nd.2.2 b z b h rfl⟩
/-- let go: they are frozen -/
theorem StaL.freeze (S : StaL K B env σ H F ds vs Fd) : Sta K B env σ H F ∧ RepL K (Fz B H F) ds vs := by
  have nd := List.nodup_append.mp S.nd
  have e : Ex (Fz B H (F ++ Fd)) (Fz B H F) := fz_mk fun b o e m n => ⟨e, fun z => m (List.mem_append_left _ z), n⟩
  refine ⟨⟨S.rel.step e fun _ _ _ h => h, nd.1, fun a m => S.liv a (List.mem_append_left _ m), fun b h => ⟨(S.bad b h).1, fun z => (S.bad b h).2 (List.mem_append_left _ z)⟩⟩, S.own.freeze e fun a m o h => ?_⟩
  rw [fz_in (fun z => nd.2.2 a z a m rfl) fun z => (S.bad a z).2 (List.mem_append_right _ m)]
  exact h
theorem StaL.sta (S : StaL K B env σ H F ds vs Fd) : Sta K B env σ H F := S.freeze.1
theorem StaL.repZ (S : StaL K B env σ H F ds vs Fd) : RepL K (Fz B H F) ds vs := S.freeze.2
theorem StaL.repH (S : StaL K B env σ H F ds vs Fd) : RepL K H ds vs := S.own.rep (fz_ex _ _ _)
theorem StaL.fro (S : StaL K B env σ H F ds vs Fd) : StaL K B env σ H F ds vs [] := S.sta.rep S.repZ
/-- values evaluated further -/
theorem StaL.cons (S1 : StaL K B env1 σ1 H1 F1 ds vs Fd) (S2 : StaL K (Hid B Fd) env2 σ H2 F2 es us Fs) (N : Nxt H1 F1 H2 (F2 ++ Fs)) : StaL K B env2 σ H2 F2 (ds ++ es) (vs ++ us) (Fd ++ Fs) := by
  have nd := List.nodup_append.mp S1.nd
  have ez : Fz B H2 (F2 ++ (Fd ++ Fs)) = Fz (Hid B Fd) H2 (F2 ++ Fs) := fz_congr fun b => by
    simp only [List.mem_append, Hid]
    constructor
    · rintro ((h | h | h) | h)
      · exact .inl (.inl h)
      · exact .inr (.inr h)
      · exact .inl (.inr h)
      · exact .inr (.inl h)
    · rintro ((h | h) | h | h)
      · exact .inl (.inl h)
      · exact .inl (.inr (.inr h))
      · exact .inr h
      · exact .inl (.inr (.inl h))
  have ex : Ex (Fz B H1 (F1 ++ Fd)) (Fz B H2 (F2 ++ (Fd ++ Fs))) := fz_mk fun b o e m n => by
    refine ⟨N.fr b o e fun z => m (List.mem_append_left _ z), fun z => ?_, n⟩
    have q : b ∈ F2 ++ Fs → False := fun z => (N.sub b z).elim (fun z => m (List.mem_append_left _ z)) fun z => by rw [z] at e; cases e
    rcases List.mem_append.mp z with z | z
    · exact q (List.mem_append_left _ z)
    · rcases List.mem_append.mp z with z | z
      · exact m (List.mem_append_right _ z)
      · exact q (List.mem_append_right _ z)
  refine ⟨by rw [ez]; exact S2.rel, .append (S1.own.step ex fun a m o h => N.fr a o h fun z => nd.2.2 a z a m rfl) (by rw [ez]; exact S2.own), ?_, fun a m => ?_, fun b h => ⟨(S2.bad b (.inl h)).1, fun z => ?_⟩⟩
  · have nd2 := List.nodup_append.mp S2.nd
    refine List.nodup_append.mpr ⟨nd2.1, List.nodup_append.mpr ⟨nd.2.1, nd2.2.1, fun a m b q e => ?_⟩, fun a m b q e => ?_⟩
    · subst e
      exact (S2.bad a (.inr m)).2 (List.mem_append_right _ q)
    · subst e
      rcases List.mem_append.mp q with q | q
      · exact (S2.bad a (.inr q)).2 (List.mem_append_left _ m)
      · exact nd2.2.2 a m a q rfl
  · rcases List.mem_append.mp m with m | m
    · exact S2.liv a (List.mem_append_left _ m)
    · rcases List.mem_append.mp m with m | m
      · exact (S2.bad a (.inr m)).1
      · exact S2.liv a (List.mem_append_right _ m)
  · rcases List.mem_append.mp z with z | z
    · exact (S2.bad b (.inl h)).2 (List.mem_append_left _ z)
    · rcases List.mem_append.mp z with z | z
      · exact (S1.bad b h).2 (List.mem_append_right _ z)
      · exact (S2.bad b (.inl h)).2 (List.mem_append_right _ z)
theorem StaL.sub0 (S : StaL K B env σ H F ds vs Fd) (h : H p = none) : p ∉ F ++ Fd ∧ ¬ B p := ⟨fun m => (S.liv p m).1 h, fun b => (S.bad p b).1.1 h⟩
/-- a new object beside -/
theorem StaL.new (S : StaL K B env σ H F ds vs Fd) (h : H p = none) : StaL K B env σ (upd H p o) F ds vs Fd := by
  have e := ex_new (o := o) h
  have ez : Ex (Fz B H (F ++ Fd)) (Fz B (upd H p o) (F ++ Fd)) := fz_mk fun b u q m n => ⟨e _ _ q, m, n⟩
  refine ⟨S.rel.step ez fun a _ u q => e _ _ q, S.own.step ez fun a _ u q => e _ _ q, S.nd, fun a m => ?_, fun b q => ⟨?_, (S.bad b q).2⟩⟩
  · rw [upd_ne (fun z => by subst z; exact (S.liv _ m).1 h)]
    exact S.liv a m
  · rw [upd_ne (fun z => by subst z; exact (S.bad _ q).1.1 h)]
    exact (S.bad b q).1
theorem Sta.new (S : Sta K B env σ H F) (h : H p = none) : Sta K B env σ (upd H p o) F := (S.nil.new h).sta
/-- a new list of the values in hand -/
theorem StaL.mkL (S : StaL K B env σ H F ds vs Fd) (h : H p = none) : StaL K B env σ (upd H p (.lst vs)) F [.lst ds] [.ref p] (p :: Fd) := by
  have S1 := S.new (o := .lst vs) h
  obtain ⟨hp, hb⟩ := S.sub0 h
  have ez : Ex (Fz B (upd H p (.lst vs)) (F ++ Fd)) (Fz B (upd H p (.lst vs)) (F ++ p :: Fd)) → True := fun _ => trivial
  have nd := List.nodup_append.mp S.nd
  have ex : Ex (Fz B H (F ++ Fd)) (Fz B (upd H p (.lst vs)) (F ++ p :: Fd)) := fz_mk fun b u q m n => by
    have np : b ≠ p := fun z => by subst z; rw [h] at q; cases q
    refine ⟨by rw [upd_ne np]; exact q, fun z => ?_, n⟩
    rcases List.mem_append.mp z with z | z
    · exact m (List.mem_append_left _ z)
    · rcases List.mem_cons.mp z with z | z
      · exact np z
      · exact m (List.mem_append_right _ z)
  have ek := ex_new (o := .lst vs) h
  refine ⟨S.rel.step ex fun a _ u q => ek _ _ q, .one (.lst upd_same (S.own.step ex fun a _ u q => ek _ _ q)), ?_, fun a m => ?_, fun b q => ⟨(S1.bad b q).1, fun z => ?_⟩⟩
  · refine List.nodup_append.mpr ⟨nd.1, List.nodup_cons.mpr ⟨fun m => hp (List.mem_append_right _ m), nd.2.1⟩, fun a m b q e => ?_⟩
    subst e
    rcases List.mem_cons.mp q with q | q
    · subst q; exact hp (List.mem_append_left _ m)
    · exact nd.2.2 a m a q rfl
  · rcases List.mem_append.mp m with m | m
    · exact S1.liv a (List.mem_append_left _ m)
    · rcases List.mem_cons.mp m with m | m
      · subst m; rw [upd_same]; exact ⟨nofun, nofun, nofun⟩
      · exact S1.liv a (List.mem_append_right _ m)
  · rcases List.mem_append.mp z with z | z
    · exact (S.bad b q).2 (List.mem_append_left _ z)
    · rcases List.mem_cons.mp z with z | z
      · subst z; exact hb q
      · exact (S.bad b q).2 (List.mem_append_right _ z)
/-- a new tuple of them -/
theorem StaL.mkT (S : StaL K B env σ H F ds vs Fd) (h : H p = none) : StaL K B env σ (upd H p (.tup vs)) F [.tup ds] [.ref p] Fd := by
  have S1 := S.new (o := .tup vs) h
  obtain ⟨hp, hb⟩ := S.sub0 h
  refine ⟨S1.rel, .one (.tup (vs := vs) (by rw [fz_in hp hb]; exact upd_same) S1.own), S1.nd, S1.liv, S1.bad⟩
theorem Nxt.add (N : Nxt H F H1 G) (h : H1 p = none) : Nxt H F (upd H1 p o) (p :: G) :=
  ⟨fun b u q m => ex_new h _ _ (N.fr b u q m), fun a m => (List.mem_cons.mp m).elim (fun e => by rw [e]; exact N.none_of h) (N.sub a)⟩
theorem Nxt.mkL (N : Nxt H F H1 (F1 ++ Fd)) (h : H1 p = none) : Nxt H F (upd H1 p o) (F1 ++ p :: Fd) :=
  (N.add h).weak fun a m => (List.mem_append.mp m).elim (fun m => List.mem_cons_of_mem _ (List.mem_append_left _ m)) fun m => (List.mem_cons.mp m).elim (fun e => e ▸ List.mem_cons_self) fun m => List.mem_cons_of_mem _ (List.mem_append_right _ m)
end
end MM

set_option Elab.async false
set_option linter.all false
set_option maxRecDepth 100000
set_option maxHeartbeats 4000000
noncomputable section
namespace MM
open PySem PySem.Spec PyProof.Rows L2

/-! ### what an expression does -/
def ExnAt (mg : Str → Option Value) (H : Hp) (e : Exn) (cls : Value) (dd : Option Addr) : Prop :=
  mg e.cls = some cls ∧ match e.fld with
    | none => dd = none
    | some (f, i) => ∃ a, dd = some a ∧ H a = some (.xd [(f, .int i)])
section
variable (K : PySem.W.Frag) (mg : Str → Option Value) (W : WX)
def ExP (B : Addr → Prop) (σ : St) (H : Hp) (F : List Addr) (e : Exn) (env' : Env) : Prop :=
  ∀ cls dd H' F', Sta K B env' σ H' F' → Nxt H F H' F' → ExnAt mg H' e cls dd → W cls dd σ H'
def PureP (p : Bool) (env env' : Env) (F F' : List Addr) (H H' : Hp) : Prop := p = true → env' = env ∧ F' = F ∧ Ex H H'
def EvE (p : Bool) (t : TE) (m : M D) : Prop := ∀ B env σ H F (Q : VK), Sta K B env σ H F → (match m env with
  | .ok d env' => ∀ v H' F' Fd, StaL K B env' σ H' F' [d] [v] Fd → Nxt H F H' (F' ++ Fd) → PureP p env env' F F' H H' → Q v H'
  | .ex e env' => ExP K mg W B σ H F e env'
  | .no => False) → t σ H Q
/-- .. whose answer is new -/
def EvN (p : Bool) (t : TE) (m : M D) : Prop := ∀ B env σ H F (Q : VK), Sta K B env σ H F → (match m env with
  | .ok d env' => ∀ v H' F' Fd, StaL K B env' σ H' F' [d] [v] Fd → Exl d Fd → Nxt H F H' (F' ++ Fd) → PureP p env env' F F' H H' → Q v H'
  | .ex e env' => ExP K mg W B σ H F e env'
  | .no => False) → t σ H Q
/-- arguments, to be kept -/
def EvA (p : Bool) (t : TA) (m : M (List D)) : Prop := ∀ B env σ H F (Q : List V → Hp → Prop), Sta K B env σ H F → (match m env with
  | .ok ds env' => ∀ vs H' F' Fd, StaL K B env' σ H' F' ds vs Fd → Nxt H F H' (F' ++ Fd) → PureP p env env' F F' H H' → Q vs H'
  | .ex e env' => ExP K mg W B σ H F e env'
  | .no => False) → t σ H Q
/-- arguments, to be read -/
def EvR (p : Bool) (t : TA) (m : M (List D)) : Prop := ∀ B env σ H F (Q : List V → Hp → Prop), Sta K B env σ H F → (match m env with
  | .ok ds env' => ∀ vs H' F', Sta K B env' σ H' F' → RepL K H' ds vs → Nxt H F H' F' → PureP p env env' F F' H H' → Q vs H'
  | .ex e env' => ExP K mg W B σ H F e env'
  | .no => False) → t σ H Q
/-- a place that is read -/
def EvT (t : TE) (m : Env → Option D) : Prop := ∀ B env σ H F (Q : VK) d, Sta K B env σ H F → m env = some d →
  (∀ v H' Fs, Ex H H' → Sta K B env σ H' F → Own K H' (Fz B H' F) d v Fs → (∀ a ∈ Fs, a ∈ F) → Q v H') → t σ H Q
/-- a test -/
def EvB (p : Bool) (t : TT) (m : M Bool) : Prop := ∀ B env σ H F (Q : Bool → Hp → Prop), Sta K B env σ H F → (match m env with
  | .ok b env' => ∀ H' F', Sta K B env' σ H' F' → Nxt H F H' F' → PureP p env env' F F' H H' → Q b H'
  | .ex e env' => ExP K mg W B σ H F e env'
  | .no => False) → t σ H Q
end

/-! ### the mirror's words -/
def rdM (i : Nat) (env : Env) : Option D := match env[i]? with
  | some (some (_, d)) => some d
  | _ => none
def vrM (i : Nat) : M D := fun env => match env[i]? with
  | some (some (false, d)) => .ok d env
  | _ => .no
def cM (d : D) : M D := fun env => .ok d env
def nilM : M (List D) := fun env => .ok [] env
def consM (m : M D) (ms : M (List D)) : M (List D) := fun env => match m env with
  | .ok d e1 => match ms e1 with
    | .ok ds e2 => .ok (d :: ds) e2
    | .ex e e2 => .ex e e2
    | .no => .no
  | .ex e e1 => .ex e e1
  | .no => .no
def consTM (m : Env → Option D) (ms : M (List D)) : M (List D) := fun env => match m env with
  | some d => match ms env with
    | .ok ds e2 => .ok (d :: ds) e2
    | .ex e e2 => .ex e e2
    | .no => .no
  | none => .no
def consNM (i : Nat) (ms : M (List D)) : M (List D) := fun env => match rdM i env with
  | some _ => match ms env with
    | .ok ds e2 => match rdM i e2 with
      | some d => .ok (d :: ds) e2
      | none => .no
    | .ex e e2 => .ex e e2
    | .no => .no
  | none => .no
/-- an operation on what was evaluated -/
def opM (f : List D → Option D) (ms : M (List D)) : M D := fun env => match ms env with
  | .ok ds e2 => match f ds with
    | some d => .ok d e2
    | none => .no
  | .ex e e2 => .ex e e2
  | .no => .no
def opB (f : List D → Option Bool) (ms : M (List D)) : M Bool := fun env => match ms env with
  | .ok ds e2 => match f ds with
    | some d => .ok d e2
    | none => .no
  | .ex e e2 => .ex e e2
  | .no => .no
def tstM (m : M D) : M Bool := fun env => match m env with
  | .ok (.bl b) e => .ok b e
  | .ok _ _ => .no
  | .ex e e2 => .ex e e2
  | .no => .no
def andM (a b : M Bool) : M Bool := fun env => match a env with
  | .ok true e => b e
  | r => r
def orM (a b : M Bool) : M Bool := fun env => match a env with
  | .ok false e => b e
  | r => r
def notM (a : M Bool) : M Bool := fun env => match a env with
  | .ok b e => .ok (!b) e
  | r => r
def ifM {α : Type} (c : M Bool) (a b : M α) : M α := fun env => match c env with
  | .ok true e => a e
  | .ok false e => b e
  | .ex e e2 => .ex e e2
  | .no => .no
def andVM (a b : M D) : M D := fun env => match a env with
  | .ok (.bl true) e => b e
  | .ok (.bl false) e => .ok (.bl false) e
  | .ok _ _ => .no
  | r => r
def orVM (a b : M D) : M D := fun env => match a env with
  | .ok (.bl false) e => b e
  | .ok (.bl true) e => .ok (.bl true) e
  | .ok _ _ => .no
  | r => r
def notVM (a : M D) : M D := fun env => match a env with
  | .ok (.bl b) e => .ok (.bl (!b)) e
  | .ok _ _ => .no
  | r => r
def immM (m : Env → Option D) : M D := fun env => match m env with
  | some d => if imm d then .ok d env else .no
  | none => .no

section
variable {K : PySem.W.Frag} {mg : Str → Option Value} {W : WX} {p q : Bool} {t t1 t2 ta tb : TE} {m m1 m2 : M D} {tA : TA} {ms : M (List D)} {i : Nat} {mt : Env → Option D}

theorem ExP.mono {B B' : Addr → Prop} {σ : St} {H H1 : Hp} {F F1 : List Addr} {e : Exn} {env' : Env} (h : ExP K mg W B σ H F e env') (N : ∀ H' F', Nxt H1 F1 H' F' → Nxt H F H' F') (hB : ∀ b, B b → B' b) : ExP K mg W B' σ H1 F1 e env' :=
  fun cls dd H' F' S n x => h cls dd H' F' (S.imp hB) (N H' F' n) x

theorem EvN.e (h : EvN K mg W p t m) : EvE K mg W p t m := fun B env σ H F Q S g => by
  refine h B env σ H F Q S ?_
  cases em : m env with
  | ok d e => rw [em] at g; exact fun v H' F' Fd s _ n pp => g v H' F' Fd s n pp
  | ex e e2 => rw [em] at g; exact g
  | no => rw [em] at g; exact g
theorem exl_imm {d : D} (h : imm d = true) (F : List Addr) : Exl d F := by
  cases d <;> first | trivial | (simp [imm] at h)
def imM (m : M D) : M D := fun env => match m env with
  | .ok d e => if imm d then .ok d e else .no
  | r => r
theorem en_imm (h : EvE K mg W p t m) : EvN K mg W p t (imM m) := fun B env σ H F Q S g => by
  refine h B env σ H F Q S ?_
  unfold imM at g
  cases em : m env with
  | ok d e =>
    rw [em] at g
    dsimp only at g
    by_cases hi : imm d = true
    · rw [if_pos hi] at g
      exact fun v H' F' Fd s n pp => g v H' F' Fd s (exl_imm hi _) n pp
    · rw [if_neg hi] at g
      exact g.elim
  | ex e e2 => rw [em] at g; exact g
  | no => rw [em] at g; exact g
/-- a frozen slot -/
theorem ev_var : EvE K mg W true (tVar i) (vrM i) := fun B env σ H F Q S h => by
  unfold vrM at h
  split at h
  · rename_i d env' e1 e2
    split at e2
    · rename_i d' e3
      cases e2
      obtain ⟨v, hv, r⟩ := S.rel.fzAt e3
      exact ⟨v, hv, h v H F [] (S.rep (.cons r .nil)) (by rw [List.append_nil]; exact .refl) fun _ => ⟨rfl, rfl, .refl _⟩⟩
    · cases e2
  · rename_i e1 e2
    split at e2 <;> cases e2
  · exact h.elim
theorem evt_var : EvT K (tVar i) (rdM i) := fun B env σ H F Q d S e h => by
  unfold rdM at e
  split at e
  · rename_i k d' e3
    cases e
    obtain ⟨v, G, hv, r, g⟩ := S.rel.anyAt e3
    exact ⟨v, hv, h v H G (.refl _) S r g⟩
  · cases e
theorem ev_c {d : D} {v : V} (h : ∀ Z, Rep K Z d v) : EvE K mg W true (tC v) (cM d) := fun B env σ H F Q S g =>
  g v H F [] (S.rep (.cons (h _) .nil)) (by rw [List.append_nil]; exact .refl) fun _ => ⟨rfl, rfl, .refl _⟩
theorem ev_int {z : Int} : EvE K mg W true (tC (.int z)) (cM (.int z)) := ev_c fun _ => .int z
theorem ev_bl {z : Bool} : EvE K mg W true (tC (.bl z)) (cM (.bl z)) := ev_c fun _ => .bl z
theorem ev_str {z : Str} : EvE K mg W true (tC (.str z)) (cM (.str z)) := ev_c fun _ => .str z
theorem ev_non : EvE K mg W true (tC .non) (cM .non) := ev_c fun _ => .non
/-- any expression is a place to be read -/
theorem ev_imm (h : EvT K t mt) : EvE K mg W true t (immM mt) := fun B env σ H F Q S g => by
  unfold immM at g
  split at g
  · rename_i d env' e1
    split at e1
    · rename_i d' e2
      split at e1
      · rename_i hi
        cases e1
        exact h B env σ H F Q _ S e2 fun v H' Fs ex S' o _ => g v H' F [] (S'.rep (.cons (o.imm hi) .nil)) (by rw [List.append_nil]; exact .ex ex) fun _ => ⟨rfl, rfl, ex⟩
      · cases e1
    · cases e1
  · rename_i e1
    split at e1
    · split at e1 <;> cases e1
    · cases e1
  · exact g.elim

/-! ### lists of arguments -/
theorem ea_nil : EvA K mg W true tNil nilM := fun B env σ H F Q S h => h [] H F [] S.nil (by rw [List.append_nil]; exact .refl) fun _ => ⟨rfl, rfl, .refl _⟩
theorem ea_cons (h1 : EvE K mg W p t m) (h2 : EvA K mg W q tA ms) : EvA K mg W (p && q) (tCons t tA) (consM m ms) := fun B env σ H F Q S h => by
  unfold consM at h
  refine h1 B env σ H F _ S ?_
  split
  · rename_i d e1 em
    rw [em] at h
    dsimp only at h
    intro v H1 F1 Fd S1 N1 P1
    refine h2 (Hid B Fd) e1 σ H1 F1 _ S1.hide ?_
    split
    · rename_i ds e2 em2
      rw [em2] at h
      intro vs H2 F2 Fs S2 N2 P2
      have N2' : Nxt H1 F1 H2 (F2 ++ Fs) := N2
      refine h (v :: vs) H2 F2 (Fd ++ Fs) (S1.cons S2 N2') (N1.cons N2') fun hp => ?_
      obtain ⟨a1, a2, a3⟩ := P1 (by simp at hp; exact hp.1)
      obtain ⟨b1, b2, b3⟩ := P2 (by simp at hp; exact hp.2)
      exact ⟨b1.trans a1, b2.trans a2, a3.trans b3⟩
    · rename_i e e2 em2
      rw [em2] at h
      exact h.mono (fun H' F' n => N1.trans n fun a m => List.mem_append_left _ m) fun b z => .inl z
    · rename_i em2
      rw [em2] at h
      exact h
  · rename_i e e1 em
    rw [em] at h
    exact h
  · rename_i em
    rw [em] at h
    exact h
theorem er_nil : EvR K mg W true tNil nilM := fun B env σ H F Q S h => h [] H F S .nil .refl fun _ => ⟨rfl, rfl, .refl _⟩
theorem er_cons (h1 : EvE K mg W p t m) (h2 : EvR K mg W q tA ms) : EvR K mg W (p && q) (tCons t tA) (consM m ms) := fun B env σ H F Q S h => by
  unfold consM at h
  refine h1 B env σ H F _ S ?_
  split
  · rename_i d e1 em
    rw [em] at h
    dsimp only at h
    intro v H1 F1 Fd S1 N1 P1
    refine h2 (Hid B Fd) e1 σ H1 F1 _ S1.hide ?_
    split
    · rename_i ds e2 em2
      rw [em2] at h
      intro vs H2 F2 S2 r2 N2 P2
      have hN : Nxt H1 F1 H2 (F2 ++ []) := by rw [List.append_nil]; exact N2
      have S3 := S1.cons S2.nil hN
      have N3 := N1.cons hN
      have hv : Rep K H2 d v := by
        cases S3.repH with
        | cons r _ => exact r
      refine h (v :: vs) H2 F2 S3.sta (.cons hv r2) (N3.weak fun a m => List.mem_append_left _ m) fun hp => ?_
      obtain ⟨a1, a2, a3⟩ := P1 (by simp at hp; exact hp.1)
      obtain ⟨b1, b2, b3⟩ := P2 (by simp at hp; exact hp.2)
      exact ⟨b1.trans a1, b2.trans a2, a3.trans b3⟩
    · rename_i e e2 em2
      rw [em2] at h
      exact h.mono (fun H' F' n => N1.trans n fun a m => List.mem_append_left _ m) fun b z => .inl z
    · rename_i em2
      rw [em2] at h
      exact h
  · rename_i e e1 em
    rw [em] at h
    exact h
  · rename_i em
    rw [em] at h
    exact h
theorem er_consT (h1 : EvT K t mt) (h2 : EvR K mg W true tA ms) : EvR K mg W true (tCons t tA) (consTM mt ms) := fun B env σ H F Q S h => by
  unfold consTM at h
  cases e1 : mt env with
  | none => rw [e1] at h; exact h.elim
  | some d =>
    rw [e1] at h
    refine h1 B env σ H F _ d S e1 fun v H1 Fs ex S1 o _ => ?_
    refine h2 B env σ H1 F _ S1 ?_
    dsimp only at h
    split
    · rename_i ds e2 em2
      rw [em2] at h
      intro vs H2 F2 S2 r2 N2 P2
      obtain ⟨b1, b2, b3⟩ := P2 rfl
      subst b2
      exact h (v :: vs) H2 F2 S2 (.cons ((o.rep (fz_ex _ _ _)).mono b3) r2) ((Nxt.ex ex).trans N2 fun a m => m) fun _ => ⟨b1, rfl, ex.trans b3⟩
    · rename_i e e2 em2
      rw [em2] at h
      exact ExP.mono h (fun H' F' n => (Nxt.ex ex).trans n fun a m => m) fun b z => z
    · rename_i em2
      rw [em2] at h
      exact h
theorem er_consN (h2 : EvR K mg W p tA ms) : EvR K mg W p (tCons (tVar i) tA) (consNM i ms) := fun B env σ H F Q S h => by
  unfold consNM at h
  cases e0 : rdM i env with
  | none => rw [e0] at h; exact h.elim
  | some d0 =>
    rw [e0] at h
    dsimp only at h
    have hv : ∃ v, σ[i]? = some (some v) := by
      unfold rdM at e0
      split at e0
      · rename_i k d' e3
        obtain ⟨v, G, hv, _, _⟩ := S.rel.anyAt e3
        exact ⟨v, hv⟩
      · cases e0
    obtain ⟨v, hv⟩ := hv
    refine ⟨v, hv, ?_⟩
    refine h2 B env σ H F _ S ?_
    split
    · rename_i ds e2 em2
      rw [em2] at h
      dsimp only at h
      intro vs H2 F2 S2 r2 N2 P2
      unfold rdM at h
      split at h
      · rename_i d env' e4
        split at e4
        · rename_i d' e5
          cases e4
          split at e5
          · rename_i k d'' e6
            cases e5
            obtain ⟨v', G, hv', o, _⟩ := S2.rel.anyAt e6
            rw [hv] at hv'
            cases hv'
            exact h (v :: vs) H2 F2 S2 (.cons (o.rep (fz_ex _ _ _)) r2) N2 P2
          · cases e5
        · cases e4
      · rename_i e4
        split at e4 <;> cases e4
      · exact h.elim
    · rename_i e e2 em2
      rw [em2] at h
      exact h
    · rename_i em2
      rw [em2] at h
      exact h
end
end MM

set_option Elab.async false
set_option linter.all false
set_option maxRecDepth 100000
set_option maxHeartbeats 4000000
noncomputable section
namespace MM
open PySem PySem.Spec PyProof.Rows L2

inductive Sc : D → V → Prop
  | non : Sc .non .non
  | bl (b : Bool) : Sc (.bl b) (.bl b)
  | int (i : Int) : Sc (.int i) (.int i)
  | str (x : Str) : Sc (.str x) (.str x)
theorem Sc.rep {K : PySem.W.Frag} {Z : Hp} {d : D} {v : V} (h : Sc d v) : Rep K Z d v := by
  cases h
  · exact .non
  · exact .bl _
  · exact .int _
  · exact .str _
/-- a relation on values keeps the word of a function on data: a flat answer -/
def OpS (K : PySem.W.Frag) (r : List V → Hp → VK → Prop) (f : List D → Option D) : Prop :=
  ∀ H ds vs (Q : VK) d, RepL K H ds vs → f ds = some d → (∀ v, Sc d v → Q v H) → r vs H Q
def OpB (K : PySem.W.Frag) (r : List V → Hp → (Bool → Hp → Prop) → Prop) (f : List D → Option Bool) : Prop :=
  ∀ H ds vs (Q : Bool → Hp → Prop) b, RepL K H ds vs → f ds = some b → Q b H → r vs H Q
/-- any answer over frozen data -/
def OpG (K : PySem.W.Frag) (r : List V → Hp → VK → Prop) (f : List D → Option D) : Prop :=
  ∀ Z H ds vs (Q : VK) d, Ex Z H → RepL K Z ds vs → f ds = some d → (∀ v, Rep K Z d v → Q v H) →
    (∀ es p us, d = .lst es → H p = none → RepL K Z es us → Q (.ref p) (upd H p (.lst us))) →
    (∀ es p us, d = .tup es → H p = none → RepL K Z es us → Q (.ref p) (upd H p (.tup us))) →
    (∀ es p us, d = .dK es → H p = none → RepK K Z es us → Q (.ref p) (upd H p (.dK us))) →
    (∀ es p us, d = .dT es → H p = none → RepT K Z es us → Q (.ref p) (upd H p (.dT us))) → r vs H Q
/-- .. where a mutable answer is new -/
def OpN (K : PySem.W.Frag) (r : List V → Hp → VK → Prop) (f : List D → Option D) : Prop :=
  ∀ Z H ds vs (Q : VK) d, Ex Z H → RepL K Z ds vs → f ds = some d → (∀ v, Rep K Z d v → Exl d [] → Q v H) →
    (∀ es p us, d = .lst es → H p = none → RepL K Z es us → Q (.ref p) (upd H p (.lst us))) →
    (∀ es p us, d = .tup es → H p = none → RepL K Z es us → Q (.ref p) (upd H p (.tup us))) → r vs H Q
theorem OpN.g {K : PySem.W.Frag} {r : List V → Hp → VK → Prop} {f : List D → Option D} (h : OpN K r f) : OpG K r f :=
  fun Z H ds vs Q d e R hf q ql qt _ _ => h Z H ds vs Q d e R hf (fun v s _ => q v s) ql qt
theorem OpS.g {K : PySem.W.Frag} {r : List V → Hp → VK → Prop} {f : List D → Option D} (h : OpS K r f) : OpG K r f :=
  fun Z H ds vs Q d e R hf q _ _ _ _ => h H ds vs Q d (R.mono e) hf fun v s => q v s.rep

section
variable {K : PySem.W.Frag} {mg : Str → Option Value} {W : WX} {p q : Bool} {t t1 t2 ta tb : TE} {m m1 m2 : M D} {tA : TA} {ms : M (List D)} {i : Nat} {mt : Env → Option D} {r : List V → Hp → VK → Prop} {f : List D → Option D}

theorem ev_sc (hr : OpS K r f) (ha : EvR K mg W p tA ms) (ht : ∀ σ H Q, tA σ H (fun vs H' => r vs H' Q) → t σ H Q := by exact fun _ _ _ h => h) : EvE K mg W p t (opM f ms) := fun B env σ H F Q S h => by
  refine ht σ H Q (ha B env σ H F _ S ?_)
  unfold opM at h
  split
  · rename_i ds e2 em
    rw [em] at h
    dsimp only at h
    intro vs H2 F2 S2 r2 N2 P2
    cases ef : f ds with
    | none => rw [ef] at h; exact h.elim
    | some d =>
      rw [ef] at h
      dsimp only at h
      exact hr H2 ds vs Q d r2 ef fun v sc => h v H2 F2 [] (S2.rep (.cons sc.rep .nil)) (by rw [List.append_nil]; exact N2) P2
  · rename_i e e2 em
    rw [em] at h
    exact h
  · rename_i em
    rw [em] at h
    exact h
theorem eb_sc {r : List V → Hp → (Bool → Hp → Prop) → Prop} {f : List D → Option Bool} {t : TT} (hr : OpB K r f) (ha : EvR K mg W p tA ms) (ht : ∀ σ H Q, tA σ H (fun vs H' => r vs H' Q) → t σ H Q := by exact fun _ _ _ h => h) : EvB K mg W p t (opB f ms) := fun B env σ H F Q S h => by
  refine ht σ H Q (ha B env σ H F _ S ?_)
  unfold opB at h
  split
  · rename_i ds e2 em
    rw [em] at h
    dsimp only at h
    intro vs H2 F2 S2 r2 N2 P2
    cases ef : f ds with
    | none => rw [ef] at h; exact h.elim
    | some d =>
      rw [ef] at h
      dsimp only at h
      exact hr H2 ds vs Q d r2 ef (h H2 F2 S2 N2 P2)
  · rename_i e e2 em
    rw [em] at h
    exact h
  · rename_i em
    rw [em] at h
    exact h
theorem ev_g (hr : OpG K r f) (ha : EvA K mg W p tA ms) (ht : ∀ σ H Q, tA σ H (fun vs H' => r vs H' Q) → t σ H Q := by exact fun _ _ _ h => h) : EvE K mg W p t (opM f ms) := fun B env σ H F Q S h => by
  refine ht σ H Q (ha B env σ H F _ S ?_)
  unfold opM at h
  split
  · rename_i ds e2 em
    rw [em] at h
    dsimp only at h
    intro vs H2 F2 Fd S1 N1 P2
    obtain ⟨S2, r2⟩ := S1.freeze
    have N2 : Nxt H F H2 F2 := N1.weak fun a m => List.mem_append_left _ m
    cases ef : f ds with
    | none => rw [ef] at h; exact h.elim
    | some d =>
      rw [ef] at h
      dsimp only at h
      have gro : ∀ {pp : Addr} {o : HO}, H2 pp = none → PureP p env e2 F F2 H (upd H2 pp o) := fun hp q => by
        obtain ⟨a1, a2, a3⟩ := P2 q
        exact ⟨a1, a2, a3.trans (ex_new hp)⟩
      refine hr _ H2 ds vs Q d (fz_ex B H2 F2) r2 ef (fun v rv => ?_) (fun es pp us e hp ru => ?_) (fun es pp us e hp ru => ?_) (fun es pp us e hp ru => ?_) (fun es pp us e hp ru => ?_)
      · exact h v H2 F2 [] (S2.rep (.cons rv .nil)) (by rw [List.append_nil]; exact N2) P2
      · subst e
        have S3 := (S2.rep ru).mkL hp
        exact h _ _ F2 [pp] S3 (Nxt.mkL (by rw [List.append_nil]; exact N2) hp) (gro hp)
      · subst e
        have S3 := (S2.rep ru).mkT hp
        exact h _ _ F2 [] S3 (by rw [List.append_nil]; exact N2.grow (ex_new hp)) (gro hp)
      · subst e
        have hn := (S2.nil.sub0 hp)
        rw [List.append_nil] at hn
        have S3 : Sta K B e2 σ (upd H2 pp (.dK us)) F2 := S2.new hp
        have e4 : Ex (Fz B H2 F2) (Fz B (upd H2 pp (.dK us)) F2) := fz_mk fun b o e m n => ⟨ex_new hp _ _ e, m, n⟩
        refine h _ _ F2 [] (S3.rep (.cons (.dK (by rw [fz_in hn.1 hn.2]; exact upd_same) (ru.mono e4)) .nil)) (by rw [List.append_nil]; exact N2.grow (ex_new hp)) (gro hp)
      · subst e
        have hn := (S2.nil.sub0 hp)
        rw [List.append_nil] at hn
        have S3 : Sta K B e2 σ (upd H2 pp (.dT us)) F2 := S2.new hp
        have e4 : Ex (Fz B H2 F2) (Fz B (upd H2 pp (.dT us)) F2) := fz_mk fun b o e m n => ⟨ex_new hp _ _ e, m, n⟩
        refine h _ _ F2 [] (S3.rep (.cons (.dT (by rw [fz_in hn.1 hn.2]; exact upd_same) (ru.mono e4)) .nil)) (by rw [List.append_nil]; exact N2.grow (ex_new hp)) (gro hp)
  · rename_i e e2 em
    rw [em] at h
    exact h
  · rename_i em
    rw [em] at h
    exact h
theorem en_n (hr : OpN K r f) (ha : EvA K mg W p tA ms) (ht : ∀ σ H Q, tA σ H (fun vs H' => r vs H' Q) → t σ H Q := by exact fun _ _ _ h => h) : EvN K mg W p t (opM f ms) := fun B env σ H F Q S h => by
  refine ht σ H Q (ha B env σ H F _ S ?_)
  unfold opM at h
  split
  · rename_i ds e2 em
    rw [em] at h
    dsimp only at h
    intro vs H2 F2 Fd S1 N1 P2
    obtain ⟨S2, r2⟩ := S1.freeze
    have N2 : Nxt H F H2 F2 := N1.weak fun a m => List.mem_append_left _ m
    cases ef : f ds with
    | none => rw [ef] at h; exact h.elim
    | some d =>
      rw [ef] at h
      dsimp only at h
      have gro : ∀ {pp : Addr} {o : HO}, H2 pp = none → PureP p env e2 F F2 H (upd H2 pp o) := fun hp q => by
        obtain ⟨a1, a2, a3⟩ := P2 q
        exact ⟨a1, a2, a3.trans (ex_new hp)⟩
      refine hr _ H2 ds vs Q d (fz_ex B H2 F2) r2 ef (fun v rv x => ?_) (fun es pp us e hp ru => ?_) (fun es pp us e hp ru => ?_)
      · exact h v H2 F2 [] (S2.rep (.cons rv .nil)) x (by rw [List.append_nil]; exact N2) P2
      · subst e
        exact h _ _ F2 [pp] ((S2.rep ru).mkL hp) (List.cons_ne_nil _ _) (Nxt.mkL (by rw [List.append_nil]; exact N2) hp) (gro hp)
      · subst e
        exact h _ _ F2 [] ((S2.rep ru).mkT hp) trivial (by rw [List.append_nil]; exact N2.grow (ex_new hp)) (gro hp)
  · rename_i e e2 em
    rw [em] at h
    exact h
  · rename_i em
    rw [em] at h
    exact h
/-- displays -/
def lstM (ms : M (List D)) : M D := opM (fun ds => haveI : Decidable (ds.length ≤ sizeLine) := Classical.propDecidable _; if ds.length ≤ sizeLine then some (.lst ds) else none) ms
def tupM (ms : M (List D)) : M D := opM (fun ds => haveI : Decidable (ds.length ≤ sizeLine) := Classical.propDecidable _; if ds.length ≤ sizeLine then some (.tup ds) else none) ms
theorem en_lst (ha : EvA K mg W p tA ms) : EvN K mg W p (tLst tA) (lstM ms) := fun B env σ H F Q S h => by
  refine ha B env σ H F _ S ?_
  unfold lstM opM at h
  split
  · rename_i ds e2 em
    rw [em] at h
    dsimp only at h
    intro vs H2 F2 Fd S1 N1 P2
    by_cases hz : ds.length ≤ sizeLine
    · rw [if_pos hz] at h
      refine ⟨by rw [← S1.own.length]; exact hz, fun pp hp => h _ _ F2 _ (S1.mkL hp) (List.cons_ne_nil _ _) (N1.mkL hp) fun q => ?_⟩
      obtain ⟨a1, a2, a3⟩ := P2 q
      exact ⟨a1, a2, a3.trans (ex_new hp)⟩
    · rw [if_neg hz] at h; exact h.elim
  · rename_i e e2 em
    rw [em] at h
    exact h
  · rename_i em
    rw [em] at h
    exact h
theorem en_tup (ha : EvA K mg W p tA ms) : EvN K mg W p (tTup tA) (tupM ms) := fun B env σ H F Q S h => by
  refine ha B env σ H F _ S ?_
  unfold tupM opM at h
  split
  · rename_i ds e2 em
    rw [em] at h
    dsimp only at h
    intro vs H2 F2 Fd S1 N1 P2
    by_cases hz : ds.length ≤ sizeLine
    · rw [if_pos hz] at h
      refine ⟨by rw [← S1.own.length]; exact hz, fun pp hp => h _ _ F2 _ (S1.mkT hp) trivial (N1.grow (ex_new hp)) fun q => ?_⟩
      obtain ⟨a1, a2, a3⟩ := P2 q
      exact ⟨a1, a2, a3.trans (ex_new hp)⟩
    · rw [if_neg hz] at h; exact h.elim
  · rename_i e e2 em
    rw [em] at h
    exact h
  · rename_i em
    rw [em] at h
    exact h

/-! ### truths -/
theorem eb_of (h : EvE K mg W p t m) : EvB K mg W p (tTest t) (tstM m) := fun B env σ H F Q S g => by
  refine h B env σ H F _ S ?_
  unfold tstM at g
  split
  · rename_i d e2 em
    rw [em] at g
    intro v H2 F2 Fd S1 N1 P2
    cases d with
    | bl b =>
      dsimp only at g
      cases S1.repZ with
      | cons r _ =>
        cases r
        exact ⟨b, rfl, g H2 F2 S1.sta (N1.weak fun a m => List.mem_append_left _ m) P2⟩
    | _ => exact g.elim
  · rename_i e e2 em
    rw [em] at g
    exact g
  · rename_i em
    rw [em] at g
    exact g
theorem eb_ofB (h : EvE K mg W p t m) : EvB K mg W p (tB t) (tstM m) := eb_of h
theorem eb_and {t u : TT} {a b : M Bool} (h1 : EvB K mg W p t a) (h2 : EvB K mg W q u b) : EvB K mg W (p && q) (tAnd t u) (andM a b) := fun B env σ H F Q S g => by
  refine h1 B env σ H F _ S ?_
  unfold andM at g
  split
  · rename_i c e2 em
    rw [em] at g
    intro H2 F2 S2 N2 P2
    cases c with
    | true =>
      dsimp only at g
      show u σ H2 Q
      refine h2 B e2 σ H2 F2 _ S2 ?_
      split
      · rename_i c' e3 em3
        rw [em3] at g
        intro H3 F3 S3 N3 P3
        refine g H3 F3 S3 (N2.trans N3 fun a m => m) fun hp => ?_
        obtain ⟨a1, a2, a3⟩ := P2 (by simp at hp; exact hp.1)
        obtain ⟨b1, b2, b3⟩ := P3 (by simp at hp; exact hp.2)
        exact ⟨b1.trans a1, b2.trans a2, a3.trans b3⟩
      · rename_i e e3 em3
        rw [em3] at g
        exact ExP.mono g (fun H' F' n => N2.trans n fun a m => m) fun b z => z
      · rename_i em3
        rw [em3] at g
        exact g
    | false =>
      dsimp only at g
      show Q false H2
      exact g H2 F2 S2 N2 fun hp => P2 (by simp at hp; exact hp.1)
  · rename_i e e2 em
    rw [em] at g
    exact g
  · rename_i em
    rw [em] at g
    exact g
theorem eb_or {t u : TT} {a b : M Bool} (h1 : EvB K mg W p t a) (h2 : EvB K mg W q u b) : EvB K mg W (p && q) (tOr t u) (orM a b) := fun B env σ H F Q S g => by
  refine h1 B env σ H F _ S ?_
  unfold orM at g
  split
  · rename_i c e2 em
    rw [em] at g
    intro H2 F2 S2 N2 P2
    cases c with
    | false =>
      dsimp only at g
      show u σ H2 Q
      refine h2 B e2 σ H2 F2 _ S2 ?_
      split
      · rename_i c' e3 em3
        rw [em3] at g
        intro H3 F3 S3 N3 P3
        refine g H3 F3 S3 (N2.trans N3 fun a m => m) fun hp => ?_
        obtain ⟨a1, a2, a3⟩ := P2 (by simp at hp; exact hp.1)
        obtain ⟨b1, b2, b3⟩ := P3 (by simp at hp; exact hp.2)
        exact ⟨b1.trans a1, b2.trans a2, a3.trans b3⟩
      · rename_i e e3 em3
        rw [em3] at g
        exact ExP.mono g (fun H' F' n => N2.trans n fun a m => m) fun b z => z
      · rename_i em3
        rw [em3] at g
        exact g
    | true =>
      dsimp only at g
      show Q true H2
      exact g H2 F2 S2 N2 fun hp => P2 (by simp at hp; exact hp.1)
  · rename_i e e2 em
    rw [em] at g
    exact g
  · rename_i em
    rw [em] at g
    exact g
theorem eb_not {t : TT} {a : M Bool} (h1 : EvB K mg W p t a) : EvB K mg W p (tNot t) (notM a) := fun B env σ H F Q S g => by
  refine h1 B env σ H F _ S ?_
  unfold notM at g
  split
  · rename_i c e2 em
    rw [em] at g
    exact g
  · rename_i e e2 em
    rw [em] at g
    exact g
  · rename_i em
    rw [em] at g
    exact g
theorem ev_notV (h1 : EvE K mg W p ta m) : EvE K mg W p (tNotV ta) (notVM m) := fun B env σ H F Q S g => by
  refine h1 B env σ H F _ S ?_
  unfold notVM at g
  split
  · rename_i d e2 em
    rw [em] at g
    intro v H2 F2 Fd S1 N1 P2
    cases d with
    | bl b =>
      dsimp only at g
      obtain ⟨S2, r⟩ := S1.freeze
      cases r with
      | cons r _ =>
        cases r
        exact ⟨b, rfl, g _ H2 F2 [] (S2.rep (.cons (.bl _) .nil)) (by rw [List.append_nil]; exact N1.weak fun a m => List.mem_append_left _ m) P2⟩
    | _ => exact g.elim
  · rename_i e e2 em
    rw [em] at g
    exact g
  · rename_i em
    rw [em] at g
    exact g
theorem ev_andV (h1 : EvE K mg W p ta m1) (h2 : EvE K mg W q tb m2) : EvE K mg W (p && q) (tAndV ta tb) (andVM m1 m2) := fun B env σ H F Q S g => by
  refine h1 B env σ H F _ S ?_
  unfold andVM at g
  split
  · rename_i d e2 em
    rw [em] at g
    intro v H2 F2 Fd S1 N1 P2
    obtain ⟨S2, r⟩ := S1.freeze
    have N2 : Nxt H F H2 F2 := N1.weak fun a m => List.mem_append_left _ m
    cases d with
    | bl b =>
      cases r with
      | cons r _ =>
        cases r
        refine ⟨b, rfl, ?_⟩
        cases b with
        | true =>
          dsimp only at g
          show tb σ H2 Q
          refine h2 B e2 σ H2 F2 _ S2 ?_
          split
          · rename_i c' e3 em3
            rw [em3] at g
            intro v3 H3 F3 Fd3 S3 N3 P3
            refine g v3 H3 F3 Fd3 S3 (N2.trans N3 fun a m => m) fun hp => ?_
            obtain ⟨a1, a2, a3⟩ := P2 (by simp at hp; exact hp.1)
            obtain ⟨b1, b2, b3⟩ := P3 (by simp at hp; exact hp.2)
            exact ⟨b1.trans a1, b2.trans a2, a3.trans b3⟩
          · rename_i e e3 em3
            rw [em3] at g
            exact ExP.mono g (fun H' F' n => N2.trans n fun a m => m) fun b z => z
          · rename_i em3
            rw [em3] at g
            exact g
        | false =>
          dsimp only at g
          show Q (.bl false) H2
          exact g _ H2 F2 [] (S2.rep (.cons (.bl _) .nil)) (by rw [List.append_nil]; exact N2) fun hp => P2 (by simp at hp; exact hp.1)
    | _ => exact g.elim
  · rename_i e e2 em
    rw [em] at g
    exact g
  · rename_i em
    rw [em] at g
    exact g
theorem ev_orV (h1 : EvE K mg W p ta m1) (h2 : EvE K mg W q tb m2) : EvE K mg W (p && q) (tOrV ta tb) (orVM m1 m2) := fun B env σ H F Q S g => by
  refine h1 B env σ H F _ S ?_
  unfold orVM at g
  split
  · rename_i d e2 em
    rw [em] at g
    intro v H2 F2 Fd S1 N1 P2
    obtain ⟨S2, r⟩ := S1.freeze
    have N2 : Nxt H F H2 F2 := N1.weak fun a m => List.mem_append_left _ m
    cases d with
    | bl b =>
      cases r with
      | cons r _ =>
        cases r
        refine ⟨b, rfl, ?_⟩
        cases b with
        | false =>
          dsimp only at g
          show tb σ H2 Q
          refine h2 B e2 σ H2 F2 _ S2 ?_
          split
          · rename_i c' e3 em3
            rw [em3] at g
            intro v3 H3 F3 Fd3 S3 N3 P3
            refine g v3 H3 F3 Fd3 S3 (N2.trans N3 fun a m => m) fun hp => ?_
            obtain ⟨a1, a2, a3⟩ := P2 (by simp at hp; exact hp.1)
            obtain ⟨b1, b2, b3⟩ := P3 (by simp at hp; exact hp.2)
            exact ⟨b1.trans a1, b2.trans a2, a3.trans b3⟩
          · rename_i e e3 em3
            rw [em3] at g
            exact ExP.mono g (fun H' F' n => N2.trans n fun a m => m) fun b z => z
          · rename_i em3
            rw [em3] at g
            exact g
        | true =>
          dsimp only at g
          show Q (.bl true) H2
          exact g _ H2 F2 [] (S2.rep (.cons (.bl _) .nil)) (by rw [List.append_nil]; exact N2) fun hp => P2 (by simp at hp; exact hp.1)
    | _ => exact g.elim
  · rename_i e e2 em
    rw [em] at g
    exact g
  · rename_i em
    rw [em] at g
    exact g
theorem ev_if {c : TT} {mc : M Bool} {pc : Bool} (hc : EvB K mg W pc c mc) (h1 : EvE K mg W p ta m1) (h2 : EvE K mg W q tb m2) : EvE K mg W (pc && (p && q)) (tIf c ta tb) (ifM mc m1 m2) := fun B env σ H F Q S g => by
  refine hc B env σ H F _ S ?_
  unfold ifM at g
  split
  · rename_i d e2 em
    rw [em] at g
    intro H2 F2 S2 N2 P2
    have fin : ∀ {t' : TE} {m' : M D} {p' : Bool}, EvE K mg W p' t' m' → ((pc && (p && q)) = true → p' = true) → (match m' e2 with
        | .ok d env' => ∀ v H' F' Fd, StaL K B env' σ H' F' [d] [v] Fd → Nxt H F H' (F' ++ Fd) → PureP (pc && (p && q)) env env' F F' H H' → Q v H'
        | .ex e env' => ExP K mg W B σ H F e env'
        | .no => False) → t' σ H2 Q := fun {t' m' p'} h' hp' g => by
      refine h' B e2 σ H2 F2 _ S2 ?_
      split
      · rename_i c' e3 em3
        rw [em3] at g
        intro v3 H3 F3 Fd3 S3 N3 P3
        refine g v3 H3 F3 Fd3 S3 (N2.trans N3 fun a m => m) fun hp => ?_
        obtain ⟨a1, a2, a3⟩ := P2 (by simp at hp; exact hp.1)
        obtain ⟨b1, b2, b3⟩ := P3 (hp' hp)
        exact ⟨b1.trans a1, b2.trans a2, a3.trans b3⟩
      · rename_i e e3 em3
        rw [em3] at g
        exact ExP.mono g (fun H' F' n => N2.trans n fun a m => m) fun b z => z
      · rename_i em3
        rw [em3] at g
        exact g
    cases d with
    | true => exact fin h1 (fun hp => by simp at hp; exact hp.2.1) g
    | false => exact fin h2 (fun hp => by simp at hp; exact hp.2.2) g
  · rename_i e e2 em
    rw [em] at g
    exact g
  · rename_i em
    rw [em] at g
    exact g
end
end MM

set_option Elab.async false
set_option linter.all false
set_option maxRecDepth 100000
set_option maxHeartbeats 4000000
noncomputable section
namespace MM
open PySem PySem.Spec PyProof.Rows L2

inductive RS where
  | nx (env : Env) | rt (d : D) (env : Env) | bk (env : Env) | ct (env : Env) | ex (e : Exn) (env : Env) | no
def Kp (ps : List Nat) (σ σ' : St) : Prop := ∀ i ∈ ps, σ'[i]? = σ[i]?
theorem Kp.refl {ps : List Nat} {σ : St} : Kp ps σ σ := fun _ _ => rfl
theorem Kp.trans {ps : List Nat} {σ σ1 σ2 : St} (a : Kp ps σ σ1) (b : Kp ps σ1 σ2) : Kp ps σ σ2 := fun i m => (b i m).trans (a i m)
theorem Kp.set {ps : List Nat} {σ : St} {i : Nat} {o : Option V} (h : i ∉ ps) : Kp ps σ (σ.set i o) := fun j m => List.getElem?_set_ne (fun e => h (by rw [e]; exact m))
section
variable (K : PySem.W.Frag) (mg : Str → Option Value) (W : WX) (ps : List Nat) (ro : Bool)
def NxP (B : Addr → Prop) (σ : St) (H : Hp) (F : List Addr) (env' : Env) (q : St → Hp → Prop) : Prop :=
  ∀ σ' H' F', Sta K B env' σ' H' F' → Nxt H F H' F' → Kp ps σ σ' → q σ' H'
def RtP (B : Addr → Prop) (σ : St) (H : Hp) (F : List Addr) (d : D) (env' : Env) (q : VK) : Prop :=
  ∀ v σ' H' F' Fd, StaL K B env' σ' H' F' [d] [v] Fd → (ro = true → Exl d Fd) → Nxt H F H' (F' ++ Fd) → Kp ps σ σ' → q v H'
def XsP (B : Addr → Prop) (σ : St) (H : Hp) (F : List Addr) (e : Exn) (env' : Env) : Prop :=
  ∀ cls dd σ' H' F', Sta K B env' σ' H' F' → Nxt H F H' F' → Kp ps σ σ' → ExnAt mg H' e cls dd → W cls dd σ' H'
def PostS (B : Addr → Prop) (σ : St) (H : Hp) (F : List Addr) (D : Ends) : RS → Prop
  | .nx env' => NxP K ps B σ H F env' D.nx
  | .bk env' => NxP K ps B σ H F env' D.bk
  | .ct env' => NxP K ps B σ H F env' D.ct
  | .rt d env' => RtP K ps ro B σ H F d env' D.rt
  | .ex e env' => XsP K mg W ps B σ H F e env'
  | .no => False
def EvS (t : TS) (m : Env → RS) : Prop := ∀ B env σ H F (D : Ends), Sta K B env σ H F → PostS K mg W ps ro B σ H F D (m env) → t D σ H
end

/-! ### the mirror's statements -/
abbrev MS := Env → RS
def seqM (a b : MS) : MS := fun env => match a env with
  | .nx e => b e
  | r => r
def nxM : MS := fun env => .nx env
def brM : MS := fun env => .bk env
def ctM : MS := fun env => .ct env
def retM (m : M D) : MS := fun env => match m env with
  | .ok d e => .rt d e
  | .ex e e2 => .ex e e2
  | .no => .no
def retNM : MS := fun env => .rt .non env
def ifS (c : M Bool) (a b : MS) : MS := fun env => match c env with
  | .ok true e => a e
  | .ok false e => b e
  | .ex e e2 => .ex e e2
  | .no => .no
/-- x = e: frozen, owned -/
def asgF (i : Nat) (m : M D) : MS := fun env => match m env with
  | .ok d e => .nx (e.set i (some (false, d)))
  | .ex e e2 => .ex e e2
  | .no => .no
def asgO (i : Nat) (m : M D) : MS := fun env => match m env with
  | .ok d e => .nx (e.set i (some (true, d)))
  | .ex e e2 => .ex e e2
  | .no => .no
def dropM (m : M D) : MS := fun env => match m env with
  | .ok _ e => .nx e
  | .ex e e2 => .ex e e2
  | .no => .no
/-- the slot frozen -/
def frzE (i : Nat) (env : Env) : Env := match env[i]? with
  | some (some (_, d)) => env.set i (some (false, d))
  | _ => env
def frzM (i : Nat) (a : MS) : MS := fun env => a (frzE i env)
def forgetM (i : Nat) (a : MS) : MS := fun env => a (env.set i none)
def whM (test : M Bool) (body : MS) : Nat → MS
  | 0, _ => .no
  | n + 1, env => match test env with
    | .ok true e => match body e with
      | .nx e2 => whM test body n e2
      | .ct e2 => whM test body n e2
      | .bk e2 => .nx e2
      | r => r
    | .ok false e => .nx e
    | .ex e e2 => .ex e e2
    | .no => .no

section
variable {K : PySem.W.Frag} {mg : Str → Option Value} {W : WX} {ps : List Nat} {ro : Bool} {p q : Bool} {te : TE} {m : M D} {t u : TS} {a b : MS} {i : Nat} {tA : TA} {ms : M (List D)}

theorem PostS.mono {B : Addr → Prop} {σ σ1 : St} {H H1 : Hp} {F F1 : List Addr} {D : Ends} {r : RS} (h : PostS K mg W ps ro B σ H F D r) (N : ∀ H' F', Nxt H1 F1 H' F' → Nxt H F H' F') (kp : Kp ps σ σ1) : PostS K mg W ps ro B σ1 H1 F1 D r := by
  cases r with
  | nx e => exact fun σ' H' F' S n k => h σ' H' F' S (N _ _ n) (kp.trans k)
  | bk e => exact fun σ' H' F' S n k => h σ' H' F' S (N _ _ n) (kp.trans k)
  | ct e => exact fun σ' H' F' S n k => h σ' H' F' S (N _ _ n) (kp.trans k)
  | rt d e => exact fun v σ' H' F' Fd S x n k => h v σ' H' F' Fd S x (N _ _ n) (kp.trans k)
  | ex e e2 => exact fun c d σ' H' F' S n k x => h c d σ' H' F' S (N _ _ n) (kp.trans k) x
  | no => exact h
theorem ExP.xs {B : Addr → Prop} {σ : St} {H : Hp} {F : List Addr} {e : Exn} {env' : Env} (h : XsP K mg W ps B σ H F e env') : ExP K mg W B σ H F e env' :=
  fun cls dd H' F' S N x => h cls dd σ H' F' S N .refl x

theorem es_nx : EvS K mg W ps ro tNext nxM := fun B env σ H F D S h => h σ H F S .refl .refl
theorem es_break : EvS K mg W ps ro tBreak brM := fun B env σ H F D S h => h σ H F S .refl .refl
theorem es_cont : EvS K mg W ps ro tCont ctM := fun B env σ H F D S h => h σ H F S .refl .refl
theorem es_seq (h1 : EvS K mg W ps ro t a) (h2 : EvS K mg W ps ro u b) : EvS K mg W ps ro (tSeq t u) (seqM a b) := fun B env σ H F D S h => by
  refine h1 B env σ H F _ S ?_
  unfold seqM at h
  cases em : a env with
  | nx e =>
    rw [em] at h
    exact fun σ' H' F' S' N k => h2 B e σ' H' F' D S' (h.mono (fun _ _ n => N.trans n fun a m => m) k)
  | bk e => rw [em] at h; exact h
  | ct e => rw [em] at h; exact h
  | rt d e => rw [em] at h; exact h
  | ex e e2 => rw [em] at h; exact h
  | no => rw [em] at h; exact h
theorem es_ret (h1 : EvE K mg W p te m) : EvS K mg W ps false (tRet te) (retM m) := fun B env σ H F D S h => by
  refine h1 B env σ H F _ S ?_
  unfold retM at h
  cases em : m env with
  | ok d e => rw [em] at h; exact fun v H' F' Fd S' N _ => h v σ H' F' Fd S' (fun z => nomatch z) N .refl
  | ex e e2 => rw [em] at h; exact .xs h
  | no => rw [em] at h; exact h
theorem es_retO (h1 : EvN K mg W p te m) : EvS K mg W ps ro (tRet te) (retM m) := fun B env σ H F D S h => by
  refine h1 B env σ H F _ S ?_
  unfold retM at h
  cases em : m env with
  | ok d e => rw [em] at h; exact fun v H' F' Fd S' x N _ => h v σ H' F' Fd S' (fun _ => x) N .refl
  | ex e e2 => rw [em] at h; exact .xs h
  | no => rw [em] at h; exact h
theorem es_retN : EvS K mg W ps ro tRetN retNM := fun B env σ H F D S h => h .non σ H F [] (S.rep (.cons .non .nil)) (fun _ => trivial) (by rw [List.append_nil]; exact .refl) .refl
theorem es_drop (h1 : EvE K mg W p te m) : EvS K mg W ps ro (tDrop te) (dropM m) := fun B env σ H F D S h => by
  refine h1 B env σ H F _ S ?_
  unfold dropM at h
  cases em : m env with
  | ok d e => rw [em] at h; exact fun v H' F' Fd S' N _ => h σ H' F' S'.sta (N.weak fun a m => List.mem_append_left _ m) .refl
  | ex e e2 => rw [em] at h; exact .xs h
  | no => rw [em] at h; exact h
theorem es_if {c : TT} {mc : M Bool} (hc : EvB K mg W p c mc) (h1 : EvS K mg W ps ro t a) (h2 : EvS K mg W ps ro u b) : EvS K mg W ps ro (tIfS c t u) (ifS mc a b) := fun B env σ H F D S h => by
  refine hc B env σ H F _ S ?_
  unfold ifS at h
  cases em : mc env with
  | ok d e =>
    rw [em] at h
    intro H' F' S' N _
    cases d with
    | true => exact h1 B e σ H' F' D S' (h.mono (fun _ _ n => N.trans n fun a m => m) .refl)
    | false => exact h2 B e σ H' F' D S' (h.mono (fun _ _ n => N.trans n fun a m => m) .refl)
  | ex e e2 => rw [em] at h; exact .xs h
  | no => rw [em] at h; exact h

theorem Sta.lenE {B : Addr → Prop} {env : Env} {σ : St} {H : Hp} {F : List Addr} (S : Sta K B env σ H F) : env.length = σ.length := S.rel.length
/-- a slot gets a frozen value -/
theorem Sta.putF {B : Addr → Prop} {env : Env} {σ : St} {H : Hp} {F : List Addr} {d : D} {v : V} (S : Sta K B env σ H F) (r : Rep K (Fz B H F) d v) (hi : i < env.length) :
    ∃ F', Sta K B (env.set i (some (false, d))) (σ.set i (some v)) H F' ∧ ∀ a ∈ F', a ∈ F := by
  obtain ⟨F1, Fi, F2, eF, _, g⟩ := S.rel.cut hi
  have sub : ∀ a ∈ F1 ++ F2, a ∈ F := fun a m => by
    rw [eF]
    rcases List.mem_append.mp m with m | m
    · exact List.mem_append_left _ m
    · exact List.mem_append_right _ (List.mem_append_right _ m)
  have ex : Ex (Fz B H F) (Fz B H (F1 ++ F2)) := fz_mk fun b o e m n => ⟨e, fun z => m (sub b z), n⟩
  obtain ⟨_, g2, _⟩ := g H (Fz B H (F1 ++ F2)) ex fun _ _ _ h => h
  have nd := S.nd
  rw [eF] at nd
  refine ⟨F1 ++ F2, ⟨g2 d v (r.mono ex), ?_, fun a m => S.liv a (sub a m), fun b h => ⟨(S.bad b h).1, fun z => (S.bad b h).2 (sub b z)⟩⟩, sub⟩
  have n1 := List.nodup_append.mp nd
  have n2 := List.nodup_append.mp n1.2.1
  exact List.nodup_append.mpr ⟨n1.1, n2.2.1, fun a m b q => n1.2.2 a m b (List.mem_append_right _ q)⟩
/-- a slot gets an owned value -/
theorem StaL.putO {B : Addr → Prop} {env : Env} {σ : St} {H : Hp} {F Fd : List Addr} {d : D} {v : V} (S : StaL K B env σ H F [d] [v] Fd) (hx : Exl d Fd) (hi : i < env.length) :
    ∃ F', Sta K B (env.set i (some (true, d))) (σ.set i (some v)) H F' ∧ ∀ a ∈ F', a ∈ F ++ Fd := by
  obtain ⟨F1, Fi, F2, eF, _, g⟩ := S.rel.cut hi
  have sub : ∀ a ∈ F1 ++ (Fd ++ F2), a ∈ F ++ Fd := fun a m => by
    rw [eF]
    rcases List.mem_append.mp m with m | m
    · exact List.mem_append_left _ (List.mem_append_left _ m)
    · rcases List.mem_append.mp m with m | m
      · exact List.mem_append_right _ m
      · exact List.mem_append_left _ (List.mem_append_right _ (List.mem_append_right _ m))
  have ex : Ex (Fz B H (F ++ Fd)) (Fz B H (F1 ++ (Fd ++ F2))) := fz_mk fun b o e m n => ⟨e, fun z => m (sub b z), n⟩
  obtain ⟨g1, _, _⟩ := g H (Fz B H (F1 ++ (Fd ++ F2))) ex fun _ _ _ h => h
  have nd := S.nd
  have o : Own K H (Fz B H (F ++ Fd)) d v Fd := by
    have := S.own
    cases this with
    | @cons _ _ F' _ _ G' h t =>
      cases t
      rw [List.append_nil]
      rw [List.append_nil] at *
      exact h
  refine ⟨F1 ++ (Fd ++ F2), ⟨g1 d v Fd hx (o.step ex fun _ _ _ h => h), ?_, fun a m => S.liv a (sub a m), fun b h => ⟨(S.bad b h).1, fun z => (S.bad b h).2 (sub b z)⟩⟩, sub⟩
  have n0 := List.nodup_append.mp nd
  have n00 := n0.1
  rw [eF] at n00
  have n1 := List.nodup_append.mp n00
  have n2 := List.nodup_append.mp n1.2.1
  refine List.nodup_append.mpr ⟨n1.1, List.nodup_append.mpr ⟨n0.2.1, n2.2.1, fun a m b q e => ?_⟩, fun a m b q e => ?_⟩
  · subst e
    exact n0.2.2 a (by rw [eF]; exact List.mem_append_right _ (List.mem_append_right _ q)) a m rfl
  · subst e
    rcases List.mem_append.mp q with q | q
    · exact n0.2.2 a (by rw [eF]; exact List.mem_append_left _ m) a q rfl
    · exact n1.2.2 a m a (List.mem_append_right _ q) rfl
theorem es_asgF (h1 : EvE K mg W p te m) (hi : i ∉ ps) : EvS K mg W ps ro (tAsg te (gName i)) (asgF i m) := fun B env σ H F D S h => by
  refine h1 B env σ H F _ S ?_
  unfold asgF at h
  cases em : m env with
  | ok d e =>
    rw [em] at h
    intro v H' F' Fd S' N _
    show D.nx (σ.set i (some v)) H'
    obtain ⟨S2, r⟩ := S'.freeze
    have r1 : Rep K (Fz B H' F') d v := by
      cases r with
      | cons r _ => exact r
    by_cases hl : i < e.length
    · obtain ⟨F2, S3, sub⟩ := S2.putF (i := i) r1 hl
      exact h _ H' F2 S3 (N.weak fun a m => List.mem_append_left _ (sub a m)) (.set hi)
    · have e1 : e.set i (some (false, d)) = e := List.set_eq_of_length_le (by omega)
      have e2 : σ.set i (some v) = σ := List.set_eq_of_length_le (by rw [← S2.lenE]; omega)
      rw [e2]
      dsimp only at h
      rw [e1] at h
      exact h _ H' F' S2 (N.weak fun a m => List.mem_append_left _ m) .refl
  | ex e e2 => rw [em] at h; exact .xs h
  | no => rw [em] at h; exact h
theorem es_asgO (h1 : EvN K mg W p te m) (hi : i ∉ ps) : EvS K mg W ps ro (tAsg te (gName i)) (asgO i m) := fun B env σ H F D S h => by
  refine h1 B env σ H F _ S ?_
  unfold asgO at h
  cases em : m env with
  | ok d e =>
    rw [em] at h
    intro v H' F' Fd S' hx N _
    show D.nx (σ.set i (some v)) H'
    by_cases hl : i < e.length
    · obtain ⟨F2, S3, sub⟩ := S'.putO (i := i) hx hl
      exact h _ H' F2 S3 (N.weak sub) (.set hi)
    · have e1 : e.set i (some (true, d)) = e := List.set_eq_of_length_le (by omega)
      have e2 : σ.set i (some v) = σ := List.set_eq_of_length_le (by rw [← S'.sta.lenE]; omega)
      rw [e2]
      dsimp only at h
      rw [e1] at h
      exact h _ H' F' S'.sta (N.weak fun a m => List.mem_append_left _ m) .refl
  | ex e e2 => rw [em] at h; exact .xs h
  | no => rw [em] at h; exact h
/-- a ghost: the slot is frozen ahead of a statement -/
theorem Sta.frz {B : Addr → Prop} {env : Env} {σ : St} {H : Hp} {F : List Addr} (S : Sta K B env σ H F) (i : Nat) : ∃ F', Sta K B (frzE i env) σ H F' ∧ ∀ a ∈ F', a ∈ F := by
  unfold frzE
  split
  · rename_i k d e
    obtain ⟨hl, _⟩ := List.getElem?_eq_some_iff.mp e
    obtain ⟨F1, Fi, F2, eF, sl, g⟩ := S.rel.cut hl
    have sub : ∀ a ∈ F1 ++ F2, a ∈ F := fun a m => by
      rw [eF]
      rcases List.mem_append.mp m with m | m
      · exact List.mem_append_left _ m
      · exact List.mem_append_right _ (List.mem_append_right _ m)
    have ex : Ex (Fz B H F) (Fz B H (F1 ++ F2)) := fz_mk fun b o e m n => ⟨e, fun z => m (sub b z), n⟩
    have nd := S.nd
    rw [eF] at nd
    have n1 := List.nodup_append.mp nd
    have n2 := List.nodup_append.mp n1.2.1
    cases k with
    | false =>
      refine ⟨F, ?_, fun a m => m⟩
      obtain ⟨hl', e'⟩ := List.getElem?_eq_some_iff.mp e
      have e3 : env.set i (some (false, d)) = env := by
        rw [← e']
        exact List.set_getElem_self hl'
      rw [e3]
      exact S
    | true =>
      obtain ⟨v, hv, _, o⟩ := sl d e
      obtain ⟨_, g2, _⟩ := g H (Fz B H (F1 ++ F2)) ex fun _ _ _ h => h
      have r : Rep K (Fz B H (F1 ++ F2)) d v := o.freeze ex fun a m u hu => by
        rw [fz_in (fun z => ?_) (fun z => (S.bad a z).2 (by rw [eF]; exact List.mem_append_right _ (List.mem_append_left _ m)))]
        · exact hu
        · rcases List.mem_append.mp z with z | z
          · exact n1.2.2 a z a (List.mem_append_left _ m) rfl
          · exact n2.2.2 a m a z rfl
      have g3 := g2 d v r
      rw [set_same hv] at g3
      exact ⟨F1 ++ F2, ⟨g3, List.nodup_append.mpr ⟨n1.1, n2.2.1, fun a m b q => n1.2.2 a m b (List.mem_append_right _ q)⟩, fun a m => S.liv a (sub a m), fun b h => ⟨(S.bad b h).1, fun z => (S.bad b h).2 (sub b z)⟩⟩, sub⟩
  · exact ⟨F, S, fun a m => m⟩
theorem es_frz (i : Nat) (h1 : EvS K mg W ps ro t a) : EvS K mg W ps ro t (frzM i a) := fun B env σ H F D S h => by
  obtain ⟨F', S', sub⟩ := S.frz i
  exact h1 B _ σ H F' D S' (PostS.mono h (fun H2 F2 n => ⟨fun b o e m => n.fr b o e fun z => m (sub b z), fun a m => (n.sub a m).elim (fun z => .inl (sub a z)) .inr⟩) .refl)
/-- while -/
theorem es_while {tt : TT} {mc : M Bool} (n : Nat) (hc : EvB K mg W p tt mc) (hb : EvS K mg W ps ro t a) : EvS K mg W ps ro (tWhile tt t) (whM mc a n) := fun B env σ H F D S h => by
  refine ⟨fun k σ1 H1 => ∃ F1 env1, Sta K B env1 σ1 H1 F1 ∧ Nxt H F H1 F1 ∧ Kp ps σ σ1 ∧ PostS K mg W ps ro B σ1 H1 F1 D (whM mc a k env1), ⟨n, F, env, S, .refl, .refl, h⟩, ?_⟩
  rintro k σ1 H1 ⟨F1, env1, S1, N1, k1, h1⟩
  cases k with
  | zero => exact h1.elim
  | succ k =>
    unfold whM at h1
    refine hc B env1 σ1 H1 F1 _ S1 ?_
    cases em : mc env1 with
    | ok c e =>
      rw [em] at h1
      intro H2 F2 S2 N2 _
      cases c with
      | false =>
        rw [if_neg Bool.false_ne_true]
        exact h1 σ1 H2 F2 S2 N2 .refl
      | true =>
        rw [if_pos rfl]
        dsimp only at h1
        refine ⟨_, fun σ' H' n' => n', hb B e σ1 H2 F2 _ S2 ?_⟩
        have go : ∀ {e3 : Env}, PostS K mg W ps ro B σ1 H1 F1 D (whM mc a k e3) → NxP K ps B σ1 H2 F2 e3 (fun σ' H' => ∃ m', m' < k + 1 ∧ ∃ F1 env1, Sta K B env1 σ' H' F1 ∧ Nxt H F H' F1 ∧ Kp ps σ σ' ∧ PostS K mg W ps ro B σ' H' F1 D (whM mc a m' env1)) := fun {e3} h3 σ' H' F' S' N' kp =>
          ⟨k, Nat.lt_succ_self k, F', e3, S', N1.trans (N2.trans N' fun a m => m) fun a m => m, k1.trans kp, h3.mono (fun _ _ n => N2.trans (N'.trans n fun a m => m) fun a m => m) kp⟩
        cases em2 : a e with
        | nx e3 => rw [em2] at h1; exact go h1
        | ct e3 => rw [em2] at h1; exact go h1
        | bk e3 => rw [em2] at h1; exact fun σ' H' F' S' N' kp => h1 σ' H' F' S' (N2.trans N' fun a m => m) kp
        | rt d e3 => rw [em2] at h1; exact fun v σ' H' F' Fd S' x N' kp => h1 v σ' H' F' Fd S' x (N2.trans N' fun a m => m) kp
        | ex e4 e3 => rw [em2] at h1; exact fun c d σ' H' F' S' N' kp x => h1 c d σ' H' F' S' (N2.trans N' fun a m => m) kp x
        | no => rw [em2] at h1; exact h1
    | ex e e2 => rw [em] at h1; exact .xs h1
    | no => rw [em] at h1; exact h1
end
end MM

set_option Elab.async false
set_option linter.all false
set_option maxRecDepth 100000
set_option maxHeartbeats 4000000
noncomputable section
namespace MM
open PySem PySem.Spec PyProof.Rows L2

theorem nd_swap {F1 Fr Fc Fa F' Fd : List Addr} {l : Addr} (h : ((F1 ++ ((l :: Fc) ++ Fr)) ++ Fa).Nodup) (h1 : (F' ++ Fd).Nodup) (h2 : ∀ a ∈ F' ++ Fd, a ∈ Fc ++ Fa) : ((F1 ++ ((l :: F') ++ Fr)) ++ Fd).Nodup := by
  simp only [List.nodup_append, List.nodup_cons, List.mem_append, List.mem_cons, List.cons_append] at *
  grind
section
variable {K : PySem.W.Frag} {mg : Str → Option Value} {W : WX} {ps : List Nat} {ro : Bool} {p q : Bool} {te : TE} {m : M D} {i : Nat} {tA : TA} {ms : M (List D)}
  {B : Addr → Prop} {env : Env} {σ : St} {H H0 : Hp} {F F0 Fa : List Addr} {as : List D} {us : List V}
theorem Own.top {K : PySem.W.Frag} {H Z : Hp} {ds : List D} {v : V} {F : List Addr} (o : Own K H Z (.lst ds) v F) (x : Exl (.lst ds) F) : ∃ a vs G, v = .ref a ∧ H a = some (.lst vs) ∧ F = a :: G ∧ OwnL K H Z ds vs G := by
  cases o with
  | frz _ => exact (x rfl).elim
  | lst h r => exact ⟨_, _, _, rfl, h, rfl, r⟩
theorem Own.topK {K : PySem.W.Frag} {H Z : Hp} {ds : List (Key × D)} {v : V} {F : List Addr} (o : Own K H Z (.dK ds) v F) (x : Exl (.dK ds) F) : ∃ a vs, v = .ref a ∧ H a = some (.dK vs) ∧ F = [a] ∧ RepK K Z ds vs := by
  cases o with
  | frz _ => exact (x rfl).elim
  | dK h r => exact ⟨_, _, rfl, h, rfl, r⟩
theorem Own.topT {K : PySem.W.Frag} {H Z : Hp} {ds : List (List Key × D)} {v : V} {F : List Addr} (o : Own K H Z (.dT ds) v F) (x : Exl (.dT ds) F) : ∃ a vs, v = .ref a ∧ H a = some (.dT vs) ∧ F = [a] ∧ RepT K Z ds vs := by
  cases o with
  | frz _ => exact (x rfl).elim
  | dT h r => exact ⟨_, _, rfl, h, rfl, r⟩
/-- a mutable slot: its cell, and the slot changed -/
theorem StaL.mutL (S : StaL K B env σ H F as us Fa) {ds : List D} (hi : env[i]? = some (some (true, .lst ds))) : ∃ l vs Fc, σ[i]? = some (some (.ref l)) ∧ H l = some (.lst vs) ∧
    OwnL K H (Fz B H (F ++ Fa)) ds vs Fc ∧ (Fc ++ Fa).Nodup ∧ l ∉ Fc ++ Fa ∧ l ∈ F ∧ ∀ es vs' d v F' Fd, OwnL K H (Fz B H (F ++ Fa)) es vs' F' → Own K H (Fz B H (F ++ Fa)) d v Fd → (F' ++ Fd).Nodup →
      (∀ a ∈ F' ++ Fd, a ∈ Fc ++ Fa) → ∃ F3, StaL K B (env.set i (some (true, .lst es))) σ (upd H l (.lst vs')) F3 [d] [v] Fd ∧ ∀ a ∈ F3 ++ Fd, a ∈ F ++ Fa := by
  obtain ⟨hl, _⟩ := List.getElem?_eq_some_iff.mp hi
  obtain ⟨F1, Fi, F2, eF, sl, g⟩ := S.rel.cut hl
  obtain ⟨v0, hv, x0, o0⟩ := sl _ hi
  obtain ⟨l, vs, Fc, rfl, hH, rfl, oc⟩ := o0.top x0
  have nd := S.nd
  rw [eF] at nd
  have nl : l ∉ F1 ∧ l ∉ F2 ∧ l ∉ Fc ∧ l ∉ Fa := by
    simp only [List.nodup_append, List.nodup_cons, List.mem_append, List.mem_cons, List.cons_append] at nd
    grind
  have lF : l ∈ F := by rw [eF]; simp
  refine ⟨l, vs, Fc, hv, hH, oc, ?_, ?_, lF, fun es vs' d v F' Fd o1 o2 n2 sb => ?_⟩
  · simp only [List.nodup_append, List.nodup_cons, List.mem_append, List.mem_cons, List.cons_append] at *
    grind
  · simp only [List.mem_append, not_or]
    exact ⟨nl.2.2.1, nl.2.2.2⟩
  · have nd3 := nd_swap nd n2 sb
    have sub : ∀ a ∈ (F1 ++ ((l :: F') ++ F2)) ++ Fd, a ∈ F ++ Fa := fun a m => by
      have := sb a
      rw [eF]
      simp only [List.mem_append, List.mem_cons, List.cons_append] at *
      grind
    have lnotF' : l ∉ F' ++ Fd := fun z => by
      have := sb l z
      simp only [List.mem_append] at this
      exact this.elim nl.2.2.1 nl.2.2.2
    have ex : Ex (Fz B H (F ++ Fa)) (Fz B (upd H l (.lst vs')) ((F1 ++ ((l :: F') ++ F2)) ++ Fd)) := fz_mk fun b o e m n => by
      have nb : b ≠ l := fun z => m (by rw [z]; exact List.mem_append_left _ lF)
      exact ⟨by rw [upd_ne nb]; exact e, fun z => m (sub b z), n⟩
    have kp : ∀ a, a ≠ l → ∀ o, H a = some o → (upd H l (.lst vs')) a = some o := fun a n o h => by rw [upd_ne n]; exact h
    obtain ⟨g1, _, _⟩ := g (upd H l (.lst vs')) (Fz B (upd H l (.lst vs')) ((F1 ++ ((l :: F') ++ F2)) ++ Fd)) ex fun a m o h => kp a (fun z => by subst z; exact m.elim nl.1 nl.2.1) o h
    have r1 := g1 (.lst es) (.ref l) (l :: F') (List.cons_ne_nil _ _) (.lst upd_same (o1.step ex fun a m o h => kp a (fun z => by subst z; exact lnotF' (List.mem_append_left _ m)) o h))
    rw [set_same hv] at r1
    refine ⟨F1 ++ ((l :: F') ++ F2), ⟨r1, .one (o2.step ex fun a m o h => kp a (fun z => by subst z; exact lnotF' (List.mem_append_right _ m)) o h), nd3, fun a m => ?_, fun b q => ⟨?_, fun z => (S.bad b q).2 (sub b z)⟩⟩, sub⟩
    · by_cases e : a = l
      · subst e; rw [upd_same]; exact ⟨nofun, nofun, nofun⟩
      · rw [upd_ne e]; exact S.liv a (sub a m)
    · by_cases e : b = l
      · subst e; rw [upd_same]; exact ⟨nofun, nofun, nofun⟩
      · rw [upd_ne e]; exact (S.bad b q).1
theorem Nxt.mut {G G1 : List Addr} {l : Addr} {o : HO} (N : Nxt H0 F0 H G) (hl : l ∈ G) (s : ∀ a ∈ G1, a ∈ G) : Nxt H0 F0 (upd H l o) G1 := by
  refine ⟨fun b u e m => ?_, fun a m => N.sub a (s a m)⟩
  have nb : b ≠ l := fun z => by
    subst z
    exact (N.sub b hl).elim m fun z => by rw [z] at e; cases e
  rw [upd_ne nb]
  exact N.fr b u e m
/-- what a method of a list does to its items -/
def MutL (K : PySem.W.Frag) (r : V → List V → Hp → VK → Prop) (f : List D → List D → Option (List D × D)) : Prop :=
  ∀ H Z l ds vs Fc as us Fa (Q : VK) es d, Ex Z H → H l = some (.lst vs) → OwnL K H Z ds vs Fc → OwnL K H Z as us Fa → (Fc ++ Fa).Nodup → l ∉ Fc ++ Fa → f ds as = some (es, d) →
    (∀ vs' v F' Fd, OwnL K H Z es vs' F' → Own K H Z d v Fd → (F' ++ Fd).Nodup → (∀ a ∈ F' ++ Fd, a ∈ Fc ++ Fa) → Q v (upd H l (.lst vs'))) → r (.ref l) us H Q
def mutM (i : Nat) (f : List D → List D → Option (List D × D)) (ms : M (List D)) : M D := fun env => match env[i]? with
  | some (some (true, .lst _)) => match ms env with
    | .ok as e2 => match e2[i]? with
      | some (some (true, .lst ds)) => match f ds as with
        | some (es, d) => .ok d (e2.set i (some (true, .lst es)))
        | none => .no
      | _ => .no
    | .ex e e2 => .ex e e2
    | .no => .no
  | _ => .no
theorem ev_mut {r : V → List V → Hp → VK → Prop} {f : List D → List D → Option (List D × D)} {t : TE} (hr : MutL K r f) (ha : EvA K mg W p tA ms)
    (ht : ∀ σ H Q, (∃ v, σ[i]? = some (some v) ∧ tyV K "list" v H ∧ tA σ H fun us H1 => r v us H1 Q) → t σ H Q := by exact fun _ _ _ h => h) : EvE K mg W false t (mutM i f ms) := fun B env σ H F Q S h => by
  unfold mutM at h
  split at h
  · rename_i d env' em0
    split at em0
    · rename_i ds0 ei
      obtain ⟨l, vs, Fc, hv, hH, _, _, _, lF, _⟩ := S.nil.mutL ei
      refine ht σ H Q ⟨.ref l, hv, .inl ⟨rfl, vs, .of hH⟩, ha B env σ H F _ S ?_⟩
      split at em0
      · rename_i as e2 em
        try rw [em]
        split at em0
        · rename_i ds ei2
          split at em0
          · rename_i es d' ef
            cases em0
            intro us H2 F2 Fa S2 N2 _
            obtain ⟨l2, vs2, Fc2, hv2, hH2, oc, ndc, nl, lF2, go⟩ := S2.mutL ei2
            rw [hv] at hv2
            cases hv2
            refine hr H2 _ l ds vs2 Fc2 as us Fa Q es d (fz_ex _ _ _) hH2 oc S2.own ndc nl ef fun vs' v F' Fd o1 o2 n2 sb => ?_
            obtain ⟨F3, S3, s3⟩ := go es vs' d v F' Fd o1 o2 n2 sb
            exact h v _ F3 Fd S3 (N2.mut (List.mem_append_left _ lF2) s3) (fun z => nomatch z)
          · cases em0
        · cases em0
      · cases em0
      · cases em0
    · cases em0
  · rename_i e env' em0
    split at em0
    · rename_i ds0 ei
      obtain ⟨l, vs, Fc, hv, hH, _, _, _, lF, _⟩ := S.nil.mutL ei
      refine ht σ H Q ⟨.ref l, hv, .inl ⟨rfl, vs, .of hH⟩, ha B env σ H F _ S ?_⟩
      split at em0
      · split at em0
        · split at em0 <;> cases em0
        · cases em0
      · rename_i e' e2 em
        try rw [em]
        cases em0
        exact h
      · cases em0
    · cases em0
  · exact h.elim

/-! ### the methods of lists -/
theorem OwnL.snoc {K : PySem.W.Frag} {H Z : Hp} {ds : List D} {vs : List V} {F G : List Addr} {d : D} {v : V} (h : OwnL K H Z ds vs F) (o : Own K H Z d v G) : OwnL K H Z (ds ++ [d]) (vs ++ [v]) (F ++ G) := h.append (.one o)
theorem OwnL.one_inv {K : PySem.W.Frag} {H Z : Hp} {d : D} {vs : List V} {F : List Addr} (h : OwnL K H Z [d] vs F) : ∃ v, vs = [v] ∧ Own K H Z d v F := by
  cases h with
  | cons h t =>
    cases t
    rw [List.append_nil]
    exact ⟨_, rfl, h⟩
def appendF (ds as : List D) : Option (List D × D) := match as with
  | [d] => haveI : Decidable (ds.length < sizeLine) := Classical.propDecidable _; if ds.length < sizeLine then some (ds ++ [d], .non) else none
  | _ => none
theorem mut_append : MutL K rAppend appendF := fun H Z l ds vs Fc as us Fa Q es d ez hH oc oa nd nl ef q => by
  unfold appendF at ef
  split at ef
  · rename_i d'
    split at ef
    · rename_i hz
      cases ef
      obtain ⟨v, rfl, o⟩ := oa.one_inv
      exact ⟨l, vs, v, rfl, rfl, hH, by rw [← oc.length]; exact hz, q (vs ++ [v]) .non (Fc ++ Fa) [] (oc.snoc o) (.frz .non) (by rw [List.append_nil]; exact nd) fun a m => by rwa [List.append_nil] at m⟩
    · cases ef
  · cases ef
def extendF (ds as : List D) : Option (List D × D) := match as with
  | [.lst xs] => haveI : Decidable (ds.length + xs.length ≤ sizeLine) := Classical.propDecidable _; if ds.length + xs.length ≤ sizeLine then some (ds ++ xs, .non) else none
  | _ => none
/-- a list's cell and its items, own or frozen -/
theorem Own.items {K : PySem.W.Frag} {H Z : Hp} {ds : List D} {v : V} {F : List Addr} (ez : Ex Z H) (o : Own K H Z (.lst ds) v F) : ∃ a vs G, v = .ref a ∧ H a = some (.lst vs) ∧ OwnL K H Z ds vs G ∧ G.Sublist F := by
  cases o with
  | frz r =>
    cases r with
    | lst h r => exact ⟨_, _, [], rfl, ez _ _ h, .of_rep r, List.nil_sublist _⟩
  | lst h r => exact ⟨_, _, _, rfl, h, r, List.sublist_cons_self _ _⟩
theorem mut_extend : MutL K rExtend extendF := fun H Z l ds vs Fc as us Fa Q es d ez hH oc oa nd nl ef q => by
  unfold extendF at ef
  split at ef
  · rename_i xs
    split at ef
    · rename_i hz
      cases ef
      obtain ⟨v, rfl, o⟩ := oa.one_inv
      obtain ⟨a, ws, G, rfl, ha, og, sl⟩ := o.items ez
      refine ⟨l, a, vs, ws, rfl, rfl, hH, ha, by rw [← oc.length, ← og.length]; exact hz, q (vs ++ ws) .non (Fc ++ G) [] (oc.append og) (.frz .non) ?_ fun b m => ?_⟩
      · rw [List.append_nil]
        exact nd.sublist (List.Sublist.append_left sl _)
      · rw [List.append_nil] at m
        rcases List.mem_append.mp m with m | m
        · exact List.mem_append_left _ m
        · exact List.mem_append_right _ (sl.subset m)
    · cases ef
  · cases ef
def popF (ds as : List D) : Option (List D × D) := match as with
  | [] => match ds[ds.length - 1]? with
    | some d => some (ds.dropLast, d)
    | none => none
  | _ => none
theorem OwnL.erase {K : PySem.W.Frag} {H Z : Hp} : ∀ {ds : List D} {vs : List V} {F : List Addr} {k : Nat} {d : D}, OwnL K H Z ds vs F → ds[k]? = some d → ∃ v F' Fd, vs[k]? = some v ∧ OwnL K H Z (ds.eraseIdx k) (vs.eraseIdx k) F' ∧ Own K H Z d v Fd ∧ (F' ++ Fd).Perm F
  | _, _, _, 0, _, .cons (F := F0) (G := G0) h t, e => by
    cases e
    exact ⟨_, G0, F0, rfl, t, h, List.perm_append_comm⟩
  | _, _, _, k + 1, _, .cons (F := F0) (G := G0) h t, e => by
    obtain ⟨v, F', Fd, h1, h2, h3, h4⟩ := OwnL.erase (k := k) t e
    refine ⟨v, F0 ++ F', Fd, h1, .cons h h2, h3, ?_⟩
    rw [List.append_assoc]
    exact h4.append_left F0
theorem mut_pop : MutL K rPop popF := fun H Z l ds vs Fc as us Fa Q es d ez hH oc oa nd nl ef q => by
  unfold popF at ef
  split at ef
  · split at ef
    · rename_i d' ed
      cases ef
      cases oa
      obtain ⟨v, F', Fd, h1, h2, h3, h4⟩ := oc.erase ed
      have hl := oc.length
      refine ⟨l, vs, v, rfl, rfl, hH, by rw [← hl]; exact h1, ?_⟩
      have e1 : vs.eraseIdx (ds.length - 1) = vs.dropLast := by rw [hl, List.eraseIdx_length_sub_one]
      have e2 : ds.eraseIdx (ds.length - 1) = ds.dropLast := List.eraseIdx_length_sub_one
      rw [e1, e2] at h2
      rw [List.append_nil] at nd
      exact q _ v F' Fd h2 h3 (h4.nodup_iff.mpr nd) fun a m => by rw [List.append_nil]; exact h4.mem_iff.mp m
    · cases ef
  · cases ef
def popAtF (ds as : List D) : Option (List D × D) := match as with
  | [.int i] => haveI : Decidable (-(2 ^ 63) ≤ i ∧ i < 2 ^ 63) := Classical.propDecidable _; if -(2 ^ 63) ≤ i ∧ i < 2 ^ 63 then match seqIndex? i ds.length with
    | some k => match ds[k]? with
      | some d => some (ds.eraseIdx k, d)
      | none => none
    | none => none
    else none
  | _ => none
theorem mut_popAt : MutL K rPopAt popAtF := fun H Z l ds vs Fc as us Fa Q es d ez hH oc oa nd nl ef q => by
  unfold popAtF at ef
  split at ef
  · rename_i j
    split at ef
    · rename_i hb
      split at ef
      · rename_i k ek
        split at ef
        · rename_i d' ed
          cases ef
          obtain ⟨v1, rfl, o⟩ := oa.one_inv
          have e1 : v1 = .int j := by
            have := o.imm rfl
            cases this
            rfl
          subst e1
          obtain ⟨v, F', Fd, h1, h2, h3, h4⟩ := oc.erase ed
          refine ⟨l, vs, j, k, v, rfl, rfl, hH, hb.1, hb.2, by rw [← oc.length]; exact ek, h1, ?_⟩
          exact q _ v F' Fd h2 h3 (h4.nodup_iff.mpr (List.nodup_append.mp nd).1) fun a m => List.mem_append_left _ (h4.mem_iff.mp m)
        · cases ef
      · cases ef
    · cases ef
  · cases ef
def reverseF (ds as : List D) : Option (List D × D) := match as with
  | [] => some (ds.reverse, .non)
  | _ => none
theorem OwnL.reverse {K : PySem.W.Frag} {H Z : Hp} : ∀ {ds : List D} {vs : List V} {F : List Addr}, OwnL K H Z ds vs F → ∃ F', OwnL K H Z ds.reverse vs.reverse F' ∧ F'.Perm F
  | _, _, _, .nil => ⟨[], .nil, .refl _⟩
  | _, _, _, .cons (F := F0) (G := G0) h t => by
    obtain ⟨F', h1, h2⟩ := OwnL.reverse t
    rw [List.reverse_cons, List.reverse_cons]
    exact ⟨F' ++ F0, h1.snoc h, (h2.append_right F0).trans List.perm_append_comm⟩
theorem mut_reverse : MutL K rReverse reverseF := fun H Z l ds vs Fc as us Fa Q es d ez hH oc oa nd nl ef q => by
  unfold reverseF at ef
  split at ef
  · cases ef
    cases oa
    obtain ⟨F', h1, h2⟩ := oc.reverse
    rw [List.append_nil] at nd
    exact ⟨l, vs, rfl, rfl, hH, q _ .non F' [] h1 (.frz .non) (by rw [List.append_nil]; exact h2.nodup_iff.mpr nd) fun a m => by rw [List.append_nil] at m; exact List.mem_append_left _ (h2.mem_iff.mp m)⟩
  · cases ef
def clearF (ds as : List D) : Option (List D × D) := match as with
  | [] => some ([], .non)
  | _ => none
theorem mut_clear : MutL K rClear clearF := fun H Z l ds vs Fc as us Fa Q es d ez hH oc oa nd nl ef q => by
  unfold clearF at ef
  split at ef
  · cases ef
    cases oa
    exact ⟨l, vs, rfl, rfl, hH, q [] .non [] [] .nil (.frz .non) .nil fun a m => nomatch m⟩
  · cases ef
end
end MM

set_option Elab.async false
set_option linter.all false
set_option maxRecDepth 100000
set_option maxHeartbeats 4000000
noncomputable section
namespace MM
open PySem PySem.Spec PyProof.Rows L2

/-! ### rules by values, joined -/
section
variable {X : Cx}
theorem opor {f : Value → Value → Sem Value} {r r' : R2} (h : OpR X f r) (h' : OpR X f r') : OpR X f (fun x y H Q => r x y H Q ∨ r' x y H Q) := by
  intro pins s σ H x y v u Q I rx ry q
  rcases q with q | q
  · exact h pins s σ H x y v u Q I rx ry q
  · exact h' pins s σ H x y v u Q I rx ry q
def rIxD : R2 := fun x y H Q => ∃ a v, x = .ref a ∧ DGet H a y (some v) ∧ Q v H
theorem ix_dict (hu : X.A.units + 1 < cLine) : IxR X rIxD := by
  intro value slice pins s σ H x y v u Q I rx ry h hs
  obtain ⟨a, z, rfl, g, q⟩ := h
  obtain rfl : v = Value.ref a := rx
  have hT := dict_typeIs I g
  unfold subscriptTail
  refine wpAny_bind ?_
  rw [getitemInPython_of_ne hT.not_modules]
  refine wpAny_bind (wpAny_specialOf hT PySem.F.slot_dict_getitem.lookup ?_)
  have fin : wpAny (model X.prog X.w) X.A (subscripted slice false (.ref a) u) (fun r s₃ => wpAny (model X.prog X.w) X.A (letTemporaryGo value (.ref a) r >>= fun _ => pure r) (EP X pins σ Q) X.xe s₃) X.xe s := by
    rw [hs]
    exact wpAny_operating (d_getItem hu I g ry fun w' s3 I3 rw' => wpAny_bind (wpAny_letTemporaryGo (wpAny_pure ⟨z, H, I3, rw', q⟩)))
  first
    | exact wpAny_pure (wpAny_bind fin)
    | exact wpAny_bind (wpAny_pure (wpAny_bind fin))
    | exact wpAny_bind fin
def rSetD : TSet := fun o i v H Q => ∃ a H', o = .ref a ∧ DPut H a i v H' ∧ Q H'
theorem set_dict (hu : X.A.units + 1 < cLine) : PSet X rSetD := by
  intro pins s σ H o i v ov iv u Q I ro ri rv h
  obtain ⟨a, H', rfl, g, q⟩ := h
  obtain rfl : ov = Value.ref a := ro
  exact d_setItem hu I g ri rv fun s' I' => ⟨H', I', q⟩
def rSetAny : TSet := fun o i v H Q => rSetL o i v H Q ∨ rSetD o i v H Q
theorem set_any (hu : X.A.units + 1 < cLine) : PSet X rSetAny := by
  intro pins s σ H o i v ov iv u Q I ro ri rv h
  rcases h with h | h
  · exact set_list pins s σ H o i v ov iv u Q I ro ri rv h
  · exact set_dict hu pins s σ H o i v ov iv u Q I ro ri rv h
def rInDic (neg : Bool) : R2 := fun x y H Q => ∃ a o, y = .ref a ∧ DGet H a x o ∧ Q (.bl (if neg then !o.isSome else o.isSome)) H
theorem op_inDic (hu : X.A.units + 1 < cLine) : OpR X (compareOp .In) (rInDic false) := by
  intro pins s σ H x y v u Q I rx ry h
  obtain ⟨a, o, rfl, g, q⟩ := h
  obtain rfl : u = Value.ref a := ry
  exact d_in hu I g rx fun s' I' => ⟨.bl o.isSome, H, I', rfl, q⟩
theorem op_notInDic (hu : X.A.units + 1 < cLine) : OpR X (compareOp .NotIn) (rInDic true) := by
  intro pins s σ H x y v u Q I rx ry h
  obtain ⟨a, o, rfl, g, q⟩ := h
  obtain rfl : u = Value.ref a := ry
  exact d_notIn hu I g rx fun s' I' => ⟨.bl (!o.isSome), H, I', rfl, q⟩
def rIxAny (K : PySem.W.Frag) : R2 := fun x y H Q => rIx K x y H Q ∨ rIxD x y H Q
theorem ix_any (hu : X.A.units + 1 < cLine) : IxR X (rIxAny X.K) := ix_seq.or (ix_dict hu)
def rInAny (K : PySem.W.Frag) (neg : Bool) : R2 := fun x y H Q => rInDic neg x y H Q ∨ rIn K neg x y H Q
theorem op_inAny (hu : X.A.units + 1 < cLine) : OpR X (compareOp .In) (rInAny X.K false) := opor (op_inDic hu) op_in_seq
theorem op_notInAny (hu : X.A.units + 1 < cLine) : OpR X (compareOp .NotIn) (rInAny X.K true) := opor (op_notInDic hu) op_notIn_seq
end

/-! ### keys -/
def keyD : D → Option Key
  | .int i => some (.inl i)
  | .str x => some (.inr x)
  | _ => none
def keysD : List D → Option (List Key)
  | [] => some []
  | d :: ds => match keyD d, keysD ds with
    | some k, some ks => some (k :: ks)
    | _, _ => none
def valG {κ α : Type} [DecidableEq κ] (kvs : List (κ × α)) (k : κ) : Option α := (kvs.find? fun kv => decide (kv.1 = k)).map (·.2)
def putG {κ α : Type} [DecidableEq κ] (kvs : List (κ × α)) (k : κ) (v : α) : List (κ × α) :=
  if (kvs.any fun kv => decide (kv.1 = k)) = true then kvs.map (fun kv => if kv.1 = k then (kv.1, v) else kv) else kvs ++ [(k, v)]
section
variable {K : PySem.W.Frag} {Z H : Hp}
theorem keyD_rep {d : D} {v : V} {k : Key} (r : Rep K Z d v) (e : keyD d = some k) : v = kV k := by
  cases r <;> first | (cases e; rfl) | (simp [keyD] at e)
theorem keysD_rep : ∀ {ds : List D} {vs : List V} {ks : List Key}, RepL K Z ds vs → keysD ds = some ks → vs = ks.map kV
  | _, _, _, .nil, e => by cases e; rfl
  | _, _, _, .cons h t, e => by
    unfold keysD at e
    split at e
    · rename_i k ks e1 e2
      cases e
      rw [keyD_rep h e1, keysD_rep t e2]
      rfl
    · cases e
theorem RepK.val {k : Key} : ∀ {kvs : List (Key × D)} {kws : List (Key × V)}, RepK K Z kvs kws → (valG kvs k = none ∧ valV kws k = none) ∨ ∃ d v, valG kvs k = some d ∧ valV kws k = some v ∧ Rep K Z d v
  | _, _, .nil => .inl ⟨rfl, rfl⟩
  | _, _, .cons (k := k0) (d := d0) (v := v0) (ds := ds) (vs := vs) h t => by
    by_cases e : k0 = k
    · exact .inr ⟨d0, v0, by simp [valG, List.find?_cons, e], by simp [valV, List.find?_cons, e], h⟩
    · have e1 : valG ((k0, d0) :: ds) k = valG ds k := by simp [valG, List.find?_cons, e]
      have e2 : valV ((k0, v0) :: vs) k = valV vs k := by simp [valV, List.find?_cons, e]
      rw [e1, e2]
      exact RepK.val t
theorem RepT.val {k : List Key} : ∀ {kvs : List (List Key × D)} {kws : List (List Key × V)}, RepT K Z kvs kws → (valG kvs k = none ∧ valV kws k = none) ∨ ∃ d v, valG kvs k = some d ∧ valV kws k = some v ∧ Rep K Z d v
  | _, _, .nil => .inl ⟨rfl, rfl⟩
  | _, _, .cons (k := k0) (d := d0) (v := v0) (ds := ds) (vs := vs) h t => by
    by_cases e : k0 = k
    · exact .inr ⟨d0, v0, by simp [valG, List.find?_cons, e], by simp [valV, List.find?_cons, e], h⟩
    · have e1 : valG ((k0, d0) :: ds) k = valG ds k := by simp [valG, List.find?_cons, e]
      have e2 : valV ((k0, v0) :: vs) k = valV vs k := by simp [valV, List.find?_cons, e]
      rw [e1, e2]
      exact RepT.val t
theorem RepK.any {k : Key} : ∀ {kvs : List (Key × D)} {kws : List (Key × V)}, RepK K Z kvs kws → (kvs.any fun kv => decide (kv.1 = k)) = kws.any fun kv => decide (kv.1 = k)
  | _, _, .nil => rfl
  | _, _, .cons h t => by rw [List.any_cons, List.any_cons, RepK.any t]
theorem RepT.any {k : List Key} : ∀ {kvs : List (List Key × D)} {kws : List (List Key × V)}, RepT K Z kvs kws → (kvs.any fun kv => decide (kv.1 = k)) = kws.any fun kv => decide (kv.1 = k)
  | _, _, .nil => rfl
  | _, _, .cons h t => by rw [List.any_cons, List.any_cons, RepT.any t]
theorem RepK.setAll {k : Key} {d : D} {v : V} (r : Rep K Z d v) : ∀ {kvs : List (Key × D)} {kws : List (Key × V)}, RepK K Z kvs kws → RepK K Z (kvs.map fun kv => if kv.1 = k then (kv.1, d) else kv) (kws.map fun kv => if kv.1 = k then (kv.1, v) else kv)
  | _, _, .nil => .nil
  | _, _, .cons (k := k0) h t => by
    rw [List.map_cons, List.map_cons]
    dsimp only
    split
    · exact .cons r (RepK.setAll r t)
    · exact .cons h (RepK.setAll r t)
theorem RepT.setAll {k : List Key} {d : D} {v : V} (r : Rep K Z d v) : ∀ {kvs : List (List Key × D)} {kws : List (List Key × V)}, RepT K Z kvs kws → RepT K Z (kvs.map fun kv => if kv.1 = k then (kv.1, d) else kv) (kws.map fun kv => if kv.1 = k then (kv.1, v) else kv)
  | _, _, .nil => .nil
  | _, _, .cons (k := k0) h t => by
    rw [List.map_cons, List.map_cons]
    dsimp only
    split
    · exact .cons r (RepT.setAll r t)
    · exact .cons h (RepT.setAll r t)
theorem RepK.snoc {k : Key} {d : D} {v : V} (r : Rep K Z d v) : ∀ {kvs : List (Key × D)} {kws : List (Key × V)}, RepK K Z kvs kws → RepK K Z (kvs ++ [(k, d)]) (kws ++ [(k, v)])
  | _, _, .nil => .cons r .nil
  | _, _, .cons h t => .cons h (RepK.snoc r t)
theorem RepT.snoc {k : List Key} {d : D} {v : V} (r : Rep K Z d v) : ∀ {kvs : List (List Key × D)} {kws : List (List Key × V)}, RepT K Z kvs kws → RepT K Z (kvs ++ [(k, d)]) (kws ++ [(k, v)])
  | _, _, .nil => .cons r .nil
  | _, _, .cons h t => .cons h (RepT.snoc r t)
theorem RepK.put {k : Key} {d : D} {v : V} (r : Rep K Z d v) {kvs : List (Key × D)} {kws : List (Key × V)} (h : RepK K Z kvs kws) : RepK K Z (putG kvs k d) (putK kws k v) := by
  unfold putG putK
  rw [h.any]
  split
  · exact h.setAll r
  · exact h.snoc r
theorem RepT.put {k : List Key} {d : D} {v : V} (r : Rep K Z d v) {kvs : List (List Key × D)} {kws : List (List Key × V)} (h : RepT K Z kvs kws) : RepT K Z (putG kvs k d) (putK kws k v) := by
  unfold putG putK
  rw [h.any]
  split
  · exact h.setAll r
  · exact h.snoc r
theorem RepK.length : ∀ {kvs : List (Key × D)} {kws : List (Key × V)}, RepK K Z kvs kws → kvs.length = kws.length
  | _, _, .nil => rfl
  | _, _, .cons h t => by rw [List.length_cons, List.length_cons, RepK.length t]
theorem RepT.length : ∀ {kvs : List (List Key × D)} {kws : List (List Key × V)}, RepT K Z kvs kws → kvs.length = kws.length
  | _, _, .nil => rfl
  | _, _, .cons h t => by rw [List.length_cons, List.length_cons, RepT.length t]
end
/-- what a dict answers at a key: none where the key is of no use -/
def getD2 (d k : D) : Option (Option D) := match d with
  | .dK kvs => match keyD k with
    | some k => some (valG kvs k)
    | none => none
  | .dT kvs => match k with
    | .tup ks => match keysD ks with
      | some k => some (valG kvs k)
      | none => none
    | _ => none
  | _ => none
section
variable {K : PySem.W.Frag} {Z H : Hp}
theorem getD2_get {d k : D} {x y : V} {r : Option D} (rx : Rep K Z d x) (ry : Rep K Z k y) (e : getD2 d k = some r) : ∃ a o, x = .ref a ∧ DGet Z a y o ∧ ((r = none ∧ o = none) ∨ ∃ d v, r = some d ∧ o = some v ∧ Rep K Z d v) := by
  unfold getD2 at e
  split at e
  · split at e
    · rename_i kvs k' k2 ek
      cases e
      cases rx with
      | dK h r =>
        rw [keyD_rep ry ek]
        refine ⟨_, _, rfl, .inl ⟨_, _, .inl h, rfl, rfl⟩, ?_⟩
        rcases r.val (k := k2) with ⟨e1, e2⟩ | ⟨d, v, e1, e2, r⟩
        · exact .inl ⟨e1, e2⟩
        · exact .inr ⟨d, v, e1, e2, r⟩
    · cases e
  · split at e
    · rename_i kvs k' ks
      split at e
      · rename_i k2 ek
        cases e
        cases rx with
        | dT h r =>
          cases ry with
          | tup hb rb =>
            rw [keysD_rep rb ek] at hb
            refine ⟨_, _, rfl, .inr ⟨_, _, _, .inl h, rfl, hb, rfl⟩, ?_⟩
            rcases r.val (k := k2) with ⟨e1, e2⟩ | ⟨d, v, e1, e2, r⟩
            · exact .inl ⟨e1, e2⟩
            · exact .inr ⟨d, v, e1, e2, r⟩
      · cases e
    · cases e
  · cases e
theorem dget_mono {Z H : Hp} {a : Addr} {y : V} {o : Option V} (e : Ex Z H) (g : DGet Z a y o) : DGet H a y o := by
  rcases g with ⟨kvs, k, h, e1, e2⟩ | ⟨kvs, k, b, h, e1, hb, e2⟩
  · exact .inl ⟨kvs, k, h.elim (fun h => .inl (e _ _ h)) fun ⟨o, h⟩ => .inr ⟨o, e _ _ h⟩, e1, e2⟩
  · exact .inr ⟨kvs, k, b, h.elim (fun h => .inl (e _ _ h)) fun ⟨o, h⟩ => .inr ⟨o, e _ _ h⟩, e1, e _ _ hb, e2⟩
end

/-! ### the operations on data -/
def two (r : R2) : List V → Hp → VK → Prop := fun vs H Q => match vs with
  | [x, y] => r x y H Q
  | _ => False
def one (r : V → Hp → VK → Prop) : List V → Hp → VK → Prop := fun vs H Q => match vs with
  | [x] => r x H Q
  | _ => False
theorem RepL.two_inv {K : PySem.W.Frag} {Z : Hp} {a b : D} {vs : List V} (h : RepL K Z [a, b] vs) : ∃ x y, vs = [x, y] ∧ Rep K Z a x ∧ Rep K Z b y := by
  cases h with
  | cons h t =>
    cases t with
    | cons h2 t =>
      cases t
      exact ⟨_, _, rfl, h, h2⟩
theorem RepL.one_inv {K : PySem.W.Frag} {Z : Hp} {a : D} {vs : List V} (h : RepL K Z [a] vs) : ∃ x, vs = [x] ∧ Rep K Z a x := by
  cases h with
  | cons h t =>
    cases t
    exact ⟨_, rfl, h⟩
section
variable {K : PySem.W.Frag}
def ixF : List D → Option D
  | [.lst ds, .int i] => atI ds i
  | [.tup ds, .int i] => atI ds i
  | [.scr ns, .int i] => (atI ns i).map .int
  | [.str z, .int i] => haveI : Decidable (z.length ≤ sizeLine) := Classical.propDecidable _; if z.length ≤ sizeLine then (atI z.cps.toList i).map fun c => .str ⟨#[c]⟩ else none
  | [d, k] => match getD2 d k with
    | some r => r
    | none => none
  | _ => none
theorem atI_repL {Z : Hp} {ds : List D} {vs : List V} {i : Int} {d : D} (r : RepL K Z ds vs) (e : atI ds i = some d) : ∃ v, atI vs i = some v ∧ Rep K Z d v := by
  unfold atI at e ⊢
  rw [← r.length]
  cases ej : ixN ds.length i with
  | none => rw [ej] at e; cases e
  | some j =>
    rw [ej] at e
    exact r.get (i := j) e
theorem ix_core (Z H : Hp) (ds : List D) (vs : List V) (Q : VK) (d : D) (ez : Ex Z H) (R : RepL K Z ds vs) (ef : ixF ds = some d) (q : ∀ v, Rep K Z d v → Q v H) : two (rIxAny K) vs H Q := by
  unfold ixF at ef
  split at ef
  · rename_i ds i
    obtain ⟨x, y, rfl, rx, ry⟩ := R.two_inv
    cases ry
    cases rx with
    | lst h r =>
      obtain ⟨v, ev, rv⟩ := atI_repL r ef
      exact .inl (.inl ⟨_, _, i, v, rfl, rfl, .of (ez _ _ h), ev, q v rv⟩)
  · rename_i ds i
    obtain ⟨x, y, rfl, rx, ry⟩ := R.two_inv
    cases ry
    cases rx with
    | tup h r =>
      obtain ⟨v, ev, rv⟩ := atI_repL r ef
      exact .inl (.inr (.inl ⟨_, _, i, v, rfl, rfl, .of (ez _ _ h), ev, q v rv⟩))
  · rename_i ns i
    obtain ⟨x, y, rfl, rx, ry⟩ := R.two_inv
    cases ry
    cases rx with
    | scr h =>
      cases en : atI ns i with
      | none => rw [en] at ef; cases ef
      | some n =>
        rw [en] at ef
        cases ef
        refine .inl (.inl ⟨_, _, i, .int n, rfl, rfl, sql_mono ez h, ?_, q _ (.int n)⟩)
        unfold atI at en ⊢
        rw [List.length_map]
        cases ej : ixN ns.length i with
        | none => rw [ej] at en; cases en
        | some j =>
          rw [ej] at en
          have en' : ns[j]? = some n := en
          show (ns.map V.int)[j]? = _
          rw [List.getElem?_map, en']
          rfl
  · rename_i z i
    obtain ⟨x, y, rfl, rx, ry⟩ := R.two_inv
    cases ry
    cases rx
    split at ef
    · rename_i hz
      cases ec : atI z.cps.toList i with
      | none => rw [ec] at ef; cases ef
      | some c =>
        rw [ec] at ef
        cases ef
        exact .inl (.inr (.inr ⟨z, i, c, rfl, rfl, hz, ec, q _ (.str _)⟩))
    · cases ef
  · rename_i d1 k1 _ _ _ _
    obtain ⟨x, y, rfl, rx, ry⟩ := R.two_inv
    cases eg : getD2 d1 k1 with
    | none => rw [eg] at ef; cases ef
    | some r =>
      rw [eg] at ef
      dsimp only at ef
      subst ef
      obtain ⟨a, o, rfl, g, h⟩ := getD2_get rx ry eg
      rcases h with ⟨h, _⟩ | ⟨d', v, e1, e2, rv⟩
      · cases h
      · cases e1
        subst e2
        exact .inr ⟨a, v, rfl, dget_mono ez g, q v rv⟩
  · cases ef
theorem g_ix : OpG K (two (rIxAny K)) ixF := fun Z H ds vs Q d ez R ef q _ _ _ _ => ix_core Z H ds vs Q d ez R ef q
def subF : List D → Option D
  | [.int i, .int j] => some (.int (i - j))
  | _ => none
theorem s_sub : OpS K (two (rI0 fun i j => .int (i - j))) subF := fun H ds vs Q d R ef q => by
  unfold subF at ef
  split at ef
  · obtain ⟨x, y, rfl, rx, ry⟩ := R.two_inv
    cases rx; cases ry; cases ef
    exact ⟨_, _, rfl, rfl, q _ (.int _)⟩
  · cases ef
def mulOk (i j : Int) : Bool := decide (i.natAbs < 2 ^ 64) || decide (j.natAbs < 2 ^ 64) || (decide (i.natAbs < 2 ^ 400000) && decide (j.natAbs < 2 ^ 400000))
def fdivF : List D → Option D
  | [.int i, .int j] => haveI : Decidable (j ≠ 0 ∧ j.natAbs < 1073741824) := Classical.propDecidable _; if j ≠ 0 ∧ j.natAbs < 1073741824 then some (.int (i.fdiv j)) else none
  | _ => none
theorem s_fdiv : OpS K (two (rI CDivN fun i j => .int (i.fdiv j))) fdivF := fun H ds vs Q d R ef q => by
  unfold fdivF at ef
  split at ef
  · obtain ⟨x, y, rfl, rx, ry⟩ := R.two_inv
    split at ef
    · rename_i hc
      cases rx; cases ry; cases ef
      exact ⟨_, _, rfl, rfl, hc, q _ (.int _)⟩
    · cases ef
  · cases ef
def modF : List D → Option D
  | [.int i, .int j] => if j ≠ 0 then some (.int (i.fmod j)) else none
  | _ => none
theorem s_mod : OpS K (two (rI (fun _ j => j ≠ 0) fun i j => .int (i.fmod j))) modF := fun H ds vs Q d R ef q => by
  unfold modF at ef
  split at ef
  · obtain ⟨x, y, rfl, rx, ry⟩ := R.two_inv
    split at ef
    · rename_i hc
      cases rx; cases ry; cases ef
      exact ⟨_, _, rfl, rfl, hc, q _ (.int _)⟩
    · cases ef
  · cases ef
def powF : List D → Option D
  | [.int i, .int j] => haveI : Decidable (0 ≤ j ∧ j ≤ 1000000 ∧ i.natAbs < 2 ^ 64) := Classical.propDecidable _; if 0 ≤ j ∧ j ≤ 1000000 ∧ i.natAbs < 2 ^ 64 then some (.int (i ^ j.toNat)) else none
  | _ => none
theorem s_pow : OpS K (two (rI CPow fun i j => .int (i ^ j.toNat))) powF := fun H ds vs Q d R ef q => by
  unfold powF at ef
  split at ef
  · obtain ⟨x, y, rfl, rx, ry⟩ := R.two_inv
    split at ef
    · rename_i hc
      cases rx; cases ry; cases ef
      exact ⟨_, _, rfl, rfl, hc, q _ (.int _)⟩
    · cases ef
  · cases ef
def negF : List D → Option D
  | [.int i] => some (.int (-i))
  | _ => none
theorem s_neg : OpS K (one (rU fun i => .int (-i))) negF := fun H ds vs Q d R ef q => by
  unfold negF at ef
  split at ef
  · obtain ⟨x, rfl, rx⟩ := R.one_inv
    cases rx; cases ef
    exact ⟨_, rfl, q _ (.int _)⟩
  · cases ef
/-- ints, texts, lists, tuples -/
def rAddAny (K : PySem.W.Frag) : R2 := fun x y H Q => rI0 (fun i j => .int (i + j)) x y H Q ∨ ((∃ i j, x = .str i ∧ y = .str j ∧ i.length + j.length ≤ sizeLine ∧ Q (.str (i ++ j)) H) ∨ (rCat x y H Q ∨ rCatA K x y H Q))
theorem op_addAny {X : Cx} : OpR X (binaryOp .Add) (rAddAny X.K) := opor op_add (opor op_add_str (opor op_cat op_catA))
def addF : List D → Option D
  | [.int i, .int j] => some (.int (i + j))
  | [.str i, .str j] => haveI : Decidable (i.length + j.length ≤ sizeLine) := Classical.propDecidable _; if i.length + j.length ≤ sizeLine then some (.str (i ++ j)) else none
  | [.lst i, .lst j] => haveI : Decidable (i.length + j.length ≤ sizeLine) := Classical.propDecidable _; if i.length + j.length ≤ sizeLine then some (.lst (i ++ j)) else none
  | [.tup i, .tup j] => haveI : Decidable (i.length + j.length ≤ sizeLine) := Classical.propDecidable _; if i.length + j.length ≤ sizeLine then some (.tup (i ++ j)) else none
  | _ => none
theorem g_add : OpN K (two (rAddAny K)) addF := fun Z H ds vs Q d ez R ef q ql qt => by
  unfold addF at ef
  split at ef
  · obtain ⟨x, y, rfl, rx, ry⟩ := R.two_inv
    cases rx; cases ry; cases ef
    exact .inl ⟨_, _, rfl, rfl, q _ (.int _) trivial⟩
  · obtain ⟨x, y, rfl, rx, ry⟩ := R.two_inv
    split at ef
    · rename_i hc
      cases rx; cases ry; cases ef
      exact .inr (.inl ⟨_, _, rfl, rfl, hc, q _ (.str _) trivial⟩)
    · cases ef
  · obtain ⟨x, y, rfl, rx, ry⟩ := R.two_inv
    split at ef
    · rename_i hc
      cases ef
      cases rx with
      | lst h1 r1 =>
        cases ry with
        | lst h2 r2 =>
          exact .inr (.inr (.inl ⟨_, _, _, _, rfl, rfl, ez _ _ h1, ez _ _ h2, by rw [← r1.length, ← r2.length]; exact hc, fun p hp => ql _ p _ rfl hp (r1.append r2)⟩))
    · cases ef
  · obtain ⟨x, y, rfl, rx, ry⟩ := R.two_inv
    split at ef
    · rename_i hc
      cases ef
      cases rx with
      | tup h1 r1 =>
        cases ry with
        | tup h2 r2 =>
          refine .inr (.inr (.inr ⟨_, _, _, _, rfl, rfl, .of (ez _ _ h1), .of (ez _ _ h2), by rw [← r1.length, ← r2.length]; exact hc, fun e => ?_, fun _ e => ?_, fun _ _ p hp => qt _ p _ rfl hp (r1.append r2)⟩))
          · subst e
            cases r1
            exact q _ (.tup h2 r2) trivial
          · subst e
            cases r2
            rw [List.append_nil] at q
            exact q _ (.tup h1 r1) trivial
    · cases ef
  · cases ef
/-- ints, list * int -/
def CMulA (i j : Int) : Prop := CMul i j ∨ CMulW i j
theorem op_mulA {X : Cx} : OpR X (binaryOp .Mult) (rI CMulA fun i j => .int (i * j)) := by
  intro pins s σ H x y v u Q I rx ry h
  obtain ⟨i, j, e1, e2, hc, q⟩ := h
  rcases hc with hc | hc
  · exact op_mul pins s σ H x y v u Q I rx ry ⟨i, j, e1, e2, hc, q⟩
  · exact op_mulW pins s σ H x y v u Q I rx ry ⟨i, j, e1, e2, hc, q⟩
def rMulAny (K : PySem.W.Frag) : R2 := fun x y H Q => rI CMulA (fun i j => .int (i * j)) x y H Q ∨ rRep x y H Q
theorem op_mulAny {X : Cx} : OpR X (binaryOp .Mult) (rMulAny X.K) := opor op_mulA op_rep
end
end MM

set_option Elab.async false
set_option linter.all false
set_option maxRecDepth 100000
set_option maxHeartbeats 4000000
noncomputable section
namespace MM
open PySem PySem.Spec PyProof.Rows L2

/-! ### data as the library has it -/
mutual
def toPy : D → Option PyData
  | .non => some .none
  | .bl b => some (.bool b)
  | .int i => some (.int i)
  | .str x => some (.str x)
  | .lst xs => match toPyL xs with
    | some ys => some (.list ys)
    | none => none
  | .tup xs => match toPyL xs with
    | some ys => some (.tuple ys)
    | none => none
  | .scr ns => some (.list (ns.map .int))
  | .dK _ | .dT _ | .dTf _ | .opq _ | .deep _ | .nam _ _ | .xn _ _ _ => none
def toPyL : List D → Option (List PyData)
  | [] => some []
  | d :: ds => match toPy d with
    | some y => match toPyL ds with
      | some ys => some (y :: ys)
      | none => none
    | none => none
end
section
variable {K : PySem.W.Frag} {H : Hp}
theorem dpAll_ints : ∀ ns : List Int, DpAll K H (ns.map V.int) (ns.map PyData.int)
  | [] => .nil
  | n :: ns => .cons (.int n) (dpAll_ints ns)
mutual
theorem Rep.dp : ∀ {d : D} {v : V} {p : PyData}, Rep K H d v → toPy d = some p → Dp K H v p
  | _, _, _, .non, e => by simp only [toPy] at e; cases e; exact .non
  | _, _, _, .bl b, e => by simp only [toPy] at e; cases e; exact .bl b
  | _, _, _, .int b, e => by simp only [toPy] at e; cases e; exact .int b
  | _, _, _, .str b, e => by simp only [toPy] at e; cases e; exact .str b
  | _, _, _, .lst h r, e => by
    simp only [toPy] at e
    split at e
    · rename_i ys e1
      cases e
      exact .lst (.of h) (RepL.dp r e1)
    · cases e
  | _, _, _, .tup h r, e => by
    simp only [toPy] at e
    split at e
    · rename_i ys e1
      cases e
      exact .tup (.of h) (RepL.dp r e1)
    · cases e
  | _, _, _, .dK h r, e => by simp only [toPy] at e; cases e
  | _, _, _, .dT h r, e => by simp only [toPy] at e; cases e
  | _, _, _, .dTf h r, e => by simp only [toPy] at e; cases e
  | _, _, _, .scr h, e => by simp only [toPy] at e; cases e; exact .lst h (dpAll_ints _)
  | _, _, _, .opq v, e => by simp only [toPy] at e; cases e
  | _, _, _, .cls _, e => by simp only [toPy] at e; cases e
  | _, _, _, .exn _ _, e => by simp only [toPy] at e; cases e
  | _, _, _, .xn _ _ _, e => by simp only [toPy] at e; cases e
  | _, _, _, .deep _, e => by simp only [toPy] at e; cases e
theorem RepL.dp : ∀ {d : List D} {v : List V} {p : List PyData}, RepL K H d v → toPyL d = some p → DpAll K H v p
  | _, _, _, .nil, e => by simp only [toPyL] at e; cases e; exact .nil
  | _, _, _, .cons h r, e => by
    simp only [toPyL] at e
    split at e
    · rename_i y e1
      split at e
      · rename_i ys e2
        cases e
        exact .cons (Rep.dp h e1) (RepL.dp r e2)
      · cases e
    · cases e
end
end
/-- == of data -/
def eqP (a b : D) : Option Bool := match toPy a with
  | some p => match toPy b with
    | some q => haveI : Decidable (SeqAt.shaped p = true ∧ SeqAt.shaped q = true) := Classical.propDecidable _; if SeqAt.shaped p = true ∧ SeqAt.shaped q = true then some (PyData.eqv p q) else none
    | none => none
  | none => none
def eqF : List D → Option D
  | [a, b] => (eqP a b).map .bl
  | _ => none
def neF : List D → Option D
  | [a, b] => (eqP a b).map fun c => .bl (!c)
  | _ => none
/-- x in a list, whatever is in it; in a tuple of flat things; in a dict -/
def flatOf : D → Option V
  | .non => some .non
  | .bl b => some (.bl b)
  | .int i => some (.int i)
  | .str x => some (.str x)
  | _ => none
def flatsOf : List D → Option (List V)
  | [] => some []
  | d :: ds => match flatOf d with
    | some v => match flatsOf ds with
      | some vs => some (v :: vs)
      | none => none
    | none => none
def inP (x : D) : D → Option Bool
  | .lst ds => match toPy x with
    | some p => match toPyL ds with
      | some ps => haveI : Decidable (SeqAt.shaped p = true ∧ SeqAt.shaped (.list ps) = true) := Classical.propDecidable _; if SeqAt.shaped p = true ∧ SeqAt.shaped (.list ps) = true then some (ps.any fun z => PyData.eqv z p) else none
      | none => none
    | none => none
  | .tup ds => match flatOf x with
    | some v => match flatsOf ds with
      | some vs => some (inV v vs)
      | none => none
    | none => none
  | d => match getD2 d x with
    | some r => some r.isSome
    | none => none
def inF : List D → Option D
  | [x, y] => (inP x y).map .bl
  | _ => none
def notInF : List D → Option D
  | [x, y] => (inP x y).map fun c => .bl (!c)
  | _ => none
section
variable {X : Cx}
def rInW (K : PySem.W.Frag) : R2 := fun x y H Q => rInAny K false x y H Q ∨ rInD K x y H Q
def rNotInW (K : PySem.W.Frag) : R2 := fun x y H Q => rInAny K true x y H Q ∨ rNotInD K x y H Q
theorem op_inW (hu : X.A.units + 65 < cLine) : OpR X (compareOp .In) (rInW X.K) := opor (op_inAny (by omega)) (op_inD hu)
theorem op_notInW (hu : X.A.units + 65 < cLine) : OpR X (compareOp .NotIn) (rNotInW X.K) := opor (op_notInAny (by omega)) (op_notInD hu)
end
section
variable {K : PySem.W.Frag}
theorem s_eq : OpS K (two (rEqD K)) eqF := fun H ds vs Q d R ef q => by
  unfold eqF at ef
  split at ef
  · obtain ⟨x, y, rfl, rx, ry⟩ := R.two_inv
    unfold eqP at ef
    split at ef
    · rename_i p e1
      split at ef
      · rename_i p2 e2
        split at ef
        · rename_i hs
          cases ef
          exact ⟨p, p2, rx.dp e1, ry.dp e2, hs.1, hs.2, q _ (.bl _)⟩
        · cases ef
      · cases ef
    · cases ef
  · cases ef
theorem s_ne : OpS K (two (rNeD K)) neF := fun H ds vs Q d R ef q => by
  unfold neF at ef
  split at ef
  · obtain ⟨x, y, rfl, rx, ry⟩ := R.two_inv
    unfold eqP at ef
    split at ef
    · rename_i p e1
      split at ef
      · rename_i p2 e2
        split at ef
        · rename_i hs
          cases ef
          exact ⟨p, p2, rx.dp e1, ry.dp e2, hs.1, hs.2, q _ (.bl _)⟩
        · cases ef
      · cases ef
    · cases ef
  · cases ef
theorem flatOf_rep {H : Hp} {d : D} {v w : V} (r : Rep K H d v) (e : flatOf d = some w) : v = w ∧ flatV v = true := by
  cases r <;> first | (cases e; exact ⟨rfl, rfl⟩) | (simp [flatOf] at e)
theorem flatsOf_rep {H : Hp} : ∀ {ds : List D} {vs ws : List V}, RepL K H ds vs → flatsOf ds = some ws → vs = ws ∧ vs.all flatV = true
  | _, _, _, .nil, e => by cases e; exact ⟨rfl, rfl⟩
  | _, _, _, .cons h t, e => by
    unfold flatsOf at e
    split at e
    · rename_i v e1
      split at e
      · rename_i vs e2
        cases e
        obtain ⟨a1, a2⟩ := flatOf_rep h e1
        obtain ⟨b1, b2⟩ := flatsOf_rep t e2
        subst a1 b1
        exact ⟨rfl, by rw [List.all_cons, a2, b2]; rfl⟩
      · cases e
    · cases e
theorem inP_in {H : Hp} {a b : D} {x y : V} {c : Bool} (rx : Rep K H a x) (ry : Rep K H b y) (e : inP a b = some c) (Q : VK) :
    (Q (.bl c) H → rInW K x y H Q) ∧ (Q (.bl (!c)) H → rNotInW K x y H Q) := by
  unfold inP at e
  split at e
  · rename_i ds
    split at e
    · rename_i p e1
      split at e
      · rename_i ps e2
        split at e
        · rename_i hs
          cases e
          have h1 := rx.dp e1
          have h2 : Dp K H y (.list ps) := ry.dp (by simp only [toPy, e2])
          exact ⟨fun q => .inr ⟨p, ps, h1, h2, hs.1, hs.2, q⟩, fun q => .inr ⟨p, ps, h1, h2, hs.1, hs.2, q⟩⟩
        · cases e
      · cases e
    · cases e
  · rename_i ds
    split at e
    · rename_i v e1
      split at e
      · rename_i vs e2
        cases e
        obtain ⟨a1, a2⟩ := flatOf_rep rx e1
        subst a1
        cases ry with
        | tup h r =>
          obtain ⟨b1, b2⟩ := flatsOf_rep r e2
          subst b1
          exact ⟨fun q => .inl (.inr ⟨_, _, rfl, .inr (.of h), a2, b2, q⟩), fun q => .inl (.inr ⟨_, _, rfl, .inr (.of h), a2, b2, q⟩)⟩
      · cases e
    · cases e
  · split at e
    · rename_i r e1
      cases e
      obtain ⟨a', o, rfl, g, h⟩ := getD2_get ry rx e1
      have hs : o.isSome = r.isSome := by
        rcases h with ⟨h1, h2⟩ | ⟨d, v, h1, h2, _⟩
        · rw [h1, h2]; rfl
        · rw [h1, h2]; rfl
      exact ⟨fun q => .inl (.inl ⟨a', o, rfl, g, by rw [if_neg Bool.false_ne_true, hs]; exact q⟩), fun q => .inl (.inl ⟨a', o, rfl, g, by rw [if_pos rfl, hs]; exact q⟩)⟩
    · cases e
theorem s_in : OpS K (two (rInW K)) inF := fun H ds vs Q d R ef q => by
  unfold inF at ef
  split at ef
  · rename_i a b
    obtain ⟨x, y, rfl, rx, ry⟩ := R.two_inv
    cases ec : inP a b with
    | none => rw [ec] at ef; cases ef
    | some c =>
      rw [ec] at ef
      cases ef
      exact (inP_in rx ry ec Q).1 (q _ (.bl _))
  · cases ef
theorem s_notIn : OpS K (two (rNotInW K)) notInF := fun H ds vs Q d R ef q => by
  unfold notInF at ef
  split at ef
  · rename_i a b
    obtain ⟨x, y, rfl, rx, ry⟩ := R.two_inv
    cases ec : inP a b with
    | none => rw [ec] at ef; cases ef
    | some c =>
      rw [ec] at ef
      cases ef
      exact (inP_in rx ry ec Q).2 (q _ (.bl _))
  · cases ef
/-! ints compared -/
def cmpF (f : Int → Int → Bool) : List D → Option D
  | [.int i, .int j] => some (.bl (f i j))
  | _ => none
theorem s_cmp {f : Int → Int → Bool} : OpS K (two (rI0 fun i j => .bl (f i j))) (cmpF f) := fun H ds vs Q d R ef q => by
  unfold cmpF at ef
  split at ef
  · obtain ⟨x, y, rfl, rx, ry⟩ := R.two_inv
    cases rx; cases ry; cases ef
    exact ⟨_, _, rfl, rfl, q _ (.bl _)⟩
  · cases ef
abbrev ltF := cmpF fun i j => decide (i < j)
abbrev leF := cmpF fun i j => decide (i ≤ j)
abbrev gtF := cmpF fun i j => decide (j < i)
abbrev geF := cmpF fun i j => decide (j ≤ i)
/-! is None -/
def isNonB : D → Option Bool
  | .non => some true
  | .opq _ | .deep _ => none
  | _ => some false
def isNF : List D → Option D
  | [a, .non] => (isNonB a).map .bl
  | _ => none
def notNF : List D → Option D
  | [a, .non] => (isNonB a).map fun c => .bl (!c)
  | _ => none
theorem rep_non {H : Hp} {a : D} {x : V} {c : Bool} (r : Rep K H a x) (ho : isNonB a = some c) : decide (x = V.non) = c := by
  cases r <;> first | (cases ho <;> rfl) | (cases ho <;> exact decide_eq_false (fun z => nomatch z))
theorem s_isN : OpS K (two fun x y H Q => y = .non ∧ Q (.bl (decide (x = .non))) H) isNF := fun H ds vs Q d R ef q => by
  unfold isNF at ef
  split at ef
  · rename_i a
    obtain ⟨x, y, rfl, rx, ry⟩ := R.two_inv
    cases ry
    cases ec : isNonB a with
    | none => rw [ec] at ef; cases ef
    | some c =>
      rw [ec] at ef
      cases ef
      refine ⟨rfl, ?_⟩
      rw [rep_non rx ec]
      exact q _ (.bl _)
  · cases ef
theorem s_notN : OpS K (two fun x y H Q => y = .non ∧ Q (.bl (!decide (x = .non))) H) notNF := fun H ds vs Q d R ef q => by
  unfold notNF at ef
  split at ef
  · rename_i a
    obtain ⟨x, y, rfl, rx, ry⟩ := R.two_inv
    cases ry
    cases ec : isNonB a with
    | none => rw [ec] at ef; cases ef
    | some c =>
      rw [ec] at ef
      cases ef
      refine ⟨rfl, ?_⟩
      rw [rep_non rx ec]
      exact q _ (.bl _)
  · cases ef
/-! products -/
instance (i j : Int) : Decidable (CMulA i j) := by unfold CMulA CMul CMulW; exact inferInstance
def mulF : List D → Option D
  | [.int i, .int j] => haveI : Decidable (CMulA i j) := Classical.propDecidable _; if CMulA i j then some (.int (i * j)) else none
  | [.lst ds, .int k] => haveI : Decidable (-(2 ^ 63) ≤ k ∧ k < 2 ^ 63 ∧ ds.length * k.toNat ≤ sizeLine) := Classical.propDecidable _; if -(2 ^ 63) ≤ k ∧ k < 2 ^ 63 ∧ ds.length * k.toNat ≤ sizeLine then some (.lst (List.replicate k.toNat ds).flatten) else none
  | _ => none
theorem RepL.rep {Z : Hp} {ds : List D} {vs : List V} (h : RepL K Z ds vs) : ∀ n, RepL K Z (List.replicate n ds).flatten (List.replicate n vs).flatten
  | 0 => .nil
  | n + 1 => by
    rw [List.replicate_succ, List.replicate_succ, List.flatten_cons, List.flatten_cons]
    exact h.append (RepL.rep h n)
theorem g_mul : OpN K (two (rMulAny K)) mulF := fun Z H ds vs Q d ez R ef q ql _ => by
  unfold mulF at ef
  split at ef
  · obtain ⟨x, y, rfl, rx, ry⟩ := R.two_inv
    split at ef
    · rename_i hc
      cases rx; cases ry; cases ef
      exact .inl ⟨_, _, rfl, rfl, hc, q _ (.int _) trivial⟩
    · cases ef
  · obtain ⟨x, y, rfl, rx, ry⟩ := R.two_inv
    split at ef
    · rename_i hc
      cases ry; cases ef
      cases rx with
      | lst h r => exact .inr ⟨_, _, _, rfl, rfl, ez _ _ h, hc.1, hc.2.1, by rw [← r.length]; exact hc.2.2, fun p hp => ql _ p _ rfl hp (r.rep _)⟩
    · cases ef
  · cases ef
/-! len -/
def lenF : List D → Option D
  | [.lst ds] => some (.int ds.length)
  | [.tup ds] => some (.int ds.length)
  | [.scr ds] => some (.int ds.length)
  | [.dK ds] => some (.int ds.length)
  | [.dT ds] => some (.int ds.length)
  | [.str z] => haveI : Decidable (z.length ≤ sizeLine) := Classical.propDecidable _; if z.length ≤ sizeLine then some (.int z.length) else none
  | _ => none
def rLenAny (K : PySem.W.Frag) : List V → Hp → VK → Prop := fun xs H Q => ((∃ p ys, xs = [.ref p] ∧ (SqL K H p ys ∨ SqT K H p ys) ∧ Q (.int ys.length) H) ∨ (∃ z, xs = [.str z] ∧ z.length ≤ sizeLine ∧ Q (.int z.length) H)) ∨
  ((∃ a kvs, xs = [V.ref a] ∧ H a = some (.dK kvs) ∧ Q (.int kvs.length) H) ∨ rLenT xs H Q)
theorem call_lenAny {X : Cx} : CallR X (.builtin "len") (rLenAny X.K) := (call_len_seq.or call_len_str).or (call_lenD.or call_len_dT)
theorem s_len : OpS K (rLenAny K) lenF := fun H ds vs Q d R ef q => by
  unfold lenF at ef
  split at ef
  · obtain ⟨x, rfl, rx⟩ := R.one_inv
    cases ef
    cases rx with
    | lst h r => exact .inl (.inl ⟨_, _, rfl, .inl (.of h), by rw [← r.length]; exact q _ (.int _)⟩)
  · obtain ⟨x, rfl, rx⟩ := R.one_inv
    cases ef
    cases rx with
    | tup h r => exact .inl (.inl ⟨_, _, rfl, .inr (.of h), by rw [← r.length]; exact q _ (.int _)⟩)
  · obtain ⟨x, rfl, rx⟩ := R.one_inv
    cases ef
    cases rx with
    | scr h => exact .inl (.inl ⟨_, _, rfl, .inl h, by rw [List.length_map]; exact q _ (.int _)⟩)
  · obtain ⟨x, rfl, rx⟩ := R.one_inv
    cases ef
    cases rx with
    | dK h r => exact .inr (.inl ⟨_, _, rfl, h, by rw [← r.length]; exact q _ (.int _)⟩)
  · obtain ⟨x, rfl, rx⟩ := R.one_inv
    cases ef
    cases rx with
    | dT h r => exact .inr (.inr ⟨_, _, rfl, h, by rw [← r.length]; exact q _ (.int _)⟩)
  · obtain ⟨x, rfl, rx⟩ := R.one_inv
    split at ef
    · rename_i hz
      cases ef
      cases rx
      exact .inl (.inr ⟨_, rfl, hz, q _ (.int _)⟩)
    · cases ef
  · cases ef
def absF : List D → Option D
  | [.int i] => some (.int (if i < 0 then -i else i))
  | _ => none
theorem s_abs : OpS K (fun xs H Q => ∃ i, xs = [V.int i] ∧ Q (.int (if i < 0 then -i else i)) H) absF := fun H ds vs Q d R ef q => by
  unfold absF at ef
  split at ef
  · obtain ⟨x, rfl, rx⟩ := R.one_inv
    cases rx; cases ef
    exact ⟨_, rfl, q _ (.int _)⟩
  · cases ef
def intF : List D → Option D
  | [.int i] => some (.int i)
  | [.bl k] => some (.int (if k then 1 else 0))
  | _ => none
theorem s_int : OpS K (fun xs H Q => (∃ i, xs = [V.int i] ∧ Q (.int i) H) ∨ ∃ k, xs = [V.bl k] ∧ Q (.int (if k then 1 else 0)) H) intF := fun H ds vs Q d R ef q => by
  unfold intF at ef
  split at ef
  · obtain ⟨x, rfl, rx⟩ := R.one_inv
    cases rx; cases ef
    exact .inl ⟨_, rfl, q _ (.int _)⟩
  · obtain ⟨x, rfl, rx⟩ := R.one_inv
    cases rx; cases ef
    exact .inr ⟨_, rfl, q _ (.int _)⟩
  · cases ef
/-! list(x), tuple(x) -/
def tupleF : List D → Option D
  | [.lst ds] => some (.tup ds)
  | [.tup ds] => some (.tup ds)
  | _ => none
theorem g_tuple : OpN K (fun xs H Q => ∃ p ys, xs = [V.ref p] ∧ ((SqL K H p ys ∧ ∀ l, H l = none → Q (.ref l) (upd H l (.tup ys))) ∨ (SqT K H p ys ∧ Q (.ref p) H))) tupleF := fun Z H ds vs Q d ez R ef q ql qt => by
  unfold tupleF at ef
  split at ef
  · obtain ⟨x, rfl, rx⟩ := R.one_inv
    cases ef
    cases rx with
    | lst h r => exact ⟨_, _, rfl, .inl ⟨.of (ez _ _ h), fun l hl => qt _ l _ rfl hl r⟩⟩
  · obtain ⟨x, rfl, rx⟩ := R.one_inv
    cases ef
    cases rx with
    | tup h r => exact ⟨_, _, rfl, .inr ⟨.of (ez _ _ h), q _ (.tup h r) trivial⟩⟩
  · cases ef
def listF : List D → Option D
  | [.lst ds] => some (.lst ds)
  | [.tup ds] => some (.lst ds)
  | _ => none
theorem g_list : OpN K (fun xs H Q => ∃ p ys, xs = [V.ref p] ∧ (SqL K H p ys ∨ SqT K H p ys) ∧ ∀ l, H l = none → Q (.ref l) (upd H l (.lst ys))) listF := fun Z H ds vs Q d ez R ef q ql qt => by
  unfold listF at ef
  split at ef
  · obtain ⟨x, rfl, rx⟩ := R.one_inv
    cases ef
    cases rx with
    | lst h r => exact ⟨_, _, rfl, .inl (.of (ez _ _ h)), fun l hl => ql _ l _ rfl hl r⟩
  · obtain ⟨x, rfl, rx⟩ := R.one_inv
    cases ef
    cases rx with
    | tup h r => exact ⟨_, _, rfl, .inr (.of (ez _ _ h)), fun l hl => ql _ l _ rfl hl r⟩
  · cases ef
end
end MM

set_option Elab.async false
set_option linter.all false
set_option maxRecDepth 100000
set_option maxHeartbeats 4000000
noncomputable section
namespace MM
open PySem PySem.Spec PyProof.Rows L2

/-! ### what is walked -/
/-- what an iterator gives at a place: a datum that stands, or a new tuple of such -/
def YldOk (K : PySem.W.Frag) (Z H : Hp) (d : D) (x : V) (H' : Hp) : Prop :=
  (H' = H ∧ Rep K Z d x) ∨ ∃ ds vs T, d = .tup ds ∧ x = .ref T ∧ H T = none ∧ RepL K Z ds vs ∧ H' = upd H T (.tup vs)
def Feeds (K : PySem.W.Frag) (Z : Hp) (J : It) (xs : List D) : Prop :=
  ∀ H i, Ex Z H → (∀ d, xs[i]? = some d → J.go i H ∧ ∀ x H', J.yld i H x H' → YldOk K Z H d x H') ∧ (xs.length ≤ i → J.stop i H)
section
variable (K : PySem.W.Frag) (mg : Str → Option Value) (W : WX)
def EvI (p : Bool) (wi : TI) (m : M (List D)) : Prop := ∀ B env σ H F (Q : It → Hp → Prop), Sta K B env σ H F → (match m env with
  | .ok xs env' => ∀ J H' F', Sta K B env' σ H' F' → Feeds K (Fz B H' F') J xs → Nxt H F H' F' → PureP p env env' F F' H H' → Q J H'
  | .ex e env' => ExP K mg W B σ H F e env'
  | .no => False) → wi σ H Q
/-- a target of a frozen value: the slots js are set -/
def EvG (js : List Nat) (g : TG) (bd : D → Env → Option Env) : Prop := ∀ B env σ H F d v env' (Q : St → Hp → Prop), Sta K B env σ H F → Rep K (Fz B H F) d v → bd d env = some env' →
  (∀ σ' F', Sta K B env' σ' H F' → (∀ a ∈ F', a ∈ F) → (∀ i, i ∉ js → σ'[i]? = σ[i]?) → σ'.length = σ.length → Q σ' H) → g v σ H Q
end
/-- the items of a list, a tuple, a script -/
def itemsD : D → Option (List D)
  | .lst ds => some ds
  | .tup ds => some ds
  | .scr ns => some (ns.map .int)
  | _ => none
def itemsM (m : M D) : M (List D) := fun env => match m env with
  | .ok d e => match itemsD d with
    | some ds => .ok ds e
    | none => .no
  | .ex e e2 => .ex e e2
  | .no => .no
/-- list or tuple -/
def iSeq (K : PySem.W.Frag) (tl : TE) : TI := fun σ H R => tl σ H fun x H1 => ∃ a, x = .ref a ∧ (((∃ xs, SqL K H1 a xs) ∧ R (Itl K a) H1) ∨ ((∃ xs, SqT K H1 a xs) ∧ R (Itt K a) H1))
theorem pi_seq {X : Cx} {tg l : Expr} {tl : TE} (hl : PE X l tl) : PI X tg l (iSeq X.K tl) := by
  refine ⟨fun pins s σ H R I h => ?_⟩
  refine thn (hl.run pins s σ H _ I h) fun v s1 ⟨x, H1, I1, r1, q1⟩ => ?_
  obtain ⟨a, e, q1⟩ := q1
  subst e
  cases r1
  rcases q1 with ⟨⟨xs, hq⟩, q⟩ | ⟨⟨xs, hq⟩, q⟩
  · obtain ⟨its, rv, p, hz⟩ := I1.list hq
    refine wpAny_pyIter_list p.isList ?_
    refine ⟨s1.heap.objs.size, [s1.heap.objs.size], _, _, H1, rfl, I1.kept (t' := s1.toks) fun b o e => Heap.get?_push_of_some _ e, turn_list a _, ⟨_, Heap.get?_push_size _ rfl, rfl, rfl⟩, fun b hb => ?_, q⟩
    have e : b = s1.heap.objs.size := by simpa using hb
    subst e
    exact I1.fpOk (Nat.le_refl _) (I1.hok.fresh (Nat.le_refl _))
  · obtain ⟨its, rv, p, hz⟩ := I1.tuple hq
    refine wpAny_pyIter_tuple (show s1.heap.IsTuple a its.toArray from p) ?_
    refine ⟨s1.heap.objs.size, [s1.heap.objs.size], _, _, H1, rfl, I1.kept (t' := s1.toks) fun b o e => Heap.get?_push_of_some _ e, turn_tuple a _, ⟨_, Heap.get?_push_size _ rfl, rfl, rfl⟩, fun b hb => ?_, q⟩
    have e : b = s1.heap.objs.size := by simpa using hb
    subst e
    exact I1.fpOk (Nat.le_refl _) (I1.hok.fresh (Nat.le_refl _))
section
variable {K : PySem.W.Frag} {mg : Str → Option Value} {W : WX} {p q : Bool} {te tl : TE} {m : M D} {tA : TA} {ms : M (List D)} {i : Nat} {Z : Hp}
/-- lists that are read: what stands at an address is one list -/
theorem sql_fun {H : Hp} {a : Addr} {xs ys : List V} (h : H a = some (.lst xs)) (h2 : ∀ zs, SqL K H a zs → zs[i]? = some (V.ref a)) : True := trivial
theorem feeds_list {a : Addr} {vs : List V} {ds : List D} (h : Z a = some (.lst vs)) (r : RepL K Z ds vs) : Feeds K Z (Itl K a) ds := fun H i ez => by
  have hH := ez _ _ h
  refine ⟨fun d hd => ?_, fun hl => ⟨vs, .of hH, by rw [← r.length]; exact hl⟩⟩
  obtain ⟨v, hv, rv⟩ := r.get hd
  exact ⟨⟨vs, v, .of hH, hv⟩, fun x H' y => .inl ⟨y.1, by
    have := y.2 vs (.of hH)
    rw [hv] at this
    cases this
    exact rv⟩⟩
theorem feeds_tup {a : Addr} {vs : List V} {ds : List D} (h : Z a = some (.tup vs)) (r : RepL K Z ds vs) : Feeds K Z (Itt K a) ds := fun H i ez => by
  have hH := ez _ _ h
  refine ⟨fun d hd => ?_, fun hl => ⟨vs, .of hH, by rw [← r.length]; exact hl⟩⟩
  obtain ⟨v, hv, rv⟩ := r.get hd
  exact ⟨⟨vs, v, .of hH, hv⟩, fun x H' y => .inl ⟨y.1, by
    have := y.2 vs (.of hH)
    rw [hv] at this
    cases this
    exact rv⟩⟩
theorem repL_ints {Z : Hp} : ∀ ns : List Int, RepL K Z (ns.map D.int) (ns.map V.int)
  | [] => .nil
  | n :: ns => .cons (.int n) (repL_ints ns)
theorem feeds_scr {a : Addr} {ns : List Int} (h : SqL K Z a (ns.map V.int)) : Feeds K Z (Itl K a) (ns.map .int) := fun H i ez => by
  have hH := sql_mono ez h
  refine ⟨fun d hd => ?_, fun hl => ⟨_, hH, by rw [List.length_map] at *; exact hl⟩⟩
  obtain ⟨v, hv, rv⟩ := (repL_ints (K := K) (Z := Z) ns).get hd
  exact ⟨⟨_, v, hH, hv⟩, fun x H' y => .inl ⟨y.1, by
    have := y.2 _ hH
    rw [hv] at this
    cases this
    exact rv⟩⟩
theorem feeds_range {lo : Int} {n : Nat} : Feeds K Z (Itr lo n) ((List.range n).map fun i => .int (lo + (i : Nat))) := fun H i ez => by
  refine ⟨fun d hd => ?_, fun hl => show n ≤ i by simpa using hl⟩
  rw [List.getElem?_map] at hd
  cases e : (List.range n)[i]? with
  | none => rw [e] at hd; cases hd
  | some j =>
    obtain ⟨h1, h2⟩ := List.getElem?_eq_some_iff.mp e
    rw [List.getElem_range] at h2
    rw [List.length_range] at h1
    rw [e] at hd
    cases hd
    subst h2
    exact ⟨h1, fun x H' y => .inl ⟨y.1, by rw [y.2]; exact .int _⟩⟩
theorem ei_seq (h1 : EvE K mg W p tl m) : EvI K mg W p (iSeq K tl) (itemsM m) := fun B env σ H F Q S h => by
  refine h1 B env σ H F _ S ?_
  unfold itemsM at h
  cases em : m env with
  | ok d e =>
    rw [em] at h
    intro v H' F' Fd S' N P
    obtain ⟨S2, r⟩ := S'.freeze
    have r1 : Rep K (Fz B H' F') d v := by
      cases r with
      | cons r _ => exact r
    dsimp only at h
    cases r1 with
    | lst hz rl => exact ⟨_, rfl, .inl ⟨⟨_, .of (fz_ex _ _ _ _ _ hz)⟩, h _ H' F' S2 (feeds_list hz rl) (N.weak fun a m => List.mem_append_left _ m) P⟩⟩
    | tup hz rl => exact ⟨_, rfl, .inr ⟨⟨_, .of (fz_ex _ _ _ _ _ hz)⟩, h _ H' F' S2 (feeds_tup hz rl) (N.weak fun a m => List.mem_append_left _ m) P⟩⟩
    | scr hz => exact ⟨_, rfl, .inl ⟨⟨_, sql_mono (fz_ex _ _ _) hz⟩, h _ H' F' S2 (feeds_scr hz) (N.weak fun a m => List.mem_append_left _ m) P⟩⟩
    | _ => exact h.elim
  | ex e e2 => rw [em] at h; exact h
  | no => rw [em] at h; exact h
def rangeL (lo : Int) (n : Nat) : List D := (List.range n).map fun i => .int (lo + (i : Nat))
def range1M (ms : M (List D)) : M (List D) := fun env => match ms env with
  | .ok [.int j] e => haveI : Decidable (-(2 ^ 62) ≤ j ∧ j < 2 ^ 62) := Classical.propDecidable _; if -(2 ^ 62) ≤ j ∧ j < 2 ^ 62 then .ok (rangeL 0 j.toNat) e else .no
  | .ok _ _ => .no
  | .ex e e2 => .ex e e2
  | .no => .no
def range2M (ms : M (List D)) : M (List D) := fun env => match ms env with
  | .ok [.int i, .int j] e => haveI : Decidable (-(2 ^ 62) ≤ i ∧ i < 2 ^ 62 ∧ -(2 ^ 62) ≤ j ∧ j < 2 ^ 62) := Classical.propDecidable _; if -(2 ^ 62) ≤ i ∧ i < 2 ^ 62 ∧ -(2 ^ 62) ≤ j ∧ j < 2 ^ 62 then .ok (rangeL i (j - i).toNat) e else .no
  | .ok _ _ => .no
  | .ex e e2 => .ex e e2
  | .no => .no
theorem ei_range1 (h1 : EvR K mg W p tA ms) : EvI K mg W p (iRng1 tA) (range1M ms) := fun B env σ H F Q S h => by
  refine h1 B env σ H F _ S ?_
  unfold range1M at h
  cases em : ms env with
  | ok ds e =>
    rw [em] at h
    intro vs H' F' S' r N P
    split at h
    · rename_i xs env' eq
      split at eq
      · rename_i j e' eq2
        cases eq2
        obtain ⟨x, rfl, rx⟩ := r.one_inv
        cases rx
        split at eq
        · rename_i hb
          cases eq
          exact ⟨j, rfl, hb.1, hb.2, h _ H' F' S' feeds_range N P⟩
        · cases eq
      · cases eq
      · cases eq
      · cases eq
    · rename_i eq
      split at eq
      · split at eq <;> cases eq
      · cases eq
      · rename_i eq2; cases eq2
      · cases eq
    · exact h.elim
  | ex e e2 => rw [em] at h; exact h
  | no => rw [em] at h; exact h
theorem ei_range2 (h1 : EvR K mg W p tA ms) : EvI K mg W p (iRng2 tA) (range2M ms) := fun B env σ H F Q S h => by
  refine h1 B env σ H F _ S ?_
  unfold range2M at h
  cases em : ms env with
  | ok ds e =>
    rw [em] at h
    intro vs H' F' S' r N P
    split at h
    · rename_i xs env' eq
      split at eq
      · rename_i i j e' eq2
        cases eq2
        obtain ⟨x, y, rfl, rx, ry⟩ := r.two_inv
        cases rx
        cases ry
        split at eq
        · rename_i hb
          cases eq
          exact ⟨i, j, rfl, hb, h _ H' F' S' feeds_range N P⟩
        · cases eq
      · cases eq
      · cases eq
      · cases eq
    · rename_i eq
      split at eq
      · split at eq <;> cases eq
      · cases eq
      · rename_i eq2; cases eq2
      · cases eq
    · exact h.elim
  | ex e e2 => rw [em] at h; exact h
  | no => rw [em] at h; exact h

/-! ### targets -/
def bdName (i : Nat) (d : D) (env : Env) : Option Env := if i < env.length then some (env.set i (some (false, d))) else none
theorem eg_name (i : Nat) : EvG K [i] (gName i) (bdName i) := fun B env σ H F d v env' Q S r e q => by
  unfold bdName at e
  split at e
  · rename_i hl
    cases e
    obtain ⟨F2, S3, sub⟩ := S.putF (i := i) r hl
    exact q _ F2 S3 sub (fun j hj => List.getElem?_set_ne (fun z => hj (by rw [z]; exact List.mem_singleton_self _))) (List.length_set)
  · cases e
def bdList : List (D → Env → Option Env) → List D → Env → Option Env
  | [], [], env => some env
  | b :: bs, d :: ds, env => match b d env with
    | some e => bdList bs ds e
    | none => none
  | _, _, _ => none
def bdTup (bs : List (D → Env → Option Env)) (d : D) (env : Env) : Option Env := match d with
  | .tup ds => bdList bs ds env
  | _ => none
/-- a tuple's targets -/
def EvGs (js : List Nat) (g : TGs) (bs : List (D → Env → Option Env)) : Prop := ∀ B env σ H F ds vs env' (Q : St → Hp → Prop), Sta K B env σ H F → RepL K (Fz B H F) ds vs → bdList bs ds env = some env' →
  (∀ σ' F', Sta K B env' σ' H F' → (∀ a ∈ F', a ∈ F) → (∀ i, i ∉ js → σ'[i]? = σ[i]?) → σ'.length = σ.length → Q σ' H) → g vs σ H Q ∧ ds.length = bs.length
theorem egs_nil : EvGs (K := K) [] gNil [] := fun B env σ H F ds vs env' Q S r e q => by
  cases r with
  | nil =>
    cases e
    exact ⟨⟨rfl, q σ F S (fun a m => m) (fun _ _ => rfl) rfl⟩, rfl⟩
  | cons => cases e
theorem egs_cons {js ks : List Nat} {g : TG} {gs : TGs} {b : D → Env → Option Env} {bs : List (D → Env → Option Env)} (h1 : EvG K js g b) (h2 : EvGs (K := K) ks gs bs) : EvGs (K := K) (js ++ ks) (gCons g gs) (b :: bs) := fun B env σ H F ds vs env' Q S r e q => by
  cases r with
  | nil => cases e
  | @cons d v ds vs hd ht =>
    unfold bdList at e
    cases eb : b d env with
    | none => rw [eb] at e; cases e
    | some e1 =>
      rw [eb] at e
      dsimp only at e
      have hlen : ds.length = bs.length := by
        refine Classical.byContradiction fun no => ?_
        have : ∀ (bs : List (D → Env → Option Env)) (ds : List D) (e1 : Env), ds.length ≠ bs.length → bdList bs ds e1 = none := fun bs => by
          induction bs with
          | nil => intro ds e1 hn; cases ds with
            | nil => exact absurd rfl hn
            | cons => rfl
          | cons b bs ih => intro ds e1 hn; cases ds with
            | nil => rfl
            | cons d ds =>
              unfold bdList
              cases b d e1 with
              | none => rfl
              | some e2 => exact ih ds e2 (by simpa using hn)
        rw [this bs ds e1 no] at e
        cases e
      refine ⟨⟨v, vs, rfl, h1 B env σ H F d v e1 _ S hd eb fun σ1 F1 S1 sub1 k1 l1 => ?_⟩, by rw [List.length_cons, List.length_cons, hlen]⟩
      have ex : Ex (Fz B H F) (Fz B H F1) := fz_mk fun b o e m n => ⟨e, fun z => m (sub1 b z), n⟩
      exact (h2 B e1 σ1 H F1 ds vs env' Q S1 (ht.mono ex) e fun σ' F' S' sub k l => q σ' F' S' (fun a m => sub1 a (sub a m)) (fun i hi => (k i fun z => hi (List.mem_append_right _ z)).trans (k1 i fun z => hi (List.mem_append_left _ z))) (l.trans l1)).1
theorem eg_tup {js : List Nat} {gs : TGs} {bs : List (D → Env → Option Env)} (h : EvGs (K := K) js gs bs) : EvG K js (gTup K bs.length gs) (bdTup bs) := fun B env σ H F d v env' Q S r e q => by
  cases r with
  | tup hz rl =>
    obtain ⟨h1, h2⟩ := h B env σ H F _ _ env' Q S rl e q
    exact ⟨_, _, rfl, .of (fz_ex _ _ _ _ _ hz), by rw [← rl.length]; exact h2, h1⟩
  | _ => cases e
end
end MM

set_option Elab.async false
set_option linter.all false
set_option maxRecDepth 100000
set_option maxHeartbeats 4000000
noncomputable section
namespace MM
open PySem PySem.Spec PyProof.Rows L2

def forM (bd : D → Env → Option Env) (body : MS) : List D → MS
  | [], env => .nx env
  | d :: ds, env => match bd d env with
    | none => .no
    | some e1 => match body e1 with
      | .nx e2 => forM bd body ds e2
      | .ct e2 => forM bd body ds e2
      | .bk e2 => .nx e2
      | r => r
def loopM (mi : M (List D)) (bd : D → Env → Option Env) (body : MS) : MS := fun env => match mi env with
  | .ok xs e => forM bd body xs e
  | .ex e e2 => .ex e e2
  | .no => .no
def wipeE (env : Env) : List Nat → Env
  | [] => env
  | v :: vs => (wipeE env vs).set v none
def restE (e1 : Env) : List Nat → Env → Env
  | [], e2 => e2
  | j :: js, e2 => match e1[j]? with
    | some (some (false, d)) => (restE e1 js e2).set j (some (false, d))
    | _ => (restE e1 js e2).set j none
def compM (vs : List Nat) (bd : D → Env → Option Env) (tt : M Bool) (el : M D) : List D → M (List D)
  | [], env => .ok [] env
  | d :: ds, env => match bd d env with
    | none => .no
    | some e1 => match tt e1 with
      | .ok true e2 => match el e2 with
        | .ok y e3 => match compM vs bd tt el ds (wipeE e3 vs) with
          | .ok ys e4 => .ok (y :: ys) e4
          | _ => .no
        | _ => .no
      | .ok false e2 => compM vs bd tt el ds (wipeE e2 vs)
      | _ => .no
def lcM (vs : List Nat) (mi : M (List D)) (bd : D → Env → Option Env) (tt : M Bool) (el : M D) : M D := fun env => match mi env with
  | .ok xs e1 => haveI : Decidable (xs.length ≤ sizeLine) := Classical.propDecidable _; if xs.length ≤ sizeLine then match compM vs bd tt el xs (wipeE e1 vs) with
    | .ok ys e2 => .ok (.lst ys) (restE e1 vs e2)
    | _ => .no
    else .no
  | .ex e e2 => .ex e e2
  | .no => .no
def yesM : M Bool := fun env => .ok true env
section
variable {K : PySem.W.Frag} {mg : Str → Option Value} {W : WX} {ps : List Nat} {ro : Bool} {p q : Bool} {t : TS} {a : MS} {wi : TI} {mi : M (List D)} {g : TG} {js : List Nat} {bd : D → Env → Option Env} {i : Nat}
  {B : Addr → Prop} {env : Env} {σ : St} {H H0 : Hp} {F F0 Fd : List Addr} {ds : List D} {vs : List V}

theorem nxt_ex {H' : Hp} {F' : List Addr} (N : Nxt H F H' F') : Ex (Fz B H F) (Fz B H' F') := fz_mk fun b o e m n => ⟨N.fr b o e m, (fun z => (N.sub b z).elim m fun z => by (rw [z] at e; cases e)), n⟩
theorem nxt_exH {H' : Hp} {F' : List Addr} (N : Nxt H F H' F') : Ex (Fz B H F) H' := fun b o e => by
  obtain ⟨e1, m, n⟩ := fz_some e
  exact N.fr b o e1 m
/-- the datum that has come -/
theorem yld_sta {Z H2 : Hp} {d : D} {x : V} (S : Sta K B env σ H F) (ez : Ex Z (Fz B H F)) (y : YldOk K Z H d x H2) : Sta K B env σ H2 F ∧ Rep K (Fz B H2 F) d x ∧ Ex H H2 := by
  rcases y with ⟨rfl, r⟩ | ⟨ds, vs, T, rfl, rfl, hT, r, rfl⟩
  · exact ⟨S, r.mono ez, .refl _⟩
  · have S2 := S.new (o := .tup vs) hT
    have hn := S.nil.sub0 hT
    rw [List.append_nil] at hn
    have e2 : Ex (Fz B H F) (Fz B (upd H T (.tup vs)) F) := fz_mk fun b o e m n => ⟨ex_new hT _ _ e, m, n⟩
    exact ⟨S2, .tup (by rw [fz_in hn.1 hn.2]; exact upd_same) ((r.mono ez).mono e2), ex_new hT⟩
theorem es_for (hi : EvI K mg W p wi mi) (hg : EvG K js g bd) (hb : EvS K mg W ps ro t a) (hj : ∀ j ∈ ps, j ∉ js) : EvS K mg W ps ro (tFor wi g t) (loopM mi bd a) := fun B env σ H F D S h => by
  refine hi B env σ H F _ S ?_
  unfold loopM at h
  cases em : mi env with
  | ex e e2 => rw [em] at h; exact .xs h
  | no => rw [em] at h; exact h
  | ok xs e =>
    rw [em] at h
    dsimp only at h
    intro J H1 F1 S1 fd N1 _
    refine ⟨fun i m σ2 H2 => m = xs.length - i ∧ i ≤ xs.length ∧ ∃ F2 env2, Sta K B env2 σ2 H2 F2 ∧ Nxt H1 F1 H2 F2 ∧ Kp ps σ σ2 ∧ PostS K mg W ps ro B σ2 H2 F2 D (forM bd a (xs.drop i) env2),
      ⟨_, rfl, Nat.zero_le _, F1, e, S1, .refl, .refl, h.mono (fun _ _ n => N1.trans n fun a m => m) .refl⟩, ?_⟩
    rintro i m σ2 H2 ⟨rfl, hle, F2, env2, S2, N2, k2, h2⟩
    obtain ⟨fy, fs⟩ := fd H2 i (nxt_exH N2)
    by_cases hl : i < xs.length
    · refine .inr ?_
      obtain ⟨go, yl⟩ := fy xs[i] (List.getElem?_eq_getElem hl)
      rw [List.drop_eq_getElem_cons hl] at h2
      unfold forM at h2
      cases eb : bd xs[i] env2 with
      | none => rw [eb] at h2; exact h2.elim
      | some e1 =>
        rw [eb] at h2
        dsimp only at h2
        refine ⟨go, _, fun σ' H' n' => n', fun x H3 y => ?_⟩
        obtain ⟨S3, r3, ex3⟩ := yld_sta S2 (nxt_ex N2) (yl x H3 y)
        refine hg B env2 σ2 H3 F2 xs[i] x e1 _ S3 r3 eb fun σ4 F4 S4 sub4 k4 _ => ?_
        have N4 : Nxt H2 F2 H3 F4 := ⟨fun b o e _ => ex3 _ _ e, fun a m => .inl (sub4 a m)⟩
        have kp4 : Kp ps σ2 σ4 := fun j hjp => k4 j (hj j hjp)
        refine hb B e1 σ4 H3 F4 _ S4 ?_
        have go : ∀ {e5 : Env}, PostS K mg W ps ro B σ2 H2 F2 D (forM bd a (xs.drop (i + 1)) e5) → NxP K ps B σ4 H3 F4 e5 (fun σ' H' => ∃ m', m' < xs.length - i ∧ m' = xs.length - (i + 1) ∧ i + 1 ≤ xs.length ∧ ∃ F2 env2, Sta K B env2 σ' H' F2 ∧ Nxt H1 F1 H' F2 ∧ Kp ps σ σ' ∧ PostS K mg W ps ro B σ' H' F2 D (forM bd a (xs.drop (i + 1)) env2)) := fun {e5} h5 σ' H' F' S' N' kp =>
          ⟨_, by omega, rfl, hl, F', e5, S', N2.trans (N4.trans N' fun a m => m) fun a m => m, k2.trans (kp4.trans kp), h5.mono (fun _ _ n => N4.trans (N'.trans n fun a m => m) fun a m => m) (kp4.trans kp)⟩
        cases ea : a e1 with
        | nx e5 => rw [ea] at h2; exact go h2
        | ct e5 => rw [ea] at h2; exact go h2
        | bk e5 => rw [ea] at h2; exact fun σ' H' F' S' N' kp => h2 σ' H' F' S' (N4.trans N' fun a m => m) (kp4.trans kp)
        | rt d e5 => rw [ea] at h2; exact fun v σ' H' F' Fd S' x N' kp => h2 v σ' H' F' Fd S' x (N4.trans N' fun a m => m) (kp4.trans kp)
        | ex e6 e5 => rw [ea] at h2; exact fun c d σ' H' F' S' N' kp x => h2 c d σ' H' F' S' (N4.trans N' fun a m => m) (kp4.trans kp) x
        | no => rw [ea] at h2; exact h2
    · have hd : xs.drop i = [] := List.drop_eq_nil_of_le (by omega)
      rw [hd] at h2
      exact .inl ⟨fs (by omega), h2 σ2 H2 F2 S2 .refl .refl⟩

/-! ### comprehensions -/
theorem StaL.setN (S : StaL K B env σ H F ds vs Fd) (i : Nat) (o : Option V) : ∃ F', StaL K B (env.set i none) (σ.set i o) H F' ds vs Fd ∧ ∀ a ∈ F', a ∈ F := by
  by_cases hl : i < env.length
  · obtain ⟨F1, Fi, F2, eF, _, g⟩ := S.rel.cut hl
    have sub : ∀ a ∈ F1 ++ F2, a ∈ F := fun a m => by
      rw [eF]
      rcases List.mem_append.mp m with m | m
      · exact List.mem_append_left _ m
      · exact List.mem_append_right _ (List.mem_append_right _ m)
    have sub2 : ∀ a ∈ (F1 ++ F2) ++ Fd, a ∈ F ++ Fd := fun a m => (List.mem_append.mp m).elim (fun m => List.mem_append_left _ (sub a m)) fun m => List.mem_append_right _ m
    have ex : Ex (Fz B H (F ++ Fd)) (Fz B H ((F1 ++ F2) ++ Fd)) := fz_mk fun b o e m n => ⟨e, fun z => m (sub2 b z), n⟩
    obtain ⟨_, _, g3⟩ := g H (Fz B H ((F1 ++ F2) ++ Fd)) ex fun _ _ _ h => h
    have nd := S.nd
    rw [eF] at nd
    refine ⟨F1 ++ F2, ⟨g3 o, S.own.step ex fun _ _ _ h => h, ?_, fun a m => S.liv a (sub2 a m), fun b q => ⟨(S.bad b q).1, fun z => (S.bad b q).2 (sub2 b z)⟩⟩, sub⟩
    simp only [List.nodup_append, List.mem_append] at nd ⊢
    grind
  · have e1 : env.set i none = env := List.set_eq_of_length_le (by omega)
    have e2 : σ.set i o = σ := List.set_eq_of_length_le (by rw [← S.sta.lenE]; omega)
    rw [e1, e2]
    exact ⟨F, S, fun a m => m⟩
theorem StaL.wipe (S : StaL K B env σ H F ds vs Fd) : ∀ ws : List Nat, ∃ F', StaL K B (wipeE env ws) (L2.wipe σ ws) H F' ds vs Fd ∧ ∀ a ∈ F', a ∈ F
  | [] => ⟨F, S, fun a m => m⟩
  | w :: ws => by
    obtain ⟨F1, S1, s1⟩ := StaL.wipe S ws
    obtain ⟨F2, S2, s2⟩ := S1.setN w none
    exact ⟨F2, S2, fun a m => s1 a (s2 a m)⟩
theorem StaL.setF {d : D} {v : V} (S : StaL K B env σ H F ds vs Fd) (r : Rep K (Fz B H (F ++ Fd)) d v) (i : Nat) : ∃ F', StaL K B (env.set i (some (false, d))) (σ.set i (some v)) H F' ds vs Fd ∧ ∀ a ∈ F', a ∈ F := by
  by_cases hl : i < env.length
  · obtain ⟨F1, Fi, F2, eF, _, g⟩ := S.rel.cut hl
    have sub : ∀ a ∈ F1 ++ F2, a ∈ F := fun a m => by
      rw [eF]
      rcases List.mem_append.mp m with m | m
      · exact List.mem_append_left _ m
      · exact List.mem_append_right _ (List.mem_append_right _ m)
    have sub2 : ∀ a ∈ (F1 ++ F2) ++ Fd, a ∈ F ++ Fd := fun a m => (List.mem_append.mp m).elim (fun m => List.mem_append_left _ (sub a m)) fun m => List.mem_append_right _ m
    have ex : Ex (Fz B H (F ++ Fd)) (Fz B H ((F1 ++ F2) ++ Fd)) := fz_mk fun b o e m n => ⟨e, fun z => m (sub2 b z), n⟩
    obtain ⟨_, g2, _⟩ := g H (Fz B H ((F1 ++ F2) ++ Fd)) ex fun _ _ _ h => h
    have nd := S.nd
    rw [eF] at nd
    refine ⟨F1 ++ F2, ⟨g2 d v (r.mono ex), S.own.step ex fun _ _ _ h => h, ?_, fun a m => S.liv a (sub2 a m), fun b q => ⟨(S.bad b q).1, fun z => (S.bad b q).2 (sub2 b z)⟩⟩, sub⟩
    simp only [List.nodup_append, List.mem_append] at nd ⊢
    grind
  · have e1 : env.set i (some (false, d)) = env := List.set_eq_of_length_le (by omega)
    have e2 : σ.set i (some v) = σ := List.set_eq_of_length_le (by rw [← S.sta.lenE]; omega)
    rw [e1, e2]
    exact ⟨F, S, fun a m => m⟩
def unw (σ : St) : List Nat → St → St
  | [], s => s
  | j :: js, s => (unw σ js s).set j ((σ[j]?).getD none)
theorem wipe_get (σ : St) : ∀ (vs : List Nat) (i : Nat), (L2.wipe σ vs)[i]? = if i ∈ vs ∧ i < σ.length then some none else σ[i]?
  | [], i => by simp [L2.wipe]
  | v :: vs, i => by
    unfold L2.wipe
    rw [List.getElem?_set, wipe_length, wipe_get σ vs i]
    by_cases e : v = i
    · subst e
      by_cases hl : v < σ.length
      · simp [hl]
      · simp only [hl, and_false, if_false]
        rw [List.getElem?_eq_none (by omega)]
        simp
    · simp only [e, if_false, List.mem_cons]
      have : i ≠ v := fun z => e z.symm
      simp only [this, false_or]
theorem unw_length (σ : St) : ∀ (js : List Nat) (s : St), (unw σ js s).length = s.length
  | [], s => rfl
  | j :: js, s => by unfold unw; rw [List.length_set, unw_length σ js s]
theorem unw_get (σ s : St) (hl : s.length = σ.length) : ∀ (js : List Nat) (i : Nat), (unw σ js s)[i]? = if i ∈ js then σ[i]? else s[i]?
  | [], i => by simp [unw]
  | j :: js, i => by
    unfold unw
    rw [List.getElem?_set, unw_length, unw_get σ s hl js i]
    by_cases e : j = i
    · subst e
      by_cases h : j < s.length
      · simp only [h, if_true, List.mem_cons, true_or]
        have h' : j < σ.length := by omega
        rw [List.getElem?_eq_getElem h']
        rfl
      · simp only [h, if_true, if_false, List.mem_cons, true_or]
        rw [List.getElem?_eq_none (by omega)]
    · simp only [e, if_false, List.mem_cons]
      have : i ≠ j := fun z => e z.symm
      simp only [this, false_or]
theorem unw_wipe (σ : St) (vs : List Nat) : unw σ vs (L2.wipe σ vs) = σ := by
  refine List.ext_getElem? fun i => ?_
  rw [unw_get σ _ (wipe_length σ vs), wipe_get]
  by_cases h : i ∈ vs
  · rw [if_pos h]
  · rw [if_neg h, if_neg fun z => h z.1]
theorem wipe_eq {σ σ' : St} {vs : List Nat} (hl : σ'.length = σ.length) (h : ∀ i, i ∉ vs → σ'[i]? = (L2.wipe σ vs)[i]?) : L2.wipe σ' vs = L2.wipe σ vs := by
  refine List.ext_getElem? fun i => ?_
  rw [wipe_get]
  by_cases m : i ∈ vs
  · by_cases l : i < σ'.length
    · rw [if_pos ⟨m, l⟩, wipe_get, if_pos ⟨m, by omega⟩]
    · rw [if_neg fun z => l z.2, List.getElem?_eq_none (by omega), List.getElem?_eq_none (by rw [wipe_length]; omega)]
  · rw [if_neg fun z => m z.1, h i m]
/-- back to the def's slots -/
theorem StaL.rest {e1 e2 : Env} {σw : St} (S : StaL K B e2 σw H F ds vs Fd) (hold : ∀ (j : Nat) (d : D), e1[j]? = some (some (false, d)) → ∃ v, σ[j]? = some (some v) ∧ Rep K (Fz B H (F ++ Fd)) d v) :
    ∀ ws : List Nat, ∃ F', StaL K B (restE e1 ws e2) (unw σ ws σw) H F' ds vs Fd ∧ ∀ a ∈ F', a ∈ F
  | [] => ⟨F, S, fun a m => m⟩
  | w :: ws => by
    obtain ⟨F1, S1, s1⟩ := StaL.rest S hold ws
    have ex : Ex (Fz B H (F ++ Fd)) (Fz B H (F1 ++ Fd)) := fz_mk fun b o e m n => ⟨e, fun z => m ((List.mem_append.mp z).elim (fun z => List.mem_append_left _ (s1 b z)) fun z => List.mem_append_right _ z), n⟩
    unfold restE unw
    split
    · rename_i d e
      obtain ⟨v, hv, r⟩ := hold w d e
      rw [hv]
      obtain ⟨F2, S2, s2⟩ := S1.setF (r.mono ex) w
      exact ⟨F2, S2, fun a m => s1 a (s2 a m)⟩
    · obtain ⟨F2, S2, s2⟩ := S1.setN w ((σ[w]?).getD none)
      exact ⟨F2, S2, fun a m => s1 a (s2 a m)⟩
/-- an item put to the list in hand -/
theorem StaL.app {Dl : Addr} {acc : List V} {es : List D} {y : D} {v : V} {Fa Fy : List Addr} (S : StaL K B env σ H F [.lst es, y] [.ref Dl, v] ((Dl :: Fa) ++ Fy)) (hD : H Dl = some (.lst acc))
    (oa : OwnL K H (Fz B H (F ++ ((Dl :: Fa) ++ Fy))) es acc Fa) (oy : Own K H (Fz B H (F ++ ((Dl :: Fa) ++ Fy))) y v Fy) :
    StaL K B env σ (upd H Dl (.lst (acc ++ [v]))) F [.lst (es ++ [y])] [.ref Dl] (Dl :: (Fa ++ Fy)) := by
  have eFF : F ++ (Dl :: (Fa ++ Fy)) = F ++ ((Dl :: Fa) ++ Fy) := rfl
  have nd := S.nd
  have dn : Dl ∉ F ∧ Dl ∉ Fa ∧ Dl ∉ Fy := by
    simp only [List.nodup_append, List.nodup_cons, List.mem_append, List.mem_cons, List.cons_append] at nd
    grind
  have ex : Ex (Fz B H (F ++ ((Dl :: Fa) ++ Fy))) (Fz B (upd H Dl (.lst (acc ++ [v]))) (F ++ (Dl :: (Fa ++ Fy)))) := fz_mk fun b o e m n => by
    have nb : b ≠ Dl := fun z => m (by rw [z]; exact List.mem_append_right _ (List.mem_append_left _ List.mem_cons_self))
    exact ⟨by rw [upd_ne nb]; exact e, m, n⟩
  have kp : ∀ a, a ≠ Dl → ∀ o, H a = some o → (upd H Dl (.lst (acc ++ [v]))) a = some o := fun a n o h => by rw [upd_ne n]; exact h
  refine ⟨S.rel.step ex fun a m o h => kp a (fun z => by subst z; exact dn.1 m) o h, .one (.lst upd_same ?_), by rw [eFF]; exact S.nd, fun a m => ?_, fun b q => ⟨?_, (S.bad b q).2⟩⟩
  · exact (oa.step ex fun a m o h => kp a (fun z => by subst z; exact dn.2.1 m) o h).snoc (oy.step ex fun a m o h => kp a (fun z => by subst z; exact dn.2.2 m) o h)
  · by_cases e : a = Dl
    · subst e; rw [upd_same]; exact ⟨nofun, nofun, nofun⟩
    · rw [upd_ne e]; exact S.liv a m
  · by_cases e : b = Dl
    · subst e; rw [upd_same]; exact ⟨nofun, nofun, nofun⟩
    · rw [upd_ne e]; exact (S.bad b q).1
theorem compM_len {ws : List Nat} {bd : D → Env → Option Env} {tt : M Bool} {el : M D} : ∀ {xs : List D} {env : Env} {ys : List D} {e : Env}, compM ws bd tt el xs env = .ok ys e → ys.length ≤ xs.length
  | [], env, ys, e, h => by cases h; exact Nat.le_refl _
  | d :: ds, env, ys, e, h => by
    unfold compM at h
    split at h
    · cases h
    · split at h
      · split at h
        · split at h
          · rename_i e5
            cases h
            have := compM_len e5
            simp only [List.length_cons]
            omega
          · cases h
        · cases h
      · have := compM_len h
        simp only [List.length_cons]
        omega
      · cases h
theorem en_lc {ws : List Nat} {tt : TT} {te : TE} {mt : M Bool} {me : M D} {q1 q2 : Bool} (hi : EvI K mg W p wi mi) (hg : EvG K js g bd) (ht : EvB K mg (fun _ _ _ _ => False) q1 tt mt) (he : EvE K mg (fun _ _ _ _ => False) q2 te me) (hj : ∀ j ∈ js, j ∈ ws) :
    EvN K mg W false (tLc wi g tt te ws) (lcM ws mi bd mt me) := fun B env σ H F Q S h => by
  refine hi B env σ H F _ S ?_
  unfold lcM at h
  cases em : mi env with
  | ex e e2 => rw [em] at h; exact h
  | no => rw [em] at h; exact h
  | ok xs e1 =>
    rw [em] at h
    dsimp only at h
    intro J H1 F1 S1 fd N1 _ Dl hDl
    by_cases hz : xs.length ≤ sizeLine
    · rw [if_pos hz] at h
      -- the start
      obtain ⟨Fw, Sw, sw⟩ := S1.nil.wipe ws
      have S0 := Sw.mkL hDl
      have N0 : Nxt H1 F1 (upd H1 Dl (.lst [])) (Fw ++ [Dl]) := ((Nxt.refl (H := H1) (F := F1)).add (o := .lst []) hDl).weak fun a m => (List.mem_append.mp m).elim (fun m => List.mem_cons_of_mem _ (sw a m)) fun m => by rw [List.mem_singleton.mp m]; exact List.mem_cons_self
      refine ⟨fun i m H2 => m = xs.length - i ∧ i ≤ xs.length ∧ ∃ F2 env2 es acc Fa, StaL K B env2 (L2.wipe σ ws) H2 F2 [.lst es] [.ref Dl] (Dl :: Fa) ∧ H2 Dl = some (.lst acc) ∧ OwnL K H2 (Fz B H2 (F2 ++ (Dl :: Fa))) es acc Fa ∧ Nxt H1 F1 H2 (F2 ++ (Dl :: Fa)) ∧ es.length ≤ i ∧
          ∃ ys e3, compM ws bd mt me (xs.drop i) env2 = .ok ys e3 ∧ compM ws bd mt me xs (wipeE e1 ws) = .ok (es ++ ys) e3, ⟨_, rfl, Nat.zero_le _, ?_⟩, ?_⟩
      · cases ec : compM ws bd mt me xs (wipeE e1 ws) with
        | ok ys e3 => exact ⟨Fw, _, [], [], [], S0, upd_same, .nil, N0, Nat.le_refl _, ys, e3, by rw [List.drop_zero]; exact ec, rfl⟩
        | ex => rw [ec] at h; exact h.elim
        | no => rw [ec] at h; exact h.elim
      · rintro i m H2 ⟨rfl, hle, F2, env2, es, acc, Fa, S2, hD2, oa, N2, hes, ys, e3, ec, ec0⟩
        obtain ⟨fy, fs⟩ := fd H2 i (nxt_exH N2)
        have exZ : Ex (Fz B H1 F1) (Fz (Hid B (Dl :: Fa)) H2 F2) := by
          have := nxt_ex (B := B) N2
          have e : Fz (Hid B (Dl :: Fa)) H2 F2 = Fz B H2 (F2 ++ (Dl :: Fa)) := fz_congr fun b => by
            show b ∈ F2 ∨ (B b ∨ b ∈ Dl :: Fa) ↔ b ∈ F2 ++ (Dl :: Fa) ∨ B b
            rw [List.mem_append, or_assoc, or_comm (a := B b)]
          rw [e]
          exact this
        by_cases hl : i < xs.length
        · refine .inr ?_
          obtain ⟨go, yl⟩ := fy xs[i] (List.getElem?_eq_getElem hl)
          rw [List.drop_eq_getElem_cons hl] at ec
          unfold compM at ec
          cases eb : bd xs[i] env2 with
          | none => rw [eb] at ec; cases ec
          | some e4 =>
            rw [eb] at ec
            dsimp only at ec
            refine ⟨go, _, fun H' n' => n', fun x H3 y => ?_⟩
            obtain ⟨S3, r3, ex3⟩ := yld_sta S2.hide exZ (yl x H3 y)
            refine hg _ env2 _ H3 F2 xs[i] x e4 _ S3 r3 eb fun σ4 F4 S4 sub4 k4 l4 => ?_
            have hw : L2.wipe σ4 ws = L2.wipe σ ws := wipe_eq (l4.trans (wipe_length σ ws)) fun j hj' => k4 j fun z => hj' (hj j z)
            refine ⟨hw, ?_⟩
            refine ht _ e4 σ4 H3 F4 _ S4 ?_
            cases et : mt e4 with
            | ex => rw [et] at ec; cases ec
            | no => rw [et] at ec; cases ec
            | ok b e5 =>
              rw [et] at ec
              intro H5 F5 S5 N5 _
              have N4 : Nxt H2 F2 H3 F4 := ⟨fun b o e _ => ex3 _ _ e, fun a m => .inl (sub4 a m)⟩
              have N25 : Nxt H2 F2 H5 F5 := N4.trans N5 fun a m => m
              have S25 : StaL K B e5 σ4 H5 F5 [.lst es] [.ref Dl] (Dl :: Fa) := by
                have := S2.cons S5.nil (by rw [List.append_nil]; exact N25)
                simpa using this
              have nd2 := List.nodup_append.mp S2.nd
              have hD5 : H5 Dl = some (.lst acc) := N25.fr _ _ hD2 fun z => nd2.2.2 Dl z Dl List.mem_cons_self rfl
              have oa5 : OwnL K H5 (Fz B H5 (F5 ++ (Dl :: Fa))) es acc Fa := by
                refine oa.step ?_ fun a m o ho => N25.fr a o ho fun z => nd2.2.2 a z a (List.mem_cons_of_mem _ m) rfl
                refine fz_mk fun b o e m n => ⟨N25.fr b o e fun z => m (List.mem_append_left _ z), fun z => ?_, n⟩
                rcases List.mem_append.mp z with z | z
                · exact (N25.sub b z).elim (fun z => m (List.mem_append_left _ z)) fun z => by rw [z] at e; cases e
                · exact m (List.mem_append_right _ z)
              have N15 : Nxt H1 F1 H5 (F5 ++ (Dl :: Fa)) := ⟨(N2.trans N25 fun a m => List.mem_append_left _ m).fr, fun a m => (List.mem_append.mp m).elim ((N2.trans N25 fun a m => List.mem_append_left _ m).sub a) fun m => N2.sub a (List.mem_append_right _ m)⟩
              cases b with
              | false =>
                rw [if_neg Bool.false_ne_true]
                dsimp only at ec
                obtain ⟨F6, S6, s6⟩ := S25.wipe ws
                rw [hw] at S6
                have exz : Ex (Fz B H5 (F5 ++ (Dl :: Fa))) (Fz B H5 (F6 ++ (Dl :: Fa))) := fz_mk fun b o e m n => ⟨e, fun z => m ((List.mem_append.mp z).elim (fun z => List.mem_append_left _ (s6 b z)) fun z => List.mem_append_right _ z), n⟩
                exact ⟨_, by omega, rfl, hl, F6, _, es, acc, Fa, S6, hD5, oa5.step exz fun _ _ _ h => h, N15.weak fun a m => (List.mem_append.mp m).elim (fun z => List.mem_append_left _ (s6 a z)) fun z => List.mem_append_right _ z, by omega, ys, e3, ec, ec0⟩
              | true =>
                rw [if_pos rfl]
                dsimp only at ec
                refine he _ e5 σ4 H5 F5 _ S5 ?_
                cases ee : me e5 with
                | ex => rw [ee] at ec; cases ec
                | no => rw [ee] at ec; cases ec
                | ok y e6 =>
                  rw [ee] at ec
                  dsimp only at ec
                  intro v H6 F6 Fy S6 N6 _
                  cases ec6 : compM ws bd mt me (xs.drop (i + 1)) (wipeE e6 ws) with
                  | ex => rw [ec6] at ec; cases ec
                  | no => rw [ec6] at ec; cases ec
                  | ok ys' e7 =>
                    rw [ec6] at ec
                    cases ec
                    have S7 := S25.cons S6 N6
                    have nd5 := List.nodup_append.mp S25.nd
                    have hD6 : H6 Dl = some (.lst acc) := N6.fr _ _ hD5 fun z => nd5.2.2 Dl z Dl List.mem_cons_self rfl
                    have exz : Ex (Fz B H5 (F5 ++ (Dl :: Fa))) (Fz B H6 (F6 ++ ((Dl :: Fa) ++ Fy))) := fz_mk fun b o e m n => by
                      have q : b ∈ F6 ++ Fy → False := fun z => (N6.sub b z).elim (fun z => m (List.mem_append_left _ z)) fun z => by rw [z] at e; cases e
                      refine ⟨N6.fr b o e fun z => m (List.mem_append_left _ z), fun z => ?_, n⟩
                      rcases List.mem_append.mp z with z | z
                      · exact q (List.mem_append_left _ z)
                      · rcases List.mem_append.mp z with z | z
                        · exact m (List.mem_append_right _ z)
                        · exact q (List.mem_append_right _ z)
                    have oa6 : OwnL K H6 (Fz B H6 (F6 ++ ((Dl :: Fa) ++ Fy))) es acc Fa := oa5.step exz fun a m o ho => N6.fr a o ho fun z => nd5.2.2 a z a (List.mem_cons_of_mem _ m) rfl
                    have oy : Own K H6 (Fz B H6 (F6 ++ ((Dl :: Fa) ++ Fy))) y v Fy := by
                      have o := S6.own
                      have e : Fz (Hid B (Dl :: Fa)) H6 (F6 ++ Fy) = Fz B H6 (F6 ++ ((Dl :: Fa) ++ Fy)) := fz_congr fun b => by
                        simp only [List.mem_append, Hid]
                        grind
                      rw [e] at o
                      obtain ⟨v', e', o⟩ := o.one_inv
                      cases e'
                      exact o
                    have S8 := S7.app hD6 oa6 oy
                    obtain ⟨F9, S9, s9⟩ := S8.wipe ws
                    rw [hw] at S9
                    refine ⟨acc, hD6, by rw [← oa6.length]; omega, _, by omega, rfl, hl, F9, _, es ++ [y], acc ++ [v], Fa ++ Fy, S9, upd_same, ?_, ?_, by rw [List.length_append, List.length_singleton]; omega, ys', e3, ec6, by rw [List.append_assoc]; exact ec0⟩
                    · obtain ⟨a, vs', G, e1', e2', e3', o⟩ := (S9.own.one_inv.elim fun v' hv' => by
                        obtain ⟨e, o⟩ := hv'
                        cases e
                        exact o : Own K _ _ (.lst (es ++ [y])) (.ref Dl) _).top (List.cons_ne_nil _ _)
                      cases e1'
                      rw [upd_same] at e2'
                      cases e2'
                      cases e3'
                      exact o
                    · have N16 : Nxt H1 F1 H6 (F6 ++ ((Dl :: Fa) ++ Fy)) := N15.cons N6
                      have N17 := N16.mut (o := .lst (acc ++ [v])) (l := Dl) (by simp) fun a m => m
                      exact N17.weak fun a m => (List.mem_append.mp m).elim (fun z => List.mem_append_left _ (s9 a z)) fun z => List.mem_append_right _ z
        · have hd : xs.drop i = [] := List.drop_eq_nil_of_le (by omega)
          rw [hd] at ec
          cases ec
          rw [List.append_nil] at ec0
          rw [ec0] at h
          dsimp only at h
          refine .inl ⟨fs (by omega), ?_⟩
          obtain ⟨F9, S9, s9⟩ := S2.rest (σ := σ) (e1 := e1) (fun j d ej => by
            obtain ⟨v, hv, r⟩ := S1.rel.fzAt ej
            exact ⟨v, hv, r.mono (nxt_ex N2)⟩) ws
          rw [unw_wipe] at S9
          refine h _ H2 F9 (Dl :: Fa) S9 (List.cons_ne_nil _ _) ?_ (fun z => nomatch z)
          exact (N1.trans N2 fun a m => m).weak fun a m => (List.mem_append.mp m).elim (fun z => List.mem_append_left _ (s9 a z)) fun z => List.mem_append_right _ z
    · rw [if_neg hz] at h
      exact h.elim
end
end MM

set_option Elab.async false
set_option linter.all false
set_option maxRecDepth 100000
set_option maxHeartbeats 4000000
noncomputable section
namespace MM
open PySem PySem.Spec PyProof.Rows L2

/-! ### defs -/
inductive RF where
  | ret (d : D) | ex (e : Exn) | no
inductive RP where
  | ret (d : D) (a : D) | ex (e : Exn) (a : D) | no
section
variable (K : PySem.W.Frag) (mg : Str → Option Value) (ro : Bool)
/-- a def that changes nothing that stood -/
def spF (f : List D → RF) : Sp := fun vs H Q E => ∃ (B : Addr → Prop) (ds : List D), (∀ b, B b → NT (H b)) ∧ RepL K (Fz B H []) ds vs ∧ match f ds with
  | .ret d => ∀ v H' Fd, StaL K B [] [] H' [] [d] [v] Fd → (ro = true → Exl d Fd) → Nxt H [] H' Fd → Q v H'
  | .ex e => ∀ cls dd H', Nxt H [] H' [] → ExnAt mg H' e cls dd → E cls dd H'
  | .no => False
/-- a def that changes its first argument -/
def spP (f : D → List D → RP) : Sp := fun vs H Q E => ∃ (B : Addr → Prop) (a : D) (ds : List D) (x : V) (xs : List V) (F0 : List Addr), vs = x :: xs ∧ Sta K B [some (true, a)] [some x] H F0 ∧ RepL K (Fz B H F0) ds xs ∧ match f a ds with
  | .ret d a' => ∀ v H' F' Fd, StaL K B [some (true, a')] [some x] H' F' [d] [v] Fd → (ro = true → Exl d Fd) → Nxt H F0 H' (F' ++ Fd) → Q v H'
  | .ex e a' => ∀ cls dd H' F', Sta K B [some (true, a')] [some x] H' F' → Nxt H F0 H' F' → ExnAt mg H' e cls dd → E cls dd H'
  | .no => False
end
def envF (n : Nat) (ds : List D) : Env := ds.map (fun d => some (false, d)) ++ List.replicate (n - ds.length) none
def envP (n : Nat) (a : D) (ds : List D) : Env := some (true, a) :: (ds.map (fun d => some (false, d)) ++ List.replicate (n - (ds.length + 1)) none)
/-- np parameters, n slots -/
def callF (np n : Nat) (m : MS) (ds : List D) : RF := if ds.length = np then match m (envF n ds) with
  | .nx _ => .ret .non
  | .rt d _ => .ret d
  | .ex e _ => .ex e
  | _ => .no
  else .no
def ownAt0 : Env → Option D
  | some (true, a) :: _ => some a
  | _ => none
def callP (np n : Nat) (m : MS) (a : D) (ds : List D) : RP := if ds.length + 1 = np then match m (envP n a ds) with
  | .nx e => match ownAt0 e with
    | some a' => .ret .non a'
    | none => .no
  | .rt d e => match ownAt0 e with
    | some a' => .ret d a'
    | none => .no
  | .ex x e => match ownAt0 e with
    | some a' => .ex x a'
    | none => .no
  | _ => .no
  else .no
section
variable {K : PySem.W.Frag} {mg : Str → Option Value} {W : WX} {ps : List Nat} {ro : Bool} {p q : Bool} {t : TS} {m : MS} {i : Nat} {tA : TA} {ms : M (List D)}
  {B : Addr → Prop} {env : Env} {σ : St} {H H0 : Hp} {F F0 Fd : List Addr} {ds : List D} {vs : List V}
theorem relE_nones {Z : Hp} : ∀ n, RelE K H Z (List.replicate n none) (List.replicate n none) []
  | 0 => .nil
  | n + 1 => .non (relE_nones n)
theorem relE_fz {Z : Hp} {env : Env} {σ : St} {F : List Addr} (r : RelE K H Z env σ F) : ∀ {ds : List D} {vs : List V}, RepL K Z ds vs → RelE K H Z (ds.map (fun d => some (false, d)) ++ env) (vs.map some ++ σ) F
  | _, _, .nil => r
  | _, _, .cons h t => .fz h (relE_fz r t)
theorem spF_len {f : MS} {np n : Nat} {vs : List V} {H : Hp} {Q : VK} {E : XK} (h : spF K mg ro (callF np n f) vs H Q E) : vs.length = np := by
  obtain ⟨B, ds, _, r, h⟩ := h
  unfold callF at h
  by_cases hl : ds.length = np
  · rw [← r.length, hl]
  · rw [if_neg hl] at h
    exact h.elim
theorem spP_len {f : MS} {np n : Nat} {vs : List V} {H : Hp} {Q : VK} {E : XK} (h : spP K mg ro (callP np n f) vs H Q E) : vs.length = np := by
  obtain ⟨B, a, ds, x, xs, F0, rfl, _, r, h⟩ := h
  unfold callP at h
  by_cases hl : ds.length + 1 = np
  · rw [List.length_cons, ← r.length, hl]
  · rw [if_neg hl] at h
    exact h.elim
theorem body_F {N : List Str} {np : Nat} {Q : VK} {E : XK} (hb : EvS K mg (fun cls d _ H => E cls d H) [] ro t m) (h : spF K mg ro (callF np N.length m) vs H Q E) : t { nx := fun _ H' => Q .non H', rt := Q } (L2.start N vs) H := by
  obtain ⟨B, ds, hB, r, h⟩ := h
  unfold callF at h
  by_cases hl : ds.length = np
  · rw [if_pos hl] at h
    have S : Sta K B (envF N.length ds) (L2.start N vs) H [] := by
      refine ⟨?_, List.nodup_nil, (fun a m => nomatch m), (fun b q => ⟨hB b q, fun m => nomatch m⟩)⟩
      unfold envF L2.start
      rw [r.length]
      exact relE_fz (relE_nones _) r
    refine hb B _ _ H [] _ S ?_
    have cut : ∀ {env' : Env} {σ' : St} {H' : Hp} {F' Fd : List Addr} {ds : List D} {vs : List V}, StaL K B env' σ' H' F' ds vs Fd → Nxt H [] H' (F' ++ Fd) → StaL K B [] [] H' [] ds vs Fd ∧ Nxt H [] H' Fd := fun {env' σ' H' F' Fd ds vs} S' N' => by
      have nd := List.nodup_append.mp S'.nd
      have ex : Ex (Fz B H' (F' ++ Fd)) (Fz B H' ([] ++ Fd)) := fz_mk fun b o e m n => ⟨e, fun z => m (List.mem_append_right _ z), n⟩
      exact ⟨⟨.nil, S'.own.step ex fun _ _ _ h => h, nd.2.1, fun a m => S'.liv a (List.mem_append_right _ m), fun b q => ⟨(S'.bad b q).1, fun z => (S'.bad b q).2 (List.mem_append_right _ z)⟩⟩, N'.weak fun a m => List.mem_append_right _ m⟩
    cases em : m (envF N.length ds) with
    | nx e =>
      rw [em] at h
      exact fun σ' H' F' S' N' _ => h .non H' [] ((cut (S'.rep (.cons .non .nil)) (by rw [List.append_nil]; exact N')).1) (fun _ => trivial) (N'.weak fun a m => nomatch m)
    | rt d e =>
      rw [em] at h
      exact fun v σ' H' F' Fd S' x N' _ => h v H' Fd (cut S' N').1 x (cut S' N').2
    | ex x e =>
      rw [em] at h
      exact fun cls dd σ' H' F' S' N' _ xx => h cls dd H' (N'.weak fun a m => nomatch m) xx
    | bk e => rw [em] at h; exact h.elim
    | ct e => rw [em] at h; exact h.elim
    | no => rw [em] at h; exact h.elim
  · rw [if_neg hl] at h
    exact h.elim
theorem ownAt0_get {e : Env} {a : D} (h : ownAt0 e = some a) : ∃ r, e = some (true, a) :: r := by
  unfold ownAt0 at h
  split at h
  · cases h; exact ⟨_, rfl⟩
  · cases h
theorem head_only {e : Env} {a : D} {x : V} {σ' : St} {vs : List V} {ds : List D} {H' : Hp} {F' Fd : List Addr} (h : ownAt0 e = some a) (S : StaL K B e σ' H' F' ds vs Fd) (k : σ'[0]? = some (some x)) :
    ∃ F1, StaL K B [some (true, a)] [some x] H' F1 ds vs Fd ∧ ∀ b ∈ F1, b ∈ F' := by
  obtain ⟨r, rfl⟩ := ownAt0_get h
  obtain ⟨rel, own, nd, liv, bad⟩ := S
  cases rel with
  | @ow d v env σ F1 G hx ho hr =>
    have e1 : v = x := by simpa using k
    subst e1
    have sub : ∀ b ∈ F1 ++ Fd, b ∈ (F1 ++ G) ++ Fd := fun b m => (List.mem_append.mp m).elim (fun m => List.mem_append_left _ (List.mem_append_left _ m)) fun m => List.mem_append_right _ m
    have ex : Ex (Fz B H' ((F1 ++ G) ++ Fd)) (Fz B H' (F1 ++ Fd)) := fz_mk fun b o e m n => ⟨e, fun z => m (sub b z), n⟩
    refine ⟨F1, ⟨?_, own.step ex fun _ _ _ h => h, ?_, fun b m => liv b (sub b m), fun b q => ⟨(bad b q).1, fun z => (bad b q).2 (sub b z)⟩⟩, fun b m => List.mem_append_left _ m⟩
    · have := RelE.ow hx (ho.step ex fun _ _ _ h => h) (RelE.nil (K := K) (H := H') (Z := Fz B H' (F1 ++ Fd)))
      rwa [List.append_nil] at this
    · simp only [List.nodup_append, List.mem_append] at nd ⊢
      grind
theorem body_P {N : List Str} {np : Nat} {Q : VK} {E : XK} (hb : EvS K mg (fun cls d _ H => E cls d H) [0] ro t m) (h : spP K mg ro (callP np N.length m) vs H Q E) : t { nx := fun _ H' => Q .non H', rt := Q } (L2.start N vs) H := by
  obtain ⟨B, a, ds, x, xs, F0, rfl, S0, r, h⟩ := h
  unfold callP at h
  by_cases hl : ds.length + 1 = np
  · rw [if_pos hl] at h
    have S : Sta K B (envP N.length a ds) (L2.start N (x :: xs)) H F0 := by
      refine ⟨?_, S0.nd, S0.liv, S0.bad⟩
      have rel := S0.rel
      unfold envP L2.start
      cases rel with
      | @ow d v env σ F1 G hx ho hr =>
        cases hr
        rw [List.append_nil] at *
        have := RelE.ow hx ho (relE_fz (relE_nones (K := K) (H := H) (Z := Fz B H F1) (N.length - (ds.length + 1))) r)
        rw [List.append_nil] at this
        rw [List.length_cons, ← r.length]
        exact this
    refine hb B _ _ H F0 _ S ?_
    have k0 : ∀ {σ' : St}, Kp [0] (L2.start N (x :: xs)) σ' → σ'[0]? = some (some x) := fun k => (k 0 (List.mem_singleton_self _)).trans rfl
    cases em : m (envP N.length a ds) with
    | nx e =>
      rw [em] at h
      intro σ' H' F' S' N' k
      dsimp only at h
      cases eo : ownAt0 e with
      | none => rw [eo] at h; exact h.elim
      | some a' =>
        rw [eo] at h
        obtain ⟨F1, S1, s1⟩ := head_only eo (S'.rep (.cons .non .nil)) (k0 k)
        exact h .non H' F1 [] S1 (fun _ => trivial) (N'.weak fun b m => by rw [List.append_nil] at m; exact s1 b m)
    | rt d e =>
      rw [em] at h
      intro v σ' H' F' Fd S' hx N' k
      dsimp only at h
      cases eo : ownAt0 e with
      | none => rw [eo] at h; exact h.elim
      | some a' =>
        rw [eo] at h
        obtain ⟨F1, S1, s1⟩ := head_only eo S' (k0 k)
        exact h v H' F1 Fd S1 hx (N'.weak fun b m => (List.mem_append.mp m).elim (fun m => List.mem_append_left _ (s1 b m)) fun m => List.mem_append_right _ m)
    | ex y e =>
      rw [em] at h
      intro cls dd σ' H' F' S' N' k xx
      dsimp only at h
      cases eo : ownAt0 e with
      | none => rw [eo] at h; exact h.elim
      | some a' =>
        rw [eo] at h
        obtain ⟨F1, S1, s1⟩ := head_only eo S'.nil (k0 k)
        exact h cls dd H' F1 S1.sta (N'.weak s1) xx
    | bk e => rw [em] at h; exact h.elim
    | ct e => rw [em] at h; exact h.elim
    | no => rw [em] at h; exact h.elim
  · rw [if_neg hl] at h
    exact h.elim
end
section
variable {P : Program} {w : World} {K : PySem.W.Frag} {mg : Str → Option Value} {base : Heap}
theorem fnF {x qual : Str} {st : Stmt} {f : Addr} {fd : FuncData} {N ps : List Str} {k : Nat} {ro : Bool} {m : MS} {g : List D → RF} {np nn : Nat} (hp : ps.length = np) (hn : N.length = nn) (hf : callF np nn m = g) (F : Fun K x qual st f fd) (S : FnScope N ps (defScope st))
    (hbody : ∀ (cdv : Value) (A : Around) (outer : List PySem.Env) (s : Shared) (H : Hp) (E : XK), Room k (A.deeper (envOfC qual (defScope st) s.heap.objs.size f cdv)) →
      ∃ t, PSs (cxOf (L2.CX P w) P w K mg base N qual (defScope st) f cdv A outer s H E) (defBody st) t ∧ EvS K mg (fun cls d _ H => E cls d H) [] ro t m) :
    FnOk P w K mg base (L2.CX P w) (k + 1) f fd ps (spF K mg ro g) := by
  subst hf hp hn; exact
  F.okX S (fun _ _ _ _ h => spF_len h) fun cdv A outer s H vs Q E hr h => by
    obtain ⟨t, h1, h2⟩ := hbody cdv A outer s H E hr
    exact ⟨t, h1, body_F h2 h⟩
theorem fnP {x qual : Str} {st : Stmt} {f : Addr} {fd : FuncData} {N ps : List Str} {k : Nat} {ro : Bool} {m : MS} {g : D → List D → RP} {np nn : Nat} (hp : ps.length = np) (hn : N.length = nn) (hf : callP np nn m = g) (F : Fun K x qual st f fd) (S : FnScope N ps (defScope st))
    (hbody : ∀ (cdv : Value) (A : Around) (outer : List PySem.Env) (s : Shared) (H : Hp) (E : XK), Room k (A.deeper (envOfC qual (defScope st) s.heap.objs.size f cdv)) →
      ∃ t, PSs (cxOf (L2.CX P w) P w K mg base N qual (defScope st) f cdv A outer s H E) (defBody st) t ∧ EvS K mg (fun cls d _ H => E cls d H) [0] ro t m) :
    FnOk P w K mg base (L2.CX P w) (k + 1) f fd ps (spP K mg ro g) := by
  subst hf hp hn; exact
  F.okX S (fun _ _ _ _ h => spP_len h) fun cdv A outer s H vs Q E hr h => by
    obtain ⟨t, h1, h2⟩ := hbody cdv A outer s H E hr
    exact ⟨t, h1, body_P h2 h⟩
end
/-! ### calls -/
def clF (f : List D → RF) (ms : M (List D)) : M D := fun env => match ms env with
  | .ok ds e => match f ds with
    | .ret d => .ok d e
    | .ex x => .ex x e
    | .no => .no
  | .ex e e2 => .ex e e2
  | .no => .no
def clP (i : Nat) (f : D → List D → RP) (ms : M (List D)) : M D := fun env => match rdM i env with
  | some _ => match ms env with
    | .ok ds e => match e[i]? with
      | some (some (true, a)) => match f a ds with
        | .ret d a' => .ok d (e.set i (some (true, a')))
        | .ex x a' => .ex x (e.set i (some (true, a')))
        | .no => .no
      | _ => .no
    | .ex e e2 => .ex e e2
    | .no => .no
  | none => .no
section
variable {K : PySem.W.Frag} {mg : Str → Option Value} {W : WX} {ro : Bool} {p : Bool} {i : Nat} {tA : TA} {ms : M (List D)}
  {B : Addr → Prop} {env : Env} {σ : St} {H H0 : Hp} {F F0 Fd : List Addr} {ds : List D} {vs : List V}
theorem Sta.ext {H' : Hp} (S : Sta K B env σ H F) (e : Ex H H') : Sta K B env σ H' F := by
  have nn : ∀ a, NT (H a) → NT (H' a) := fun a h => by
    cases q : H a with
    | none => exact absurd q h.1
    | some o => rw [e _ _ q, ← q]; exact h
  exact ⟨S.rel.step (fz_mk fun b o h m n => ⟨e _ _ h, m, n⟩) fun a _ o h => e _ _ h, S.nd, fun a m => nn a (S.liv a m), fun b q => ⟨nn b (S.bad b q).1, (S.bad b q).2⟩⟩
theorem call_F {f : List D → RF} (ha : EvA K mg W p tA ms) : (EvE K mg W p (tCallS (spF K mg ro f) (WE W) tA) (clF f ms)) ∧ (ro = true → EvN K mg W p (tCallS (spF K mg ro f) (WE W) tA) (clF f ms)) := by
  have key : ∀ B env σ H F (Q : VK), Sta K B env σ H F → (match clF f ms env with
      | .ok d env' => ∀ v H' F' Fd, StaL K B env' σ H' F' [d] [v] Fd → (ro = true → Exl d Fd) → Nxt H F H' (F' ++ Fd) → PureP p env env' F F' H H' → Q v H'
      | .ex e env' => ExP K mg W B σ H F e env'
      | .no => False) → tCallS (spF K mg ro f) (WE W) tA σ H Q := fun B env σ H F Q S h => by
    refine ha B env σ H F _ S ?_
    unfold clF at h
    cases em : ms env with
    | ex e e2 => rw [em] at h; exact h
    | no => rw [em] at h; exact h
    | ok ds e =>
      rw [em] at h
      intro vs H2 F2 Fa S1 N1 P2
      obtain ⟨S2, r2⟩ := S1.freeze
      have N2 : Nxt H F H2 F2 := N1.weak fun a m => List.mem_append_left _ m
      have ez : Fz (Hid B F2) H2 [] = Fz B H2 F2 := fz_congr fun b => by
        show b ∈ [] ∨ (B b ∨ b ∈ F2) ↔ b ∈ F2 ∨ B b
        simp [or_comm]
      dsimp only at h
      refine ⟨Hid B F2, ds, fun b q => q.elim (fun q => (S2.bad b q).1) fun q => S2.liv b q, by rw [ez]; exact r2, ?_⟩
      cases ef : f ds with
      | no => rw [ef] at h; exact h.elim
      | ret d =>
        rw [ef] at h
        intro v H3 Fd S3 hx N3
        have ex3 : Ex H2 H3 := fun b o e => N3.fr b o e fun z => nomatch z
        have S4 : StaL K B e σ H3 F2 [d] [v] Fd := by
          have := S2.nil.cons (S2 := (?_ : StaL K (Hid B []) e σ H3 F2 [d] [v] Fd)) (N := ⟨fun b o h _ => ex3 _ _ h, fun a m => (List.mem_append.mp m).elim .inl fun m => (N3.sub a m).elim (fun z => nomatch z) .inr⟩)
          · simpa using this
          · have eb : Fz (Hid B []) H3 (F2 ++ Fd) = Fz (Hid B F2) H3 ([] ++ Fd) := fz_congr fun b => by
              simp only [List.mem_append, Hid, List.nil_append]
              grind
            refine ⟨?_, by rw [eb]; exact S3.own, ?_, fun a m => ?_, fun b q => ?_⟩
            · rw [eb]
              refine S2.rel.step ?_ fun a _ o h => ex3 _ _ h
              rw [← ez]
              exact fz_mk fun b o h m n => ⟨ex3 _ _ h, fun z => (N3.sub b (by simpa using z)).elim (fun z => nomatch z) fun z => by (rw [z] at h; cases h), n⟩
            · refine List.nodup_append.mpr ⟨S2.nd, by simpa using S3.nd, fun a m b q z => ?_⟩
              subst z
              exact (S3.bad a (.inr m)).2 (by simpa using q)
            · rcases List.mem_append.mp m with m | m
              · exact (S3.bad a (.inr m)).1
              · exact S3.liv a (by simpa using m)
            · rcases q with q | q
              · refine ⟨(S3.bad b (.inl q)).1, fun z => ?_⟩
                rcases List.mem_append.mp z with z | z
                · exact (S2.bad b q).2 z
                · exact (S3.bad b (.inl q)).2 (by simpa using z)
              · exact nomatch q
        refine h v H3 F2 Fd S4 hx ⟨fun b o h m => ex3 _ _ (N2.fr b o h m), fun a m => ?_⟩ fun hp => ?_
        · rcases List.mem_append.mp m with m | m
          · exact N2.sub a m
          · exact N2.none_of ((N3.sub a m).elim (fun z => nomatch z) id)
        · obtain ⟨a1, a2, a3⟩ := P2 hp
          exact ⟨a1, a2, a3.trans ex3⟩
      | ex x =>
        rw [ef] at h
        intro cls dd H3 N3 xx
        have ex3 : Ex H2 H3 := fun b o e => N3.fr b o e fun z => nomatch z
        have S3 : Sta K B e σ H3 F2 := S2.ext ex3
        exact h cls dd H3 F2 S3 ⟨fun b o h m => ex3 _ _ (N2.fr b o h m), N2.sub⟩ xx
  refine ⟨fun B env σ H F Q S h => key B env σ H F Q S ?_, fun hro B env σ H F Q S h => key B env σ H F Q S ?_⟩
  · cases em : clF f ms env with
    | ok d e => rw [em] at h; exact fun v H' F' Fd s _ n pp => h v H' F' Fd s n pp
    | ex e e2 => rw [em] at h; exact h
    | no => rw [em] at h; exact h
  · cases em : clF f ms env with
    | ok d e => rw [em] at h; exact fun v H' F' Fd s x n pp => h v H' F' Fd s (x hro) n pp
    | ex e e2 => rw [em] at h; exact h
    | no => rw [em] at h; exact h
theorem call_P {f : D → List D → RP} (ha : EvA K mg W p tA ms) : (EvE K mg W false (tCallS (spP K mg ro f) (WE W) (tCons (tVar i) tA)) (clP i f ms)) ∧ (ro = true → EvN K mg W false (tCallS (spP K mg ro f) (WE W) (tCons (tVar i) tA)) (clP i f ms)) := by
  have key : ∀ B env σ H F (Q : VK), Sta K B env σ H F → (match clP i f ms env with
      | .ok d env' => ∀ v H' F' Fd, StaL K B env' σ H' F' [d] [v] Fd → (ro = true → Exl d Fd) → Nxt H F H' (F' ++ Fd) → Q v H'
      | .ex e env' => ExP K mg W B σ H F e env'
      | .no => False) → tCallS (spP K mg ro f) (WE W) (tCons (tVar i) tA) σ H Q := fun B env σ H F Q S h => by
    unfold clP at h
    cases e0 : rdM i env with
    | none => rw [e0] at h; exact h.elim
    | some d0 =>
      rw [e0] at h
      dsimp only at h
      have hv : ∃ v, σ[i]? = some (some v) := by
        unfold rdM at e0
        split at e0
        · rename_i k d' e3
          obtain ⟨v, G, hv, _, _⟩ := S.rel.anyAt e3
          exact ⟨v, hv⟩
        · cases e0
      obtain ⟨v, hv⟩ := hv
      refine ⟨v, hv, ha B env σ H F _ S ?_⟩
      cases em : ms env with
      | ex e e2 => rw [em] at h; exact h
      | no => rw [em] at h; exact h
      | ok ds e =>
        rw [em] at h
        intro vs H2 F2 Fa S1 N1 _
        obtain ⟨S2, r2⟩ := S1.freeze
        have N2 : Nxt H F H2 F2 := N1.weak fun a m => List.mem_append_left _ m
        dsimp only at h
        cases ei : e[i]? with
        | none => rw [ei] at h; exact h.elim
        | some sl =>
          rw [ei] at h
          cases sl with
          | none => exact h.elim
          | some kd =>
            obtain ⟨k, a⟩ := kd
            cases k with
            | false => exact h.elim
            | true =>
              dsimp only at h
              obtain ⟨hl, _⟩ := List.getElem?_eq_some_iff.mp ei
              obtain ⟨F1, Fi, Fr, eF, sl, g⟩ := S2.rel.cut hl
              obtain ⟨v2, hv2, x0, o0⟩ := sl _ ei
              rw [hv] at hv2
              cases hv2
              have nd := S2.nd
              rw [eF] at nd
              have mem : ∀ b, b ∈ F2 ↔ (b ∈ F1 ∨ b ∈ Fi ∨ b ∈ Fr) := fun b => by rw [eF]; simp only [List.mem_append]
              have dis : Fi.Nodup ∧ (∀ b ∈ Fi, b ∉ F1 ∧ b ∉ Fr) ∧ F1.Nodup ∧ Fr.Nodup ∧ (∀ b ∈ F1, b ∉ Fr) := by
                simp only [List.nodup_append, List.mem_append] at nd
                grind
              have ez : Fz (Hid B (F1 ++ Fr)) H2 Fi = Fz B H2 F2 := fz_congr fun b => by
                simp only [mem, Hid, List.mem_append]
                grind
              have S3 : Sta K (Hid B (F1 ++ Fr)) [some (true, a)] [some v] H2 Fi := by
                refine ⟨?_, dis.1, fun b m => S2.liv b ((mem b).mpr (.inr (.inl m))), fun b q => ?_⟩
                · have := RelE.ow x0 o0 (RelE.nil (K := K) (H := H2) (Z := Fz B H2 F2))
                  rw [List.append_nil] at this
                  rw [ez]
                  exact this
                · rcases q with q | q
                  · exact ⟨(S2.bad b q).1, fun m => (S2.bad b q).2 ((mem b).mpr (.inr (.inl m)))⟩
                  · rcases List.mem_append.mp q with q | q
                    · exact ⟨S2.liv b ((mem b).mpr (.inl q)), fun m => (dis.2.1 b m).1 q⟩
                    · exact ⟨S2.liv b ((mem b).mpr (.inr (.inr q))), fun m => (dis.2.1 b m).2 q⟩
              -- behind the call
              have back : ∀ {H3 : Hp} {F3 Fd : List Addr} {a' : D} {ds : List D} {vs : List V}, StaL K (Hid B (F1 ++ Fr)) [some (true, a')] [some v] H3 F3 ds vs Fd → Nxt H2 Fi H3 (F3 ++ Fd) →
                  StaL K B (e.set i (some (true, a'))) σ H3 (F1 ++ (F3 ++ Fr)) ds vs Fd ∧ Nxt H F H3 ((F1 ++ (F3 ++ Fr)) ++ Fd) := fun {H3 F3 Fd a' ds vs} S4 N4 => by
                have ez3 : Fz (Hid B (F1 ++ Fr)) H3 (F3 ++ Fd) = Fz B H3 ((F1 ++ (F3 ++ Fr)) ++ Fd) := fz_congr fun b => by
                  simp only [Hid, List.mem_append]
                  grind
                have keep : ∀ b, b ∈ F1 ∨ b ∈ Fr → ∀ o, H2 b = some o → H3 b = some o := fun b m o ho => N4.fr b o ho fun z => m.elim (dis.2.1 b z).1 (dis.2.1 b z).2
                have ex : Ex (Fz B H2 F2) (Fz B H3 ((F1 ++ (F3 ++ Fr)) ++ Fd)) := by
                  rw [← ez, ← ez3]
                  exact nxt_ex N4
                obtain ⟨g1, _, _⟩ := g H3 _ ex keep
                have rel := S4.rel
                have bad := S4.bad
                have nd4 := S4.nd
                cases rel with
                | @ow d' v' env' σ' F5 G5 hx ho hr =>
                  cases hr
                  rw [List.append_nil] at *
                  have r1 := g1 a' v F5 hx (by rw [← ez3]; exact ho)
                  rw [set_same hv] at r1
                  have nb : ∀ b, b ∈ F1 ∨ b ∈ Fr → b ∉ F5 ++ Fd := fun b m => (bad b (.inr (List.mem_append.mpr m))).2
                  refine ⟨⟨r1, by rw [← ez3]; exact S4.own, ?_, fun b m => ?_, fun b q => ⟨(bad b (.inl q)).1, fun m => ?_⟩⟩, ⟨fun b o ho m => ?_, fun b m => ?_⟩⟩
                  · simp only [List.nodup_append, List.mem_append] at nd4 nb ⊢
                    grind
                  · simp only [List.mem_append] at m
                    rcases m with (m | m | m) | m
                    · exact (bad b (.inr (List.mem_append_left _ m))).1
                    · exact S4.liv b (List.mem_append_left _ m)
                    · exact (bad b (.inr (List.mem_append_right _ m))).1
                    · exact S4.liv b (List.mem_append_right _ m)
                  · simp only [List.mem_append] at m
                    rcases m with (m | m | m) | m
                    · exact (S2.bad b q).2 ((mem b).mpr (.inl m))
                    · exact (bad b (.inl q)).2 (List.mem_append_left _ m)
                    · exact (S2.bad b q).2 ((mem b).mpr (.inr (.inr m)))
                    · exact (bad b (.inl q)).2 (List.mem_append_right _ m)
                  · have h2 := N2.fr b o ho m
                    by_cases mi : b ∈ Fi
                    · exact absurd ((N2.sub b ((mem b).mpr (.inr (.inl mi)))).elim (fun z => m z) fun z => by rw [z] at ho; cases ho) id
                    · exact N4.fr b o h2 mi
                  · simp only [List.mem_append] at m
                    have up : b ∈ F5 ++ Fd → b ∈ F ∨ H b = none := fun m => (N4.sub b m).elim (fun z => N2.sub b ((mem b).mpr (.inr (.inl z)))) N2.none_of
                    rcases m with (m | m | m) | m
                    · exact N2.sub b ((mem b).mpr (.inl m))
                    · exact up (List.mem_append_left _ m)
                    · exact N2.sub b ((mem b).mpr (.inr (.inr m)))
                    · exact up (List.mem_append_right _ m)
              refine ⟨_, a, ds, v, vs, Fi, rfl, S3, by rw [ez]; exact r2, ?_⟩
              cases ef : f a ds with
              | no => rw [ef] at h; exact h.elim
              | ret d a' =>
                rw [ef] at h
                intro v' H3 F3 Fd S4 hx N4
                obtain ⟨S5, N5⟩ := back S4 N4
                exact h v' H3 _ Fd S5 hx N5
              | ex x a' =>
                rw [ef] at h
                intro cls dd H3 F3 S4 N4 xx
                obtain ⟨S5, N5⟩ := back S4.nil (by rw [List.append_nil]; exact N4)
                rw [List.append_nil] at N5
                exact h cls dd H3 _ S5.sta N5 xx
  refine ⟨fun B env σ H F Q S h => key B env σ H F Q S ?_, fun hro B env σ H F Q S h => key B env σ H F Q S ?_⟩
  · cases em : clP i f ms env with
    | ok d e => rw [em] at h; exact fun v H' F' Fd s _ n => h v H' F' Fd s n fun z => nomatch z
    | ex e e2 => rw [em] at h; exact h
    | no => rw [em] at h; exact h
  · cases em : clP i f ms env with
    | ok d e => rw [em] at h; exact fun v H' F' Fd s x n => h v H' F' Fd s (x hro) n fun z => nomatch z
    | ex e e2 => rw [em] at h; exact h
    | no => rw [em] at h; exact h
theorem ev_callP {f : D → List D → RP} (ha : EvA K mg W p tA ms) : EvE K mg W false (tCallS (spP K mg ro f) (WE W) (tCons (tVar i) tA)) (clP i f ms) := (call_P ha).1
theorem en_callP {f : D → List D → RP} (ha : EvA K mg W p tA ms) : EvN K mg W false (tCallS (spP K mg true f) (WE W) (tCons (tVar i) tA)) (clP i f ms) := (call_P ha).2 rfl
theorem ev_callF {f : List D → RF} (ha : EvA K mg W p tA ms) : EvE K mg W p (tCallS (spF K mg ro f) (WE W) tA) (clF f ms) := (call_F ha).1
theorem en_callF {f : List D → RF} (ha : EvA K mg W p tA ms) : EvN K mg W p (tCallS (spF K mg true f) (WE W) tA) (clF f ms) := (call_F ha).2 rfl
end
end MM

set_option Elab.async false
set_option linter.all false
set_option maxRecDepth 100000
set_option maxHeartbeats 4000000
noncomputable section
namespace MM
open PySem PySem.Spec PyProof.Rows L2

/-- a, b = e and the like -/
def asgG (bd : D → Env → Option Env) (m : M D) : MS := fun env => match m env with
  | .ok d e => match bd d e with
    | some e2 => .nx e2
    | none => .no
  | .ex e e2 => .ex e e2
  | .no => .no
/-- the slot's own value handed on -/
def mvM (i : Nat) : M D := fun env => match env[i]? with
  | some (some (true, d)) => .ok d (env.set i none)
  | _ => .no
def ixT (mt : Env → Option D) (mk : M D) (env : Env) : Option D := match mt env with
  | some d => match mk env with
    | .ok k _ => ixF [d, k]
    | _ => none
  | none => none
/-- x[k] = v: a list, a dict -/
def setF (d k v : D) : Option D := match d with
  | .lst ds => match k with
    | .int j => match ixN ds.length j with
      | some n => some (.lst (ds.set n v))
      | none => none
    | _ => none
  | .dK kvs => match keyD k with
    | some k' => haveI : Decidable (kvs.length < sizeLine) := Classical.propDecidable _; if kvs.length < sizeLine then some (.dK (putG kvs k' v)) else none
    | none => none
  | .dT kvs => match k with
    | .tup ks => match keysD ks with
      | some k' => haveI : Decidable (kvs.length < sizeLine) := Classical.propDecidable _; if kvs.length < sizeLine then some (.dT (putG kvs k' v)) else none
      | none => none
    | _ => none
  | _ => none
def setM (i : Nat) (mv mk : M D) : MS := fun env => match mv env with
  | .ok v e1 => match rdM i e1 with
    | some _ => match mk e1 with
      | .ok k e2 => match e2[i]? with
        | some (some (true, d)) => match setF d k v with
          | some d' => .nx (e2.set i (some (true, d')))
          | none => .no
        | _ => .no
      | .ex e e2 => .ex e e2
      | .no => .no
    | none => .no
  | .ex e e2 => .ex e e2
  | .no => .no
section
variable {K : PySem.W.Frag} {mg : Str → Option Value} {W : WX} {ps : List Nat} {ro : Bool} {p q : Bool} {te t1 t2 tk : TE} {m mk : M D} {i : Nat} {tA : TA} {ms : M (List D)} {g : TG} {js : List Nat} {bd : D → Env → Option Env} {mt : Env → Option D}
  {B : Addr → Prop} {env : Env} {σ : St} {H H0 : Hp} {F F0 Fd : List Addr} {ds : List D} {vs : List V}

theorem es_asgG (h1 : EvE K mg W p te m) (hg : EvG K js g bd) (hj : ∀ j ∈ ps, j ∉ js) : EvS K mg W ps ro (tAsg te g) (asgG bd m) := fun B env σ H F D S h => by
  refine h1 B env σ H F _ S ?_
  unfold asgG at h
  cases em : m env with
  | ex e e2 => rw [em] at h; exact .xs h
  | no => rw [em] at h; exact h
  | ok d e =>
    rw [em] at h
    intro v H' F' Fd S' N _
    obtain ⟨S2, r⟩ := S'.freeze
    obtain ⟨x, e1, r⟩ := r.one_inv
    cases e1
    dsimp only at h
    cases eb : bd d e with
    | none => rw [eb] at h; exact h.elim
    | some e2 =>
      rw [eb] at h
      refine hg B e σ H' F' d v e2 _ S2 r eb fun σ' F2 S3 sub k _ => ?_
      exact h σ' H' F2 S3 (N.weak fun a m => List.mem_append_left _ (sub a m)) fun j hjp => k j (hj j hjp)
theorem en_mv : EvN K mg W false (tVar i) (mvM i) := fun B env σ H F Q S h => by
  unfold mvM at h
  split at h
  · rename_i d env' e1
    split at e1
    · rename_i d' e2
      cases e1
      obtain ⟨hl, _⟩ := List.getElem?_eq_some_iff.mp e2
      obtain ⟨F1, Fi, F2, eF, sl, g⟩ := S.rel.cut hl
      obtain ⟨v, hv, hx, o⟩ := sl d e2
      refine ⟨v, hv, ?_⟩
      have sub : ∀ b, b ∈ (F1 ++ F2) ++ Fi ↔ b ∈ F := fun b => by rw [eF]; simp only [List.mem_append]; grind
      have ez : Fz B H ((F1 ++ F2) ++ Fi) = Fz B H F := fz_congr fun b => by rw [sub b]
      obtain ⟨_, _, g3⟩ := g H (Fz B H F) (fun _ _ h => h) fun _ _ _ h => h
      have r3 := g3 (some v)
      rw [set_same hv] at r3
      have nd := S.nd
      rw [eF] at nd
      refine h v H (F1 ++ F2) Fi ⟨by rw [ez]; exact r3, by rw [ez]; exact .one o, ?_, fun b m => S.liv b ((sub b).mp m), fun b q => ⟨(S.bad b q).1, fun z => (S.bad b q).2 ((sub b).mp z)⟩⟩ hx ⟨fun b o h _ => h, fun b m => .inl ((sub b).mp m)⟩ fun z => nomatch z
      simp only [List.nodup_append, List.mem_append] at nd ⊢
      grind
    · cases e1
  · rename_i e1
    split at e1 <;> cases e1
  · exact h.elim
/-- a dict of one's own, or a frozen one, asked -/
theorem Own.dict {Z H : Hp} {F : List Addr} (ez : Ex Z H) {d k : D} {x y : V} {r : Option D} (o : Own K H Z d x F) (ry : Rep K Z k y) (e : getD2 d k = some r) :
    ∃ a o, x = .ref a ∧ DGet H a y o ∧ ((r = none ∧ o = none) ∨ ∃ d v, r = some d ∧ o = some v ∧ Rep K Z d v) := by
  cases o with
  | frz rx =>
    obtain ⟨a, o, e1, g, h⟩ := getD2_get rx ry e
    exact ⟨a, o, e1, dget_mono ez g, h⟩
  | lst _ _ => simp [getD2] at e
  | tup _ _ => simp [getD2] at e
  | deep _ => simp [getD2] at e
  | dK h rk =>
    unfold getD2 at e
    dsimp only at e
    split at e
    · rename_i k2 ek
      cases e
      rw [keyD_rep ry ek]
      refine ⟨_, _, rfl, .inl ⟨_, _, .inl h, rfl, rfl⟩, ?_⟩
      rcases rk.val (k := k2) with ⟨e1, e2⟩ | ⟨d, v, e1, e2, r⟩
      · exact .inl ⟨e1, e2⟩
      · exact .inr ⟨d, v, e1, e2, r⟩
    · cases e
  | dT h rk =>
    unfold getD2 at e
    dsimp only at e
    split at e
    · rename_i ks
      split at e
      · rename_i k2 ek
        cases e
        cases ry with
        | tup hb rb =>
          rw [keysD_rep rb ek] at hb
          refine ⟨_, _, rfl, .inr ⟨_, _, _, .inl h, rfl, ez _ _ hb, rfl⟩, ?_⟩
          rcases rk.val (k := k2) with ⟨e1, e2⟩ | ⟨d, v, e1, e2, r⟩
          · exact .inl ⟨e1, e2⟩
          · exact .inr ⟨d, v, e1, e2, r⟩
      · cases e
    · cases e
theorem Own.itemsT {Z H : Hp} {ds : List D} {v : V} {F : List Addr} (ez : Ex Z H) (o : Own K H Z (.tup ds) v F) : ∃ a vs G, v = .ref a ∧ H a = some (.tup vs) ∧ OwnL K H Z ds vs G ∧ ∀ b ∈ G, b ∈ F := by
  cases o with
  | frz r =>
    cases r with
    | tup h r => exact ⟨_, _, [], rfl, ez _ _ h, .of_rep r, fun b m => nomatch m⟩
  | tup h r => exact ⟨_, _, _, rfl, ez _ _ h, r, fun b m => m⟩
theorem atI_ownL {Z H : Hp} {ds : List D} {vs : List V} {F : List Addr} {i : Int} {d : D} (r : OwnL K H Z ds vs F) (e : atI ds i = some d) : ∃ v G, atI vs i = some v ∧ Own K H Z d v G ∧ ∀ a ∈ G, a ∈ F := by
  unfold atI at e ⊢
  rw [← r.length]
  cases ej : ixN ds.length i with
  | none => rw [ej] at e; cases e
  | some j =>
    rw [ej] at e
    exact r.get (i := j) e
/-- an item, by its place or key -/
theorem Own.ix {Z H : Hp} {F : List Addr} (ez : Ex Z H) {d k r : D} {x y : V} (o : Own K H Z d x F) (ry : Rep K Z k y) (e : ixF [d, k] = some r) : ∃ v G, Own K H Z r v G ∧ (∀ a ∈ G, a ∈ F) ∧ ∀ Q : VK, Q v H → rIxAny K x y H Q := by
  unfold ixF at e
  split at e
  · rename_i eq
    cases eq
    cases ry
    obtain ⟨a, vs, G, rfl, h, r, sl⟩ := o.items ez
    obtain ⟨v, G', ev, o', s⟩ := atI_ownL r e
    exact ⟨v, G', o', fun b m => sl.subset (s b m), fun Q q => .inl (.inl ⟨_, _, _, v, rfl, rfl, .of h, ev, q⟩)⟩
  · rename_i eq
    cases eq
    cases ry
    obtain ⟨a, vs, G, rfl, h, r, sl⟩ := o.itemsT ez
    obtain ⟨v, G', ev, o', s⟩ := atI_ownL r e
    exact ⟨v, G', o', fun b m => sl b (s b m), fun Q q => .inl (.inr (.inl ⟨_, _, _, v, rfl, rfl, .of h, ev, q⟩))⟩
  · rename_i ns i eq
    cases eq
    cases ry
    have rx := o.imm rfl
    cases rx with
    | scr h =>
      cases en : atI ns i with
      | none => rw [en] at e; cases e
      | some n =>
        rw [en] at e
        cases e
        refine ⟨.int n, [], .frz (.int n), (fun a m => nomatch m), fun Q q => .inl (.inl ⟨_, _, i, .int n, rfl, rfl, sql_mono ez h, ?_, q⟩)⟩
        unfold atI at en ⊢
        rw [List.length_map]
        cases ej : ixN ns.length i with
        | none => rw [ej] at en; cases en
        | some j =>
          rw [ej] at en
          have en' : ns[j]? = some n := en
          show (ns.map V.int)[j]? = _
          rw [List.getElem?_map, en']
          rfl
  · rename_i z i eq
    cases eq
    cases ry
    have rx := o.imm rfl
    cases rx
    split at e
    · rename_i hz
      cases ec : atI z.cps.toList i with
      | none => rw [ec] at e; cases e
      | some c =>
        rw [ec] at e
        cases e
        exact ⟨_, [], .frz (.str _), (fun a m => nomatch m), fun Q q => .inl (.inr (.inr ⟨z, i, c, rfl, rfl, hz, ec, q⟩))⟩
    · cases e
  · rename_i d1 k1 _ _ _ _ eq
    cases eq
    cases eg : getD2 d k with
    | none => rw [eg] at e; cases e
    | some r' =>
      rw [eg] at e
      dsimp only at e
      subst e
      obtain ⟨a, o', rfl, g, h⟩ := o.dict ez ry eg
      rcases h with ⟨h, _⟩ | ⟨d', v, e1, e2, rv⟩
      · cases h
      · cases e1
        subst e2
        exact ⟨v, [], .frz rv, (fun a m => nomatch m), fun Q q => .inr ⟨a, v, rfl, g, q⟩⟩
  · cases e
/-- a place within a place -/
theorem evt_ix (h1 : EvT K t1 mt) (h2 : EvE K mg W true t2 mk) : EvT K (tOp (rIxAny K) t1 t2) (ixT mt mk) := fun B env σ H F Q d S e h => by
  unfold ixT at e
  split at e
  · rename_i d0 e0
    split at e
    · rename_i k e1 ek
      refine h1 B env σ H F _ d0 S e0 fun x H1 Fs ex1 S1 o sb => ?_
      refine h2 B env σ H1 F _ S1 ?_
      rw [ek]
      intro y H2 F2 Fd S2 N2 P2
      obtain ⟨a1, a2, a3⟩ := P2 rfl
      subst a1 a2
      obtain ⟨S3, r3⟩ := S2.freeze
      obtain ⟨y', e', r3⟩ := r3.one_inv
      cases e'
      have o2 : Own K H2 (Fz B H2 F2) d0 x Fs := o.step (fz_mk fun b o e m n => ⟨a3 _ _ e, m, n⟩) fun a _ o h => a3 _ _ h
      obtain ⟨v, G, og, sg, go⟩ := o2.ix (fz_ex _ _ _) r3 e
      exact go Q (h v H2 G (ex1.trans a3) S3 og fun a m => sb a (sg a m))
    · cases e
  · cases e
theorem OwnL.setF {Z H : Hp} {d : D} {v : V} (r : Rep K Z d v) : ∀ {ds : List D} {vs : List V} {F : List Addr} (n : Nat), OwnL K H Z ds vs F → ∃ F', OwnL K H Z (ds.set n d) (vs.set n v) F' ∧ F'.Sublist F
  | _, _, _, n, .nil => ⟨[], .nil, List.Sublist.refl _⟩
  | _, _, _, 0, .cons (F := Fa) (G := Ga) h t => ⟨Ga, .cons (F := []) (.frz r) t, List.sublist_append_right _ _⟩
  | _, _, _, n + 1, .cons (F := Fa) (G := Ga) h t => by
    obtain ⟨F', o, s⟩ := OwnL.setF r n t
    exact ⟨Fa ++ F', .cons h o, s.append_left Fa⟩
/-- a mutable dict in a slot -/
theorem Sta.mutC (S : Sta K B env σ H F) {d : D} {l : Addr} (hi : env[i]? = some (some (true, d))) (hv : σ[i]? = some (some (.ref l))) (hd : ∀ Fi, Exl d Fi → Own K H (Fz B H F) d (.ref l) Fi → Fi = [l]) :
    l ∈ F ∧ ∀ d' o', ((∀ ys, o' ≠ HO.tup ys) ∧ ∀ fs, o' ≠ HO.xd fs) → Exl d' [l] → (∀ H' Z', H' l = some o' → Ex (Fz B H F) Z' → Own K H' Z' d' (.ref l) [l]) → Sta K B (env.set i (some (true, d'))) σ (upd H l o') F := by
  obtain ⟨hl, _⟩ := List.getElem?_eq_some_iff.mp hi
  obtain ⟨F1, Fi, F2, eF, sl, g⟩ := S.rel.cut hl
  obtain ⟨v0, hv0, x0, o0⟩ := sl _ hi
  rw [hv] at hv0
  cases hv0
  have e1 := hd Fi x0 o0
  subst e1
  have lF : l ∈ F := by rw [eF]; simp
  have nd := S.nd
  rw [eF] at nd
  have nl : l ∉ F1 ∧ l ∉ F2 := by
    simp only [List.nodup_append, List.mem_append] at nd
    grind
  refine ⟨lF, fun d' o' nt hx go => ?_⟩
  have ex : Ex (Fz B H F) (Fz B (upd H l o') F) := fz_mk fun b o e m n => by
    have nb : b ≠ l := fun z => m (by rw [z]; exact lF)
    exact ⟨by rw [upd_ne nb]; exact e, m, n⟩
  obtain ⟨g1, _, _⟩ := g (upd H l o') _ ex fun a m o h => by
    have na : a ≠ l := fun z => by subst z; exact m.elim nl.1 nl.2
    rw [upd_ne na]
    exact h
  have r1 := g1 d' (.ref l) [l] hx (go _ _ upd_same ex)
  rw [set_same hv, ← eF] at r1
  refine ⟨r1, S.nd, fun a m => ?_, fun b q => ⟨?_, (S.bad b q).2⟩⟩
  · by_cases e : a = l
    · subst e; rw [upd_same]; exact ⟨nofun, fun ys z => nt.1 ys (Option.some.inj z), fun fs z => nt.2 fs (Option.some.inj z)⟩
    · rw [upd_ne e]; exact S.liv a m
  · by_cases e : b = l
    · subst e; rw [upd_same]; exact ⟨nofun, fun ys z => nt.1 ys (Option.some.inj z), fun fs z => nt.2 fs (Option.some.inj z)⟩
    · rw [upd_ne e]; exact (S.bad b q).1
/-- x[k] = v, on values -/
theorem set_go {Q : Hp → Prop} (S : Sta K B env σ H F) {d d' k0 v0 : D} {k v o : V} (hi : env[i]? = some (some (true, d))) (ho : σ[i]? = some (some o)) (rk : Rep K (Fz B H F) k0 k) (rv : Rep K (Fz B H F) v0 v) (es : setF d k0 v0 = some d')
    (go : ∀ l o' F', o = .ref l → l ∈ F → Sta K B (env.set i (some (true, d'))) σ (upd H l o') F' → (∀ a ∈ F', a ∈ F) → Q (upd H l o')) : rSetAny o k v H Q := by
  obtain ⟨v1, G, hv1, o1, _⟩ := S.rel.anyAt hi
  rw [ho] at hv1
  cases hv1
  cases d with
  | lst ds =>
    cases k0 with
    | int j =>
      simp only [setF] at es
      cases rk
      cases en : ixN ds.length j with
      | none => rw [en] at es; cases es
      | some n =>
        rw [en] at es
        cases es
        have e0 : F ++ [] = F := List.append_nil _
        obtain ⟨l, vs, Fc, hv2, hH2, oc, ndc, nl, lF2, gg⟩ := (S.rep (.cons rv .nil)).mutL hi
        rw [ho] at hv2
        cases hv2
        obtain ⟨F', o2, sl⟩ := oc.setF (v := v) (by rw [e0]; exact rv) n
        obtain ⟨F3, S3, s3⟩ := gg _ _ .non .non F' [] o2 (.frz .non) (by rw [List.append_nil] at ndc ⊢; exact ndc.sublist sl) fun a m => by rw [List.append_nil] at m; exact List.mem_append_left _ (sl.subset m)
        exact .inl ⟨l, vs, j, n, rfl, rfl, hH2, by rw [← oc.length]; exact en, go l _ F3 rfl lF2 S3.sta fun a m => by
          have := s3 a (List.mem_append_left _ m)
          rwa [e0] at this⟩
    | _ => simp [setF] at es
  | dK kvs =>
    simp only [setF] at es
    cases ek : keyD k0 with
    | none => rw [ek] at es; cases es
    | some k' =>
      rw [ek] at es
      dsimp only at es
      by_cases hz : kvs.length < sizeLine
      · rw [if_pos hz] at es
        cases es
        obtain ⟨hl, _⟩ := List.getElem?_eq_some_iff.mp hi
        obtain ⟨F1, Fi, F2, eF, sl, g⟩ := S.rel.cut hl
        obtain ⟨v2, hv2, x2, o2⟩ := sl _ hi
        rw [ho] at hv2
        cases hv2
        obtain ⟨l, kws, rfl, hH, _, rr⟩ := o2.topK x2
        obtain ⟨lF, gg⟩ := S.mutC hi ho fun Fi x o => by
          obtain ⟨l', kws', e1, _, e2, _⟩ := o.topK x
          cases e1
          exact e2
        rw [keyD_rep rk ek]
        exact .inr ⟨l, _, rfl, .inl ⟨kws, k', hH, rfl, by rw [← rr.length]; exact hz, rfl⟩, go l _ F rfl lF (gg _ _ ⟨nofun, nofun⟩ (List.cons_ne_nil _ _) fun H' Z' h e => .dK h ((rr.put rv).mono e)) fun a m => m⟩
      · rw [if_neg hz] at es; cases es
  | dT kvs =>
    cases k0 with
    | tup ks =>
      simp only [setF] at es
      cases ek : keysD ks with
      | none => rw [ek] at es; cases es
      | some k' =>
        rw [ek] at es
        dsimp only at es
        by_cases hz : kvs.length < sizeLine
        · rw [if_pos hz] at es
          cases es
          obtain ⟨hl, _⟩ := List.getElem?_eq_some_iff.mp hi
          obtain ⟨F1, Fi, F2, eF, sl, g⟩ := S.rel.cut hl
          obtain ⟨v2, hv2, x2, o2⟩ := sl _ hi
          rw [ho] at hv2
          cases hv2
          obtain ⟨l, kws, rfl, hH, _, rr⟩ := o2.topT x2
          obtain ⟨lF, gg⟩ := S.mutC hi ho fun Fi x o => by
            obtain ⟨l', kws', e1, _, e2, _⟩ := o.topT x
            cases e1
            exact e2
          cases rk with
          | tup hb rb =>
            rw [keysD_rep rb ek] at hb
            exact .inr ⟨l, _, rfl, .inr ⟨kws, k', _, hH, rfl, fz_ex _ _ _ _ _ hb, by rw [← rr.length]; exact hz, rfl⟩, go l _ F rfl lF (gg _ _ ⟨nofun, nofun⟩ (List.cons_ne_nil _ _) fun H' Z' h e => .dT h ((rr.put rv).mono e)) fun a m => m⟩
        · rw [if_neg hz] at es; cases es
    | _ => simp [setF] at es
  | _ => simp [setF] at es
/-- x[k] = v -/
theorem es_set (h1 : EvE K mg W p te m) (h2 : EvE K mg W q tk mk) : EvS K mg W ps ro (tAsg te (gSub (tVar i) tk rSetAny)) (setM i m mk) := fun B env σ H F D S h => by
  refine h1 B env σ H F _ S ?_
  unfold setM at h
  cases em : m env with
  | ex e e2 => rw [em] at h; exact .xs h
  | no => rw [em] at h; exact h
  | ok v0 e1 =>
    rw [em] at h
    dsimp only at h
    intro v H1 F1 Fd S1 N1 _
    cases e0 : rdM i e1 with
    | none => rw [e0] at h; exact h.elim
    | some d0 =>
      rw [e0] at h
      dsimp only at h
      have hv : ∃ o, σ[i]? = some (some o) := by
        unfold rdM at e0
        split at e0
        · rename_i k d' e3
          obtain ⟨v, G, hv, _, _⟩ := S1.rel.anyAt e3
          exact ⟨v, hv⟩
        · cases e0
      obtain ⟨o, ho⟩ := hv
      refine ⟨o, ho, h2 (Hid B Fd) e1 σ H1 F1 _ S1.hide ?_⟩
      cases ek : mk e1 with
      | ex e e2 =>
        rw [ek] at h
        exact fun c d H' F' S' N' x => h c d σ H' F' (S'.imp fun b z => .inl z) (N1.trans N' fun a m => List.mem_append_left _ m) .refl x
      | no => rw [ek] at h; exact h
      | ok k0 e2 =>
        rw [ek] at h
        dsimp only at h
        intro k H2 F2 Fk S2 N2 _
        have S3 := S1.cons S2 N2
        have N3 := N1.cons N2
        obtain ⟨S4, r4⟩ := S3.freeze
        obtain ⟨x, y, e', rv, rk⟩ := r4.two_inv
        cases e'
        have N4 : Nxt H F H2 F2 := N3.weak fun a m => List.mem_append_left _ m
        cases ei : e2[i]? with
        | none => rw [ei] at h; exact h.elim
        | some sl =>
          rw [ei] at h
          cases sl with
          | none => exact h.elim
          | some kd =>
            obtain ⟨kk, d⟩ := kd
            cases kk with
            | false => exact h.elim
            | true =>
              dsimp only at h
              cases es : setF d k0 v0 with
              | none => rw [es] at h; exact h.elim
              | some d' =>
                rw [es] at h
                exact set_go S4 ei ho rk rv es fun l o' F' e1 lF S5 s5 => h σ _ F' S5 (N4.mut lF s5) .refl
/-! ### displays of dicts -/
theorem en_dnewK : EvN K mg W true tDNewK (cM (.dK [])) := fun B env σ H F Q S h p hp => by
  have S1 : StaL K B env σ (upd H p (.dK [])) F [.dK []] [.ref p] [p] := by
    have S0 := (S.nil.mkL hp)
    have e0 : upd H p (.dK []) = upd (upd H p (.lst [])) p (.dK []) := by rw [upd_upd]
    have hn := S.nil.sub0 hp
    rw [List.append_nil] at hn
    have ex : Ex (Fz B H F) (Fz B (upd H p (.dK [])) (F ++ [p])) := fz_mk fun b o e m n => by
      have np : b ≠ p := fun z => by subst z; rw [hp] at e; cases e
      exact ⟨by rw [upd_ne np]; exact e, by simp [m, np], n⟩
    refine ⟨S.rel.step ex fun a _ o h => ex_new hp _ _ h, .one (.dK upd_same .nil), S0.nd, fun a m => ?_, fun b q => ⟨?_, (S0.bad b q).2⟩⟩
    · by_cases e : a = p
      · subst e; rw [upd_same]; exact ⟨nofun, nofun, nofun⟩
      · rw [upd_ne e]
        have := S0.liv a m
        rwa [upd_ne e] at this
    · have := S0.bad b q
      by_cases e : b = p
      · subst e; rw [upd_same]; exact ⟨nofun, nofun, nofun⟩
      · rw [upd_ne e]
        have := this.1
        rwa [upd_ne e] at this
  exact h _ _ F [p] S1 (List.cons_ne_nil _ _) (Nxt.mkL (F1 := F) (Fd := []) (by rw [List.append_nil]; exact .refl) hp) fun _ => ⟨rfl, rfl, ex_new hp⟩
theorem en_dnewT : EvN K mg W true tDNewT (cM (.dT [])) := fun B env σ H F Q S h p hp => by
  have S1 : StaL K B env σ (upd H p (.dT [])) F [.dT []] [.ref p] [p] := by
    have S0 := (S.nil.mkL hp)
    have hn := S.nil.sub0 hp
    rw [List.append_nil] at hn
    have ex : Ex (Fz B H F) (Fz B (upd H p (.dT [])) (F ++ [p])) := fz_mk fun b o e m n => by
      have np : b ≠ p := fun z => by subst z; rw [hp] at e; cases e
      exact ⟨by rw [upd_ne np]; exact e, by simp [m, np], n⟩
    refine ⟨S.rel.step ex fun a _ o h => ex_new hp _ _ h, .one (.dT upd_same .nil), S0.nd, fun a m => ?_, fun b q => ⟨?_, (S0.bad b q).2⟩⟩
    · by_cases e : a = p
      · subst e; rw [upd_same]; exact ⟨nofun, nofun, nofun⟩
      · rw [upd_ne e]
        have := S0.liv a m
        rwa [upd_ne e] at this
    · have := S0.bad b q
      by_cases e : b = p
      · subst e; rw [upd_same]; exact ⟨nofun, nofun, nofun⟩
      · rw [upd_ne e]
        have := this.1
        rwa [upd_ne e] at this
  exact h _ _ F [p] S1 (List.cons_ne_nil _ _) (Nxt.mkL (F1 := F) (Fd := []) (by rw [List.append_nil]; exact .refl) hp) fun _ => ⟨rfl, rfl, ex_new hp⟩
end
end MM

set_option Elab.async false
set_option linter.all false
set_option maxRecDepth 100000
set_option maxHeartbeats 4000000
noncomputable section
namespace MM
open PySem PySem.Spec PyProof.Rows L2

/-! ### isinstance of built-in classes -/
inductive Ty6 where
  | int | bool | list | tuple | str | dict
def Ty6.nm : Ty6 → String
  | .int => "int" | .bool => "bool" | .list => "list" | .tuple => "tuple" | .str => "str" | .dict => "dict"
def isiB : Ty6 → D → Option Bool
  | .int, .bl _ => some true | .int, .int _ => some true
  | .bool, .bl _ => some true
  | .list, .lst _ => some true
  | .tuple, .tup _ => some true
  | .str, .str _ => some true
  | .dict, .dK _ => some true | .dict, .dT _ => some true
  | _, .opq _ => none | _, .scr _ => none | _, .deep _ => none | _, .dTf _ => none | _, .nam _ _ => none | _, .xn _ _ _ => none
  | _, _ => some false
def isiF (T : Ty6) : List D → Option D
  | [d, .opq (.ty n)] => if n = T.nm then (isiB T d).map .bl else none
  | _ => none
section
variable {K : PySem.W.Frag} {mg : Str → Option Value} {W : WX} {p q : Bool} {te ta tb tc : TE} {m ma mb mc : M D} {i : Nat} {tA : TA} {ms : M (List D)}
theorem kb_int : kitB "NoneType" "int" = some false ∧ kitB "bool" "int" = some true ∧ kitB "int" "int" = some true ∧ kitB "str" "int" = some false ∧ kitB "list" "int" = some false ∧ kitB "tuple" "int" = some false ∧ kitB "dict" "int" = some false := by decide +kernel
theorem kb_bool : kitB "NoneType" "bool" = some false ∧ kitB "bool" "bool" = some true ∧ kitB "int" "bool" = some false ∧ kitB "str" "bool" = some false ∧ kitB "list" "bool" = some false ∧ kitB "tuple" "bool" = some false ∧ kitB "dict" "bool" = some false := by decide +kernel
theorem kb_list : kitB "NoneType" "list" = some false ∧ kitB "bool" "list" = some false ∧ kitB "int" "list" = some false ∧ kitB "str" "list" = some false ∧ kitB "list" "list" = some true ∧ kitB "tuple" "list" = some false ∧ kitB "dict" "list" = some false := by decide +kernel
theorem kb_tuple : kitB "NoneType" "tuple" = some false ∧ kitB "bool" "tuple" = some false ∧ kitB "int" "tuple" = some false ∧ kitB "str" "tuple" = some false ∧ kitB "list" "tuple" = some false ∧ kitB "tuple" "tuple" = some true ∧ kitB "dict" "tuple" = some false := by decide +kernel
theorem kb_str : kitB "NoneType" "str" = some false ∧ kitB "bool" "str" = some false ∧ kitB "int" "str" = some false ∧ kitB "str" "str" = some true ∧ kitB "list" "str" = some false ∧ kitB "tuple" "str" = some false ∧ kitB "dict" "str" = some false := by decide +kernel
theorem kb_dict : kitB "NoneType" "dict" = some false ∧ kitB "bool" "dict" = some false ∧ kitB "int" "dict" = some false ∧ kitB "str" "dict" = some false ∧ kitB "list" "dict" = some false ∧ kitB "tuple" "dict" = some false ∧ kitB "dict" "dict" = some true := by decide +kernel
theorem isiB_kit {H : Hp} {T : Ty6} {d : D} {x : V} {b : Bool} (r : Rep K H d x) (e : isiB T d = some b) : ∃ t, TyX K H x t ∧ PySem.W.kitOne K t (.type T.nm) = some b := by
  have a1 := kb_int; have a2 := kb_bool; have a3 := kb_list; have a4 := kb_tuple; have a5 := kb_str; have a6 := kb_dict
  cases r with
  | non => refine ⟨_, .base .non, kit_ty ?_⟩; cases T <;> cases e <;> simp only [Ty6.nm, a1, a2, a3, a4, a5, a6]
  | bl => refine ⟨_, .base (.bl _), kit_ty ?_⟩; cases T <;> cases e <;> simp only [Ty6.nm, a1, a2, a3, a4, a5, a6]
  | int => refine ⟨_, .base (.int _), kit_ty ?_⟩; cases T <;> cases e <;> simp only [Ty6.nm, a1, a2, a3, a4, a5, a6]
  | str => refine ⟨_, .base (.str _), kit_ty ?_⟩; cases T <;> cases e <;> simp only [Ty6.nm, a1, a2, a3, a4, a5, a6]
  | lst h _ => refine ⟨_, .base (.lst h), kit_ty ?_⟩; cases T <;> cases e <;> simp only [Ty6.nm, a1, a2, a3, a4, a5, a6]
  | tup h _ => refine ⟨_, .base (.tup h), kit_ty ?_⟩; cases T <;> cases e <;> simp only [Ty6.nm, a1, a2, a3, a4, a5, a6]
  | dK h _ => refine ⟨_, .base (.dK h), kit_ty ?_⟩; cases T <;> cases e <;> simp only [Ty6.nm, a1, a2, a3, a4, a5, a6]
  | dT h _ => refine ⟨_, .base (.dT h), kit_ty ?_⟩; cases T <;> cases e <;> simp only [Ty6.nm, a1, a2, a3, a4, a5, a6]
  | scr => cases T <;> cases e
  | opq => cases T <;> cases e
  | deep _ => cases T <;> cases e
  | dTf _ _ => cases T <;> cases e
  | cls _ => cases T <;> cases e
  | exn _ _ => cases T <;> cases e
  | xn _ _ _ => cases T <;> cases e
theorem s_isi {T : Ty6} : OpS K (rIsi K) (isiF T) := fun H ds vs Q d R ef q => by
  unfold isiF at ef
  split at ef
  · rename_i d0 n
    obtain ⟨x, y, rfl, rx, ry⟩ := R.two_inv
    cases ry
    split at ef
    · rename_i hn
      subst hn
      cases eb : isiB T d0 with
      | none => rw [eb] at ef; cases ef
      | some b =>
        rw [eb] at ef
        cases ef
        obtain ⟨t, ty, k⟩ := isiB_kit rx eb
        exact ⟨x, _, t, _, b, rfl, .ty _, ty, k, q _ (.bl _)⟩
    · cases ef
  · cases ef
theorem ev_ty {n : String} : EvE K mg W true (tC (.ty n)) (cM (.opq (.ty n))) := ev_c fun _ => .opq _

/-! ### ints put in order -/
def intsOf : List D → Option (List Int)
  | [] => some []
  | .int i :: ds => match intsOf ds with
    | some ns => some (i :: ns)
    | none => none
  | _ :: _ => none
theorem intsOf_rep {Z : Hp} : ∀ {ds : List D} {vs : List V} {ns : List Int}, RepL K Z ds vs → intsOf ds = some ns → vs = ns.map V.int
  | _, _, _, .nil, e => by cases e; rfl
  | _, _, _, .cons h t, e => by
    cases h <;> first | (simp [intsOf] at e; done) | skip
    rename_i i
    simp only [intsOf] at e
    split at e
    · rename_i ns en
      cases e
      rw [intsOf_rep t en]
      rfl
    · cases e
def isort (ns : List Int) : List Int := ns.mergeSort
theorem isort_of {ns ns' : List Int} (hp : ns'.Perm ns) (hs : ns'.Pairwise (· ≤ ·)) : ns' = isort ns := by
  have h1 : (isort ns).Perm ns := List.mergeSort_perm _ _
  have h2 : (isort ns).Pairwise (· ≤ ·) := by
    have := List.pairwise_mergeSort (le := fun a b : Int => decide (a ≤ b)) (fun a b c h1 h2 => by simp at *; omega) (fun a b => by simp; omega) ns
    simpa [isort] using this
  exact List.Perm.eq_of_pairwise (fun a b _ _ h1 h2 => Int.le_antisymm h1 h2) hs h2 (hp.trans h1.symm)
/-- sorted(xs): ints; the keys of a dict of ints -/
def sortedF : List D → Option D
  | [.lst ds] => match intsOf ds with
    | some ns => some (.lst ((isort ns).map .int))
    | none => none
  | _ => none
theorem repL_isort {Z : Hp} (ns : List Int) : RepL K Z ((isort ns).map D.int) ((isort ns).map V.int) := repL_ints _
theorem g_sortedI : OpN K (rSortedI K) sortedF := fun Z H ds vs Q d ez R ef q ql qt => by
  unfold sortedF at ef
  split at ef
  · obtain ⟨x, rfl, rx⟩ := R.one_inv
    split at ef
    · rename_i ns en
      cases ef
      cases rx with
      | lst h r =>
        refine ⟨_, ns, rfl, .of (ez _ _ (by rw [← intsOf_rep r en]; exact h)), fun ns' p hp hs new => ?_⟩
        rw [isort_of hp hs]
        exact ql _ p _ rfl new (repL_isort ns)
    · cases ef
  · cases ef

/-! ### a < b < c -/
def chM (f g : Int → Int → Bool) (ms : M (List D)) (mc : M D) : M D := fun env => match ms env with
  | .ok [.int i, .int j] e => if f i j then match mc e with
      | .ok (.int k) e2 => .ok (.bl (g j k)) e2
      | .ok _ _ => .no
      | .ex x e2 => .ex x e2
      | .no => .no
    else .ok (.bl false) e
  | .ok _ _ => .no
  | .ex e e2 => .ex e e2
  | .no => .no
theorem ev_chain {f g : Int → Int → Bool} (hab : EvR K mg W p (tCons ta (tCons tb tNil)) ms) (hc : EvE K mg W q tc mc) : EvE K mg W (p && q) (tChain (rI0 fun i j => .bl (f i j)) (rI0 fun i j => .bl (g i j)) ta tb tc) (chM f g ms mc) := fun B env σ H F Q S h => by
  have ht : ∀ (Q' : List V → Hp → Prop), (tCons ta (tCons tb tNil)) σ H Q' → (∀ vs H', Q' vs H' = (match vs with | [x, y] => (rI0 fun i j => .bl (f i j)) x y H' fun z H3 => ∃ k, z = .bl k ∧ (if k = true then tc σ H3 fun w' H4 => (rI0 fun i j => .bl (g i j)) y w' H4 Q else Q (.bl false) H3) | _ => False)) → tChain (rI0 fun i j => .bl (f i j)) (rI0 fun i j => .bl (g i j)) ta tb tc σ H Q := fun Q' h1 h2 => by
    have e : Q' = fun vs H' => (match vs with | [x, y] => (rI0 fun i j => .bl (f i j)) x y H' fun z H3 => ∃ k, z = .bl k ∧ (if k = true then tc σ H3 fun w' H4 => (rI0 fun i j => .bl (g i j)) y w' H4 Q else Q (.bl false) H3) | _ => False) := by
      funext vs H'
      exact h2 vs H'
    subst e
    exact h1
  refine ht _ (hab B env σ H F (fun vs H' => (match vs with | [x, y] => (rI0 fun i j => .bl (f i j)) x y H' fun z H3 => ∃ k, z = .bl k ∧ (if k = true then tc σ H3 fun w' H4 => (rI0 fun i j => .bl (g i j)) y w' H4 Q else Q (.bl false) H3) | _ => False)) S ?_) fun _ _ => rfl
  unfold chM at h
  cases em : ms env with
  | ex e e2 => rw [em] at h; exact h
  | no => rw [em] at h; exact h
  | ok ds e =>
    rw [em] at h
    intro vs H2 F2 S2 r2 N2 P2
    split at h
    · rename_i d env' eq
      split at eq
      · rename_i i j e' eq2
        cases eq2
        obtain ⟨x, y, rfl, rx, ry⟩ := r2.two_inv
        cases rx
        cases ry
        refine ⟨i, j, rfl, rfl, f i j, rfl, ?_⟩
        split at eq
        · rename_i hf
          rw [if_pos hf]
          refine hc B e σ H2 F2 _ S2 ?_
          split at eq
          · rename_i k e2 ek
            cases eq
            rw [ek]
            intro v H3 F3 Fd S3 N3 P3
            obtain ⟨S4, r4⟩ := S3.freeze
            obtain ⟨v', e', r4⟩ := r4.one_inv
            cases e'
            cases r4
            refine ⟨j, k, rfl, rfl, h _ H3 F3 [] (S4.rep (.cons (.bl _) .nil)) (by rw [List.append_nil]; exact N2.trans (N3.weak fun a m => List.mem_append_left _ m) fun a m => m) fun hp => ?_⟩
            obtain ⟨a1, a2, a3⟩ := P2 (by simp at hp; exact hp.1)
            obtain ⟨b1, b2, b3⟩ := P3 (by simp at hp; exact hp.2)
            exact ⟨b1.trans a1, b2.trans a2, a3.trans b3⟩
          · cases eq
          · cases eq
          · cases eq
        · rename_i hf
          rw [if_neg hf]
          cases eq
          exact h _ H2 F2 [] (S2.rep (.cons (.bl _) .nil)) (by rw [List.append_nil]; exact N2) fun hp => P2 (by simp at hp; exact hp.1)
      · cases eq
      · cases eq
      · cases eq
    · rename_i x env' eq
      split at eq
      · rename_i i j e' eq2
        cases eq2
        obtain ⟨x, y, rfl, rx, ry⟩ := r2.two_inv
        cases rx
        cases ry
        refine ⟨i, j, rfl, rfl, f i j, rfl, ?_⟩
        split at eq
        · rename_i hf
          rw [if_pos hf]
          refine hc B e σ H2 F2 _ S2 ?_
          split at eq
          · cases eq
          · cases eq
          · rename_i x2 e2 ek
            cases eq
            rw [ek]
            exact ExP.mono h (fun H' F' n => N2.trans n fun a m => m) fun b z => z
          · cases eq
        · cases eq
      · cases eq
      · rename_i eq2; cases eq2
      · cases eq
    · exact h.elim

/-! ### slices -/
def EvO (K : PySem.W.Frag) (mg : Str → Option Value) (W : WX) (p : Bool) (t : TO) (m : M (Option Int)) : Prop := ∀ B env σ H F (Q : Option Int → Hp → Prop), Sta K B env σ H F → (match m env with
  | .ok o env' => ∀ H' F', Sta K B env' σ H' F' → Nxt H F H' F' → PureP p env env' F F' H H' → Q o H'
  | .ex e env' => ExP K mg W B σ H F e env'
  | .no => False) → t σ H Q
def noM : M (Option Int) := fun env => .ok none env
def partM (m : M D) : M (Option Int) := fun env => match m env with
  | .ok (.int i) e => .ok (some i) e
  | .ok _ _ => .no
  | .ex e e2 => .ex e e2
  | .no => .no
theorem eo_no : EvO K mg W true tNoPart noM := fun B env σ H F Q S h => h H F S .refl fun _ => ⟨rfl, rfl, .refl _⟩
theorem eo_part (h1 : EvE K mg W p te m) : EvO K mg W p (tPart te) (partM m) := fun B env σ H F Q S h => by
  refine h1 B env σ H F _ S ?_
  unfold partM at h
  cases em : m env with
  | ex e e2 => rw [em] at h; exact h
  | no => rw [em] at h; exact h
  | ok d e =>
    rw [em] at h
    intro v H2 F2 Fd S1 N1 P1
    obtain ⟨S2, r⟩ := S1.freeze
    obtain ⟨v', e', r⟩ := r.one_inv
    cases e'
    cases d <;> first | exact h.elim | skip
    cases r
    exact ⟨_, rfl, h H2 F2 S2 (N1.weak fun a m => List.mem_append_left _ m) P1⟩
def cutG {α : Type} (xs : List α) (lo hi : Option Int) : List α := (xs.drop (HT.sIx xs.length 0 lo)).take (HT.sIx xs.length xs.length hi - HT.sIx xs.length 0 lo)
theorem RepL.drop {Z : Hp} : ∀ {ds : List D} {vs : List V} (n : Nat), RepL K Z ds vs → RepL K Z (ds.drop n) (vs.drop n)
  | _, _, 0, r => r
  | _, _, _ + 1, .nil => .nil
  | _, _, n + 1, .cons _ t => RepL.drop n t
theorem RepL.take {Z : Hp} : ∀ {ds : List D} {vs : List V} (n : Nat), RepL K Z ds vs → RepL K Z (ds.take n) (vs.take n)
  | _, _, 0, r => .nil
  | _, _, _ + 1, .nil => .nil
  | _, _, n + 1, .cons h t => .cons h (RepL.take n t)
theorem RepL.cut {Z : Hp} {ds : List D} {vs : List V} (r : RepL K Z ds vs) (lo hi : Option Int) : RepL K Z (cutG ds lo hi) (cutV vs lo hi) := by
  unfold cutG cutV
  rw [r.length]
  exact (r.drop _).take _
def slF (d : D) (lo hi : Option Int) : Option D := match d with
  | .lst ds => some (.lst (cutG ds lo hi))
  | .tup ds => some (.tup (cutG ds lo hi))
  | .str z => haveI : Decidable (z.length ≤ sizeLine) := Classical.propDecidable _; if z.length ≤ sizeLine then some (.str (cutS z lo hi)) else none
  | .scr ns => some (.lst (cutG (ns.map .int) lo hi))
  | _ => none
def slM (m : M D) (ml mh : M (Option Int)) : M D := fun env => match m env with
  | .ok d e1 => match ml e1 with
    | .ok lo e2 => match mh e2 with
      | .ok hi e3 => match slF d lo hi with
        | some r => .ok r e3
        | none => .no
      | .ex x e3 => .ex x e3
      | .no => .no
    | .ex x e2 => .ex x e2
    | .no => .no
  | .ex x e1 => .ex x e1
  | .no => .no
def rSlAny (K : PySem.W.Frag) : V → Option Int → Option Int → Hp → VK → Prop := fun x lo hi H Q => rSlL K x lo hi H Q ∨ (rSlA K x lo hi H Q ∨ rSlS x lo hi H Q)
theorem sl_any {X : Cx} : SlR X (rSlAny X.K) := sl_list.or (sl_tupA.or sl_str)
theorem cut_whole {α : Type} {xs : List α} {lo hi : Option Int} (h : HT.sIx xs.length 0 lo = 0 ∧ HT.sIx xs.length xs.length hi = xs.length) : cutG xs lo hi = xs := by
  unfold cutG
  rw [h.1, h.2, List.drop_zero, Nat.sub_zero, List.take_length]
theorem ev_slice {tl th : TO} {ml mh : M (Option Int)} {pl ph : Bool} (h1 : EvE K mg W p te m) (h2 : EvO K mg W pl tl ml) (h3 : EvO K mg W ph th mh) : EvE K mg W (p && (pl && ph)) (tSl (rSlAny K) te tl th) (slM m ml mh) := fun B env σ H F Q S h => by
  refine h1 B env σ H F _ S ?_
  unfold slM at h
  cases em : m env with
  | ex e e2 => rw [em] at h; exact h
  | no => rw [em] at h; exact h
  | ok d e1 =>
    rw [em] at h
    dsimp only at h
    intro v H1 F1 Fd S1 N1 P1
    obtain ⟨S1', r1⟩ := S1.freeze
    have N1' : Nxt H F H1 F1 := N1.weak fun a m => List.mem_append_left _ m
    refine h2 B e1 σ H1 F1 _ S1' ?_
    cases el : ml e1 with
    | ex e e2 => rw [el] at h; exact ExP.mono h (fun H' F' n => N1'.trans n fun a m => m) fun b z => z
    | no => rw [el] at h; exact h
    | ok lo e2 =>
      rw [el] at h
      dsimp only at h
      intro H2 F2 S2 N2 P2
      refine h3 B e2 σ H2 F2 _ S2 ?_
      have N2' := N1'.trans N2 fun a m => m
      cases eh : mh e2 with
      | ex e e2 => rw [eh] at h; exact ExP.mono h (fun H' F' n => N2'.trans n fun a m => m) fun b z => z
      | no => rw [eh] at h; exact h
      | ok hi e3 =>
        rw [eh] at h
        dsimp only at h
        intro H3 F3 S3 N3 P3
        have N3' := N2'.trans N3 fun a m => m
        obtain ⟨v', e', r1⟩ := r1.one_inv
        cases e'
        have r3 : Rep K (Fz B H3 F3) d v := (r1.mono (nxt_ex N2)).mono (nxt_ex N3)
        have ez := fz_ex B H3 F3
        have pur : PureP (p && (pl && ph)) env e3 F F3 H H3 := fun hp => by
          simp only [Bool.and_eq_true] at hp
          obtain ⟨a1, a2, a3⟩ := P1 hp.1
          obtain ⟨b1, b2, b3⟩ := P2 hp.2.1
          obtain ⟨c1, c2, c3⟩ := P3 hp.2.2
          exact ⟨c1.trans (b1.trans a1), c2.trans (b2.trans a2), (a3.trans b3).trans c3⟩
        have purN : ∀ {pp : Addr} {o : HO}, H3 pp = none → PureP (p && (pl && ph)) env e3 F F3 H (upd H3 pp o) := fun hp q => by
          obtain ⟨a1, a2, a3⟩ := pur q
          exact ⟨a1, a2, a3.trans (ex_new hp)⟩
        cases es : slF d lo hi with
        | none => rw [es] at h; exact h.elim
        | some rr =>
          rw [es] at h
          dsimp only at h
          cases r3 with
          | lst hz rl =>
            cases es
            exact .inl ⟨_, _, rfl, .of (ez _ _ hz), fun pp hp => h _ _ F3 [pp] ((S3.rep (rl.cut lo hi)).mkL hp) (Nxt.mkL (by rw [List.append_nil]; exact N3') hp) (purN hp)⟩
          | tup hz rl =>
            cases es
            refine .inr (.inl ⟨_, _, rfl, .of (ez _ _ hz), fun hw => ?_, fun _ pp hp => h _ _ F3 [] ((S3.rep (rl.cut lo hi)).mkT hp) (by rw [List.append_nil]; exact N3'.grow (ex_new hp)) (purN hp)⟩)
            rw [cut_whole (by rw [rl.length]; exact hw)] at h
            exact h _ H3 F3 [] (S3.rep (.cons (.tup hz rl) .nil)) (by rw [List.append_nil]; exact N3') pur
          | str z =>
            unfold slF at es
            dsimp only at es
            split at es
            · rename_i hz
              cases es
              exact .inr (.inr ⟨z, rfl, hz, h _ H3 F3 [] (S3.rep (.cons (.str _) .nil)) (by rw [List.append_nil]; exact N3') pur⟩)
            · cases es
          | scr hz =>
            cases es
            exact .inl ⟨_, _, rfl, sql_mono ez hz, fun pp hp => h _ _ F3 [pp] ((S3.rep ((repL_ints _).cut lo hi)).mkL hp) (Nxt.mkL (by rw [List.append_nil]; exact N3') hp) (purN hp)⟩
          | _ => cases es
/-! ### {'a': e, ..} -/
def pairsM : List (Key × M D) → M (List (Key × D))
  | [], env => .ok [] env
  | (k, m) :: r, env => match m env with
    | .ok d e => match pairsM r e with
      | .ok kvs e2 => .ok ((k, d) :: kvs) e2
      | .ex x e2 => .ex x e2
      | .no => .no
    | .ex x e => .ex x e
    | .no => .no
def mergeD (kvs more : List (Key × D)) : List (Key × D) := more.foldl (fun acc kv => putG acc kv.1 kv.2) kvs
theorem RepK.merge {Z : Hp} : ∀ {more : List (Key × D)} {ws : List (Key × V)} {kvs : List (Key × D)} {kws : List (Key × V)}, RepK K Z more ws → RepK K Z kvs kws → RepK K Z (mergeD kvs more) (mergeK kws ws)
  | _, _, _, _, .nil, r => r
  | _, _, kvs, kws, .cons (k := k) (d := d) (v := v) (ds := ds) (vs := vs) h t, r => by
    show RepK K Z (mergeD (putG kvs k d) ds) (mergeK (putK kws k v) vs)
    exact RepK.merge t (r.put h)
def dispM (ps : List (Key × M D)) : M D := fun env => match pairsM ps env with
  | .ok kvs e => if kvs.length ≤ 15 then .ok (.dK (mergeD [] kvs)) e else .no
  | .ex x e => .ex x e
  | .no => .no
def EvPs (K : PySem.W.Frag) (mg : Str → Option Value) (W : WX) (p : Bool) (trs : List (TE × TE)) (m : List (Key × M D)) : Prop := ∀ B env σ H F (Q : List (V × V) → Hp → Prop), Sta K B env σ H F → (match pairsM m env with
  | .ok kvs env' => ∀ kws H' F', Sta K B env' σ H' F' → RepK K (Fz B H' F') kvs kws → Nxt H F H' F' → PureP p env env' F F' H H' → Q (kws.map fun kv => (kV kv.1, kv.2)) H'
  | .ex e env' => ExP K mg W B σ H F e env'
  | .no => False) → tPairs trs σ H Q
theorem eps_nil : EvPs K mg W true [] [] := fun B env σ H F Q S h => h [] H F S .nil .refl fun _ => ⟨rfl, rfl, .refl _⟩
theorem eps_cons {k : Key} {trs : List (TE × TE)} {r : List (Key × M D)} (h1 : EvE K mg W p te m) (h2 : EvPs K mg W q trs r) : EvPs K mg W (p && q) ((tC (kV k), te) :: trs) ((k, m) :: r) := fun B env σ H F Q S h => by
  unfold pairsM at h
  show te σ H fun y H2 => tPairs trs σ H2 fun ps H3 => Q ((kV k, y) :: ps) H3
  refine h1 B env σ H F _ S ?_
  cases em : m env with
  | ex e e2 => rw [em] at h; exact h
  | no => rw [em] at h; exact h
  | ok d e1 =>
    rw [em] at h
    dsimp only at h
    intro v H1 F1 Fd S1 N1 P1
    obtain ⟨S1', r1⟩ := S1.freeze
    obtain ⟨v', e', r1⟩ := r1.one_inv
    cases e'
    have N1' : Nxt H F H1 F1 := N1.weak fun a m => List.mem_append_left _ m
    refine h2 B e1 σ H1 F1 _ S1' ?_
    cases er : pairsM r e1 with
    | ex e e2 => rw [er] at h; exact ExP.mono h (fun H' F' n => N1'.trans n fun a m => m) fun b z => z
    | no => rw [er] at h; exact h
    | ok kvs e2 =>
      rw [er] at h
      intro kws H2 F2 S2 r2 N2 P2
      refine h ((k, v) :: kws) H2 F2 S2 (.cons (r1.mono (nxt_ex N2)) r2) (N1'.trans N2 fun a m => m) fun hp => ?_
      obtain ⟨a1, a2, a3⟩ := P1 (by simp at hp; exact hp.1)
      obtain ⟨b1, b2, b3⟩ := P2 (by simp at hp; exact hp.2)
      exact ⟨b1.trans a1, b2.trans a2, a3.trans b3⟩
theorem en_disp {trs : List (TE × TE)} {r : List (Key × M D)} (h1 : EvPs K mg W p trs r) : EvN K mg W p (tDisp trs) (dispM r) := fun B env σ H F Q S h pp hp => by
  have S0 := S.nil.mkL hp
  -- the empty dict, hidden
  have hn := S.nil.sub0 hp
  rw [List.append_nil] at hn
  have S1 : StaL K B env σ (upd H pp (.dK [])) F [.dK []] [.ref pp] [pp] := by
    have ex : Ex (Fz B H F) (Fz B (upd H pp (.dK [])) (F ++ [pp])) := fz_mk fun b o e m n => by
      have np : b ≠ pp := fun z => by subst z; rw [hp] at e; cases e
      exact ⟨by rw [upd_ne np]; exact e, by simp [m, np], n⟩
    refine ⟨S.rel.step ex fun a _ o h => ex_new hp _ _ h, .one (.dK upd_same .nil), S0.nd, fun a m => ?_, fun b q => ⟨?_, (S0.bad b q).2⟩⟩
    · by_cases e : a = pp
      · subst e; rw [upd_same]; exact ⟨nofun, nofun, nofun⟩
      · rw [upd_ne e]
        have := S0.liv a m
        rwa [upd_ne e] at this
    · have := S0.bad b q
      by_cases e : b = pp
      · subst e; rw [upd_same]; exact ⟨nofun, nofun, nofun⟩
      · rw [upd_ne e]
        have := this.1
        rwa [upd_ne e] at this
  have N1 : Nxt H F (upd H pp (.dK [])) (F ++ [pp]) := Nxt.mkL (F1 := F) (Fd := []) (by rw [List.append_nil]; exact .refl) hp
  refine h1 _ env σ _ F _ S1.hide ?_
  unfold dispM at h
  cases em : pairsM r env with
  | ex e e2 => rw [em] at h; exact ExP.mono h (fun H' F' n => N1.trans n fun a m => List.mem_append_left _ m) fun b z => .inl z
  | no => rw [em] at h; exact h
  | ok kvs e1 =>
    rw [em] at h
    intro kws H2 F2 S2 r2 N2 P2
    dsimp only at h
    by_cases hz : kvs.length ≤ 15
    · rw [if_pos hz] at h
      have npF : pp ∉ F := hn.1
      have hp2 : H2 pp = some (.dK []) := N2.fr _ _ upd_same npF
      have npF2 : pp ∉ F2 := (S2.bad pp (.inr (List.mem_singleton_self _))).2
      refine ⟨hp2, kws, rfl, by rw [← r2.length]; exact hz, ?_⟩
      -- the dict filled
      have ez : Fz (Hid B [pp]) H2 F2 = Fz B H2 (F2 ++ [pp]) := fz_congr fun b => by
        simp only [Hid, List.mem_append]
        grind
      have ex : Ex (Fz (Hid B [pp]) H2 F2) (Fz B (upd H2 pp (.dK (mergeK [] kws))) (F2 ++ [pp])) := by
        rw [ez]
        exact fz_mk fun b o e m n => by
          have np : b ≠ pp := fun z => m (by rw [z]; simp)
          exact ⟨by rw [upd_ne np]; exact e, m, n⟩
      have kp : ∀ a, a ≠ pp → ∀ o, H2 a = some o → (upd H2 pp (.dK (mergeK [] kws))) a = some o := fun a n o h => by rw [upd_ne n]; exact h
      have S3 : StaL K B e1 σ (upd H2 pp (.dK (mergeK [] kws))) F2 [.dK (mergeD [] kvs)] [.ref pp] [pp] := by
        refine ⟨S2.rel.step ex fun a m o h => kp a (fun z => by subst z; exact npF2 m) o h, .one (.dK upd_same ((r2.mono ex).merge .nil)), ?_, fun a m => ?_, fun b q => ⟨?_, ?_⟩⟩
        · refine List.nodup_append.mpr ⟨S2.nd, by simp, fun a m b q z => ?_⟩
          subst z
          rw [List.mem_singleton.mp q] at m
          exact npF2 m
        · by_cases e : a = pp
          · subst e; rw [upd_same]; exact ⟨nofun, nofun, nofun⟩
          · rw [upd_ne e]
            rcases List.mem_append.mp m with m | m
            · exact S2.liv a m
            · exact absurd (List.mem_singleton.mp m) e
        · by_cases e : b = pp
          · subst e; rw [upd_same]; exact ⟨nofun, nofun, nofun⟩
          · rw [upd_ne e]; exact (S2.bad b (.inl q)).1
        · intro m
          rcases List.mem_append.mp m with m | m
          · exact (S2.bad b (.inl q)).2 m
          · rw [List.mem_singleton.mp m] at q
            exact hn.2 q
      refine h _ _ F2 [pp] S3 (List.cons_ne_nil _ _) ?_ fun hq => ?_
      · have N3 : Nxt H F H2 (F2 ++ [pp]) := ⟨(N1.trans N2 fun a m => List.mem_append_left _ m).fr, fun a m => (List.mem_append.mp m).elim ((N1.trans N2 fun a m => List.mem_append_left _ m).sub a) fun m => by rw [List.mem_singleton.mp m]; exact .inr hp⟩
        exact N3.mut (l := pp) (by simp) fun a m => m
      · obtain ⟨a1, a2, a3⟩ := P2 hq
        refine ⟨a1, a2, fun b o e => ?_⟩
        have np : b ≠ pp := fun z => by subst z; rw [hp] at e; cases e
        rw [upd_ne np]
        exact a3 _ _ (ex_new hp _ _ e)
    · rw [if_neg hz] at h
      exact h.elim
end
end MM

set_option Elab.async false
set_option linter.all false
set_option maxRecDepth 100000
set_option maxHeartbeats 4000000
noncomputable section
namespace MM
open PySem PySem.Spec PyProof.Rows L2
section
variable {K : PySem.W.Frag} {mg : Str → Option Value} {W : WX} {p q : Bool} {te ta tb tc : TE} {m ma mb mc : M D} {i : Nat} {tA : TA} {ms : M (List D)} {Z : Hp}
/-! ### list(range(..)), tuple(range(..)) -/
instance (a b : Int) : Decidable (RgOk a b) := by unfold RgOk; exact inferInstance
theorem repL_rg (lo : Int) (n : Nat) : RepL K Z (rangeL lo n) ((List.range n).map fun i => V.int (lo + (i : Nat))) := by
  unfold rangeL
  generalize List.range n = xs
  induction xs with
  | nil => exact .nil
  | cons x xs ih => exact .cons (.int _) ih
def lstRg1F : List D → Option D
  | [.int n] => haveI : Decidable (RgOk 0 n) := Classical.propDecidable _; if RgOk 0 n then some (.lst (rangeL 0 n.toNat)) else none
  | _ => none
def tupRg1F : List D → Option D
  | [.int n] => haveI : Decidable (RgOk 0 n) := Classical.propDecidable _; if RgOk 0 n then some (.tup (rangeL 0 n.toNat)) else none
  | _ => none
def lstRg2F : List D → Option D
  | [.int a, .int n] => haveI : Decidable (RgOk a n) := Classical.propDecidable _; if RgOk a n then some (.lst (rangeL a (n - a).toNat)) else none
  | _ => none
def rLstRg1 : List V → Hp → VK → Prop := fun vs H Q => match vs with
  | [x] => ∃ n, x = .int n ∧ (RgOk 0 n ∧ ∀ q, H q = none → Q (.ref q) (upd H q (.lst (rgV 0 n))))
  | _ => False
def rTupRg1 : List V → Hp → VK → Prop := fun vs H Q => match vs with
  | [x] => ∃ n, x = .int n ∧ (RgOk 0 n ∧ ∀ q, H q = none → Q (.ref q) (upd H q (.tup (rgV 0 n))))
  | _ => False
def rLstRg2 : List V → Hp → VK → Prop := fun vs H Q => match vs with
  | [x, y] => ∃ i j, x = .int i ∧ y = .int j ∧ (RgOk i j ∧ ∀ q, H q = none → Q (.ref q) (upd H q (.lst (rgV i j))))
  | _ => False
theorem n_lstRg1 : OpN K rLstRg1 lstRg1F := fun Z H ds vs Q d ez R ef q ql qt => by
  unfold lstRg1F at ef
  split at ef
  · rename_i n
    obtain ⟨x, rfl, rx⟩ := R.one_inv
    cases rx
    split at ef
    · rename_i hb
      cases ef
      refine ⟨n, rfl, hb, fun p hp => ?_⟩
      have := ql _ p _ rfl hp (repL_rg (K := K) (Z := Z) 0 n.toNat)
      unfold rgV
      rw [Int.sub_zero]
      exact this
    · cases ef
  · cases ef
theorem n_tupRg1 : OpN K rTupRg1 tupRg1F := fun Z H ds vs Q d ez R ef q ql qt => by
  unfold tupRg1F at ef
  split at ef
  · rename_i n
    obtain ⟨x, rfl, rx⟩ := R.one_inv
    cases rx
    split at ef
    · rename_i hb
      cases ef
      refine ⟨n, rfl, hb, fun p hp => ?_⟩
      have := qt _ p _ rfl hp (repL_rg (K := K) (Z := Z) 0 n.toNat)
      unfold rgV
      rw [Int.sub_zero]
      exact this
    · cases ef
  · cases ef
theorem n_lstRg2 : OpN K rLstRg2 lstRg2F := fun Z H ds vs Q d ez R ef q ql qt => by
  unfold lstRg2F at ef
  split at ef
  · rename_i a n
    obtain ⟨x, y, rfl, rx, ry⟩ := R.two_inv
    cases rx
    cases ry
    split at ef
    · rename_i hb
      cases ef
      exact ⟨a, n, rfl, rfl, hb, fun p hp => ql _ p _ rfl hp (repL_rg (K := K) (Z := Z) a (n - a).toNat)⟩
    · cases ef
  · cases ef
/-! ### all, any -/
def blsOf : List D → Option (List Bool)
  | [] => some []
  | .bl b :: ds => match blsOf ds with
    | some bs => some (b :: bs)
    | none => none
  | _ :: _ => none
theorem blsOf_rep {H : Hp} : ∀ {ds : List D} {vs : List V} {bs : List Bool}, RepL K H ds vs → blsOf ds = some bs → vs = bs.map V.bl
  | _, _, _, .nil, e => by cases e; rfl
  | _, _, _, .cons h t, e => by
    cases h <;> first | (simp [blsOf] at e; done) | skip
    simp only [blsOf] at e
    split at e
    · rename_i bs en
      cases e
      rw [blsOf_rep t en]
      rfl
    · cases e
def allF : List D → Option D
  | [.lst ds] => match blsOf ds with
    | some bs => some (.bl (bs.all id))
    | none => none
  | _ => none
def anyF : List D → Option D
  | [.lst ds] => match blsOf ds with
    | some bs => some (.bl (bs.any id))
    | none => none
  | _ => none
theorem s_all : OpS K (rAll K) allF := fun H ds vs Q d R ef q => by
  unfold allF at ef
  split at ef
  · obtain ⟨x, rfl, rx⟩ := R.one_inv
    split at ef
    · rename_i bs en
      cases ef
      cases rx with
      | lst h r => exact ⟨_, bs, rfl, .of (by rw [← blsOf_rep r en]; exact h), q _ (.bl _)⟩
    · cases ef
  · cases ef
theorem s_any : OpS K (rAny K) anyF := fun H ds vs Q d R ef q => by
  unfold anyF at ef
  split at ef
  · obtain ⟨x, rfl, rx⟩ := R.one_inv
    split at ef
    · rename_i bs en
      cases ef
      cases rx with
      | lst h r => exact ⟨_, bs, rfl, .of (by rw [← blsOf_rep r en]; exact h), q _ (.bl _)⟩
    · cases ef
  · cases ef
/-! ### sorted: a list of ints, a dict of ints -/
def intKeys : List (Key × D) → Option (List Int)
  | [] => some []
  | (.inl i, _) :: r => match intKeys r with
    | some ns => some (i :: ns)
    | none => none
  | _ :: _ => none
theorem intKeys_rep {H : Hp} : ∀ {ds : List (Key × D)} {vs : List (Key × V)} {ns : List Int}, RepK K H ds vs → intKeys ds = some ns → vs.map (·.1) = ns.map Sum.inl
  | _, _, _, .nil, e => by cases e; rfl
  | _, _, _, .cons (k := k) h t, e => by
    cases k with
    | inr x => simp [intKeys] at e
    | inl i =>
      simp only [intKeys] at e
      split at e
      · rename_i ns en
        cases e
        rw [List.map_cons, List.map_cons, intKeys_rep t en]
      · cases e
def sorted2F : List D → Option D
  | [.dK kvs] => match intKeys kvs with
    | some ns => if ns.length < 64 then some (.lst ((isort ns).map .int)) else none
    | none => none
  | ds => sortedF ds
def rSorted2 (K : PySem.W.Frag) : List V → Hp → VK → Prop := fun xs H Q => rSortedI K xs H Q ∨ ∃ (a : Addr) (kvs : List (Key × V)) (ks : List Int), xs = [.ref a] ∧ Rd H a (.dK kvs) ∧ kvs.map (·.1) = ks.map Sum.inl ∧ ks.length < 64 ∧
    ∀ (ys : List Int) (p : Addr), ys.Perm ks → ys.Pairwise (· ≤ ·) → H p = none → Q (.ref p) (upd H p (.lst (ys.map V.int)))
theorem cr_sorted2 {X : Cx} (hc : X.calm = true) : CallR X (.builtin "sorted") (rSorted2 X.K) := cr_sortedI.or (call_sortedDI hc)
theorem n_sorted2 : OpN K (rSorted2 K) sorted2F := fun Z H ds vs Q d ez R ef q ql qt => by
  unfold sorted2F at ef
  split at ef
  · obtain ⟨x, rfl, rx⟩ := R.one_inv
    split at ef
    · rename_i ns en
      split at ef
      · rename_i hz
        cases ef
        cases rx with
        | dK h r =>
          refine .inr ⟨_, _, ns, rfl, .inl (ez _ _ h), intKeys_rep r en, hz, fun ys p hp hs new => ?_⟩
          rw [isort_of hp hs]
          exact ql _ p _ rfl new (repL_isort ns)
      · cases ef
    · cases ef
  · exact .inl (g_sortedI Z H ds vs Q d ez R ef q ql qt)
/-! ### zip, enumerate -/
def zipD (xs ys : List D) : List D := (xs.zip ys).map fun p => .tup [p.1, p.2]
def zipM (ms : M (List D)) : M (List D) := fun env => match ms env with
  | .ok [.lst xs, .lst ys] e => .ok (zipD xs ys) e
  | .ok [.tup xs, .tup ys] e => .ok (zipD xs ys) e
  | .ok _ _ => .no
  | .ex e e2 => .ex e e2
  | .no => .no
theorem feeds_zipL {Z : Hp} {a b : Addr} {xs ys : List V} {as bs : List D} (hx : Z a = some (.lst xs)) (hy : Z b = some (.lst ys)) (rlx : RepL K Z as xs) (rly : RepL K Z bs ys) : Feeds K Z (Itz K a b) (zipD as bs) := fun H2 i ez => by
  have h1 := ez _ _ hx
  have h2 := ez _ _ hy
  refine ⟨fun d hd => ?_, fun hl => ⟨_, _, .of h1, .of h2, ?_⟩⟩
  · unfold zipD at hd
    rw [List.getElem?_map] at hd
    cases ez2 : (as.zip bs)[i]? with
    | none => rw [ez2] at hd; cases hd
    | some pr =>
      rw [ez2] at hd
      cases hd
      obtain ⟨k1, k2⟩ := List.getElem?_zip_eq_some.mp ez2
      obtain ⟨v1, e1, r1⟩ := rlx.get k1
      obtain ⟨v2, e2, r2⟩ := rly.get k2
      refine ⟨⟨_, _, v1, v2, .of h1, .of h2, e1, e2⟩, fun z H3 y => .inr ?_⟩
      obtain ⟨T, x', y', rfl, hT, rfl, f1, f2⟩ := y
      have q1 := f1 _ (.of h1)
      have q2 := f2 _ (.of h2)
      rw [e1] at q1
      rw [e2] at q2
      cases q1
      cases q2
      exact ⟨_, _, T, rfl, rfl, hT, .cons r1 (.cons r2 .nil), rfl⟩
  · unfold zipD at hl
    rw [List.length_map, List.length_zip] at hl
    rw [← rlx.length, ← rly.length]
    omega
theorem feeds_zipT {Z : Hp} {a b : Addr} {xs ys : List V} {as bs : List D} (hx : Z a = some (.tup xs)) (hy : Z b = some (.tup ys)) (rlx : RepL K Z as xs) (rly : RepL K Z bs ys) : Feeds K Z (RZ.ItzT K a b) (zipD as bs) := fun H2 i ez => by
  have h1 := ez _ _ hx
  have h2 := ez _ _ hy
  refine ⟨fun d hd => ?_, fun hl => ⟨_, _, .of h1, .of h2, ?_⟩⟩
  · unfold zipD at hd
    rw [List.getElem?_map] at hd
    cases ez2 : (as.zip bs)[i]? with
    | none => rw [ez2] at hd; cases hd
    | some pr =>
      rw [ez2] at hd
      cases hd
      obtain ⟨k1, k2⟩ := List.getElem?_zip_eq_some.mp ez2
      obtain ⟨v1, e1, r1⟩ := rlx.get k1
      obtain ⟨v2, e2, r2⟩ := rly.get k2
      refine ⟨⟨_, _, v1, v2, .of h1, .of h2, e1, e2⟩, fun z H3 y => .inr ?_⟩
      obtain ⟨T, x', y', rfl, hT, rfl, f1, f2⟩ := y
      have q1 := f1 _ (.of h1)
      have q2 := f2 _ (.of h2)
      rw [e1] at q1
      rw [e2] at q2
      cases q1
      cases q2
      exact ⟨_, _, T, rfl, rfl, hT, .cons r1 (.cons r2 .nil), rfl⟩
  · unfold zipD at hl
    rw [List.length_map, List.length_zip] at hl
    rw [← rlx.length, ← rly.length]
    omega
theorem ei_zip (h1 : EvA K mg W p tA ms) : EvI K mg W p (RZ.iZipA K tA) (zipM ms) := fun B env σ H F Q S h => by
  refine h1 B env σ H F _ S ?_
  unfold zipM at h
  cases em : ms env with
  | ex e e2 => rw [em] at h; exact h
  | no => rw [em] at h; exact h
  | ok ds e =>
    rw [em] at h
    intro vs H' F' Fd S1 N P
    obtain ⟨S', r⟩ := S1.freeze
    split at h
    · rename_i xs env' eq
      split at eq
      · rename_i as bs e' eq2
        cases eq2
        cases eq
        obtain ⟨x, y, rfl, rx, ry⟩ := r.two_inv
        cases rx with
        | lst hx rlx =>
          cases ry with
          | lst hy rly => exact ⟨_, _, _, _, rfl, .inl ⟨.of (fz_ex _ _ _ _ _ hx), .of (fz_ex _ _ _ _ _ hy), h _ H' F' S' (feeds_zipL hx hy rlx rly) (N.weak fun a m => List.mem_append_left _ m) P⟩⟩
      · rename_i as bs e' eq2
        cases eq2
        cases eq
        obtain ⟨x, y, rfl, rx, ry⟩ := r.two_inv
        cases rx with
        | tup hx rlx =>
          cases ry with
          | tup hy rly => exact ⟨_, _, _, _, rfl, .inr ⟨.of (fz_ex _ _ _ _ _ hx), .of (fz_ex _ _ _ _ _ hy), h _ H' F' S' (feeds_zipT hx hy rlx rly) (N.weak fun a m => List.mem_append_left _ m) P⟩⟩
      · cases eq
      · cases eq
      · cases eq
    · rename_i eq
      split at eq
      · cases eq
      · cases eq
      · cases eq
      · rename_i eq2; cases eq2
      · cases eq
    · exact h.elim
def enumFrom (xs : List D) : List D := (xs.zipIdx).map fun p => .tup [.int (p.2 : Nat), p.1]
def enumM (ms : M (List D)) : M (List D) := fun env => match ms env with
  | .ok [.lst xs] e => .ok (enumFrom xs) e
  | .ok _ _ => .no
  | .ex e e2 => .ex e e2
  | .no => .no
theorem ei_enum (h1 : EvA K mg W p tA ms) : EvI K mg W p (iEnum K tA) (enumM ms) := fun B env σ H F Q S h => by
  refine h1 B env σ H F _ S ?_
  unfold enumM at h
  cases em : ms env with
  | ex e e2 => rw [em] at h; exact h
  | no => rw [em] at h; exact h
  | ok ds e =>
    rw [em] at h
    intro vs H' F' Fd S1 N P
    obtain ⟨S', r⟩ := S1.freeze
    split at h
    · rename_i xs env' eq
      split at eq
      · rename_i as e' eq2
        cases eq2
        cases eq
        obtain ⟨x, rfl, rx⟩ := r.one_inv
        cases rx with
        | lst hx rlx =>
          refine ⟨_, _, rfl, .of (fz_ex _ _ _ _ _ hx), h _ H' F' S' (fun H2 i ez => ?_) (N.weak fun a m => List.mem_append_left _ m) P⟩
          have h1 := ez _ _ hx
          refine ⟨fun d hd => ?_, fun hl => ⟨_, .of h1, ?_⟩⟩
          · unfold enumFrom at hd
            rw [List.getElem?_map, List.getElem?_zipIdx] at hd
            cases ea : as[i]? with
            | none => rw [ea] at hd; cases hd
            | some a =>
              rw [ea] at hd
              cases hd
              obtain ⟨v1, e1, r1⟩ := rlx.get ea
              refine ⟨⟨_, v1, .of h1, e1⟩, fun z H3 y => .inr ?_⟩
              obtain ⟨T, x', rfl, hT, rfl, f1⟩ := y
              have q1 := f1 _ (.of h1)
              rw [e1] at q1
              cases q1
              refine ⟨_, [.int (i : Nat), v1], T, rfl, rfl, hT, .cons ?_ (.cons r1 .nil), rfl⟩
              have : ((0 + i : Nat) : Int) = ((i : Nat) : Int) := by omega
              rw [this]
              exact .int _
          · unfold enumFrom at hl
            rw [List.length_map, List.length_zipIdx] at hl
            rw [← rlx.length]
            exact hl
      · cases eq
      · cases eq
      · cases eq
    · rename_i eq
      split at eq
      · cases eq
      · cases eq
      · rename_i eq2; cases eq2
      · cases eq
    · exact h.elim
theorem eb_yes : EvB K mg W true tYes yesM := fun B env σ H F Q S h => h H F S .refl fun _ => ⟨rfl, rfl, .refl _⟩
theorem es_never {ps : List Nat} {ro : Bool} : EvS K mg W ps ro tNever (fun _ => .no) := fun B env σ H F D S h => h.elim
end
end MM

set_option Elab.async false
set_option linter.all false
set_option maxRecDepth 100000
set_option maxHeartbeats 4000000
noncomputable section
namespace MM
open PySem PySem.Spec PyProof.Rows L2

/-! ### tuples of ints: their order -/
def ltL : List Int → List Int → Bool
  | [], [] => false
  | [], _ :: _ => true
  | _ :: _, [] => false
  | x :: r, y :: t => if x = y then ltL r t else decide (x < y)
theorem ltL_asym : ∀ x y, ltL x y = true → ltL y x = false
  | [], [], h => nomatch h
  | [], _ :: _, _ => rfl
  | _ :: _, [], h => nomatch h
  | x :: r, y :: t, h => by
    unfold ltL at h ⊢
    by_cases e : x = y
    · rw [if_pos e] at h; rw [if_pos e.symm]; exact ltL_asym r t h
    · rw [if_neg e] at h; rw [if_neg (Ne.symm e)]
      have := of_decide_eq_true h
      exact decide_eq_false (by omega)
theorem ltL_tr : ∀ x y z, ltL y x = false → ltL z y = false → ltL z x = false
  | [], [], z, _, h => h
  | [], _ :: _, [], _, _ => rfl
  | [], _ :: _, _ :: _, _, _ => rfl
  | _ :: _, [], _, h, _ => nomatch h
  | _ :: _, _ :: _, [], _, h => nomatch h
  | x :: r, y :: t, z :: u, h1, h2 => by
    unfold ltL at h1 h2 ⊢
    by_cases e1 : y = x
    · rw [if_pos e1] at h1
      subst e1
      by_cases e2 : z = y
      · rw [if_pos e2] at h2 ⊢
        exact ltL_tr r t u h1 h2
      · rw [if_neg e2] at h2 ⊢
        exact h2
    · rw [if_neg e1] at h1
      have a1 := of_decide_eq_false h1
      by_cases e2 : z = y
      · subst e2
        rw [if_neg e1]
        exact h1
      · rw [if_neg e2] at h2
        have a2 := of_decide_eq_false h2
        rw [if_neg (by omega)]
        exact decide_eq_false (by omega)
theorem ltL_total : ∀ x y, ltL x y = false → ltL y x = false → x = y
  | [], [], _, _ => rfl
  | [], _ :: _, h, _ => nomatch h
  | _ :: _, [], _, h => nomatch h
  | x :: r, y :: t, h1, h2 => by
    unfold ltL at h1 h2
    by_cases e : x = y
    · rw [if_pos e] at h1; rw [if_pos e.symm] at h2; rw [e, ltL_total r t h1 h2]
    · rw [if_neg e] at h1; rw [if_neg (Ne.symm e)] at h2
      have a1 := of_decide_eq_false h1
      have a2 := of_decide_eq_false h2
      omega
theorem ltL_swo {α : Type} (k : α → List Int) : SrtO.Swo fun v u => ltL (k v) (k u) := ⟨fun x y => ltL_asym _ _, fun x y z => ltL_tr _ _ _⟩
def insT (x : List Int) : List (List Int) → List (List Int)
  | [] => [x]
  | y :: r => if ltL y x then y :: insT x r else x :: y :: r
def sortT : List (List Int) → List (List Int)
  | [] => []
  | x :: r => insT x (sortT r)
theorem insT_perm (x : List Int) : ∀ l, (insT x l).Perm (x :: l)
  | [] => .refl _
  | y :: r => by
    unfold insT
    by_cases h : ltL y x = true
    · rw [if_pos h]; exact ((insT_perm x r).cons y).trans (.swap x y r)
    · rw [if_neg h]
theorem sortT_perm : ∀ l, (sortT l).Perm l
  | [] => .refl _
  | x :: r => (insT_perm x _).trans ((sortT_perm r).cons x)
abbrev SrtT (l : List (List Int)) : Prop := l.Pairwise fun x y => ltL y x = false
theorem insT_srt {x : List Int} : ∀ {l}, SrtT l → SrtT (insT x l)
  | [], _ => List.pairwise_singleton _ _
  | y :: r, h => by
    obtain ⟨h1, h2⟩ := List.pairwise_cons.mp h
    unfold insT
    by_cases e : ltL y x = true
    · rw [if_pos e]
      refine List.pairwise_cons.mpr ⟨fun z hz => ?_, insT_srt h2⟩
      rcases List.mem_cons.mp ((insT_perm x r).mem_iff.mp hz) with q | q
      · rw [q]; exact ltL_asym _ _ e
      · exact h1 z q
    · rw [if_neg e]
      have e' : ltL y x = false := by simpa using e
      refine List.pairwise_cons.mpr ⟨fun z hz => ?_, h⟩
      rcases List.mem_cons.mp hz with q | q
      · rw [q]; exact e'
      · exact ltL_tr x y z e' (h1 z q)
theorem sortT_srt : ∀ l, SrtT (sortT l)
  | [] => .nil
  | x :: r => insT_srt (sortT_srt r)
theorem srtT_uniq : ∀ {l m : List (List Int)}, l.Perm m → SrtT l → SrtT m → l = m
  | [], m, p, _, _ => by rw [List.nil_perm.mp p]
  | x :: r, [], p, _, _ => nomatch (List.perm_nil.mp p)
  | x :: r, y :: t, p, h1, h2 => by
    obtain ⟨a1, a2⟩ := List.pairwise_cons.mp h1
    obtain ⟨b1, b2⟩ := List.pairwise_cons.mp h2
    have e : x = y := by
      rcases List.mem_cons.mp (p.mem_iff.mp List.mem_cons_self) with q | q
      · exact q
      · rcases List.mem_cons.mp (p.mem_iff.mpr (List.mem_cons_self (a := y) (l := t))) with q2 | q2
        · exact q2.symm
        · exact ltL_total x y (a1 y q2 |> fun z => by
            have z1 := b1 x q
            exact z1) (a1 y q2)
    subst e
    rw [srtT_uniq (List.Perm.cons_inv p) a2 b2]
theorem sortT_of {l m : List (List Int)} (p : l.Perm m) (h : SrtT l) : l = sortT m := srtT_uniq (p.trans (sortT_perm m).symm) h (sortT_srt m)

section
variable {prog : Program} {w : World} {A : Around} {E : Value → Shared → Prop} {s : Shared}
theorem lex_ints {b fin : Bool} {Q : Bool → Shared → Prop} : ∀ {us ws : List Value} {xs ys : List Int} (i : Nat), IntsAre us xs → IntsAre ws ys → fin = decide (us.length < ws.length) → Q (ltL xs ys) s → PySem.W.KatLex prog w A b fin Q (us.zip ws) i s := by
  intro us
  induction us with
  | nil =>
    intro ws xs ys i h1 h2 hf h
    cases h1
    cases h2 with
    | nil => rw [hf]; exact PySem.W.kat_nil (by simpa [ltL] using h)
    | cons _ _ => rw [hf]; exact PySem.W.kat_nil (by simpa [ltL] using h)
  | cons u us ih => 
    intro ws xs ys i h1 h2 hf h
    cases h1 with
    | @cons x t _ xs' h1 =>
      cases h2 with
      | nil => rw [hf]; exact PySem.W.kat_nil (by simpa [ltL] using h)
      | @cons y t' ws' ys' h2 =>
        rw [List.zip_cons_cons]
        refine PySem.W.kat_cons (SeqAt.EqAt.int_int x t y t' prog w _ _ ?_)
        refine PySem.W.kat_go (fun e1 => ?_) (fun e1 => ?_)
        · have ex : x = y := by simpa using e1
          refine PySem.W.kat_yes (ih (i + 1) h1 h2 ?_ ?_)
          · rw [hf]; simp
          · unfold ltL at h; rw [if_pos ex] at h; exact h
        · have ex : ¬ x = y := by simpa using e1
          refine PySem.W.kat_no (PyProof.Rows.oneLt_any_int ?_)
          unfold ltL at h; rw [if_neg ex] at h; exact h
end
section
variable {prog : Program} {w : World} {A : Around} {E : Value → Shared → Prop} {s : Shared}
theorem tup_cmp {vs : List Value} {k : Value → List Int} (hp : ∀ v ∈ vs, TS.TupInts s.heap v (k v)) : SrtO.Cmp prog w A s (tuples' true) (fun p => p.1 ∈ vs) (SrtO.lt2 fun v u => ltL (k v) (k u)) := by
  intro p q hm hm'
  have h1 := hp _ hm
  have h2 := hp _ hm'
  show wpAny (model prog w) A (keyLt' (tuples' true) p.1 q.1) (fun r s' => s' = s ∧ r = ltL (k p.1) (k q.1)) (fun _ _ => False) s
  generalize k p.1 = x at h1 ⊢
  generalize k q.1 = y at h2 ⊢
  obtain ⟨a, xs, e, ⟨o, ho, hc, n, hd⟩, hi⟩ := h1
  obtain ⟨a', xs', e', ⟨o', ho', hc', n', hd'⟩, hi'⟩ := h2
  rw [e, e']
  refine PySem.W.kat_lt ho hd ho' hd' ?_
  exact lex_ints 0 hi hi' (by simp) ⟨rfl, rfl⟩
theorem firsts_ints {h : Heap} {k : Value → List Int} : ∀ vs : List Value, (∀ v ∈ vs, TS.TupInts h v (k v) ∧ k v ≠ []) → ∃ fs : List Value, PySem.W.KatTups h vs fs ∧ fs.length = vs.length ∧ ∀ f ∈ fs, ∃ (i : Int) (t : Tok), f = Value.int i t
  | [], _ => ⟨[], PySem.W.KatTups.nil, rfl, fun _ m => nomatch m⟩
  | v :: vs, hv => by
    obtain ⟨fs, h1, h2, h3⟩ := firsts_ints vs fun u m => hv u (List.mem_cons_of_mem _ m)
    obtain ⟨⟨a, xs, e, ⟨o, ho, hc, n, hd⟩, hi⟩, hne⟩ := hv v List.mem_cons_self
    generalize k v = ks at hi hne
    generalize hl : xs.toList = l at hi
    cases hi with
    | nil => exact absurd rfl hne
    | @cons x t us ns hr =>
      have hx : xs[0]? = some (Value.int x t) := by
        rw [← Array.getElem?_toList, hl]; rfl
      refine ⟨Value.int x t :: fs, ?_, by rw [List.length_cons, List.length_cons, h2], fun f m => ?_⟩
      · rw [e]; exact PySem.W.KatTups.cons ho hc hd hx h1
      · rcases List.mem_cons.mp m with q | q
        · exact ⟨x, t, q⟩
        · exact h3 f q
theorem tups_sortableO {a : Addr} {vs : List Value} {k : Value → List Int} (h0 : 0 < vs.length) (hp : ∀ v ∈ vs, TS.TupInts s.heap v (k v) ∧ k v ≠ []) (ha : ∀ o, s.heap.get? a = some o → o.cls ≠ .type "tuple") :
    SrtO.SortableO prog w A s a vs fun v u => ltL (k v) (k u) := by
  intro h' keep
  have hp' : ∀ v ∈ vs, TS.TupInts h' v (k v) ∧ k v ≠ [] := fun v hm => ⟨(hp v hm).1.keeps fun b o e c => keep b o (fun z => by subst z; exact ha o e c) e, (hp v hm).2⟩
  obtain ⟨fs, h1, h2, h3⟩ := firsts_ints vs hp'
  refine ⟨tuples' true, fun Q E hq => ?_, tup_cmp fun v m => (hp' v m).1⟩
  refine PySem.W.kat_kind (T := .type "int") h1 (by omega) (fun f hm => ?_) (by rfl) ?_
  · obtain ⟨x, t, rfl⟩ := h3 f hm
    exact PySem.W.Looks.now
  · have e : (Value.type "int" != Value.type "tuple") = true := by first | decide +kernel | rfl | decide
    rw [e]
    exact hq
theorem sorted_tupsO {l : Addr} {vs : List Value} {k : Value → List Int} {Q : Value → Shared → Prop} (hl : s.heap.IsList l vs.toArray) (hz : vs.length ≤ sizeLine) (hp : ∀ v ∈ vs, TS.TupInts s.heap v (k v) ∧ k v ≠ [])
    (h : ∀ (h' : Heap) (d : Addr) (out : List Value), SrtO.Srtd (fun v u => ltL (k v) (k u)) out → SrtO.Stb (fun v u => ltL (k v) (k u)) out vs → (∀ b o, s.heap.get? b = some o → h'.get? b = some o) → s.heap.objs.size ≤ d → (∃ n, h'.get? d = some (seqObj "list" out.toArray n)) → Q (.ref d) { s with heap := h' }) :
    wpAny (model prog w) A (call (.builtin "sorted") [.ref l]) Q E s := by
  refine SrtO.sorted_ord (ltL_swo k) hl hz (fun h2 h₁ a ha kk => ?_) fun out hs hb => ?_
  · refine tups_sortableO (s := { s with heap := h₁ }) (by omega) (fun v hm => ⟨(hp v hm).1.keeps fun b o e _ => (kk b o e).2, (hp v hm).2⟩) fun o e => ?_
    have e' : some o = some (seqObj "list" vs.toArray 0) := e.symm.trans ha
    cases e'
    intro c
    exact absurd (Value.type.inj c) (by decide)
  · exact h _ _ out hs hb (fun b o e => PyProof.Rows.sortedAll_old e) (Nat.le_succ _) (PyProof.Rows.sortedAll_at s.heap vs out.toArray)
/-- sorted(d), a dict whose keys are tuples of ints -/
theorem sorted_dictO {d : Addr} {es : Array DictEntry} {ep : Nat} {k : Value → List Int} {Q : Value → Shared → Prop} (hh : A.handled = none) (lo : (d == sysModules) = false) (hd : s.heap.DictRaw d es ep) (hz : es.size ≤ sizeLine) (hp : ∀ e ∈ es.toList, TS.TupInts s.heap e.key (k e.key) ∧ k e.key ≠ [])
    (h : ∀ (h1 h' : Heap) (tk : Nat) (out : List Value), SrtO.Srtd (fun v u => ltL (k v) (k u)) out → SrtO.Stb (fun v u => ltL (k v) (k u)) out (es.toList.map (·.key)) → (∀ b o, s.heap.get? b = some o → h1.get? b = some o) → (∀ b o, h1.get? b = some o → h'.get? b = some o) → (∃ n, h'.get? h1.objs.size = some (seqObj "list" out.toArray n)) → Q (.ref h1.objs.size) { s with heap := h', toks := tk }) :
    wpAny (model prog w) A (call (.builtin "sorted") [.ref d]) Q E s := by
  refine Calls.call_function_entry PyProof.Rows.kind_sorted PyProof.Rows.plain_sorted PyProof.Rows.entry_sorted (PyProof.Rows.args_sorted1 _) ?_
  unfold Builtin.«sorted»
  refine wpAny_bind (m := checkCount "sorted" 1 1 _) (wpAny_pure ?_)
  refine wpAny_bind (PySem.W.kdu_collect (A := A.in1) (KdlSrc.rawDict (es := es) (ep := ep) lo) hh hd hz fun h' tk acc hk hacc => ?_)
  have hal : acc.toList = es.toList.map (·.key) := by
    apply List.ext_getElem?
    intro j
    rw [List.getElem?_map, Array.getElem?_toList, Array.getElem?_toList]
    cases e : acc[j]? with
    | none =>
      have : acc.size ≤ j := by simpa using e
      rw [hacc.1] at this
      simp [this]
    | some v =>
      obtain ⟨hi, e1⟩ := hacc.2 j v e
      rw [e1]
      simp [hi]
  have hzz : acc.toList.length ≤ sizeLine := by rw [hal, List.length_map]; simpa using hz
  refine wpAny_bind (wpAny_newList ?_ hzz)
  have hoL : (h'.push (seqObj "list" acc.toList.toArray 0)).get? h'.objs.size = some (seqObj "list" acc.toList.toArray 0) := Heap.get?_push_size _ rfl
  show wpAny _ _ _ _ _ { s with heap := h'.push (seqObj "list" acc.toList.toArray 0), toks := tk }
  refine wpAny_bind (wpAny_holding (wpAny_call_entry PyProof.Rows.slot_list_sort ⟨_, hoL, rfl⟩ PyProof.Rows.entry_list_sort
    (SrtO.list_sort_ord (s := { s with heap := h'.push (seqObj "list" acc.toList.toArray 0), toks := tk }) (ltL_swo k) hoL hzz (fun h2 => ?_) fun out hs hb => ⟨_, rfl, ?_⟩) (PyProof.Rows.args_list_sort _)))
  · refine tups_sortableO (by omega) (fun v hm => ?_) fun o e => ?_
    · rw [hal] at hm
      obtain ⟨e, me, rfl⟩ := List.mem_map.mp hm
      exact ⟨(hp e me).1.keeps fun b o q _ => Heap.get?_push_of_some _ (hk b o q), (hp e me).2⟩
    · have e' : some o = some (seqObj "list" acc.toList.toArray 0) := e.symm.trans hoL
      cases e'
      intro c
      exact absurd (Value.type.inj c) (by decide)
  · obtain ⟨e', he'⟩ := PyProof.Rows.sortedHeap_at (vs := acc.toList) (out := out.toArray) hoL
    refine wpAny_pure ⟨_, rfl, h h' _ tk out hs (by rw [← hal]; exact hb) hk (fun b u e => ?_) ⟨e', he'⟩⟩
    have hb : b < h'.objs.size := Heap.lt_size e
    rw [PyProof.Rows.sortedHeap_old (Nat.ne_of_lt hb) (by rw [size_push']; exact Nat.lt_succ_of_lt hb)]
    exact Heap.get?_push_of_some _ e
end
end MM

set_option Elab.async false
set_option linter.all false
set_option maxRecDepth 100000
set_option maxHeartbeats 4000000
noncomputable section
namespace MM
open PySem PySem.Spec PyProof.Rows L2

/-! ### data without mutable cells stays wherever it is seen -/
mutual
def imt : D → Bool
  | .non | .bl _ | .int _ | .str _ | .opq _ => true
  | .tup xs => imtL xs
  | .scr _ | .lst _ | .dK _ | .dT _ | .dTf _ | .deep _ | .nam _ _ | .xn _ _ _ => false
def imtL : List D → Bool
  | [] => true
  | d :: ds => imt d && imtL ds
end
section
variable {K : PySem.W.Frag} {H H' : Hp} {B : Addr → Prop} {F : List Addr}
mutual
theorem Rep.fz (hF : ∀ a ∈ F, NT (H a)) (hB : ∀ b, B b → NT (H b)) : ∀ {d : D} {v : V}, Rep K H d v → imt d = true → Rep K (Fz B H F) d v
  | _, _, .non, _ => .non
  | _, _, .bl b, _ => .bl b
  | _, _, .int b, _ => .int b
  | _, _, .str b, _ => .str b
  | _, _, .lst h r, k => by simp [imt] at k
  | _, _, .tup (a := a) h r, k => .tup (by
      rw [fz_in (fun z => (hF a z).2.1 _ h) fun z => (hB a z).2.1 _ h]; exact h) (RepL.fz hF hB r (by simpa [imt] using k))
  | _, _, .dK h r, k => by simp [imt] at k
  | _, _, .dT h r, k => by simp [imt] at k
  | _, _, .dTf h r, k => by simp [imt] at k
  | _, _, .scr h, k => by simp [imt] at k
  | _, _, .deep h, k => by simp [imt] at k
  | _, _, .cls h, k => by simp [imt] at k
  | _, _, .exn h _, k => by simp [imt] at k
  | _, _, .xn _ _ _, k => by simp [imt] at k
  | _, _, .opq v, _ => .opq v
theorem RepL.fz (hF : ∀ a ∈ F, NT (H a)) (hB : ∀ b, B b → NT (H b)) : ∀ {ds : List D} {vs : List V}, RepL K H ds vs → imtL ds = true → RepL K (Fz B H F) ds vs
  | _, _, .nil, _ => .nil
  | _, _, .cons h r, k => by
    simp only [imtL, Bool.and_eq_true] at k
    exact .cons (Rep.fz hF hB h k.1) (RepL.fz hF hB r k.2)
end
mutual
theorem imt_imm : ∀ {d : D}, imt d = true → imm d = true
  | .non, _ | .bl _, _ | .int _, _ | .str _, _ | .opq _, _ => by simp [imm]
  | .tup xs, k => by simp only [imt] at k; simp only [imm]; exact imtL_imm k
  | .scr _, k | .lst _, k | .dK _, k | .dT _, k | .dTf _, k | .deep _, k | .nam _ _, k | .xn _ _ _, k => by simp [imt] at k
theorem imtL_imm : ∀ {ds : List D}, imtL ds = true → immL ds = true
  | [], _ => rfl
  | d :: ds, k => by
    simp only [imtL, Bool.and_eq_true] at k
    simp only [immL, Bool.and_eq_true]
    exact ⟨imt_imm k.1, imtL_imm k.2⟩
end
end

/-! ### operations whose answer is immutable, or a new list of immutable things; a def so called -/
def imt1 : D → Bool
  | .lst es => imtL es
  | d => imt d
def OpI (K : PySem.W.Frag) (r : List V → Hp → VK → Prop) (f : List D → Option D) : Prop :=
  ∀ H ds vs (Q : VK) d, RepL K H ds vs → f ds = some d → (∀ v, Rep K H d v → imt d = true → Q v H) →
    (∀ es p us, d = .lst es → imtL es = true → H p = none → RepL K H es us → Q (.ref p) (upd H p (.lst us))) → r vs H Q
def clT (f : List D → RF) (ms : M (List D)) : M D := fun env => match ms env with
  | .ok ds e => match f ds with
    | .ret d => if imt d then .ok d e else .no
    | .ex x => .ex x e
    | .no => .no
  | .ex e e2 => .ex e e2
  | .no => .no
def clTL (f : List D → RF) (ms : M (List D)) : M D := fun env => match ms env with
  | .ok ds e => match f ds with
    | .ret d => if imt1 d then .ok d e else .no
    | .ex x => .ex x e
    | .no => .no
  | .ex e e2 => .ex e e2
  | .no => .no
section
variable {K : PySem.W.Frag} {mg : Str → Option Value} {W : WX} {p : Bool} {t : TE} {tA : TA} {ms : M (List D)} {r : List V → Hp → VK → Prop} {f : List D → Option D} {ro : Bool}
  {B : Addr → Prop} {env : Env} {σ : St} {H : Hp} {F : List Addr}
theorem en_i (hr : OpI K r f) (ha : EvR K mg W p tA ms) (ht : ∀ σ H Q, tA σ H (fun vs H' => r vs H' Q) → t σ H Q := by exact fun _ _ _ h => h) : EvN K mg W p t (opM f ms) := fun B env σ H F Q S h => by
  refine ht σ H Q (ha B env σ H F _ S ?_)
  unfold opM at h
  cases em : ms env with
  | ex e e2 => rw [em] at h; exact h
  | no => rw [em] at h; exact h
  | ok ds e2 =>
    rw [em] at h
    dsimp only at h
    intro vs H2 F2 S2 r2 N2 P2
    cases ef : f ds with
    | none => rw [ef] at h; exact h.elim
    | some d =>
      rw [ef] at h
      dsimp only at h
      refine hr H2 ds vs Q d r2 ef (fun v rv x => ?_) (fun es pp us e k hp ru => ?_)
      · exact h v H2 F2 [] (S2.rep (.cons (rv.fz S2.liv (fun b q => (S2.bad b q).1) x) .nil)) (exl_imm (imt_imm x) _) (by rw [List.append_nil]; exact N2) P2
      · subst e
        refine h _ _ F2 [pp] ((S2.rep (ru.fz S2.liv (fun b q => (S2.bad b q).1) k)).mkL hp) (List.cons_ne_nil _ _) (Nxt.mkL (by rw [List.append_nil]; exact N2) hp) fun q => ?_
        obtain ⟨a1, a2, a3⟩ := P2 q
        exact ⟨a1, a2, a3.trans (ex_new hp)⟩
theorem Sta.after {H' : Hp} {Fd : List Addr} (S : Sta K B env σ H F) (N : Nxt H [] H' Fd) : Sta K B env σ H' F := S.ext fun b o e => N.fr b o e fun z => nomatch z
mutual
theorem Own.nil_imt {H Z : Hp} : ∀ {d : D} {v : V} {F : List Addr}, Own K H Z d v F → imt d = true → F = []
  | _, _, _, .frz h, _ => rfl
  | _, _, _, .lst h r, k => by simp [imt] at k
  | _, _, _, .tup h r, k => OwnL.nil_imt r (by simpa [imt] using k)
  | _, _, _, .dK h r, k => by simp [imt] at k
  | _, _, _, .dT h r, k => by simp [imt] at k
  | _, _, _, .deep h, k => by simp [imt] at k
theorem OwnL.nil_imt {H Z : Hp} : ∀ {d : List D} {v : List V} {F : List Addr}, OwnL K H Z d v F → imtL d = true → F = []
  | _, _, _, .nil, _ => rfl
  | _, _, _, .cons h r, k => by
    simp only [imtL, Bool.and_eq_true] at k
    rw [Own.nil_imt h k.1, OwnL.nil_imt r k.2]
    rfl
end
theorem call_T {g : List D → RF} (ha : EvR K mg W p tA ms) : EvN K mg W p (tCallS (spF K mg ro g) (WE W) tA) (clT g ms) := fun B env σ H F Q S h => by
  refine ha B env σ H F _ S ?_
  unfold clT at h
  cases em : ms env with
  | ex e e2 => rw [em] at h; exact h
  | no => rw [em] at h; exact h
  | ok ds e =>
    rw [em] at h
    intro vs H2 F2 S2 r2 N2 P2
    dsimp only at h
    refine ⟨fun _ => False, ds, fun b q => q.elim, by rw [show Fz (fun _ => False) H2 [] = H2 from funext fun b => fz_in (fun z => nomatch z) id]; exact r2, ?_⟩
    cases ef : g ds with
    | no => rw [ef] at h; exact h.elim
    | ret d =>
      rw [ef] at h
      dsimp only at h
      intro v H3 Fd S3 _ N3
      have S4 := S2.after N3
      by_cases k : imt d = true
      · rw [if_pos k] at h
        obtain ⟨v', e1, rv⟩ := S3.repH.one_inv
        cases e1
        refine h v H3 F2 [] (S4.rep (.cons (rv.fz S4.liv (fun b q => (S4.bad b q).1) k) .nil)) (exl_imm (imt_imm k) _) ?_ fun q => ?_
        · rw [List.append_nil]
          exact N2.grow fun b o e => N3.fr b o e fun z => nomatch z
        · obtain ⟨a1, a2, a3⟩ := P2 q
          exact ⟨a1, a2, a3.trans fun b o e => N3.fr b o e fun z => nomatch z⟩
      · rw [if_neg k] at h; exact h.elim
    | ex x =>
      rw [ef] at h
      intro cls dd H3 N3 xx
      exact h cls dd H3 F2 (S2.after N3) (N2.grow fun b o e => N3.fr b o e fun z => nomatch z) xx
theorem call_TL {g : List D → RF} (ha : EvR K mg W p tA ms) : EvN K mg W p (tCallS (spF K mg true g) (WE W) tA) (clTL g ms) := fun B env σ H F Q S h => by
  refine ha B env σ H F _ S ?_
  unfold clTL at h
  cases em : ms env with
  | ex e e2 => rw [em] at h; exact h
  | no => rw [em] at h; exact h
  | ok ds e =>
    rw [em] at h
    intro vs H2 F2 S2 r2 N2 P2
    dsimp only at h
    refine ⟨fun _ => False, ds, fun b q => q.elim, by rw [show Fz (fun _ => False) H2 [] = H2 from funext fun b => fz_in (fun z => nomatch z) id]; exact r2, ?_⟩
    cases ef : g ds with
    | no => rw [ef] at h; exact h.elim
    | ret d =>
      rw [ef] at h
      dsimp only at h
      intro v H3 Fd S3 hx N3
      have S4 := S2.after N3
      have gr : PureP p env e F F2 H H3 := fun q => by
        obtain ⟨a1, a2, a3⟩ := P2 q
        exact ⟨a1, a2, a3.trans fun b o e => N3.fr b o e fun z => nomatch z⟩
      have N4 : Nxt H F H3 F2 := N2.grow fun b o e => N3.fr b o e fun z => nomatch z
      by_cases k : imt1 d = true
      · rw [if_pos k] at h
        by_cases hl : ∃ es, d = .lst es
        · obtain ⟨es, rfl⟩ := hl
          have k' : imtL es = true := k
          have hx' := hx rfl
          have o := S3.own
          obtain ⟨v', F', e1, o', eF⟩ : ∃ v', ∃ F', [v] = [v'] ∧ Own K H3 (Fz (fun _ => False) H3 ([] ++ Fd)) (.lst es) v' F' ∧ Fd = F' := by
            cases o with
            | cons o t => cases t; exact ⟨_, _, rfl, o, by simp⟩
          cases e1
          subst eF
          cases o' with
          | frz _ => exact absurd rfl hx'
          | @lst a us _ F1 hH ol =>
            have e1 := ol.nil_imt k'
            subst e1
            have ru : RepL K H3 es us := ol.rep (fz_ex _ _ _)
            have na : H2 a = none := (N3.sub a List.mem_cons_self).elim (fun z => nomatch z) id
            have nF : a ∉ F2 := fun z => (S2.liv a z).1 na
            have nB : ¬ B a := fun z => (S2.bad a z).1.1 na
            refine h _ H3 F2 [a] ⟨?_, .one (.lst hH (OwnL.of_rep (ru.fz (fun b m => ?_) (fun b q => (S4.bad b q).1) k'))), ?_, fun b m => ?_, fun b q => ⟨(S4.bad b q).1, fun z => ?_⟩⟩ (List.cons_ne_nil _ _) ⟨N4.fr, fun b m => ?_⟩ gr
            · refine S2.rel.step (fz_mk fun b o e m n => ⟨N3.fr b o e (fun z => nomatch z), fun z => ?_, n⟩) fun b _ o e => N3.fr b o e fun z => nomatch z
              rcases List.mem_append.mp z with z | z
              · exact m z
              · rw [List.mem_singleton.mp z, na] at e; cases e
            · rcases List.mem_append.mp m with m | m
              · exact S4.liv b m
              · rw [List.mem_singleton.mp m, hH]; exact And.intro nofun (And.intro nofun nofun)
            · refine List.nodup_append.mpr ⟨S4.nd, List.nodup_cons.mpr ⟨nofun, List.nodup_nil⟩, fun x m y q z => ?_⟩
              subst z
              rw [List.mem_singleton.mp q] at m
              exact nF m
            · rcases List.mem_append.mp m with m | m
              · exact S4.liv b m
              · rw [List.mem_singleton.mp m, hH]; exact And.intro nofun (And.intro nofun nofun)
            · rcases List.mem_append.mp z with z | z
              · exact (S4.bad b q).2 z
              · rw [List.mem_singleton.mp z] at q; exact nB q
            · rcases List.mem_append.mp m with m | m
              · exact N2.sub b m
              · rw [List.mem_singleton.mp m]; exact N2.none_of na
        · have k' : imt d = true := by
            cases d with
            | lst es => exact absurd ⟨es, rfl⟩ hl
            | _ => exact k
          obtain ⟨v', e1, rv⟩ := S3.repH.one_inv
          cases e1
          exact h v H3 F2 [] (S4.rep (.cons (rv.fz S4.liv (fun b q => (S4.bad b q).1) k') .nil)) (exl_imm (imt_imm k') _) (by rw [List.append_nil]; exact N4) gr
      · rw [if_neg k] at h; exact h.elim
    | ex x =>
      rw [ef] at h
      intro cls dd H3 N3 xx
      exact h cls dd H3 F2 (S2.after N3) (N2.grow fun b o e => N3.fr b o e fun z => nomatch z) xx
end
end MM

set_option Elab.async false
set_option linter.all false
set_option maxRecDepth 100000
set_option maxHeartbeats 4000000
noncomputable section
namespace MM
open PySem PySem.Spec PyProof.Rows L2

/-! ### sorted, of lists and dicts of tuples of ints -/
def rSortedL (K : PySem.W.Frag) : List V → Hp → VK → Prop := fun vs H Q => ∃ (a : Addr) (xs : List V) (k : V → List Int), vs = [V.ref a] ∧ SqL K H a xs ∧ (∀ x ∈ xs, TupI K H x (k x) ∧ k x ≠ []) ∧
  ∀ ys p, ys.Perm xs → ys.Pairwise (fun x y => ltL (k y) (k x) = false) → H p = none → Q (.ref p) (upd H p (.lst ys))
def rSortedTD : List V → Hp → VK → Prop := fun vs H Q => ∃ (a : Addr) (kvs : List (List Key × V)) (ks : List (List Int)), vs = [V.ref a] ∧ Rd H a (.dT kvs) ∧ kvs.map (·.1) = ks.map (·.map Sum.inl) ∧ (∀ k ∈ ks, k ≠ []) ∧
  ∀ (bs : List (Addr × List Int)) p, (bs.map (·.2)).Perm ks → SrtT (bs.map (·.2)) → (∀ b ∈ bs, H b.1 = some (.tup (b.2.map V.int))) → H p = none → Q (.ref p) (upd H p (.lst (bs.map fun b => V.ref b.1)))
section
variable {X : Cx}
theorem cr_sortedL : CallR X (.builtin "sorted") (rSortedL X.K) := by
  intro pins s σ H vs us Q I r h
  obtain ⟨a, xs, k, rfl, hs, hx, q⟩ := h
  obtain ⟨its, rv, hl, hz⟩ := I.list hs
  rw [Vals.ref1 r]
  obtain ⟨e1, e2⟩ := bkV_refs rv fun x m => by
    obtain ⟨⟨t, e, _⟩, _⟩ := hx x m
    exact ⟨t, e⟩
  refine sorted_tupsO (k := fun u => k (bkV u)) hl.isList (by rw [← rv.length]; exact hz) (fun v hv => ?_) fun h' d out h1 h2 kp hd hn => ?_
  · obtain ⟨t, rfl⟩ := e2 v hv
    have hm : V.ref t ∈ xs := by
      rw [e1]
      exact List.mem_map.mpr ⟨_, hv, rfl⟩
    obtain ⟨⟨t', e, ht⟩, hne⟩ := hx _ hm
    cases e
    exact ⟨tupI_raw I ht, hne⟩
  · have h3 : ∀ u ∈ out, ∃ a, u = Value.ref a := fun u hu => e2 u (h2.perm.mem_iff.mp hu)
    have hp : (out.map bkV).Perm xs := by
      rw [e1]
      exact h2.perm.map bkV
    have hlen : (out.map bkV).length ≤ sizeLine := by
      rw [hp.length_eq]
      exact hz
    obtain ⟨ep, he'⟩ := hn
    exact ⟨.ref d, upd H d (.lst (out.map bkV)), I.laid (t' := s.toks) (fun b o e => kp b o e) hd ⟨hlen, out, ep, bkV_vals h3, he'⟩, rfl, q _ _ hp (List.pairwise_map.mpr h1) (I.hok.fresh hd)⟩
theorem ints_vals : ∀ {k : List Int} {us : List Value}, Vals (k.map V.int) us → IntsAre us k := fun h => h.ints
theorem vals_refs : ∀ (bs : List (Addr × List Int)), Vals (bs.map fun b => V.ref b.1) (bs.map fun b => Value.ref b.1)
  | [] => .nil
  | b :: bs => .cons rfl (vals_refs bs)
theorem cr_sortedTD (hc : X.calm = true) : CallR X (.builtin "sorted") rSortedTD := by
  intro pins s σ H vs us Q I r h
  obtain ⟨a, kvs, ks, rfl, hd, hk, hne, q⟩ := h
  rw [Vals.ref1 r]
  obtain ⟨hz, lo, xs, rel, o, es, ep, h1, h2, h3, h4, _, _⟩ := dt_rd I.hok hd
  have hl : kvs.length = xs.length := Paired.length rel
  -- the keys and their tuples
  have go : ∀ (kvs : List (List Key × V)) (xs : List (List Key × Addr × Value)) (ks : List (List Int)), KT H kvs xs → kvs.map (·.1) = ks.map (·.map Sum.inl) →
      ∃ bs : List (Addr × List Int), bs.map (·.2) = ks ∧ xs.map (fun x => Value.ref x.2.1) = bs.map (fun b => Value.ref b.1) ∧ ∀ b ∈ bs, H b.1 = some (.tup (b.2.map V.int)) := by
    intro kvs xs ks r
    induction r generalizing ks with
    | nil => intro e; cases ks with
      | nil => exact ⟨[], rfl, rfl, fun _ m => nomatch m⟩
      | cons _ _ => cases e
    | @cons p x ps xs' hp t ih =>
      intro e
      cases ks with
      | nil => cases e
      | cons k ks =>
        rw [List.map_cons, List.map_cons] at e
        injection e with e1 e2
        obtain ⟨bs, b1, b2, b3⟩ := ih ks e2
        refine ⟨(x.2.1, k) :: bs, by rw [List.map_cons, b1], by rw [List.map_cons, List.map_cons, b2], fun b m => ?_⟩
        rcases List.mem_cons.mp m with z | m
        · subst z
          have := hp.2.1
          rw [e1, List.map_map] at this
          exact this
        · exact b3 b m
  obtain ⟨bs, b1, b2, b3⟩ := go kvs xs ks rel hk
  have ek : es.toList.map (·.key) = bs.map fun b => Value.ref b.1 := by
    rw [h4, List.map_map, ← b2]
    rfl
  have raw : ∀ b ∈ bs, TS.TupInts s.heap (.ref b.1) b.2 := fun b m => tupI_raw I (.of (b3 b m))
  refine sorted_dictO (k := TS.intsOf s.heap) (I.ok.hd hc) lo ⟨o, h1, h2, h3⟩ ?_ (fun e m => ?_) fun hp h' tk out g1 g2 kp kp' hn => ?_
  · rw [← Array.length_toList, h4, List.length_map, ← hl]; exact hz
  · have : e.key ∈ bs.map fun b => Value.ref b.1 := by rw [← ek]; exact List.mem_map.mpr ⟨e, m, rfl⟩
    obtain ⟨b, mb, eb⟩ := List.mem_map.mp this
    rw [← eb, (raw b mb).ints]
    exact ⟨raw b mb, hne _ (by rw [← b1]; exact List.mem_map.mpr ⟨b, mb, rfl⟩)⟩
  · rw [ek] at g2
    -- the sorted values are of bs
    have perm : ∃ cs : List (Addr × List Int), out = cs.map (fun b => Value.ref b.1) ∧ cs.Perm bs := by
      have key : ∀ (l : List Value) (bs : List (Addr × List Int)), l.Perm (bs.map fun b => Value.ref b.1) → ∃ cs : List (Addr × List Int), l = cs.map (fun b => Value.ref b.1) ∧ cs.Perm bs := by
        intro l
        induction l with
        | nil => intro bs p; cases bs with
          | nil => exact ⟨[], rfl, .refl _⟩
          | cons b bs => exact nomatch (List.nil_perm.mp p)
        | cons v l ih =>
          intro bs p
          have m : v ∈ bs.map fun b => Value.ref b.1 := p.mem_iff.mp List.mem_cons_self
          obtain ⟨b, mb, eb⟩ := List.mem_map.mp m
          obtain ⟨l1, l2, e12⟩ := List.append_of_mem mb
          subst e12
          have p2 : l.Perm ((l1 ++ l2).map fun b => Value.ref b.1) := by
            have := p.trans ((List.perm_middle (a := b) (l₁ := l1) (l₂ := l2)).map fun b => Value.ref b.1)
            rw [List.map_cons, eb] at this
            exact this.cons_inv
          obtain ⟨cs, c1, c2⟩ := ih _ p2
          exact ⟨b :: cs, by rw [List.map_cons, eb, c1], (c2.cons b).trans List.perm_middle.symm⟩
      exact key out bs g2.perm
    obtain ⟨cs, c1, c2⟩ := perm
    subst c1
    have I1 : Inv X pins σ H { s with heap := hp, toks := tk } := I.kept kp
    obtain ⟨n, hn⟩ := hn
    have hlen : (cs.map fun b => V.ref b.1).length ≤ sizeLine := by
      rw [List.length_map, c2.length_eq]
      have e := congrArg List.length b2
      rw [List.length_map, List.length_map] at e
      omega
    refine ⟨.ref hp.objs.size, _, I1.laid (t' := tk) (fun b u e => kp' b u e) (Nat.le_refl _) (show ObjOk X.prog X.w _ _ _ (.lst (cs.map fun b => V.ref b.1)) from ⟨hlen, _, n, vals_refs cs, hn⟩), rfl,
      q cs _ (by rw [← b1]; exact c2.map _) ?_ (fun b m => b3 b (c2.mem_iff.mp m)) (I1.hok.fresh (Nat.le_refl _))⟩
    have g3 := List.pairwise_map.mp g1
    refine List.pairwise_map.mpr (List.Pairwise.imp_of_mem (fun {x y} hx hy h => ?_) g3)
    dsimp only at h
    rw [(raw x (c2.mem_iff.mp hx)).ints, (raw y (c2.mem_iff.mp hy)).ints] at h
    exact h
end

/-! ### the mirror's sorted -/
def tupsOf : List D → Option (List (List Int))
  | [] => some []
  | .tup ds :: r => match intsOf ds with
    | some [] => none
    | some k => match tupsOf r with
      | some ks => some (k :: ks)
      | none => none
    | none => none
  | _ :: _ => none
def intsK : List Key → Option (List Int)
  | [] => some []
  | .inl i :: r => match intsK r with
    | some k => some (i :: k)
    | none => none
  | _ :: _ => none
def keysT : List (List Key × D) → Option (List (List Int))
  | [] => some []
  | (k, _) :: r => match intsK k with
    | some [] => none
    | some k => match keysT r with
      | some ks => some (k :: ks)
      | none => none
    | none => none
def dtup (k : List Int) : D := .tup (k.map .int)
def sorted3F : List D → Option D
  | [.lst ds] => match intsOf ds with
    | some ns => some (.lst ((isort ns).map .int))
    | none => match tupsOf ds with
      | some ks => some (.lst ((sortT ks).map dtup))
      | none => none
  | [.dK kvs] => match intKeys kvs with
    | some ns => if ns.length < 64 then some (.lst ((isort ns).map .int)) else none
    | none => none
  | [.dT kvs] => match keysT kvs with
    | some ks => some (.lst ((sortT ks).map dtup))
    | none => none
  | _ => none
def rSorted3 (K : PySem.W.Frag) : List V → Hp → VK → Prop := fun xs H Q => rSorted2 K xs H Q ∨ rSortedL K xs H Q ∨ rSortedTD xs H Q
theorem cr_sorted3 {X : Cx} (hc : X.calm = true) : CallR X (.builtin "sorted") (rSorted3 X.K) := (cr_sorted2 hc).or (cr_sortedL.or (cr_sortedTD hc))
theorem intsK_map : ∀ {k : List Key} {ns : List Int}, intsK k = some ns → k = ns.map Sum.inl
  | [], _, e => by cases e; rfl
  | .inl i :: r, _, e => by
    simp only [intsK] at e
    split at e
    · rename_i k ek
      cases e
      rw [intsK_map ek]
      rfl
    · cases e
  | .inr _ :: _, _, e => by simp [intsK] at e
theorem imt_int (ns : List Int) : imtL (ns.map D.int) = true := by
  induction ns with
  | nil => rfl
  | cons n ns ih => simp [imtL, imt, ih]
theorem imt_dtup (ks : List (List Int)) : imtL (ks.map dtup) = true := by
  induction ks with
  | nil => rfl
  | cons n ns ih => simp [imtL, imt, ih, dtup, imt_int]
theorem keysT_map {K : PySem.W.Frag} {H : Hp} : ∀ {kvs : List (List Key × D)} {us : List (List Key × V)} {ks : List (List Int)}, RepT K H kvs us → keysT kvs = some ks → us.map (·.1) = ks.map (·.map Sum.inl) ∧ ∀ k ∈ ks, k ≠ []
  | _, _, _, .nil, e => by cases e; exact ⟨rfl, fun _ m => nomatch m⟩
  | _, _, _, .cons h t, e => by
    simp only [keysT] at e
    split at e
    · cases e
    · rename_i k hne ek
      split at e
      · rename_i ks eks
        cases e
        obtain ⟨h1, h2⟩ := keysT_map t eks
        refine ⟨by rw [List.map_cons, List.map_cons, h1, intsK_map ek], fun x m => ?_⟩
        rcases List.mem_cons.mp m with z | m
        · subst z; exact fun z => hne (by rw [z])
        · exact h2 x m
      · cases e
    · cases e
theorem intsOf_map : ∀ {ds : List D} {ns : List Int}, intsOf ds = some ns → ds = ns.map .int
  | [], _, e => by cases e; rfl
  | .int i :: r, _, e => by
    simp only [intsOf] at e
    split at e
    · rename_i k ek
      cases e
      rw [List.map_cons, ← intsOf_map ek]
    · cases e
  | .non :: _, _, e | .bl _ :: _, _, e | .str _ :: _, _, e | .lst _ :: _, _, e | .tup _ :: _, _, e | .dK _ :: _, _, e | .dT _ :: _, _, e | .scr _ :: _, _, e | .opq _ :: _, _, e | .deep _ :: _, _, e => by simp [intsOf] at e
theorem tupsOf_rep {K : PySem.W.Frag} {H : Hp} : ∀ {ds : List D} {vs : List V} {ks : List (List Int)}, RepL K H ds vs → tupsOf ds = some ks → ds = ks.map dtup ∧ ∃ bs : List (Addr × List Int), vs = bs.map (fun b => V.ref b.1) ∧ bs.map (·.2) = ks ∧ ∀ b ∈ bs, H b.1 = some (.tup (b.2.map V.int)) ∧ b.2 ≠ []
  | _, _, _, .nil, e => by cases e; exact ⟨rfl, [], rfl, rfl, fun _ m => nomatch m⟩
  | _, _, _, .cons h t, e => by
    cases h <;> first | (simp [tupsOf] at e; done) | skip
    rename_i a us ds hH r
    simp only [tupsOf] at e
    split at e
    · cases e
    · rename_i k hne ek
      split at e
      · rename_i ks eks
        cases e
        obtain ⟨h1, bs, b1, b2, b3⟩ := tupsOf_rep t eks
        have eu := intsOf_rep r ek
        refine ⟨?_, (a, k) :: bs, by rw [b1]; rfl, by rw [List.map_cons, b2], fun b m => ?_⟩
        · rw [List.map_cons, ← h1]
          unfold dtup
          congr 2
          exact intsOf_map ek
        · rcases List.mem_cons.mp m with z | m
          · subst z; exact ⟨by rw [← eu]; exact hH, fun z => hne (by rw [show k = [] from z])⟩
          · exact b3 b m
      · cases e
    · cases e
theorem rep_dtups {K : PySem.W.Frag} {H : Hp} : ∀ {bs : List (Addr × List Int)}, (∀ b ∈ bs, H b.1 = some (.tup (b.2.map V.int))) → RepL K H ((bs.map (·.2)).map dtup) (bs.map fun b => V.ref b.1)
  | [], _ => .nil
  | b :: bs, h => .cons (.tup (h b List.mem_cons_self) (repL_ints b.2)) (rep_dtups fun c m => h c (List.mem_cons_of_mem _ m))
def nsAt (H : Hp) (v : V) : List Int := match v with
  | .ref a => match H a with
    | some (.tup vs) => vs.map fun | .int i => i | _ => 0
    | _ => []
  | _ => []
theorem nsAt_of {H : Hp} {a : Addr} {ns : List Int} (h : H a = some (.tup (ns.map V.int))) : nsAt H (.ref a) = ns := by
  show (match H a with | some (.tup vs) => vs.map (fun | .int i => i | _ => 0) | _ => []) = ns
  rw [h]
  show (ns.map V.int).map _ = ns
  rw [List.map_map]
  exact (List.map_congr_left fun _ _ => rfl).trans (List.map_id ns)
theorem i_sorted3 {K : PySem.W.Frag} : OpI K (rSorted3 K) sorted3F := fun H ds vs Q d R ef q ql => by
  unfold sorted3F at ef
  split at ef
  · obtain ⟨x, rfl, rx⟩ := R.one_inv
    split at ef
    · rename_i ns en
      cases ef
      cases rx with
      | lst h r =>
        refine .inl (.inl ⟨_, ns, rfl, .of (by rw [← intsOf_rep r en]; exact h), fun ns' p hp hs new => ?_⟩)
        rw [isort_of hp hs]
        exact ql _ p _ rfl (imt_int _) new (repL_isort ns)
    · split at ef
      · rename_i ks ek
        cases ef
        cases rx with
        | lst h r =>
          obtain ⟨_, bs, b1, b2, b3⟩ := tupsOf_rep r ek
          subst b1
          refine .inr (.inl ⟨_, _, nsAt H, rfl, .of h, fun x m => ?_, fun ys p hp hs new => ?_⟩)
          · obtain ⟨b, mb, rfl⟩ := List.mem_map.mp m
            rw [nsAt_of (b3 b mb).1]
            exact ⟨⟨_, rfl, .of (b3 b mb).1⟩, (b3 b mb).2⟩
          · obtain ⟨cs, c1, c2⟩ : ∃ cs : List (Addr × List Int), ys = cs.map (fun b => V.ref b.1) ∧ cs.Perm bs := by
              have key : ∀ (l : List V) (bs : List (Addr × List Int)), l.Perm (bs.map fun b => V.ref b.1) → ∃ cs : List (Addr × List Int), l = cs.map (fun b => V.ref b.1) ∧ cs.Perm bs := by
                intro l
                induction l with
                | nil => intro bs p; cases bs with
                  | nil => exact ⟨[], rfl, .refl _⟩
                  | cons b bs => exact nomatch (List.nil_perm.mp p)
                | cons v l ih =>
                  intro bs p
                  have m : v ∈ bs.map fun b => V.ref b.1 := p.mem_iff.mp List.mem_cons_self
                  obtain ⟨b, mb, eb⟩ := List.mem_map.mp m
                  obtain ⟨l1, l2, e12⟩ := List.append_of_mem mb
                  subst e12
                  have p2 : l.Perm ((l1 ++ l2).map fun b => V.ref b.1) := by
                    have := p.trans ((List.perm_middle (a := b) (l₁ := l1) (l₂ := l2)).map fun b => V.ref b.1)
                    rw [List.map_cons, eb] at this
                    exact this.cons_inv
                  obtain ⟨cs, c1, c2⟩ := ih _ p2
                  exact ⟨b :: cs, by rw [List.map_cons, eb, c1], (c2.cons b).trans List.perm_middle.symm⟩
              exact key ys bs hp
            subst c1
            have e3 : cs.map (·.2) = sortT ks := by
              refine sortT_of (by rw [← b2]; exact c2.map _) (List.pairwise_map.mpr (List.Pairwise.imp_of_mem (fun {x y} hx hy h => ?_) (List.pairwise_map.mp hs)))
              rw [nsAt_of (b3 x (c2.mem_iff.mp hx)).1, nsAt_of (b3 y (c2.mem_iff.mp hy)).1] at h
              exact h
            have := rep_dtups (K := K) (H := H) (bs := cs) fun b m => (b3 b (c2.mem_iff.mp m)).1
            rw [e3] at this
            exact ql _ p _ rfl (imt_dtup _) new this
      · cases ef
  · obtain ⟨x, rfl, rx⟩ := R.one_inv
    split at ef
    · rename_i ns en
      split at ef
      · rename_i hz
        cases ef
        cases rx with
        | dK h r =>
          refine .inl (.inr ⟨_, _, ns, rfl, .inl h, intKeys_rep r en, hz, fun ys p hp hs new => ?_⟩)
          rw [isort_of hp hs]
          exact ql _ p _ rfl (imt_int _) new (repL_isort ns)
      · cases ef
    · cases ef
  · obtain ⟨x, rfl, rx⟩ := R.one_inv
    split at ef
    · rename_i ks ek
      cases ef
      cases rx with
      | dT h r =>
        obtain ⟨k1, k2⟩ := keysT_map r ek
        refine .inr (.inr ⟨_, _, ks, rfl, .inl h, k1, k2, fun bs p hp hs hb new => ?_⟩)
        have e3 := sortT_of hp hs
        have := rep_dtups (K := K) (H := H) hb
        rw [e3] at this
        exact ql _ p _ rfl (imt_dtup _) new this
    · cases ef
  · cases ef

/-! ### isinstance with a tuple of built-in classes -/
def tyNames : List D → Option (List String)
  | [] => some []
  | .opq (.ty n) :: r => match tyNames r with
    | some ns => some (n :: ns)
    | none => none
  | _ :: _ => none
def isiAny : List Ty6 → D → Option Bool
  | [], _ => some false
  | T :: r, d => match isiB T d with
    | some true => some true
    | some false => isiAny r d
    | none => none
def isiTF (Ts : List Ty6) : List D → Option D
  | [d, .tup tys] => if tyNames tys = some (Ts.map Ty6.nm) then (if Ts = [] then none else (isiAny Ts d).map .bl) else none
  | _ => none
theorem isiAny_kit {K : PySem.W.Frag} {H : Hp} {d : D} {x : V} (r : Rep K H d x) {t : Value} (ty : TyX K H x t) (hk : ∀ T b, isiB T d = some b → PySem.W.kitOne K t (.type T.nm) = some b) : ∀ {Ts : List Ty6} {b : Bool}, isiAny Ts d = some b → PySem.W.kitAny K t (Ts.map fun T => .type T.nm) = some b
  | [], b, e => by simp [isiAny] at e; subst e; rfl
  | T :: Ts, b, e => by
    unfold isiAny at e
    rw [List.map_cons]
    unfold PySem.W.kitAny
    cases eb : isiB T d with
    | none => rw [eb] at e; cases e
    | some b1 =>
      rw [eb] at e
      rw [hk T b1 eb]
      cases b1 with
      | true => simpa using e
      | false => exact isiAny_kit r ty hk e
theorem tyNames_rep {K : PySem.W.Frag} {H : Hp} : ∀ {ds : List D} {vs : List V} {ns : List String}, RepL K H ds vs → tyNames ds = some ns → Paired ClsV vs (ns.map Value.type)
  | _, _, _, .nil, e => by cases e; exact .nil
  | _, _, _, .cons h t, e => by
    unfold tyNames at e
    split at e
    · rename_i n r heq
      cases heq
    · rename_i n r heq
      cases heq
      cases h
      split at e
      · rename_i ns en
        cases e
        exact .cons (.ty n) (tyNames_rep t en)
      · cases e
    · cases e
theorem isiB_kit2 {K : PySem.W.Frag} {H : Hp} {d : D} {x : V} (r : Rep K H d x) (e : ∃ T b, isiB T d = some b) : ∃ t, TyX K H x t ∧ ∀ T b, isiB T d = some b → PySem.W.kitOne K t (.type T.nm) = some b := by
  have a1 := kb_int; have a2 := kb_bool; have a3 := kb_list; have a4 := kb_tuple; have a5 := kb_str; have a6 := kb_dict
  cases r with
  | non => refine ⟨_, .base .non, fun T b e => kit_ty ?_⟩; cases T <;> cases e <;> simp only [Ty6.nm, a1, a2, a3, a4, a5, a6]
  | bl => refine ⟨_, .base (.bl _), fun T b e => kit_ty ?_⟩; cases T <;> cases e <;> simp only [Ty6.nm, a1, a2, a3, a4, a5, a6]
  | int => refine ⟨_, .base (.int _), fun T b e => kit_ty ?_⟩; cases T <;> cases e <;> simp only [Ty6.nm, a1, a2, a3, a4, a5, a6]
  | str => refine ⟨_, .base (.str _), fun T b e => kit_ty ?_⟩; cases T <;> cases e <;> simp only [Ty6.nm, a1, a2, a3, a4, a5, a6]
  | lst h _ => refine ⟨_, .base (.lst h), fun T b e => kit_ty ?_⟩; cases T <;> cases e <;> simp only [Ty6.nm, a1, a2, a3, a4, a5, a6]
  | tup h _ => refine ⟨_, .base (.tup h), fun T b e => kit_ty ?_⟩; cases T <;> cases e <;> simp only [Ty6.nm, a1, a2, a3, a4, a5, a6]
  | dK h _ => refine ⟨_, .base (.dK h), fun T b e => kit_ty ?_⟩; cases T <;> cases e <;> simp only [Ty6.nm, a1, a2, a3, a4, a5, a6]
  | dT h _ => refine ⟨_, .base (.dT h), fun T b e => kit_ty ?_⟩; cases T <;> cases e <;> simp only [Ty6.nm, a1, a2, a3, a4, a5, a6]
  | scr => obtain ⟨T, b, e⟩ := e; cases T <;> cases e
  | opq => obtain ⟨T, b, e⟩ := e; cases T <;> cases e
  | deep _ => obtain ⟨T, b, e⟩ := e; cases T <;> cases e
  | dTf _ _ => obtain ⟨T, b, e⟩ := e; cases T <;> cases e
  | cls _ => obtain ⟨T, b, e⟩ := e; cases T <;> cases e
  | exn _ _ => obtain ⟨T, b, e⟩ := e; cases T <;> cases e
  | xn _ _ _ => obtain ⟨T, b, e⟩ := e; cases T <;> cases e
theorem s_isiT {K : PySem.W.Frag} (Ts : List Ty6) : OpS K (rIsiT K) (isiTF Ts) := fun H ds vs Q d R ef q => by
  unfold isiTF at ef
  split at ef
  · rename_i d0 tys
    obtain ⟨x, y, rfl, rx, ry⟩ := R.two_inv
    cases ry with
    | @tup a us _ hH rr =>
      split at ef
      · rename_i hn
        split at ef
        · cases ef
        · rename_i hT
          cases eb : isiAny Ts d0 with
          | none => rw [eb] at ef; cases ef
          | some b =>
            rw [eb] at ef
            cases ef
            have ex : ∃ T b, isiB T d0 = some b := by
              cases Ts with
              | nil => exact absurd rfl hT
              | cons T Ts =>
                refine ⟨T, ?_⟩
                unfold isiAny at eb
                cases e1 : isiB T d0 with
                | none => rw [e1] at eb; cases eb
                | some b1 => exact ⟨b1, rfl⟩
            obtain ⟨t, ty, hk⟩ := isiB_kit2 rx ex
            have p := tyNames_rep rr hn
            rw [List.map_map] at p
            exact ⟨x, a, us, t, _, b, rfl, hH, p, ty, isiAny_kit rx ty hk eb, q _ (.bl _)⟩
      · cases ef
  · cases ef
end MM

set_option Elab.async false
set_option linter.all false
set_option maxRecDepth 100000
set_option maxHeartbeats 4000000
noncomputable section
namespace MM
open PySem PySem.Spec PyProof.Rows L2

/-! ### lists of lists of one's own -/
theorem mctL_snoc (y : D) : ∀ es, mctL (es ++ [y]) = mctL es + mct y
  | [] => by simp [mctL]
  | e :: es => by rw [List.cons_append]; simp only [mctL, mctL_snoc y es]; omega
def EvD (K : PySem.W.Frag) (mg : Str → Option Value) (W : WX) (p : Bool) (t : TE) (m : M D) : Prop := ∀ B env σ H F (Q : VK), Sta K B env σ H F → (match m env with
  | .ok d env' => ∀ v H' F' Fd, StaL K B env' σ H' F' [d] [v] Fd → Exl (.deep d) Fd → Nxt H F H' (F' ++ Fd) → PureP p env env' F F' H H' → Q v H'
  | .ex e env' => ExP K mg W B σ H F e env'
  | .no => False) → t σ H Q
/-- a new list of immutable things -/
def dpM (m : M D) : M D := fun env => match m env with
  | .ok (.lst es) e => if mctL es = 0 then .ok (.lst es) e else .no
  | .ok _ _ => .no
  | .ex e e2 => .ex e e2
  | .no => .no
section
variable {K : PySem.W.Frag} {mg : Str → Option Value} {W : WX} {ps : List Nat} {ro : Bool} {p q : Bool} {t : TS} {a : MS} {wi : TI} {mi : M (List D)} {g : TG} {js : List Nat} {bd : D → Env → Option Env} {i : Nat}
  {B : Addr → Prop} {env : Env} {σ : St} {H H0 : Hp} {F F0 Fd : List Addr} {ds : List D} {vs : List V}

theorem OwnL.one_own {Z : Hp} {d : D} {v : V} {Fd : List Addr} (o : OwnL K H Z [d] [v] Fd) : Own K H Z d v Fd := by
  obtain ⟨v', e, o⟩ := o.one_inv
  cases e
  exact o
theorem ed_of {te : TE} {me : M D} {p : Bool} (he : EvN K mg W p te me) : EvD K mg W p te (dpM me) := fun B env σ H F Q S h => by
  refine he B env σ H F Q S ?_
  unfold dpM at h
  cases em : me env with
  | ex e e2 => rw [em] at h; exact h
  | no => rw [em] at h; exact h
  | ok d e =>
    rw [em] at h
    cases d with
    | lst es =>
      dsimp only at h
      by_cases k : mctL es = 0
      · rw [if_pos k] at h
        intro v H' F' Fd S' x N P
        refine h v H' F' Fd S' ⟨?_, x⟩ N P
        have o := S'.own.one_own.len
        have x' : Fd ≠ [] := x
        simp only [mct, k] at o ⊢
        have : Fd.length ≠ 0 := fun z => x' (List.eq_nil_of_length_eq_zero z)
        omega
      · rw [if_neg k] at h; exact h.elim
    | _ => exact h.elim
theorem en_lcD {ws : List Nat} {tt : TT} {te : TE} {mt : M Bool} {me : M D} {q1 q2 : Bool} (hi : EvI K mg W p wi mi) (hg : EvG K js g bd) (ht : EvB K mg (fun _ _ _ _ => False) q1 tt mt) (he : EvD K mg (fun _ _ _ _ => False) q2 te me) (hj : ∀ j ∈ js, j ∈ ws) :
    EvD K mg W false (tLc wi g tt te ws) (lcM ws mi bd mt me) := fun B env σ H F Q S h => by
  refine hi B env σ H F _ S ?_
  unfold lcM at h
  cases em : mi env with
  | ex e e2 => rw [em] at h; exact h
  | no => rw [em] at h; exact h
  | ok xs e1 =>
    rw [em] at h
    dsimp only at h
    intro J H1 F1 S1 fd N1 _ Dl hDl
    by_cases hz : xs.length ≤ sizeLine
    · rw [if_pos hz] at h
      -- the start
      obtain ⟨Fw, Sw, sw⟩ := S1.nil.wipe ws
      have S0 := Sw.mkL hDl
      have N0 : Nxt H1 F1 (upd H1 Dl (.lst [])) (Fw ++ [Dl]) := ((Nxt.refl (H := H1) (F := F1)).add (o := .lst []) hDl).weak fun a m => (List.mem_append.mp m).elim (fun m => List.mem_cons_of_mem _ (sw a m)) fun m => by rw [List.mem_singleton.mp m]; exact List.mem_cons_self
      refine ⟨fun i m H2 => m = xs.length - i ∧ i ≤ xs.length ∧ ∃ F2 env2 es acc Fa, StaL K B env2 (L2.wipe σ ws) H2 F2 [.lst es] [.ref Dl] (Dl :: Fa) ∧ H2 Dl = some (.lst acc) ∧ (OwnL K H2 (Fz B H2 (F2 ++ (Dl :: Fa))) es acc Fa ∧ Fa.length = mctL es) ∧ Nxt H1 F1 H2 (F2 ++ (Dl :: Fa)) ∧ es.length ≤ i ∧
          ∃ ys e3, compM ws bd mt me (xs.drop i) env2 = .ok ys e3 ∧ compM ws bd mt me xs (wipeE e1 ws) = .ok (es ++ ys) e3, ⟨_, rfl, Nat.zero_le _, ?_⟩, ?_⟩
      · cases ec : compM ws bd mt me xs (wipeE e1 ws) with
        | ok ys e3 => exact ⟨Fw, _, [], [], [], S0, upd_same, ⟨.nil, rfl⟩, N0, Nat.le_refl _, ys, e3, by rw [List.drop_zero]; exact ec, rfl⟩
        | ex => rw [ec] at h; exact h.elim
        | no => rw [ec] at h; exact h.elim
      · rintro i m H2 ⟨rfl, hle, F2, env2, es, acc, Fa, S2, hD2, ⟨oa, oal⟩, N2, hes, ys, e3, ec, ec0⟩
        obtain ⟨fy, fs⟩ := fd H2 i (nxt_exH N2)
        have exZ : Ex (Fz B H1 F1) (Fz (Hid B (Dl :: Fa)) H2 F2) := by
          have := nxt_ex (B := B) N2
          have e : Fz (Hid B (Dl :: Fa)) H2 F2 = Fz B H2 (F2 ++ (Dl :: Fa)) := fz_congr fun b => by
            show b ∈ F2 ∨ (B b ∨ b ∈ Dl :: Fa) ↔ b ∈ F2 ++ (Dl :: Fa) ∨ B b
            rw [List.mem_append, or_assoc, or_comm (a := B b)]
          rw [e]
          exact this
        by_cases hl : i < xs.length
        · refine .inr ?_
          obtain ⟨go, yl⟩ := fy xs[i] (List.getElem?_eq_getElem hl)
          rw [List.drop_eq_getElem_cons hl] at ec
          unfold compM at ec
          cases eb : bd xs[i] env2 with
          | none => rw [eb] at ec; cases ec
          | some e4 =>
            rw [eb] at ec
            dsimp only at ec
            refine ⟨go, _, fun H' n' => n', fun x H3 y => ?_⟩
            obtain ⟨S3, r3, ex3⟩ := yld_sta S2.hide exZ (yl x H3 y)
            refine hg _ env2 _ H3 F2 xs[i] x e4 _ S3 r3 eb fun σ4 F4 S4 sub4 k4 l4 => ?_
            have hw : L2.wipe σ4 ws = L2.wipe σ ws := wipe_eq (l4.trans (wipe_length σ ws)) fun j hj' => k4 j fun z => hj' (hj j z)
            refine ⟨hw, ?_⟩
            refine ht _ e4 σ4 H3 F4 _ S4 ?_
            cases et : mt e4 with
            | ex => rw [et] at ec; cases ec
            | no => rw [et] at ec; cases ec
            | ok b e5 =>
              rw [et] at ec
              intro H5 F5 S5 N5 _
              have N4 : Nxt H2 F2 H3 F4 := ⟨fun b o e _ => ex3 _ _ e, fun a m => .inl (sub4 a m)⟩
              have N25 : Nxt H2 F2 H5 F5 := N4.trans N5 fun a m => m
              have S25 : StaL K B e5 σ4 H5 F5 [.lst es] [.ref Dl] (Dl :: Fa) := by
                have := S2.cons S5.nil (by rw [List.append_nil]; exact N25)
                simpa using this
              have nd2 := List.nodup_append.mp S2.nd
              have hD5 : H5 Dl = some (.lst acc) := N25.fr _ _ hD2 fun z => nd2.2.2 Dl z Dl List.mem_cons_self rfl
              have oa5 : OwnL K H5 (Fz B H5 (F5 ++ (Dl :: Fa))) es acc Fa := by
                refine oa.step ?_ fun a m o ho => N25.fr a o ho fun z => nd2.2.2 a z a (List.mem_cons_of_mem _ m) rfl
                refine fz_mk fun b o e m n => ⟨N25.fr b o e fun z => m (List.mem_append_left _ z), fun z => ?_, n⟩
                rcases List.mem_append.mp z with z | z
                · exact (N25.sub b z).elim (fun z => m (List.mem_append_left _ z)) fun z => by rw [z] at e; cases e
                · exact m (List.mem_append_right _ z)
              have N15 : Nxt H1 F1 H5 (F5 ++ (Dl :: Fa)) := ⟨(N2.trans N25 fun a m => List.mem_append_left _ m).fr, fun a m => (List.mem_append.mp m).elim ((N2.trans N25 fun a m => List.mem_append_left _ m).sub a) fun m => N2.sub a (List.mem_append_right _ m)⟩
              cases b with
              | false =>
                rw [if_neg Bool.false_ne_true]
                dsimp only at ec
                obtain ⟨F6, S6, s6⟩ := S25.wipe ws
                rw [hw] at S6
                have exz : Ex (Fz B H5 (F5 ++ (Dl :: Fa))) (Fz B H5 (F6 ++ (Dl :: Fa))) := fz_mk fun b o e m n => ⟨e, fun z => m ((List.mem_append.mp z).elim (fun z => List.mem_append_left _ (s6 b z)) fun z => List.mem_append_right _ z), n⟩
                exact ⟨_, by omega, rfl, hl, F6, _, es, acc, Fa, S6, hD5, ⟨oa5.step exz fun _ _ _ h => h, oal⟩, N15.weak fun a m => (List.mem_append.mp m).elim (fun z => List.mem_append_left _ (s6 a z)) fun z => List.mem_append_right _ z, by omega, ys, e3, ec, ec0⟩
              | true =>
                rw [if_pos rfl]
                dsimp only at ec
                refine he _ e5 σ4 H5 F5 _ S5 ?_
                cases ee : me e5 with
                | ex => rw [ee] at ec; cases ec
                | no => rw [ee] at ec; cases ec
                | ok y e6 =>
                  rw [ee] at ec
                  dsimp only at ec
                  intro v H6 F6 Fy S6 xy N6 _
                  cases ec6 : compM ws bd mt me (xs.drop (i + 1)) (wipeE e6 ws) with
                  | ex => rw [ec6] at ec; cases ec
                  | no => rw [ec6] at ec; cases ec
                  | ok ys' e7 =>
                    rw [ec6] at ec
                    cases ec
                    have S7 := S25.cons S6 N6
                    have nd5 := List.nodup_append.mp S25.nd
                    have hD6 : H6 Dl = some (.lst acc) := N6.fr _ _ hD5 fun z => nd5.2.2 Dl z Dl List.mem_cons_self rfl
                    have exz : Ex (Fz B H5 (F5 ++ (Dl :: Fa))) (Fz B H6 (F6 ++ ((Dl :: Fa) ++ Fy))) := fz_mk fun b o e m n => by
                      have q : b ∈ F6 ++ Fy → False := fun z => (N6.sub b z).elim (fun z => m (List.mem_append_left _ z)) fun z => by rw [z] at e; cases e
                      refine ⟨N6.fr b o e fun z => m (List.mem_append_left _ z), fun z => ?_, n⟩
                      rcases List.mem_append.mp z with z | z
                      · exact q (List.mem_append_left _ z)
                      · rcases List.mem_append.mp z with z | z
                        · exact m (List.mem_append_right _ z)
                        · exact q (List.mem_append_right _ z)
                    have oa6 : OwnL K H6 (Fz B H6 (F6 ++ ((Dl :: Fa) ++ Fy))) es acc Fa := oa5.step exz fun a m o ho => N6.fr a o ho fun z => nd5.2.2 a z a (List.mem_cons_of_mem _ m) rfl
                    have oy : Own K H6 (Fz B H6 (F6 ++ ((Dl :: Fa) ++ Fy))) y v Fy := by
                      have o := S6.own
                      have e : Fz (Hid B (Dl :: Fa)) H6 (F6 ++ Fy) = Fz B H6 (F6 ++ ((Dl :: Fa) ++ Fy)) := fz_congr fun b => by
                        simp only [List.mem_append, Hid]
                        grind
                      rw [e] at o
                      obtain ⟨v', e', o⟩ := o.one_inv
                      cases e'
                      exact o
                    have S8 := S7.app hD6 oa6 oy
                    obtain ⟨F9, S9, s9⟩ := S8.wipe ws
                    rw [hw] at S9
                    refine ⟨acc, hD6, by rw [← oa6.length]; omega, _, by omega, rfl, hl, F9, _, es ++ [y], acc ++ [v], Fa ++ Fy, S9, upd_same, ⟨?_, by rw [List.length_append, oal, xy.1, mctL_snoc]⟩, ?_, by rw [List.length_append, List.length_singleton]; omega, ys', e3, ec6, by rw [List.append_assoc]; exact ec0⟩
                    · obtain ⟨a, vs', G, e1', e2', e3', o⟩ := (S9.own.one_inv.elim fun v' hv' => by
                        obtain ⟨e, o⟩ := hv'
                        cases e
                        exact o : Own K _ _ (.lst (es ++ [y])) (.ref Dl) _).top (List.cons_ne_nil _ _)
                      cases e1'
                      rw [upd_same] at e2'
                      cases e2'
                      cases e3'
                      exact o
                    · have N16 : Nxt H1 F1 H6 (F6 ++ ((Dl :: Fa) ++ Fy)) := N15.cons N6
                      have N17 := N16.mut (o := .lst (acc ++ [v])) (l := Dl) (by simp) fun a m => m
                      exact N17.weak fun a m => (List.mem_append.mp m).elim (fun z => List.mem_append_left _ (s9 a z)) fun z => List.mem_append_right _ z
        · have hd : xs.drop i = [] := List.drop_eq_nil_of_le (by omega)
          rw [hd] at ec
          cases ec
          rw [List.append_nil] at ec0
          rw [ec0] at h
          dsimp only at h
          refine .inl ⟨fs (by omega), ?_⟩
          obtain ⟨F9, S9, s9⟩ := S2.rest (σ := σ) (e1 := e1) (fun j d ej => by
            obtain ⟨v, hv, r⟩ := S1.rel.fzAt ej
            exact ⟨v, hv, r.mono (nxt_ex N2)⟩) ws
          rw [unw_wipe] at S9
          refine h _ H2 F9 (Dl :: Fa) S9 ⟨by simp only [List.length_cons, mct, oal]; omega, List.cons_ne_nil _ _⟩ ?_ (fun z => nomatch z)
          exact (N1.trans N2 fun a m => m).weak fun a m => (List.mem_append.mp m).elim (fun z => List.mem_append_left _ (s9 a z)) fun z => List.mem_append_right _ z
    · rw [if_neg hz] at h
      exact h.elim
end
end MM

set_option Elab.async false
set_option linter.all false
set_option maxRecDepth 100000
set_option maxHeartbeats 4000000
noncomputable section
namespace MM
open PySem PySem.Spec PyProof.Rows L2

def asgD (i : Nat) (m : M D) : MS := fun env => match m env with
  | .ok d e => .nx (e.set i (some (true, .deep d)))
  | .ex e e2 => .ex e e2
  | .no => .no
def udE (i : Nat) (env : Env) : Env := match env[i]? with
  | some (some (true, .deep (.lst ds))) => env.set i (some (true, .lst ds))
  | _ => env
/-- the slot's list is no longer looked into -/
def udM (i : Nat) (a : MS) : MS := fun env => match a env with
  | .nx e => .nx (udE i e)
  | r => r
def setM2 (i : Nat) (mv ma mb : M D) : MS := fun env => match mv env with
  | .ok v e1 => match e1[i]? with
    | some (some (true, .deep (.lst ds))) => match ma e1 with
      | .ok (.int a) _ => match mb e1 with
        | .ok (.int b) _ => match ixN ds.length a with
          | some n => match ds[n]? with
            | some (.lst es) => match ixN es.length b with
              | some m => if mctL es = 0 ∧ mct v = 0 then .nx (e1.set i (some (true, .deep (.lst (ds.set n (.lst (es.set m v))))))) else .no
              | none => .no
            | _ => .no
          | none => .no
        | .ok _ _ => .no
        | .ex _ _ => .no
        | .no => .no
      | .ok _ _ => .no
      | .ex _ _ => .no
      | .no => .no
    | _ => .no
  | .ex e e2 => .ex e e2
  | .no => .no
section
variable {K : PySem.W.Frag} {mg : Str → Option Value} {W : WX} {ps : List Nat} {ro : Bool} {p q : Bool} {te t1 t2 ta tb : TE} {t : TS} {m ma mb mv : M D} {a : MS} {i : Nat}
  {B : Addr → Prop} {env : Env} {σ : St} {H H0 : Hp} {F F0 Fd : List Addr} {ds : List D} {vs : List V}
theorem StaL.deep {d : D} {v : V} (S : StaL K B env σ H F [d] [v] Fd) : StaL K B env σ H F [.deep d] [v] Fd :=
  ⟨S.rel, .one (.deep S.own.one_own), S.nd, S.liv, S.bad⟩
theorem es_asgD (h1 : EvD K mg W p te m) (hi : i ∉ ps) : EvS K mg W ps ro (tAsg te (gName i)) (asgD i m) := fun B env σ H F D S h => by
  refine h1 B env σ H F _ S ?_
  unfold asgD at h
  cases em : m env with
  | ok d e =>
    rw [em] at h
    intro v H' F' Fd S' hx N _
    show D.nx (σ.set i (some v)) H'
    by_cases hl : i < e.length
    · obtain ⟨F2, S3, sub⟩ := S'.deep.putO (i := i) hx hl
      exact h _ H' F2 S3 (N.weak sub) (.set hi)
    · have e1 : e.set i (some (true, .deep d)) = e := List.set_eq_of_length_le (by omega)
      have e2 : σ.set i (some v) = σ := List.set_eq_of_length_le (by rw [← S'.sta.lenE]; omega)
      rw [e2]
      dsimp only at h
      rw [e1] at h
      exact h _ H' F' S'.sta (N.weak fun a m => List.mem_append_left _ m) .refl
  | ex e e2 => rw [em] at h; exact .xs h
  | no => rw [em] at h; exact h
theorem Sta.ud (S : Sta K B env σ H F) (i : Nat) : Sta K B (udE i env) σ H F := by
  unfold udE
  split
  · rename_i ds e
    obtain ⟨hl, _⟩ := List.getElem?_eq_some_iff.mp e
    obtain ⟨F1, Fi, F2, eF, sl, g⟩ := S.rel.cut hl
    obtain ⟨v, hv, hx, ho⟩ := sl _ e
    obtain ⟨g1, _, _⟩ := g H _ (fun _ _ h => h) fun _ _ _ h => h
    have o2 : Own K H (Fz B H F) (.lst ds) v Fi := by
      cases ho with
      | frz r => exact absurd rfl hx.2
      | deep o => exact o
    have r := g1 _ v Fi (show Exl (.lst ds) Fi from hx.2) o2
    rw [set_same hv, ← eF] at r
    exact ⟨r, S.nd, S.liv, S.bad⟩
  · exact S
theorem OwnL.cut {Z : Hp} : ∀ {ds : List D} {vs : List V} {F : List Addr} {n : Nat} {d : D}, OwnL K H Z ds vs F → ds[n]? = some d → ∃ F1 Fi F2 v, F = F1 ++ (Fi ++ F2) ∧ vs[n]? = some v ∧ Own K H Z d v Fi ∧ F1.length + F2.length + mct d ≤ mctL ds ∧
    ∀ H' Z', Ex Z Z' → (∀ a, a ∈ F1 ∨ a ∈ F2 → ∀ o, H a = some o → H' a = some o) → ∀ d' Fi', Own K H' Z' d' v Fi' → OwnL K H' Z' (ds.set n d') vs (F1 ++ (Fi' ++ F2))
  | _, _, _, 0, _, .cons (F := Fa) (G := Ga) h t, e => by
    cases e
    refine ⟨[], Fa, Ga, _, rfl, rfl, h, ?_, fun H' Z' ez k d' Fi' o => .cons (F := Fi') o (t.step ez fun a m => k a (.inr m))⟩
    have := t.len
    simp only [mctL, List.length_nil]
    omega
  | _, _, _, n + 1, _, .cons (F := Fa) (G := Ga) h t, e => by
    obtain ⟨F1, Fi, F2, v, eF, ev, o, l, g⟩ := OwnL.cut (n := n) t e
    refine ⟨Fa ++ F1, Fi, F2, v, by rw [eF, List.append_assoc], ev, o, ?_, fun H' Z' ez k d' Fi' o' => ?_⟩
    · have := h.len
      simp only [mctL, List.length_append]
      omega
    · rw [List.append_assoc]
      exact .cons (h.step ez fun a m => k a (.inl (List.mem_append_left _ m))) (g H' Z' ez (fun a m => k a (m.elim (fun m => .inl (List.mem_append_right _ m)) .inr)) d' Fi' o')
  | _, _, _, _, _, .nil, e => nomatch e
theorem OwnL.rep0 {Z : Hp} {ds : List D} {vs : List V} : OwnL K H Z ds vs [] → RepL K Z ds vs := fun o => by
  have := o.freeze (Z' := Z) (fun _ _ h => h) fun a m => nomatch m
  exact this
theorem mctL_set {es : List D} {v : D} : ∀ {m : Nat}, mctL es = 0 → mct v = 0 → mctL (es.set m v) = 0 := by
  induction es with
  | nil => intro m _ _; rfl
  | cons e es ih =>
    intro m h1 h2
    simp only [mctL] at h1
    cases m with
    | zero => simp only [List.set_cons_zero, mctL]; omega
    | succ m => simp only [List.set_cons_succ, mctL, ih (by omega) h2]; omega
theorem mctL_set2 {d d' : D} (hd : mct d' = mct d) : ∀ {ds : List D} {n : Nat}, ds[n]? = some d → mctL (ds.set n d') = mctL ds
  | [], _, e => nomatch e
  | e0 :: es, 0, e => by cases e; simp only [List.set_cons_zero, mctL, hd]
  | e0 :: es, n + 1, e => by simp only [List.set_cons_succ, mctL, mctL_set2 hd (n := n) e]
theorem RepL.set {Z : Hp} {d : D} {v : V} (r : Rep K Z d v) : ∀ {ds : List D} {vs : List V} (n : Nat), RepL K Z ds vs → RepL K Z (ds.set n d) (vs.set n v)
  | _, _, _, .nil => .nil
  | _, _, 0, .cons _ t => .cons r t
  | _, _, n + 1, .cons h t => .cons h (RepL.set r n t)
/-- x[a][b] = v -/
theorem es_set2 (h1 : EvE K mg W p te mv) (h2 : EvE K mg W true ta ma) (h3 : EvE K mg W true tb mb) : EvS K mg W ps ro (tAsg te (gSub (tOp (rIxAny K) (tVar i) ta) tb rSetAny)) (setM2 i mv ma mb) := fun B env σ H F D S h => by
  refine h1 B env σ H F _ S ?_
  unfold setM2 at h
  cases em : mv env with
  | ex e e2 => rw [em] at h; exact .xs h
  | no => rw [em] at h; exact h
  | ok v0 e1 =>
    rw [em] at h
    dsimp only at h
    intro v H1 F1 Fd S1 N1 _
    split at h
    · rename_i ds ei
      obtain ⟨S1b, r1⟩ := S1.freeze
      obtain ⟨v', ev', rv⟩ := r1.one_inv
      cases ev'
      obtain ⟨o, G, ho, _, _⟩ := S1b.rel.anyAt ei
      refine ⟨o, ho, h2 B e1 σ H1 F1 _ S1b ?_⟩
      cases ea : ma e1 with
      | ex e e2 => rw [ea] at h; exact h.elim
      | no => rw [ea] at h; exact h.elim
      | ok a0 e2 =>
        rw [ea] at h
        intro a H2 F2 Fa S2 N2 P2
        obtain ⟨p1, p2, p3⟩ := P2 rfl
        subst p1 p2
        obtain ⟨S2b, r2⟩ := S2.freeze
        obtain ⟨a', ev', ra⟩ := r2.one_inv
        cases ev'
        cases a0 with
        | int ia =>
          cases ra
          dsimp only at h
          cases eb : mb e2 with
          | ex e e3 => rw [eb] at h; exact h.elim
          | no => rw [eb] at h; exact h.elim
          | ok b0 e3 =>
            rw [eb] at h
            cases b0 with
            | int ib =>
              dsimp only at h
              split at h
              · rename_i n en
                split at h
                · rename_i es ed
                  split at h
                  · rename_i mm emm
                    split at h
                    · rename_i hk
                      -- the slot
                      obtain ⟨hl, _⟩ := List.getElem?_eq_some_iff.mp ei
                      -- the read of x[a]
                      have read : ∀ {H3 : Hp} (S3 : Sta K B e2 σ H3 F2), ∃ l vs l2 vs2 Fs1 Fi1 Fi2 Fs2, o = .ref l ∧ H3 l = some (.lst vs) ∧ vs[n]? = some (.ref l2) ∧ H3 l2 = some (.lst vs2) ∧ F2 = Fs1 ++ ((l :: (Fi1 ++ (l2 :: Fi2))) ++ Fs2) ∧
                          vs.length = ds.length ∧ vs2.length = es.length ∧ ∀ (v : V) (rv : Rep K (Fz B H3 F2) v0 v), Sta K B (e2.set i (some (true, .deep (.lst (ds.set n (.lst (es.set mm v0))))))) σ (upd H3 l2 (.lst (vs2.set mm v))) F2 := by
                        intro H3 S3
                        obtain ⟨Fs1, Fi, Fs2, eF, sl, g⟩ := S3.rel.cut hl
                        obtain ⟨v2, hv2, hx, o2⟩ := sl _ ei
                        rw [ho] at hv2
                        cases hv2
                        have o3 : Own K H3 (Fz B H3 F2) (.lst ds) o Fi := by
                          cases o2 with
                          | frz r => exact absurd rfl hx.2
                          | deep o => exact o
                        obtain ⟨l, vs, FL, rfl, hH, eFi, ol⟩ := o3.top hx.2
                        subst eFi
                        obtain ⟨A1, A, A2, u, eA, eu, oe, le, gg⟩ := ol.cut ed
                        subst eA
                        have hA : A ≠ [] := fun z => by
                          have e1 := hx.1
                          subst z
                          simp only [mct, List.length_cons, List.length_append, List.length_nil] at e1 le
                          omega
                        obtain ⟨l2, vs2, A', rfl, hH2, eA', ol2⟩ := oe.top hA
                        have hA' : A' = [] := by
                          have := ol2.len
                          rw [hk.1] at this
                          exact List.eq_nil_of_length_eq_zero (by omega)
                        subst hA'
                        subst eA'
                        refine ⟨l, vs, l2, vs2, Fs1, A1, A2, Fs2, rfl, hH, eu, hH2, by rw [eF]; simp, ol.length.symm, ol2.length.symm, fun v rv => ?_⟩
                        have nd := S3.nd
                        rw [eF] at nd
                        have nl : l2 ∉ Fs1 ∧ l2 ∉ Fs2 ∧ l2 ≠ l ∧ l2 ∉ A1 ∧ l2 ∉ A2 := by
                          simp only [List.nodup_append, List.nodup_cons, List.mem_append, List.mem_cons, List.cons_append] at nd
                          grind
                        have lF : l2 ∈ F2 := by rw [eF]; simp
                        have ex : Ex (Fz B H3 F2) (Fz B (upd H3 l2 (.lst (vs2.set mm v))) F2) := fz_mk fun b o e m n => by
                          have nb : b ≠ l2 := fun z => m (by rw [z]; exact lF)
                          exact ⟨by rw [upd_ne nb]; exact e, m, n⟩
                        obtain ⟨g1, _, _⟩ := g (upd H3 l2 (.lst (vs2.set mm v))) _ ex fun a m o h => by
                          have na : a ≠ l2 := fun z => by subst z; exact m.elim nl.1 nl.2.1
                          rw [upd_ne na]
                          exact h
                        have oin : Own K (upd H3 l2 (.lst (vs2.set mm v))) (Fz B (upd H3 l2 (.lst (vs2.set mm v))) F2) (.lst (es.set mm v0)) (.ref l2) [l2] :=
                          .lst upd_same (OwnL.of_rep ((ol2.rep0.mono ex).set (rv.mono ex) mm))
                        have oout := gg (upd H3 l2 (.lst (vs2.set mm v))) _ ex (fun a m o h => by
                          have na : a ≠ l2 := fun z => by subst z; exact m.elim nl.2.2.2.1 nl.2.2.2.2
                          rw [upd_ne na]
                          exact h) _ [l2] oin
                        have owhole : Own K (upd H3 l2 (.lst (vs2.set mm v))) (Fz B (upd H3 l2 (.lst (vs2.set mm v))) F2) (.deep (.lst (ds.set n (.lst (es.set mm v0))))) (.ref l) (l :: (A1 ++ ([l2] ++ A2))) :=
                          .deep (.lst (by rw [upd_ne (fun z => nl.2.2.1 z.symm)]; exact hH) oout)
                        have hmc : mct (.lst (es.set mm v0)) = mct (.lst es) := by
                          simp only [mct, hk.1, mctL_set hk.1 hk.2]
                        have hxx : Exl (.deep (.lst (ds.set n (.lst (es.set mm v0))))) (l :: (A1 ++ ([l2] ++ A2))) := by
                          refine ⟨?_, List.cons_ne_nil _ _⟩
                          have := hx.1
                          simp only [mct, mctL_set2 hmc ed] at this ⊢
                          exact this
                        have r1 := g1 _ (.ref l) _ hxx owhole
                        rw [set_same ho] at r1
                        have e9 : Fs1 ++ ((l :: (A1 ++ ([l2] ++ A2))) ++ Fs2) = F2 := by rw [eF]
                        rw [e9] at r1
                        refine ⟨r1, S3.nd, fun a m => ?_, fun b q => ⟨?_, (S3.bad b q).2⟩⟩
                        · by_cases e : a = l2
                          · subst e; rw [upd_same]; exact ⟨nofun, nofun, nofun⟩
                          · rw [upd_ne e]; exact S3.liv a m
                        · by_cases e : b = l2
                          · subst e; rw [upd_same]; exact ⟨nofun, nofun, nofun⟩
                          · rw [upd_ne e]; exact (S3.bad b q).1
                      obtain ⟨l, vs, l2, vs2, _, _, _, _, rfl, hH, hn, hH2, _, lv, lv2, _⟩ := read S2b
                      refine .inl (.inl ⟨l, _, ia, .ref l2, rfl, rfl, .of hH, ?_, ?_⟩)
                      · unfold atI
                        rw [lv, en]
                        exact hn
                      refine h3 B e2 σ H2 F2 _ S2b ?_
                      rw [eb]
                      intro b H3 F3 Fb S3 N3 P3
                      obtain ⟨q1, q2, q3⟩ := P3 rfl
                      subst q1 q2
                      obtain ⟨S3b, r3⟩ := S3.freeze
                      obtain ⟨b', ev', rb⟩ := r3.one_inv
                      cases ev'
                      cases rb
                      obtain ⟨l', vs', l2', vs2', Fs1, Fi1, Fi2, Fs2, e', hH', hn', hH2', eF, lv', lv2', fin⟩ := read S3b
                      cases e'
                      have h9 : vs' = vs := by
                        have := q3 _ _ hH
                        rw [hH'] at this
                        cases this; rfl
                      subst h9
                      rw [hn] at hn'
                      cases hn'
                      have rv3 : Rep K (Fz B H3 F3) v0 v := rv.mono (fz_mk fun b o e m n => ⟨q3 _ _ (p3 _ _ e), m, n⟩)
                      refine .inl ⟨l2, vs2', ib, mm, rfl, rfl, hH2', by rw [lv2']; exact emm, ?_⟩
                      have N4 : Nxt H F H3 F3 := ((N1.weak fun a m => List.mem_append_left _ m).grow p3).grow q3
                      exact h σ _ F3 (fin v rv3) (N4.mut (by rw [eF]; simp) fun a m => m) .refl
                    · exact h.elim
                  · exact h.elim
                · exact h.elim
              · exact h.elim
            | _ => exact h.elim
        | _ => exact h.elim
    · exact h.elim
theorem es_ud (i : Nat) (h1 : EvS K mg W ps ro t a) : EvS K mg W ps ro t (udM i a) := fun B env σ H F D S h => by
  refine h1 B env σ H F D S ?_
  unfold udM at h
  cases em : a env with
  | nx e => rw [em] at h; exact fun σ' H' F' S' => h σ' H' F' (S'.ud i)
  | _ => rw [em] at h; exact h
end
/-! ### {k: v} with a tuple for a key -/
def tDispT (tk tv : TE) : TE := fun σ H Q => ∀ p, H p = none → tk σ (upd H p (.dT [])) fun x H1 => tv σ H1 fun y H2 => ∃ (b : Addr) (k : List Key), x = .ref b ∧ H2 b = some (.tup (k.map kV)) ∧ H2 p = some (.dT []) ∧ Q (.ref p) (upd H2 p (.dT [(k, y)]))
theorem pe_dispT {X : Cx} {pos : Pos} {k v : Expr} {tk tv : TE} (hu : X.A.units + 1 < cLine) (hk : PE X k tk) (hv : PE X v tv) : PE X (.Dict [some k] [v] pos) (tDispT tk tv) := by
  refine ⟨fun pins s σ H Q I q => ?_⟩
  have hn := I.hok.fresh (Nat.le_refl s.heap.objs.size)
  have I1 := I.laid (a := s.heap.objs.size) (o := .dT []) (h' := s.heap.push { cls := .type "dict", data := .dict #[] }) (t' := s.toks) (fun _ _ q => Heap.get?_push_of_some _ q) (Nat.le_refl _) (dt_empty s.heap I.big)
  have hr : (tupleKind (mixKind X.prog X.w)).room X.A := show X.A.units < cLine by omega
  have hsh : (evalEachOpt [some k] X.env).zip ((evalEach [v] X.env).map fun v => do let x ← v; standAt pos; pure x) = (pairTrees [some k] [v] X.env pos).map fun p => (some p.1, p.2) := rfl
  rw [arm_eval_Dict, hsh, dictDisplay_pairs (pairTrees [some k] [v] X.env pos) (fun z => nomatch z) (show 1 < 17 by omega)]
  refine wpAny_bind (wpAny_standAt (wpAny_bind (wpAny_subDictH (knd := tupleKind (mixKind X.prog X.w)) (Q := fun d s' => wpAny (model X.prog X.w) X.A (pure (Value.ref d)) (EP X pins σ Q) X.xe s') hr (show 1 ≤ 15 by omega) ?_)))
  refine pairTrees_cons_walk (thn (hk.run pins _ σ _ _ I1 (q _ hn)) fun u s1 ⟨x, H1, I2, rx, q1⟩ => thn (hv.run pins s1 σ H1 _ I2 q1) fun w2 s2 ⟨y, H2, I3, ry, b, kk, ex, eb, ep, q2⟩ => pairTrees_nil_walk ?_)
  subst ex
  cases (show u = Value.ref b from rx)
  obtain ⟨z, hd, xs, r0, dd⟩ := dt_of I3.hok ep
  cases r0
  refine ⟨[(kk, b, w2)], ⟨rfl, rfl, key_of I3.hok eb, trivial⟩, dd, fun h' tk dd' hs => wpAny_pure ⟨.ref s.heap.objs.size, _, ?_, rfl, q2⟩⟩
  obtain ⟨o, es, epp, hq, h2, h3, h4, _, h5⟩ := dd'
  refine d_write I3 (by rw [ep]; exact True.intro) hs ⟨o, hq⟩ ⟨by rw [sizeLine_eq, List.length_singleton]; omega, hd, [(kk, b, w2)], .cons ⟨rfl, ?_, ry⟩ .nil, o, es, epp, hq, h2, h3, h4, h5⟩
  rw [upd_ne (ne_of eb ep (fun z => nomatch z))]
  exact eb
def dT1M (mk mv : M D) : M D := fun env => match mk env with
  | .ok (.tup ks) e1 => match mv e1 with
    | .ok v e2 => match keysD ks with
      | some k => .ok (.dT [(k, v)]) e2
      | none => .no
    | .ex e e2 => .ex e e2
    | .no => .no
  | .ok _ _ => .no
  | .ex e e2 => .ex e e2
  | .no => .no
section
variable {K : PySem.W.Frag} {mg : Str → Option Value} {W : WX} {p q : Bool} {tk tv : TE} {mk mv : M D}
theorem en_dispT (h1 : EvE K mg W p tk mk) (h2 : EvE K mg W q tv mv) : EvN K mg W (p && q) (tDispT tk tv) (dT1M mk mv) := fun B env σ H F Q S h pp hp => by
  have hn := S.nil.sub0 hp
  rw [List.append_nil] at hn
  have S1 : Sta K (Hid B [pp]) env σ (upd H pp (.dT [])) F := by
    have S2 := S.new (o := .dT []) hp
    refine ⟨?_, S2.nd, S2.liv, fun b q => ?_⟩
    · refine S2.rel.step (fz_mk fun b o e m n => ⟨e, m, n⟩) (fun _ _ _ h => h) |> fun r => ?_
      have ex : Ex (Fz B H F) (Fz (Hid B [pp]) (upd H pp (.dT [])) F) := fz_mk fun b o e m n => by
        have np : b ≠ pp := fun z => by subst z; rw [hp] at e; cases e
        exact ⟨by rw [upd_ne np]; exact e, m, fun z => z.elim n fun z => np (List.mem_singleton.mp z)⟩
      exact S.rel.step ex fun a _ o h => ex_new hp _ _ h
    · rcases q with q | q
      · exact S2.bad b q
      · rw [List.mem_singleton.mp q, upd_same]
        exact ⟨⟨nofun, nofun, nofun⟩, hn.1⟩
  have N1 : Nxt H F (upd H pp (.dT [])) F := ⟨fun b o h _ => ex_new hp _ _ h, fun a m => .inl m⟩
  refine h1 _ env σ _ F _ S1 ?_
  unfold dT1M at h
  cases em : mk env with
  | ex e e2 => rw [em] at h; exact ExP.mono h (fun H' F' n => N1.trans n fun a m => m) fun b z => .inl z
  | no => rw [em] at h; exact h
  | ok d e1 =>
    rw [em] at h
    cases d with
    | tup ks =>
      dsimp only at h
      intro x H1 F1 Fk S2 M1 P1
      obtain ⟨S3, r3⟩ := S2.freeze
      obtain ⟨x', e', rk⟩ := r3.one_inv
      cases e'
      have M1' : Nxt (upd H pp (.dT [])) F H1 F1 := M1.weak fun a m => List.mem_append_left _ m
      refine h2 _ e1 σ H1 F1 _ S3 ?_
      cases ev : mv e1 with
      | ex e e2 => rw [ev] at h; exact ExP.mono h (fun H' F' n => N1.trans (M1'.trans n fun a m => m) fun a m => m) fun b z => .inl z
      | no => rw [ev] at h; exact h
      | ok v e2 =>
        rw [ev] at h
        dsimp only at h
        intro y H2 F2 Fv S4 M2 P2
        obtain ⟨S5, r5⟩ := S4.freeze
        obtain ⟨y', e', rv⟩ := r5.one_inv
        cases e'
        have M2' : Nxt H1 F1 H2 F2 := M2.weak fun a m => List.mem_append_left _ m
        cases ek : keysD ks with
        | none => rw [ek] at h; exact h.elim
        | some k =>
          rw [ek] at h
          dsimp only at h
          have pB : Hid B [pp] pp := .inr (List.mem_singleton_self _)
          have p1 : H1 pp = some (.dT []) := M1'.fr _ _ upd_same hn.1
          have p2 : H2 pp = some (.dT []) := M2'.fr _ _ p1 (S3.bad pp pB).2
          have npF2 : pp ∉ F2 := (S5.bad pp pB).2
          cases rk with
          | tup hb rb =>
            rename_i b vs
            rw [keysD_rep rb ek] at hb
            obtain ⟨hb1, hb2, hb3⟩ := fz_some hb
            refine ⟨b, k, rfl, M2'.fr _ _ hb1 hb2, p2, ?_⟩
            have ez : Fz (Hid B [pp]) H2 F2 = Fz B H2 (F2 ++ [pp]) := fz_congr fun b => by
              simp only [Hid, List.mem_append]
              grind
            have ex : Ex (Fz (Hid B [pp]) H2 F2) (Fz B (upd H2 pp (.dT [(k, y)])) (F2 ++ [pp])) := by
              rw [ez]
              exact fz_mk fun b o e m n => by
                have np : b ≠ pp := fun z => m (by rw [z]; simp)
                exact ⟨by rw [upd_ne np]; exact e, m, n⟩
            have kp : ∀ a, a ≠ pp → ∀ o, H2 a = some o → (upd H2 pp (.dT [(k, y)])) a = some o := fun a n o h => by rw [upd_ne n]; exact h
            have S6 : StaL K B e2 σ (upd H2 pp (.dT [(k, y)])) F2 [.dT [(k, v)]] [.ref pp] [pp] := by
              refine ⟨S5.rel.step ex fun a m o h => kp a (fun z => by subst z; exact npF2 m) o h, .one (.dT upd_same (.cons (rv.mono ex) .nil)), ?_, fun a m => ?_, fun b q => ⟨?_, ?_⟩⟩
              · refine List.nodup_append.mpr ⟨S5.nd, by simp, fun a m b q z => ?_⟩
                subst z
                rw [List.mem_singleton.mp q] at m
                exact npF2 m
              · by_cases e : a = pp
                · subst e; rw [upd_same]; exact ⟨nofun, nofun, nofun⟩
                · rw [upd_ne e]
                  rcases List.mem_append.mp m with m | m
                  · exact S5.liv a m
                  · exact absurd (List.mem_singleton.mp m) e
              · by_cases e : b = pp
                · subst e; rw [upd_same]; exact ⟨nofun, nofun, nofun⟩
                · rw [upd_ne e]; exact (S5.bad b (.inl q)).1
              · intro m
                rcases List.mem_append.mp m with m | m
                · exact (S5.bad b (.inl q)).2 m
                · rw [List.mem_singleton.mp m] at q
                  exact hn.2 q
            have N2 : Nxt H F H2 F2 := (N1.trans M1' fun a m => m).trans M2' fun a m => m
            refine h _ _ F2 [pp] S6 (List.cons_ne_nil _ _) ?_ fun hq => ?_
            · have N3 : Nxt H F H2 (F2 ++ [pp]) := ⟨N2.fr, fun a m => (List.mem_append.mp m).elim (N2.sub a) fun m => by rw [List.mem_singleton.mp m]; exact .inr hp⟩
              exact N3.mut (l := pp) (by simp) fun a m => m
            · simp only [Bool.and_eq_true] at hq
              obtain ⟨a1, a2, a3⟩ := P1 hq.1
              obtain ⟨b1, b2, b3⟩ := P2 hq.2
              refine ⟨b1.trans a1, b2.trans a2, fun b o e => ?_⟩
              have np : b ≠ pp := fun z => by subst z; rw [hp] at e; cases e
              rw [upd_ne np]
              exact b3 _ _ (a3 _ _ (ex_new hp _ _ e))
    | _ => exact h.elim
end
/-! ### a def that calls itself: no fuel left -/
theorem fnF0 {P : Program} {w : World} {K : PySem.W.Frag} {mg : Str → Option Value} {base : Heap} {CX : CXT} {k : Nat} {f : Addr} {fd : FuncData} {ps : List Str} {ro : Bool} : FnOk P w K mg base CX k f fd ps (spF K mg ro fun _ => .no) :=
  ⟨fun _ _ _ _ ⟨_, _, _, _, z⟩ => z.elim, fun _ _ _ _ _ _ _ _ _ _ _ _ _ ⟨_, _, _, _, z⟩ => z.elim⟩
end MM

set_option Elab.async false
set_option linter.all false
set_option maxRecDepth 100000
set_option maxHeartbeats 4000000
noncomputable section
namespace MM
open PySem PySem.Spec PyProof.Rows L2

/-! ### the kit's rules with the written part named: in a block's context too -/
section
variable {X : Cx} {K : PySem.W.Frag}
theorem op_addAny_ (hK : X.K = K) : OpR X (binaryOp .Add) (rAddAny K) := hK ▸ op_addAny
theorem op_mulAny_ (hK : X.K = K) : OpR X (binaryOp .Mult) (rMulAny K) := hK ▸ op_mulAny
theorem ix_any_ (hK : X.K = K) (hu : X.A.units + 1 < cLine) : IxR X (rIxAny K) := hK ▸ ix_any hu
theorem op_eqD_ (hK : X.K = K) (hu : X.A.units + 64 < cLine) : OpR X (compareOp .Eq) (rEqD K) := hK ▸ op_eqD hu
theorem op_neD_ (hK : X.K = K) (hu : X.A.units + 64 < cLine) : OpR X (compareOp .NotEq) (rNeD K) := hK ▸ op_neD hu
theorem op_inW_ (hK : X.K = K) (hu : X.A.units + 65 < cLine) : OpR X (compareOp .In) (rInW K) := hK ▸ op_inW hu
theorem op_notInW_ (hK : X.K = K) (hu : X.A.units + 65 < cLine) : OpR X (compareOp .NotIn) (rNotInW K) := hK ▸ op_notInW hu
theorem call_lenAny_ (hK : X.K = K) : CallR X (.builtin "len") (rLenAny K) := hK ▸ call_lenAny
theorem cr_all_ (hK : X.K = K) (hc : X.calm = true) : CallR X (.builtin "all") (rAll K) := hK ▸ cr_all hc
theorem cr_any_ (hK : X.K = K) (hc : X.calm = true) : CallR X (.builtin "any") (rAny K) := hK ▸ cr_any hc
theorem cr_sorted3_ (hK : X.K = K) (hc : X.calm = true) : CallR X (.builtin "sorted") (rSorted3 K) := hK ▸ cr_sorted3 hc
theorem call_isi_ (hK : X.K = K) : CallR X (.builtin "isinstance") (rIsi K) := hK ▸ call_isi
theorem call_isiT_ (hK : X.K = K) : CallR X (.builtin "isinstance") (rIsiT K) := hK ▸ call_isiT
theorem sl_any_ (hK : X.K = K) : SlR X (rSlAny K) := hK ▸ sl_any
theorem call_tuple_of_ (hK : X.K = K) : CallR X (.type "tuple") (fun xs H Q => ∃ p ys, xs = [.ref p] ∧ ((SqL K H p ys ∧ ∀ l, H l = none → Q (.ref l) (upd H l (.tup ys))) ∨ (SqT K H p ys ∧ Q (.ref p) H))) := by
  subst hK; exact call_tuple_of
theorem call_list_of_ (hK : X.K = K) : CallR X (.type "list") (fun xs H Q => ∃ p ys, xs = [.ref p] ∧ (SqL K H p ys ∨ SqT K H p ys) ∧ ∀ l, H l = none → Q (.ref l) (upd H l (.lst ys))) := by
  subst hK; exact call_list_of
theorem pi_seq_ {tg l : Expr} {tl : TE} (hK : X.K = K) (hl : PE X l tl) : PI X tg l (iSeq K tl) := hK ▸ pi_seq hl
theorem pi_zip_ {e e2 : Expr} {ta : TA} {p pos tpos : Pos} {elts : List Expr} {kk : Nat} (hK : X.K = K) (hg : Gl X "zip") (hm : X.mg "zip" = none) (ha : PA X [e, e2] ta)
    (hs : starEach [e, e2] X.env = (false, eval e X.env) :: starEach [e2] X.env := by rfl) (hpl : (backTo pos (starEach [e2] X.env)).any (·.1) = false := by rfl) :
    PI X (.Tuple elts kk tpos) (.Call (.Name "zip" p) [e, e2] [] pos) (RZ.iZipA K ta) := hK ▸ RZ.pi_zipA hg hm ha hs hpl
theorem pi_enum_ {e : Expr} {ta : TA} {p pos tpos : Pos} {elts : List Expr} {kk : Nat} (hK : X.K = K) (hg : Gl X "enumerate") (hm : X.mg "enumerate" = none) (ha : PA X [e] ta) (hs : starEach [e] X.env = [(false, eval e X.env)] := by rfl) :
    PI X (.Tuple elts kk tpos) (.Call (.Name "enumerate" p) [e] [] pos) (iEnum K ta) := hK ▸ pi_enum hg hm ha hs
theorem pg_tup_ {es : List Expr} {k : Nat} {t : TGs} {n : Nat} {pos : Pos} (hK : X.K = K) (hc : X.calm = true) (h : PGs X es t)
    (hn : (assignEach es X.env).length = n := by rfl) (hst : (assignEach es X.env).findIdx? (·.1) = none := by rfl) : PG X (.Tuple es k pos) (gTup K n t) := hK ▸ pg_tup hc h hn hst
end
/-! ### an item, immutable, of what is only read -/
def ixIF (ds : List D) : Option D := match ixF ds with
  | some d => if imt d then some d else none
  | none => none
theorem i_ix {K : PySem.W.Frag} : OpI K (two (rIxAny K)) ixIF := fun H ds vs Q d R ef q _ => by
  unfold ixIF at ef
  split at ef
  · rename_i d' e
    split at ef
    · rename_i k
      cases ef
      exact ix_core H H ds vs Q d (fun _ _ h => h) R e fun v r => q v r k
    · cases ef
  · cases ef
end MM

set_option Elab.async false
set_option linter.all false
set_option maxRecDepth 100000
set_option maxHeartbeats 4000000
noncomputable section
namespace MM
open PySem PySem.Spec PyProof.Rows L2

/-! ### the mirrors evaluated -/
section
variable {a b : MS} {m mk mv ma mb : M D} {ms : M (List D)} {env : Env} {i j : Nat} {c : M Bool} {d : D} {f : List D → Option D}
@[simp] theorem seqM_ap : seqM a b env = match a env with | .nx e => b e | r => r := id rfl
@[simp] theorem nxM_ap : nxM env = .nx env := id rfl
@[simp] theorem brM_ap : brM env = .bk env := id rfl
@[simp] theorem ctM_ap : ctM env = .ct env := id rfl
@[simp] theorem retM_ap : retM m env = match m env with | .ok d e => .rt d e | .ex e e2 => .ex e e2 | .no => .no := id rfl
@[simp] theorem retNM_ap : retNM env = .rt .non env := id rfl
@[simp] theorem ifS_ap : ifS c a b env = match c env with | .ok true e => a e | .ok false e => b e | .ex e e2 => .ex e e2 | .no => .no := id rfl
@[simp] theorem asgF_ap : asgF i m env = match m env with | .ok d e => .nx (e.set i (some (false, d))) | .ex e e2 => .ex e e2 | .no => .no := id rfl
@[simp] theorem asgO_ap : asgO i m env = match m env with | .ok d e => .nx (e.set i (some (true, d))) | .ex e e2 => .ex e e2 | .no => .no := id rfl
@[simp] theorem dropM_ap : dropM m env = match m env with | .ok _ e => .nx e | .ex e e2 => .ex e e2 | .no => .no := id rfl
@[simp] theorem frzE_ap : frzE i env = match env[i]? with | some (some (_, d)) => env.set i (some (false, d)) | _ => env := id rfl
@[simp] theorem frzM_ap : frzM i a env = a (frzE i env) := id rfl
@[simp] theorem rdM_ap : rdM i env = match env[i]? with | some (some (_, d)) => some d | _ => none := id rfl
@[simp] theorem vrM_ap : vrM i env = match env[i]? with | some (some (false, d)) => .ok d env | _ => .no := id rfl
@[simp] theorem cM_ap : cM d env = .ok d env := id rfl
@[simp] theorem nilM_ap : nilM env = .ok [] env := id rfl
@[simp] theorem consM_ap : consM m ms env = match m env with | .ok d e1 => (match ms e1 with | .ok ds e2 => .ok (d :: ds) e2 | .ex e e2 => .ex e e2 | .no => .no) | .ex e e1 => .ex e e1 | .no => .no := id rfl
@[simp] theorem consTM_ap {m : Env → Option D} : consTM m ms env = match m env with | some d => (match ms env with | .ok ds e2 => .ok (d :: ds) e2 | .ex e e2 => .ex e e2 | .no => .no) | none => .no := id rfl
@[simp] theorem consNM_ap : consNM i ms env = match rdM i env with | some _ => (match ms env with | .ok ds e2 => (match rdM i e2 with | some d => .ok (d :: ds) e2 | none => .no) | .ex e e2 => .ex e e2 | .no => .no) | none => .no := id rfl
@[simp] theorem opM_ap : opM f ms env = match ms env with | .ok ds e2 => (match f ds with | some d => .ok d e2 | none => .no) | .ex e e2 => .ex e e2 | .no => .no := id rfl
@[simp] theorem tstM_ap : tstM m env = match m env with | .ok (.bl b) e => .ok b e | .ok _ _ => .no | .ex e e2 => .ex e e2 | .no => .no := id rfl
@[simp] theorem andM_ap {a b : M Bool} : andM a b env = match a env with | .ok true e => b e | r => r := id rfl
@[simp] theorem orM_ap {a b : M Bool} : orM a b env = match a env with | .ok false e => b e | r => r := id rfl
@[simp] theorem notM_ap {a : M Bool} : notM a env = match a env with | .ok b e => .ok (!b) e | r => r := id rfl
@[simp] theorem ifM_ap {α : Type} {a b : M α} : ifM c a b env = match c env with | .ok true e => a e | .ok false e => b e | .ex e e2 => .ex e e2 | .no => .no := id rfl
@[simp] theorem andVM_ap {a b : M D} : andVM a b env = match a env with | .ok (.bl true) e => b e | .ok (.bl false) e => .ok (.bl false) e | .ok _ _ => .no | r => r := id rfl
@[simp] theorem orVM_ap {a b : M D} : orVM a b env = match a env with | .ok (.bl false) e => b e | .ok (.bl true) e => .ok (.bl true) e | .ok _ _ => .no | r => r := id rfl
@[simp] theorem notVM_ap {a : M D} : notVM a env = match a env with | .ok (.bl b) e => .ok (.bl (!b)) e | .ok _ _ => .no | r => r := id rfl
@[simp] theorem immM_ap {m : Env → Option D} : immM m env = match m env with | some d => if imm d then .ok d env else .no | none => .no := id rfl
@[simp] theorem imM_ap : imM m env = match m env with | .ok d e => if imm d then .ok d e else .no | r => r := id rfl
@[simp] theorem ixT_ap {mt : Env → Option D} : ixT mt mk env = match mt env with | some d => (match mk env with | .ok k _ => ixF [d, k] | _ => none) | none => none := id rfl
@[simp] theorem yesM_ap : yesM env = .ok true env := id rfl
@[simp] theorem setM_ap : setM i mv mk env = match mv env with | .ok v e1 => (match rdM i e1 with | some _ => (match mk e1 with | .ok k e2 => (match e2[i]? with | some (some (true, d)) => (match setF d k v with | some d' => .nx (e2.set i (some (true, d'))) | none => .no) | _ => .no) | .ex e e2 => .ex e e2 | .no => .no) | none => .no) | .ex e e2 => .ex e e2 | .no => .no := id rfl
@[simp] theorem mutM_ap {f : List D → List D → Option (List D × D)} : mutM i f ms env = match env[i]? with | some (some (true, .lst _)) => (match ms env with | .ok as e2 => (match e2[i]? with | some (some (true, .lst ds)) => (match f ds as with | some (es, d) => .ok d (e2.set i (some (true, .lst es))) | none => .no) | _ => .no) | .ex e e2 => .ex e e2 | .no => .no) | _ => .no := id rfl
@[simp] theorem mvM_ap : mvM i env = match env[i]? with | some (some (true, d)) => .ok d (env.set i none) | _ => .no := id rfl
@[simp] theorem clF_ap {f : List D → RF} : clF f ms env = match ms env with | .ok ds e => (match f ds with | .ret d => .ok d e | .ex x => .ex x e | .no => .no) | .ex e e2 => .ex e e2 | .no => .no := id rfl
@[simp] theorem clT_ap {f : List D → RF} : clT f ms env = match ms env with | .ok ds e => (match f ds with | .ret d => (if imt d then .ok d e else .no) | .ex x => .ex x e | .no => .no) | .ex e e2 => .ex e e2 | .no => .no := id rfl
@[simp] theorem bdName_ap : bdName i d env = if i < env.length then some (env.set i (some (false, d))) else none := id rfl
@[simp] theorem itemsM_ap : itemsM m env = match m env with | .ok d e => (match itemsD d with | some ds => .ok ds e | none => .no) | .ex e e2 => .ex e e2 | .no => .no := id rfl
@[simp] theorem range1M_ap : range1M ms env = match ms env with | .ok [.int j] e => (haveI : Decidable (-(2 ^ 62) ≤ j ∧ j < 2 ^ 62) := Classical.propDecidable _; if -(2 ^ 62) ≤ j ∧ j < 2 ^ 62 then .ok (rangeL 0 j.toNat) e else .no) | .ok _ _ => .no | .ex e e2 => .ex e e2 | .no => .no := id rfl
@[simp] theorem asgG_ap {bd : D → Env → Option Env} : asgG bd m env = match m env with | .ok d e => (match bd d e with | some e2 => .nx e2 | none => .no) | .ex e e2 => .ex e e2 | .no => .no := id rfl
@[simp] theorem envF_ap {n : Nat} {ds : List D} : envF n ds = ds.map (fun d => some (false, d)) ++ List.replicate (n - ds.length) none := id rfl
@[simp] theorem envP_ap {n : Nat} {a : D} {ds : List D} : envP n a ds = some (true, a) :: (ds.map (fun d => some (false, d)) ++ List.replicate (n - (ds.length + 1)) none) := id rfl
@[simp] theorem callF_ap {np n : Nat} {ds : List D} : callF np n a ds = if ds.length = np then (match a (envF n ds) with | .nx _ => .ret .non | .rt d _ => .ret d | .ex e _ => .ex e | _ => .no) else .no := id rfl
@[simp] theorem callP_ap {np n : Nat} {d : D} {ds : List D} : callP np n a d ds = if ds.length + 1 = np then (match a (envP n d ds) with
  | .nx e => (match ownAt0 e with | some a' => .ret .non a' | none => .no)
  | .rt d e => (match ownAt0 e with | some a' => .ret d a' | none => .no)
  | .ex x e => (match ownAt0 e with | some a' => .ex x a' | none => .no)
  | _ => .no) else .no := id rfl
@[simp] theorem ownAt0_ap {r : Env} : ownAt0 (some (true, d) :: r) = some d := id rfl
@[simp] theorem itemsD_lst {ds : List D} : itemsD (.lst ds) = some ds := rfl
@[simp] theorem itemsD_tup {ds : List D} : itemsD (.tup ds) = some ds := rfl
end
theorem clP_eq {i : Nat} {f : D → List D → RP} {ms : M (List D)} {env : Env} : clP i f ms env = match rdM i env with
  | some _ => (match ms env with
    | .ok ds e => (match e[i]? with
      | some (some (true, a)) => (match f a ds with
        | .ret d a' => .ok d (e.set i (some (true, a')))
        | .ex x a' => .ex x (e.set i (some (true, a')))
        | .no => .no)
      | _ => .no)
    | .ex e e2 => .ex e e2
    | .no => .no)
  | none => .no := rfl
/-- what a def hands back -/
def RetP (r : RP) (Q : D → D → Prop) : Prop := match r with | .ret d a => Q d a | _ => False
def RetF (r : RF) (Q : D → Prop) : Prop := match r with | .ret d => Q d | _ => False
@[simp] theorem RetP_ret {d a : D} {Q : D → D → Prop} : RetP (.ret d a) Q = Q d a := rfl
@[simp] theorem RetF_ret {d : D} {Q : D → Prop} : RetF (.ret d) Q = Q d := rfl
theorem RetP.get {r : RP} {Q : D → D → Prop} (h : RetP r Q) : ∃ d a, r = .ret d a ∧ Q d a := by
  cases r with
  | ret d a => exact ⟨d, a, rfl, h⟩
  | _ => exact h.elim
theorem RetF.get {r : RF} {Q : D → Prop} (h : RetF r Q) : ∃ d, r = .ret d ∧ Q d := by
  cases r with
  | ret d => exact ⟨d, rfl, h⟩
  | _ => exact h.elim
/-! ### ints -/
theorem cmul_l {i j : Int} (h1 : -18446744073709551616 < i) (h2 : i < 18446744073709551616) : CMulA i j := .inl (.inl ⟨by simpa using h1, by simpa using h2⟩)
theorem cmul_r {i j : Int} (h1 : -18446744073709551616 < j) (h2 : j < 18446744073709551616) : CMulA i j := .inl (.inr ⟨by simpa using h1, by simpa using h2⟩)
theorem fmod_pos {x c : Int} (h : 0 < c) : 0 ≤ x.fmod c ∧ x.fmod c < c := ⟨Int.fmod_nonneg_of_pos _ h, Int.fmod_lt_of_pos _ h⟩
theorem cmul_fmod {x c j : Int} (h : 0 < c) (h2 : c < 18446744073709551616) : CMulA (x.fmod c) j := by
  obtain ⟨a, b⟩ := fmod_pos (x := x) h
  exact cmul_l (by omega) (by omega)
theorem addF_int {i j : Int} : addF [.int i, .int j] = some (.int (i + j)) := rfl
theorem subF_int {i j : Int} : subF [.int i, .int j] = some (.int (i - j)) := rfl
theorem negF_int {i : Int} : negF [.int i] = some (.int (-i)) := rfl
theorem absF_int {i : Int} : absF [.int i] = some (.int (if i < 0 then -i else i)) := rfl
theorem mulF_int {i j : Int} (h : CMulA i j) : mulF [.int i, .int j] = some (.int (i * j)) := if_pos h
theorem mulF_l {i j : Int} (h1 : -18446744073709551616 < i) (h2 : i < 18446744073709551616) : mulF [.int i, .int j] = some (.int (i * j)) := if_pos (cmul_l h1 h2)
theorem mulF_r {i j : Int} (h1 : -18446744073709551616 < j) (h2 : j < 18446744073709551616) : mulF [.int i, .int j] = some (.int (i * j)) := if_pos (cmul_r h1 h2)
theorem mulF_fmod {x c j : Int} (h : 0 < c) (h2 : c < 18446744073709551616) : mulF [.int (x.fmod c), .int j] = some (.int (x.fmod c * j)) := if_pos (cmul_fmod h h2)
theorem modF_int {i j : Int} (h : 0 < j) : modF [.int i, .int j] = some (.int (i.fmod j)) := if_pos (by omega)
theorem fdivF_int {i j : Int} (h : 0 < j) (h2 : j < 1073741824) : fdivF [.int i, .int j] = some (.int (i.fdiv j)) := if_pos (by omega)
theorem cmpF_int {f : Int → Int → Bool} {i j : Int} : cmpF f [.int i, .int j] = some (.bl (f i j)) := rfl
theorem lenF_lst {ds : List D} : lenF [.lst ds] = some (.int ds.length) := rfl
theorem lenF_tup {ds : List D} : lenF [.tup ds] = some (.int ds.length) := rfl
theorem lenF_scr {ds : List Int} : lenF [.scr ds] = some (.int ds.length) := rfl
theorem atI_nat {α : Type} {xs : List α} {i : Int} (h0 : 0 ≤ i) (h : i < xs.length) : atI xs i = xs[i.toNat]? := by
  unfold atI ixN
  rw [if_pos h0, if_pos h]
  rfl
theorem ixF_scr {ns : List Int} {i : Int} (h0 : 0 ≤ i) (h : i < ns.length) : ixF [.scr ns, .int i] = some (.int (ns.getD i.toNat 0)) := by
  show (atI ns i).map D.int = _
  rw [atI_nat h0 h]
  have : i.toNat < ns.length := by omega
  simp [List.getElem?_eq_getElem this, List.getD_eq_getElem?_getD]
theorem ixF_lst {ds : List D} {i : Int} (h0 : 0 ≤ i) (h : i < ds.length) : ixF [.lst ds, .int i] = ds[i.toNat]? := atI_nat h0 h
theorem ixF_tup {ds : List D} {i : Int} (h0 : 0 ≤ i) (h : i < ds.length) : ixF [.tup ds, .int i] = ds[i.toNat]? := atI_nat h0 h
end MM

set_option Elab.async false
set_option linter.all false
set_option maxRecDepth 100000
set_option maxHeartbeats 4000000
noncomputable section
namespace MM
open PySem PySem.Spec PyProof.Rows L2

/-! ### data of numbers -/
def ofN (l : List Nat) : List D := l.map fun (n : Nat) => D.int (n : Int)
abbrev tupN (l : List Nat) : D := .tup (ofN l)
abbrev lstN (l : List Nat) : D := .lst (ofN l)
@[simp] theorem ofN_length (l : List Nat) : (ofN l).length = l.length := List.length_map ..
@[simp] theorem ofN_nil : ofN [] = [] := rfl
@[simp] theorem ofN_cons (n : Nat) (l : List Nat) : ofN (n :: l) = .int n :: ofN l := rfl
@[simp] theorem ofN_append (l m : List Nat) : ofN (l ++ m) = ofN l ++ ofN m := List.map_append ..
theorem ofN_get (l : List Nat) (i : Nat) : (ofN l)[i]? = (l[i]?).map fun (n : Nat) => D.int (n : Int) := List.getElem?_map ..
theorem rangeL_get? {lo : Int} {n i : Nat} (h : i < n) : (rangeL lo n)[i]? = some (.int (lo + i)) := by
  unfold rangeL
  rw [List.getElem?_map, List.getElem?_range h]
  rfl
@[simp] theorem rangeL_length {lo : Int} {n : Nat} : (rangeL lo n).length = n := by unfold rangeL; rw [List.length_map, List.length_range]
theorem rangeL_get {lo : Int} {n i : Nat} (h : i < (rangeL lo n).length) : (rangeL lo n)[i] = .int (lo + i) :=
  Option.some.inj ((List.getElem?_eq_getElem h).symm.trans (rangeL_get? (by rwa [rangeL_length] at h)))
theorem rangeL_ofN (n : Nat) : rangeL 0 n = ofN (List.range n) := by
  unfold rangeL ofN
  exact List.map_congr_left fun i _ => by simp
theorem rangeL_ofN1 (a n : Nat) : rangeL (a : Int) n = ofN (List.range' a n) := by
  unfold rangeL ofN
  rw [List.range'_eq_map_range, List.map_map]
  exact List.map_congr_left fun i _ => by simp
/-! ### loops -/
theorem forM_ind {bd : D → Env → Option Env} {body : MS} (P : Nat → Env → Prop) : ∀ (xs : List D) (s : Nat) (e : Env), P s e →
    (∀ i (h : i < xs.length) e, P (s + i) e → ∃ e1 e2, bd xs[i] e = some e1 ∧ (body e1 = .nx e2 ∨ body e1 = .ct e2) ∧ P (s + i + 1) e2) → ∃ e', forM bd body xs e = .nx e' ∧ P (s + xs.length) e'
  | [], s, e, h0, _ => ⟨e, rfl, h0⟩
  | x :: xs, s, e, h0, hs => by
    obtain ⟨e1, e2, h1, h2, h3⟩ := hs 0 (Nat.zero_lt_succ _) e h0
    obtain ⟨e', g1, g2⟩ := forM_ind P xs (s + 1) e2 h3 fun i h e hp => by
      have := hs (i + 1) (Nat.succ_lt_succ h) e (by rw [← Nat.add_assoc, Nat.add_right_comm]; exact hp)
      simpa [Nat.add_assoc, Nat.add_comm 1] using this
    refine ⟨e', ?_, by rw [List.length_cons, Nat.add_comm xs.length, ← Nat.add_assoc]; exact g2⟩
    unfold forM
    have h1' : bd x e = some e1 := h1
    rw [h1']
    rcases h2 with h2 | h2 <;> (dsimp only; rw [h2]; exact g1)
theorem loop_ind {mi : M (List D)} {bd : D → Env → Option Env} {body : MS} {e e0 : Env} {xs : List D} (P : Nat → Env → Prop) (hm : mi e = .ok xs e0) (h0 : P 0 e0)
    (hs : ∀ i (h : i < xs.length) e, P i e → ∃ e1 e2, bd xs[i] e = some e1 ∧ (body e1 = .nx e2 ∨ body e1 = .ct e2) ∧ P (i + 1) e2) : ∃ e', loopM mi bd body e = .nx e' ∧ P xs.length e' := by
  obtain ⟨e', g1, g2⟩ := forM_ind P xs 0 e0 h0 fun i h e hp => by
    have := hs i h e (by rwa [Nat.zero_add] at hp)
    rwa [Nat.zero_add]
  refine ⟨e', ?_, by rwa [Nat.zero_add] at g2⟩
  unfold loopM
  rw [hm]
  exact g1
theorem loop_on {mi : M (List D)} {bd : D → Env → Option Env} {body : MS} {e : Env} {r : RS} (hL : loopM mi bd body e = r) (xs : List D) (P : Nat → Env → Prop) (hm : mi e = .ok xs e) (h0 : P 0 e)
    (hs : ∀ i (h : i < xs.length) e, P i e → ∃ e1 e2, bd xs[i] e = some e1 ∧ (body e1 = .nx e2 ∨ body e1 = .ct e2) ∧ P (i + 1) e2) : ∃ e', r = .nx e' ∧ P xs.length e' := by
  rw [← hL]
  exact loop_ind P hm h0 hs
/-- .. over range(n) -/
theorem loop_rg {n : Nat} {ms : M (List D)} {bd : D → Env → Option Env} {body : MS} {e : Env} {r : RS} (hL : loopM (range1M ms) bd body e = r) (P : Nat → Env → Prop) (hm : ms e = .ok [.int n] e) (hn : n < 1000000000) (h0 : P 0 e)
    (hs : ∀ i (h : i < n) e, P i e → ∃ e1 e2, bd (.int i) e = some e1 ∧ (body e1 = .nx e2 ∨ body e1 = .ct e2) ∧ P (i + 1) e2) : ∃ e', r = .nx e' ∧ P n e' := by
  have := loop_on hL (rangeL 0 n) P (by rw [range1M_ap, hm]; dsimp only; rw [if_pos (by omega)]; simp) h0 fun i h e hp => by
    rw [rangeL_length] at h
    have := hs i h e hp
    rw [rangeL_get, Int.zero_add]
    exact this
  rwa [rangeL_length] at this
/-- while: a measure -/
theorem wh_ind {t : M Bool} {body : MS} (P : Env → Prop) (μ : Env → Nat) : ∀ (n : Nat) (e : Env), P e → μ e < n →
    (∀ e, P e → (∃ e1, t e = .ok false e1 ∧ e1 = e) ∨ ∃ e1 e2, t e = .ok true e1 ∧ (body e1 = .nx e2 ∨ body e1 = .ct e2) ∧ P e2 ∧ μ e2 < μ e) →
    ∃ e', whM t body n e = .nx e' ∧ P e' ∧ t e' = .ok false e'
  | 0, _, _, h, _ => absurd h (Nat.not_lt_zero _)
  | n + 1, e, hp, hm, hs => by
    rcases hs e hp with ⟨e1, h1, rfl⟩ | ⟨e1, e2, h1, h2, h3, h4⟩
    · exact ⟨e1, by unfold whM; rw [h1], hp, h1⟩
    · obtain ⟨e', g1, g2, g3⟩ := wh_ind P μ n e2 h3 (by omega) hs
      refine ⟨e', ?_, g2, g3⟩
      unfold whM
      rw [h1]
      rcases h2 with h2 | h2 <;> (dsimp only; rw [h2]; exact g1)
/-- a comprehension whose elements change nothing -/
theorem comp_pure {vs : List Nat} {bd : D → Env → Option Env} {tt : M Bool} {el : M D} (f : Nat → D) : ∀ (xs : List D) (s : Nat) (E : Env),
    (∀ i (h : i < xs.length), ∃ e1, bd xs[i] E = some e1 ∧ tt e1 = .ok true e1 ∧ el e1 = .ok (f (s + i)) e1 ∧ wipeE e1 vs = E) → compM vs bd tt el xs E = .ok ((List.range' s xs.length).map f) E
  | [], s, E, _ => rfl
  | x :: xs, s, E, h => by
    obtain ⟨e1, h1, h2, h3, h4⟩ := h 0 (Nat.zero_lt_succ _)
    have ih := comp_pure f xs (s + 1) E fun i hi => by
      have := h (i + 1) (Nat.succ_lt_succ hi)
      simpa [Nat.add_assoc, Nat.add_comm 1] using this
    have h1' : bd x E = some e1 := h1
    unfold compM
    rw [h1']
    simp only [h2, h3, h4, ih]
    rw [List.length_cons, List.range'_succ, List.map_cons]
    rfl
theorem lc_pure {vs : List Nat} {mi : M (List D)} {bd : D → Env → Option Env} {tt : M Bool} {el : M D} {e e0 E : Env} {xs : List D} (f : Nat → D) (hm : mi e = .ok xs e0) (hz : xs.length ≤ sizeLine) (hw : wipeE e0 vs = E) (hr : restE e0 vs E = e0)
    (h : ∀ i (h : i < xs.length), ∃ e1, bd xs[i] E = some e1 ∧ tt e1 = .ok true e1 ∧ el e1 = .ok (f i) e1 ∧ wipeE e1 vs = E) : lcM vs mi bd tt el e = .ok (.lst ((List.range xs.length).map f)) e0 := by
  have := comp_pure (vs := vs) (bd := bd) (tt := tt) (el := el) f xs 0 E fun i hi => by rw [Nat.zero_add]; exact h i hi
  unfold lcM
  rw [hm]
  simp only [hz, if_true, hw, this, hr]
  rw [← List.range_eq_range']
/-- .. that change the state: one after another -/
theorem comp_st {vs : List Nat} {bd : D → Env → Option Env} {tt : M Bool} {el : M D} (P : Nat → Env → Prop) (R : Nat → D → Prop) : ∀ (xs : List D) (s : Nat) (E : Env), P s E →
    (∀ i (h : i < xs.length) E, P (s + i) E → ∃ e1 e2 y e3, bd xs[i] E = some e1 ∧ tt e1 = .ok true e2 ∧ el e2 = .ok y e3 ∧ R (s + i) y ∧ P (s + i + 1) (wipeE e3 vs)) →
    ∃ ys E', compM vs bd tt el xs E = .ok ys E' ∧ P (s + xs.length) E' ∧ ys.length = xs.length ∧ ∀ i (h : i < ys.length), R (s + i) ys[i]
  | [], s, E, h0, _ => ⟨[], E, rfl, h0, rfl, fun i h => absurd h (Nat.not_lt_zero _)⟩
  | x :: xs, s, E, h0, h => by
    obtain ⟨e1, e2, y, e3, h1, h2, h3, h4, h5⟩ := h 0 (Nat.zero_lt_succ _) E h0
    obtain ⟨ys, E', g1, g2, g3, g4⟩ := comp_st P R xs (s + 1) _ h5 fun i hi E hp => by
      have := h (i + 1) (Nat.succ_lt_succ hi) E (by rw [← Nat.add_assoc, Nat.add_right_comm]; exact hp)
      simpa [Nat.add_assoc, Nat.add_comm 1] using this
    refine ⟨y :: ys, E', ?_, by rw [List.length_cons, Nat.add_comm xs.length, ← Nat.add_assoc]; exact g2, by rw [List.length_cons, List.length_cons, g3], fun i hi => ?_⟩
    · have h1' : bd x E = some e1 := h1
      unfold compM
      rw [h1']
      simp only [h2, h3, g1]
    · cases i with
      | zero => exact h4
      | succ i =>
        have := g4 i (Nat.lt_of_succ_lt_succ hi)
        rw [Nat.add_assoc, Nat.add_comm 1] at this
        exact this
theorem lc_st {vs : List Nat} {mi : M (List D)} {bd : D → Env → Option Env} {tt : M Bool} {el : M D} {e e0 : Env} {xs : List D} (P : Nat → Env → Prop) (R : Nat → D → Prop) (hm : mi e = .ok xs e0) (hz : xs.length ≤ sizeLine) (h0 : P 0 (wipeE e0 vs))
    (h : ∀ i (h : i < xs.length) E, P i E → ∃ e1 e2 y e3, bd xs[i] E = some e1 ∧ tt e1 = .ok true e2 ∧ el e2 = .ok y e3 ∧ R i y ∧ P (i + 1) (wipeE e3 vs)) :
    ∃ ys E', lcM vs mi bd tt el e = .ok (.lst ys) (restE e0 vs E') ∧ P xs.length E' ∧ ys.length = xs.length ∧ ∀ i (h : i < ys.length), R i ys[i] := by
  obtain ⟨ys, E', g1, g2, g3, g4⟩ := comp_st (vs := vs) (bd := bd) (tt := tt) (el := el) P R xs 0 _ h0 fun i hi E hp => by
    have := h i hi E (by rwa [Nat.zero_add] at hp)
    rwa [Nat.zero_add]
  refine ⟨ys, E', ?_, by rwa [Nat.zero_add] at g2, g3, fun i hi => by have := g4 i hi; rwa [Nat.zero_add] at this⟩
  unfold lcM
  rw [hm]
  simp only [hz, if_true, g1]

end MM

set_option Elab.async false
set_option linter.all false
set_option maxRecDepth 100000
set_option maxHeartbeats 4000000
noncomputable section
namespace MM
open PySem PySem.Spec PyProof.Rows L2

/-- a statement that goes on -/
def NxS (r : RS) (Q : Env → Prop) : Prop := match r with
  | .nx e => Q e
  | .ct e => Q e
  | _ => False
@[simp] theorem NxS_nx {e : Env} {Q : Env → Prop} : NxS (.nx e) Q = Q e := rfl
@[simp] theorem NxS_ct {e : Env} {Q : Env → Prop} : NxS (.ct e) Q = Q e := rfl
def bdB (bd : D → Env → Option Env) (body : MS) (d : D) (e : Env) : RS := match bd d e with
  | some e1 => body e1
  | none => .no
@[simp] theorem bdB_ap {bd : D → Env → Option Env} {body : MS} {d : D} {e : Env} : bdB bd body d e = match bd d e with | some e1 => body e1 | none => .no := id rfl
theorem NxS.get {bd : D → Env → Option Env} {body : MS} {d : D} {e : Env} {Q : Env → Prop} (h : NxS (bdB bd body d e) Q) : ∃ e1 e2, bd d e = some e1 ∧ (body e1 = .nx e2 ∨ body e1 = .ct e2) ∧ Q e2 := by
  unfold bdB at h
  cases eb : bd d e with
  | none => rw [eb] at h; exact h.elim
  | some e1 =>
    rw [eb] at h
    dsimp only at h
    cases er : body e1 with
    | nx e2 => rw [er] at h; exact ⟨e1, e2, rfl, .inl er, h⟩
    | ct e2 => rw [er] at h; exact ⟨e1, e2, rfl, .inr er, h⟩
    | _ => rw [er] at h; exact h.elim
/-- a for, by what holds after i items -/
theorem for_on {mi : M (List D)} {bd : D → Env → Option Env} {body : MS} {e : Env} {r : RS} (hL : loopM mi bd body e = r) (xs : List D) (P : Nat → Env → Prop) (hm : mi e = .ok xs e) (h0 : P 0 e)
    (hs : ∀ i (h : i < xs.length) e, P i e → NxS (bdB bd body xs[i] e) (P (i + 1))) : ∃ e', r = .nx e' ∧ P xs.length e' :=
  loop_on hL xs P hm h0 fun i h e hp => (hs i h e hp).get
theorem for_rg {n : Nat} {ms : M (List D)} {bd : D → Env → Option Env} {body : MS} {e : Env} {r : RS} (hL : loopM (range1M ms) bd body e = r) (P : Nat → Env → Prop) (hm : ms e = .ok [.int n] e) (hn : n < 1000000000) (h0 : P 0 e)
    (hs : ∀ i (h : i < n) e, P i e → NxS (bdB bd body (.int i) e) (P (i + 1))) : ∃ e', r = .nx e' ∧ P n e' :=
  loop_rg hL P hm hn h0 fun i h e hp => (hs i h e hp).get
theorem set_none {e : Env} {k : Nat} (h : e[k]? = some none) (v : Option (Bool × D)) : (e.set k v).set k none = e := by
  rw [List.set_set]
  obtain ⟨hl, e1⟩ := List.getElem?_eq_some_iff.mp h
  rw [← e1]
  exact List.set_getElem_self hl
theorem set_none' {e : Env} {k : Nat} (h : e[k]? = some none) : e.set k none = e := by
  obtain ⟨hl, e1⟩ := List.getElem?_eq_some_iff.mp h
  rw [← e1]
  exact List.set_getElem_self hl
/-- [el for k in xs], that changes nothing -/
theorem lc_name {k : Nat} {mi : M (List D)} {el : M D} {e : Env} {xs : List D} (f : Nat → D) (hm : mi e = .ok xs e) (hk : e[k]? = some none) (hz : xs.length < 1000000)
    (h : ∀ i (h : i < xs.length), el (e.set k (some (false, xs[i]))) = .ok (f i) (e.set k (some (false, xs[i])))) : lcM [k] mi (bdName k) yesM el e = .ok (.lst ((List.range xs.length).map f)) e := by
  obtain ⟨hl, _⟩ := List.getElem?_eq_some_iff.mp hk
  refine lc_pure (E := e) f hm (by rw [sizeLine_eq]; omega) (set_none' hk) ?_ fun i hi => ⟨e.set k (some (false, xs[i])), ?_, rfl, h i hi, set_none hk _⟩
  · unfold restE
    rw [hk]
    exact set_none' hk
  · rw [bdName_ap, if_pos hl]
theorem lc_rg {k n : Nat} {ms : M (List D)} {el : M D} {e : Env} (f : Nat → D) (hm : ms e = .ok [.int n] e) (hk : e[k]? = some none) (hz : n < 1000000)
    (h : ∀ i, i < n → el (e.set k (some (false, .int i))) = .ok (f i) (e.set k (some (false, .int i)))) : lcM [k] (range1M ms) (bdName k) yesM el e = .ok (.lst ((List.range n).map f)) e := by
  have := lc_name (k := k) (el := el) (xs := rangeL 0 n) (mi := range1M ms) (e := e) f (by rw [range1M_ap, hm]; dsimp only; rw [if_pos (by omega)]; simp) hk (by rw [rangeL_length]; exact hz) fun i hi => by
    rw [rangeL_length] at hi
    have e0 := rangeL_get (lo := 0) (n := n) (i := i) (by rw [rangeL_length]; exact hi)
    rw [e0, Int.zero_add]
    exact h i hi
  rwa [rangeL_length] at this
end MM

set_option linter.all false
set_option maxRecDepth 100000
namespace MM
/-! ### lists without repeats -/
theorem sub_of_len {α : Type} [DecidableEq α] : ∀ {l m : List α}, l.Nodup → (∀ x ∈ l, x ∈ m) → m.length ≤ l.length → ∀ x ∈ m, x ∈ l
  | [], m, _, _, h, x, hx => by
    have : m = [] := List.eq_nil_of_length_eq_zero (by simpa using h)
    subst this
    exact hx
  | a :: l, m, hn, hs, h, x, hx => by
    have hn' := List.nodup_cons.mp hn
    by_cases e : x = a
    · subst e; exact List.mem_cons_self
    · refine List.mem_cons_of_mem _ (sub_of_len (m := m.erase a) hn'.2 (fun y hy => ?_) ?_ x ((List.mem_erase_of_ne e).mpr hx))
      · have ya : y ≠ a := fun z => hn'.1 (z ▸ hy)
        exact (List.mem_erase_of_ne ya).mpr (hs y (List.mem_cons_of_mem _ hy))
      · rw [List.length_erase_of_mem (hs a List.mem_cons_self)]
        simp at h
        omega
theorem len_of_sub {α : Type} [DecidableEq α] : ∀ {l m : List α}, l.Nodup → (∀ x ∈ l, x ∈ m) → l.length ≤ m.length
  | [], _, _, _ => Nat.zero_le _
  | a :: l, m, hn, hs => by
    have hn' := List.nodup_cons.mp hn
    have ha := hs a List.mem_cons_self
    have ih := len_of_sub (m := m.erase a) hn'.2 fun y hy => by
      have ya : y ≠ a := fun z => hn'.1 (z ▸ hy)
      exact (List.mem_erase_of_ne ya).mpr (hs y (List.mem_cons_of_mem _ hy))
    rw [List.length_erase_of_mem ha] at ih
    have : 0 < m.length := List.length_pos_of_mem ha
    simp
    omega
theorem nodup_map {α β : Type} {f : α → β} : ∀ {l : List α}, l.Nodup → (∀ x ∈ l, ∀ y ∈ l, f x = f y → x = y) → (l.map f).Nodup
  | [], _, _ => List.nodup_nil
  | a :: l, hn, hi => by
    have hn' := List.nodup_cons.mp hn
    refine List.nodup_cons.mpr ⟨fun m => ?_, nodup_map hn'.2 fun x hx y hy => hi x (List.mem_cons_of_mem _ hx) y (List.mem_cons_of_mem _ hy)⟩
    obtain ⟨y, hy, e⟩ := List.mem_map.mp m
    exact hn'.1 (hi y (List.mem_cons_of_mem _ hy) a List.mem_cons_self e ▸ hy)
theorem perm_of_nodup {α : Type} [DecidableEq α] {l m : List α} (hl : l.Nodup) (hm : m.Nodup) (h : ∀ x, x ∈ l ↔ x ∈ m) : l.Perm m :=
  (List.perm_ext_iff_of_nodup hl hm).mpr h
/-- into itself without clashes: onto -/
theorem onto_of_inj {α : Type} [DecidableEq α] {l : List α} {f : α → α} (hn : l.Nodup) (hm : ∀ x ∈ l, f x ∈ l) (hi : ∀ x ∈ l, ∀ y ∈ l, f x = f y → x = y) : ∀ y ∈ l, ∃ x ∈ l, f x = y := fun y hy => by
  have := sub_of_len (l := l.map f) (m := l) (nodup_map hn hi) (fun z hz => by
    obtain ⟨x, hx, rfl⟩ := List.mem_map.mp hz
    exact hm x hx) (by simp) y hy
  obtain ⟨x, hx, e⟩ := List.mem_map.mp this
  exact ⟨x, hx, e⟩

/-! ### turns -/
def Turn (n : Nat) (l : List Nat) : Prop := l.Perm (List.range n)
def comp (a b : List Nat) : List Nat := a.map fun k => b.getD k 0
theorem Turn.len {n : Nat} {l : List Nat} (h : Turn n l) : l.length = n := by
  have := h.length_eq
  simpa using this
theorem Turn.nodup {n : Nat} {l : List Nat} (h : Turn n l) : l.Nodup := h.nodup_iff.mpr List.nodup_range
theorem Turn.mem {n : Nat} {l : List Nat} (h : Turn n l) {x : Nat} : x ∈ l ↔ x < n := by
  rw [h.mem_iff, List.mem_range]
theorem Turn.mk' {n : Nat} {l : List Nat} (hl : l.length = n) (hn : l.Nodup) (hm : ∀ x ∈ l, x < n) : Turn n l := by
  refine perm_of_nodup hn List.nodup_range fun x => ⟨fun h => List.mem_range.mpr (hm x h), fun h => ?_⟩
  exact sub_of_len hn (fun y hy => List.mem_range.mpr (hm y hy)) (by simp [hl]) x h
theorem getD_lt {l : List Nat} {i : Nat} (h : i < l.length) : l.getD i 0 = l[i] := by
  rw [List.getD_eq_getElem?_getD, List.getElem?_eq_getElem h]; rfl
theorem Turn.lt {n : Nat} {l : List Nat} (h : Turn n l) {i : Nat} (hi : i < n) : l.getD i 0 < n := by
  rw [getD_lt (by rw [h.len]; exact hi)]
  exact h.mem.mp (List.getElem_mem _)
theorem Turn.inj {n : Nat} {l : List Nat} (h : Turn n l) {i j : Nat} (hi : i < n) (hj : j < n) (e : l.getD i 0 = l.getD j 0) : i = j := by
  have hi' : i < l.length := by rw [h.len]; exact hi
  have hj' : j < l.length := by rw [h.len]; exact hj
  rw [getD_lt hi', getD_lt hj'] at e
  have pw := List.pairwise_iff_getElem.mp h.nodup
  rcases Nat.lt_trichotomy i j with c | c | c
  · exact absurd e (pw i j hi' hj' c)
  · exact c
  · exact absurd e.symm (pw j i hj' hi' c)
theorem Turn.surj {n : Nat} {l : List Nat} (h : Turn n l) {x : Nat} (hx : x < n) : ∃ i, i < n ∧ l.getD i 0 = x := by
  obtain ⟨i, hi, e⟩ := List.getElem_of_mem (h.mem.mpr hx)
  exact ⟨i, by rw [← h.len]; exact hi, by rw [getD_lt hi, e]⟩
@[simp] theorem comp_length {a b : List Nat} : (comp a b).length = a.length := by simp [comp]
theorem comp_getD {n : Nat} {a b : List Nat} (ha : Turn n a) {i : Nat} (hi : i < n) : (comp a b).getD i 0 = b.getD (a.getD i 0) 0 := by
  have hi' : i < a.length := by rw [ha.len]; exact hi
  rw [getD_lt (by simpa using hi'), getD_lt hi']
  simp [comp]
theorem turn_ext {n : Nat} {a b : List Nat} (ha : a.length = n) (hb : b.length = n) (h : ∀ i, i < n → a.getD i 0 = b.getD i 0) : a = b := by
  refine List.ext_getElem (by rw [ha, hb]) fun i h1 h2 => ?_
  have := h i (by omega)
  rwa [getD_lt h1, getD_lt h2] at this
theorem comp_turn {n : Nat} {a b : List Nat} (ha : Turn n a) (hb : Turn n b) : Turn n (comp a b) := by
  refine .mk' (by simp [ha.len]) (nodup_map ha.nodup fun x hx y hy e => hb.inj (ha.mem.mp hx) (ha.mem.mp hy) e) fun x hx => ?_
  obtain ⟨y, hy, rfl⟩ := List.mem_map.mp hx
  exact hb.lt (ha.mem.mp hy)
theorem range_turn (n : Nat) : Turn n (List.range n) := .refl _
theorem range_getD {n i : Nat} (h : i < n) : (List.range n).getD i 0 = i := by
  rw [getD_lt (by simpa using h)]; simp
theorem comp_assoc {n : Nat} {a b c : List Nat} (ha : Turn n a) (hb : Turn n b) (hc : Turn n c) : comp (comp a b) c = comp a (comp b c) := by
  refine turn_ext (n := n) (by simp [ha.len]) (by simp [ha.len]) fun i hi => ?_
  rw [comp_getD (comp_turn ha hb) hi, comp_getD ha hi, comp_getD ha hi, comp_getD hb (ha.lt hi)]
theorem id_comp {n : Nat} {a : List Nat} (ha : Turn n a) : comp (List.range n) a = a := by
  refine turn_ext (n := n) (by simp) ha.len fun i hi => ?_
  rw [comp_getD (range_turn n) hi, range_getD hi]
theorem comp_id {n : Nat} {a : List Nat} (ha : Turn n a) : comp a (List.range n) = a := by
  refine turn_ext (n := n) (by simp [ha.len]) ha.len fun i hi => ?_
  rw [comp_getD ha hi, range_getD (ha.lt hi)]
theorem comp_right_inj {n : Nat} {a b c : List Nat} (ha : Turn n a) (hb : Turn n b) (hc : Turn n c) (e : comp a c = comp b c) : a = b := by
  refine turn_ext (n := n) ha.len hb.len fun i hi => ?_
  have := congrArg (fun l => l.getD i 0) e
  simp only [comp_getD ha hi, comp_getD hb hi] at this
  exact hc.inj (ha.lt hi) (hb.lt hi) this
theorem comp_left_inj {n : Nat} {a b c : List Nat} (ha : Turn n a) (hb : Turn n b) (hc : Turn n c) (e : comp c a = comp c b) : a = b := by
  refine turn_ext (n := n) ha.len hb.len fun i hi => ?_
  obtain ⟨j, hj, rfl⟩ := hc.surj hi
  have := congrArg (fun l => l.getD j 0) e
  simpa only [comp_getD hc hj] using this
/-- turns shut by one then the other -/
structure TG (n : Nat) (F : List (List Nat)) : Prop where
  nd : F.Nodup
  tn : ∀ a ∈ F, Turn n a
  id : List.range n ∈ F
  cl : ∀ a ∈ F, ∀ b ∈ F, comp a b ∈ F
theorem TG.inv {n : Nat} {F : List (List Nat)} (G : TG n F) {a : List Nat} (ha : a ∈ F) : ∃ b ∈ F, comp a b = List.range n ∧ comp b a = List.range n := by
  obtain ⟨b, hb, e⟩ := onto_of_inj (f := fun x => comp x a) G.nd (fun x hx => G.cl x hx a ha) (fun x hx y hy e => comp_right_inj (G.tn x hx) (G.tn y hy) (G.tn a ha) e) _ G.id
  refine ⟨b, hb, ?_, e⟩
  -- a b a = a
  have h1 : comp (comp a b) a = a := by
    rw [comp_assoc (G.tn a ha) (G.tn b hb) (G.tn a ha)]
    show comp a (comp b a) = a
    have e' : comp b a = List.range n := e
    rw [e', comp_id (G.tn a ha)]
  refine comp_right_inj (comp_turn (G.tn a ha) (G.tn b hb)) (range_turn n) (G.tn a ha) ?_
  rw [h1, id_comp (G.tn a ha)]
/-! ### houses -/
structure Grp (n : Nat) (m : Nat → Nat → Nat) : Prop where
  pos : 0 < n
  cl : ∀ a b, a < n → b < n → m a b < n
  il : ∀ b, b < n → m 0 b = b
  ir : ∀ a, a < n → m a 0 = a
  as : ∀ a b c, a < n → b < n → c < n → m (m a b) c = m a (m b c)
  iv : ∀ a, a < n → ∃ b, b < n ∧ m a b = 0 ∧ m b a = 0
/-- the numbers of turns in a list -/
def tno (F : List (List Nat)) (a : List Nat) : Nat := F.idxOf a
def tat (F : List (List Nat)) (i : Nat) : List Nat := F.getD i []
def ttab (F : List (List Nat)) (i j : Nat) : Nat := tno F (comp (tat F i) (tat F j))
theorem tat_lt {F : List (List Nat)} {i : Nat} (h : i < F.length) : tat F i = F[i] := by
  unfold tat
  rw [List.getD_eq_getElem?_getD, List.getElem?_eq_getElem h]; rfl
theorem tat_mem {F : List (List Nat)} {i : Nat} (h : i < F.length) : tat F i ∈ F := by
  rw [tat_lt h]; exact List.getElem_mem _
theorem tno_lt {F : List (List Nat)} {a : List Nat} (h : a ∈ F) : tno F a < F.length := List.idxOf_lt_length_of_mem h
theorem tat_tno {F : List (List Nat)} {a : List Nat} (h : a ∈ F) : tat F (tno F a) = a := by
  rw [tat_lt (tno_lt h)]
  exact List.getElem_idxOf (tno_lt h)
theorem tno_tat {F : List (List Nat)} (nd : F.Nodup) {i : Nat} (h : i < F.length) : tno F (tat F i) = i := by
  have h1 := tno_lt (tat_mem h)
  have e := tat_tno (tat_mem h)
  rw [tat_lt h1] at e
  have e := e.trans (tat_lt h)
  have pw := List.pairwise_iff_getElem.mp nd
  rcases Nat.lt_trichotomy (tno F (tat F i)) i with c | c | c
  · exact absurd e (pw _ _ h1 h c)
  · exact c
  · exact absurd e.symm (pw _ _ h h1 c)
theorem ttab_grp {n : Nat} {F : List (List Nat)} (G : TG n F) (h0 : tat F 0 = List.range n) : Grp F.length (ttab F) := by
  have hp : 0 < F.length := List.length_pos_of_mem G.id
  have cl : ∀ a b, a < F.length → b < F.length → comp (tat F a) (tat F b) ∈ F := fun a b ha hb => G.cl _ (tat_mem ha) _ (tat_mem hb)
  have tn : ∀ a, a < F.length → Turn n (tat F a) := fun a ha => G.tn _ (tat_mem ha)
  have h00 : tno F (List.range n) = 0 := by rw [← h0]; exact tno_tat G.nd hp
  exact {
    pos := hp
    cl := fun a b ha hb => tno_lt (cl a b ha hb)
    il := fun b hb => by
      unfold ttab
      rw [h0, id_comp (tn b hb), tno_tat G.nd hb]
    ir := fun a ha => by
      unfold ttab
      rw [h0, comp_id (tn a ha), tno_tat G.nd ha]
    as := fun a b c ha hb hc => by
      unfold ttab
      rw [tat_tno (cl a b ha hb), tat_tno (cl b c hb hc), comp_assoc (tn a ha) (tn b hb) (tn c hc)]
    iv := fun a ha => by
      obtain ⟨b, hb, e1, e2⟩ := G.inv (tat_mem ha)
      refine ⟨tno F b, tno_lt hb, ?_, ?_⟩
      · unfold ttab
        rw [tat_tno hb, e1, h00]
      · unfold ttab
        rw [tat_tno hb, e2, h00] }
end MM

set_option linter.all false
set_option maxRecDepth 100000
namespace MM
/-! ### the order of a turn of at most seven things -/
def nthL : List Nat → Nat → Nat
  | [], _ => 0
  | x :: _, 0 => x
  | _ :: r, i + 1 => nthL r i
theorem nthL_eq : ∀ (l : List Nat) (i : Nat), nthL l i = l.getD i 0
  | [], _ => by simp [nthL]
  | x :: _, 0 => rfl
  | _ :: r, i + 1 => by
    rw [nthL, nthL_eq r i]
    simp [List.getD]
def compL (b : List Nat) : List Nat → List Nat
  | [] => []
  | k :: r => nthL b k :: compL b r
theorem compL_eq (b : List Nat) : ∀ a, compL b a = comp a b
  | [] => rfl
  | k :: r => by
    rw [compL, compL_eq b r, nthL_eq]
    rfl
def eqL : List Nat → List Nat → Bool
  | [], [] => true
  | x :: r, y :: t => match Nat.beq x y with
    | true => eqL r t
    | false => false
  | _, _ => false
theorem eqL_eq : ∀ {a b : List Nat}, eqL a b = true → a = b
  | [], [], _ => rfl
  | [], _ :: _, h => nomatch h
  | _ :: _, [], h => nomatch h
  | x :: r, y :: t, h => by
    unfold eqL at h
    cases e : Nat.beq x y with
    | true =>
      rw [e] at h
      rw [Nat.eq_of_beq_eq_true e, eqL_eq h]
    | false => rw [e] at h; cases h
def ordLe (i g : List Nat) : Nat → List Nat → Bool
  | 0, _ => false
  | k + 1, c => match eqL c i with
    | true => true
    | false => ordLe i g k (compL g c)
def ersL (x : Nat) : List Nat → List Nat
  | [] => []
  | y :: r => match Nat.beq x y with
    | true => r
    | false => y :: ersL x r
theorem ersL_eq (x : Nat) : ∀ l, ersL x l = l.erase x
  | [] => rfl
  | y :: r => by
    unfold ersL
    cases e : Nat.beq x y with
    | true => rw [Nat.eq_of_beq_eq_true e]; simp
    | false =>
      have : x ≠ y := Nat.ne_of_beq_eq_false e
      simp [List.erase_cons, Ne.symm this, ersL_eq x r]
def allL (f : Nat → Bool) : List Nat → Bool
  | [] => true
  | x :: r => match f x with
    | true => allL f r
    | false => false
theorem allL_mem {f : Nat → Bool} : ∀ {l : List Nat}, allL f l = true → ∀ x ∈ l, f x = true
  | y :: r, h, x, hx => by
    unfold allL at h
    cases e : f y with
    | true =>
      rw [e] at h
      rcases List.mem_cons.mp hx with z | z
      · rw [z, e]
      · exact allL_mem h x z
    | false => rw [e] at h; cases h
/-- all arrangements pass a test -/
def allA (t : List Nat → Bool) : Nat → List Nat → List Nat → Bool
  | 0 => fun acc _ => t acc
  | k + 1 => fun acc l => allL (fun x => allA t k (x :: acc) (ersL x l)) l
theorem allA_mem {t : List Nat → Bool} : ∀ {k : Nat} {acc l p : List Nat}, allA t k acc l = true → p.Perm l → p.length = k → t (p.reverse ++ acc) = true
  | 0, acc, l, p, h, hp, hk => by
    have : p = [] := List.eq_nil_of_length_eq_zero hk
    subst this
    exact h
  | k + 1, acc, l, [], h, hp, hk => by simp at hk
  | k + 1, acc, l, x :: p, h, hp, hk => by
    have h1 := allL_mem h x (hp.mem_iff.mp List.mem_cons_self)
    have h2 := allA_mem (p := p) h1 (by rw [ersL_eq]; have := hp.erase x; rwa [List.erase_cons_head] at this) (by simpa using hk)
    rwa [List.reverse_cons, List.append_assoc]
theorem ord7 : allA (fun g => ordLe (List.range 7) g 12 g) 7 [] (List.range 7) = true := by decide +kernel
theorem ord6 : allA (fun g => ordLe (List.range 6) g 12 g) 6 [] (List.range 6) = true := by decide +kernel
theorem ord5 : allA (fun g => ordLe (List.range 5) g 12 g) 5 [] (List.range 5) = true := by decide +kernel
theorem ord4 : allA (fun g => ordLe (List.range 4) g 12 g) 4 [] (List.range 4) = true := by decide +kernel
theorem ord3 : allA (fun g => ordLe (List.range 3) g 12 g) 3 [] (List.range 3) = true := by decide +kernel
theorem ord2 : allA (fun g => ordLe (List.range 2) g 12 g) 2 [] (List.range 2) = true := by decide +kernel
theorem ord1 : allA (fun g => ordLe (List.range 1) g 12 g) 1 [] (List.range 1) = true := by decide +kernel
theorem ord0 : allA (fun g => ordLe (List.range 0) g 12 g) 0 [] (List.range 0) = true := by decide +kernel
theorem ord_all : ∀ n, n < 8 → allA (fun g => ordLe (List.range n) g 12 g) n [] (List.range n) = true
  | 0, _ => ord0 | 1, _ => ord1 | 2, _ => ord2 | 3, _ => ord3 | 4, _ => ord4 | 5, _ => ord5 | 6, _ => ord6 | 7, _ => ord7
  | n + 8, h => absurd h (by omega)
/-- its powers -/
def pw (n : Nat) (g : List Nat) : Nat → List Nat
  | 0 => List.range n
  | k + 1 => comp (pw n g k) g
theorem ordLe_pw {n : Nat} {g : List Nat} : ∀ (k j : Nat), ordLe (List.range n) g k (pw n g j) = true → ∃ i, i < k ∧ pw n g (j + i) = List.range n
  | 0, _, h => nomatch h
  | k + 1, j, h => by
    unfold ordLe at h
    cases e : eqL (pw n g j) (List.range n) with
    | true => exact ⟨0, by omega, eqL_eq e⟩
    | false =>
      rw [e, compL_eq] at h
      obtain ⟨i, hi, e2⟩ := ordLe_pw k (j + 1) h
      exact ⟨i + 1, by omega, by rw [← e2, Nat.add_assoc, Nat.add_comm 1 i]⟩
theorem pw_one {n : Nat} {g : List Nat} (hg : Turn n g) : pw n g 1 = g := id_comp hg
theorem turn_order {n : Nat} (h8 : n < 8) {g : List Nat} (hg : Turn n g) : ∃ p, 0 < p ∧ p ≤ 12 ∧ pw n g p = List.range n := by
  have h := allA_mem (p := g.reverse) (ord_all n h8) (g.reverse_perm.trans hg) (by simp [hg.len])
  rw [List.reverse_reverse, List.append_nil] at h
  have h' : ordLe (List.range n) g 12 (pw n g 1) = true := by rw [pw_one hg]; exact h
  obtain ⟨i, hi, e⟩ := ordLe_pw 12 1 h'
  exact ⟨1 + i, by omega, by omega, e⟩
theorem pw_turn {n : Nat} {g : List Nat} (hg : Turn n g) : ∀ k, Turn n (pw n g k)
  | 0 => range_turn n
  | k + 1 => comp_turn (pw_turn hg k) hg
theorem pw_add {n : Nat} {g : List Nat} (hg : Turn n g) (i : Nat) : ∀ j, pw n g (i + j) = comp (pw n g i) (pw n g j)
  | 0 => (comp_id (pw_turn hg i)).symm
  | j + 1 => by
    show comp (pw n g (i + j)) g = comp (pw n g i) (comp (pw n g j) g)
    rw [pw_add hg i j, comp_assoc (pw_turn hg i) (pw_turn hg j) hg]
theorem pw_mod {n p : Nat} {g : List Nat} (hg : Turn n g) (hp : 0 < p) (e : pw n g p = List.range n) (k : Nat) : pw n g k = pw n g (k % p) := by
  induction k using Nat.strongRecOn with
  | _ k ih =>
    by_cases h : k < p
    · rw [Nat.mod_eq_of_lt h]
    · have e2 : k = p + (k - p) := by omega
      rw [Nat.mod_eq_sub_mod (by omega), ← ih (k - p) (by omega)]
      conv => lhs; rw [e2]
      rw [pw_add hg, e, id_comp (pw_turn hg _)]
end MM

set_option linter.all false
set_option maxRecDepth 100000
namespace MM
/-! ### what comes of some, one step after another -/
section
variable {α β : Type} [DecidableEq α] (step : α → β → α)
def addAll (one : α) : List β → List α × List α → List α × List α
  | [], s => s
  | g :: gs, s => addAll one gs (if step one g ∈ s.1 then s else (s.1 ++ [step one g], s.2 ++ [step one g]))
inductive Reach (e : α) (gs : List β) : α → Prop
  | base : Reach e gs e
  | step {x : α} {g : β} : Reach e gs x → g ∈ gs → Reach e gs (step x g)
structure Wk (e : α) (gs : List β) (f w : List α) : Prop where
  nd : f.Nodup
  wn : w.Nodup
  sub : ∀ x ∈ w, x ∈ f
  base : e ∈ f
  rc : ∀ x ∈ f, Reach step e gs x
  dn : ∀ x ∈ f, x ∉ w → ∀ g ∈ gs, step x g ∈ f
variable {step}
theorem Wk.start (e : α) (gs : List β) : Wk step e gs [e] [e] where
  nd := by simp
  wn := by simp
  sub := fun x h => h
  base := List.mem_cons_self
  rc := fun x h => by
    rw [List.mem_singleton] at h
    subst h
    exact .base
  dn := fun x h n => absurd h n
theorem addAll_spec (one : α) : ∀ (gs : List β) (f w : List α), ∃ new, addAll step one gs (f, w) = (f ++ new, w ++ new) ∧ (f.Nodup → (f ++ new).Nodup) ∧ (∀ x ∈ new, ∃ g ∈ gs, x = step one g) ∧ ∀ g ∈ gs, step one g ∈ f ++ new
  | [], f, w => ⟨[], by simp [addAll], by simp, by simp, by simp⟩
  | g :: gs, f, w => by
    by_cases h : step one g ∈ f
    · obtain ⟨new, h1, h2, h3, h4⟩ := addAll_spec one gs f w
      refine ⟨new, by rw [addAll, if_pos h, h1], h2, fun x hx => ?_, fun x hx => ?_⟩
      · obtain ⟨g', hg, e⟩ := h3 x hx
        exact ⟨g', List.mem_cons_of_mem _ hg, e⟩
      · rcases List.mem_cons.mp hx with z | z
        · rw [z]; exact List.mem_append_left _ h
        · exact h4 x z
    · obtain ⟨new, h1, h2, h3, h4⟩ := addAll_spec one gs (f ++ [step one g]) (w ++ [step one g])
      refine ⟨step one g :: new, by rw [addAll, if_neg h, h1]; simp, fun hn => ?_, fun x hx => ?_, fun x hx => ?_⟩
      · have : (f ++ [step one g]).Nodup := by
          refine List.nodup_append.mpr ⟨hn, by simp, fun a ha b hb e => ?_⟩
          rw [List.mem_singleton] at hb
          subst hb
          subst e
          exact h ha
        have := h2 this
        simpa using this
      · rcases List.mem_cons.mp hx with z | z
        · exact ⟨g, List.mem_cons_self, z⟩
        · obtain ⟨g', hg, e⟩ := h3 x z
          exact ⟨g', List.mem_cons_of_mem _ hg, e⟩
      · rcases List.mem_cons.mp hx with z | z
        · rw [z]; simp
        · have := h4 x z
          simpa using this
theorem Wk.next {e : α} {gs : List β} {f w : List α} {one : α} (W : Wk step e gs f (w ++ [one])) : ∃ new, addAll step one gs (f, w) = (f ++ new, w ++ new) ∧ Wk step e gs (f ++ new) (w ++ new) := by
  obtain ⟨new, h1, h2, h3, h4⟩ := addAll_spec (step := step) one gs f w
  have ho : one ∈ f := W.sub one (by simp)
  have hnn := List.nodup_append.mp (h2 W.nd)
  refine ⟨new, h1, h2 W.nd, List.nodup_append.mpr ⟨(List.nodup_append.mp W.wn).1, hnn.2.1, fun a ha b hb e => hnn.2.2 a (W.sub a (List.mem_append_left _ ha)) b hb e⟩, fun x hx => ?_, List.mem_append_left _ W.base, fun x hx => ?_, fun x hx hn g hg => ?_⟩
  · rcases List.mem_append.mp hx with z | z
    · exact List.mem_append_left _ (W.sub x (List.mem_append_left _ z))
    · exact List.mem_append_right _ z
  · rcases List.mem_append.mp hx with z | z
    · exact W.rc x z
    · obtain ⟨g, hg, rfl⟩ := h3 x z
      exact .step (W.rc one ho) hg
  · by_cases e : x = one
    · subst e; exact h4 g hg
    · have hw : x ∉ w := fun z => hn (List.mem_append_left _ z)
      have hnew : x ∉ new := fun z => hn (List.mem_append_right _ z)
      have hf : x ∈ f := by
        rcases List.mem_append.mp hx with z | z
        · exact z
        · exact absurd z hnew
      exact List.mem_append_left _ (W.dn x hf (fun z => by
        rcases List.mem_append.mp z with z | z
        · exact hw z
        · exact e (List.mem_singleton.mp z)) g hg)
theorem Wk.wlen {e : α} {gs : List β} {f w : List α} (W : Wk step e gs f w) : w.length ≤ f.length := len_of_sub W.wn W.sub
/-- at the end: all that can be reached -/
theorem Wk.done {e : α} {gs : List β} {f : List α} (W : Wk step e gs f []) (x : α) : x ∈ f ↔ Reach step e gs x :=
  ⟨W.rc x, fun h => by
    induction h with
    | base => exact W.base
    | step _ hg ih => exact W.dn _ ih (by simp) _ hg⟩
theorem Reach.mono {e : α} {gs hs : List β} (h : ∀ g ∈ gs, g ∈ hs) {x : α} (r : Reach step e gs x) : Reach step e hs x := by
  induction r with
  | base => exact .base
  | step _ hg ih => exact .step ih (h _ hg)
end
/-! ### turns that come of some -/
theorem reach_turn {n : Nat} {gs : List (List Nat)} (hg : ∀ g ∈ gs, Turn n g) {x : List Nat} (h : Reach comp (List.range n) gs x) : Turn n x := by
  induction h with
  | base => exact range_turn n
  | step _ m ih => exact comp_turn ih (hg _ m)
theorem reach_comp {n : Nat} {gs : List (List Nat)} (hg : ∀ g ∈ gs, Turn n g) {x y : List Nat} (hx : Reach comp (List.range n) gs x) (hy : Reach comp (List.range n) gs y) : Reach comp (List.range n) gs (comp x y) := by
  induction hy with
  | base => rwa [comp_id (reach_turn hg hx)]
  | step hy m ih =>
    rw [← comp_assoc (reach_turn hg hx) (reach_turn hg hy) (hg _ m)]
    exact .step ih m
theorem tg_of {n : Nat} {gs f : List (List Nat)} (hg : ∀ g ∈ gs, Turn n g) (W : Wk comp (List.range n) gs f []) : TG n f where
  nd := W.nd
  tn := fun a ha => reach_turn hg ((W.done a).mp ha)
  id := W.base
  cl := fun a ha b hb => (W.done _).mpr (reach_comp hg ((W.done a).mp ha) ((W.done b).mp hb))
theorem reach_one {n : Nat} {g : List Nat} {x : List Nat} (h : Reach comp (List.range n) [g] x) : ∃ k, x = pw n g k := by
  induction h with
  | base => exact ⟨0, rfl⟩
  | step _ m ih =>
    obtain ⟨k, rfl⟩ := ih
    rw [List.mem_singleton] at m
    subst m
    exact ⟨k + 1, rfl⟩
theorem few_of_one {n : Nat} (h8 : n < 8) {gs f : List (List Nat)} (hl : gs.length ≤ 1) (hg : ∀ g ∈ gs, Turn n g) (hn : f.Nodup) (h : ∀ x ∈ f, Reach comp (List.range n) gs x) : f.length ≤ 12 := by
  match gs, hl with
  | [], _ =>
    refine Nat.le_trans (len_of_sub (m := [List.range n]) hn fun x hx => ?_) (by simp)
    have := h x hx
    cases this with
    | base => simp
    | step _ m => cases m
  | [g], _ =>
    have hgt := hg g List.mem_cons_self
    obtain ⟨p, h0, h12, e⟩ := turn_order h8 hgt
    refine Nat.le_trans (len_of_sub (m := (List.range p).map (pw n g)) hn fun x hx => ?_) (by simpa using h12)
    obtain ⟨k, rfl⟩ := reach_one (h x hx)
    rw [pw_mod hgt h0 e k]
    exact List.mem_map.mpr ⟨k % p, List.mem_range.mpr (Nat.mod_lt _ h0), rfl⟩
/-! ### numbers of a house that come of some -/
theorem reach_lt {n : Nat} {m : Nat → Nat → Nat} (G : Grp n m) {gs : List Nat} (hg : ∀ g ∈ gs, g < n) {x : Nat} (h : Reach m 0 gs x) : x < n := by
  induction h with
  | base => exact G.pos
  | step _ k ih => exact G.cl _ _ ih (hg _ k)
theorem reach_mul {n : Nat} {m : Nat → Nat → Nat} (G : Grp n m) {gs : List Nat} (hg : ∀ g ∈ gs, g < n) {x y : Nat} (hx : Reach m 0 gs x) (hy : Reach m 0 gs y) : Reach m 0 gs (m x y) := by
  induction hy with
  | base => rwa [G.ir _ (reach_lt G hg hx)]
  | step hy k ih =>
    rw [← G.as _ _ _ (reach_lt G hg hx) (reach_lt G hg hy) (hg _ k)]
    exact .step ih k
theorem reach_mem {n : Nat} {m : Nat → Nat → Nat} (G : Grp n m) {gs : List Nat} (hg : ∀ g ∈ gs, g < n) {g : Nat} (h : g ∈ gs) : Reach m 0 gs g := by
  have := Reach.step (step := m) (e := 0) .base h
  rwa [G.il _ (hg g h)] at this
/-- shut by one then the other -/
theorem reach_least {m : Nat → Nat → Nat} {gs : List Nat} {P : Nat → Prop} (h0 : P 0) (hs : ∀ x, P x → ∀ g ∈ gs, P (m x g)) {x : Nat} (h : Reach m 0 gs x) : P x := by
  induction h with
  | base => exact h0
  | step _ k ih => exact hs _ ih _ k
end MM

set_option Elab.async false
set_option linter.all false
set_option maxRecDepth 100000
set_option maxHeartbeats 4000000
noncomputable section
namespace MM
open PySem PySem.Spec PyProof.Rows L2

theorem fdiv_nat {a b : Nat} : (a : Int).fdiv b = ((a / b : Nat) : Int) := by
  rw [Int.fdiv_eq_ediv_of_nonneg _ (by omega)]; rfl
theorem fmod_nat {a b : Nat} : (a : Int).fmod b = ((a % b : Nat) : Int) := by
  rw [Int.fmod_eq_emod_of_nonneg _ (by omega)]; rfl
/-! ### equality -/
structure Py (k : Nat) (d : D) (p : PyData) : Prop where
  to : toPy d = some p
  can : p.canLay0 = true
  dep : p.depth ≤ k
structure PyL (k : Nat) (d : List D) (p : List PyData) : Prop where
  to : toPyL d = some p
  can : PyData.canLayAll0 p = true
  dep : PyData.depthAll p ≤ k
theorem Py.shaped {k : Nat} {d : D} {p : PyData} (h : Py k d p) (hk : k ≤ 64) : SeqAt.shaped p = true := by
  unfold SeqAt.shaped
  have := h.dep
  rw [h.can, decide_eq_true (by omega)]
  rfl
theorem Py.int (i : Int) : Py 0 (.int i) (.int i) := ⟨by simp only [toPy], by simp only [PyData.canLay0], by simp only [PyData.depth]; omega⟩
theorem Py.bl (i : Bool) : Py 0 (.bl i) (.bool i) := ⟨by simp only [toPy], by simp only [PyData.canLay0], by simp only [PyData.depth]; omega⟩
theorem Py.non : Py 0 .non .none := ⟨by simp only [toPy], by simp only [PyData.canLay0], by simp only [PyData.depth]; omega⟩
theorem PyL.nil {k : Nat} : PyL k [] [] := ⟨by simp only [toPyL], by simp only [PyData.canLayAll0], by simp only [PyData.depthAll]; omega⟩
theorem PyL.cons {k : Nat} {d : D} {p : PyData} {ds : List D} {ps : List PyData} (h : Py k d p) (t : PyL k ds ps) : PyL k (d :: ds) (p :: ps) :=
  ⟨by simp only [toPyL, h.to, t.to], by simp only [PyData.canLayAll0, h.can, t.can, Bool.and_self], by simp only [PyData.depthAll]; have := h.dep; have := t.dep; omega⟩
theorem Py.lst {k : Nat} {ds : List D} {ps : List PyData} (t : PyL k ds ps) : Py (k + 1) (.lst ds) (.list ps) :=
  ⟨by simp only [toPy, t.to], by simp only [PyData.canLay0, t.can], by simp only [PyData.depth]; have := t.dep; omega⟩
theorem Py.tup {k : Nat} {ds : List D} {ps : List PyData} (t : PyL k ds ps) : Py (k + 1) (.tup ds) (.tuple ps) :=
  ⟨by simp only [toPy, t.to], by simp only [PyData.canLay0, t.can], by simp only [PyData.depth]; have := t.dep; omega⟩
theorem Py.mono {k k' : Nat} {d : D} {p : PyData} (h : Py k d p) (hk : k ≤ k') : Py k' d p := ⟨h.to, h.can, Nat.le_trans h.dep hk⟩
def pyN (l : List Nat) : List PyData := l.map fun (n : Nat) => PyData.int (n : Int)
theorem PyL.ofN : ∀ l : List Nat, PyL 0 (ofN l) (pyN l)
  | [] => .nil
  | n :: l => .cons (.int n) (PyL.ofN l)
theorem PyL.map {α : Type} {k : Nat} {f : α → D} {g : α → PyData} : ∀ {l : List α}, (∀ x ∈ l, Py k (f x) (g x)) → PyL k (l.map f) (l.map g)
  | [], _ => .nil
  | x :: l, h => .cons (h x List.mem_cons_self) (PyL.map fun y hy => h y (List.mem_cons_of_mem _ hy))
theorem eqP_of {k k' : Nat} {a b : D} {p q : PyData} (ha : Py k a p) (hb : Py k' b q) (h1 : k ≤ 64 := by decide) (h2 : k' ≤ 64 := by decide) : eqP a b = some (PyData.eqv p q) := by
  unfold eqP
  rw [ha.to, hb.to]
  dsimp only
  rw [if_pos ⟨ha.shaped h1, hb.shaped h2⟩]
mutual
theorem eqv_refl : ∀ p : PyData, p.canLay0 = true → PyData.eqv p p = true
  | .none, _ => by simp only [PyData.eqv]
  | .bool b, _ => by simp only [PyData.eqv, beq_self_eq_true]
  | .int b, _ => by simp only [PyData.eqv, beq_self_eq_true]
  | .str b, _ => by simp only [PyData.eqv, beq_self_eq_true]
  | .list xs, h => by
    simp only [PyData.eqv]
    exact eqvAll_refl xs (by simpa only [PyData.canLay0] using h)
  | .tuple xs, h => by
    simp only [PyData.eqv]
    exact eqvAll_refl xs (by simpa only [PyData.canLay0] using h)
  | .dict _, h => by simp [PyData.canLay0] at h
theorem eqvAll_refl : ∀ p : List PyData, PyData.canLayAll0 p = true → PyData.eqvAll p p = true
  | [], _ => by simp only [PyData.eqvAll]
  | x :: xs, h => by
    simp only [PyData.canLayAll0, Bool.and_eq_true] at h
    simp only [PyData.eqvAll, eqv_refl x h.1, eqvAll_refl xs h.2, Bool.and_self]
end
theorem eqP_refl {k : Nat} {a : D} {p : PyData} (ha : Py k a p) (h1 : k ≤ 64 := by decide) : eqP a a = some true := by
  rw [eqP_of ha ha h1 h1, eqv_refl p ha.can]
theorem eqvAll_nats : ∀ l m : List Nat, PyData.eqvAll (pyN l) (pyN m) = decide (l = m)
  | [], [] => by simp [pyN, PyData.eqvAll]
  | [], _ :: _ => by simp [pyN, PyData.eqvAll]
  | _ :: _, [] => by simp [pyN, PyData.eqvAll]
  | x :: l, y :: m => by
    have ih := eqvAll_nats l m
    show PyData.eqvAll (.int x :: pyN l) (.int y :: pyN m) = _
    simp only [PyData.eqvAll, PyData.eqv, ih]
    by_cases e : x = y
    · subst e; simp
    · have : (x : Int) ≠ y := by omega
      simp [e, this]
theorem eqP_int (a b : Int) : eqP (.int a) (.int b) = some (decide (a = b)) := by
  rw [eqP_of (.int a) (.int b)]
  simp only [PyData.eqv]
  by_cases e : a = b <;> simp [e]
theorem eqF_ap {a b : D} : eqF [a, b] = (eqP a b).map .bl := rfl
theorem neF_ap {a b : D} : neF [a, b] = (eqP a b).map fun c => .bl (!c) := rfl
theorem inF_ap {a b : D} : inF [a, b] = (inP a b).map .bl := rfl
theorem notInF_ap {a b : D} : notInF [a, b] = (inP a b).map fun c => .bl (!c) := rfl
theorem eqF_int (a b : Int) : eqF [.int a, .int b] = some (.bl (decide (a = b))) := by rw [eqF_ap, eqP_int]; rfl
theorem neF_int (a b : Int) : neF [.int a, .int b] = some (.bl (!decide (a = b))) := by rw [neF_ap, eqP_int]; rfl
theorem eqP_tupN (l m : List Nat) : eqP (tupN l) (tupN m) = some (decide (l = m)) := by
  rw [eqP_of (.tup (.ofN l)) (.tup (.ofN m))]
  simp only [PyData.eqv, eqvAll_nats]
theorem eqP_lstN (l m : List Nat) : eqP (lstN l) (lstN m) = some (decide (l = m)) := by
  rw [eqP_of (.lst (.ofN l)) (.lst (.ofN m))]
  simp only [PyData.eqv, eqvAll_nats]
theorem eqF_tupN (l m : List Nat) : eqF [tupN l, tupN m] = some (.bl (decide (l = m))) := by rw [eqF_ap, eqP_tupN]; rfl
theorem neF_tupN (l m : List Nat) : neF [tupN l, tupN m] = some (.bl (!decide (l = m))) := by rw [neF_ap, eqP_tupN]; rfl
theorem eqF_lstN (l m : List Nat) : eqF [lstN l, lstN m] = some (.bl (decide (l = m))) := by rw [eqF_ap, eqP_lstN]; rfl
theorem neF_lstN (l m : List Nat) : neF [lstN l, lstN m] = some (.bl (!decide (l = m))) := by rw [neF_ap, eqP_lstN]; rfl
/-- xs != [] -/
theorem neF_nil0 : neF [.lst [], .lst []] = some (.bl false) := by
  rw [neF_ap, eqP_of (.lst (k := 0) .nil) (.lst (k := 0) .nil)]
  simp [PyData.eqv, PyData.eqvAll]
theorem neF_nil {k : Nat} {ds : List D} {ps : List PyData} (h : PyL k ds ps) (hk : k < 64) : neF [.lst ds, .lst []] = some (.bl (!ds.isEmpty)) := by
  rw [neF_ap, eqP_of (.lst h) (.lst (k := 0) .nil) (by omega)]
  have hl : ps.isEmpty = ds.isEmpty := by
    cases ds with
    | nil => have := h.to; simp only [toPyL] at this; cases this; rfl
    | cons d ds =>
      have := h.to
      simp only [toPyL] at this
      split at this
      · split at this
        · cases this; rfl
        · cases this
      · cases this
  simp only [PyData.eqv]
  cases ps with
  | nil => simp [PyData.eqvAll, ← hl]
  | cons p ps => simp [PyData.eqvAll, ← hl]
/-! ### dicts as sets of numbers -/
def setN (l : List Nat) : D := .dK (l.map fun (n : Nat) => (Sum.inl (n : Int), D.bl true))
theorem valG_map {κ α β : Type} [DecidableEq κ] {f : β → κ} {v : α} (l : List β) (k : κ) : (valG (l.map fun b => (f b, v)) k).isSome = l.any fun b => decide (f b = k) := by
  unfold valG
  rw [Option.isSome_map]
  induction l with
  | nil => rfl
  | cons b l ih =>
    rw [List.map_cons, List.find?_cons, List.any_cons]
    by_cases e : f b = k
    · simp [e]
    · simp only [e, decide_false, Bool.false_or]
      exact ih
theorem inP_setN (l : List Nat) (x : Nat) : inP (.int x) (setN l) = some (decide (x ∈ l)) := by
  unfold inP setN
  dsimp only
  unfold getD2
  simp only [keyD]
  rw [valG_map (f := fun (n : Nat) => (Sum.inl (n : Int) : Key))]
  congr 1
  rw [Bool.eq_iff_iff]
  simp only [List.any_eq_true, decide_eq_true_eq, Sum.inl.injEq]
  exact ⟨fun ⟨y, hy, e⟩ => (show y = x by omega) ▸ hy, fun h => ⟨x, h, rfl⟩⟩
theorem notInF_setN (l : List Nat) (x : Nat) : notInF [.int x, setN l] = some (.bl (!decide (x ∈ l))) := by
  rw [notInF_ap, inP_setN]; rfl
theorem inF_setN (l : List Nat) (x : Nat) : inF [.int x, setN l] = some (.bl (decide (x ∈ l))) := by
  rw [inF_ap, inP_setN]; rfl
theorem setF_setN {l : List Nat} {x : Nat} (h : x ∉ l) (hl : l.length < 1000000) : setF (setN l) (.int x) (.bl true) = some (setN (l ++ [x])) := by
  unfold setF setN
  simp only [keyD]
  rw [if_pos (by rw [List.length_map, sizeLine_eq]; omega)]
  unfold putG
  rw [if_neg]
  · simp
  · simp only [List.any_map, List.any_eq_true, Function.comp, decide_eq_true_eq, Sum.inl.injEq]
    rintro ⟨a, ha, e⟩
    have : a = x := by omega
    exact h (this ▸ ha)
theorem lenF_setN (l : List Nat) : lenF [setN l] = some (.int l.length) := by
  have : lenF [setN l] = some (.int (l.map fun (n : Nat) => ((Sum.inl (n : Int) : Key), D.bl true)).length) := rfl
  rw [this, List.length_map]
/-- .. of turns -/
def keyN (l : List Nat) : List Key := l.map fun (n : Nat) => (Sum.inl (n : Int) : Key)
theorem keyN_inj {l m : List Nat} (h : keyN l = keyN m) : l = m := by
  induction l generalizing m with
  | nil => cases m with
    | nil => rfl
    | cons _ _ => simp [keyN] at h
  | cons x l ih => cases m with
    | nil => simp [keyN] at h
    | cons y m =>
      simp only [keyN, List.map_cons, List.cons.injEq, Sum.inl.injEq] at h
      rw [ih h.2, show x = y by omega]
theorem keysD_ofN (l : List Nat) : keysD (ofN l) = some (keyN l) := by
  induction l with
  | nil => rfl
  | cons x l ih =>
    rw [ofN_cons, keysD]
    simp only [keyD, ih]
    rfl
def setT (F : List (List Nat)) : D := .dT (F.map fun l => (keyN l, D.bl true))
theorem inP_setT (F : List (List Nat)) (x : List Nat) : inP (tupN x) (setT F) = some (decide (x ∈ F)) := by
  unfold inP setT
  dsimp only
  unfold getD2
  simp only [keysD_ofN]
  rw [valG_map (f := keyN)]
  congr 1
  rw [Bool.eq_iff_iff]
  simp only [List.any_eq_true, decide_eq_true_eq]
  exact ⟨fun ⟨y, hy, e⟩ => keyN_inj e ▸ hy, fun h => ⟨x, h, rfl⟩⟩
theorem notInF_setT (F : List (List Nat)) (x : List Nat) : notInF [tupN x, setT F] = some (.bl (!decide (x ∈ F))) := by
  rw [notInF_ap, inP_setT]; rfl
theorem inF_setT (F : List (List Nat)) (x : List Nat) : inF [tupN x, setT F] = some (.bl (decide (x ∈ F))) := by
  rw [inF_ap, inP_setT]; rfl
theorem setF_setT {F : List (List Nat)} {x : List Nat} (h : x ∉ F) (hl : F.length < 1000000) : setF (setT F) (tupN x) (.bl true) = some (setT (F ++ [x])) := by
  unfold setF setT
  simp only [keysD_ofN]
  rw [if_pos (by rw [List.length_map, sizeLine_eq]; omega)]
  unfold putG
  rw [if_neg]
  · simp
  · simp only [List.any_map, List.any_eq_true, Function.comp, decide_eq_true_eq]
    rintro ⟨a, ha, e⟩
    exact h (keyN_inj e ▸ ha)
theorem lenF_setT (F : List (List Nat)) : lenF [setT F] = some (.int F.length) := by
  have : lenF [setT F] = some (.int (F.map fun l => (keyN l, D.bl true)).length) := rfl
  rw [this, List.length_map]
/-! ### sorted -/
def zi (l : List Nat) : List Int := l.map fun (n : Nat) => (n : Int)
theorem zi_inj {l m : List Nat} (h : zi l = zi m) : l = m := by
  induction l generalizing m with
  | nil => cases m with
    | nil => rfl
    | cons _ _ => simp [zi] at h
  | cons x l ih => cases m with
    | nil => simp [zi] at h
    | cons y m =>
      simp only [zi, List.map_cons, List.cons.injEq] at h
      rw [ih h.2, show x = y by omega]
theorem intsK_keyN (l : List Nat) : intsK (keyN l) = some (zi l) := by
  induction l with
  | nil => rfl
  | cons x l ih =>
    show intsK (.inl (x : Int) :: keyN l) = _
    rw [intsK, ih]
    rfl
theorem keysT_setT : ∀ {F : List (List Nat)}, (∀ l ∈ F, l ≠ []) → keysT (F.map fun l => (keyN l, D.bl true)) = some (F.map zi)
  | [], _ => rfl
  | l :: F, h => by
    have ih := keysT_setT fun m hm => h m (List.mem_cons_of_mem _ hm)
    rw [List.map_cons, keysT, intsK_keyN, ih]
    have hl := h l List.mem_cons_self
    cases l with
    | nil => exact absurd rfl hl
    | cons x l => rfl
theorem perm_zi : ∀ {L : List (List Int)} {F : List (List Nat)}, L.Perm (F.map zi) → ∃ G : List (List Nat), L = G.map zi ∧ G.Perm F := by
  intro L F h
  refine ⟨L.map fun l => l.map Int.toNat, ?_, ?_⟩
  · rw [List.map_map]
    refine (List.map_id L).symm.trans (List.map_congr_left fun l hl => ?_)
    obtain ⟨m, hm, rfl⟩ := List.mem_map.mp (h.mem_iff.mp hl)
    simp [zi, Function.comp_def]
  · have := h.map fun l => l.map Int.toNat
    rw [List.map_map] at this
    have e : F.map ((fun l => l.map Int.toNat) ∘ zi) = F := by
      refine Eq.trans (List.map_congr_left fun l _ => ?_) (List.map_id F)
      simp [zi, Function.comp_def]
    rwa [e] at this
def SrtN (F : List (List Nat)) : Prop := SrtT (F.map zi)
theorem ofN_zi (l : List Nat) : (zi l).map D.int = ofN l := by simp [zi, ofN, Function.comp_def]
/-- sorted(dict of turns) -/
theorem sorted_setT {F : List (List Nat)} (h : ∀ l ∈ F, l ≠ []) : ∃ G : List (List Nat), sorted3F [setT F] = some (.lst (G.map tupN)) ∧ G.Perm F ∧ SrtN G := by
  obtain ⟨G, e, p⟩ := perm_zi (sortT_perm (F.map zi))
  refine ⟨G, ?_, p, ?_⟩
  · have : sorted3F [setT F] = match keysT (F.map fun l => (keyN l, D.bl true)) with
        | some ks => some (.lst ((sortT ks).map dtup))
        | none => none := rfl
    rw [this, keysT_setT h]
    dsimp only
    rw [e, List.map_map]
    congr 2
    refine List.map_congr_left fun l _ => ?_
    simp only [Function.comp, dtup, ofN_zi]
  · unfold SrtN
    rw [← e]
    exact sortT_srt _
/-- the stay is the least of turns -/
theorem stay_least : ∀ (l : List Nat) (s : Nat), l.Nodup → (∀ x ∈ l, s ≤ x) → ltL (zi l) (zi (List.range' s l.length)) = false
  | [], _, _, _ => rfl
  | x :: l, s, hn, hs => by
    have hn' := List.nodup_cons.mp hn
    rw [List.length_cons, List.range'_succ]
    show ltL ((x : Int) :: zi l) ((s : Int) :: zi (List.range' (s + 1) l.length)) = false
    unfold ltL
    by_cases e : x = s
    · subst e
      rw [if_pos rfl]
      exact stay_least l (x + 1) hn'.2 fun y hy => by
        have := hs y (List.mem_cons_of_mem _ hy)
        have : y ≠ x := fun z => hn'.1 (z ▸ hy)
        omega
    · have := hs x List.mem_cons_self
      rw [if_neg (by omega), decide_eq_false (by omega)]
theorem srt_first {n : Nat} {F : List (List Nat)} (hF : ∀ a ∈ F, Turn n a) (hi : List.range n ∈ F) (hs : SrtN F) : tat F 0 = List.range n := by
  cases F with
  | nil => cases hi
  | cons x r =>
    show x = List.range n
    rcases List.mem_cons.mp hi with e | m
    · exact e.symm
    · have tx := hF x List.mem_cons_self
      have h1 : ltL (zi (List.range n)) (zi x) = false := (List.pairwise_cons.mp hs).1 _ (List.mem_map.mpr ⟨_, m, rfl⟩)
      have h2 := stay_least x 0 tx.nodup fun _ _ => Nat.zero_le _
      rw [tx.len, ← List.range_eq_range'] at h2
      exact zi_inj (ltL_total _ _ h2 h1)
/-- sorted(dict of numbers) -/
theorem intKeys_setN (l : List Nat) : intKeys (l.map fun (n : Nat) => ((Sum.inl (n : Int) : Key), D.bl true)) = some (zi l) := by
  induction l with
  | nil => rfl
  | cons x l ih =>
    rw [List.map_cons, intKeys, ih]
    rfl
theorem perm_zi1 : ∀ {L : List Int} {F : List Nat}, L.Perm (zi F) → ∃ G : List Nat, L = zi G ∧ G.Perm F := by
  intro L F h
  refine ⟨L.map Int.toNat, ?_, ?_⟩
  · unfold zi
    rw [List.map_map]
    refine (List.map_id L).symm.trans (List.map_congr_left fun l hl => ?_)
    obtain ⟨m, hm, rfl⟩ := List.mem_map.mp (h.mem_iff.mp hl)
    simp
  · have := h.map Int.toNat
    unfold zi at this
    rw [List.map_map] at this
    simpa [Function.comp_def] using this
/-- the rising list of the numbers of a list -/
def srtN (l : List Nat) : List Nat := l.mergeSort
theorem srtN_perm (l : List Nat) : (srtN l).Perm l := List.mergeSort_perm _ _
theorem srtN_sorted (l : List Nat) : (srtN l).Pairwise (· ≤ ·) := by
  have := List.pairwise_mergeSort (le := fun a b : Nat => decide (a ≤ b)) (fun a b c => by simp; omega) (fun a b => by simp; omega) l
  simpa [srtN] using this
theorem srt_uniq : ∀ {l m : List Nat}, l.Perm m → l.Pairwise (· ≤ ·) → m.Pairwise (· ≤ ·) → l = m := by
  intro l m p hl hm
  exact p.eq_of_pairwise (fun a b _ _ h1 h2 => Nat.le_antisymm h1 h2) hl hm
theorem isort_zi (l : List Nat) : isort (zi l) = zi (srtN l) := by
  obtain ⟨G, e, p⟩ := perm_zi1 (F := l) (L := isort (zi l)) (List.mergeSort_perm _ _)
  have hs : (isort (zi l)).Pairwise (· ≤ ·) := by
    have := List.pairwise_mergeSort (le := fun a b : Int => decide (a ≤ b)) (fun a b c => by simp; omega) (fun a b => by simp; omega) (zi l)
    simpa [isort] using this
  rw [e] at hs ⊢
  have hs' : G.Pairwise (· ≤ ·) := by
    have := List.pairwise_map.mp hs
    exact this.imp fun h => by omega
  rw [srt_uniq (p.trans (srtN_perm l).symm) hs' (srtN_sorted l)]
theorem sorted_setN {l : List Nat} (h : l.length < 64) : sorted3F [setN l] = some (lstN (srtN l)) := by
  have : sorted3F [setN l] = match intKeys (l.map fun (n : Nat) => ((Sum.inl (n : Int) : Key), D.bl true)) with
      | some ns => if ns.length < 64 then some (.lst ((isort ns).map .int)) else none
      | none => none := rfl
  rw [this, intKeys_setN]
  dsimp only
  rw [if_pos (by simpa [zi] using h), isort_zi, ofN_zi]
/-! ### comprehensions, by their items -/
def OkSlot (e : Env) (k : Nat) : Prop := match e[k]? with
  | some none => True
  | some (some (false, _)) => True
  | _ => False
theorem OkSlot.lt {e : Env} {k : Nat} (h : OkSlot e k) : k < e.length := by
  unfold OkSlot at h
  cases q : e[k]? with
  | none => rw [q] at h; exact h.elim
  | some o => exact (List.getElem?_eq_some_iff.mp q).1
theorem OkSlot.rest {e : Env} {k : Nat} (h : OkSlot e k) (v : Option (Bool × D)) : restE e [k] (e.set k v) = e := by
  unfold restE restE
  unfold OkSlot at h
  cases q : e[k]? with
  | none => rw [q] at h; exact h.elim
  | some o =>
    rw [q] at h
    obtain ⟨hl, e1⟩ := List.getElem?_eq_some_iff.mp q
    cases o with
    | none =>
      dsimp only
      rw [List.set_set, ← e1]
      exact List.set_getElem_self hl
    | some o =>
      obtain ⟨b, d⟩ := o
      cases b with
      | true => exact h.elim
      | false =>
        dsimp only
        rw [List.set_set, ← e1]
        exact List.set_getElem_self hl
theorem comp_mp {α : Type} {vs : List Nat} {bd : D → Env → Option Env} {tt : M Bool} {el : M D} {E : Env} (g : α → D) (c : α → Bool) (f : α → D) : ∀ l : List α,
    (∀ x ∈ l, ∃ e1, bd (g x) E = some e1 ∧ tt e1 = .ok (c x) e1 ∧ (c x = true → el e1 = .ok (f x) e1) ∧ wipeE e1 vs = E) → compM vs bd tt el (l.map g) E = .ok ((l.filter c).map f) E
  | [], _ => rfl
  | x :: l, h => by
    obtain ⟨e1, h1, h2, h3, h4⟩ := h x List.mem_cons_self
    have ih := comp_mp (vs := vs) (bd := bd) (tt := tt) (el := el) g c f l fun y hy => h y (List.mem_cons_of_mem _ hy)
    rw [List.map_cons]
    unfold compM
    rw [h1]
    dsimp only
    rw [h2]
    cases hc : c x with
    | true =>
      dsimp only
      rw [h3 hc]
      dsimp only
      rw [h4, ih, List.filter_cons_of_pos hc]
      rfl
    | false =>
      dsimp only
      rw [h4, ih, List.filter_cons_of_neg (by rw [hc]; exact nofun)]
/-- [el for k in xs if tt], that changes nothing -/
theorem lc_mp {α : Type} {k : Nat} {mi : M (List D)} {tt : M Bool} {el : M D} {e : Env} (l : List α) (g : α → D) (c : α → Bool) (f : α → D) (hm : mi e = .ok (l.map g) e) (hk : OkSlot e k) (hz : l.length < 1000000)
    (h : ∀ x ∈ l, tt (e.set k (some (false, g x))) = .ok (c x) (e.set k (some (false, g x))) ∧ (c x = true → el (e.set k (some (false, g x))) = .ok (f x) (e.set k (some (false, g x))))) :
    lcM [k] mi (bdName k) tt el e = .ok (.lst ((l.filter c).map f)) e := by
  have := comp_mp (vs := [k]) (bd := bdName k) (tt := tt) (el := el) (E := e.set k none) g c f l fun x hx => ⟨e.set k (some (false, g x)), by
    unfold bdName
    rw [if_pos (by rw [List.length_set]; exact hk.lt), List.set_set], (h x hx).1, (h x hx).2, by
    unfold wipeE wipeE
    rw [List.set_set]⟩
  unfold lcM
  rw [hm]
  dsimp only
  rw [if_pos (by rw [List.length_map, sizeLine_eq]; omega)]
  have e0 : wipeE e [k] = e.set k none := rfl
  rw [e0, this]
  dsimp only
  rw [hk.rest]
/-- .. without an if -/
theorem lc_mp' {α : Type} {k : Nat} {mi : M (List D)} {el : M D} {e : Env} (l : List α) (g : α → D) (f : α → D) (hm : mi e = .ok (l.map g) e) (hk : OkSlot e k) (hz : l.length < 1000000)
    (h : ∀ x ∈ l, el (e.set k (some (false, g x))) = .ok (f x) (e.set k (some (false, g x)))) :
    lcM [k] mi (bdName k) yesM el e = .ok (.lst (l.map f)) e := by
  have := lc_mp (k := k) (mi := mi) (tt := yesM) (el := el) (e := e) l g (fun _ => true) f hm hk hz fun x hx => ⟨rfl, fun _ => h x hx⟩
  rwa [List.filter_eq_self.mpr (fun _ _ => rfl)] at this
/-- .. over range(n) -/
theorem range1_ok {n : Nat} {ms : M (List D)} {e e0 : Env} (hm : ms e = .ok [.int n] e0) (hn : n < 1000000000) : range1M ms e = .ok ((List.range n).map fun (i : Nat) => D.int (i : Int)) e0 := by
  rw [range1M_ap, hm]
  dsimp only
  rw [if_pos (by omega), Int.toNat_natCast, rangeL_ofN]
  rfl
theorem lc_rg' {k n : Nat} {ms : M (List D)} {el : M D} {e : Env} (f : Nat → D) (hm : ms e = .ok [.int n] e) (hk : OkSlot e k) (hn : n < 1000000)
    (h : ∀ i, i < n → el (e.set k (some (false, .int i))) = .ok (f i) (e.set k (some (false, .int i)))) :
    lcM [k] (range1M ms) (bdName k) yesM el e = .ok (.lst ((List.range n).map f)) e :=
  lc_mp' (List.range n) (fun (i : Nat) => D.int (i : Int)) f (range1_ok hm (by omega)) hk (by simpa using hn) fun x hx => h x (List.mem_range.mp hx)
theorem lc_rgf {k n : Nat} {ms : M (List D)} {tt : M Bool} {el : M D} {e : Env} (c : Nat → Bool) (f : Nat → D) (hm : ms e = .ok [.int n] e) (hk : OkSlot e k) (hn : n < 1000000)
    (h : ∀ i, i < n → tt (e.set k (some (false, .int i))) = .ok (c i) (e.set k (some (false, .int i))) ∧ (c i = true → el (e.set k (some (false, .int i))) = .ok (f i) (e.set k (some (false, .int i))))) :
    lcM [k] (range1M ms) (bdName k) tt el e = .ok (.lst (((List.range n).filter c).map f)) e :=
  lc_mp (List.range n) (fun (i : Nat) => D.int (i : Int)) c f (range1_ok hm (by omega)) hk (by simpa using hn) fun x hx => h x (List.mem_range.mp hx)
theorem lc_on {α : Type} {k : Nat} {mi : M (List D)} {tt : M Bool} {el : M D} {e : Env} {rc : R D} (hC : lcM [k] mi (bdName k) tt el e = rc) (l : List α) (g : α → D) (c : α → Bool) (f : α → D) (hm : mi e = .ok (l.map g) e) (hk : OkSlot e k) (hz : l.length < 1000000)
    (h : ∀ x ∈ l, tt (e.set k (some (false, g x))) = .ok (c x) (e.set k (some (false, g x))) ∧ (c x = true → el (e.set k (some (false, g x))) = .ok (f x) (e.set k (some (false, g x))))) : rc = .ok (.lst ((l.filter c).map f)) e := hC ▸ lc_mp l g c f hm hk hz h
theorem lc_on' {α : Type} {k : Nat} {mi : M (List D)} {el : M D} {e : Env} {rc : R D} (hC : lcM [k] mi (bdName k) yesM el e = rc) (l : List α) (g : α → D) (f : α → D) (hm : mi e = .ok (l.map g) e) (hk : OkSlot e k) (hz : l.length < 1000000)
    (h : ∀ x ∈ l, el (e.set k (some (false, g x))) = .ok (f x) (e.set k (some (false, g x)))) : rc = .ok (.lst (l.map f)) e := hC ▸ lc_mp' l g f hm hk hz h
theorem lc_rgo {k n : Nat} {ms : M (List D)} {el : M D} {e : Env} {rc : R D} (hC : lcM [k] (range1M ms) (bdName k) yesM el e = rc) (f : Nat → D) (hm : ms e = .ok [.int n] e) (hk : OkSlot e k) (hn : n < 1000000)
    (h : ∀ i, i < n → el (e.set k (some (false, .int i))) = .ok (f i) (e.set k (some (false, .int i)))) : rc = .ok (.lst ((List.range n).map f)) e := hC ▸ lc_rg' f hm hk hn h
theorem lc_rgfo {k n : Nat} {ms : M (List D)} {tt : M Bool} {el : M D} {e : Env} {rc : R D} (hC : lcM [k] (range1M ms) (bdName k) tt el e = rc) (c : Nat → Bool) (f : Nat → D) (hm : ms e = .ok [.int n] e) (hk : OkSlot e k) (hn : n < 1000000)
    (h : ∀ i, i < n → tt (e.set k (some (false, .int i))) = .ok (c i) (e.set k (some (false, .int i))) ∧ (c i = true → el (e.set k (some (false, .int i))) = .ok (f i) (e.set k (some (false, .int i))))) :
    rc = .ok (.lst (((List.range n).filter c).map f)) e := hC ▸ lc_rgf c f hm hk hn h
/-- a for over items, by what holds after i of them -/
theorem for_mp {α : Type} {mi : M (List D)} {bd : D → Env → Option Env} {body : MS} {e : Env} {r : RS} (hL : loopM mi bd body e = r) (l : List α) (g : α → D) (P : Nat → Env → Prop) (hm : mi e = .ok (l.map g) e) (h0 : P 0 e)
    (hs : ∀ i (h : i < l.length) e, P i e → NxS (bdB bd body (g l[i]) e) (P (i + 1))) : ∃ e', r = .nx e' ∧ P l.length e' := by
  have := for_on hL (l.map g) P hm h0 fun i h e hp => by
    have h' : i < l.length := by simpa using h
    have := hs i h' e hp
    rwa [List.getElem_map]
  rwa [List.length_map] at this
/-- a for, by the items that were walked -/
theorem for_ls {α : Type} {bd : D → Env → Option Env} {body : MS} (g : α → D) (P : List α → Env → Prop) (L : List α) : ∀ (l done : List α) (e : Env), L = done ++ l → P done e →
    (∀ done x rest e, L = done ++ x :: rest → P done e → NxS (bdB bd body (g x) e) (P (done ++ [x]))) → ∃ e', forM bd body (l.map g) e = .nx e' ∧ P L e'
  | [], done, e, hL, h0, _ => ⟨e, rfl, by rw [hL, List.append_nil]; exact h0⟩
  | x :: l, done, e, hL, h0, hs => by
    obtain ⟨e1, e2, h1, h2, h3⟩ := (hs done x l e hL h0).get
    obtain ⟨e', g1, g2⟩ := for_ls g P L l (done ++ [x]) e2 (by rw [hL, List.append_assoc]; rfl) h3 hs
    refine ⟨e', ?_, g2⟩
    rw [List.map_cons]
    unfold forM
    rw [h1]
    rcases h2 with h2 | h2 <;> (dsimp only; rw [h2]; exact g1)
theorem for_items {α : Type} {mi : M (List D)} {bd : D → Env → Option Env} {body : MS} {e : Env} {r : RS} (hL : loopM mi bd body e = r) (l : List α) (g : α → D) (P : List α → Env → Prop) (hm : mi e = .ok (l.map g) e) (h0 : P [] e)
    (hs : ∀ done x rest e, l = done ++ x :: rest → P done e → NxS (bdB bd body (g x) e) (P (done ++ [x]))) : ∃ e', r = .nx e' ∧ P l e' := by
  obtain ⟨e', h1, h2⟩ := for_ls (bd := bd) (body := body) g P l l [] e rfl h0 hs
  refine ⟨e', ?_, h2⟩
  rw [← hL]
  unfold loopM
  rw [hm]
  exact h1
@[simp] theorem dT1M_ap {mk mv : M D} {env : Env} : dT1M mk mv env = match mk env with
  | .ok (.tup ks) e1 => (match mv e1 with
    | .ok v e2 => (match keysD ks with
      | some k => .ok (.dT [(k, v)]) e2
      | none => .no)
    | .ex e e2 => .ex e e2
    | .no => .no)
  | .ok _ _ => .no
  | .ex e e2 => .ex e e2
  | .no => .no := id rfl
@[simp] theorem slM_ap {m : M D} {ml mh : M (Option Int)} {env : Env} : slM m ml mh env = match m env with
  | .ok d e1 => (match ml e1 with
    | .ok lo e2 => (match mh e2 with
      | .ok hi e3 => (match slF d lo hi with
          | some r => .ok r e3
          | none => .no)
      | .ex x e3 => .ex x e3
      | .no => .no)
    | .ex x e2 => .ex x e2
    | .no => .no)
  | .ex x e1 => .ex x e1
  | .no => .no := id rfl
@[simp] theorem noM_ap {env : Env} : noM env = .ok none env := id rfl
@[simp] theorem partM_ap {m : M D} {env : Env} : partM m env = match m env with
  | .ok (.int i) e => .ok (some i) e
  | .ok _ _ => .no
  | .ex e e2 => .ex e e2
  | .no => .no := id rfl
@[simp] theorem lstM_ap {ms : M (List D)} {env : Env} : lstM ms env = match ms env with
  | .ok ds e2 => (haveI : Decidable (ds.length ≤ sizeLine) := Classical.propDecidable _; if ds.length ≤ sizeLine then R.ok (D.lst ds) e2 else .no)
  | .ex e e2 => .ex e e2
  | .no => .no := by
  unfold lstM opM
  cases ms env with
  | ok ds e2 => dsimp only; by_cases h : ds.length ≤ sizeLine <;> simp only [h, if_true, if_false]
  | _ => rfl
@[simp] theorem tupM_ap {ms : M (List D)} {env : Env} : tupM ms env = match ms env with
  | .ok ds e2 => (haveI : Decidable (ds.length ≤ sizeLine) := Classical.propDecidable _; if ds.length ≤ sizeLine then R.ok (D.tup ds) e2 else .no)
  | .ex e e2 => .ex e e2
  | .no => .no := by
  unfold tupM opM
  cases ms env with
  | ok ds e2 => dsimp only; by_cases h : ds.length ≤ sizeLine <;> simp only [h, if_true, if_false]
  | _ => rfl
theorem le_size {n : Nat} (h : n < 1000000) : (n ≤ sizeLine) = True := eq_true (by rw [sizeLine_eq]; omega)
theorem setT_one (l : List Nat) : D.dT [(keyN l, .bl true)] = setT [l] := rfl
theorem setN_one (x : Nat) : D.dK [(.inl (x : Int), .bl true)] = setN [x] := rfl
/-- while, with a way out by return -/
theorem wh_ret {t : M Bool} {body : MS} (P : Env → Prop) (Q : D → Env → Prop) (μ : Env → Nat) : ∀ (n : Nat) (e : Env), P e → μ e < n →
    (∀ e, P e → t e = .ok false e ∨ (t e = .ok true e ∧ match body e with | .nx e2 => P e2 ∧ μ e2 < μ e | .ct e2 => P e2 ∧ μ e2 < μ e | .rt d e2 => Q d e2 | _ => False)) →
    (∃ e', whM t body n e = .nx e' ∧ P e' ∧ t e' = .ok false e') ∨ ∃ d e', whM t body n e = .rt d e' ∧ Q d e'
  | 0, _, _, h, _ => absurd h (Nat.not_lt_zero _)
  | n + 1, e, hp, hm, hs => by
    rcases hs e hp with h1 | ⟨h1, h2⟩
    · exact .inl ⟨e, by unfold whM; rw [h1], hp, h1⟩
    · cases hb : body e with
      | nx e2 =>
        rw [hb] at h2
        have ih := wh_ret P Q μ n e2 h2.1 (by have := h2.2; omega) hs
        unfold whM
        rw [h1]
        dsimp only
        rw [hb]
        exact ih
      | ct e2 =>
        rw [hb] at h2
        have ih := wh_ret P Q μ n e2 h2.1 (by have := h2.2; omega) hs
        unfold whM
        rw [h1]
        dsimp only
        rw [hb]
        exact ih
      | rt d e2 =>
        rw [hb] at h2
        refine .inr ⟨d, e2, ?_, h2⟩
        unfold whM
        rw [h1]
        dsimp only
        rw [hb]
      | _ => rw [hb] at h2; exact h2.elim
theorem wh_retN {t : M Bool} {body : MS} (P : Nat → Env → Prop) (Q : D → Env → Prop) : ∀ (n m : Nat) (e : Env), P m e → m < n →
    (∀ m e, P m e → t e = .ok false e ∨ (t e = .ok true e ∧ match body e with | .nx e2 => ∃ m', m' < m ∧ P m' e2 | .ct e2 => ∃ m', m' < m ∧ P m' e2 | .rt d e2 => Q d e2 | _ => False)) →
    (∃ e' m', whM t body n e = .nx e' ∧ P m' e' ∧ t e' = .ok false e') ∨ ∃ d e', whM t body n e = .rt d e' ∧ Q d e'
  | 0, _, _, _, h, _ => absurd h (Nat.not_lt_zero _)
  | n + 1, m, e, hp, hm, hs => by
    rcases hs m e hp with h1 | ⟨h1, h2⟩
    · exact .inl ⟨e, m, by unfold whM; rw [h1], hp, h1⟩
    · cases hb : body e with
      | nx e2 =>
        rw [hb] at h2
        obtain ⟨m', hm', hp'⟩ := h2
        have ih := wh_retN P Q n m' e2 hp' (by omega) hs
        unfold whM
        rw [h1]
        dsimp only
        rw [hb]
        exact ih
      | ct e2 =>
        rw [hb] at h2
        obtain ⟨m', hm', hp'⟩ := h2
        have ih := wh_retN P Q n m' e2 hp' (by omega) hs
        unfold whM
        rw [h1]
        dsimp only
        rw [hb]
        exact ih
      | rt d e2 =>
        rw [hb] at h2
        refine .inr ⟨d, e2, ?_, h2⟩
        unfold whM
        rw [h1]
        dsimp only
        rw [hb]
      | _ => rw [hb] at h2; exact h2.elim
/-- .. that only ends -/
theorem wh_on {t : M Bool} {body : MS} {n : Nat} {e : Env} {r : RS} (hW : whM t body n e = r) (P : Nat → Env → Prop) (m : Nat) (h0 : P m e) (hm : m < n)
    (hs : ∀ m e, P m e → t e = .ok false e ∨ (t e = .ok true e ∧ NxS (body e) fun e2 => ∃ m', m' < m ∧ P m' e2)) :
    ∃ e' m', r = .nx e' ∧ P m' e' ∧ t e' = .ok false e' := by
  subst hW
  rcases wh_retN (t := t) (body := body) P (fun _ _ => False) n m e h0 hm fun m e hp => (hs m e hp).imp_right fun ⟨h1, h2⟩ => ⟨h1, by
    cases hb : body e with
    | nx e2 => rw [hb] at h2; exact h2
    | ct e2 => rw [hb] at h2; exact h2
    | _ => rw [hb] at h2; exact h2.elim⟩ with h | ⟨d, e', h1, h2⟩
  · exact h
  · exact h2.elim
/-! ### pop, cuts -/
theorem popF_snoc {ds : List D} {d : D} : popF (ds ++ [d]) [] = some (ds, d) := by
  unfold popF
  simp
theorem addAll_snoc {α β : Type} [DecidableEq α] {step : α → β → α} (one : α) : ∀ (gs : List β) (g : β) (s : List α × List α),
    addAll step one (gs ++ [g]) s = (if step one g ∈ (addAll step one gs s).1 then addAll step one gs s else ((addAll step one gs s).1 ++ [step one g], (addAll step one gs s).2 ++ [step one g]))
  | [], g, s => rfl
  | h :: gs, g, s => by
    rw [List.cons_append, addAll, addAll_snoc one gs g]
    rfl
theorem addAll_len {α β : Type} [DecidableEq α] {step : α → β → α} (one : α) : ∀ (gs : List β) (s : List α × List α), (addAll step one gs s).1.length ≤ s.1.length + gs.length ∧ (addAll step one gs s).2.length ≤ s.2.length + gs.length
  | [], s => ⟨Nat.le_refl _, Nat.le_refl _⟩
  | g :: gs, s => by
    have ih := addAll_len (step := step) one gs (if step one g ∈ s.1 then s else (s.1 ++ [step one g], s.2 ++ [step one g]))
    rw [addAll]
    by_cases h : step one g ∈ s.1
    · rw [if_pos h] at ih ⊢
      rw [List.length_cons]
      omega
    · rw [if_neg h] at ih ⊢
      simp only [List.length_append, List.length_cons, List.length_nil] at ih ⊢
      omega
theorem cut_take {ds : List D} {k : Nat} : slF (.lst ds) none (some (k : Int)) = some (.lst (ds.take k)) := by
  unfold slF cutG
  simp only
  congr 2
  rw [HT.sIx_none, HT.sIx_nat, List.drop_zero, Nat.sub_zero, List.take_eq_take_iff]
  omega
/-! ### comprehensions that draw: the state goes through F -/
theorem OkSlot.rest2 {e e' : Env} {k : Nat} (h : OkSlot e k) (he : e'[k]? = e[k]?) (v : Option (Bool × D)) : restE e [k] (e'.set k v) = e' := by
  have h' : OkSlot e' k := by unfold OkSlot at h ⊢; rw [he]; exact h
  have := h'.rest v
  unfold restE at this ⊢
  rw [← he]
  exact this
theorem comp_dr {α β S : Type} {k : Nat} {el : M D} (F : S → Env) (I : S → Prop) (R : β → Prop) (g : α → D) (o : β → D) (hk : ∀ s, I s → OkSlot (F s) k) : ∀ (l : List α) (s : S), I s →
    (∀ x ∈ l, ∀ s, I s → ∃ y s', el ((F s).set k (some (false, g x))) = .ok (o y) ((F s').set k (some (false, g x))) ∧ R y ∧ I s') →
    ∃ (ys : List β) (s' : S), compM [k] (bdName k) yesM el (l.map g) ((F s).set k none) = .ok (ys.map o) ((F s').set k none) ∧ I s' ∧ ys.length = l.length ∧ ∀ y ∈ ys, R y
  | [], s, hs, _ => ⟨[], s, rfl, hs, rfl, fun _ h => nomatch h⟩
  | x :: l, s, hs, h => by
    obtain ⟨y, s1, h1, h2, h3⟩ := h x List.mem_cons_self s hs
    obtain ⟨ys, s2, g1, g2, g3, g4⟩ := comp_dr F I R g o hk l s1 h3 fun x hx => h x (List.mem_cons_of_mem _ hx)
    refine ⟨y :: ys, s2, ?_, g2, by rw [List.length_cons, List.length_cons, g3], fun z hz => (List.mem_cons.mp hz).elim (fun e => e ▸ h2) (g4 z)⟩
    rw [List.map_cons]
    unfold compM
    have hb : bdName k (g x) ((F s).set k none) = some ((F s).set k (some (false, g x))) := by
      unfold bdName
      rw [if_pos (by rw [List.length_set]; exact (hk s hs).lt), List.set_set]
    rw [hb]
    simp only [yesM_ap]
    rw [h1]
    dsimp only
    rw [show wipeE ((F s1).set k (some (false, g x))) [k] = (F s1).set k none from by unfold wipeE wipeE; rw [List.set_set], g1]
    rfl
theorem lc_dr {α β S : Type} {k : Nat} {mi : M (List D)} {el : M D} {e : Env} {rc : R D} (hC : lcM [k] mi (bdName k) yesM el e = rc) (l : List α) (g : α → D) (F : S → Env) (I : S → Prop) (o : β → D) (R : β → Prop) (s : S) (hm : mi e = .ok (l.map g) (F s)) (hs : I s)
    (hk : ∀ s, I s → OkSlot (F s) k) (hkk : ∀ s s', (F s)[k]? = (F s')[k]?) (hz : l.length < 1000000)
    (h : ∀ x ∈ l, ∀ s, I s → ∃ y s', el ((F s).set k (some (false, g x))) = .ok (o y) ((F s').set k (some (false, g x))) ∧ R y ∧ I s') :
    ∃ (ys : List β) (s' : S), rc = .ok (.lst (ys.map o)) (F s') ∧ I s' ∧ ys.length = l.length ∧ ∀ y ∈ ys, R y := by
  obtain ⟨ys, s', g1, g2, g3⟩ := comp_dr F I R g o hk l s hs h
  refine ⟨ys, s', ?_, g2, g3⟩
  rw [← hC]
  unfold lcM
  rw [hm]
  dsimp only
  rw [if_pos (by rw [List.length_map, sizeLine_eq]; omega)]
  have e0 : wipeE (F s) [k] = (F s).set k none := rfl
  rw [e0, g1]
  dsimp only
  rw [(hk s hs).rest2 (hkk s' s)]
theorem clP_gen {i : Nat} {f : D → List D → RP} {ms : M (List D)} {env e2 : Env} {ds : List D} {a d a' : D} (h0 : (rdM i env).isSome = true) (hm : ms env = .ok ds e2) (ha : e2[i]? = some (some (true, a))) (hf : f a ds = .ret d a') :
    clP i f ms env = .ok d (e2.set i (some (true, a'))) := by
  rw [clP_eq]
  cases h : rdM i env with
  | none => rw [h] at h0; cases h0
  | some x =>
    simp only [hm, ha, hf]
/-- .. whose head changes the state -/
theorem for_mp2 {α : Type} {mi : M (List D)} {bd : D → Env → Option Env} {body : MS} {e e0 : Env} {r : RS} (hL : loopM mi bd body e = r) (l : List α) (g : α → D) (P : Nat → Env → Prop) (hm : mi e = .ok (l.map g) e0) (h0 : P 0 e0)
    (hs : ∀ i (h : i < l.length) e, P i e → NxS (bdB bd body (g l[i]) e) (P (i + 1))) : ∃ e', r = .nx e' ∧ P l.length e' := by
  subst hL
  have := loop_ind (bd := bd) (body := body) (xs := l.map g) P hm h0 fun i h e hp => by
    have h' : i < l.length := by simpa using h
    have := (hs i h' e hp).get
    rwa [List.getElem_map]
  rwa [List.length_map] at this
@[simp] theorem chM_ap {f g : Int → Int → Bool} {ms : M (List D)} {mc : M D} {env : Env} : chM f g ms mc env = match ms env with
  | .ok [.int i, .int j] e => (if f i j then (match mc e with
      | .ok (.int k) e2 => .ok (.bl (g j k)) e2
      | .ok _ _ => .no
      | .ex x e2 => .ex x e2
      | .no => .no)
    else .ok (.bl false) e)
  | .ok _ _ => .no
  | .ex e e2 => .ex e e2
  | .no => .no := id rfl
/-- any comprehension that changes nothing -/
theorem lc_gen {α : Type} {vs : List Nat} {mi : M (List D)} {bd : D → Env → Option Env} {tt : M Bool} {el : M D} {e E : Env} {rc : R D} (hC : lcM vs mi bd tt el e = rc) (l : List α) (g : α → D) (c : α → Bool) (f : α → D) (hm : mi e = .ok (l.map g) e) (hz : l.length < 1000000) (hw : wipeE e vs = E) (hr : restE e vs E = e)
    (h : ∀ x ∈ l, ∃ e1, bd (g x) E = some e1 ∧ tt e1 = .ok (c x) e1 ∧ (c x = true → el e1 = .ok (f x) e1) ∧ wipeE e1 vs = E) : rc = .ok (.lst ((l.filter c).map f)) e := by
  have := comp_mp (vs := vs) (bd := bd) (tt := tt) (el := el) (E := E) g c f l h
  rw [← hC]
  unfold lcM
  rw [hm]
  dsimp only
  rw [if_pos (by rw [List.length_map, sizeLine_eq]; omega), hw, this]
  dsimp only
  rw [hr]
theorem blsOf_map {α : Type} (p : α → Bool) : ∀ l : List α, blsOf (l.map fun x => D.bl (p x)) = some (l.map p)
  | [] => rfl
  | x :: l => by rw [List.map_cons, blsOf, blsOf_map p l]; rfl
theorem allF_map {α : Type} (p : α → Bool) (l : List α) : allF [.lst (l.map fun x => D.bl (p x))] = some (.bl (l.all p)) := by
  unfold allF
  simp only [blsOf_map, List.all_map, Function.id_comp]
theorem anyF_map {α : Type} (p : α → Bool) (l : List α) : anyF [.lst (l.map fun x => D.bl (p x))] = some (.bl (l.any p)) := by
  unfold anyF
  simp only [blsOf_map, List.any_map, Function.id_comp]
/-- x in a tuple of numbers -/
theorem flatsOf_ofN : ∀ l : List Nat, flatsOf (ofN l) = some (l.map fun (n : Nat) => V.int (n : Int))
  | [] => rfl
  | x :: l => by rw [ofN_cons, flatsOf, flatsOf_ofN l]; rfl
theorem inP_tupN (x : Nat) (l : List Nat) : inP (.int x) (tupN l) = some (decide (x ∈ l)) := by
  unfold inP
  simp only [flatOf, flatsOf_ofN]
  congr 1
  unfold inV
  rw [Bool.eq_iff_iff]
  simp only [List.any_map, List.any_eq_true, Function.comp, decide_eq_true_eq]
  have e : ∀ y : Nat, eqV (.int y) (.int x) = decide ((y : Int) = x) := fun y => by show ((y : Int) == x) = _; rw [Bool.eq_iff_iff]; simp
  exact ⟨fun ⟨y, hy, h⟩ => by
    rw [e, decide_eq_true_eq] at h
    exact (show y = x by omega) ▸ hy, fun h => ⟨x, h, by rw [e]; simp⟩⟩
theorem notInF_tupN (x : Nat) (l : List Nat) : notInF [.int x, tupN l] = some (.bl (!decide (x ∈ l))) := by
  rw [notInF_ap, inP_tupN]; rfl
theorem inF_tupN (x : Nat) (l : List Nat) : inF [.int x, tupN l] = some (.bl (decide (x ∈ l))) := by
  rw [inF_ap, inP_tupN]; rfl
@[simp] theorem zipM_ap {ms : M (List D)} {env : Env} : zipM ms env = match ms env with
  | .ok [.lst xs, .lst ys] e => .ok (zipD xs ys) e
  | .ok [.tup xs, .tup ys] e => .ok (zipD xs ys) e
  | .ok _ _ => .no
  | .ex e e2 => .ex e e2
  | .no => .no := id rfl
end MM

set_option Elab.async false
set_option linter.all false
set_option maxRecDepth 100000
set_option maxHeartbeats 4000000
noncomputable section
namespace MM
open PySem PySem.Spec PyProof.Rows L2

/-! ### is, of truths -/
def isBF : List D → Option D
  | [.bl a, .bl b] => some (.bl (decide (a = b)))
  | _ => none
def notBF : List D → Option D
  | [.bl a, .bl b] => some (.bl (!decide (a = b)))
  | _ => none
section
variable {K : PySem.W.Frag} {mg : Str → Option Value} {W : WX} {p q : Bool} {te to ta tb tc : TE} {m ma mb mc : M D} {i : Nat} {tA : TA} {ms : M (List D)} {Z : Hp}
theorem s_isB : OpS K (two rIsB) isBF := fun H ds vs Q d R ef q => by
  unfold isBF at ef
  split at ef
  · obtain ⟨x, y, rfl, rx, ry⟩ := R.two_inv
    cases rx; cases ry; cases ef
    exact ⟨_, _, rfl, rfl, q _ (.bl _)⟩
  · cases ef
theorem s_notB : OpS K (two rNotB) notBF := fun H ds vs Q d R ef q => by
  unfold notBF at ef
  split at ef
  · obtain ⟨x, y, rfl, rx, ry⟩ := R.two_inv
    cases rx; cases ry; cases ef
    exact ⟨_, _, rfl, rfl, q _ (.bl _)⟩
  · cases ef
theorem op_notBl {X : Cx} : OpR X (compareOp .IsNot) rNotB := op_isnot_bl
/-! ### sum, min, max of a list of numbers -/
def sumF : List D → Option D
  | [.lst ds] => match intsOf ds with
    | some ns => some (.int ns.sum)
    | none => none
  | _ => none
theorem s_sum : OpS K (rSum K) sumF := fun H ds vs Q d R ef q => by
  unfold sumF at ef
  split at ef
  · obtain ⟨x, rfl, rx⟩ := R.one_inv
    split at ef
    · rename_i ns en
      cases ef
      cases rx with
      | lst h r => exact ⟨_, ns, rfl, .of (by rw [← intsOf_rep r en]; exact h), q _ (.int _)⟩
    · cases ef
  · cases ef
/-- the least of numbers -/
def leastI : List Int → Option Int
  | [] => none
  | x :: r => match leastI r with
    | some y => some (min x y)
    | none => some x
theorem leastI_of : ∀ {ns : List Int} {m z : Int}, leastI ns = some z → m ∈ ns → (∀ y ∈ ns, m ≤ y) → m = z := by
  intro ns
  induction ns with
  | nil => intro m z h; cases h
  | cons x r ih =>
    intro m z h hm hl
    unfold leastI at h
    cases e : leastI r with
    | none =>
      rw [e] at h
      have hr : r = [] := by
        cases r with
        | nil => rfl
        | cons a b => unfold leastI at e; split at e <;> cases e
      subst hr
      cases h
      simpa using hm
    | some y =>
      rw [e] at h
      cases h
      have mem : ∀ {l : List Int} {z : Int}, leastI l = some z → z ∈ l ∧ ∀ y ∈ l, z ≤ y := by
        intro l
        induction l with
        | nil => intro z h; cases h
        | cons a b ih2 =>
          intro z h
          unfold leastI at h
          cases e2 : leastI b with
          | none =>
            rw [e2] at h
            have hb : b = [] := by
              cases b with
              | nil => rfl
              | cons c d => unfold leastI at e2; split at e2 <;> cases e2
            subst hb
            cases h
            exact ⟨List.mem_cons_self, fun y hy => by simp at hy; omega⟩
          | some w =>
            rw [e2] at h
            cases h
            obtain ⟨k1, k2⟩ := ih2 e2
            refine ⟨?_, fun y hy => ?_⟩
            · rcases Int.le_total a w with c | c
              · rw [Int.min_eq_left c]; exact List.mem_cons_self
              · rw [Int.min_eq_right c]; exact List.mem_cons_of_mem _ k1
            · rcases List.mem_cons.mp hy with z | z
              · omega
              · have := k2 y z; omega
      obtain ⟨k1, k2⟩ := mem e
      have h1 := hl x List.mem_cons_self
      have h2 := hl y (List.mem_cons_of_mem _ k1)
      rcases List.mem_cons.mp hm with z | z
      · subst z
        omega
      · have := k2 m z; omega
def minF : List D → Option D
  | [.lst ds] => match intsOf ds with
    | some ns => match leastI ns with
      | some z => some (.int z)
      | none => none
    | none => none
  | _ => none
theorem s_min : OpS K (rMin K) minF := fun H ds vs Q d R ef q => by
  unfold minF at ef
  split at ef
  · obtain ⟨x, rfl, rx⟩ := R.one_inv
    split at ef
    · rename_i ns en
      split at ef
      · rename_i z ez
        cases ef
        cases rx with
        | lst h r =>
          refine ⟨_, ns, rfl, .of (by rw [← intsOf_rep r en]; exact h), ?_, fun m hm hl => ?_⟩
          · cases ns with
            | nil => cases ez
            | cons a b => exact Nat.zero_lt_succ _
          · rw [leastI_of ez hm hl]
            exact q _ (.int _)
      · cases ef
    · cases ef
  · cases ef
/-! ### methods of lists that are read -/
/-- a method's word, on a list and what is handed -/
def OpMt (K : PySem.W.Frag) (r : V → List V → Hp → VK → Prop) (f : List D → Option D) : Prop :=
  ∀ H d ds x vs (Q : VK) y, Rep K H d x → RepL K H ds vs → f (d :: ds) = some y → (∀ v, Sc y v → Q v H) → r x vs H Q
def bmM (f : List D → Option D) (m : M D) (ms : M (List D)) : M D := fun env => match m env with
  | .ok (.lst ds) e1 => match ms e1 with
    | .ok as e2 => match f (.lst ds :: as) with
      | some d => .ok d e2
      | none => .no
    | .ex e e2 => .ex e e2
    | .no => .no
  | .ok _ _ => .no
  | .ex e e2 => .ex e e2
  | .no => .no
theorem ev_bm {r : V → List V → Hp → VK → Prop} {f : List D → Option D} (hr : OpMt K r f) (h1 : EvE K mg W p to m) (h2 : EvR K mg W q tA ms) : EvE K mg W (p && q) (tBM K "list" r to tA) (bmM f m ms) := fun B env σ H F Q S h => by
  unfold bmM at h
  refine h1 B env σ H F _ S ?_
  split
  · rename_i d e1 em
    rw [em] at h
    intro v H1 F1 Fd S1 N1 P1
    cases d with
    | lst ds =>
      dsimp only at h
      refine ⟨?_, ?_⟩
      · cases S1.repH with
        | cons rx _ =>
          cases rx with
          | lst hh rr => exact .inl ⟨rfl, _, .of hh⟩
      refine h2 (Hid B Fd) e1 σ H1 F1 _ S1.hide ?_
      split
      · rename_i as e2 em2
        rw [em2] at h
        dsimp only at h
        intro vs H2 F2 S2 r2 N2 P2
        have hN : Nxt H1 F1 H2 (F2 ++ []) := by rw [List.append_nil]; exact N2
        have S3 := S1.cons S2.nil hN
        have N3 := N1.cons hN
        have hv : Rep K H2 (.lst ds) v := by
          cases S3.repH with
          | cons r _ => exact r
        cases ef : f (.lst ds :: as) with
        | none => rw [ef] at h; exact h.elim
        | some y =>
          rw [ef] at h
          dsimp only at h
          refine hr H2 _ _ v vs Q y hv r2 ef fun w sc => h w H2 F2 [] (S3.sta.rep (.cons sc.rep .nil)) (by rw [List.append_nil]; exact N3.weak fun a m => List.mem_append_left _ m) fun hp => ?_
          obtain ⟨a1, a2, a3⟩ := P1 (by simp at hp; exact hp.1)
          obtain ⟨b1, b2, b3⟩ := P2 (by simp at hp; exact hp.2)
          exact ⟨b1.trans a1, b2.trans a2, a3.trans b3⟩
      · rename_i e e2 em2
        rw [em2] at h
        exact h.mono (fun H' F' n => N1.trans n fun a m => List.mem_append_left _ m) fun b z => .inl z
      · rename_i em2
        rw [em2] at h
        exact h
    | _ => exact h.elim
  · rename_i e e1 em
    rw [em] at h
    exact h
  · rename_i em
    rw [em] at h
    exact h
def indexF : List D → Option D
  | [.lst ds, y] => match toPyL ds with
    | some ps => match toPy y with
      | some p => haveI : Decidable (SeqAt.shaped (.list ps) = true ∧ SeqAt.shaped p = true) := Classical.propDecidable _; if SeqAt.shaped (.list ps) = true ∧ SeqAt.shaped p = true then (ps.findIdx? fun z => PyData.eqv z p).map fun (j : Nat) => .int (j : Int) else none
      | none => none
    | none => none
  | _ => none
theorem m_index : OpMt K (rIndexD K) indexF := fun H d ds x vs Q y rx R ef q => by
  unfold indexF at ef
  split at ef
  · rename_i ds' y' e
    injection e with e1 e2
    subst e1 e2
    obtain ⟨v, rfl, rv⟩ := R.one_inv
    split at ef
    · rename_i ps e3
      split at ef
      · rename_i pp e4
        split at ef
        · rename_i hs
          cases ej : ps.findIdx? (fun z => PyData.eqv z pp) with
          | none => rw [ej] at ef; cases ef
          | some j =>
            rw [ej] at ef
            cases ef
            obtain ⟨hj, h1, h2⟩ := List.findIdx?_eq_some_iff_getElem.mp ej
            have hl : toPy (.lst ds') = some (.list ps) := by simp only [toPy, e3]
            have hd := rx.dp hl
            cases rx with
            | lst hh rr =>
              refine ⟨_, v, pp, ps, j, ps[j], rfl, rfl, hd, rv.dp e4, hs.1, hs.2, List.getElem?_eq_getElem hj, h1, fun m z' hm hz => ?_, q _ (.int _)⟩
              obtain ⟨hml, ez⟩ := List.getElem?_eq_some_iff.mp hz
              have := h2 m hm
              rw [ez] at this
              simpa using this
        · cases ef
      · cases ef
    · cases ef
  · cases ef
end
section
variable {X : Cx} {K : PySem.W.Frag}
theorem mt_indexD_ (hK : X.K = K) (hu : X.A.units + 65 < cLine) : MtR X "list.index" (rIndexD K) := hK ▸ mt_indexD hu
theorem pe_bm_ {o e : Expr} {es : List Expr} {to : TE} {t : TA} {name : Str} {apos cpos : Pos} {T id : String} {r : V → List V → Hp → VK → Prop} (hK : X.K = K) (pa : PlainAttrs T) (slot : Slot T name id) (hty : typeOf (.builtin id) = pure (.type "method_descriptor")) (hm : MtR X id r) (ho : PE X o to) (ha : PA X (e :: es) t)
    (hbase : attributeBase o name X.env (eval o X.env) = eval o X.env := by rfl)
    (hfew : ((backTo cpos (starEach (e :: es) X.env)).all (fun x => !x.1) && (backToKw cpos (keywordEach [] X.env)).all (fun x => x.1.isSome)
      && decide ((e :: es).length + ([] : List Keyword).length + (if ([] : List Keyword).isEmpty then 0 else 1) < 30)) = true := by rfl)
    (hline : (apos.endLine == cpos.line) = true := by rfl) (hs : starEach (e :: es) X.env = (false, eval e X.env) :: starEach es X.env := by rfl) (hplain : (backTo cpos (starEach es X.env)).any (·.1) = false := by rfl) :
    PE X (.Call (.Attribute o name apos) (e :: es) [] cpos) (tBM K T r to t) := hK ▸ pe_bm pa slot hty hm ho ha hbase hfew hline hs hplain
theorem cr_sum_ (hK : X.K = K) (hc : X.calm = true) : CallR X (.builtin "sum") (rSum K) := hK ▸ cr_sum hc
theorem cr_min_ (hK : X.K = K) (hc : X.calm = true) : CallR X (.builtin "min") (rMin K) := hK ▸ cr_min hc
end
@[simp] theorem bmM_ap {f : List D → Option D} {m : M D} {ms : M (List D)} {env : Env} : bmM f m ms env = match m env with
  | .ok (.lst ds) e1 => (match ms e1 with
    | .ok as e2 => (match f (.lst ds :: as) with
      | some d => .ok d e2
      | none => .no)
    | .ex e e2 => .ex e e2
    | .no => .no)
  | .ok _ _ => .no
  | .ex e e2 => .ex e e2
  | .no => .no := id rfl
end MM

set_option Elab.async false
set_option linter.all false
set_option maxRecDepth 100000
set_option maxHeartbeats 4000000
noncomputable section
namespace MM
open PySem PySem.Spec PyProof.Rows L2

/-! ### defs that are run where nothing is being shown: the guards are empty -/
structure FnG (P : Program) (w : World) (K : PySem.W.Frag) (mg : Str → Option Value) (base : Heap) (k : Nat) (f : Addr) (fd : FuncData) (ps : List Str) (sp : Sp) : Prop where
  len : ∀ {vs H Q E}, sp vs H Q E → vs.length = ps.length
  run : ∀ {A outer s H args us vs Q E}, Room k A → A.guards = some [] → Env0 P w K mg base A outer s H → BindsTo s fd args (List.zip ps us) → Vals vs us → sp vs H Q E →
    codeAny (model P w) A (Code.call (Value.ref f) args) (CR (L2.CX P w) outer P w H s Q E) s
section
variable {P : Program} {w : World} {K : PySem.W.Frag} {mg : Str → Option Value} {base : Heap}
theorem FnG.mono {j k : Nat} {f : Addr} {fd : FuncData} {ps : List Str} {sp : Sp} (F : FnG P w K mg base j f fd ps sp) (h : j ≤ k) : FnG P w K mg base k f fd ps sp where
  len := F.len
  run := fun r g e b v x => F.run (r.mono h) g e b v x
theorem FnG.imp {k : Nat} {f : Addr} {fd : FuncData} {ps : List Str} {sp sp' : Sp} (F : FnG P w K mg base k f fd ps sp) (h : ∀ {vs H Q E}, sp' vs H Q E → sp vs H Q E) : FnG P w K mg base k f fd ps sp' where
  len := fun x => F.len (h x)
  run := fun r g e b v x => F.run r g e b v (h x)
/-- the end of a body is the end of its call -/
theorem end_of_body {CX : CXT} {N : List Str} {qual : Str} {scope : Scope} {f : Addr} {cdv : Value} {A : Around} {outer : List PySem.Env} {s s2 : Shared} {H H2 : Hp} {E : XK} {σ2 : St} {Q : VK} {v : V} {u : Value}
    (J : Inv (cxOf CX P w K mg base N qual scope f cdv A outer s H E) [] σ2 H2 s2) (rv : RelV v u) (q : Q v H2) : CE outer P w H s Q u s2 := by
  refine ⟨v, H2, ?_⟩
  exact ⟨J.os, J.bare, J.base, J.hok, rv, q⟩
theorem fnG_body {x qual : Str} {st : Stmt} {f : Addr} {fd : FuncData} {N ps : List Str} {k : Nat} {sp : Sp} (F : Fun K x qual st f fd) (S : FnScope N ps (defScope st)) (len : ∀ {vs H Q E}, sp vs H Q E → vs.length = ps.length)
    (hb : ∀ (cdv : Value) (A : Around) (outer : List PySem.Env) (s : Shared) (H : Hp) (vs : List V) (Q : VK) (E : XK), Room k (A.deeper (envOfC qual (defScope st) s.heap.objs.size f cdv)) → A.guards = some [] → sp vs H Q E →
      ∃ t, PSs (cxOf (L2.CX P w) P w K mg base N qual (defScope st) f cdv A outer s H E) (defBody st) t ∧ t { nx := fun _ H' => Q .non H', rt := Q } (L2.start N vs) H) : FnG P w K mg base (k + 1) f fd ps sp where
  len := len
  run := by
    intro A outer s H args us vs Q E room hg e0 hbind r hsp
    obtain ⟨oc, od, kV, doc, pm, an, cdv, ct, osl, rfl, lk, hcd⟩ := F.ex
    have old : ∀ b o, base.get? b = some o → s.heap.get? b = some o := fun b o e => (e0.bs b o e).1
    have KX := e0.mod.kin.keeps old
    have lim := e0.mod.nolimit.keeps old
    have lens := len hsp
    refine codeAny_call_function room.depth (KX _ _ lk) rfl S.co S.gen rfl (PySem.W.codeRec_of KX hcd) (hbind _ _ _ _ ?_)
    have kinds : ∀ y ∈ ps.zip us, (defScope st).names.lookup y.1 = some NameKind.local ∨ ((defScope st).names.lookup y.1 = some NameKind.cell ∧ ((cellsFrom (s.heap.objs.size + 1) (defScope st).names []).lookup y.1).isSome = true) := by
      rintro ⟨n, v⟩ hy
      have hn := S.par n (List.of_mem_zip hy).1
      cases hn with
      | inl q => exact Or.inl q
      | inr q => exact Or.inr ⟨q, PySem.W.cellsFrom_some _ _ _ (.inl q)⟩
    refine wpAny_newFunctionEnv_cells S.kind kinds ?_
    intro env he s1 entered
    subst he
    refine ⟨lim.keeps entered.toInCall.keep, codeAny_func ?_⟩
    obtain ⟨t, ht, hq⟩ := hb cdv A outer s H vs Q E (room.deeper _) hg hsp
    have I := inv_start (CX := L2.CX P w) (E := E) S room.hd e0 lens r entered
    refine wpAny_mono (ht.run [] s1 (L2.start N vs) H _ I hq) ?_ (fun _ _ z => z)
    intro fl s2 hs
    match fl, hs with
    | .ret u, ⟨v, σ2, H2, J, rv, q⟩ => exact end_of_body J rv q
    | .next, ⟨σ2, H2, J, q⟩ => exact end_of_body (v := V.non) (u := .none) J rfl q
    | .brk, ⟨_, _, _, q⟩ => exact q.elim
    | .cont, ⟨_, _, _, q⟩ => exact q.elim
/-- what a def of the layer promises, from its mirror -/
theorem fnF_G {x qual : Str} {st : Stmt} {f : Addr} {fd : FuncData} {N ps : List Str} {k : Nat} {ro : Bool} {m : MS} {g : List D → RF} {np nn : Nat} (hp : ps.length = np) (hn : N.length = nn) (hf : callF np nn m = g) (F : Fun K x qual st f fd) (S : FnScope N ps (defScope st))
    (hbody : ∀ (cdv : Value) (A : Around) (outer : List PySem.Env) (s : Shared) (H : Hp) (E : XK), Room k (A.deeper (envOfC qual (defScope st) s.heap.objs.size f cdv)) → A.guards = some [] →
      ∃ t, PSs (cxOf (L2.CX P w) P w K mg base N qual (defScope st) f cdv A outer s H E) (defBody st) t ∧ EvS K mg (fun cls d _ H => E cls d H) [] ro t m) :
    FnG P w K mg base (k + 1) f fd ps (spF K mg ro g) := by
  subst hf hp hn
  exact fnG_body F S (fun h => spF_len h) fun cdv A outer s H vs Q E hr hg h => by
    obtain ⟨t, h1, h2⟩ := hbody cdv A outer s H E hr hg
    exact ⟨t, h1, body_F h2 h⟩
theorem fnP_G {x qual : Str} {st : Stmt} {f : Addr} {fd : FuncData} {N ps : List Str} {k : Nat} {ro : Bool} {m : MS} {g : D → List D → RP} {np nn : Nat} (hp : ps.length = np) (hn : N.length = nn) (hf : callP np nn m = g) (F : Fun K x qual st f fd) (S : FnScope N ps (defScope st))
    (hbody : ∀ (cdv : Value) (A : Around) (outer : List PySem.Env) (s : Shared) (H : Hp) (E : XK), Room k (A.deeper (envOfC qual (defScope st) s.heap.objs.size f cdv)) → A.guards = some [] →
      ∃ t, PSs (cxOf (L2.CX P w) P w K mg base N qual (defScope st) f cdv A outer s H E) (defBody st) t ∧ EvS K mg (fun cls d _ H => E cls d H) [0] ro t m) :
    FnG P w K mg base (k + 1) f fd ps (spP K mg ro g) := by
  subst hf hp hn
  exact fnG_body F S (fun h => spP_len h) fun cdv A outer s H vs Q E hr hg h => by
    obtain ⟨t, h1, h2⟩ := hbody cdv A outer s H E hr hg
    exact ⟨t, h1, body_P h2 h⟩
theorem fnG0 {k : Nat} {f : Addr} {fd : FuncData} {ps : List Str} {ro : Bool} : FnG P w K mg base k f fd ps (spF K mg ro fun _ => .no) where
  len := fun h => by
    obtain ⟨_, _, _, _, z⟩ := h
    exact z.elim
  run := fun _ _ _ _ _ h => by
    obtain ⟨_, _, _, _, z⟩ := h
    exact z.elim
end
section
variable {X : Cx} {k : Nat} {f : Addr} {fd : FuncData} {ps : List Str} {sp : Sp} {E : St → XK} {x : Str} {p pos : Pos} {e : Expr} {es : List Expr} {t : TA}
theorem runG {pins : List (Addr × Obj)} {σ : St} {H : Hp} {s : Shared} {Q : VK} {us : List Value} {vs : List V} (F : FnG X.prog X.w X.K X.mg X.base k f fd ps sp) (room : Room k X.A) (hg : X.A.guards = some []) (hb : Binds X.K fd ps []) (hx : PassesAt (L2.CX X.prog X.w) X σ (E σ))
    (I : Inv X pins σ H s) (r : Vals vs us) (h : sp vs H Q (E σ)) : wpAny (model X.prog X.w) X.A (call (.ref f) us) (EP X pins σ Q) X.xe s := by
  have lens : (us ++ []).length = ps.length := by simpa [← r.length] using F.len h
  have b := hb s us I.kIn lens
  simp only [List.append_nil] at b
  refine wpAny_call (codeAny_mono (F.run room hg I.env0 b r h) ?_)
  intro res s2 hq
  match res, hq with
  | .error u, hq => exact hx pins H s u s2 I hq
  | .ok (.ret u), hq => exact I.after hq
  | .ok .next, hq => exact hq.elim
  | .ok .brk, hq => exact hq.elim
  | .ok .cont, hq => exact hq.elim
theorem pe_callG (F : FnG X.prog X.w X.K X.mg X.base k f fd ps sp) (room : Room k X.A) (hgd : X.A.guards = some []) (hg : Gl X x) (hm : X.mg x = some (.ref f)) (hk : PySem.W.keepIn X.K (.ref f) = true) (hb : Binds X.K fd ps []) (hx : ∀ σ, PassesAt (L2.CX X.prog X.w) X σ (E σ))
    (ha : PA X (e :: es) t) (hdb : (x == ("__debug__" : Str)) = false := by decide) (he : starEach (e :: es) X.env = (false, eval e X.env) :: starEach es X.env := by rfl) (hpl : (backTo pos (starEach es X.env)).any (·.1) = false := by rfl) :
    PE X (.Call (.Name x p) (e :: es) [] pos) (tCallS sp E t) where
  run := by
    intro pins s σ H Q I h
    have args := ha.run pos pins s σ H _ I h
    refine wpAny_Call_Name_kw (ld_glob I hg hm (PySem.W.callWith_K (h₀ := X.base) I.ok.mod.kin hk (thn args ?_) he hpl) hdb)
    rintro us s1 ⟨vs, H1, I1, r, q⟩
    exact ⟨I1.kIn, runG F room hgd hb (hx σ) I1 r q⟩
end
/-! ### the head: the law is called where nothing is being shown -/
section
variable {P : Program} {w : World} {K : PySem.W.Frag} {mg mb : Str → Option Value} {k : Nat} {fa a : Addr} {fd : FuncData} {x : Str} {sp : Sp} {s1 : Shared} {vs : List Value} {ns : List Int}
/-- one list at most is tracked: the script -/
structure OneTr (K : PySem.W.Frag) (s1 : Shared) (a : Addr) (H : Hp) : Prop where
  only : Only H
  at_ : ∀ {b}, H b ≠ none → b = a
  own : H a ≠ none → K.lookup a = none
theorem OneTr.free {H : Hp} (O : OneTr K s1 a H) (ha : s1.heap.get? a = some { cls := .type "list", data := .seq vs.toArray }) {b : Addr} {o : Obj} {es : Array DictEntry} {ep : Nat} (e : s1.heap.get? b = some o) (d : o.data = .dict es ep) : H b = none := by
  refine Classical.byContradiction fun n => ?_
  obtain rfl := O.at_ n
  rw [ha] at e
  injection e with e
  subst e
  cases d
theorem OneTr.nsp {H : Hp} (O : OneTr K s1 a H) (ha : s1.heap.get? a = some { cls := .type "list", data := .seq vs.toArray }) {b : Addr} {m : Str → Option Value} (h : s1.heap.Ns b m) : (hidT s1.heap H).Ns b m := by
  obtain ⟨o, es, ep, e, d, r⟩ := h
  exact ⟨o, es, ep, hidT_get e (O.free ha e d), d, r⟩
theorem OneTr.kin {H : Hp} (O : OneTr K s1 a H) (KX : K.In s1.heap) : K.In (hidT s1.heap H) := by
  intro b o e
  refine hidT_get (KX b o e) (Classical.byContradiction fun n => ?_)
  obtain rfl := O.at_ n
  rw [O.own n] at e
  cases e
theorem head_from {H : Hp} (O : OneTr K s1 a H) (hS : SqL K H a (ns.map V.int)) (hok : HOk P w H s1.heap) (KX : K.In s1.heap) (hns : s1.heap.Ns mainGlobals mg) (hb : s1.heap.Ns builtinsNs mb) (hbb : ∀ y : Str, y ≠ "__name__" → mb y = bootBuiltins y) (hlim : s1.heap.NoLimit) (hg : s1.gens = #[])
    (ha : s1.heap.get? a = some { cls := .type "list", data := .seq vs.toArray }) (room : Room k callerA)
    (F : ∀ base : Heap, K.In base → base.Ns mainGlobals mg → FnG P w K mg base k fa fd [x] sp) (hbind : ∀ (s : Shared) (u : Value), BindsTo s fd ⟨[u], []⟩ [(x, u)])
    (hsp : sp [.ref a] H (fun v _ => v = .bl true) fun _ _ _ => False) :
    codeAny (model P w) callerA (Code.call (Value.ref fa) ⟨[.ref a], []⟩) (fun r s' => r = .ok (.ret (.bool true)) ∧ OldK s1.heap s'.heap ∧ s'.os = s1.os ∧ AllBare s'.gens) s1 := by
  have K2 := O.kin KX
  have ns2 := O.nsp ha hns
  obtain ⟨mc, c1, c2⟩ := hlim
  have M : Mod K mg (hidT s1.heap H) := ⟨K2, ns2, ⟨mb, O.nsp ha hb, hbb⟩, mc, O.nsp ha c1, c2⟩
  have e0 : Env0 P w K mg (hidT s1.heap H) callerA [] s1 H := by
    refine ⟨rfl, M, ?_, ?_, trivial, ?_, hok, .of_eq hg⟩
    · exact fun b o e => of_hidT e
    · exact Nat.le_of_eq (hidT_size _ _)
    · exact fun b z => (List.not_mem_nil z).elim
  have r1 : Vals [V.ref a] [Value.ref a] := .cons rfl .nil
  have go := (F _ K2 ns2).run room rfl e0 (hbind s1 (.ref a)) r1 hsp
  refine codeAny_mono go ?_
  intro res s2 hq
  match res, hq with
  | .error e, hq =>
    obtain ⟨_, _, _, _, _, _, _, _, _, _, _, _, z⟩ := hq
    exact z.elim
  | .ok .next, hq => exact hq.elim
  | .ok .brk, hq => exact hq.elim
  | .ok .cont, hq => exact hq.elim
  | .ok (.ret u), ⟨v, H2, os, bare, un, hok2, rv, q⟩ =>
    subst q
    cases (show u = Value.bool true from rv)
    refine ⟨rfl, OldK.of_keep fun b o e => ?_, os, bare⟩
    rcases O.only b with z | ⟨ob, xs, z⟩
    · exact un.keep b o e z (List.not_mem_nil) (by simp)
    · have f1 := (hok b _ z).1
      have f2 := (hok2 b _ (un.frzs b ob _ z)).1
      rw [f1] at e
      rw [f2, ← e]
theorem law_G (KX : K.In s1.heap) (hns : s1.heap.Ns mainGlobals mg) (hb : s1.heap.Ns builtinsNs mb) (hbb : ∀ y : Str, y ≠ "__name__" → mb y = bootBuiltins y) (hlim : s1.heap.NoLimit) (hg : s1.gens = #[])
    (ha : s1.heap.get? a = some { cls := .type "list", data := .seq vs.toArray }) (hi : IntsAre vs ns) (hl : ns.length ≤ sizeLine) (room : Room k callerA)
    (F : ∀ base : Heap, K.In base → base.Ns mainGlobals mg → FnG P w K mg base k fa fd [x] sp) (hbind : ∀ (s : Shared) (u : Value), BindsTo s fd ⟨[u], []⟩ [(x, u)])
    (hsp : ∀ H : Hp, SqL K H a (ns.map V.int) → sp [.ref a] H (fun v _ => v = .bl true) fun _ _ _ => False) :
    codeAny (model P w) callerA (Code.call (Value.ref fa) ⟨[.ref a], []⟩) (fun r s' => r = .ok (.ret (.bool true)) ∧ OldK s1.heap s'.heap ∧ s'.os = s1.os ∧ AllBare s'.gens) s1 := by
  have rv := vals_ints hi
  have lenV := hi.length
  cases hk : K.lookup a with
  | some o =>
    have e := KX a o hk
    rw [ha] at e
    injection e with e
    subst e
    have S : SqL K (fun _ => none) a (ns.map V.int) := .inr ⟨_, vs.toArray, _, hk, rfl, rfl, rfl, by simpa [lenV] using hl, by simpa using rv⟩
    refine head_from ⟨fun _ => .inl rfl, fun n => (n rfl).elim, fun n => (n rfl).elim⟩ S (fun b u z => nomatch z) KX hns hb hbb hlim hg ha room F hbind (hsp _ S)
  | none =>
    let H : Hp := fun b => if b = a then some (.frz { cls := .type "list", data := .seq vs.toArray } (.lst (ns.map V.int))) else none
    have Ha : H a = some (.frz { cls := .type "list", data := .seq vs.toArray } (.lst (ns.map V.int))) := if_pos rfl
    have Hn : ∀ b, b ≠ a → H b = none := fun b n => if_neg n
    have S : SqL K H a (ns.map V.int) := .inl (.inr ⟨_, Ha⟩)
    refine head_from (H := H) ⟨fun b => ?_, fun {b} n => Classical.byContradiction fun z => n (Hn b z), fun _ => hk⟩ S (fun b u z => ?_) KX hns hb hbb hlim hg ha room F hbind (hsp _ S)
    · by_cases e : b = a
      · subst e; exact .inr ⟨_, _, Ha⟩
      · exact .inl (Hn b e)
    · by_cases e : b = a
      · subst e
        rw [Ha] at z
        injection z with z
        subst z
        exact ⟨ha, by rw [List.length_map]; exact hl, vs, _, rv, ha⟩
      · rw [Hn b e] at z
        cases z
end
theorem walk_G {l : PySem.W.OpenLaw} {n k : Nat} {q : Program} {loose : List Str} {XP : (Str → Option Value) → Heap → Prop} {YP : World → Heap → Prop} {d : DefRec} {K : Params → PySem.W.Frag} {sp : World → Sp} {x : Str}
    (hn : l.most = some n) (hn2 : n ≤ sizeLine) (hdf : d.params.defaults = []) (room : Room k callerA) (hY : ∀ (w : World) (h : Heap), YP w h → (K w.params).In h)
    (F : ∀ (w : World) (mg : Str → Option Value) (fa : Addr) (h : Heap), (K w.params).In h → h.Ns mainGlobals mg → mg d.name = some (.ref fa) →
      ∃ fd : FuncData, (∀ (s : Shared) (u : Value), BindsTo s fd ⟨[u], []⟩ [(x, u)]) ∧ ∀ base : Heap, (K w.params).In base → base.Ns mainGlobals mg → FnG l.prog w (K w.params) mg base k fa fd [x] (sp w))
    (hsp : ∀ (w : World) (H : Hp) (a : Addr) (ns : List Int), ns.length ≤ n → (∀ z ∈ ns, Builtin.Int.intBits z ≤ 1048576) → SqL (K w.params) H a (ns.map V.int) → sp w [.ref a] H (fun v _ => v = .bl true) fun _ _ _ => False) :
    PySem.W.WalkO q loose XP YP l.row.toRowW d [] (fun f vs => PySem.call f vs) := by
  refine Att.attach_callB hn hdf ?_
  intro w s0 s1 mg mb fa o pm cd doc a vs ns G Y ho hd hcd hmg hobj hints hlen hbits hg
  have KX := hY w _ Y
  obtain ⟨fd, hb, hF⟩ := F w mg fa _ KX G.T.g hmg
  exact law_G KX G.T.g G.T.b G.T.builtins G.T.nolimit hg hobj hints (Nat.le_trans hlen hn2) room hF hb fun H hS => hsp w H a ns hlen hbits hS
end MM

set_option Elab.async false
set_option linter.all false
set_option maxRecDepth 100000
set_option maxHeartbeats 4000000
noncomputable section
namespace MM
open PySem PySem.Spec PyProof.Rows L2

/-! ### sorted(d, key=f): a dict of tuples of ints, f a def that only reads -/
def hole (kS : Addr) (H : Hp) : Hp := fun b => if b = kS then none else H b
theorem hole_ex {kS : Addr} {H H' : Hp} (e : Ex H H') : Ex (hole kS H) (hole kS H') := fun b o q => by
  unfold hole at q ⊢
  by_cases z : b = kS
  · rw [if_pos z] at q; cases q
  · rw [if_neg z] at q ⊢; exact e b o q
theorem hole_upd {kS : Addr} {H : Hp} {o : HO} : Ex (hole kS H) (hole kS (upd H kS o)) := fun b u q => by
  unfold hole at q ⊢
  by_cases z : b = kS
  · rw [if_pos z] at q; cases q
  · rw [if_neg z] at q ⊢
    rw [upd_ne z]
    exact q
theorem hole_sub {kS : Addr} {H : Hp} : Ex (hole kS H) H := fun b o q => by
  unfold hole at q
  by_cases z : b = kS
  · rw [if_pos z] at q; cases q
  · rw [if_neg z] at q; exact q
section
variable {X : Cx} {pins : List (Addr × Obj)} {σ : St} {k : Nat} {f : Addr} {fd : FuncData} {ps : List Str} {sp : Sp}
/-- the key of one -/
theorem key_call {H : Hp} {s : Shared} {t : Addr} {Post : V → Hp → Prop} {E' : Value → Shared → Prop} (F : FnG X.prog X.w X.K X.mg X.base k f fd ps sp) (hgd : X.A.guards = some []) (hr : Room (k + 2) X.A) (hb : Binds X.K fd ps []) (hp : ps.length = 1) (I : Inv X pins σ H s)
    (h : sp [.ref t] H Post E0) :
    wpAny (model X.prog X.w) X.A.in1.in1 (call (.ref f) [.ref t]) (fun u s' => ∃ v H2, Inv X pins σ H2 s' ∧ RelV v u ∧ Post v H2) E' s := by
  refine wpAny_call (codeAny_mono (F.run (vs := [V.ref t]) (us := [.ref t]) hr.in1.in1 hgd I.env0.in1.in1 (hb s [.ref t] I.kIn (by simpa using hp.symm)) (.cons rfl .nil) h) fun r s' hq => ?_)
  cases r with
  | error e =>
    obtain ⟨_, _, _, _, _, _, _, _, _, _, _, _, z⟩ := hq
    exact z.elim
  | ok fl =>
    cases fl with
    | ret u => exact I.after hq
    | next => exact False.elim hq
    | brk => exact False.elim hq
    | cont => exact False.elim hq
/-- what stands while the keys are made: the list's object pinned, the keys a list at kS -/
def KeyInv (X : Cx) (pins : List (Addr × Obj)) (σ : St) (H0 : Hp) (a kS : Addr) (e1 : Nat) (ds : List D) (s : Shared) : Prop :=
  ∃ (H : Hp) (kvs : List V), Inv X ((a, seqObj "list" #[] e1) :: pins) σ H s ∧ Ex H0 H ∧ H kS = some (.lst kvs) ∧ RepL X.K (hole kS H) ds kvs
theorem upd_ex_ne {H0 H : Hp} {kS : Addr} {o : HO} (h : Ex H0 H) (hk : H0 kS = none) : Ex H0 (upd H kS o) := fun b u e => by
  rw [upd_ne (fun z => by rw [z, hk] at e; cases e)]
  exact h b u e
theorem key_loop {H0 : Hp} {a kS : Addr} {e1 : Nat} {fS : Bool} {ts : List Addr} {ds : List D} {P : PySem.Fin → Shared → Prop} {E' : Value → Shared → Prop} {s : Shared}
    (F : FnG X.prog X.w X.K X.mg X.base k f fd ps sp) (hgd : X.A.guards = some []) (hr : Room (k + 2) X.A) (hb : Binds X.K fd ps []) (hp : ps.length = 1) (hk0 : H0 kS = none)
    (hl : ds.length = ts.length) (hz : ts.length < 1000000)
    (h : ∀ (i : Nat) (t : Addr) (d : D) (H : Hp), ts[i]? = some t → ds[i]? = some d → Ex H0 H → (∃ xs, H kS = some (.lst xs)) → sp [.ref t] H (fun v H2 => Ex H H2 ∧ Rep X.K (hole kS H2) d v) E0)
    (I : KeyInv X pins σ H0 a kS e1 [] s)
    (done : ∀ s', KeyInv X pins σ H0 a kS e1 ds s' → wpAny (model X.prog X.w) X.A.in1.in1 (do
      let keys ← Builtin.List.listItems (.ref kS)
      PyProof.Rows.ksk_end a fS (ts.map Value.ref).toArray e1 (.ref kS) keys) P E' s') :
    wpAny (model X.prog X.w) X.A.in1.in1 (PyProof.Rows.ksk_rest a (.ref f) fS (ts.map Value.ref).toArray e1 (.ref kS)) P E' s := by
  unfold PyProof.Rows.ksk_rest
  refine wpAny_bind (wpAny_rule ?_)
  rw [List.forIn_toArray]
  refine wpAny_bind (PyProof.Rows.ksk_fold (fun j s' => KeyInv X pins σ H0 a kS e1 (ds.take j) s') (ts.map Value.ref) 0 s (by rw [List.take_zero]; exact I) ?step ?fin)
  case fin =>
    intro s' q
    rw [Nat.zero_add, List.length_map, ← hl, List.take_length] at q
    exact done s' q
  case step =>
    intro j x s' hx ⟨H, kvs, J, e0, hkS, rk⟩
    rw [Nat.zero_add] at *
    rw [List.getElem?_map] at hx
    cases ht : ts[j]? with
    | none => rw [ht] at hx; cases hx
    | some t =>
      rw [ht] at hx
      cases hx
      have hj : j < ts.length := (List.getElem?_eq_some_iff.mp ht).1
      obtain ⟨d, hd⟩ : ∃ d, ds[j]? = some d := ⟨_, List.getElem?_eq_getElem (by omega)⟩
      refine wpAny_bind (wpAny_attempt (wpAny_mono (key_call (E' := fun _ _ => False) F hgd hr hb hp J (h j t d H ht hd e0 ⟨_, hkS⟩)) (fun u s2 hu => ?_) fun _ _ z => z.elim))
      obtain ⟨v, H2, J2, ru, ex2, rd⟩ := hu
      have hk2 : H2 kS = some (.lst kvs) := ex2 _ _ hkS
      have rk2 := rk.mono (hole_ex (kS := kS) ex2)
      obtain ⟨hz2, its, n, vals, raw⟩ := J2.hok kS _ hk2
      have hkl : kvs.length = j := by
        have := rk.length
        rw [List.length_take] at this
        omega
      have hil : its.length = j := by rw [← vals.length, hkl]
      refine wpAny_bind (listUpdate_at raw rfl ?_ (by rw [List.size_toArray, sizeLine_eq]; omega) (by rw [Array.size_push, List.size_toArray, sizeLine_eq]; omega))
      have sb := Heap.SameBut.update s2.heap kS (Obj.mapSeq (·.push u))
      obtain ⟨c2, hc2⟩ : ∃ c2, (s2.heap.update kS (Obj.mapSeq (·.push u))).get? kS = some (seqObj "list" (its.toArray.push u) c2) := ⟨_, get?_update_seq raw (·.push u)⟩
      have J3 := J2.write (x := kS) (e := kS) (o := .lst (kvs ++ [v])) (h' := s2.heap.update kS (Obj.mapSeq (·.push u))) (t' := s2.toks) (by rw [hk2]; trivial) (.inl rfl) (fun b w hb hw => (sb.2 b hb).trans hw) ⟨_, hc2⟩
        ⟨by rw [List.length_append, sizeLine_eq, hkl]; simp; omega, its ++ [u], c2, vals.append (.cons ru .nil), by rw [hc2]; simp [seqObj]⟩
      refine wpAny_pure ⟨rfl, _, kvs ++ [v], J3, fun b o q => ?_, upd_same, ?_⟩
      · rw [upd_ne (fun z => by rw [z, hk0] at q; cases q)]
        exact ex2 _ _ (e0 _ _ q)
      · rw [List.take_add_one, hd]
        exact (rk2.append (.cons rd .nil)).mono hole_upd
theorem heap_hole (h : Heap) (kS : Addr) : ∃ h1 : Heap, h1.get? kS = none ∧ ∀ b, b ≠ kS → h1.get? b = h.get? b := by
  refine ⟨{ h with objs := h.objs.setIfInBounds kS { cls := .none, data := .freed } }, ?_, fun b hb => ?_⟩
  · unfold Heap.get?
    by_cases z : kS < h.objs.size
    · simp [z]
    · have z' : h.objs.size ≤ kS := Nat.le_of_not_lt z
      simp [z']
  · unfold Heap.get?
    simp only
    rw [Array.getElem?_setIfInBounds_ne (Ne.symm hb)]
theorem each_of_reads {h : Heap} : ∀ {vs : List Value} {ds : List PyData} {as : List Addr}, ReadsAll h vs ds as → PySem.W.EachIs (fun v d => ∃ as, Reads h v d as) vs ds := fun r => by
  have := PySem.W.readsAll_each (fun d : PyData => d) (by rw [List.map_id']; exact r)
  simpa using this
theorem vals_addrs : ∀ out : List Addr, Vals (out.map V.ref) (out.map Value.ref)
  | [] => .nil
  | t :: out => .cons rfl (vals_addrs out)
/-- the list sorted by its keys -/
theorem key_end {H0 : Hp} {a kS : Addr} {e1 : Nat} {ts : List Addr} {ds : List D} {kz : List PyData} {P : PySem.Fin → Shared → Prop} {E' : Value → Shared → Prop} {s : Shared}
    (hk0 : H0 kS = none) (ha : X.s_0.heap.objs.size ≤ a) (hk : X.s_0.heap.objs.size ≤ kS) (hak : kS ≠ a) (hpn : ∀ p ∈ X.pn ++ pins, p.1 ≠ a)
    (hl : ds.length = ts.length) (hz : ts.length < 1000000) (hd : toPyL ds = some kz) (hal : PySem.W.AllAlike kz) (hso : PySem.W.Sortable kz) (hu : ∀ d, d ∈ kz → X.A.in1.in1.units + d.depth < cLine)
    (I : KeyInv X pins σ H0 a kS e1 ds s)
    (done : ∀ (H1 : Hp) (out : List Addr) (s' : Shared), Inv X pins σ (upd H1 a (.lst (out.map V.ref))) s' → Ex H0 H1 → H1 a = none → PySem.W.KeyedOut false kz (ts.map Value.ref) (out.map Value.ref) → P (.done (.ret .none)) s') :
    wpAny (model X.prog X.w) X.A.in1.in1 (do
      let keys ← Builtin.List.listItems (.ref kS)
      PyProof.Rows.ksk_end a false (ts.map Value.ref).toArray e1 (.ref kS) keys) P E' s := by
  obtain ⟨H, kvs, J, e0, hkS, rk⟩ := I
  obtain ⟨hz2, its, n, vals, raw⟩ := J.hok kS _ hkS
  have pa := J.pin (a, seqObj "list" #[] e1) (List.mem_append_right _ List.mem_cons_self)
  have Ha : H a = none := pa.2.1
  refine wpAny_bind (listItems_at raw rfl ?_)
  obtain ⟨h1, hh1, hh2⟩ := heap_hole s.heap kS
  have rkH : RepL X.K H ds kvs := rk.mono hole_sub
  obtain ⟨as, rall⟩ := Dp.readsAll J kz kvs its (rkH.dp hd) vals
  have each := each_of_reads rall
  have hlen : its.length = ts.length := by rw [← vals.length, ← rk.length, hl]
  have kp1 : PySem.W.KeepsBut a h1 s.heap := fun b o hb q => by
    by_cases z : b = kS
    · rw [z, hh1] at q; cases q
    · rw [← hh2 b z]; exact q
  refine PySem.W.keyH_end (κ := PySem.W.dataKind s.heap kz) kp1 hh1 raw pa.1 hak (PySem.W.SortsAt.data each hal hso hu) (by rw [List.size_toArray, List.length_map]; exact hlen) (by rw [List.length_map, sizeLine_eq]; omega) fun h' tk c kp hA => ?_
  have ko : PySem.W.KeyedOut false kz (ts.map Value.ref) (PySem.W.sortVals (PySem.W.dataKind s.heap kz) false its.toArray.toList (ts.map Value.ref)) := ⟨s.heap, its.toArray.toList, hal, rfl, each⟩
  -- what comes out are addresses
  obtain ⟨out, ho⟩ : ∃ out : List Addr, PySem.W.sortVals (PySem.W.dataKind s.heap kz) false its.toArray.toList (ts.map Value.ref) = out.map Value.ref := by
    have : ∀ l : List Value, (∀ v ∈ l, ∃ t, v = Value.ref t) → ∃ out : List Addr, l = out.map Value.ref := by
      intro l
      induction l with
      | nil => intro _; exact ⟨[], rfl⟩
      | cons v l ih =>
        intro q
        obtain ⟨t, rfl⟩ := q v List.mem_cons_self
        obtain ⟨out, rfl⟩ := ih fun v m => q v (List.mem_cons_of_mem _ m)
        exact ⟨t :: out, rfl⟩
    refine this _ fun v hv => ?_
    obtain ⟨t, _, rfl⟩ := List.mem_map.mp (ko.mem hv)
    exact ⟨t, rfl⟩
  rw [ho] at ko hA
  have hol : out.length = ts.length := by
    have := ko.length (by rw [List.length_map]; have := each.length; omega)
    simpa using this
  have keep : ∀ b o, b ≠ a → b ≠ kS → s.heap.get? b = some o → h'.get? b = some o := fun b o hb hb2 q => kp b o hb (by rw [hh2 b hb2]; exact q)
  have J0 : Inv X pins σ H s := ⟨J.ok, J.os, J.bare, J.base, J.loc, J.cell, J.free, J.freeC, fun p hp => J.pin p ((List.mem_append.mp hp).elim (List.mem_append_left _) fun z => List.mem_append_right _ (List.mem_cons_of_mem _ z)), J.hok, J.len⟩
  have nta : ∀ b u, H b = some u → b ≠ a := fun b u q z => by rw [z, Ha] at q; cases q
  have fin1 : ∀ b u, b ≠ kS → H b = some u → (upd (hole kS H) a (.lst (out.map V.ref))) b = some u := fun b u hb q => by
    rw [upd_ne (nta b u q)]
    unfold hole
    rw [if_neg hb, q]
  have ntk : ∀ b u, H b = some u → (∀ xs, u ≠ .lst xs) → b ≠ kS := fun b u q z e => by
    rw [e, hkS] at q
    cases q
    exact z _ rfl
  refine done (hole kS H) out { s with heap := h', toks := tk } (J0.step (g' := s.gens) (d' := s.drawn) (t' := tk) (ch := [kS, a]) (fun b hb => ?_) (fun b o _ _ hc q _ => ?_) (fun b o _ _ hc q _ => ⟨o.slots, ?_⟩) (fun b o hc q hn => ?_) (fun b o hc q => ⟨o, ?_⟩)
    (fun b xs q => fin1 b _ (ntk b _ q fun _ z => nomatch z) q) (fun b o u q => fin1 b _ (ntk b _ q fun _ z => nomatch z) q) (fun b ps q => ⟨#[], by rw [fin1 b _ (ntk b _ q fun _ z => nomatch z) q]; simp⟩) (fun m hm => ?_) (fun b u q => ?_) J0.bare) ?_ ?_ ko
  · rcases List.mem_cons.mp hb with z | z
    · rw [z]
      refine ⟨.inr hk, fun e => ?_, fun x c e1 e2 => ?_, fun p hp e => ?_⟩
      · have := J0.free
        rw [← e, hkS] at this
        cases this
      · have := J0.freeC x c e1
        rw [e2, hkS] at this
        cases this
      · have := (J0.pin p hp).2.1
        rw [e, hkS] at this
        cases this
    · rw [List.mem_singleton] at z
      subst z
      refine ⟨.inr ha, pa.2.2.1, fun x c e1 e2 => ?_, hpn⟩
      obtain ⟨v, ob, hob, hdd⟩ := J0.cell x c e1
      rw [e2, pa.1] at hob
      cases hob
      exact pa.2.2.2.2 v hdd
  · simp only [List.mem_cons, List.not_mem_nil, or_false, not_or] at hc
    exact keep b o hc.2 hc.1 q
  · simp only [List.mem_cons, List.not_mem_nil, or_false, not_or] at hc
    exact keep b o hc.2 hc.1 q
  · simp only [List.mem_cons, List.not_mem_nil, or_false, not_or] at hc
    rw [upd_ne hc.2]
    unfold hole
    rw [if_neg hc.1, hn]
  · simp only [List.mem_cons, List.not_mem_nil, or_false, not_or] at hc
    exact keep b o hc.2 hc.1 q
  · obtain ⟨o, es, ep, hoo, r⟩ := hm
    have hLa : X.env.locals ≠ a := fun z => pa.2.2.1 z.symm
    have hLk : X.env.locals ≠ kS := fun z => by
      have := J0.free
      rw [z, hkS] at this
      cases this
    exact ⟨o, es, ep, keep _ o hLa hLk hoo, r⟩
  · by_cases hb : b = a
    · subst hb
      rw [upd_same] at q
      cases q
      exact ⟨by rw [List.length_map, hol, sizeLine_eq]; omega, out.map Value.ref, c, vals_addrs out, hA⟩
    · rw [upd_ne hb] at q
      have hbk : b ≠ kS := fun z => by unfold hole at q; rw [if_pos z] at q; cases q
      have qH : H b = some u := hole_sub b u q
      refine (J0.hok b u qH).stay (fun cc v hc hv => ?_) (fun cc hc => ?_) fun cc xs hc => fin1 cc _ (ntk cc _ hc fun _ z => nomatch z) hc
      · rcases hc with z | z
        · rw [z] at hv ⊢
          exact keep b v hb hbk hv
        · exact keep cc v (nta cc _ z) (ntk cc _ z fun _ z => nomatch z) hv
      · exact fin1 cc _ (ntk cc _ hc fun _ z => nomatch z) hc
  · exact fun b o q => by
      have := e0 b o q
      unfold hole
      rw [if_neg (fun z => by rw [z, hk0] at q; cases q), this]
  · unfold hole
    rw [if_neg (Ne.symm hak), Ha]
def dle (kd : List Int → PyData) (a b : List Int) : Bool := PySem.W.dataLe false kd a b
theorem toPyL_map {α : Type} {kf : α → D} {kd : α → PyData} : ∀ {l : List α}, (∀ x ∈ l, toPy (kf x) = some (kd x)) → toPyL (l.map kf) = some (l.map kd)
  | [], _ => by simp only [List.map_nil, toPyL]
  | x :: l, h => by
    simp only [List.map_cons, toPyL, h x List.mem_cons_self, toPyL_map fun y hy => h y (List.mem_cons_of_mem _ hy)]
theorem each_refs : ∀ {out : List Addr} {bs : List (Addr × List Int)}, PySem.W.EachIs (fun v (b : Addr × List Int) => v = Value.ref b.1) (out.map Value.ref) bs → out = bs.map (·.1)
  | [], [], _ => rfl
  | [], _ :: _, h => by cases h
  | _ :: _, [], h => by cases h
  | t :: out, b :: bs, h => by
    cases h with
    | cons h1 h2 =>
      cases h1
      rw [List.map_cons, each_refs h2]
theorem refs_each : ∀ bs : List (Addr × List Int), PySem.W.EachIs (fun v (b : Addr × List Int) => v = Value.ref b.1) ((bs.map (·.1)).map Value.ref) bs
  | [] => .nil
  | b :: bs => .cons rfl (refs_each bs)
/-- the call -/
theorem sort_key_call {H : Hp} {s : Shared} {d : Addr} {kvs : List (List Key × V)} {ks : List (List Int)} {kf : List Int → D} {kd : List Int → PyData} {Q : VK}
    (F : FnG X.prog X.w X.K X.mg X.base k f fd ps sp) (hgd : X.A.guards = some []) (hr : Room (k + 2) X.A) (hb : Binds X.K fd ps []) (hp : ps.length = 1) (hc : X.calm = true) (I : Inv X pins σ H s)
    (hd : Rd H d (.dT kvs)) (hks : kvs.map (·.1) = ks.map (·.map Sum.inl)) (hz : ks.length < 1000000) (hkd : ∀ ns ∈ ks, toPy (kf ns) = some (kd ns)) (hal : PySem.W.AllAlike (ks.map kd)) (hso : PySem.W.Sortable (ks.map kd)) (hdp : ∀ ns ∈ ks, (kd ns).depth ≤ 60)
    (h : ∀ (kS t : Addr) (ns : List Int) (H' : Hp), ns ∈ ks → H kS = none → Ex H H' → (∃ xs, H' kS = some (.lst xs)) → H' t = some (.tup (ns.map V.int)) → sp [.ref t] H' (fun v H2 => Ex H' H2 ∧ Rep X.K (hole kS H2) (kf ns) v) E0)
    (q : ∀ (H1 : Hp) (p : Addr) (bs : List (Addr × List Int)), Ex H H1 → H1 p = none → bs.map (·.2) = ks.mergeSort (dle kd) → (∀ b ∈ bs, H b.1 = some (.tup (b.2.map V.int))) → Q (.ref p) (upd H1 p (.lst (bs.map fun b => V.ref b.1)))) :
    wpAny (model X.prog X.w) X.A (call (.builtin "sorted") [.ref d] [(Str.ofString "key", .ref f)]) (EP X pins σ Q) X.xe s := by
  obtain ⟨hzl, lo, xs, rel, o, es, ep, h1, h2, h3, h4, _, _⟩ := dt_rd I.hok hd
  have hl : kvs.length = xs.length := Paired.length rel
  have hkl : kvs.length = ks.length := by
    have := congrArg List.length hks
    simpa using this
  -- the keys and their tuples
  have go : ∀ (kvs : List (List Key × V)) (xs : List (List Key × Addr × Value)) (ks : List (List Int)), KT H kvs xs → kvs.map (·.1) = ks.map (·.map Sum.inl) →
      ∃ bs : List (Addr × List Int), bs.map (·.2) = ks ∧ xs.map (fun x => Value.ref x.2.1) = bs.map (fun b => Value.ref b.1) ∧ ∀ b ∈ bs, H b.1 = some (.tup (b.2.map V.int)) := by
    intro kvs xs ks r
    induction r generalizing ks with
    | nil => intro e; cases ks with
      | nil => exact ⟨[], rfl, rfl, fun _ m => nomatch m⟩
      | cons _ _ => cases e
    | @cons p x ps xs' hp t ih =>
      intro e
      cases ks with
      | nil => cases e
      | cons k ks =>
        rw [List.map_cons, List.map_cons] at e
        injection e with e1 e2
        obtain ⟨bs, b1, b2, b3⟩ := ih ks e2
        refine ⟨(x.2.1, k) :: bs, by rw [List.map_cons, b1], by rw [List.map_cons, List.map_cons, b2], fun b m => ?_⟩
        rcases List.mem_cons.mp m with z | m
        · subst z
          have := hp.2.1
          rw [e1, List.map_map] at this
          exact this
        · exact b3 b m
  obtain ⟨bs, b1, b2, b3⟩ := go kvs xs ks rel hks
  have ek : es.toList.map (·.key) = (bs.map (·.1)).map Value.ref := by
    rw [h4, List.map_map, List.map_map]
    exact b2
  have hbl : bs.length = ks.length := by rw [← b1, List.length_map]
  have hes : es.size = bs.length := by
    have := congrArg List.length ek
    simpa using this
  refine PyProof.Rows.call_function_entry_kw PyProof.Rows.kind_sorted PyProof.Rows.plain_sorted PyProof.Rows.entry_sorted (PyProof.Rows.ksk_s1 _ _) ?_
  unfold Builtin.«sorted»
  refine wpAny_bind (m := checkCount "sorted" 1 1 _) (wpAny_pure ?_)
  refine wpAny_bind (PySem.W.kdu_collect (A := X.A.in1) (KdlSrc.rawDict (es := es) (ep := ep) lo) (I.ok.hd hc) ⟨o, h1, h2, h3⟩ (by rw [hes, sizeLine_eq]; omega) fun h' tk acc hk hacc => ?_)
  have hal2 : acc.toList = (bs.map (·.1)).map Value.ref := by
    rw [← ek]
    apply List.ext_getElem?
    intro j
    rw [List.getElem?_map, Array.getElem?_toList, Array.getElem?_toList]
    cases e : acc[j]? with
    | none =>
      have : acc.size ≤ j := by simpa using e
      rw [hacc.1] at this
      simp [this]
    | some v =>
      obtain ⟨hi, e1⟩ := hacc.2 j v e
      rw [e1]
      simp [hi]
  rw [hal2]
  have hzz : ((bs.map (·.1)).map Value.ref).length ≤ sizeLine := by rw [List.length_map, List.length_map, sizeLine_eq]; omega
  refine wpAny_bind (wpAny_newList ?_ hzz)
  have I1 : Inv X pins σ H { s with heap := h', toks := tk } := I.kept hk
  have hoL : (h'.push (seqObj "list" ((bs.map (·.1)).map Value.ref).toArray 0)).get? h'.objs.size = some (seqObj "list" ((bs.map (·.1)).map Value.ref).toArray 0) := Heap.get?_push_size _ rfl
  have nA : H h'.objs.size = none := I1.hok.fresh (Nat.le_refl _)
  refine wpAny_bind (wpAny_holding (PyProof.Rows.wpAny_call_entry_kw PyProof.Rows.slot_list_sort ⟨_, hoL, rfl⟩ PyProof.Rows.entry_list_sort ?body (PyProof.Rows.ksk_l1 _ _)))
  case body =>
    show wpAny _ X.A.in1.in1 (Builtin.«list.sort» ⟨[.ref h'.objs.size], [(Str.ofString "key", .ref f)]⟩) _ _ _
    rw [PyProof.Rows.ksk_t1]
    unfold PyProof.Rows.ksk_tree
    refine wpAny_bind (listItems_at hoL rfl ?_)
    refine wpAny_bind (listUpdate_at hoL rfl ?_ (by rw [List.size_toArray]; exact hzz) (Nat.zero_le _))
    obtain ⟨e1, ho1⟩ : ∃ e1, ((h'.push (seqObj "list" ((bs.map (·.1)).map Value.ref).toArray 0)).update h'.objs.size (Obj.mapSeq fun _ => (#[] : Array Value))).get? h'.objs.size = some (seqObj "list" #[] e1) := ⟨_, get?_update_seq hoL fun _ => #[]⟩
    have sb := Heap.SameBut.update (h'.push (seqObj "list" ((bs.map (·.1)).map Value.ref).toArray 0)) h'.objs.size (Obj.mapSeq fun _ => (#[] : Array Value))
    have sz2 : ((h'.push (seqObj "list" ((bs.map (·.1)).map Value.ref).toArray 0)).update h'.objs.size (Obj.mapSeq fun _ => (#[] : Array Value))).objs.size = h'.objs.size + 1 := by rw [Heap.size_update, size_push']
    generalize ((h'.push (seqObj "list" ((bs.map (·.1)).map Value.ref).toArray 0)).update h'.objs.size (Obj.mapSeq fun _ => (#[] : Array Value))) = h2' at ho1 sb sz2 ⊢
    refine wpAny_bind (seqEpoch_at ho1 rfl ?_)
    refine wpAny_bind (wpAny_newTuple ?_ (by simpa using hzz))
    refine wpAny_bind (wpAny_newList ?_ (Nat.zero_le _))
    refine wpAny_holding ?_
    have kold : ∀ b u, h'.get? b = some u → h2'.get? b = some u := fun b u e => (sb.2 b (Nat.ne_of_lt (Heap.lt_size e))).trans (Heap.get?_push_of_some _ e)
    have sz3 : (h2'.push (seqObj "tuple" ((bs.map (·.1)).map Value.ref).toArray 0)).objs.size = h'.objs.size + 2 := by rw [size_push', sz2]
    have kS1 : ((h2'.push (seqObj "tuple" ((bs.map (·.1)).map Value.ref).toArray 0)).push (seqObj "list" #[] 0)).get? (h2'.push (seqObj "tuple" ((bs.map (·.1)).map Value.ref).toArray 0)).objs.size = some (seqObj "list" #[] 0) := Heap.get?_push_size _ rfl
    have kold2 : ∀ b u, h2'.get? b = some u → ((h2'.push (seqObj "tuple" ((bs.map (·.1)).map Value.ref).toArray 0)).push (seqObj "list" #[] 0)).get? b = some u := fun b u e => Heap.get?_push_of_some _ (Heap.get?_push_of_some _ e)
    show wpAny _ X.A.in1.in1 (PyProof.Rows.ksk_rest h'.objs.size (.ref f) false ((bs.map (·.1)).map Value.ref).toArray e1 (.ref (h2'.push (seqObj "tuple" ((bs.map (·.1)).map Value.ref).toArray 0)).objs.size)) _ _ { s with heap := (h2'.push (seqObj "tuple" ((bs.map (·.1)).map Value.ref).toArray 0)).push (seqObj "list" #[] 0), toks := tk }
    generalize ((h2'.push (seqObj "tuple" ((bs.map (·.1)).map Value.ref).toArray 0)).push (seqObj "list" #[] 0)) = h5 at kS1 kold2 ⊢
    rw [sz3] at kS1 ⊢
    have hkS0 : H (h'.objs.size + 2) = none := I1.hok.fresh (by show h'.objs.size ≤ h'.objs.size + 2; omega)
    have kall : ∀ b u, h'.get? b = some u → h5.get? b = some u := fun b u e => kold2 b u (kold b u e)
    have nak : h'.objs.size + 2 ≠ h'.objs.size := by omega
    have J2 : Inv X pins σ (upd H (h'.objs.size + 2) (.lst [])) { s with heap := h5, toks := tk } :=
      I1.laid (a := h'.objs.size + 2) (h' := h5) (t' := tk) kall (by show h'.objs.size ≤ h'.objs.size + 2; omega) ⟨Nat.zero_le _, [], 0, .nil, kS1⟩
    have pa : h5.get? h'.objs.size = some (seqObj "list" #[] e1) := kold2 _ _ ho1
    have hpn : ∀ p ∈ X.pn ++ pins, p.1 ≠ h'.objs.size := fun p hp => Nat.ne_of_lt (Heap.lt_size (I1.pin p hp).1)
    have J3 : Inv X ((h'.objs.size, seqObj "list" #[] e1) :: pins) σ (upd H (h'.objs.size + 2) (.lst [])) { s with heap := h5, toks := tk } := J2.pins_of fun p hp => by
      rcases List.mem_cons.mp hp with z | z
      · subst z
        refine ⟨pa, by rw [upd_ne (Ne.symm nak)]; exact nA, fun e => ?_, I1.nofs (Nat.le_refl _), fun v e => nomatch e⟩
        have := I1.lt
        rw [← e] at this
        exact absurd this (Nat.lt_irrefl _)
      · exact J2.pin p (List.mem_append_right _ z)
    have hts : (bs.map (·.1)).length < 1000000 := by rw [List.length_map]; omega
    have hds : (ks.map kf).length = (bs.map (·.1)).length := by rw [List.length_map, List.length_map, hbl]
    refine key_loop (ts := bs.map (·.1)) (ds := ks.map kf) (H0 := H) F hgd hr hb hp hkS0 hds hts (fun i t dd H' ht hdd eH hS => ?_) ⟨_, [], J3, upd_ex_ne (Ex.refl H) hkS0, upd_same, .nil⟩ fun s' KI => ?_
    · rw [List.getElem?_map] at ht hdd
      cases hbi : bs[i]? with
      | none => rw [hbi] at ht; cases ht
      | some b =>
        rw [hbi] at ht
        cases ht
        have hki : ks[i]? = some b.2 := by rw [← b1, List.getElem?_map, hbi]; rfl
        rw [hki] at hdd
        cases hdd
        exact h _ _ _ H' (List.mem_of_getElem? hki) hkS0 eH hS (eH _ _ (b3 b (List.mem_of_getElem? hbi)))
    · refine key_end (H0 := H) (kz := ks.map kd) hkS0 I1.sz (Nat.le_trans I1.sz (by show h'.objs.size ≤ h'.objs.size + 2; omega)) nak hpn hds hts (toPyL_map hkd) hal hso (fun p hp => ?_) KI fun H1 out s2 J e1 n1 ko => ⟨_, rfl, wpAny_pure ⟨_, rfl, ?_⟩⟩
      · obtain ⟨ns, hns, rfl⟩ := List.mem_map.mp hp
        have := hdp ns hns
        have := hr.in1.in1.un
        omega
      · have ko' : PySem.W.KeyedOut false (bs.map fun b => kd b.2) ((bs.map (·.1)).map Value.ref) (out.map Value.ref) := by
          rw [← b1, List.map_map] at ko
          exact ko
        have eo := each_refs (PySem.W.keyedOut_each (fun b : Addr × List Int => kd b.2) ko' (refs_each bs))
        refine ⟨.ref h'.objs.size, _, J, rfl, ?_⟩
        rw [eo, List.map_map]
        refine q H1 _ (bs.mergeSort (PySem.W.dataLe false fun b => kd b.2)) e1 n1 ?_ fun b hb => b3 b ((List.mergeSort_perm _ _).mem_iff.mp hb)
        rw [← b1]
        exact PySem.W.sort_maps (f := fun b : Addr × List Int => b.2) fun a _ b _ => rfl
end
end MM

set_option Elab.async false
set_option linter.all false
set_option maxRecDepth 100000
set_option maxHeartbeats 4000000
noncomputable section
namespace MM
open PySem PySem.Spec PyProof.Rows L2

/-! ### sorted(d, key=f), written -/
def rSortKey (K : PySem.W.Frag) (sp : Sp) (f : Addr) : List V → List V → Hp → VK → Prop := fun vs zs H Q => ∃ (d : Addr) (kvs : List (List Key × V)) (ks : List (List Int)) (kf : List Int → D) (kd : List Int → PyData),
  vs = [.ref d] ∧ zs = [.ref f] ∧ Rd H d (.dT kvs) ∧ kvs.map (·.1) = ks.map (·.map Sum.inl) ∧ ks.length < 1000000 ∧ (∀ ns ∈ ks, toPy (kf ns) = some (kd ns)) ∧ PySem.W.AllAlike (ks.map kd) ∧ PySem.W.Sortable (ks.map kd) ∧ (∀ ns ∈ ks, (kd ns).depth ≤ 60) ∧
  (∀ (kS t : Addr) (ns : List Int) (H' : Hp), ns ∈ ks → H kS = none → Ex H H' → (∃ xs, H' kS = some (.lst xs)) → H' t = some (.tup (ns.map V.int)) → sp [.ref t] H' (fun v H2 => Ex H' H2 ∧ Rep K (hole kS H2) (kf ns) v) E0) ∧
  ∀ (H1 : Hp) (p : Addr) (bs : List (Addr × List Int)), Ex H H1 → H1 p = none → bs.map (·.2) = ks.mergeSort (dle kd) → (∀ b ∈ bs, H b.1 = some (.tup (b.2.map V.int))) → Q (.ref p) (upd H1 p (.lst (bs.map fun b => V.ref b.1)))
theorem cr_sortKey {X : Cx} {k : Nat} {f : Addr} {fd : FuncData} {ps : List Str} {sp : Sp} (F : FnG X.prog X.w X.K X.mg X.base k f fd ps sp) (hgd : X.A.guards = some []) (hr : Room (k + 2) X.A) (hb : Binds X.K fd ps []) (hp : ps.length = 1) (hc : X.calm = true) :
    CallRK X (.builtin "sorted") [Str.ofString "key"] (rSortKey X.K sp f) := by
  intro pins s σ H vs zs us ws Q I r rz h
  obtain ⟨d, kvs, ks, kf, kd, rfl, rfl, h1, h2, h3, h4, h5, h6, h7, h8, h9⟩ := h
  obtain rfl := Vals.ref1 r
  obtain rfl := Vals.ref1 rz
  exact sort_key_call F hgd hr hb hp hc I h1 h2 h3 h4 h5 h6 h7 h8 h9
theorem pe_sortKey {X : Cx} {K : PySem.W.Frag} {k : Nat} {f : Addr} {fd : FuncData} {ps : List Str} {sp : Sp} {e : Expr} {t : TA} {g : Str} {p p2 kp pos : Pos} (hK : X.K = K) (F : FnG X.prog X.w K X.mg X.base k f fd ps sp) (hgd : X.A.guards = some []) (hr : Room (k + 2) X.A) (hb : Binds K fd ps []) (hp : ps.length = 1)
    (hg : Gl X "sorted") (hm : X.mg "sorted" = none) (hgf : Gl X g) (hmf : X.mg g = some (.ref f)) (ha : PA X [e] t) (hc : X.calm = true := by rfl) (hd : (g == ("__debug__" : Str)) = false := by decide)
    (he : backTo pos (starEach [e] X.env) = (false, eval e X.env) :: backTo pos (starEach [] X.env) := by rfl) (hpl : (backTo pos (starEach [e] X.env)).any (·.1) = false := by rfl)
    (hall : (backToKw pos (keywordEach [⟨some (Str.ofString "key"), .Name g p2, kp⟩] X.env)).all (·.1.isSome) = true := by rfl) (hnone : (backToKw pos (keywordEach [⟨some (Str.ofString "key"), .Name g p2, kp⟩] X.env)).any (·.1.isNone) = false := by rfl) (hks : (backToKw pos (keywordEach [⟨some (Str.ofString "key"), .Name g p2, kp⟩] X.env)).filterMap (·.1) = [Str.ofString "key"] := by rfl) :
    PE X (.Call (.Name "sorted" p) [e] [⟨some (Str.ofString "key"), .Name g p2, kp⟩] pos) (tCKw (rSortKey K sp f) t (tCons (tC (.ref f)) tNil)) := by
  subst hK
  exact pe_callBK (cr_sortKey F hgd hr hb hp hc) hg hm boot_sorted ha (pk_cons (pe_glob hgf hmf rfl hd) pk_nil) (by decide) (by decide) he hpl hall hnone hks
def kfOf (fm : List D → RF) (ns : List Int) : D := match fm [dtup ns] with
  | .ret d => d
  | _ => .non
def kdOf (fm : List D → RF) (ns : List Int) : PyData := (toPy (kfOf fm ns)).getD .none
structure SKok (fm : List D → RF) (ks : List (List Int)) : Prop where
  len : ks.length < 1000000
  ret : ∀ ns ∈ ks, fm [dtup ns] = .ret (kfOf fm ns)
  py : ∀ ns ∈ ks, toPy (kfOf fm ns) = some (kdOf fm ns)
  alike : PySem.W.AllAlike (ks.map (kdOf fm))
  srt : PySem.W.Sortable (ks.map (kdOf fm))
  dep : ∀ ns ∈ ks, (kdOf fm ns).depth ≤ 60
open Classical in
def sortKM (fm : List D → RF) (ms : M (List D)) : M D := fun env => match ms env with
  | .ok ds e => match ds with
    | [.dT kvs] => match keysT kvs with
      | some ks => if SKok fm ks then .ok (.lst ((ks.mergeSort (dle (kdOf fm))).map dtup)) e else .no
      | none => .no
    | _ => .no
  | .ex e e2 => .ex e e2
  | .no => .no
section
variable {K : PySem.W.Frag} {mg : Str → Option Value} {W : WX} {p : Bool} {tA : TA} {ms : M (List D)} {ro : Bool} {fm : List D → RF} {f : Addr}
theorem imtL_dtups : ∀ l : List (List Int), imtL (l.map dtup) = true
  | [] => by simp [imtL]
  | x :: l => by
    have hi : ∀ ns : List Int, imtL (ns.map D.int) = true := fun ns => by
      induction ns with
      | nil => simp [imtL]
      | cons a b ih => rw [List.map_cons, imtL, ih]; rfl
    rw [List.map_cons, imtL, imtL_dtups l, dtup, imt, hi]
    rfl
theorem en_sortKey (ha : EvR K mg W p tA ms) : EvN K mg W p (tCKw (rSortKey K (spF K mg ro fm) f) tA (tCons (tC (.ref f)) tNil)) (sortKM fm ms) := fun B env σ H F Q S h => by
  refine ha B env σ H F _ S ?_
  unfold sortKM at h
  cases em : ms env with
  | ex e e2 => rw [em] at h; exact h
  | no => rw [em] at h; exact h
  | ok ds e2 =>
    rw [em] at h
    dsimp only at h
    intro vs H2 F2 S2 r2 N2 P2
    split at h
    · rename_i d e eq
      split at eq
      · rename_i kvs
        split at eq
        · rename_i ks ek
          split at eq
          · rename_i ok
            cases eq
            obtain ⟨x, rfl, rx⟩ := r2.one_inv
            cases rx with
            | dT hh rr =>
              obtain ⟨k1, k2⟩ := keysT_map rr ek
              show rSortKey K (spF K mg ro fm) f _ [V.ref f] H2 Q
              refine ⟨_, _, ks, kfOf fm, kdOf fm, rfl, rfl, .inl hh, k1, ok.len, ok.py, ok.alike, ok.srt, ok.dep, fun kS t ns H' hns hk0 eH hS ht => ?_, fun H1 q bs e1 n1 hb hbt => ?_⟩
              · obtain ⟨xs, hS⟩ := hS
                have htk : t ≠ kS := fun z => by rw [z, hS] at ht; cases ht
                refine ⟨fun b => b = kS, [dtup ns], fun b hb => ?_, .cons (.tup (vs := ns.map V.int) ?_ (repL_ints ns)) .nil, ?_⟩
                · rw [hb, hS]
                  exact ⟨nofun, nofun, nofun⟩
                · exact (fz_in (B := fun b => b = kS) (H := H') (F := []) (by simp) htk).trans ht
                · rw [ok.ret ns hns]
                  intro v H3 Fd S3 _ N3
                  refine ⟨fun b o z => N3.fr b o z (by simp), ?_⟩
                  have := S3.repZ
                  cases this with
                  | cons r _ =>
                    refine r.mono fun b o z => ?_
                    obtain ⟨z1, z2, z3⟩ := fz_some z
                    unfold hole
                    rw [if_neg z3, z1]
              · have S3 : Sta K B e2 σ H1 F2 := S2.ext e1
                have hrep : ∀ l : List (Addr × List Int), (∀ b ∈ l, H2 b.1 = some (.tup (b.2.map V.int))) → RepL K H1 ((l.map (·.2)).map dtup) (l.map fun b => V.ref b.1) := by
                  intro l
                  induction l with
                  | nil => intro _; exact .nil
                  | cons b l ih =>
                    intro z
                    exact .cons (.tup (e1 _ _ (z b List.mem_cons_self)) (repL_ints _)) (ih fun c m => z c (List.mem_cons_of_mem _ m))
                have ru := hrep bs hbt
                rw [hb] at ru
                refine h _ _ F2 [q] ((S3.rep (ru.fz S3.liv (fun b z => (S3.bad b z).1) (imtL_dtups _))).mkL n1) (List.cons_ne_nil _ _) (Nxt.mkL (by rw [List.append_nil]; exact N2.grow e1) n1) fun z => ?_
                obtain ⟨a1, a2, a3⟩ := P2 z
                exact ⟨a1, a2, (a3.trans e1).trans (ex_new n1)⟩
          · cases eq
        · cases eq
      · cases eq
    · rename_i e eq
      split at eq
      · split at eq
        · split at eq <;> cases eq
        · cases eq
      · cases eq
    · exact h.elim
end
end MM

set_option Elab.async false
set_option linter.all false
set_option maxRecDepth 100000
set_option maxHeartbeats 4000000
noncomputable section
namespace MM
open PySem PySem.Spec PyProof.Rows L2

/-! ### list(d), d a dict of tuples of ints -/
def rListT : List V → Hp → VK → Prop := fun xs H Q => ∃ d kvs, xs = [V.ref d] ∧ Rd H d (.dT kvs) ∧ ∀ p bs, H p = none → IsKeys H kvs bs → Q (.ref p) (upd H p (.lst (bs.map V.ref)))
def listTF : List D → Option D
  | [.dT kvs] => match keysT kvs with
    | some ks => some (.lst (ks.map dtup))
    | none => none
  | _ => none
theorem keys_rep {K : PySem.W.Frag} {H : Hp} : ∀ {kws : List (List Key × V)} {bs : List Addr} {ks : List (List Int)}, IsKeys H kws bs → kws.map (·.1) = ks.map (·.map Sum.inl) → RepL K H (ks.map dtup) (bs.map V.ref) := by
  intro kws bs ks r
  unfold IsKeys at r
  induction r generalizing ks with
  | nil => intro e; cases ks with
    | nil => exact .nil
    | cons _ _ => cases e
  | @cons p b ps bs' hp t ih =>
    intro e
    cases ks with
    | nil => cases e
    | cons k ks =>
      rw [List.map_cons, List.map_cons] at e
      injection e with e1 e2
      refine .cons (.tup (vs := k.map V.int) ?_ (repL_ints k)) (ih e2)
      rw [e1, List.map_map] at hp
      exact hp
theorem i_listT {K : PySem.W.Frag} : OpI K rListT listTF := fun H ds vs Q d R ef q ql => by
  unfold listTF at ef
  split at ef
  · obtain ⟨x, rfl, rx⟩ := R.one_inv
    split at ef
    · rename_i ks ek
      cases ef
      cases rx with
      | dT hh rr =>
        obtain ⟨k1, k2⟩ := keysT_map rr ek
        exact ⟨_, _, rfl, .inl hh, fun p bs hp hk => ql _ p _ rfl (imtL_dtups _) hp (keys_rep hk k1)⟩
    · cases ef
  · cases ef
end MM

set_option Elab.async false
set_option linter.all false
set_option maxRecDepth 100000
set_option maxHeartbeats 4000000
noncomputable section
namespace MM
open PySem PySem.Spec PyProof.Rows L2

/-! ### a slot hidden while an expression is evaluated -/
def hideM (j : Nat) (m : M D) : M D := fun env => match env[j]? with
  | some (some (true, d)) => match m (env.set j none) with
    | .ok v e => match e[j]? with
      | some none => .ok v (e.set j (some (true, d)))
      | _ => .no
    | .ex x e => match e[j]? with
      | some none => .ex x (e.set j (some (true, d)))
      | _ => .no
    | .no => .no
  | _ => m env
section
variable {K : PySem.W.Frag} {mg : Str → Option Value} {W : WX} {p : Bool} {t : TE} {m : M D} {i j : Nat} {B : Addr → Prop} {env : Env} {σ : St} {H : Hp} {F : List Addr}
/-- hidden, and taken back -/
theorem Sta.hid (S : Sta K B env σ H F) {d : D} (ej : env[j]? = some (some (true, d))) : ∃ F0 Fj, Sta K (Hid B Fj) (env.set j none) σ H F0 ∧ (∀ a ∈ F0, a ∈ F) ∧ (∀ a ∈ Fj, a ∈ F) ∧
    ∀ e' H' F' ds vs Fd, StaL K (Hid B Fj) e' σ H' F' ds vs Fd → Nxt H F0 H' (F' ++ Fd) → e'[j]? = some none → ∃ F2, StaL K B (e'.set j (some (true, d))) σ H' F2 ds vs Fd ∧ Nxt H F H' (F2 ++ Fd) := by
  obtain ⟨hl, _⟩ := List.getElem?_eq_some_iff.mp ej
  obtain ⟨F1, Fj, F2, eF, sl, g⟩ := S.rel.cut hl
  obtain ⟨v, hv, hx, ho⟩ := sl _ ej
  have nd := S.nd
  rw [eF] at nd
  have hmem : ∀ b, b ∈ F ↔ (b ∈ F1 ∨ b ∈ F2) ∨ b ∈ Fj := fun b => by
    rw [eF]; simp only [List.mem_append]; grind
  have hm0 : ∀ b, b ∈ F1 ++ F2 ↔ b ∈ F1 ∨ b ∈ F2 := fun b => List.mem_append
  have dj : ∀ b, b ∈ Fj → b ∉ F1 ++ F2 := fun b h1 h2 => by
    simp only [List.nodup_append, List.mem_append] at nd h2
    grind
  have ez : Fz B H F = Fz (Hid B Fj) H (F1 ++ F2) := fz_congr fun b => by
    rw [hmem, hm0]
    show _ ↔ _ ∨ (B b ∨ b ∈ Fj)
    grind
  obtain ⟨_, _, g3⟩ := g H (Fz B H F) (Ex.refl _) fun _ _ _ h => h
  have r0 := g3 (some v)
  rw [set_same hv, ez] at r0
  refine ⟨F1 ++ F2, Fj, ⟨r0, ?_, fun a h => S.liv a ((hmem a).mpr (.inl ((hm0 a).mp h))), fun b q => ?_⟩, fun a h => (hmem a).mpr (.inl ((hm0 a).mp h)), fun a h => (hmem a).mpr (.inr h), ?_⟩
  · simp only [List.nodup_append, List.mem_append] at nd ⊢
    grind
  · rcases q with q | q
    · exact ⟨(S.bad b q).1, fun h => (S.bad b q).2 ((hmem b).mpr (.inl ((hm0 b).mp h)))⟩
    · exact ⟨S.liv b ((hmem b).mpr (.inr q)), dj b q⟩
  intro e' H' F' ds vs Fd S' N ej'
  obtain ⟨hl', _⟩ := List.getElem?_eq_some_iff.mp ej'
  obtain ⟨A, Ai, C, eF', _, g'⟩ := S'.rel.cut hl'
  have sub' : ∀ b, b ∈ A ++ C → b ∈ F' := fun b h => by
    rw [eF']; simp only [List.mem_append] at h ⊢; grind
  have fresh : ∀ b o, H b = some o → b ∉ F1 ++ F2 → b ∉ F' ++ Fd := fun b o e n z => (N.sub b z).elim n fun q => by rw [q] at e; cases e
  have hmem2 : ∀ b, b ∈ A ++ (Fj ++ C) ↔ b ∈ A ++ C ∨ b ∈ Fj := fun b => by simp only [List.mem_append]; grind
  have e1 : Ex (Fz (Hid B Fj) H' (F' ++ Fd)) (Fz B H' ((A ++ (Fj ++ C)) ++ Fd)) := fz_mk fun b o e m n => by
    refine ⟨e, fun z => ?_, fun z => n (.inl z)⟩
    rcases List.mem_append.mp z with z | z
    · rcases (hmem2 b).mp z with z | z
      · exact m (List.mem_append_left _ (sub' b z))
      · exact n (.inr z)
    · exact m (List.mem_append_right _ z)
  have e2 : Ex (Fz B H F) (Fz B H' ((A ++ (Fj ++ C)) ++ Fd)) := fz_mk fun b o e m n => by
    have nm : b ∉ F1 ++ F2 := fun z => m ((hmem b).mpr (.inl ((hm0 b).mp z)))
    refine ⟨N.fr b o e nm, fun z => ?_, n⟩
    rcases List.mem_append.mp z with z | z
    · rcases (hmem2 b).mp z with z | z
      · exact fresh b o e nm (List.mem_append_left _ (sub' b z))
      · exact m ((hmem b).mpr (.inr z))
    · exact fresh b o e nm (List.mem_append_right _ z)
  have oj : Own K H' (Fz B H' ((A ++ (Fj ++ C)) ++ Fd)) d v Fj := ho.step e2 fun a h o e => N.fr a o e (dj a h)
  obtain ⟨g1, _, _⟩ := g' H' _ e1 fun _ _ _ h => h
  have r1 := g1 d v Fj hx oj
  rw [set_same hv] at r1
  have nd' := S'.nd
  have bj : ∀ b, b ∈ Fj → b ∉ F' ++ Fd := fun b h => (S'.bad b (.inr h)).2
  refine ⟨A ++ (Fj ++ C), ⟨r1, S'.own.step e1 fun _ _ _ h => h, ?_, fun a h => ?_, fun b q => ⟨(S'.bad b (.inl q)).1, fun z => ?_⟩⟩, ⟨fun b o e m => N.fr b o e fun z => m ((hmem b).mpr (.inl ((hm0 b).mp z))), fun a h => ?_⟩⟩
  · rw [eF'] at nd' bj
    have ndj : Fj.Nodup := by
      simp only [List.nodup_append] at nd
      exact nd.2.1.1
    simp only [List.nodup_append, List.mem_append] at nd' bj ⊢
    grind
  · rcases List.mem_append.mp h with h | h
    · rcases (hmem2 a).mp h with h | h
      · exact S'.liv a (List.mem_append_left _ (sub' a h))
      · exact (S'.bad a (.inr h)).1
    · exact S'.liv a (List.mem_append_right _ h)
  · rcases List.mem_append.mp z with z | z
    · rcases (hmem2 b).mp z with z | z
      · exact (S'.bad b (.inl q)).2 (List.mem_append_left _ (sub' b z))
      · exact (S.bad b q).2 ((hmem b).mpr (.inr z))
    · exact (S'.bad b (.inl q)).2 (List.mem_append_right _ z)
  · have big : ∀ b, b ∈ F' ++ Fd → b ∈ F ∨ H b = none := fun b z => (N.sub b z).imp (fun z => (hmem b).mpr (.inl ((hm0 b).mp z))) id
    rcases List.mem_append.mp h with h | h
    · rcases (hmem2 a).mp h with h | h
      · exact big a (List.mem_append_left _ (sub' a h))
      · exact .inl ((hmem a).mpr (.inr h))
    · exact big a (List.mem_append_right _ h)
theorem EvN.imp (h0 : EvN K mg W p t m) : EvN K mg W false t m := fun B env σ H F Q S h => by
  refine h0 B env σ H F Q S ?_
  cases em : m env with
  | ok d e => rw [em] at h; exact fun v H' F' Fd s x n _ => h v H' F' Fd s x n nofun
  | ex e e2 => rw [em] at h; exact h
  | no => rw [em] at h; exact h
theorem en_hide (h0 : EvN K mg W p t m) : EvN K mg W false t (hideM j m) := fun B env σ H F Q S h => by
  unfold hideM at h
  cases ej : env[j]? with
  | none => rw [ej] at h; exact h0.imp B env σ H F Q S h
  | some sl =>
    match sl, ej with
    | none, ej => rw [ej] at h; exact h0.imp B env σ H F Q S h
    | some (false, _), ej => rw [ej] at h; exact h0.imp B env σ H F Q S h
    | some (true, d), ej =>
      rw [ej] at h
      dsimp only at h
      obtain ⟨F0, Fj, S0, s0, sj, back⟩ := S.hid ej
      refine h0 _ _ σ H F0 _ S0 ?_
      cases em : m (env.set j none) with
      | no => rw [em] at h; exact h.elim
      | ok v e =>
        rw [em] at h
        dsimp only at h
        intro v' H' F' Fd S' hx N _
        cases e2 : e[j]? with
        | none => rw [e2] at h; exact h.elim
        | some s2 =>
          cases s2 with
          | some _ => rw [e2] at h; exact h.elim
          | none =>
            rw [e2] at h
            obtain ⟨F2, S2, N2⟩ := back e H' F' _ _ Fd S' N e2
            exact h v' H' F2 Fd S2 hx N2 nofun
      | ex x e =>
        rw [em] at h
        dsimp only at h
        intro cls dd H' F' S' N xx
        cases e2 : e[j]? with
        | none => rw [e2] at h; exact h.elim
        | some s2 =>
          cases s2 with
          | some _ => rw [e2] at h; exact h.elim
          | none =>
            rw [e2] at h
            obtain ⟨F2, S2, N2⟩ := back e H' F' _ _ [] S'.nil (by rw [List.append_nil]; exact N) e2
            rw [List.append_nil] at N2
            exact h cls dd H' F2 S2.sta N2 xx
/-! ### data of lists of immutable things, wholly owned, need nothing that is frozen -/
end
mutual
def flat : D → Bool
  | .lst xs | .tup xs => flatL xs
  | .non | .bl _ | .int _ | .str _ | .opq _ => true
  | .dK _ | .dT _ | .dTf _ | .scr _ | .deep _ | .nam _ _ | .xn _ _ _ => false
def flatL : List D → Bool
  | [] => true
  | d :: ds => flat d && flatL ds
end
mutual
theorem flat_imt : ∀ {d : D}, flat d = true → mct d = 0 → imt d = true
  | .non, _, _ | .bl _, _, _ | .int _, _, _ | .str _, _, _ | .opq _, _, _ => by simp [imt]
  | .lst xs, _, h => by simp [mct] at h
  | .tup xs, k, h => by
    simp only [imt]
    exact flatL_imt (by simpa [flat] using k) (by simpa [mct] using h)
  | .dK _, k, _ | .dT _, k, _ | .dTf _, k, _ | .scr _, k, _ | .deep _, k, _ | .nam _ _, k, _ | .xn _ _ _, k, _ => by simp [flat] at k
theorem flatL_imt : ∀ {ds : List D}, flatL ds = true → mctL ds = 0 → imtL ds = true
  | [], _, _ => rfl
  | d :: ds, k, h => by
    simp only [flatL, Bool.and_eq_true] at k
    simp only [mctL] at h
    simp only [imtL, Bool.and_eq_true]
    exact ⟨flat_imt k.1 (by omega), flatL_imt k.2 (by omega)⟩
end
mutual
theorem imt_flat : ∀ {d : D}, imt d = true → flat d = true ∧ mct d = 0
  | .non, _ | .bl _, _ | .int _, _ | .str _, _ | .opq _, _ => by simp [flat, mct]
  | .tup xs, k => by simp only [flat, mct]; exact imtL_flat (by simpa [imt] using k)
  | .lst xs, k | .dK _, k | .dT _, k | .dTf _, k | .scr _, k | .deep _, k | .nam _ _, k | .xn _ _ _, k => by simp [imt] at k
theorem imtL_flat : ∀ {ds : List D}, imtL ds = true → flatL ds = true ∧ mctL ds = 0
  | [], _ => ⟨rfl, rfl⟩
  | d :: ds, k => by
    simp only [imtL, Bool.and_eq_true] at k
    obtain ⟨a1, a2⟩ := imt_flat k.1
    obtain ⟨b1, b2⟩ := imtL_flat k.2
    exact ⟨by simp [flatL, a1, b1], by simp [mctL, a2, b2]⟩
end
section
variable {K : PySem.W.Frag} {mg : Str → Option Value} {W : WX} {p : Bool} {t : TE} {m : M D} {i j : Nat} {B : Addr → Prop} {env : Env} {σ : St} {H Z : Hp} {F G : List Addr}
mutual
theorem Own.rez (eZ : Ex Z H) (hG : ∀ a ∈ G, NT (H a)) (hB : ∀ b, B b → NT (H b)) : ∀ {d : D} {v : V} {F : List Addr}, Own K H Z d v F → flat d = true → mct d ≤ F.length → Own K H (Fz B H G) d v F
  | _, _, _, .frz r, k, l => .frz ((r.mono eZ).fz hG hB (flat_imt k (by simpa using l)))
  | _, _, _, .lst h r, k, l => .lst h (OwnL.rez eZ hG hB r (by simpa [flat] using k) (by simp only [mct, List.length_cons] at l; omega))
  | _, _, _, .tup (a := a) h r, k, l => .tup (by
      rw [fz_in (fun z => (hG a z).2.1 _ (eZ _ _ h)) fun z => (hB a z).2.1 _ (eZ _ _ h)]; exact eZ _ _ h) (OwnL.rez eZ hG hB r (by simpa [flat] using k) (by simpa [mct] using l))
  | _, _, _, .dK _ _, k, _ => by simp [flat] at k
  | _, _, _, .dT _ _, k, _ => by simp [flat] at k
  | _, _, _, .deep _, k, _ => by simp [flat] at k
theorem OwnL.rez (eZ : Ex Z H) (hG : ∀ a ∈ G, NT (H a)) (hB : ∀ b, B b → NT (H b)) : ∀ {ds : List D} {vs : List V} {F : List Addr}, OwnL K H Z ds vs F → flatL ds = true → mctL ds ≤ F.length → OwnL K H (Fz B H G) ds vs F
  | _, _, _, .nil, _, _ => .nil
  | _, _, _, .cons h r, k, l => by
    have l1 := h.len
    have l2 := r.len
    simp only [flatL, Bool.and_eq_true] at k
    simp only [mctL, List.length_append] at l
    exact .cons (Own.rez eZ hG hB h k.1 (by omega)) (OwnL.rez eZ hG hB r k.2 (by omega))
end
def isOwn : Option (Bool × D) → Bool
  | some (true, _) => true
  | _ => false
/-! ### a slot lent: frozen while an expression is evaluated whose answer keeps nothing -/
theorem RelE.noOwn : ∀ {env : Env} {σ : St} {F : List Addr}, RelE K H Z env σ F → env.any isOwn = false → F = []
  | _, _, _, .nil, _ => rfl
  | _, _, _, .non r, h => RelE.noOwn r (by simpa [isOwn] using h)
  | _, _, _, .fz _ r, h => RelE.noOwn r (by simpa [isOwn] using h)
  | _, _, _, .ow _ _ r, h => by simp [isOwn] at h
end
def sole (i : Nat) (env : Env) : Bool := !((env.set i none).any isOwn)
def lendOk : D → Bool
  | .deep d => flat d
  | .lst es => imtL es
  | d => imt d
/-- what is lent is looked into -/
def unD : D → D
  | .deep d => d
  | d => d
theorem Rep.un {K : PySem.W.Frag} {Z : Hp} {d : D} {v : V} (r : Rep K Z d v) : Rep K Z (unD d) v := by
  cases r with
  | deep r => exact r
  | _ => first | assumption | (constructor <;> assumption)
def lendM (i : Nat) (m : M D) : M D := fun env => match env[i]? with
  | some (some (true, d)) => if sole i env then match m (env.set i (some (false, unD d))) with
      | .ok v _ => if lendOk v then .ok v env else .no
      | .ex x _ => .ex x env
      | .no => .no
    else .no
  | _ => .no
section
variable {K : PySem.W.Frag} {mg : Str → Option Value} {W : WX} {p : Bool} {t : TE} {m : M D} {i j : Nat} {B : Addr → Prop} {env : Env} {σ : St} {H Z : Hp} {F G : List Addr}
theorem lend_len {d : D} {v : V} (k : lendOk d = true) (o : Own K H Z d v F) (x : Exl d F) : ∃ d', (d = .deep d' ∨ d = d') ∧ flat d' = true ∧ mct d' ≤ F.length ∧ Own K H Z d' v F := by
  cases d with
  | deep d' =>
    refine ⟨d', .inl rfl, k, Nat.le_of_eq x.1.symm, ?_⟩
    cases o with
    | frz r => exact absurd rfl x.2
    | deep o => exact o
  | lst es =>
    obtain ⟨h1, h2⟩ := imtL_flat (show imtL es = true from k)
    refine ⟨_, .inr rfl, by simpa [flat] using h1, ?_, o⟩
    have : F ≠ [] := x
    have := List.length_pos_iff.mpr this
    simp only [mct, h2]
    omega
  | _ =>
    have k' := imt_flat k
    exact ⟨_, .inr rfl, k'.1, by rw [k'.2]; exact Nat.zero_le _, o⟩
theorem en_lend (h0 : EvN K mg W p t m) : EvN K mg W false t (lendM i m) := fun B env σ H F Q S h => by
  unfold lendM at h
  cases ei : env[i]? with
  | none => rw [ei] at h; exact h.elim
  | some sl =>
    match sl, ei with
    | none, ei => rw [ei] at h; exact h.elim
    | some (false, _), ei => rw [ei] at h; exact h.elim
    | some (true, d), ei =>
      rw [ei] at h
      dsimp only at h
      cases es : sole i env with
      | false => rw [es] at h; exact h.elim
      | true =>
        rw [es, if_pos rfl] at h
        obtain ⟨hl, _⟩ := List.getElem?_eq_some_iff.mp ei
        obtain ⟨F1, Fi, F2, eF, sl, g⟩ := S.rel.cut hl
        obtain ⟨v, hv, hx, ho⟩ := sl _ ei
        have e0 : F1 ++ F2 = [] := by
          obtain ⟨_, _, g3⟩ := g H (Fz B H F) (Ex.refl _) fun _ _ _ h => h
          refine (g3 (some v)).noOwn ?_
          unfold sole at es
          simpa using es
        obtain ⟨rfl, rfl⟩ := List.append_eq_nil_iff.mp e0
        rw [List.nil_append, List.append_nil] at eF
        subst eF
        have ez0 : Ex (Fz B H F) (Fz B H []) := fz_mk fun b o e m n => ⟨e, (fun m => nomatch m), n⟩
        obtain ⟨_, g2, _⟩ := g H (Fz B H []) ez0 fun _ _ _ h => h
        have r0 := g2 (unD d) v (Rep.un (ho.freeze ez0 fun a h o e => by rw [fz_in (F := []) (b := a) List.not_mem_nil fun z => (S.bad a z).2 h]; exact e))
        rw [set_same hv] at r0
        have S0 : Sta K B (env.set i (some (false, unD d))) σ H [] := ⟨r0, .nil, (fun a m => nomatch m), fun b q => ⟨(S.bad b q).1, (fun m => nomatch m)⟩⟩
        refine h0 B _ σ H [] _ S0 ?_
        cases em : m (env.set i (some (false, unD d))) with
        | no => rw [em] at h; exact h.elim
        | ok v1 e =>
          rw [em] at h
          dsimp only at h
          cases ek : lendOk v1 with
          | false => rw [ek] at h; exact h.elim
          | true =>
            rw [ek, if_pos rfl] at h
            intro u H' F' Fd S' x1 N _
            have up : Ex H H' := fun b o e => N.fr b o e fun m => nomatch m
            have new : ∀ b ∈ F' ++ Fd, H b = none := fun b z => (N.sub b z).elim (fun z => nomatch z) id
            have nn : ∀ a, NT (H a) → NT (H' a) := fun a k => by
              cases q : H a with
              | none => exact absurd q k.1
              | some o => rw [up _ _ q, ← q]; exact k
            have liv : ∀ a ∈ F ++ Fd, NT (H' a) := fun a z => (List.mem_append.mp z).elim (fun z => nn a (S.liv a z)) fun z => S'.liv a (List.mem_append_right _ z)
            have bad : ∀ b, B b → NT (H' b) := fun b q => nn b (S.bad b q).1
            obtain ⟨d', ed, k1, k2, o1⟩ := lend_len ek S'.own.one_own x1
            have o2 : Own K H' (Fz B H' (F ++ Fd)) d' u Fd := o1.rez (fz_ex _ _ _) liv bad k1 k2
            have o3 : Own K H' (Fz B H' (F ++ Fd)) v1 u Fd := by
              rcases ed with rfl | rfl
              · exact .deep o2
              · exact o2
            refine h u H' F Fd ⟨S.rel.step (fz_mk fun b o e m n => ⟨up _ _ e, fun z => ?_, n⟩) fun a _ o e => up _ _ e, .one o3, ?_, liv, fun b q => ⟨bad b q, fun z => ?_⟩⟩ x1 ⟨fun b o e _ => up _ _ e, fun a z => ?_⟩ nofun
            · rcases List.mem_append.mp z with z | z
              · exact m z
              · rw [new b (List.mem_append_right _ z)] at e; cases e
            · refine List.nodup_append.mpr ⟨S.nd, (List.nodup_append.mp S'.nd).2.1, fun a h1 b h2 e => ?_⟩
              subst e
              exact (S.liv a h1).1 (new a (List.mem_append_right _ h2))
            · rcases List.mem_append.mp z with z | z
              · exact (S.bad b q).2 z
              · exact (S.bad b q).1.1 (new b (List.mem_append_right _ z))
            · rcases List.mem_append.mp z with z | z
              · exact .inl z
              · exact .inr (new a (List.mem_append_right _ z))
        | ex x e =>
          rw [em] at h
          dsimp only at h
          intro cls dd H' F' S' N xx
          have up : Ex H H' := fun b o e => N.fr b o e fun m => nomatch m
          exact h cls dd H' F (S.ext up) ⟨fun b o e _ => up _ _ e, fun a z => .inl z⟩ xx
end
@[simp] theorem hideM_ap {j : Nat} {m : M D} {env : Env} : hideM j m env = match env[j]? with
  | some (some (true, d)) => match m (env.set j none) with
    | .ok v e => match e[j]? with
      | some none => .ok v (e.set j (some (true, d)))
      | _ => .no
    | .ex x e => match e[j]? with
      | some none => .ex x (e.set j (some (true, d)))
      | _ => .no
    | .no => .no
  | _ => m env := id rfl
@[simp] theorem lendM_ap {i : Nat} {m : M D} {env : Env} : lendM i m env = match env[i]? with
  | some (some (true, d)) => if sole i env then match m (env.set i (some (false, unD d))) with
      | .ok v _ => if lendOk v then .ok v env else .no
      | .ex x _ => .ex x env
      | .no => .no
    else .no
  | _ => .no := id rfl
end MM

set_option Elab.async false
set_option linter.all false
set_option maxRecDepth 100000
set_option maxHeartbeats 4000000
noncomputable section
namespace MM
open PySem PySem.Spec PyProof.Rows L2

/-! ### a slot that is wholly owned, read -/
def rdDM (i : Nat) (env : Env) : Option D := match env[i]? with
  | some (some (_, .deep d)) => some d
  | _ => none
/-- an answer wholly owned: taken, given -/
def undM (m : M D) : M D := fun env => match m env with
  | .ok (.deep d) e => .ok d e
  | .ok _ _ => .no
  | .ex e e2 => .ex e e2
  | .no => .no
def reM (m : M D) : M D := fun env => match m env with
  | .ok d e => .ok (.deep d) e
  | .ex e e2 => .ex e e2
  | .no => .no
def flM (m : M D) : M D := fun env => match m env with
  | .ok d e => if flat d then .ok d e else .no
  | .ex e e2 => .ex e e2
  | .no => .no
section
variable {K : PySem.W.Frag} {mg : Str → Option Value} {W : WX} {ps : List Nat} {ro : Bool} {p q : Bool} {te t1 t2 ta tb : TE} {t : TE} {m m1 m2 ma mb mv : M D} {a : MS} {i : Nat} {tA : TA} {ms : M (List D)}
  {B : Addr → Prop} {env : Env} {σ : St} {H H0 Z : Hp} {F F0 Fd Fa : List Addr} {ds : List D} {vs : List V}
theorem evt_varD : EvT K (tVar i) (rdDM i) := fun B env σ H F Q d S e h => by
  unfold rdDM at e
  split at e
  · rename_i k d' e3
    cases e
    obtain ⟨v, G, hv, r, g⟩ := S.rel.anyAt e3
    refine ⟨v, hv, h v H G (.refl _) S ?_ g⟩
    cases r with
    | frz r => exact .frz r.un
    | deep o => exact o
  · cases e
theorem ed_un (h0 : EvN K mg W p t m) : EvD K mg W p t (undM m) := fun B env σ H F Q S h => by
  refine h0 B env σ H F Q S ?_
  unfold undM at h
  cases em : m env with
  | ex e e2 => rw [em] at h; exact h
  | no => rw [em] at h; exact h
  | ok d e =>
    rw [em] at h
    cases d with
    | deep d =>
      dsimp only at h
      intro v H' F' Fd S' x N P
      have o := S'.own.one_own
      refine h v H' F' Fd ⟨S'.rel, .one ?_, S'.nd, S'.liv, S'.bad⟩ x N P
      cases o with
      | frz r => exact .frz r.un
      | deep o => exact o
    | _ => exact h.elim
theorem en_re (h0 : EvD K mg W p t m) : EvN K mg W p t (reM m) := fun B env σ H F Q S h => by
  refine h0 B env σ H F Q S ?_
  unfold reM at h
  cases em : m env with
  | ex e e2 => rw [em] at h; exact h
  | no => rw [em] at h; exact h
  | ok d e =>
    rw [em] at h
    exact fun v H' F' Fd S' x N P => h v H' F' Fd S'.deep x N P
theorem EvD.e (h0 : EvD K mg W p t m) : EvE K mg W p t m := fun B env σ H F Q S h => by
  refine h0 B env σ H F Q S ?_
  cases em : m env with
  | ex e e2 => rw [em] at h; exact h
  | no => rw [em] at h; exact h
  | ok d e =>
    rw [em] at h
    exact fun v H' F' Fd S' x N P => h v H' F' Fd S' N P
theorem ev_und (h0 : EvN K mg W p t m) : EvE K mg W p t (undM m) := (ed_un h0).e
theorem EvD.n (h0 : EvD K mg W p t m) : EvN K mg W p t (flM m) := fun B env σ H F Q S h => by
  refine h0 B env σ H F Q S ?_
  unfold flM at h
  cases em : m env with
  | ex e e2 => rw [em] at h; exact h
  | no => rw [em] at h; exact h
  | ok d e =>
    rw [em] at h
    dsimp only at h
    cases ef : flat d with
    | false => rw [ef] at h; exact h.elim
    | true =>
      rw [ef, if_pos rfl] at h
      refine fun v H' F' Fd S' x N P => h v H' F' Fd S' ?_ N P
      cases d with
      | lst es => exact x.2
      | dK _ => cases ef
      | dT _ => cases ef
      | deep _ => cases ef
      | _ => trivial
/-! ### arguments that are new, wholly owned -/
def EvAD (K : PySem.W.Frag) (mg : Str → Option Value) (W : WX) (p : Bool) (t : TA) (m : M (List D)) : Prop := ∀ B env σ H F (Q : List V → Hp → Prop), Sta K B env σ H F → (match m env with
  | .ok ds env' => ∀ vs H' F' Fd, StaL K B env' σ H' F' ds vs Fd → Fd.length = mctL ds → Nxt H F H' (F' ++ Fd) → PureP p env env' F F' H H' → Q vs H'
  | .ex e env' => ExP K mg W B σ H F e env'
  | .no => False) → t σ H Q
theorem ead_nil : EvAD K mg W true tNil nilM := fun B env σ H F Q S g => g [] H F [] S.nil rfl (by rw [List.append_nil]; exact .refl) fun _ => ⟨rfl, rfl, .refl _⟩
/-- an immutable one, held by nobody's cells -/
def imtM (m : M D) : M D := fun env => match m env with
  | .ok d e => if imt d then .ok d e else .no
  | .ex e e2 => .ex e e2
  | .no => .no
def EvI0 (K : PySem.W.Frag) (mg : Str → Option Value) (W : WX) (p : Bool) (t : TE) (m : M D) : Prop := ∀ B env σ H F (Q : VK), Sta K B env σ H F → (match m env with
  | .ok d env' => ∀ v H' F' Fd, StaL K B env' σ H' F' [d] [v] Fd → Fd.length = mct d → Nxt H F H' (F' ++ Fd) → PureP p env env' F F' H H' → Q v H'
  | .ex e env' => ExP K mg W B σ H F e env'
  | .no => False) → t σ H Q
theorem ei0_imt (h0 : EvE K mg W p t m) : EvI0 K mg W p t (imtM m) := fun B env σ H F Q S h => by
  refine h0 B env σ H F Q S ?_
  unfold imtM at h
  cases em : m env with
  | ex e e2 => rw [em] at h; exact h
  | no => rw [em] at h; exact h
  | ok d e =>
    rw [em] at h
    dsimp only at h
    cases ek : imt d with
    | false => rw [ek] at h; exact h.elim
    | true =>
      rw [ek, if_pos rfl] at h
      refine fun v H' F' Fd S' N P => h v H' F' Fd S' ?_ N P
      have := S'.own.one_own.nil_imt ek
      rw [this, (imt_flat ek).2]
      rfl
theorem EvD.i0 (h0 : EvD K mg W p t m) : EvI0 K mg W p t m := fun B env σ H F Q S h => by
  refine h0 B env σ H F Q S ?_
  cases em : m env with
  | ex e e2 => rw [em] at h; exact h
  | no => rw [em] at h; exact h
  | ok d e =>
    rw [em] at h
    exact fun v H' F' Fd S' x N P => h v H' F' Fd S' x.1 N P
theorem ead_cons (h1 : EvI0 K mg W p t m) (h2 : EvAD K mg W q tA ms) : EvAD K mg W (p && q) (tCons t tA) (consM m ms) := fun B env σ H F Q S h => by
  refine h1 B env σ H F _ S ?_
  unfold consM at h
  cases em : m env with
  | ex e e2 => rw [em] at h; exact h
  | no => rw [em] at h; exact h
  | ok d e1 =>
    rw [em] at h
    dsimp only at h
    intro v H1 F1 Fd S1 l1 N1 P1
    refine h2 (Hid B Fd) e1 σ H1 F1 _ S1.hide ?_
    cases es : ms e1 with
    | ok ds e2 =>
      rw [es] at h
      intro vs H2 F2 Fs S2 l2 N2 P2
      refine h (v :: vs) H2 F2 (Fd ++ Fs) (S1.cons S2 N2) ?_ (N1.cons N2) fun z => ?_
      · simp only [List.length_append, mctL, l1, l2]
      · simp only [Bool.and_eq_true] at z
        obtain ⟨a1, a2, a3⟩ := P1 z.1
        obtain ⟨b1, b2, b3⟩ := P2 z.2
        exact ⟨b1.trans a1, b2.trans a2, a3.trans b3⟩
    | ex e e2 =>
      rw [es] at h
      refine ExP.mono h (fun H' F' N' => ?_) fun b z => .inl z
      exact ((N1.trans N' fun a m => List.mem_append_left _ m))
    | no => rw [es] at h; exact h.elim
def newM (m : M D) : M D := fun env => match m env with
  | .ok d e => if mct d = 0 then .no else .ok d e
  | .ex e e2 => .ex e e2
  | .no => .no
theorem ed_tup (h1 : EvAD K mg W p tA ms) : EvD K mg W p (tTup tA) (newM (tupM ms)) := fun B env σ H F Q S h => by
  refine h1 B env σ H F _ S ?_
  unfold newM tupM opM at h
  cases em : ms env with
  | ex e e2 => rw [em] at h; exact h
  | no => rw [em] at h; exact h
  | ok ds e1 =>
    rw [em] at h
    dsimp only at h
    intro vs H1 F1 Fd S1 l1 N1 P1
    by_cases hz : ds.length ≤ sizeLine
    · rw [if_pos hz] at h
      dsimp only at h
      by_cases hk : mct (.tup ds) = 0
      · rw [if_pos hk] at h; exact h.elim
      · rw [if_neg hk] at h
        refine ⟨by rw [← S1.own.length]; exact hz, fun pp hp => ?_⟩
        have hk' : mctL ds ≠ 0 := by simpa [mct] using hk
        refine h (.ref pp) _ F1 Fd (S1.mkT hp) ⟨by simpa [mct] using l1, fun z => hk' (by rw [← l1, z]; rfl)⟩ (N1.grow (ex_new hp)) fun z => ?_
        obtain ⟨a1, a2, a3⟩ := P1 z
        exact ⟨a1, a2, a3.trans (ex_new hp)⟩
    · rw [if_neg hz] at h; exact h.elim
theorem ed_lst (h1 : EvAD K mg W p tA ms) : EvD K mg W p (tLst tA) (lstM ms) := fun B env σ H F Q S h => by
  refine h1 B env σ H F _ S ?_
  unfold lstM opM at h
  cases em : ms env with
  | ex e e2 => rw [em] at h; exact h
  | no => rw [em] at h; exact h
  | ok ds e1 =>
    rw [em] at h
    dsimp only at h
    intro vs H1 F1 Fd S1 l1 N1 P1
    by_cases hz : ds.length ≤ sizeLine
    · rw [if_pos hz] at h
      refine ⟨by rw [← S1.own.length]; exact hz, fun pp hp => ?_⟩
      refine h (.ref pp) _ F1 (pp :: Fd) (S1.mkL hp) ⟨by simp only [mct, List.length_cons, l1]; omega, List.cons_ne_nil _ _⟩ (Nxt.mkL N1 hp) fun z => ?_
      obtain ⟨a1, a2, a3⟩ := P1 z
      exact ⟨a1, a2, a3.trans (ex_new hp)⟩
    · rw [if_neg hz] at h; exact h.elim
end
end MM

set_option Elab.async false
set_option linter.all false
set_option maxRecDepth 100000
set_option maxHeartbeats 4000000
noncomputable section
namespace MM
open PySem PySem.Spec PyProof.Rows L2

section
variable {K : PySem.W.Frag} {mg : Str → Option Value} {W : WX} {ps : List Nat} {ro : Bool} {p q : Bool} {te t1 t2 ta tb : TE} {t : TE} {m m1 m2 ma mb mv : M D} {a : MS} {i n : Nat} {tA : TA} {ms : M (List D)}
  {B : Addr → Prop} {env : Env} {σ : St} {H H0 Z : Hp} {F F0 Fd Fa : List Addr} {ds es as : List D} {vs us : List V}
/-- a wholly owned list's cell, and the slot changed -/
theorem StaL.mutLD (S : StaL K B env σ H F as us Fa) (hi : env[i]? = some (some (true, .deep (.lst ds)))) : ∃ l vs Fc, σ[i]? = some (some (.ref l)) ∧ H l = some (.lst vs) ∧
    OwnL K H (Fz B H (F ++ Fa)) ds vs Fc ∧ Fc.length = mctL ds ∧ (Fc ++ Fa).Nodup ∧ l ∉ Fc ++ Fa ∧ l ∈ F ∧ ∀ es vs' d v F' Fd, OwnL K H (Fz B H (F ++ Fa)) es vs' F' → F'.length = mctL es → Own K H (Fz B H (F ++ Fa)) d v Fd → (F' ++ Fd).Nodup →
      (∀ a ∈ F' ++ Fd, a ∈ Fc ++ Fa) → ∃ F3, StaL K B (env.set i (some (true, .deep (.lst es)))) σ (upd H l (.lst vs')) F3 [d] [v] Fd ∧ ∀ a ∈ F3 ++ Fd, a ∈ F ++ Fa := by
  obtain ⟨hl, _⟩ := List.getElem?_eq_some_iff.mp hi
  obtain ⟨F1, Fi, F2, eF, sl, g⟩ := S.rel.cut hl
  obtain ⟨v0, hv, x0, o0⟩ := sl _ hi
  have o0' : Own K H (Fz B H (F ++ Fa)) (.lst ds) v0 Fi := by
    cases o0 with
    | frz r => exact absurd rfl x0.2
    | deep o => exact o
  have xl := x0.1
  obtain ⟨l, vs, Fc, rfl, hH, rfl, oc⟩ := o0'.top x0.2
  have nd := S.nd
  rw [eF] at nd
  have nl : l ∉ F1 ∧ l ∉ F2 ∧ l ∉ Fc ∧ l ∉ Fa := by
    simp only [List.nodup_append, List.nodup_cons, List.mem_append, List.mem_cons, List.cons_append] at nd
    grind
  have lF : l ∈ F := by rw [eF]; simp
  refine ⟨l, vs, Fc, hv, hH, oc, by simp only [mct, List.length_cons] at xl; omega, ?_, ?_, lF, fun es vs' d v F' Fd o1 l1 o2 n2 sb => ?_⟩
  · simp only [List.nodup_append, List.nodup_cons, List.mem_append, List.mem_cons, List.cons_append] at *
    grind
  · simp only [List.mem_append, not_or]
    exact ⟨nl.2.2.1, nl.2.2.2⟩
  · have nd3 := nd_swap nd n2 sb
    have sub : ∀ a ∈ (F1 ++ ((l :: F') ++ F2)) ++ Fd, a ∈ F ++ Fa := fun a m => by
      have := sb a
      rw [eF]
      simp only [List.mem_append, List.mem_cons, List.cons_append] at *
      grind
    have lnotF' : l ∉ F' ++ Fd := fun z => by
      have := sb l z
      simp only [List.mem_append] at this
      exact this.elim nl.2.2.1 nl.2.2.2
    have ex : Ex (Fz B H (F ++ Fa)) (Fz B (upd H l (.lst vs')) ((F1 ++ ((l :: F') ++ F2)) ++ Fd)) := fz_mk fun b o e m n => by
      have nb : b ≠ l := fun z => m (by rw [z]; exact List.mem_append_left _ lF)
      exact ⟨by rw [upd_ne nb]; exact e, fun z => m (sub b z), n⟩
    have kp : ∀ a, a ≠ l → ∀ o, H a = some o → (upd H l (.lst vs')) a = some o := fun a n o h => by rw [upd_ne n]; exact h
    obtain ⟨g1, _, _⟩ := g (upd H l (.lst vs')) (Fz B (upd H l (.lst vs')) ((F1 ++ ((l :: F') ++ F2)) ++ Fd)) ex fun a m o h => kp a (fun z => by subst z; exact m.elim nl.1 nl.2.1) o h
    have r1 := g1 (.deep (.lst es)) (.ref l) (l :: F') ⟨by simp only [mct, List.length_cons, l1]; omega, List.cons_ne_nil _ _⟩ (.deep (.lst upd_same (o1.step ex fun a m o h => kp a (fun z => by subst z; exact lnotF' (List.mem_append_left _ m)) o h)))
    rw [set_same hv] at r1
    refine ⟨F1 ++ ((l :: F') ++ F2), ⟨r1, .one (o2.step ex fun a m o h => kp a (fun z => by subst z; exact lnotF' (List.mem_append_right _ m)) o h), nd3, fun a m => ?_, fun b q => ⟨?_, fun z => (S.bad b q).2 (sub b z)⟩⟩, sub⟩
    · by_cases e : a = l
      · subst e; rw [upd_same]; exact And.intro nofun (And.intro nofun nofun)
      · rw [upd_ne e]; exact S.liv a (sub a m)
    · by_cases e : b = l
      · subst e; rw [upd_same]; exact And.intro nofun (And.intro nofun nofun)
      · rw [upd_ne e]; exact (S.bad b q).1
/-- x.append(e), all new -/
def deepL (i : Nat) (env : Env) : Option (List D) := match env[i]? with
  | some (some (true, .deep (.lst ds))) => some ds
  | _ => none
theorem deepL_get (h : deepL i env = some ds) : env[i]? = some (some (true, .deep (.lst ds))) := by
  unfold deepL at h
  split at h
  · cases h; assumption
  · cases h
def appDM (i : Nat) (ms : M (List D)) : M D := fun env => match deepL i env with
  | some _ => match ms env with
    | .ok [d] e2 => match deepL i e2 with
      | some ds => haveI : Decidable (ds.length < sizeLine) := Classical.propDecidable _; if ds.length < sizeLine then .ok .non (e2.set i (some (true, .deep (.lst (ds ++ [d]))))) else .no
      | none => .no
    | .ok _ _ => .no
    | .ex e e2 => .ex e e2
    | .no => .no
  | none => .no
theorem ev_appD {t : TE} (ha : EvAD K mg W p tA ms) (ht : ∀ σ H Q, (∃ v, σ[i]? = some (some v) ∧ tyV K "list" v H ∧ tA σ H fun us H1 => rAppend v us H1 Q) → t σ H Q := by exact fun _ _ _ h => h) : EvE K mg W false t (appDM i ms) := fun B env σ H F Q S h => by
  unfold appDM at h
  cases ei : deepL i env with
  | none => rw [ei] at h; exact h.elim
  | some ds0 =>
    rw [ei] at h
    dsimp only at h
    obtain ⟨l, vs, Fc, hv, hH, _, _, _, _, lF, _⟩ := S.nil.mutLD (deepL_get ei)
    refine ht σ H Q ⟨.ref l, hv, .inl ⟨rfl, vs, .of hH⟩, ha B env σ H F _ S ?_⟩
    cases em : ms env with
    | no => rw [em] at h; exact h.elim
    | ex e e2 => rw [em] at h; exact h
    | ok as e2 =>
      rw [em] at h
      intro us H2 F2 Fa S2 l2 N2 _
      match as, S2, l2, h with
      | [], _, _, h => exact h.elim
      | _ :: _ :: _, _, _, h => exact h.elim
      | [d], S2, l2, h =>
        dsimp only at h
        cases ei2 : deepL i e2 with
        | none => rw [ei2] at h; exact h.elim
        | some ds =>
          rw [ei2] at h
          dsimp only at h
          by_cases hz : ds.length < sizeLine
          · rw [if_pos hz] at h
            obtain ⟨l', vs2, Fc2, hv2, hH2, oc, lc, ndc, nl, lF2, go⟩ := S2.mutLD (deepL_get ei2)
            rw [hv] at hv2
            cases hv2
            obtain ⟨u, rfl, o⟩ := S2.own.one_inv
            have eF : Fc2 ++ Fa ++ [] = Fc2 ++ Fa := List.append_nil _
            obtain ⟨F3, S3, s3⟩ := go (ds ++ [d]) (vs2 ++ [u]) .non .non (Fc2 ++ Fa) [] (oc.snoc o) (by rw [List.length_append, lc, l2, mctL_snoc]; simp [mctL]) (.frz .non) (by rw [eF]; exact ndc) (fun a m => by rwa [eF] at m)
            exact ⟨l, vs2, u, rfl, rfl, hH2, by rw [← oc.length]; exact hz, h .non _ F3 [] S3 (N2.mut (List.mem_append_left _ lF2) s3) nofun⟩
          · rw [if_neg hz] at h; exact h.elim
/-! ### a list within a wholly owned one, changed -/
/-- the list at a place of the slot's list or tuple -/
def inL (i : Nat) (n : Nat) (env : Env) : Option (List D) := match env[i]? with
  | some (some (true, .deep (.lst ds))) => match ds[n]? with
    | some (.lst es) => some es
    | _ => none
  | some (some (true, .deep (.tup ds))) => match ds[n]? with
    | some (.lst es) => some es
    | _ => none
  | _ => none
def inLen (i : Nat) (env : Env) : Nat := match env[i]? with
  | some (some (true, .deep (.lst ds))) => ds.length
  | some (some (true, .deep (.tup ds))) => ds.length
  | _ => 0
def inSet (i : Nat) (n : Nat) (es : List D) (env : Env) : Env := match env[i]? with
  | some (some (true, .deep (.lst ds))) => env.set i (some (true, .deep (.lst (ds.set n (.lst es)))))
  | some (some (true, .deep (.tup ds))) => env.set i (some (true, .deep (.tup (ds.set n (.lst es)))))
  | _ => env
theorem Sta.inner (S : Sta K B env σ H F) (hi : inL i n env = some es) (h0 : mctL es = 0) : ∃ l l2 vs vs2, σ[i]? = some (some (.ref l)) ∧ (H l = some (.lst vs) ∨ H l = some (.tup vs)) ∧ vs.length = inLen i env ∧ vs[n]? = some (.ref l2) ∧ H l2 = some (.lst vs2) ∧ RepL K (Fz B H F) es vs2 ∧ l2 ∈ F ∧
    ∀ es' vs2', mctL es' = 0 → RepL K (Fz B H F) es' vs2' → Sta K B (inSet i n es' env) σ (upd H l2 (.lst vs2')) F := by
  have hl : i < env.length := by
    refine Classical.byContradiction fun z => ?_
    unfold inL at hi
    rw [List.getElem?_eq_none (by omega)] at hi
    cases hi
  obtain ⟨Fs1, Fi, Fs2, eF, sl, g⟩ := S.rel.cut hl
  have nd := S.nd
  rw [eF] at nd
  -- the inner list and how the whole is put together again
  have key : ∀ (ds : List D) (up : List D → D) (vs : List V) (FL Fp : List Addr) (v : V), env[i]? = some (some (true, .deep (up ds))) → σ[i]? = some (some v) → Fi = Fp ++ FL → Fi.length = Fp.length + mctL ds → OwnL K H (Fz B H F) ds vs FL → ds[n]? = some (.lst es) →
      (∀ ds' : List D, mctL ds' = mctL ds → mct (up ds') = Fi.length) → Fi ≠ [] →
      (∀ l2 (o : HO) ds' FL', l2 ∈ FL → Ex (Fz B H F) (Fz B (upd H l2 o) F) → OwnL K (upd H l2 o) (Fz B (upd H l2 o) F) ds' vs FL' → Own K (upd H l2 o) (Fz B (upd H l2 o) F) (.deep (up ds')) v (Fp ++ FL')) →
      ∃ l2 vs2, vs[n]? = some (.ref l2) ∧ H l2 = some (.lst vs2) ∧ RepL K (Fz B H F) es vs2 ∧ l2 ∈ F ∧ ∀ es' vs2', mctL es' = 0 → RepL K (Fz B H F) es' vs2' → Sta K B (env.set i (some (true, .deep (up (ds.set n (.lst es')))))) σ (upd H l2 (.lst vs2')) F := by
    intro ds up vs FL Fp v ei hv eFi lFi ol ed hm hne wh
    obtain ⟨A1, A, A2, u, eA, eu, oe, le, gg⟩ := ol.cut ed
    have hAl : A.length = 1 := by
      have l1 := oe.len
      have : FL.length = mctL ds := by rw [eFi, List.length_append] at lFi; omega
      rw [eA] at this
      simp only [mct, h0, List.length_append] at l1 le this
      omega
    have hA : A ≠ [] := fun z => by rw [z] at hAl; cases hAl
    obtain ⟨l2, vs2, A', rfl, hH2, rfl, ol2⟩ := oe.top hA
    have hA' : A' = [] := List.eq_nil_of_length_eq_zero (by simpa using hAl)
    subst hA'
    have l2FL : l2 ∈ FL := by rw [eA]; simp
    have l2F : l2 ∈ F := by rw [eF, eFi]; simp [l2FL]
    refine ⟨l2, vs2, eu, hH2, ol2.rep0, l2F, fun es' vs2' k' r' => ?_⟩
    have nl : l2 ∉ Fs1 ∧ l2 ∉ Fs2 ∧ l2 ∉ A1 ∧ l2 ∉ A2 := by
      rw [eFi, eA] at nd
      simp only [List.nodup_append, List.nodup_cons, List.mem_append, List.mem_cons, List.cons_append] at nd
      grind
    have ex : Ex (Fz B H F) (Fz B (upd H l2 (.lst vs2')) F) := fz_mk fun b o e m n => by
      have nb : b ≠ l2 := fun z => m (by rw [z]; exact l2F)
      exact ⟨by rw [upd_ne nb]; exact e, m, n⟩
    obtain ⟨g1, _, _⟩ := g (upd H l2 (.lst vs2')) _ ex fun a m o h => by
      have na : a ≠ l2 := fun z => by subst z; exact m.elim nl.1 nl.2.1
      rw [upd_ne na]; exact h
    have oin : Own K (upd H l2 (.lst vs2')) (Fz B (upd H l2 (.lst vs2')) F) (.lst es') (.ref l2) [l2] := .lst upd_same (OwnL.of_rep (r'.mono ex))
    have oout := gg (upd H l2 (.lst vs2')) _ ex (fun a m o h => by
      have na : a ≠ l2 := fun z => by subst z; exact m.elim nl.2.2.1 nl.2.2.2
      rw [upd_ne na]; exact h) _ [l2] oin
    have ow := wh l2 (.lst vs2') _ _ l2FL ex oout
    have hmc : mct (.lst es') = mct (.lst es) := by simp only [mct, h0, k']
    have e9 : Fp ++ (A1 ++ ([l2] ++ A2)) = Fi := by rw [eFi, eA]
    rw [e9] at ow
    have r1 := g1 (.deep (up (ds.set n (.lst es')))) v Fi ⟨(hm _ (mctL_set2 hmc ed)).symm, hne⟩ ow
    rw [set_same hv, ← eF] at r1
    refine ⟨r1, S.nd, fun a m => ?_, fun b q => ⟨?_, (S.bad b q).2⟩⟩
    · by_cases e : a = l2
      · subst e; rw [upd_same]; exact And.intro nofun (And.intro nofun nofun)
      · rw [upd_ne e]; exact S.liv a m
    · by_cases e : b = l2
      · subst e; rw [upd_same]; exact And.intro nofun (And.intro nofun nofun)
      · rw [upd_ne e]; exact (S.bad b q).1
  unfold inL at hi
  split at hi
  · rename_i ds ei
    split at hi
    · rename_i es' ed
      cases hi
      obtain ⟨v, hv, hx, ho⟩ := sl _ ei
      have o3 : Own K H (Fz B H F) (.lst ds) v Fi := by
        cases ho with
        | frz r => exact absurd rfl hx.2
        | deep o => exact o
      have xl := hx.1
      obtain ⟨l, vs, FL, rfl, hH, eFi, ol⟩ := o3.top hx.2
      have ndl : l ∉ FL := fun z => by
        rw [eFi] at nd
        simp only [List.nodup_append, List.nodup_cons, List.cons_append] at nd
        grind
      obtain ⟨l2, vs2, a1, a2, a3, a4, a5⟩ := key ds .lst vs FL [l] (.ref l) ei hv eFi (by rw [xl]; simp [mct]) ol ed (fun ds' e => by rw [xl]; simp [mct, e]) hx.2 fun l2 o ds' FL' m ez ol' => .deep (.lst (by rw [upd_ne (fun z : l = l2 => ndl (by rw [z]; exact m))]; exact hH) ol')
      refine ⟨l, l2, vs, vs2, hv, .inl hH, ?_, a1, a2, a3, a4, fun es' vs2' k r => ?_⟩
      · unfold inLen; rw [ei]; exact ol.length.symm
      · unfold inSet; rw [ei]; exact a5 es' vs2' k r
    · cases hi
  · rename_i ds ei
    split at hi
    · rename_i es' ed
      cases hi
      obtain ⟨v, hv, hx, ho⟩ := sl _ ei
      have o3 : Own K H (Fz B H F) (.tup ds) v Fi := by
        cases ho with
        | frz r => exact absurd rfl hx.2
        | deep o => exact o
      have xl := hx.1
      have key2 : ∃ l vs, v = V.ref l ∧ Fz B H F l = some (.tup vs) ∧ OwnL K H (Fz B H F) ds vs Fi := by
        cases o3 with
        | frz r => exact absurd rfl hx.2
        | tup h r => exact ⟨_, _, rfl, h, r⟩
      obtain ⟨l, vs, rfl, hH, ol⟩ := key2
      obtain ⟨l2, vs2, a1, a2, a3, a4, a5⟩ := key ds .tup vs Fi [] (.ref l) ei hv rfl (by rw [xl]; simp [mct]) ol ed (fun ds' e => by rw [xl]; simp [mct, e]) hx.2 fun l2 o ds' FL' m ez ol' => .deep (.tup (ez _ _ hH) ol')
      refine ⟨l, l2, vs, vs2, hv, .inr (fz_some hH).1, ?_, a1, a2, a3, a4, fun es' vs2' k r => ?_⟩
      · unfold inLen; rw [ei]; exact ol.length.symm
      · unfold inSet; rw [ei]; exact a5 es' vs2' k r
    · cases hi
  · cases hi
end
end MM

set_option Elab.async false
set_option linter.all false
set_option maxRecDepth 100000
set_option maxHeartbeats 4000000
noncomputable section
namespace MM
open PySem PySem.Spec PyProof.Rows L2

/-! ### data compared as Python compares them -/
def CmpOk (p q : PyData) : Prop := PySem.W.alike p q = true ∧ p ≠ .none ∧ p.depth ≤ 60
def rCmpD (K : PySem.W.Frag) (g : PyData → PyData → Bool) : R2 := fun x y H Q => ∃ d e, Dp K H x d ∧ Dp K H y e ∧ CmpOk d e ∧ Q (.bl (g d e)) H
section
variable {X : Cx} {K : PySem.W.Frag}
theorem op_ltDD (hK : X.K = K) (hu : X.A.units + 65 < cLine) : OpR X (compareOp .Lt) (rCmpD K PySem.W.dataLt) := by
  subst hK
  intro pins s σ H x y v u Q I rx ry h
  obtain ⟨d, e, hd, he, hc, q⟩ := h
  obtain ⟨as, r1⟩ := Dp.reads I d x v hd rx
  obtain ⟨bs, r2⟩ := Dp.reads I e y u he ry
  exact PySem.W.lt_data r1 r2 hc.1 hc.2.1 (by have := hc.2.2; omega) ⟨.bl _, H, I, rfl, q⟩
theorem op_gtDD (hK : X.K = K) (hu : X.A.units + 65 < cLine) : OpR X (compareOp .Gt) (rCmpD K fun d e => PySem.W.dataLt e d) := by
  subst hK
  intro pins s σ H x y v u Q I rx ry h
  obtain ⟨d, e, hd, he, hc, q⟩ := h
  obtain ⟨as, r1⟩ := Dp.reads I d x v hd rx
  obtain ⟨bs, r2⟩ := Dp.reads I e y u he ry
  exact PySem.W.gt_data r1 r2 hc.1 hc.2.1 (by have := hc.2.2; omega) ⟨.bl _, H, I, rfl, q⟩
theorem op_leDD (hK : X.K = K) (hu : X.A.units + 65 < cLine) : OpR X (compareOp .LtE) (rCmpD K fun d e => !PySem.W.dataLt e d) := by
  subst hK
  intro pins s σ H x y v u Q I rx ry h
  obtain ⟨d, e, hd, he, hc, q⟩ := h
  obtain ⟨as, r1⟩ := Dp.reads I d x v hd rx
  obtain ⟨bs, r2⟩ := Dp.reads I e y u he ry
  exact PySem.W.le_data r1 r2 hc.1 hc.2.1 (by have := hc.2.2; omega) ⟨.bl _, H, I, rfl, q⟩
theorem op_geDD (hK : X.K = K) (hu : X.A.units + 65 < cLine) : OpR X (compareOp .GtE) (rCmpD K fun d e => !PySem.W.dataLt d e) := by
  subst hK
  intro pins s σ H x y v u Q I rx ry h
  obtain ⟨d, e, hd, he, hc, q⟩ := h
  obtain ⟨as, r1⟩ := Dp.reads I d x v hd rx
  obtain ⟨bs, r2⟩ := Dp.reads I e y u he ry
  exact PySem.W.ge_data r1 r2 hc.1 hc.2.1 (by have := hc.2.2; omega) ⟨.bl _, H, I, rfl, q⟩
end
open Classical in
def cmpDF (g : PyData → PyData → Bool) : List D → Option D
  | [a, b] => match toPy a, toPy b with
    | some p, some q => if CmpOk p q then some (.bl (g p q)) else none
    | _, _ => none
  | _ => none
theorem s_cmpD {K : PySem.W.Frag} {g : PyData → PyData → Bool} : OpS K (two (rCmpD K g)) (cmpDF g) := fun H ds vs Q d R ef q => by
  unfold cmpDF at ef
  split at ef
  · obtain ⟨x, y, rfl, rx, ry⟩ := R.two_inv
    split at ef
    · rename_i p p2 e1 e2
      split at ef
      · rename_i hc
        cases ef
        exact ⟨p, p2, rx.dp e1, ry.dp e2, hc, q _ (.bl _)⟩
      · cases ef
    · cases ef
  · cases ef
abbrev ltDF := cmpDF PySem.W.dataLt
abbrev gtDF := cmpDF fun d e => PySem.W.dataLt e d
abbrev leDF := cmpDF fun d e => !PySem.W.dataLt e d
abbrev geDF := cmpDF fun d e => !PySem.W.dataLt d e
/-! ### repr(x) of lists and tuples -/
def ShowOk (p : PyData) : Prop := p.showable = true ∧ p.hasDict = false ∧ p.depth ≤ 60 ∧ p.shown.length ≤ sizeLine
def rRepr (K : PySem.W.Frag) : List V → Hp → VK → Prop := fun xs H Q => ∃ (a : Addr) (d : PyData), xs = [.ref a] ∧ Dp K H (.ref a) d ∧ ShowOk d ∧ Q (.str d.shown) H
theorem call_repr {X : Cx} {K : PySem.W.Frag} (hK : X.K = K) (hg : X.A.guards = some []) (hu : X.A.units + 65 < cLine) : CallR X (.builtin "repr") (rRepr K) := by
  subst hK
  intro pins s σ H xs us Q I r q
  obtain ⟨a, d, rfl, hd, hs, q⟩ := q
  obtain ⟨u, eu, rx⟩ := vals1 r
  subst eu
  obtain ⟨as, rr⟩ := Dp.reads I d _ u hd rx
  cases rx
  exact repr_of_reads' rr hs.1 (fun z => by rw [hs.2.1] at z; cases z) hg (by have := hs.2.2.1; omega) (fun _ _ e => e) (fun h' u tk hk => ⟨.str d.shown, H, I.kept (t' := tk) hk, ⟨_, rfl⟩, q⟩) hs.2.2.2
open Classical in
def reprF : List D → Option D
  | [.lst xs] => match toPyL xs with
    | some ps => if ShowOk (.list ps) then some (.str (PyData.list ps).shown) else none
    | none => none
  | [.tup xs] => match toPyL xs with
    | some ps => if ShowOk (.tuple ps) then some (.str (PyData.tuple ps).shown) else none
    | none => none
  | _ => none
theorem s_repr {K : PySem.W.Frag} : OpS K (rRepr K) reprF := fun H ds vs Q d R ef q => by
  unfold reprF at ef
  split at ef
  · rename_i xs
    obtain ⟨x, rfl, rx⟩ := R.one_inv
    split at ef
    · rename_i ps ep
      split at ef
      · rename_i hs
        cases ef
        have hd := rx.dp (p := .list ps) (by simp only [toPy, ep])
        cases rx with
        | lst h r => exact ⟨_, _, rfl, hd, hs, q _ (.str _)⟩
      · cases ef
    · cases ef
  · rename_i xs
    obtain ⟨x, rfl, rx⟩ := R.one_inv
    split at ef
    · rename_i ps ep
      split at ef
      · rename_i hs
        cases ef
        have hd := rx.dp (p := .tuple ps) (by simp only [toPy, ep])
        cases rx with
        | tup h r => exact ⟨_, _, rfl, hd, hs, q _ (.str _)⟩
      · cases ef
    · cases ef
  · cases ef
end MM

set_option Elab.async false
set_option linter.all false
set_option maxRecDepth 100000
set_option maxHeartbeats 4000000
noncomputable section
namespace MM
open PySem PySem.Spec PyProof.Rows L2

/-! ### min and max of two, xor -/
def min2F : List D → Option D
  | [.int i, .int j] => some (.int (if j < i then j else i))
  | _ => none
def max2F : List D → Option D
  | [.int i, .int j] => some (.int (if j > i then j else i))
  | _ => none
def xorF : List D → Option D
  | [.int i, .int j] => some (.int (Builtin.bitXor i j))
  | _ => none
/-- xs[::-1], a list -/
def revLF : List D → Option D
  | [.lst ds] => some (.lst ds.reverse)
  | _ => none
def rRevL1 (K : PySem.W.Frag) : List V → Hp → VK → Prop := fun vs H Q => match vs with
  | [x] => ∃ a xs, x = .ref a ∧ SqL K H a xs ∧ ∀ p, H p = none → Q (.ref p) (upd H p (.lst xs.reverse))
  | _ => False
section
variable {K : PySem.W.Frag} {mg : Str → Option Value} {W : WX} {p q : Bool} {te to ta tb tc : TE} {m ma mb mc : M D} {i : Nat} {tA : TA} {ms : M (List D)} {Z : Hp}
theorem s_min2 : OpS K (fun xs H Q => ∃ i j, xs = [V.int i, .int j] ∧ Q (.int (if j < i then j else i)) H) min2F := fun H ds vs Q d R ef q => by
  unfold min2F at ef
  split at ef
  · obtain ⟨x, y, rfl, rx, ry⟩ := R.two_inv
    cases rx; cases ry; cases ef
    exact ⟨_, _, rfl, q _ (.int _)⟩
  · cases ef
theorem s_max2 : OpS K (fun xs H Q => ∃ i j, xs = [V.int i, .int j] ∧ Q (.int (if j > i then j else i)) H) max2F := fun H ds vs Q d R ef q => by
  unfold max2F at ef
  split at ef
  · obtain ⟨x, y, rfl, rx, ry⟩ := R.two_inv
    cases rx; cases ry; cases ef
    exact ⟨_, _, rfl, q _ (.int _)⟩
  · cases ef
theorem s_xor : OpS K (two (rI0 fun i j => .int (Builtin.bitXor i j))) xorF := fun H ds vs Q d R ef q => by
  unfold xorF at ef
  split at ef
  · obtain ⟨x, y, rfl, rx, ry⟩ := R.two_inv
    cases rx; cases ry; cases ef
    exact ⟨_, _, rfl, rfl, q _ (.int _)⟩
  · cases ef
theorem repL_rev {Z : Hp} : ∀ {ds : List D} {vs : List V}, RepL K Z ds vs → RepL K Z ds.reverse vs.reverse
  | _, _, .nil => .nil
  | _, _, .cons h t => by
    rw [List.reverse_cons, List.reverse_cons]
    exact (repL_rev t).append (.cons h .nil)
theorem g_revL : OpN K (rRevL1 K) revLF := fun Z H ds vs Q d ez R ef q ql qt => by
  unfold revLF at ef
  split at ef
  · obtain ⟨x, rfl, rx⟩ := R.one_inv
    cases ef
    cases rx with
    | lst h r => exact ⟨_, _, rfl, .of (ez _ _ h), fun l hl => ql _ l _ rfl hl (repL_rev r)⟩
  · cases ef
theorem en_revL (ha : EvE K mg W p te m) : EvN K mg W p (tRevL K te) (opM revLF (consM m nilM)) := by
  have h1 : EvA K mg W p (tCons te tNil) (consM m nilM) := by
    have := ea_cons ha (ea_nil (K := K) (mg := mg) (W := W))
    rwa [Bool.and_true] at this
  exact en_n (tA := tCons te tNil) g_revL h1 fun σ H Q h => h
end
/-! ### range(a, b, -1) -/
def range3M (ms : M (List D)) : M (List D) := fun env => match ms env with
  | .ok [.int i, .int j, .int c] e => haveI : Decidable (c = -1 ∧ -(2 ^ 62) ≤ i ∧ i < 2 ^ 62 ∧ -(2 ^ 62) ≤ j ∧ j < 2 ^ 62) := Classical.propDecidable _; if c = -1 ∧ -(2 ^ 62) ≤ i ∧ i < 2 ^ 62 ∧ -(2 ^ 62) ≤ j ∧ j < 2 ^ 62 then .ok ((List.range (i - j).toNat).map fun (k : Nat) => D.int (i - k)) e else .no
  | .ok _ _ => .no
  | .ex e e2 => .ex e e2
  | .no => .no
section
variable {K : PySem.W.Frag} {mg : Str → Option Value} {W : WX} {p : Bool} {tA : TA} {ms : M (List D)} {Z : Hp}
theorem feeds_rangeC {lo c : Int} {n : Nat} : Feeds K Z (Itc lo c n) ((List.range n).map fun (i : Nat) => .int (lo + (i : Nat) * c)) := fun H i ez => by
  refine ⟨fun d hd => ?_, fun hl => show n ≤ i by simpa using hl⟩
  rw [List.getElem?_map] at hd
  cases e : (List.range n)[i]? with
  | none => rw [e] at hd; cases hd
  | some j =>
    obtain ⟨h1, h2⟩ := List.getElem?_eq_some_iff.mp e
    rw [List.getElem_range] at h2
    rw [List.length_range] at h1
    rw [e] at hd
    cases hd
    subst h2
    exact ⟨h1, fun x H' y => .inl ⟨y.1, by rw [y.2]; exact .int _⟩⟩
theorem ei_range3 (h1 : EvR K mg W p tA ms) : EvI K mg W p (iRng3 tA) (range3M ms) := fun B env σ H F Q S h => by
  refine h1 B env σ H F _ S ?_
  unfold range3M at h
  cases em : ms env with
  | ok ds e =>
    rw [em] at h
    intro vs H' F' S' r N P
    split at h
    · rename_i xs env' eq
      split at eq
      · rename_i i j c e' eq2
        cases eq2
        cases r with
        | cons rx r =>
          obtain ⟨y, z, rfl, ry, rz⟩ := r.two_inv
          cases rx
          cases ry
          cases rz
          split at eq
          · rename_i hb
            obtain ⟨rfl, b1, b2, b3, b4⟩ := hb
            cases eq
            have e1 : (fun (k : Nat) => D.int (i - k)) = fun (k : Nat) => D.int (i + (k : Nat) * (-1)) := by
              funext k
              congr 1
              omega
            rw [e1] at h
            exact ⟨i, j, -1, _, rfl, RgC.neg b1 b2 b3 b4, h _ H' F' S' feeds_rangeC N P⟩
          · cases eq
      · cases eq
      · cases eq
      · cases eq
    · rename_i eq
      split at eq
      · split at eq <;> cases eq
      · cases eq
      · rename_i eq2; cases eq2
      · cases eq
    · exact h.elim
  | ex e e2 => rw [em] at h; exact h
  | no => rw [em] at h; exact h
theorem range3_ok {i j : Int} {ms : M (List D)} {e e0 : Env} (hm : ms e = .ok [.int i, .int j, .int (-1)] e0) (h1 : -1000000000 ≤ i) (h2 : i < 1000000000) (h3 : -1000000000 ≤ j) (h4 : j < 1000000000) : range3M ms e = .ok ((List.range (i - j).toNat).map fun (k : Nat) => D.int (i - k)) e0 := by
  unfold range3M
  rw [hm]
  exact if_pos (by omega)
end
end MM

set_option Elab.async false
set_option linter.all false
set_option maxRecDepth 100000
set_option maxHeartbeats 8000000
noncomputable section
namespace MM
open PySem PySem.Spec PyProof.Rows L2

/-! ### try: .. except x as n: .., the exception kept beyond -/
theorem trk_exn {C a : Addr} : trk (.ref C) none a = ExK C a := rfl
section
variable {X : Cx} {pins : List (Addr × Obj)} {σ : St} {H : Hp} {s : Shared}
/-- an object that stands, not there at the entry, is told of -/
theorem Inv.tell {a : Addr} {oe : Obj} {vs : Array Value} (I : Inv X pins σ H s) (ha : s.heap.get? a = some oe) (hd : oe.data = .fields vs) (na : H a = none) (nL : X.env.locals ≠ a) (n0 : X.s_0.heap.get? a = none) (np : ∀ p ∈ X.pn ++ pins, p.1 ≠ a) :
    Inv X pins σ (upd H a (trk oe.cls oe.dict a)) s where
  ok := I.ok
  os := I.os
  bare := I.bare
  base :=
    { keep := I.base.keep
      slot := I.base.slot
      free := fun b o q n x => by
        have hb : b ≠ a := fun e => by rw [e, n0] at q; cases q
        rw [upd_ne hb]
        exact I.base.free b o q n x
      there := I.base.there
      tups := fun b xs q => by
        have h := I.base.tups b xs q
        rw [upd_ne (ne_of_none h na)]
        exact h
      frzs := fun b o u q => by
        have h := I.base.frzs b o u q
        rw [upd_ne (ne_of_none h na)]
        exact h
      tbls := fun b ps q => by
        obtain ⟨m, h⟩ := I.base.tbls b ps q
        exact ⟨m, by rw [upd_ne (ne_of_none h na)]; exact h⟩ }
  loc := I.loc
  cell := I.cell
  free := by rw [upd_ne nL]; exact I.free
  freeC := fun x c q => by
    have hc : c ≠ a := fun e => by
      obtain ⟨v, o, ho, hcd⟩ := I.cell x c q
      rw [e, ha] at ho
      cases ho
      rw [hd] at hcd
      cases hcd
    rw [upd_ne hc]
    exact I.freeC x c q
  pin := fun p hp => by
    obtain ⟨q1, q2, q3⟩ := I.pin p hp
    exact ⟨q1, by rw [upd_ne (np p hp)]; exact q2, q3⟩
  hok := I.hok.laidN (fun _ _ e => e) na ⟨⟨oe, vs, ha, rfl, rfl, hd⟩, ⟨oe, ha⟩, fun _ _ ⟨o, v, q, r⟩ k => ⟨o, v, k o q, r⟩⟩
  len := I.len
/-- new: what the exception's address can not be -/
theorem sky_new {W : WX} {B : Heap} {sI : Shared} {a : Addr} {Z : Obj → Prop} {L : Addr} {h : Heap} {l : List PySem.Env} (J : Inv X pins σ H sI) (nb : ∀ b o, sI.heap.get? b = some o → b ∉ frs X.stack → B.get? b = some o)
    (hB : B.get? a = none) (nf : a ∉ frs X.stack) (hex : X.ex = []) : X.s_0.heap.get? a = none ∧ ∀ p ∈ X.pn ++ pins, p.1 ≠ a := by
  have not_sI : ∀ o, sI.heap.get? a ≠ some o := fun o e => by
    have z := nb a o e nf
    rw [hB] at z
    cases z
  refine ⟨?_, fun p hp e => not_sI p.2 ?_⟩
  · cases q : X.s_0.heap.get? a with
    | none => rfl
    | some o =>
      obtain ⟨o', z⟩ := J.base.there a o q (by rw [hex]; exact List.not_mem_nil)
      exact absurd z (not_sI o')
  · rw [← e]
    exact (J.pin p hp).1
end

/-- what 'except x as n: c = n' wishes of an exception of the body, where c stays -/
def wKept (K : PySem.W.Frag) (c : Value) (i : Nat) (ts : Addr → Value → Option Addr → TS) (Wout : WX) (D : Ends) : WX := fun cls d σ H =>
  ∃ b, PySem.W.exmOne K cls c = some b ∧ (b = false → Wout cls d σ H) ∧
    (b = true → ∀ a, H a = none → ts a cls d { nx := fun σ1 H1 => D.nx (σ1.set i none) (upd H1 a (trk cls d a)), rt := fun _ _ => False } (σ.set i (some (.ref a))) H)
section
variable {X : Cx} {x n : Str} {c : Value} {i : Nat} {body suite : List Stmt} {b₀ : Stmt} {np pos pos' : Pos} {tb : WX → TS} {ts : Addr → Value → Option Addr → TS} {Wout : WX}
theorem ps_tryK (hex : X.ex = []) (hst : X.stack = X.env :: X.outer) (hfr0 : X.env.frame = some X.env.locals) (nd : X.N.Nodup) (hni : X.N[i]? = some n) (hloc : X.env.kindOf n = some .local) (hc : Names X x c) (tk : Takes X Wout)
    (hbody : ∀ (W : WX) (pn : List (Addr × Obj)) (xe : Value → Shared → Prop), Takes (X.tr pn xe) W → PassesOwn (model X.prog X.w) X.A X.env xe → PSs (X.tr pn xe) body (tb W))
    (hsuite : ∀ (a : Addr) (oe : Obj) (cls : Value) (d : Option Addr) (pn : List (Addr × Obj)), Zc cls d oe → (∃ vs, oe.data = .fields vs) → PSs (X.suite a ((a, oe) :: pn)) (b₀ :: suite) (ts a cls d)) :
    PS X (.Try body [.ExceptHandler (some (.Name x np)) (some n) (b₀ :: suite) pos'] [] [] pos) (fun D σ H => tb (wKept X.K c i ts Wout D) D σ H) := by
  refine ⟨fun pins s σ H D I h => ?_⟩
  have okX := I.ok
  have frX : X.A.frames = some (X.env :: X.outer) := okX.frames.trans (by rw [hst])
  obtain ⟨hds, ehds⟩ : ∃ l : List ExceptHandler, l = [.ExceptHandler (some (.Name x np)) (some n) (b₀ :: suite) pos'] := ⟨_, rfl⟩
  rw [← ehds]
  obtain ⟨xe, exe⟩ : ∃ f : Value → Shared → Prop, f = fun e s₁ => wpAny (model X.prog X.w) X.A (noteFrame e X.env) (fun _ s₂ => wpAny (model X.prog X.w) X.A (setFlight e none) (fun _ s₃ => wpAny (model X.prog X.w) X.A (handleBy e X.env hds) (SP X pins D) X.xe s₃) X.xe s₂) X.xe s₁ := ⟨_, rfl⟩
  have po : PassesOwn (model X.prog X.w) X.A X.env xe := by (rw [exe]; exact PassesOwn.looking)
  have run := (hbody (wKept X.K c i ts Wout D) (X.pn ++ pins) xe (fun u s' xx => ?_) po).run [] s σ H D (I.toTry _) h
  · rw [ehds]
    refine wpAny_Try_except ?_
    refine wpAny_mono run (fun f s1 sp => ?_) fun e s1 he => by (rw [exe, ehds] at he; exact he)
    cases f with
    | next => exact sp.elim fun σ1 z => z.elim fun H1 z => wpAny_execs_nil ⟨σ1, H1, z.1.ofTry okX, z.2⟩
    | brk => exact sp.elim fun σ1 z => z.elim fun H1 z => ⟨σ1, H1, z.1.ofTry okX, z.2⟩
    | cont => exact sp.elim fun σ1 z => z.elim fun H1 z => ⟨σ1, H1, z.1.ofTry okX, z.2⟩
    | ret u => exact sp.elim fun v z => z.elim fun σ1 z => z.elim fun H1 z => ⟨v, σ1, H1, z.1.ofTry okX, z.2⟩
  · rw [exe]
    obtain ⟨a, B, sI, pins1, σ1, H1, cls, d, rfl, J1, nb, up, sky, na, os, ag, b, hb, hno, hyes⟩ := xx
    have J : Inv X pins σ1 H1 sI := J1.ofTry okX
    have skyX : Sky B (X.env :: X.outer) a (Zc cls d) X.env.locals s'.heap := hst ▸ sky
    refine Sky.land Zc.steady frX hfr0 skyX fun h3 fl3 up3 => ?_
    have land : ∀ h', HandSPX.FlyingZ B (X.env :: X.outer) a (Zc cls d) h' → s'.heap.UpToSlots h' → Inv X pins σ1 H1 { s' with heap := h' } := fun h' fl u => J.landed nb fl.1 (up.trans u) os ag
    have J3 := land h3 fl3 up3
    obtain ⟨oe3, vs3, he3, hz3, hd3⟩ := fl3.there
    have nfr : a ∉ frs (X.env :: X.outer) := fun m => by
      obtain ⟨_, o', e', q⟩ := fl3.2.2.1.mem m
      rw [he3] at e'
      cases e'
      exact q _ hd3
    have nL : a ≠ X.env.locals := fun z => nfr (List.mem_filterMap.mpr ⟨X.env, List.mem_cons_self, hfr0.trans (by rw [z])⟩)
    have nF : a ∉ X.fs := fun m => by
      obtain ⟨e, q1, q2⟩ := List.mem_filterMap.mp m
      exact nfr (List.mem_filterMap.mpr ⟨e, List.mem_cons_of_mem _ q1, q2⟩)
    obtain ⟨n0, npin⟩ := sky_new (W := Wout) (Z := Zc cls d) (L := a) (h := h3) (l := []) J nb fl3.2.1 (by rw [hst]; exact nfr) hex
    have S3 := J3.suite he3 hd3 na nL nF
    have LM := PySem.W.exm_one (M := model X.prog X.w) J3.kIn (fun A Q E s k q => wpAny_typeOf_ref (k _ _ he3) (by rw [hz3.1]; exact q)) hb
    have named : ∀ {Q : Value → Shared → Prop} {E : Value → Shared → Prop}, Q c { s' with heap := h3 } → wpAny (model X.prog X.w) (X.A.mark (some (.ref a))) (eval (.Name x np) X.env) Q E { s' with heap := h3 } := fun q => by
      obtain ⟨g1, g2, g3⟩ := hc
      rcases g3 with g3 | ⟨g3, g4, g5⟩
      · exact ld_glob (X := X.suite a ((a, oe3) :: (X.pn ++ pins))) S3 g1 g3 q g2
      · exact ld_blt (X := X.suite a ((a, oe3) :: (X.pn ++ pins))) S3 g1 g3 g4 q g5 g2
    rw [ehds]
    refine wpAny_handleBy_cons (codeAny_handlers_test (named (LM.here ?_))) (fun z => nomatch z)
    cases b with
    | false =>
      show wpAny _ X.A (handleBy (.ref a) X.env []) _ _ _
      obtain ⟨_, _, _, oe, vs, T, oT, _, he, hz, hd, h1, hr⟩ := id fl3
      have go : wpAny (model X.prog X.w) X.A (setFlight (.ref a) X.env.frame) (fun _ s4 => wpAny (model X.prog X.w) X.A (throw (.ref a) : Sem Flow) (SP X pins D) X.xe s4) X.xe { s' with heap := h3 } := by
        rw [hfr0]
        exact HandSPX.setFlight_upZ fl3 fun h4 hh4 up4 => wpAny_throw (tk _ _ ⟨a, B, sI, pins, σ1, H1, cls, d, rfl, J, nb, (up.trans up3).trans up4, .inr (.inr (hst ▸ hh4)), na, os, ag, hno rfl⟩)
      refine wpAny_handleBy_nil ?_
      unfold PySem.passOn
      refine wpAny_bind (wpAny_field he hd h1 ?_)
      rw [if_neg (show ¬ (Value.ref T == Value.none) = true from by simp)]
      first | exact wpAny_bind (wpAny_pure (wpAny_bind go)) | exact wpAny_bind go
    | true =>
      refine codeAny_handlers_suite_as (HandSPX.lands_againZ fl3 fun h4 fl4 up4 => ?_)
      obtain ⟨oe4, vs4, he4, hz4, hd4⟩ := fl4.there
      have S4 := (land h4 fl4 (up3.trans up4)).suite he4 hd4 na nL nF
      refine store_ok (X := X.suite a ((a, oe4) :: (X.pn ++ pins))) (v := .ref a) S4 nd hni (.inl hloc) rfl (fun s5 S5 => ?_) (.inr hloc)
      have end1 := (hsuite a oe4 cls d (X.pn ++ pins) hz4 ⟨_, hd4⟩).run [] s5 _ H1 _ S5 (hyes rfl a na)
      refine wpAny_mono end1 (fun f s6 sp => ?_) fun _ _ z => z.elim
      cases f with
      | next =>
        obtain ⟨σ6, H6, S6, q6⟩ := sp
        obtain ⟨p1, p2, _⟩ := S6.pin (a, oe4) (List.mem_append_left _ List.mem_cons_self)
        have J6 := Inv.tell (S6.unsuite okX) p1 hd4 p2 (Ne.symm nL) n0 npin
        rw [hz4.1, hz4.2] at J6
        exact gone_ok J6 nd hni hloc fun s7 J7 => ⟨_, _, J7, q6⟩
      | brk => exact sp.elim fun _ z => z.elim fun _ z => z.2.elim
      | cont => exact sp.elim fun _ z => z.elim fun _ z => z.2.elim
      | ret u => exact sp.elim fun _ z => z.elim fun _ z => z.elim fun _ z => z.2.2.elim
end

/-! ### the mirror's words: raise X("m"), try .. except M as e: c = e -/
def raiseM (x : Str) : MS := fun env => .ex ⟨x, none⟩ env
/-- i: the clause's own name, j: the name that keeps it; xs: the classes that the clause takes -/
def tryKM (i j : Nat) (xs : List Str) (m : MS) : MS := fun env => match m env with
  | .ex ⟨x, none⟩ e => if x ∈ xs ∧ i < e.length ∧ j < e.length then .nx ((e.set j (some (false, .nam true x))).set i none) else .no
  | .ex ⟨_, some _⟩ _ => .no
  | r => r
def tKeep (i j : Nat) : Addr → Value → Option Addr → TS := fun _ _ _ => tAsg (tVar i) (gName j)
/-- what the classes xs are, by the clause's class at c -/
structure Takers (K : PySem.W.Frag) (mg : Str → Option Value) (c : Value) (xs : List Str) : Prop where
  at_ : ∀ x ∈ xs, ∃ C : Addr, mg x = some (.ref C) ∧ PySem.W.nsIn K mainGlobals x = some (some (.ref C)) ∧ PySem.W.exmOne K (.ref C) c = some true
theorem Takers.one {K : PySem.W.Frag} {mg : Str → Option Value} {c : Value} {x : Str} {C : Addr} (h1 : mg x = some (.ref C)) (h2 : PySem.W.nsIn K mainGlobals x = some (some (.ref C))) (h3 : PySem.W.exmOne K (.ref C) c = some true) : Takers K mg c [x] where
  at_ := fun y m => by
    rw [List.mem_singleton.mp m]
    exact ⟨C, h1, h2, h3⟩
section
variable {K : PySem.W.Frag} {mg : Str → Option Value} {W : WX} {ps : List Nat} {ro : Bool} {i j : Nat} {xs : List Str} {m : MS} {tb : WX → TS} {c : Value}
/-- a slot is emptied -/
theorem Sta.putNo {B : Addr → Prop} {env : Env} {σ : St} {H : Hp} {F : List Addr} (S : Sta K B env σ H F) (hi : i < env.length) :
    ∃ F', Sta K B (env.set i none) (σ.set i none) H F' ∧ ∀ a ∈ F', a ∈ F := by
  obtain ⟨F1, Fi, F2, eF, _, g⟩ := S.rel.cut hi
  have sub : ∀ a ∈ F1 ++ F2, a ∈ F := fun a m => by
    rw [eF]
    simp only [List.mem_append] at m ⊢
    exact m.elim .inl fun m => .inr (.inr m)
  have ex : Ex (Fz B H F) (Fz B H (F1 ++ F2)) := fz_mk fun b o e m n => ⟨e, fun z => m (sub b z), n⟩
  have nd := S.nd
  rw [eF] at nd
  refine ⟨F1 ++ F2, ⟨(g H _ ex fun _ _ _ h => h).2.2 none, ?_, fun a m => S.liv a (sub a m), fun b h => ⟨(S.bad b h).1, fun z => (S.bad b h).2 (sub b z)⟩⟩, sub⟩
  simp only [List.nodup_append, List.mem_append] at nd ⊢
  grind
theorem es_raise {x : Str} {C : Addr} (hx : mg x = some (.ref C)) : EvS K mg W ps ro (fun _ σ H => W (.ref C) none σ H) (raiseM x) := fun B env σ H F D S h =>
  h (.ref C) none σ H F S .refl .refl ⟨hx, rfl⟩
theorem es_tryK (T : Takers K mg c xs) (hb : ∀ W', EvS K mg W' ps ro (tb W') m) (hij : i ≠ j) (hi : i ∉ ps) (hj : j ∉ ps) : EvS K mg W ps ro (fun D σ H => tb (wKept K c i (tKeep i j) W D) D σ H) (tryKM i j xs m) := fun B env σ H F D S h => by
  refine hb _ B env σ H F D S ?_
  unfold tryKM at h
  cases em : m env with
  | nx e => rw [em] at h; exact h
  | bk e => rw [em] at h; exact h
  | ct e => rw [em] at h; exact h
  | rt d e => rw [em] at h; exact h
  | no => rw [em] at h; exact h
  | ex x e =>
    obtain ⟨x, f⟩ := x
    rw [em] at h
    cases f with
    | some _ => exact h.elim
    | none =>
      dsimp only at h
      by_cases hx : x ∈ xs ∧ i < e.length ∧ j < e.length
      · rw [if_pos hx] at h
        obtain ⟨C, g1, g2, g3⟩ := T.at_ x hx.1
        intro cls dd σ1 H1 F1 S1 N1 k1 xx
        obtain ⟨x1, x2⟩ := xx
        dsimp only at x1 x2
        rw [g1] at x1
        cases x1
        subst x2
        refine ⟨true, g3, (fun z => nomatch z), fun _ a na => ?_⟩
        obtain ⟨_, li, lj⟩ := hx
        have hl : (σ1.set i (some (V.ref a)))[i]? = some (some (V.ref a)) := List.getElem?_set_self (by rw [← S1.lenE]; exact li)
        have S2 : Sta K B e σ1 (upd H1 a (trk (.ref C) none a)) F1 := S1.new na
        have hn := S1.nil.sub0 na
        rw [List.append_nil] at hn
        have rp : Rep K (Fz B (upd H1 a (trk (.ref C) none a)) F1) (.nam true x) (.ref a) := .exn g2 (by rw [fz_in hn.1 hn.2]; exact upd_same)
        obtain ⟨F2, S3, sub3⟩ := S2.putF (i := j) rp lj
        obtain ⟨F3, S4, sub4⟩ := Sta.putNo (i := i) S3 (by rw [List.length_set]; exact li)
        have N2 : Nxt H F (upd H1 a (trk (.ref C) none a)) F1 := N1.grow (ex_new na)
        refine ⟨.ref a, hl, ?_⟩
        show D.nx (((σ1.set i (some (V.ref a))).set j (some (V.ref a))).set i none) _
        rw [List.set_comm _ _ hij, List.set_set]
        exact h _ _ F3 S4 (N2.weak fun b m => sub3 b (sub4 b m)) ((k1.trans (.set hj)).trans (.set hi))
      · rw [if_neg hx] at h
        exact h.elim
end

/-! ### isinstance of a kept exception -/
/-- isinstance(a, c), a an exception that is told of; c a class or a tuple of classes -/
def rIsX (K : PySem.W.Frag) : List V → Hp → VK → Prop := fun xs H Q => ∃ (a C : Addr) (c : V) (b : Bool), xs = [.ref a, c] ∧ H a = some (ExK C a) ∧ ExcC K C ∧
  ((∃ u, ClsV c u ∧ PySem.W.kitOne K (.ref C) u = some b) ∨ ∃ (tp : Addr) (cs : List V) (us : List Value), c = .ref tp ∧ H tp = some (.tup cs) ∧ Paired ClsV cs us ∧ PySem.W.kitAny K (.ref C) us = some b) ∧ Q (.bl b) H
theorem call_isX_ {X : Cx} {K : PySem.W.Frag} (hK : X.K = K) : CallR X (.builtin "isinstance") (rIsX K) := by
  subst hK
  intro pins s σ H xs us Q I r h
  obtain ⟨a, C, c, b, rfl, hH, E, hc, q⟩ := h
  obtain ⟨u1, u2, rfl, r1, r2⟩ := vals2 r
  cases (show u1 = Value.ref a from r1)
  obtain ⟨⟨oe, vs, ha, h1, h2, h3⟩, _⟩ := (show ObjOk X.prog X.w H s.heap a (ExK C a) from I.hok a _ hH)
  have J : PySem.W.InstAt s.heap a oe C none := by
    obtain ⟨oc, od, oda, osl⟩ := oe
    dsimp only at h1 h2 h3
    subst h1 h2 h3
    exact ⟨ha, rfl, rfl, trivial⟩
  have Z := PySem.W.handS_kitx_exc (x := a) (ox := oe) E.hg E.hk E.hs E.hd E.ha E.hn E.ht E.hm
  rcases hc with ⟨u, k, e⟩ | ⟨tp, cs, ws, rfl, hT, k, e⟩
  · have e2 := k.eq r2
    subst e2
    exact PySem.W.kia_one (H := fun h => PySem.W.InstAt h a oe C none) Z I.kIn J e (fun z => nomatch z) fun tk => ⟨.bl b, H, I.tok tk, rfl, q⟩
  · cases (show u2 = Value.ref tp from r2)
    obtain ⟨_, its, rv, o, p1, p2, n, p3⟩ := (show ObjOk X.prog X.w H s.heap tp (.tup cs) from I.hok tp _ hT)
    have e3 := ClsV.all k rv
    subst e3
    obtain ⟨oc, od, dt, sl⟩ := o
    dsimp only at p2 p3
    subst p2 p3
    exact PySem.W.kia_tup (H := fun h => PySem.W.InstAt h a oe C none) Z I.kIn J p1 e (fun z => nomatch z) fun tk => ⟨.bl b, H, I.tok tk, rfl, q⟩
/-- which classes the class x0 is of: ys none of them -/
def xTab (x0 : Str) (ys : List Str) : D → Option Bool
  | .nam false y => if y = x0 then some true else if y ∈ ys then some false else none
  | .opq (.ty n) => if n = "ValueError" then some true else none
  | _ => none
def xAny (x0 : Str) (ys : List Str) : List D → Option Bool
  | [] => some false
  | d :: ds => match xTab x0 ys d with
    | some true => some true
    | some false => xAny x0 ys ds
    | none => none
def isXF (x0 : Str) (ys : List Str) : List D → Option D
  | [.nam true x, .tup ds] => if x = x0 ∧ ds.all (fun d => (xTab x0 ys d).isSome) = true then (xAny x0 ys ds).map .bl else none
  | [.nam true x, d] => if x = x0 then (xTab x0 ys d).map .bl else none
  | _ => none
/-- what the written part says of the class x0 at C -/
structure XT (K : PySem.W.Frag) (x0 : Str) (ys : List Str) : Prop where
  exc : ∀ C, PySem.W.nsIn K mainGlobals x0 = some (some (.ref C)) → ExcC K C
  val : ∀ C, PySem.W.nsIn K mainGlobals x0 = some (some (.ref C)) → PySem.W.kitOne K (.ref C) (.type "ValueError") = some true
  oth : ∀ C, PySem.W.nsIn K mainGlobals x0 = some (some (.ref C)) → ∀ y ∈ ys, ∀ D, PySem.W.nsIn K mainGlobals y = some (some (.ref D)) → PySem.W.kitOne K (.ref C) (.ref D) = some false
section
variable {K : PySem.W.Frag} {x0 : Str} {ys : List Str} {H : Hp}
theorem xTab_ok (T : XT K x0 ys) {C : Addr} (hC : PySem.W.nsIn K mainGlobals x0 = some (some (.ref C))) {d : D} {v : V} {b : Bool} (r : Rep K H d v) (e : xTab x0 ys d = some b) : ∃ u, ClsV v u ∧ PySem.W.kitOne K (.ref C) u = some b := by
  unfold xTab at e
  split at e
  · rename_i y
    cases r with
    | @cls _ D0 hD =>
      refine ⟨_, .own D0, ?_⟩
      split at e
      · rename_i hy
        cases e
        rw [hy, hC] at hD
        cases hD
        unfold PySem.W.kitOne
        rw [if_pos (beq_self_eq_true _)]
      · split at e
        · rename_i hm
          cases e
          exact T.oth C hC y hm D0 hD
        · cases e
  · rename_i n
    cases r
    split at e
    · rename_i hn
      cases e
      rw [hn]
      exact ⟨_, .ty _, T.val C hC⟩
    · cases e
  · cases e
theorem xAny_ok (T : XT K x0 ys) {C : Addr} (hC : PySem.W.nsIn K mainGlobals x0 = some (some (.ref C))) : ∀ {ds : List D} {vs : List V} {b : Bool}, RepL K H ds vs → ds.all (fun d => (xTab x0 ys d).isSome) = true → xAny x0 ys ds = some b → ∃ us, Paired ClsV vs us ∧ PySem.W.kitAny K (.ref C) us = some b
  | _, _, _, .nil, _, e => by cases e; exact ⟨[], .nil, rfl⟩
  | d :: ds, v :: vs, b, .cons r rr, al, e => by
    simp only [List.all_cons, Bool.and_eq_true] at al
    obtain ⟨a1, a2⟩ := al
    unfold xAny at e
    cases et : xTab x0 ys d with
    | none => rw [et] at a1; cases a1
    | some b1 =>
      rw [et] at e
      obtain ⟨u, cu, ku⟩ := xTab_ok T hC r et
      cases b1 with
      | false =>
        obtain ⟨us, p, k⟩ := xAny_ok T hC rr a2 e
        refine ⟨u :: us, .cons cu p, ?_⟩
        unfold PySem.W.kitAny
        rw [ku]
        exact k
      | true =>
        cases e
        cases ea : xAny x0 ys ds with
        | none =>
          exfalso
          clear ku cu
          have all : ∀ {ds : List D}, ds.all (fun d => (xTab x0 ys d).isSome) = true → xAny x0 ys ds ≠ none := fun {ds} => by
            induction ds with
            | nil => intro _ z; cases z
            | cons d ds ih =>
              intro al z
              simp only [List.all_cons, Bool.and_eq_true] at al
              unfold xAny at z
              cases e1 : xTab x0 ys d with
              | none => rw [e1] at al; cases al.1
              | some b2 =>
                rw [e1] at z
                cases b2 with
                | true => cases z
                | false => exact ih al.2 z
          exact all a2 ea
        | some b2 =>
          obtain ⟨us, p, _⟩ := xAny_ok T hC rr a2 ea
          refine ⟨u :: us, .cons cu p, ?_⟩
          unfold PySem.W.kitAny
          rw [ku]
theorem s_isX (T : XT K x0 ys) : OpS K (rIsX K) (isXF x0 ys) := fun H ds vs Q d R ef q => by
  unfold isXF at ef
  split at ef
  · rename_i x es
    obtain ⟨x1, y1, rfl, rx, ry⟩ := R.two_inv
    split at ef
    · rename_i hx
      obtain ⟨rfl, al⟩ := hx
      cases eb : xAny x ys es with
      | none => rw [eb] at ef; cases ef
      | some b =>
        rw [eb] at ef
        cases ef
        cases rx with
        | @exn _ C a hC hZ =>
          cases ry with
          | @tup tp us _ hT rr =>
            obtain ⟨ws, p, k⟩ := xAny_ok T hC rr al eb
            exact ⟨a, C, _, b, rfl, hZ, T.exc C hC, .inr ⟨tp, us, ws, rfl, hT, p, k⟩, q _ (.bl _)⟩
    · cases ef
  · rename_i x y _
    obtain ⟨x1, y1, rfl, rx, ry⟩ := R.two_inv
    split at ef
    · rename_i hx
      subst hx
      cases eb : xTab x ys y with
      | none => rw [eb] at ef; cases ef
      | some b =>
        rw [eb] at ef
        cases ef
        cases rx with
        | @exn _ C a hC hZ =>
          obtain ⟨u, p, k⟩ := xTab_ok T hC ry eb
          exact ⟨a, C, _, b, rfl, hZ, T.exc C hC, .inl ⟨u, p, k⟩, q _ (.bl _)⟩
    · cases ef
  · cases ef
theorem ev_cls {mg : Str → Option Value} {W : WX} {x : Str} {C : Addr} (h : PySem.W.nsIn K mainGlobals x = some (some (.ref C))) : EvE K mg W true (tC (.ref C)) (cM (.nam false x)) := ev_c fun _ => .cls h
end
end MM

set_option Elab.async false
set_option linter.all false
set_option maxRecDepth 100000
set_option maxHeartbeats 8000000
noncomputable section
namespace MM
open PySem PySem.Spec PyProof.Rows L2

/-! ### repr of lists that hold dicts of plain things -/
def keyP : Key → PyData
  | .inl i => .int i
  | .inr x => .str x
theorem key_reads {h : Heap} : ∀ {k : Key} {v : Value}, keyIs k v = true → Reads h v (keyP k) [] := fun {k v} e => by
  rcases keyIs_shape e with ⟨i, t, rfl, rfl⟩ | ⟨x, t, rfl, rfl⟩
  · exact Reads.int i t
  · exact Reads.str x t
def scP : D → Option PyData
  | .non => some .none
  | .bl b => some (.bool b)
  | .int i => some (.int i)
  | .str x => some (.str x)
  | _ => none
def scK : List (Key × D) → Option (List (PyData × PyData))
  | [] => some []
  | (k, d) :: ds => match scP d with
    | some y => match scK ds with
      | some ys => some ((keyP k, y) :: ys)
      | none => none
    | none => none
/-- what can be shown: without a dict, or a dict of plain things -/
def elP : D → Option PyData
  | .dK kvs => match scK kvs with
    | some ys => some (.dict ys)
    | none => none
  | d => match toPy d with
    | some p => if p.hasDict = false then some p else none
    | none => none
def elPs : List D → Option (List PyData)
  | [] => some []
  | d :: ds => match elP d with
    | some y => match elPs ds with
      | some ys => some (y :: ys)
      | none => none
    | none => none
section
variable {X : Cx} {pins : List (Addr × Obj)} {σ : St} {H : Hp} {s : Shared}
theorem sc_reads {h : Heap} {K : PySem.W.Frag} {d : D} {v : V} {p : PyData} {u : Value} (r : Rep K H d v) (e : scP d = some p) (rv : RelV v u) : Reads h u p [] := by
  cases r with
  | non => cases e; cases rv; exact Reads.none
  | bl b => cases e; cases rv; exact Reads.bool b
  | int i => cases e; obtain ⟨t, rfl⟩ := rv; exact Reads.int i t
  | str x => cases e; obtain ⟨t, rfl⟩ := rv; exact Reads.str x t
  | _ => cases e
theorem pairs_keys {P : Program} {w : World} : ∀ {es : List DictEntry} {vs : List (Key × Value)}, Pairs (mixKind P w) es vs → Paired (fun (e : DictEntry) (q : Key × Value) => keyIs q.1 e.key = true ∧ e.val = q.2) es vs
  | _, _, .nil => .nil
  | _, _, .cons h1 h2 r => .cons ⟨h1, h2⟩ (pairs_keys r)
theorem scK_reads {h : Heap} {K : PySem.W.Frag} : ∀ {ds : List (Key × D)} {kws : List (Key × V)} {ps : List (PyData × PyData)} {vs : List (Key × Value)} {es : List DictEntry}, RepK K H ds kws → scK ds = some ps → KV kws vs →
    Paired (fun (e : DictEntry) (q : Key × Value) => keyIs q.1 e.key = true ∧ e.val = q.2) es vs →
    ReadsAll h (es.map (·.key)) (ps.map (·.1)) [] ∧ ReadsAll h (es.map (·.val)) (ps.map (·.2)) []
  | _, _, _, _, _, .nil, e, kv, pr => by
    simp only [scK] at e
    cases e
    cases kv
    cases pr
    exact ⟨ReadsAll.nil, ReadsAll.nil⟩
  | _, _, _, _, _, .cons (k := k) hh t, e, kv, pr => by
    simp only [scK] at e
    split at e
    · rename_i y e1
      split at e
      · rename_i ys e2
        cases e
        cases kv with
        | cons r1 r2 =>
          cases pr with
          | cons p1 p2 =>
            obtain ⟨k1, v1⟩ := r1
            obtain ⟨k2, v2⟩ := p1
            dsimp only at k1 v1
            rw [← k1] at k2
            rw [← v2] at v1
            obtain ⟨q1, q2⟩ := scK_reads (h := h) t e2 r2 p2
            exact ⟨ReadsAll.cons (as := []) (key_reads k2) q1, ReadsAll.cons (as := []) (sc_reads hh e1 v1) q2⟩
      · cases e
    · cases e
theorem el_reads (I : Inv X pins σ H s) {d : D} {v : V} {p : PyData} {u : Value} (r : Rep X.K H d v) (e : elP d = some p) (rv : RelV v u) : ∃ as, Reads s.heap u p as ∧ (p.hasDict = true → sysModules ∉ as) := by
  by_cases hd : ∃ kvs, d = .dK kvs
  · obtain ⟨kvs, rfl⟩ := hd
    unfold elP at e
    dsimp only at e
    split at e
    · rename_i ys e1
      cases e
      cases r with
      | dK h rk =>
        cases rv
        obtain ⟨_, hns, vs, kv, o, es, ep, ho, hx, hd, _, pr, _⟩ := (show ObjOk X.prog X.w H s.heap _ (.dK _) from I.hok _ _ h)
        obtain ⟨q1, q2⟩ := scK_reads (h := s.heap) rk e1 kv (pairs_keys pr)
        refine ⟨_, Reads.dict ho hx.1 hd q1 q2, fun _ m => ?_⟩
        rw [List.append_nil, List.mem_singleton] at m
        rw [← m] at hns
        simp at hns
    · cases e
  · have e' : (match toPy d with | some p => if p.hasDict = false then some p else none | none => none) = some p := by
      unfold elP at e
      split at e
      · exact absurd ⟨_, rfl⟩ hd
      · exact e
    split at e'
    · rename_i p' e1
      split at e'
      · rename_i hn
        cases e'
        obtain ⟨as, q⟩ := Dp.reads I p v u (r.dp e1) rv
        exact ⟨as, q, fun z => by rw [hn] at z; cases z⟩
      · cases e'
    · cases e'
/-- things read one by one -/
inductive RdE (h : Heap) : List Value → List PyData → Prop
  | nil : RdE h [] []
  | cons {v : Value} {vs : List Value} {d : PyData} {ds : List PyData} {as : List Addr} : Reads h v d as → (d.hasDict = true → sysModules ∉ as) → RdE h vs ds → RdE h (v :: vs) (d :: ds)
theorem els_reads (I : Inv X pins σ H s) : ∀ {ds : List D} {vs : List V} {ps : List PyData} {us : List Value}, RepL X.K H ds vs → elPs ds = some ps → Vals vs us → RdE s.heap us ps
  | _, _, _, _, .nil, e, r => by
    simp only [elPs] at e
    cases e
    cases r
    exact .nil
  | _, _, _, _, .cons h t, e, r => by
    simp only [elPs] at e
    split at e
    · rename_i y e1
      split at e
      · rename_i ys e2
        cases e
        cases r with
        | cons r1 r2 =>
          obtain ⟨as, q1, q2⟩ := el_reads I h e1 r1
          exact .cons q1 q2 (els_reads I t e2 r2)
      · cases e
    · cases e
end
section
variable {prog : Program} {w : World} {h₀ : Heap}
theorem RdE.all : ∀ {vs : List Value} {ds : List PyData}, RdE h₀ vs ds → ∃ as, ReadsAll h₀ vs ds as
  | _, _, .nil => ⟨_, .nil⟩
  | _, _, .cons r _ t => by
    obtain ⟨as, q⟩ := RdE.all t
    exact ⟨_, .cons r q⟩
theorem RdE.shows : ∀ {vs : List Value} {ds : List PyData}, RdE h₀ vs ds → PyData.showableAll ds = true → (∀ t ∈ PyData.shownAll ds, t.length ≤ sizeLine) → ∃ bs, ReadAtMost h₀ (PyData.depthAll ds) bs ∧ ReprAllK prog w bs h₀ (PyData.depthAll ds) vs (PyData.shownAll ds)
  | _, _, .nil, _, _ => ⟨[], (fun _ h => nomatch h), by simp only [PyData.shownAll]; exact .nil⟩
  | _, _, .cons (d := d) (ds := ds) r n t, hs, hz => by
    simp only [PyData.showableAll, Bool.and_eq_true] at hs
    simp only [PyData.shownAll, List.mem_cons, forall_eq_or_imp] at hz
    obtain ⟨c1, m1, k1⟩ := ReprK.of_reads (prog := prog) (w := w) r hs.1 n hz.1
    obtain ⟨c2, m2, k2⟩ := RdE.shows t hs.2 hz.2
    have l1 : d.depth ≤ PyData.depthAll (d :: ds) := by simp only [PyData.depthAll]; omega
    have l2 : PyData.depthAll ds ≤ PyData.depthAll (d :: ds) := by simp only [PyData.depthAll]; omega
    refine ⟨c1 ++ c2, (m1.mono l1).append (m2.mono l2), ?_⟩
    simp only [PyData.shownAll]
    exact .cons ((k1.more fun b hb => List.mem_append_left _ hb).level_le l1) (k2.more_le (fun b hb => List.mem_append_right _ hb) l2)
/-- a list of such things is shown -/
theorem list_shown {A : Around} {E : Value → Shared → Prop} {s : Shared} {Q : Value → Shared → Prop} {a : Addr} {o : Obj} {l : List Value} {n : Nat} {xs : List PyData} (h1 : s.heap.get? a = some o) (h2 : o.cls = .type "list") (h3 : o.data = .seq l.toArray n)
    (r : RdE s.heap l xs) (hs : PyData.showableAll xs = true) (hz : (listText (PyData.shownAll xs)).length ≤ sizeLine) (hg : A.guards = some []) (hu : A.units + (PyData.depthAll xs + 2) < cLine)
    (hQ : ∀ h' u tk, (∀ b o, s.heap.get? b = some o → h'.get? b = some o) → Q (.str (listText (PyData.shownAll xs)) u) { s with heap := h', toks := tk }) : wpAny (model prog w) A (call (.builtin "repr") [.ref a]) Q E s := by
  obtain ⟨as, ra⟩ := r.all
  obtain ⟨bs, hb, hk⟩ := r.shows (prog := prog) (w := w) hs fun t ht => Nat.le_trans (listText_mem_le ht) hz
  have hna : a ∉ bs := not_mem_of_deeper (Reads.list h1 h2 h3 ra) (by simp only [PyData.depth]; omega) hb
  refine call_repr_slot (by omega) ⟨o, h1, h2⟩ F.slot_list_repr.toG ?_
  cases l with
  | nil =>
    cases ra
    refine call_list_repr_empty ⟨o, h1, h2⟩ h1 h3 ⟨_, _, rfl, ?_⟩
    have := hQ s.heap s.toks (s.toks + 1) fun _ _ e => e
    simp only [PyData.shownAll, listText_nil] at this
    exact this
  | cons x l =>
    exact call_list_reprK (A := A.in1) h1 h2 h3 hna (by simpa using hk.length_eq) (fun i y e => hk.item i y (by simpa using e)) hg (fun b _ => Clear.nil b) (by show A.units + 1 + _ < cLine; omega) (fun _ _ e => e) (fun h' u tk k => ⟨_, _, rfl, hQ h' u tk k⟩) hz
end
def ShowX (p : PyData) : Prop := p.showable = true ∧ p.depth ≤ 60 ∧ p.shown.length ≤ sizeLine
def rReprD (K : PySem.W.Frag) : List V → Hp → VK → Prop := fun xs H Q => ∃ (a : Addr) (ds : List D) (vs : List V) (ps : List PyData), xs = [.ref a] ∧ H a = some (.lst vs) ∧ RepL K H ds vs ∧ elPs ds = some ps ∧ ShowX (.list ps) ∧ Q (.str (PyData.list ps).shown) H
theorem call_reprD {X : Cx} {K : PySem.W.Frag} (hK : X.K = K) (hg : X.A.guards = some []) (hu : X.A.units + 65 < cLine) : CallR X (.builtin "repr") (rReprD K) := by
  subst hK
  intro pins s σ H xs us Q I r q
  obtain ⟨a, ds, vs, ps, rfl, hH, hd, hp, hsx, q⟩ := q
  obtain ⟨u, eu, rx⟩ := vals1 r
  subst eu
  cases rx
  obtain ⟨_, its, n, rv, h1⟩ := (show ObjOk X.prog X.w H s.heap a (.lst vs) from I.hok a _ hH)
  have rd := els_reads I hd hp rv
  have hs1 := hsx.1
  have hs2 := hsx.2.1
  have hs3 := hsx.2.2
  simp only [PyData.showable] at hs1
  simp only [PyData.depth] at hs2
  simp only [PyData.shown] at hs3 q
  exact list_shown h1 rfl rfl rd hs1 hs3 hg (by omega) fun h' u tk hk => ⟨.str _, H, I.kept (t' := tk) hk, ⟨_, rfl⟩, q⟩
open Classical in
def reprDF : List D → Option D
  | [.lst xs] => match elPs xs with
    | some ps => if ShowX (.list ps) then some (.str (PyData.list ps).shown) else none
    | none => none
  | _ => none
theorem s_reprD {K : PySem.W.Frag} : OpS K (rReprD K) reprDF := fun H ds vs Q d R ef q => by
  unfold reprDF at ef
  split at ef
  · rename_i xs
    obtain ⟨x, rfl, rx⟩ := R.one_inv
    split at ef
    · rename_i ps ep
      split at ef
      · rename_i hs
        cases ef
        cases rx with
        | lst h r => exact ⟨_, _, _, _, rfl, h, r, ep, hs, q _ (.str _)⟩
      · cases ef
    · cases ef
  · cases ef
end MM

set_option Elab.async false
set_option linter.all false
set_option maxRecDepth 100000
set_option maxHeartbeats 8000000
noncomputable section
namespace MM
open PySem PySem.Spec PyProof.Rows L2

/-! ### repr of anything that can be shown; str of a tuple -/
def rReprA (K : PySem.W.Frag) : List V → Hp → VK → Prop := fun xs H Q => ∃ (x : V) (d : D) (p : PyData), xs = [x] ∧ Rep K H d x ∧ elP d = some p ∧ ShowX p ∧ Q (.str p.shown) H
section
variable {X : Cx} {K : PySem.W.Frag}
theorem call_reprA (hK : X.K = K) (hg : X.A.guards = some []) (hu : X.A.units + 65 < cLine) : CallR X (.builtin "repr") (rReprA K) := by
  subst hK
  intro pins s σ H xs us Q I r q
  obtain ⟨x, d, p, rfl, hd, hp, hsx, q⟩ := q
  obtain ⟨u, eu, rx⟩ := vals1 r
  subst eu
  have ref : ∀ {a : Addr}, x = .ref a → wpAny (model X.prog X.w) X.A (call (.builtin "repr") [u]) (EP X pins σ Q) X.xe s := fun {a} e => by
    subst e
    obtain ⟨as, rr, ns⟩ := el_reads I hd hp rx
    cases rx
    exact repr_of_reads' rr hsx.1 ns hg (by have := hsx.2.1; omega) (fun _ _ e => e) (fun h' u tk hk => ⟨.str p.shown, H, I.kept (t' := tk) hk, ⟨_, rfl⟩, q⟩) hsx.2.2
  cases hd with
  | non =>
    simp [elP, toPy, PyData.hasDict] at hp
    cases hp
    cases rx
    exact P.repr_of_none ⟨.str _, H, I.tok _, ⟨_, rfl⟩, q⟩
  | bl b =>
    simp [elP, toPy, PyData.hasDict] at hp
    cases hp
    cases rx
    refine P.repr_of_bool ⟨.str _, H, I.tok _, ⟨_, rfl⟩, ?_⟩
    simp only [PyData.shown] at q
    exact q
  | int i =>
    simp [elP, toPy, PyData.hasDict] at hp
    cases hp
    obtain ⟨t, rfl⟩ := rx
    refine P.repr_of_int (by have := hsx.1; rw [PyData.showable] at this; exact of_decide_eq_true this) ⟨.str _, H, I.tok _, ⟨_, rfl⟩, ?_⟩
    simp only [PyData.shown] at q
    exact q
  | str y =>
    simp [elP, toPy, PyData.hasDict] at hp
    cases hp
    obtain ⟨t, rfl⟩ := rx
    have hz := hsx.2.2
    simp only [PyData.shown] at q hz
    exact P.repr_of_str ⟨.str _, H, I.tok _, ⟨_, rfl⟩, q⟩ hz
  | lst h r => exact ref rfl
  | tup h r => exact ref rfl
  | dK h r => exact ref rfl
  | dT _ _ => simp [elP, toPy] at hp
  | dTf _ _ => simp [elP, toPy] at hp
  | scr _ => exact ref rfl
  | opq _ => simp [elP, toPy] at hp
  | cls _ => simp [elP, toPy] at hp
  | exn _ _ => simp [elP, toPy] at hp
  | xn _ _ _ => simp [elP, toPy] at hp
  | deep _ => simp [elP, toPy] at hp
end
open Classical in
def reprAF : List D → Option D
  | [d] => match elP d with
    | some p => if ShowX p then some (.str p.shown) else none
    | none => none
  | _ => none
theorem s_reprA {K : PySem.W.Frag} : OpS K (rReprA K) reprAF := fun H ds vs Q d R ef q => by
  unfold reprAF at ef
  split at ef
  · rename_i d0
    obtain ⟨x, rfl, rx⟩ := R.one_inv
    split at ef
    · rename_i p ep
      split at ef
      · rename_i hs
        cases ef
        exact ⟨x, d0, p, rfl, rx, ep, hs, q _ (.str _)⟩
      · cases ef
    · cases ef
  · cases ef
/-! ### str of a number or a tuple -/
def strP : D → Option PyData
  | .int i => some (.int i)
  | .tup xs => elP (.tup xs)
  | _ => none
def rStrA (K : PySem.W.Frag) : List V → Hp → VK → Prop := fun xs H Q => ∃ (x : V) (d : D) (p : PyData), xs = [x] ∧ Rep K H d x ∧ strP d = some p ∧ ShowX p ∧ Q (.str p.shown) H
theorem call_strA {X : Cx} {K : PySem.W.Frag} (hK : X.K = K) (hg : X.A.guards = some []) (hu : X.A.units + 65 < cLine) : CallR X (.type "str") (rStrA K) := by
  subst hK
  intro pins s σ H xs us Q I r q
  obtain ⟨x, d, p, rfl, hd, hp, hsx, q⟩ := q
  obtain ⟨u, eu, rx⟩ := vals1 r
  subst eu
  cases d with
  | int i =>
    cases hp
    cases hd
    obtain ⟨t, rfl⟩ := rx
    refine P.str_of_int (by have := hsx.1; rw [PyData.showable] at this; exact of_decide_eq_true this) ⟨.str _, H, I.tok _, ⟨_, rfl⟩, ?_⟩
    simp only [PyData.shown] at q
    exact q
  | tup xs =>
    have hp : elP (.tup xs) = some p := hp
    obtain ⟨as, rr, ns⟩ := el_reads I hd hp rx
    cases hd
    cases rx
    exact str_of_reads rr hsx.1 ns hg (by have := hsx.2.1; omega) (fun _ _ e => e) (fun h' u tk hk => ⟨.str p.shown, H, I.kept (t' := tk) hk, ⟨_, rfl⟩, q⟩) hsx.2.2
  | _ => cases hp
open Classical in
def strAF : List D → Option D
  | [d] => match strP d with
    | some p => if ShowX p then some (.str p.shown) else none
    | none => none
  | _ => none
theorem s_strA {K : PySem.W.Frag} : OpS K (rStrA K) strAF := fun H ds vs Q d R ef q => by
  unfold strAF at ef
  split at ef
  · rename_i d0
    obtain ⟨x, rfl, rx⟩ := R.one_inv
    split at ef
    · rename_i p ep
      split at ef
      · rename_i hs
        cases ef
        exact ⟨x, d0, p, rfl, rx, ep, hs, q _ (.str _)⟩
      · cases ef
    · cases ef
  · cases ef
end MM

set_option Elab.async false
set_option linter.all false
set_option maxRecDepth 100000
set_option maxHeartbeats 8000000
noncomputable section
namespace MM
open PySem PySem.Spec PyProof.Rows L2

/-! ### sorted(t), t a tuple of ints -/
section
variable {P : Program} {w : World} {A : Around} {E : Value → Shared → Prop} {s : Shared}
theorem sorted_tupI {a : Addr} {o : Obj} {items : Array Value} {n : Nat} {ns : List Int} {Q : Value → Shared → Prop} (ho : s.heap.get? a = some o) (hc : o.cls = .type "tuple") (hd : o.data = .seq items n) (hI : IntsAre items.toList ns) (h64 : items.size < 64)
    (hQ : ∀ (h1 h' : Heap) (p : Addr) (out : Array Value) (c : Nat) (ns' : List Int), (∀ b u, s.heap.get? b = some u → h1.get? b = some u) → (∀ b u, h1.get? b = some u → h'.get? b = some u) → h1.objs.size ≤ p →
      h'.get? p = some (seqObj "list" out c) → IntsAre out.toList ns' → ns'.Perm ns → ns'.Pairwise (· ≤ ·) → Q (.ref p) { s with heap := h' }) :
    wpAny (model P w) A (call (.builtin "sorted") [.ref a]) Q E s := by
  refine Calls.call_function_entry (kind_sorted) plain_sorted (entry_sorted) (args_sorted1 _) ?_
  unfold Builtin.«sorted»
  refine wpAny_bind (m := checkCount ("sorted") 1 1 _) (wpAny_pure ?_)
  refine wpAny_bind (wpAny_collect_seq a (.inr rfl) ho hc hd (fun h1 k1 => ?_) (by rw [sizeLine_eq]; omega))
  refine wpAny_bind (wpAny_newList ?_ (by rw [Array.length_toList, sizeLine_eq]; omega))
  have hoL : (h1.push (seqObj "list" items 0)).get? h1.objs.size = some (seqObj "list" items 0) := Heap.get?_push_size _ rfl
  have hit : items.toList.toArray = items := by simp
  refine wpAny_bind (wpAny_holding (wpAny_call_entry (slot_list_sort) ⟨_, hoL, rfl⟩ (entry_list_sort) (list_sort_tree (vs := items.toList) (by rw [hit]; exact hoL) hI (by rw [Array.length_toList]; exact h64) fun out ns' a1 a2 a3 => ⟨_, rfl, ?_⟩) (args_list_sort _)))
  obtain ⟨c, hcc⟩ := sortedHeap_at (vs := items.toList) (out := out) (by rw [hit]; exact hoL)
  refine wpAny_pure ⟨_, rfl, hQ h1 _ h1.objs.size out c ns' k1 (fun b u q => ?_) (Nat.le_refl _) hcc a1 a2 a3⟩
  have hlt := Heap.lt_size q
  rw [sortedHeap_old (Nat.ne_of_lt hlt) (by rw [size_push']; exact Nat.lt_succ_of_lt hlt)]
  exact Heap.get?_push_of_some _ q
end
def rSortT (K : PySem.W.Frag) : List V → Hp → VK → Prop := fun vs H Q => ∃ (l : Addr) (ns : List Int), vs = [.ref l] ∧ SqT K H l (ns.map V.int) ∧ ns.length < 64 ∧
  ∀ (ns' : List Int) (p : Addr), ns'.Perm ns → ns'.Pairwise (· ≤ ·) → H p = none → Q (.ref p) (upd H p (.lst (ns'.map V.int)))
theorem cr_sortT {X : Cx} {K : PySem.W.Frag} (hK : X.K = K) : CallR X (.builtin "sorted") (rSortT K) := by
  subst hK
  intro pins s σ H vs us Q I r h
  obtain ⟨l, ns, rfl, hq, hl, q⟩ := h
  obtain ⟨u, eu, rx⟩ := vals1 r
  subst eu
  cases rx
  obtain ⟨its, rv, hit, hz⟩ := I.tuple hq
  have hln : its.toArray.size = ns.length := by rw [List.size_toArray, ← rv.length, List.length_map]
  obtain ⟨o, ho, hc, n, hd⟩ : s.heap.IsTuple l its.toArray := hit
  refine sorted_tupI ho hc hd (by simpa using rv.ints) (by omega) fun h1 h' p out c ns' k1 k2 hp hcc a1 a2 a3 => ?_
  have I1 : Inv X pins σ H { s with heap := h1, toks := s.toks } := I.kept k1
  have hlen : (ns'.map V.int).length ≤ sizeLine := by rw [List.length_map, a2.length_eq, sizeLine_eq]; omega
  exact ⟨.ref p, upd H p (.lst (ns'.map V.int)), I1.laid (t' := s.toks) k2 hp ⟨hlen, out.toList, c, vals_of_ints a1, hcc⟩, rfl, q _ _ a2 a3 (I1.hok.fresh hp)⟩
def sortTF : List D → Option D
  | [.tup ds] => match intsOf ds with
    | some ns => if ns.length < 64 then some (.lst ((isort ns).map .int)) else none
    | none => none
  | _ => none
theorem n_sortT {K : PySem.W.Frag} : OpN K (rSortT K) sortTF := fun Z H ds vs Q d ez R ef q ql qt => by
  unfold sortTF at ef
  split at ef
  · obtain ⟨x, rfl, rx⟩ := R.one_inv
    split at ef
    · rename_i ns en
      split at ef
      · rename_i hz
        cases ef
        cases rx with
        | tup h r =>
          refine ⟨_, ns, rfl, .of (by rw [← intsOf_rep r en]; exact ez _ _ h), hz, fun out p hp hs new => ?_⟩
          rw [isort_of hp hs]
          exact ql _ p _ rfl new (repL_isort _)
      · cases ef
    · cases ef
  · cases ef
/-! ### t[::-1], t a tuple -/
section
variable {prog : Program} {w : World} {A : Around} {E : Value → Shared → Prop} {s : Shared}
theorem sliceApplied_rev {sl : Addr} {vs : Value} {n : Nat} {Q : Int × Int × Nat → Shared → Prop} (hs : s.heap.IsSliceOf sl .none .none vs) (ps : IsPart vs (some (-1)))
    (h : Q ((n : Int) - 1, -1, n) s) : wpAny (model prog w) A (Builtin.Slice.sliceApplied (.ref sl) (pure (n : Int))) Q E s := by
  obtain ⟨os, hos, hcs, hds⟩ := (hs)
  unfold Builtin.Slice.sliceApplied Builtin.Slice.sliceFields
  refine wpAny_bind (wpAny_bind (wpAny_field hos hds (x := .none) rfl (wpAny_bind (wpAny_field hos hds (x := .none) rfl (wpAny_bind (wpAny_field hos hds (x := vs) rfl (wpAny_pure ?_)))))))
  refine wpAny_bind (HT.slicePart_ ps ?_)
  show wpAny _ _ (if ((-1 : Int) == 0) = true then _ else _) _ _ s
  rw [if_neg (by decide)]
  refine wpAny_bind (HT.slicePart_ .none (wpAny_bind (HT.slicePart_ .none (wpAny_bind (wpAny_pure ?_)))))
  have e1 : Builtin.Slice.sliceAdjust none none (-1) (n : Int) = ((n : Int) - 1, -1) := by
    unfold Builtin.Slice.sliceAdjust
    simp
  have e2 : Builtin.Slice.slicePlaces ((n : Int) - 1) (-1) (-1) = n := by
    unfold Builtin.Slice.slicePlaces
    have h1 : ¬ (-1 : Int) > 0 := by omega
    simp only [h1, if_false]
    by_cases z : n = 0
    · subst z; simp
    · have h2 : (-1 : Int) < (n : Int) - 1 := by omega
      simp
      omega
  show wpAny _ _ (match Builtin.Slice.sliceAdjust none none (-1) (n : Int) with | (lo, hi) => pure (lo, (-1 : Int), Builtin.Slice.slicePlaces lo hi (-1))) _ _ s
  rw [e1]
  show wpAny _ _ (pure ((n : Int) - 1, (-1 : Int), Builtin.Slice.slicePlaces ((n : Int) - 1) (-1) (-1))) _ _ s
  rw [e2]
  exact wpAny_pure h
theorem fm_congr {α β : Type} {f g : α → Option β} : ∀ {l : List α}, (∀ x ∈ l, f x = g x) → l.filterMap f = l.filterMap g
  | [], _ => rfl
  | x :: l, h => by
    have ih := fm_congr (l := l) fun y hy => h y (List.mem_cons_of_mem _ hy)
    rw [List.filterMap_cons, List.filterMap_cons, h x List.mem_cons_self, ih]
theorem pick_rev (xs : Array Value) : ((List.range xs.size).filterMap fun (k : Nat) => xs[((xs.size : Int) - 1 + (k : Int) * -1).toNat]?).toArray = xs.toList.reverse.toArray := by
  have e : (List.range xs.size).filterMap (fun (k : Nat) => xs[((xs.size : Int) - 1 + (k : Int) * -1).toNat]?) = (List.range xs.size).filterMap fun k => xs[xs.size - 1 - k]? := by
    refine fm_congr fun k hk => ?_
    have := List.mem_range.mp hk
    rw [show ((xs.size : Int) - 1 + (k : Int) * -1).toNat = xs.size - 1 - k by omega]
  have e2 : (List.range xs.size).filterMap (fun k => xs[xs.size - 1 - k]?) = ((List.range xs.size).map fun k => xs.size - 1 - k).filterMap (xs[·]?) := by
    rw [List.filterMap_map]
    rfl
  rw [e, e2, PySem.W.krv_range, List.filterMap_reverse, PySem.W.krv_all]
theorem getItem_tuple_rev {t sl : Addr} {items : Array Value} {vs : Value} {Q : Value → Shared → Prop} (ht : IsTup s.heap t items) (hs : s.heap.IsSliceOf sl .none .none vs) (ps : IsPart vs (some (-1)))
    (h : Q (.ref s.heap.objs.size) { s with heap := s.heap.push { cls := .type "tuple", data := .seq items.toList.reverse.toArray } })
    (hsz : items.size ≤ sizeLine) : wpAny (model prog w) A (getItem (.ref t) (.ref sl)) Q E s := by
  have hz : sizeOk (.seq items.toList.reverse.toArray) := by
    show items.toList.reverse.toArray.size ≤ sizeLine
    rw [List.size_toArray, List.length_reverse, Array.length_toList]
    exact hsz
  obtain ⟨os, hos, hcs, hds⟩ := (id hs)
  have hTs : s.TypeIs (.ref sl) "slice" := (⟨os, hos, hcs⟩)
  unfold getItem
  try with_reducible refine (wpAny_holding ?_)
  first | refine (wpAny_bind (wpAny_pure ?_)) | skip
  refine (wpAny_bind (wpAny_sequenceKey ht.typeIs (by decide) ?_))
  refine wpAny_bind (wpAny_callSpecial?_slot (name := Str.ofString ("__getitem__")) ht.typeIs (PyProof.Rows.slot_tuple_getitem)
    (wpAny_call_entry (PyProof.Rows.slot_tuple_getitem) ht.typeIs (entry_tuple_getitem) ?_ (args_tuple_getitem _ _)))
  show wpAny _ _ (Builtin.Tuple.tupleItemsOf (.ref t) >>= (_)) _ _ s
  refine (wpAny_bind (tupleItemsOf_ ht ?_))
  refine (wpAny_bind (wpAny_typeOf hTs ?_))
  rw [if_pos (by decide)]
  refine wpAny_bind (sliceApplied_rev hs ps ?_)
  have hno : ¬ ((((items.size : Int) - 1) == 0 && (-1 : Int) == 1 && items.size == items.size) = true) := by simp
  show wpAny _ _ (if (((items.size : Int) - 1) == 0 && (-1 : Int) == 1 && items.size == items.size) = true then _ else _) _ _ s
  rw [if_neg hno, pick_rev]
  first
    | exact (wpAny_bind (m := Builtin.Tuple.tupleExact _) (wpAny_newObj_type (wpAny_pure ⟨_, rfl, wpAny_pure h⟩) hz))
    | exact (wpAny_bind (m := Builtin.Tuple.tupleExact _) (wpAny_newObj_type (wpAny_bind (wpAny_pure (wpAny_pure ⟨_, rfl, wpAny_pure h⟩))) hz))
    | exact (wpAny_bind (wpAny_bind (m := Builtin.Tuple.tupleExact _) (wpAny_newObj_type (wpAny_pure (wpAny_pure ⟨_, rfl, wpAny_pure h⟩)) hz)))
    | exact (wpAny_bind (wpAny_bind (m := Builtin.Tuple.tupleExact _) (wpAny_newObj_type (wpAny_pure ⟨_, rfl, wpAny_pure h⟩) hz)))
end
def tRevT (K : PySem.W.Frag) (te : TE) : TE := fun σ H Q => te σ H fun x H1 => ∃ a xs, x = .ref a ∧ SqT K H1 a xs ∧ ∀ p, H1 p = none → Q (.ref p) (upd H1 p (.tup xs.reverse))
theorem pe_revT {X : Cx} {e : Expr} {te : TE} {k : Nat} {p1 p2 p3 pos : Pos} (he : PE X e te) : PE X (.Subscript e (.Slice none none (some (.UnaryOp .USub (.Constant (.int 1) k p1) p2)) p3) pos) (tRevT X.K te) := by
  refine ⟨fun pins s σ H Q I h => ?_⟩
  refine Subscript_ (thn (he.run pins s σ H _ I h) fun v s1 ⟨x, H1, I1, r1, q1⟩ => ?_)
  obtain ⟨a, xs, ex, hx, q⟩ := q1
  subst ex
  cases r1
  have hst : PO X (some (.UnaryOp .USub (.Constant (.int 1) k p1) p2)) (tPart (tUn (rU fun i => .int (-i)) (tC (.int 1)))) := (po_some (pe_un un_neg pe_int))
  refine wpAny_Slice (thn (po_none.run pins s1 σ H1 (fun o H2 => o = none ∧ H2 = H1) I1 ⟨rfl, rfl⟩) fun vl s2 ⟨l, H2, I2, pl, el, e2⟩ => ?_)
  subst el e2
  refine thn (po_none.run pins s2 σ H2 (fun o H3 => o = none ∧ H3 = H2) I2 ⟨rfl, rfl⟩) fun vu s3 ⟨u, H3, I3, pu, eu, e3⟩ => ?_
  subst eu e3
  refine thn (hst.run pins s3 σ H3 (fun o H4 => o = some (-1) ∧ H4 = H3) I3 ⟨1, rfl, -1, rfl, rfl, rfl⟩) fun vs s4 ⟨o, H4, I4, ps, eo, e4⟩ => ?_
  subst eo e4
  have I5 : Inv X pins σ H4 { s4 with heap := s4.heap.push { cls := .type "slice", data := .fields #[vl, vu, vs] } } := I4.kept (t' := s4.toks) fun b ob q => (Heap.get?_push_of_some _ q)
  obtain ⟨its, r, ht, hz⟩ := I5.tuple hx
  have hlen := r.length
  cases pl
  cases pu
  show wpAny (model X.prog X.w) X.A (subscriptTail e (.Slice none none (some (.UnaryOp .USub (.Constant (.int 1) k p1) p2)) p3) (.ref a) (.ref s4.heap.objs.size)) (EP X pins σ Q) X.xe { s4 with heap := s4.heap.push { cls := .type "slice", data := .fields #[.none, .none, vs] } }
  refine tail_any (ops := [.ref a, .ref s4.heap.objs.size]) ht.typeIs (PyProof.Rows.slot_tuple_getitem.lookup) ?_ (by with_unfolding_all rfl)
  refine getItem_tuple_rev ht (Heap.IsSliceOf.new _ _ _ vs) ps ?_ (by rw [List.size_toArray]; omega)
  refine ⟨.ref _, _, I5.laid (t' := s4.toks) (o := .tup xs.reverse) (fun b ob q => (Heap.get?_push_of_some _ q)) (Nat.le_refl _) ?_, rfl, q _ (I5.hok.fresh (Nat.le_refl _))⟩
  exact ⟨by rw [List.length_reverse]; exact hz, _, r.reverse, IsTup.new _ _⟩
def revTF : List D → Option D
  | [.tup ds] => some (.tup ds.reverse)
  | _ => none
def rRevT1 (K : PySem.W.Frag) : List V → Hp → VK → Prop := fun vs H Q => match vs with
  | [x] => ∃ a xs, x = .ref a ∧ SqT K H a xs ∧ ∀ p, H p = none → Q (.ref p) (upd H p (.tup xs.reverse))
  | _ => False
theorem g_revT {K : PySem.W.Frag} : OpN K (rRevT1 K) revTF := fun Z H ds vs Q d ez R ef q ql qt => by
  unfold revTF at ef
  split at ef
  · obtain ⟨x, rfl, rx⟩ := R.one_inv
    cases ef
    cases rx with
    | tup h r => exact ⟨_, _, rfl, .of (ez _ _ h), fun l hl => qt _ l _ rfl hl (repL_rev r)⟩
  · cases ef
theorem en_revT {K : PySem.W.Frag} {mg : Str → Option Value} {W : WX} {p : Bool} {te : TE} {m : M D} (ha : EvE K mg W p te m) : EvN K mg W p (tRevT K te) (opM revTF (consM m nilM)) := by
  have h1 : EvA K mg W p (tCons te tNil) (consM m nilM) := by
    have := ea_cons ha (ea_nil (K := K) (mg := mg) (W := W))
    rwa [Bool.and_true] at this
  exact en_n (tA := tCons te tNil) g_revT h1 fun σ H Q h => h
end MM

set_option Elab.async false
set_option linter.all false
set_option maxRecDepth 100000
set_option maxHeartbeats 8000000
noncomputable section
namespace MM
open PySem PySem.Spec PyProof.Rows L2

/-! ### repr of lists that hold dicts, or tuples of plain things and dicts -/
def scD : D → Option PyData
  | .dK kvs => match scK kvs with
    | some ys => some (.dict ys)
    | none => none
  | d => scP d
def scDs : List D → Option (List PyData)
  | [] => some []
  | d :: ds => match scD d with
    | some y => match scDs ds with
      | some ys => some (y :: ys)
      | none => none
    | none => none
def elQ (d : D) : Option PyData := match elP d with
  | some p => some p
  | none => match d with
    | .tup xs => match scDs xs with
      | some ps => some (.tuple ps)
      | none => none
    | _ => none
def elQs : List D → Option (List PyData)
  | [] => some []
  | d :: ds => match elQ d with
    | some y => match elQs ds with
      | some ys => some (y :: ys)
      | none => none
    | none => none
section
variable {X : Cx} {pins : List (Addr × Obj)} {σ : St} {H : Hp} {s : Shared}
theorem scD_reads (I : Inv X pins σ H s) {d : D} {v : V} {p : PyData} {u : Value} (r : Rep X.K H d v) (e : scD d = some p) (rv : RelV v u) : ∃ as, Reads s.heap u p as ∧ sysModules ∉ as := by
  by_cases hd : ∃ kvs, d = .dK kvs
  · obtain ⟨kvs, rfl⟩ := hd
    unfold scD at e
    dsimp only at e
    split at e
    · rename_i ys e1
      cases e
      obtain ⟨as, q1, q2⟩ := el_reads I r (show elP (.dK kvs) = some (.dict ys) by unfold elP; dsimp only; rw [e1]) rv
      exact ⟨as, q1, q2 (by rw [PyData.hasDict])⟩
    · cases e
  · have e' : scP d = some p := by
      unfold scD at e
      split at e
      · exact absurd ⟨_, rfl⟩ hd
      · exact e
    exact ⟨[], sc_reads r e' rv, fun z => nomatch z⟩
theorem scDs_reads (I : Inv X pins σ H s) : ∀ {ds : List D} {vs : List V} {ps : List PyData} {us : List Value}, RepL X.K H ds vs → scDs ds = some ps → Vals vs us → ∃ as, ReadsAll s.heap us ps as ∧ sysModules ∉ as
  | _, _, _, _, .nil, e, r => by
    simp only [scDs] at e
    cases e
    cases r
    exact ⟨[], .nil, fun z => nomatch z⟩
  | _, _, _, _, .cons h t, e, r => by
    simp only [scDs] at e
    split at e
    · rename_i y e1
      split at e
      · rename_i ys e2
        cases e
        cases r with
        | cons r1 r2 =>
          obtain ⟨as, q1, q2⟩ := scD_reads I h e1 r1
          obtain ⟨bs, q3, q4⟩ := scDs_reads I t e2 r2
          exact ⟨_, .cons q1 q3, fun z => (List.mem_append.mp z).elim q2 q4⟩
      · cases e
    · cases e
theorem elQ_reads (I : Inv X pins σ H s) {d : D} {v : V} {p : PyData} {u : Value} (r : Rep X.K H d v) (e : elQ d = some p) (rv : RelV v u) : ∃ as, Reads s.heap u p as ∧ (p.hasDict = true → sysModules ∉ as) := by
  unfold elQ at e
  split at e
  · rename_i p' e1
    cases e
    exact el_reads I r e1 rv
  · split at e
    · rename_i xs e0
      split at e
      · rename_i ps e1
        cases e
        cases r with
        | tup h rr =>
          cases rv
          obtain ⟨its, rvs, ⟨o, ho, hc, n, hd⟩, _⟩ := I.tuple (.of h)
          obtain ⟨as, q1, q2⟩ := scDs_reads I rr e1 rvs
          exact ⟨as, .tuple ho hc hd q1, fun _ => q2⟩
      · cases e
    · cases e
theorem elQs_reads (I : Inv X pins σ H s) : ∀ {ds : List D} {vs : List V} {ps : List PyData} {us : List Value}, RepL X.K H ds vs → elQs ds = some ps → Vals vs us → RdE s.heap us ps
  | _, _, _, _, .nil, e, r => by
    simp only [elQs] at e
    cases e
    cases r
    exact .nil
  | _, _, _, _, .cons h t, e, r => by
    simp only [elQs] at e
    split at e
    · rename_i y e1
      split at e
      · rename_i ys e2
        cases e
        cases r with
        | cons r1 r2 =>
          obtain ⟨as, q1, q2⟩ := elQ_reads I h e1 r1
          exact .cons q1 q2 (elQs_reads I t e2 r2)
      · cases e
    · cases e
end
def rReprQ (K : PySem.W.Frag) : List V → Hp → VK → Prop := fun xs H Q => ∃ (a : Addr) (ds : List D) (vs : List V) (ps : List PyData), xs = [.ref a] ∧ H a = some (.lst vs) ∧ RepL K H ds vs ∧ elQs ds = some ps ∧ ShowX (.list ps) ∧ Q (.str (PyData.list ps).shown) H
theorem call_reprQ {X : Cx} {K : PySem.W.Frag} (hK : X.K = K) (hg : X.A.guards = some []) (hu : X.A.units + 65 < cLine) : CallR X (.builtin "repr") (rReprQ K) := by
  subst hK
  intro pins s σ H xs us Q I r q
  obtain ⟨a, ds, vs, ps, rfl, hH, hd, hp, hsx, q⟩ := q
  obtain ⟨u, eu, rx⟩ := vals1 r
  subst eu
  cases rx
  obtain ⟨_, its, n, rv, h1⟩ := (show ObjOk X.prog X.w H s.heap a (.lst vs) from I.hok a _ hH)
  have rd := elQs_reads I hd hp rv
  have hs1 := hsx.1
  have hs2 := hsx.2.1
  have hs3 := hsx.2.2
  simp only [PyData.showable] at hs1
  simp only [PyData.depth] at hs2
  simp only [PyData.shown] at hs3 q
  exact list_shown h1 rfl rfl rd hs1 hs3 hg (by omega) fun h' u tk hk => ⟨.str _, H, I.kept (t' := tk) hk, ⟨_, rfl⟩, q⟩
open Classical in
def reprQF : List D → Option D
  | [.lst xs] => match elQs xs with
    | some ps => if ShowX (.list ps) then some (.str (PyData.list ps).shown) else none
    | none => none
  | _ => none
theorem s_reprQ {K : PySem.W.Frag} : OpS K (rReprQ K) reprQF := fun H ds vs Q d R ef q => by
  unfold reprQF at ef
  split at ef
  · rename_i xs
    obtain ⟨x, rfl, rx⟩ := R.one_inv
    split at ef
    · rename_i ps ep
      split at ef
      · rename_i hs
        cases ef
        cases rx with
        | lst h r => exact ⟨_, _, _, _, rfl, h, r, ep, hs, q _ (.str _)⟩
      · cases ef
    · cases ef
  · cases ef
end MM

set_option Elab.async false
set_option linter.all false
set_option maxRecDepth 100000
set_option maxHeartbeats 4000000
noncomputable section
namespace MM
open PySem PySem.Spec PyProof.Rows L2

/-! ### two rows of a wholly owned list exchanged -/
theorem pe_revL_ {X : Cx} {K : PySem.W.Frag} {e : Expr} {te : TE} {k : Nat} {p1 p2 p3 pos : Pos} (hK : X.K = K) (he : PE X e te) : PE X (.Subscript e (.Slice none none (some (.UnaryOp .USub (.Constant (.int 1) k p1) p2)) p3) pos) (tRevL K te) := hK ▸ pe_revL he
def swpDM (i a b : Nat) : MS := fun env => match deepL i env, env[a]?, env[b]? with
  | some ds, some (some (_, .int x)), some (some (_, .int y)) => match ixN ds.length x, ixN ds.length y with
    | some n, some m => match ds[n]?, ds[m]? with
      | some dn, some dm => .nx (env.set i (some (true, .deep (.lst ((ds.set n dm).set m dn)))))
      | _, _ => .no
    | _, _ => .no
  | _, _, _ => .no
section
variable {K : PySem.W.Frag} {mg : Str → Option Value} {W : WX} {ps : List Nat} {ro : Bool} {H Z : Hp}
theorem two_lt_sizeLine : 2 < sizeLine := by unfold sizeLine; decide
theorem mctL_setAt {d d' : D} : ∀ {ds : List D} {n : Nat}, ds[n]? = some d → mctL (ds.set n d') + mct d = mctL ds + mct d'
  | [], _, e => nomatch e
  | e0 :: es, 0, e => by cases e; simp only [List.set_cons_zero, mctL]; omega
  | e0 :: es, n + 1, e => by
    have := mctL_setAt (d' := d') (ds := es) (n := n) e
    simp only [List.set_cons_succ, mctL]; omega
theorem OwnL.part {d : D} : ∀ {ds : List D} {vs : List V} {F : List Addr} {n : Nat}, OwnL K H Z ds vs F → ds[n]? = some d → ∃ F1 Fi F2 v, F = F1 ++ (Fi ++ F2) ∧ vs[n]? = some v ∧ Own K H Z d v Fi ∧
    ∀ d' v' Fi', Own K H Z d' v' Fi' → OwnL K H Z (ds.set n d') (vs.set n v') (F1 ++ (Fi' ++ F2))
  | _, _, _, 0, .cons (F := Fa) (G := Ga) h t, e => by
    cases e
    exact ⟨[], Fa, Ga, _, rfl, rfl, h, fun d' v' Fi' o => .cons (F := Fi') o t⟩
  | _, _, _, n + 1, .cons (F := Fa) (G := Ga) h t, e => by
    obtain ⟨F1, Fi, F2, v, eF, ev, o, g⟩ := OwnL.part (n := n) t e
    refine ⟨Fa ++ F1, Fi, F2, v, by rw [eF, List.append_assoc], ev, o, fun d' v' Fi' o' => ?_⟩
    rw [List.append_assoc]
    exact .cons h (g d' v' Fi' o')
  | _, _, _, _, .nil, e => nomatch e
theorem OwnL.swap {ds : List D} {vs : List V} {F : List Addr} {n m : Nat} {dn dm : D} (o : OwnL K H Z ds vs F) (hn : ds[n]? = some dn) (hm : ds[m]? = some dm) :
    ∃ vn vm F', vs[n]? = some vn ∧ vs[m]? = some vm ∧ OwnL K H Z ((ds.set n dm).set m dn) ((vs.set n vm).set m vn) F' ∧ F'.Perm F := by
  obtain ⟨F1, Fn, F2, vn, eF, en, on, gn⟩ := o.part hn
  by_cases q : n = m
  · subst q
    rw [hn] at hm
    cases hm
    exact ⟨vn, vn, _, en, en, by rw [List.set_set, List.set_set]; exact gn dn vn Fn on, by rw [eF]⟩
  · obtain ⟨G1, Fm, G2, vm, eG, em, om, gm⟩ := (gn .non .non [] (.frz .non)).part (d := dm) (n := m) (by rw [List.getElem?_set_ne q]; exact hm)
    rw [List.getElem?_set_ne q] at em
    have o3 := gm dn vn Fn on
    obtain ⟨hl, _⟩ := List.getElem?_eq_some_iff.mp hn
    obtain ⟨L1, Fz0, L2, v0, eL, ev0, o0, g0⟩ := o3.part (d := .non) (n := n) (by rw [List.getElem?_set_ne (Ne.symm q), List.getElem?_set_self hl])
    have e0 : Fz0 = [] := by cases o0; rfl
    subst e0
    have r := g0 dm vm Fm om
    have e9 : ∀ {α : Type} (l : List α) (x y z : α), ((l.set n x).set m y).set n z = (l.set n z).set m y := fun l x y z => by rw [List.set_comm _ _ (Ne.symm q), List.set_set]
    rw [e9, e9] at r
    refine ⟨vn, vm, _, en, em, r, ?_⟩
    rw [eF]
    rw [List.nil_append] at eG eL
    have p1 : (F1 ++ (Fn ++ F2)).Perm (Fn ++ (F1 ++ F2)) := List.perm_append_comm_assoc ..
    have p2 : (L1 ++ (Fm ++ L2)).Perm (Fm ++ (L1 ++ L2)) := List.perm_append_comm_assoc ..
    refine p2.trans (.trans ?_ p1.symm)
    rw [← eL, eG]
    have p3 : (G1 ++ (Fn ++ G2)).Perm (Fn ++ (G1 ++ G2)) := List.perm_append_comm_assoc ..
    have p4 : (G1 ++ (Fm ++ G2)).Perm (Fm ++ (G1 ++ G2)) := List.perm_append_comm_assoc ..
    refine (p3.append_left Fm).trans (.trans ?_ (p4.append_left Fn).symm)
    exact List.perm_append_comm_assoc ..
theorem es_swpD {i a b : Nat} : EvS K mg W ps ro (tAsg (tTup (tCons (tOp (rIxAny K) (tVar i) (tVar b)) (tCons (tOp (rIxAny K) (tVar i) (tVar a)) tNil))) (gTup K 2 (gCons (gSub (tVar i) (tVar a) rSetAny) (gCons (gSub (tVar i) (tVar b) rSetAny) gNil)))) (swpDM i a b) := fun B env σ H F D S h => by
  unfold swpDM at h
  split at h
  · rename_i ds k1 x k2 y e1 e2 e3
    split at h
    · rename_i n m en em
      split at h
      · rename_i dn dm hn hm
        obtain ⟨l, vs, Fc, hv, hH, oc, lc, ndc, nl, lF, go⟩ := S.nil.mutLD (deepL_get e1)
        obtain ⟨va, Ga, ha, oa, _⟩ := S.rel.anyAt e2
        obtain ⟨vb, Gb, hb, ob, _⟩ := S.rel.anyAt e3
        have := oa.imm rfl
        cases this
        have := ob.imm rfl
        cases this
        obtain ⟨vn, vm, F', gn, gm, o2, pp⟩ := oc.swap hn hm
        have el := oc.length
        rw [el] at en em
        have an : atI vs x = some vn := by unfold atI; rw [en]; exact gn
        have am : atI vs y = some vm := by unfold atI; rw [em]; exact gm
        refine ⟨_, hv, _, hb, .inl (.inl ⟨l, vs, y, vm, rfl, rfl, .of hH, am, ?_⟩)⟩
        refine ⟨_, hv, _, ha, .inl (.inl ⟨l, vs, x, vn, rfl, rfl, .of hH, an, ?_⟩)⟩
        refine ⟨Nat.le_of_lt (Nat.lt_of_le_of_lt (by show 2 ≤ 2; decide) two_lt_sizeLine), fun p hp => ⟨p, [vm, vn], rfl, .of upd_same, rfl, vm, [vn], rfl, ?_⟩⟩
        have np : l ≠ p := fun z => by rw [z, hp] at hH; cases hH
        have hH1 : upd H p (.tup [vm, vn]) l = some (.lst vs) := by rw [upd_ne np]; exact hH
        refine ⟨_, hv, _, ha, .inl ⟨l, vs, x, n, rfl, rfl, hH1, en, ?_⟩⟩
        refine ⟨vn, [], rfl, _, hv, _, hb, .inl ⟨l, vs.set n vm, y, m, rfl, rfl, upd_same, by rw [List.length_set]; exact em, ?_⟩⟩
        refine ⟨rfl, ?_⟩
        rw [upd_upd]
        have S1 := S.new (o := .tup [vm, vn]) hp
        obtain ⟨l', vs', Fc', hv', hH', oc', lc', ndc', nl', lF', go'⟩ := S1.nil.mutLD (deepL_get e1)
        rw [hv] at hv'
        cases hv'
        rw [hH1] at hH'
        cases hH'
        obtain ⟨vn', vm', F'', gn', gm', o2', pp'⟩ := oc'.swap hn hm
        rw [gn] at gn'
        cases gn'
        rw [gm] at gm'
        cases gm'
        have m1 := mctL_setAt (d' := dm) hn
        have m2 : mctL ((ds.set n dm).set m dn) = mctL ds := by
          by_cases q : n = m
          · subst q
            rw [hn] at hm
            cases hm
            rw [List.set_set]
            omega
          · have := mctL_setAt (ds := ds.set n dm) (n := m) (d := dm) (d' := dn) (by rw [List.getElem?_set_ne q]; exact hm)
            omega
        obtain ⟨F3, S3, s3⟩ := go' _ _ .non .non F'' [] o2' (by rw [pp'.length_eq, lc', m2]) (.frz .non) (by rw [List.append_nil] at ndc' ⊢; exact pp'.nodup_iff.mpr ndc') fun a m => by
          rw [List.append_nil] at m ⊢
          exact pp'.mem_iff.mp m
        refine h σ _ F3 S3.sta ?_ .refl
        exact (Nxt.ex (ex_new hp)).mut lF (fun a m => by simpa using s3 a (List.mem_append_left _ m))
      · exact h.elim
    · exact h.elim
  · exact h.elim
end
@[simp] theorem swpDM_ap {i a b : Nat} {env : Env} : swpDM i a b env = match deepL i env, env[a]?, env[b]? with
  | some ds, some (some (_, .int x)), some (some (_, .int y)) => match ixN ds.length x, ixN ds.length y with
    | some n, some m => match ds[n]?, ds[m]? with
      | some dn, some dm => .nx (env.set i (some (true, .deep (.lst ((ds.set n dm).set m dn)))))
      | _, _ => .no
    | _, _ => .no
  | _, _, _ => .no := id rfl
/-! ### a slot read, wholly owned or not -/
def rdXM (i : Nat) (env : Env) : Option D := match env[i]? with
  | some (some (_, d)) => some (unD d)
  | _ => none
theorem evt_varX {K : PySem.W.Frag} {i : Nat} : EvT K (tVar i) (rdXM i) := fun B env σ H F Q d S e h => by
  unfold rdXM at e
  split at e
  · rename_i k d' e3
    obtain ⟨v, G, hv, r, g⟩ := S.rel.anyAt e3
    cases e
    refine ⟨v, hv, h v H G (.refl _) S ?_ g⟩
    cases d' with
    | deep d0 => cases r with
      | frz r => exact .frz r.un
      | deep o => exact o
    | _ => exact r
  · cases e
@[simp] theorem rdXM_ap {i : Nat} {env : Env} : rdXM i env = match env[i]? with | some (some (_, d)) => some (unD d) | _ => none := id rfl
/-! ### repr of any thing, of a list of odd things -/
def rReprZ (K : PySem.W.Frag) : List V → Hp → VK → Prop := fun xs H Q => rReprA K xs H Q ∨ rReprQ K xs H Q
theorem call_reprZ {X : Cx} {K : PySem.W.Frag} (hK : X.K = K) (hg : X.A.guards = some []) (hu : X.A.units + 65 < cLine) : CallR X (.builtin "repr") (rReprZ K) := fun pins s σ H xs us Q I r q =>
  q.elim (call_reprA hK hg hu pins s σ H xs us Q I r) (call_reprQ hK hg hu pins s σ H xs us Q I r)
def elZ (d : D) : Option PyData := match elP d with
  | some p => some p
  | none => match d with
    | .lst xs => match elQs xs with
      | some ps => some (.list ps)
      | none => none
    | _ => none
open Classical in
def reprZF : List D → Option D
  | [d] => match elZ d with
    | some p => if ShowX p then some (.str p.shown) else none
    | none => none
  | _ => none
theorem s_reprZ {K : PySem.W.Frag} : OpS K (rReprZ K) reprZF := fun H ds vs Q d R ef q => by
  unfold reprZF at ef
  split at ef
  · rename_i d0
    unfold elZ at ef
    cases e1 : elP d0 with
    | some p =>
      rw [e1] at ef
      exact .inl (s_reprA H _ vs Q d R (by unfold reprAF; simp only [e1]; exact ef) q)
    | none =>
      rw [e1] at ef
      cases d0 with
      | lst xs =>
        dsimp only at ef
        cases e2 : elQs xs with
        | none => rw [e2] at ef; cases ef
        | some ps =>
          rw [e2] at ef
          exact .inr (s_reprQ H _ vs Q d R (by unfold reprQF; simp only [e2]; exact ef) q)
      | _ => cases ef
  · cases ef
end MM

set_option Elab.async false
set_option linter.all false
set_option maxRecDepth 100000
set_option maxHeartbeats 8000000
noncomputable section
namespace MM
open PySem PySem.Spec PyProof.Rows L2

/-! ### what the written part must say -/
def OthOk (K : PySem.W.Frag) (C : Addr) : List Str → Prop
  | [] => True
  | y :: ys => (∃ D : Addr, PySem.W.nsIn K mainGlobals y = some (some (.ref D)) ∧ PySem.W.typeIn K (.ref D) = some (.type "type") ∧ PySem.W.hasDictIn K D = true ∧ PySem.W.subIn K (.ref C) (.ref D) = some false) ∧ OthOk K C ys
theorem kit_val {K : PySem.W.Frag} {C : Addr} (h : PySem.W.subIn K (.ref C) (.type "ValueError") = some true) : PySem.W.kitOne K (.ref C) (.type "ValueError") = some true := by
  have hm : PySem.W.kitMeta "ValueError" = true := by decide +kernel
  unfold PySem.W.kitOne PySem.W.kitCls
  split
  · rfl
  · show (if PySem.W.kitMeta "ValueError" = true then _ else _) = _
    rw [if_pos hm, h]
theorem kit_not {K : PySem.W.Frag} {C D : Addr} (hs : PySem.W.subIn K (.ref C) (.ref C) = some true) (ht : PySem.W.typeIn K (.ref D) = some (.type "type")) (hd : PySem.W.hasDictIn K D = true) (h : PySem.W.subIn K (.ref C) (.ref D) = some false) :
    PySem.W.kitOne K (.ref C) (.ref D) = some false := by
  have ne : ¬ ((Value.ref C == Value.ref D) = true) := fun e => by
    have e' := Value.ref.inj (beq_iff_eq.mp e)
    subst e'
    rw [hs] at h
    cases h
  obtain ⟨cd, hc, _⟩ := PySem.W.any_some hd
  unfold PySem.W.kitOne PySem.W.kitCls
  rw [if_neg ne]
  show (if ((PySem.W.clsIn K D).isSome && PySem.W.typeIn K (.ref D) == some (.type "type")) = true then _ else _) = _
  rw [if_pos (by rw [hc, ht]; rfl), h]
theorem othOk_of {K : PySem.W.Frag} {C : Addr} (hs : PySem.W.subIn K (.ref C) (.ref C) = some true) : ∀ {ys : List Str}, OthOk K C ys → ∀ y ∈ ys, ∀ D, PySem.W.nsIn K mainGlobals y = some (some (.ref D)) → PySem.W.kitOne K (.ref C) (.ref D) = some false
  | y :: ys, ⟨⟨D0, n0, t0, d0, s0⟩, r⟩, z, m, D, hz => by
    rcases List.mem_cons.mp m with e | m
    · subst e
      rw [n0] at hz
      cases hz
      exact kit_not hs t0 d0 s0
    · exact othOk_of hs r z m D hz
/-- a class without an __init__ of its own, of the program -/
structure ExT (K : PySem.W.Frag) (mg : Str → Option Value) (x : Str) (ys : List Str) where
  C : Addr
  M : Addr
  mgx : mg x = some (.ref C)
  mgm : mg "MarkError" = some (.ref M)
  take : Takers K mg (.ref M) [x]
  ex : PySem.W.excIn K C [.type "ValueError", .type "Exception", .type "BaseException", .type "object"] "ValueError.__new__" = true
  keep : PySem.W.keepIn K (.ref C) = true
  sub : PySem.W.subIn K (.ref C) (.type "BaseException") = some true
  ty : PySem.W.typeIn K (.ref C) = some (.type "type")
  T : XT K x ys
/-- another class, by its name -/
structure ClT (K : PySem.W.Frag) (mg : Str → Option Value) (y : Str) where
  D : Addr
  mg : mg y = some (.ref D)
  ns : PySem.W.nsIn K mainGlobals y = some (some (.ref D))
def ext_mk {K : PySem.W.Frag} {h : Heap} {mg : Str → Option Value} {x : Str} {ys : List Str} {C M : Addr} (X : K.In h) (G : h.Ns mainGlobals mg) (ns : PySem.W.nsIn K mainGlobals x = some (some (.ref C))) (nm : PySem.W.nsIn K mainGlobals "MarkError" = some (some (.ref M)))
    (ex : PySem.W.excIn K C [.type "ValueError", .type "Exception", .type "BaseException", .type "object"] "ValueError.__new__" = true) (keep : PySem.W.keepIn K (.ref C) = true) (sub : PySem.W.subIn K (.ref C) (.type "BaseException") = some true) (ty : PySem.W.typeIn K (.ref C) = some (.type "type"))
    (hg : PySem.W.findIn K (.ref C) "__getattribute__" = some (some (.builtin "BaseException.__getattribute__"))) (hk : PySem.W.findIn K (.ref C) "__getattr__" = some none) (hd : PySem.W.hasDictIn K C = true) (ha : PySem.W.findIn K (.ref C) "__class__" = some (some (.builtin "object.__class__")))
    (hn : PySem.W.specialIn K (.builtin "object.__class__") "__get__" = some (some (.builtin "getset_descriptor.__get__"))) (ht : PySem.W.takesIn K (.builtin "object.__class__") = some true) (hm : PySem.W.mroIn K C (.type "object") = some true)
    (ve : PySem.W.subIn K (.ref C) (.type "ValueError") = some true) (se : PySem.W.subIn K (.ref C) (.ref C) = some true) (mb : PySem.W.subIn K (.ref M) (.type "BaseException") = some true) (md : PySem.W.hasDictIn K M = true) (mt : PySem.W.typeIn K (.ref M) = some (.type "type"))
    (xm : PySem.W.subIn K (.ref C) (.ref M) = some true) (oth : OthOk K C ys) : ExT K mg x ys where
  C := C
  M := M
  mgx := PySem.W.mg_of X G ns
  mgm := PySem.W.mg_of X G nm
  take := .one (PySem.W.mg_of X G ns) ns (PySem.W.exm_ref mb md mt xm)
  ex := ex
  keep := keep
  sub := sub
  ty := ty
  T := {
    exc := fun C' e => by
      rw [ns] at e
      cases e
      exact ⟨hg, hk, sub, hd, ha, hn, ht, hm⟩
    val := fun C' e => by
      rw [ns] at e
      cases e
      exact kit_val ve
    oth := fun C' e => by
      rw [ns] at e
      cases e
      exact othOk_of se oth }
def clt_mk {K : PySem.W.Frag} {h : Heap} {mg : Str → Option Value} {y : Str} {D : Addr} (X : K.In h) (G : h.Ns mainGlobals mg) (ns : PySem.W.nsIn K mainGlobals y = some (some (.ref D))) : ClT K mg y := ⟨D, PySem.W.mg_of X G ns, ns⟩
section
variable {X : Cx} {K : PySem.W.Frag} {mg : Str → Option Value} {x : Str} {ys : List Str}
theorem ps_raiseX (T : ExT K mg x ys) {W : WX} {m : Str} {j : Nat} {p p2 pos pos2 : Pos} (hK : X.K = K) (hm : X.mg = mg) (hc : X.calm = true) (tk : Takes X W) (hg : Gl X x) (hdb : (x == ("__debug__" : Str)) = false := by decide) :
    PS X (.Raise (some (.Call (.Name x p) [.Constant (.str m) j p2] [] pos2)) none pos) (fun _ σ H => W (.ref T.C) none σ H) := by
  subst hK hm
  exact ps_raise hc tk (pmk_own PySem.F.excBase_ValueError T.ex T.mgx T.keep (raises_own T.sub T.ty) hg hdb)
theorem pe_cls (T : ClT K mg x) {pos : Pos} (hm : X.mg = mg) (hg : Gl X x) (hdb : (x == ("__debug__" : Str)) = false := by decide) : PE X (.Name x pos) (tC (.ref T.D)) := by
  subst hm
  exact pe_glob hg T.mg rfl hdb
theorem names_err (T : ExT K mg x ys) (hm : X.mg = mg) (hg : Gl X "MarkError") : Names X "MarkError" (.ref T.M) := by
  subst hm
  exact ⟨hg, by decide, .inl T.mgm⟩
end

/-! ### own exceptions whose __init__ asks the base's and keeps one whole number -/
theorem pe_minit {X : Cx} {CM : Addr} {x : Str} {e : Expr} {es : List Expr} {ta : TA} {p1 p2 pos : Pos} {pl : Sem Bool} (hg : Gl X x) (hm : X.mg x = some (.ref CM))
    (ga : PySem.W.specialIn X.K (.ref CM) "__getattribute__" = some (some (.builtin "type.__getattribute__"))) (rd : PySem.W.readsIn X.K CM (.type "type") = true) (vV : PySem.W.findCls X.K (.ref CM) (.type "type") "__init__" = some (.val (.builtin "ValueError.__init__"))) (ha : PA X (e :: es) ta)
    (hdb : (x == ("__debug__" : Str)) = false := by decide)
    (hc : eval (.Call (.Attribute (.Name x p1) "__init__" p2) (e :: es) [] pos) X.env = (do
      let ov ← eval (.Name x p1) X.env
      standAt p2.atName
      let (f, first) ← holding [ov] (getMethod ov "__init__" pl)
      callWith pos f first (backTo pos (starEach (e :: es) X.env)) (backToKw pos (keywordEach [] X.env))) := by rfl)
    (he : starEach (e :: es) X.env = (false, eval e X.env) :: starEach es X.env := by rfl) (hpl : (backTo pos (starEach es X.env)).any (·.1) = false := by rfl) :
    PE X (.Call (.Attribute (.Name x p1) "__init__" p2) (e :: es) [] pos) (tVeI X.K ta) := by
  refine ⟨fun pins s σ H Q I h => ?_⟩
  refine PySem.W.methodCall_KW (ld_glob I hg hm ?_ hdb) hc
  refine PySem.W.method_cls I.kIn ga (PySem.W.cls_value I.kIn rd vV (by decide +kernel) ?_)
  show wpAny _ _ (callWith pos (Value.builtin "ValueError.__init__") [] (backTo pos (starEach (e :: es) X.env)) []) _ _ _
  refine PyProof.Rows.callWith_method1 (thn (ha.run pos pins _ σ H _ (I.tok _) h) fun us s1 ⟨vs, H1, I1, r1, a, C, ws, ev, hl, T, ea, q⟩ => ?_) he hpl
  subst ev
  cases r1 with
  | @cons _ u0 _ ur ra rw' =>
    obtain rfl : u0 = Value.ref a := ra
    have hlen : ur.length ≤ sizeLine := by
      rw [← Paired.length rw', sizeLine_eq]
      omega
    exact oinit_ok T I1 ea hlen fun s' J => ⟨.non, H1, J, rfl, q⟩
/-- what such an __init__ does -/
def spIni (K : PySem.W.Frag) (f : Str) : Sp := fun vs H Q _ => ∃ (a C : Addr) (i : Int), vs = [.ref a, .int i] ∧ OexC K C ∧ PySem.W.findIn K (.ref C) f = some none ∧ H a = some (exo a C none) ∧
  ∀ dx, H dx = none → dx ≠ a → Q .non (upd (upd H dx (exd dx [(f, .int i)])) a (exo a C (some dx)))
def tIni (K : PySem.W.Frag) (f : Str) (m : Str) : TS := tSeq (tDrop (tVeI K (tCons (tVar 0) (tCons (tC (.str m)) tNil)))) (tOst K f (tVar 0) (tVar 1))
theorem ini_run {K : PySem.W.Frag} {f m : Str} {N : List Str} {vs : List V} {H : Hp} {Q : VK} {E : XK} (h : spIni K f vs H Q E) : tIni K f m { nx := fun _ H' => Q .non H', rt := Q } (L2.start N vs) H := by
  obtain ⟨a, C, i, rfl, T, hno, ea, q⟩ := h
  exact ⟨.ref a, rfl, a, C, [.str m], rfl, by simp, T, ea, .int i, rfl, .ref a, rfl, a, C, rfl, T, hno, .inl ⟨ea, q⟩⟩
/-- the def that a class body holds -/
def initOf : Stmt → Stmt
  | .ClassDef _ _ _ body _ _ _ _ _ _ _ => body.getD 0 (.Pass ⟨0, 0, 0, 0⟩)
  | s => s
/-- what the written part says of an own exception class with its own __init__ -/
structure IniT (K : PySem.W.Frag) (mg : Str → Option Value) (x f : Str) (st : Stmt) (qual : Str) where
  C : Addr
  fI : Addr
  fd : FuncData
  oC : OexC K C
  no : PySem.W.findIn K (.ref C) f = some none
  ini : PySem.W.findIn K (.ref C) "__init__" = some (some (.ref fI))
  tI : PySem.W.typeIn K (.ref fI) = some (.type "function")
  mgx : mg x = some (.ref C)
  nsx : PySem.W.nsIn K mainGlobals x = some (some (.ref C))
  F : Fun K "__init__" qual st fI fd
  b : Binds K fd ["self", f] []
def iniT_mk {K : PySem.W.Frag} {h : Heap} {mg : Str → Option Value} {x f : Str} {st : Stmt} {qual : Str} {C N fI : Addr} {nm q : Str} {bs bm : List Value} {sn : List Str} {sub : List Value} {ab : Bool} {col : Option Bool} {dd od an : Option Addr} {k0 k1 k2 k3 k5 : Option Value} {oc kV dc pm cd ct : Value} {sl : Array (Option Value)}
    (X : K.In h) (G : h.Ns mainGlobals mg) (ns : PySem.W.nsIn K mainGlobals x = some (some (.ref C))) (l : K.lookup C = some (excClassObj nm q C N bs bm true sn sub ab col dd k0 k1 k2 k3 k5 "ValueError.__new__")) (rv : PySem.HandSPX.refsVE bm = true)
    (sa : PySem.W.findIn K (.ref C) "__setattr__" = some (some (.builtin "object.__setattr__"))) (exC : PySem.W.subIn K (.ref C) (.type "BaseException") = some true) (tyC : PySem.W.typeIn K (.ref C) = some (.type "type")) (kC : PySem.W.keepIn K (.ref C) = true)
    (no : PySem.W.findIn K (.ref C) f = some none) (ini : PySem.W.findIn K (.ref C) "__init__" = some (some (.ref fI))) (tI : PySem.W.typeIn K (.ref fI) = some (.type "function"))
    (lF : K.lookup fI = some ⟨oc, od, .func (PySem.W.fnOf "__init__" qual (defArgs st) (defBody st) (defScope st) .none kV dc pm an cd ct), sl⟩) (cF : PySem.W.codeIn K cd qual = true) (kF : PySem.W.keepIn K (.ref fI) = true)
    (hb : ∀ (kV doc pm : Value) (an : Option Addr) (cdv ct : Value) (us : List Value), us.length = 2 → bindArgs (PySem.W.fnOf "__init__" qual (defArgs st) (defBody st) (defScope st) .none kV doc pm an cdv ct) ⟨us, []⟩ = pure ([("self" : Str), f].zip us)) : IniT K mg x f st qual where
  C := C
  fI := fI
  fd := PySem.W.fnOf "__init__" qual (defArgs st) (defBody st) (defScope st) .none kV dc pm an cd ct
  oC := ⟨⟨nm, q, N, bs, bm, sn, sub, ab, col, dd, k0, k1, k2, k3, k5, l, rv⟩, sa, exC, tyC, kC⟩
  no := no
  ini := ini
  tI := tI
  mgx := PySem.W.mg_of X G ns
  nsx := ns
  F := fun_mk lF cF kF
  b := (fun_mk lF cF kF).binds hb
/-- the base class, as its __init__ is asked for by name -/
structure BasT (K : PySem.W.Frag) (mg : Str → Option Value) (x : Str) where
  C : Addr
  mgx : mg x = some (.ref C)
  ga : PySem.W.specialIn K (.ref C) "__getattribute__" = some (some (.builtin "type.__getattribute__"))
  rd : PySem.W.readsIn K C (.type "type") = true
  vV : PySem.W.findCls K (.ref C) (.type "type") "__init__" = some (.val (.builtin "ValueError.__init__"))
def basT_mk {K : PySem.W.Frag} {h : Heap} {mg : Str → Option Value} {x : Str} {C : Addr} (X : K.In h) (G : h.Ns mainGlobals mg) (ns : PySem.W.nsIn K mainGlobals x = some (some (.ref C)))
    (ga : PySem.W.specialIn K (.ref C) "__getattribute__" = some (some (.builtin "type.__getattribute__"))) (rd : PySem.W.readsIn K C (.type "type") = true) (vV : PySem.W.findCls K (.ref C) (.type "type") "__init__" = some (.val (.builtin "ValueError.__init__"))) : BasT K mg x := ⟨C, PySem.W.mg_of X G ns, ga, rd, vV⟩
section
variable {P : Program} {w : World} {K : PySem.W.Frag} {mg : Str → Option Value} {base : Heap}
theorem fnIni {x f m qual : Str} {st : Stmt} (T : IniT K mg x f st qual) {N ps : List Str} {k : Nat} (hp : ps.length = 2) (S : FnScope N ps (defScope st))
    (hbody : ∀ (cdv : Value) (A : Around) (outer : List PySem.Env) (s : Shared) (H : Hp) (E : XK), Room k (A.deeper (envOfC qual (defScope st) s.heap.objs.size T.fI cdv)) →
      PSs (cxOf (L2.CX P w) P w K mg base N qual (defScope st) T.fI cdv A outer s H E) (defBody st) (tIni K f m)) :
    FnOk P w K mg base (L2.CX P w) (k + 1) T.fI T.fd ps (spIni K f) :=
  T.F.okX S (fun _ _ _ _ h => by
    obtain ⟨_, _, _, rfl, _⟩ := h
    exact hp.symm) fun cdv A outer s H vs Q E hr h => ⟨_, hbody cdv A outer s H E hr, ini_run h⟩
/-- raise x(e) -/
def raiseIM (x f : Str) (m : M D) : MS := fun env => match m env with
  | .ok (.int i) e => .ex ⟨x, some (f, i)⟩ e
  | .ex e e2 => .ex e e2
  | _ => .no
@[simp] theorem raiseIM_ap {x f : Str} {m : M D} {env : Env} : raiseIM x f m env = match m env with
  | .ok (.int i) e => .ex ⟨x, some (f, i)⟩ e
  | .ex e e2 => .ex e e2
  | _ => .no := rfl
theorem es_raiseI {W : WX} {ps : List Nat} {ro p : Bool} {x f qual : Str} {st : Stmt} {te : TE} {m : M D} (T : IniT K mg x f st qual) (h1 : EvE K mg W p te m) :
    EvS K mg W ps ro (fun _ σ H => tMkO T.C (spIni K f) [] (tCons te tNil) σ H fun cls d H' => W cls d σ H') (raiseIM x f m) := fun B env σ H F D S h => by
  unfold raiseIM at h
  refine h1 B env σ H F _ S ?_
  cases em : m env with
  | ex e e2 =>
    rw [em] at h
    dsimp only at h
    exact fun cls dd H' F' S' N' x => h cls dd σ H' F' S' N' .refl x
  | no => rw [em] at h; exact h.elim
  | ok d e =>
    rw [em] at h
    intro v H1 F1 Fd S1 N1 _
    cases d with
    | int i =>
      dsimp only at h
      have S2 := S1.sta
      have N2 : Nxt H F H1 F1 := N1.weak fun a m => List.mem_append_left _ m
      have hv : v = .int i := by
        cases S1.repH with
        | cons r _ => cases r; rfl
      subst hv
      refine ⟨by simp, fun a na => ⟨a, T.C, i, rfl, T.oC, T.no, upd_same, fun dx ndx ne => ⟨rfl, dx, [(f, .int i)], ?_, ?_, ?_, ?_⟩⟩⟩
      · exact upd_same
      · rw [upd_ne ne, upd_same]
      · rwa [upd_ne ne] at ndx
      · have n1 : H1 dx = none := by rwa [upd_ne ne] at ndx
        have eH : upd (del (upd (upd (upd H1 a (exo a T.C none)) dx (exd dx [(f, .int i)])) a (exo a T.C (some dx))) a) dx (.xd [(f, .int i)]) = upd H1 dx (.xd [(f, .int i)]) := by
          funext b
          by_cases hb : b = dx
          · rw [hb, upd_same, upd_same]
          · rw [upd_ne hb, upd_ne hb]
            by_cases ha : b = a
            · rw [ha, del_same, na]
            · rw [del_ne ha, upd_ne ha, upd_ne hb, upd_ne ha]
        show W (.ref T.C) (some dx) σ _
        rw [eH]
        exact h (.ref T.C) (some dx) σ _ F1 (S2.new n1) (N2.grow (ex_new n1)) .refl ⟨T.mgx, dx, rfl, upd_same⟩
    | _ => exact h.elim
end
/-! ### raise, and try .. except x: without a name -/
theorem passN {X : Cx} {W : WX} (tk : Takes X W) : Passes (L2.CX X.prog X.w) X (fun _ _ _ => False) := fun pins σ H s e s' I c => tk e s' (XE.of_call I (fun _ _ _ h => h.elim) c)
section
variable {X : Cx} {K : PySem.W.Frag} {mg : Str → Option Value} {x f qual : Str} {st : Stmt}
theorem ps_raiseI (T : IniT K mg x f st qual) {W : WX} {k : Nat} {e : Expr} {te : TE} {p pos pos2 : Pos} (hK : X.K = K) (hm : X.mg = mg) (F1 : FnOk X.prog X.w K mg X.base (L2.CX X.prog X.w) k T.fI T.fd ["self", f] (spIni K f)) (hr : Room (k + 1) X.A) (hc : X.calm = true) (tk : Takes X W) (hg : Gl X x) (ha : PA X [e] (tCons te tNil))
    (hdb : (x == ("__debug__" : Str)) = false := by decide) (hs : starEach [e] X.env = (false, eval e X.env) :: starEach [] X.env := by rfl) :
    PS X (.Raise (some (.Call (.Name x p) [e] [] pos2)) none pos) (fun _ σ H => tMkO T.C (spIni K f) [] (tCons te tNil) σ H fun cls d H' => W cls d σ H') := by
  subst hK hm
  exact ps_raise hc tk (pmk_oex T.oC T.ini T.tI F1 hr T.b .nil (passN tk) hg T.mgx ha hdb hs)
theorem names_ini (T : IniT K mg x f st qual) (hm : X.mg = mg) (hg : Gl X x) (hdb : (x == ("__debug__" : Str)) = false := by decide) : Names X x (.ref T.C) := by
  subst hm
  exact ⟨hg, hdb, .inl T.mgx⟩
end
def tryM1 (xs : List Str) (m mh : MS) : MS := fun env => match m env with
  | .ex ⟨x, _⟩ e => if x ∈ xs then mh e else .no
  | r => r
theorem tryM1_ex {xs : List Str} {m mh : MS} {env e : Env} {x : Str} {f : Option (Str × Int)} (h : m env = .ex ⟨x, f⟩ e) (hx : x ∈ xs) : tryM1 xs m mh env = mh e := by
  unfold tryM1
  rw [h]
  dsimp only
  rw [if_pos hx]
theorem tryM1_nx {xs : List Str} {m mh : MS} {env e : Env} (h : m env = .nx e) : tryM1 xs m mh env = .nx e := by
  unfold tryM1
  rw [h]
section
variable {K : PySem.W.Frag} {mg : Str → Option Value} {W : WX} {ps : List Nat} {ro : Bool} {xs : List Str} {m mh : MS} {tb : WX → TS} {ts : Addr → Value → Option Addr → TS} {c : Value}
theorem es_try1 (T : Takers K mg c xs) (hb : ∀ W', EvS K mg W' ps ro (tb W') m) (hh : ∀ a cls d, EvS K mg W ps ro (ts a cls d) mh) : EvS K mg W ps ro (fun D σ H => tb (wOnly K c ts W D) D σ H) (tryM1 xs m mh) := fun B env σ H F D S h => by
  refine hb _ B env σ H F D S ?_
  unfold tryM1 at h
  cases em : m env with
  | nx e => rw [em] at h; exact h
  | bk e => rw [em] at h; exact h
  | ct e => rw [em] at h; exact h
  | rt d e => rw [em] at h; exact h
  | no => rw [em] at h; exact h
  | ex x e =>
    obtain ⟨x, f⟩ := x
    rw [em] at h
    dsimp only at h
    by_cases hx : x ∈ xs
    · rw [if_pos hx] at h
      obtain ⟨C, g1, g2, g3⟩ := T.at_ x hx
      intro cls dd σ1 H1 F1 S1 N1 k1 xx
      obtain ⟨x1, x2⟩ := xx
      dsimp only at x1
      rw [g1] at x1
      cases x1
      exact ⟨true, g3, fun _ a na => hh a _ _ B e σ1 H1 F1 D S1 (h.mono (fun _ _ n => N1.trans n fun a m => m) k1), fun z => nomatch z⟩
    · rw [if_neg hx] at h
      exact h.elim
end
end MM

set_option Elab.async false
set_option linter.all false
set_option maxRecDepth 100000
set_option maxHeartbeats 8000000
noncomputable section
namespace MM
section
open PySem PySem.Spec PySem.Calls PyProof.Rows PySem.W
variable {prog : Program} {w : World} {A : Around} {E : Value → Shared → Prop} {s : Shared} {K : Frag} {x D : Addr} {ox : Obj} {od : Option Obj}
/-! ### isinstance of an exception that holds fields -/
theorem x_findObj {C : Addr} {name : Str} {a g : Value} (hc : (clsIn K C).isSome = true) (ha : findIn K (.ref C) name = some (some a)) (hg : specialIn K a "__get__" = some (some g)) (ht : takesIn K a = some true) : findObj K C od name = some (.bind g a) := by
  obtain ⟨cd, hc⟩ := Option.isSome_iff_exists.mp hc
  unfold findObj
  rw [hc, Option.bind_some, ha, Option.bind_some]
  simp [hg, ht]
theorem x_class {Q : Option Value → Shared → Prop} (hga : findIn K (.ref D) "__getattribute__" = some (some (.builtin "BaseException.__getattribute__"))) (hgt : findIn K (.ref D) "__getattr__" = some none) (hsub : subIn K (.ref D) (.type "BaseException") = some true)
    (hdct : hasDictIn K D = true) (ha : findIn K (.ref D) "__class__" = some (some (.builtin "object.__class__")))
    (hn : specialIn K (.builtin "object.__class__") "__get__" = some (some (.builtin "getset_descriptor.__get__"))) (htk : takesIn K (.builtin "object.__class__") = some true) (hm : mroIn K D (.type "object") = some true)
    (X : K.In s.heap) (I : InstAt s.heap x ox D od) (h : Q (some (.ref D)) { s with toks := s.toks + 1 }) : wpAny (model prog w) A (getAttr? (.ref x) "__class__") Q E s := by
  have hf : findObj K D od "__class__" = some (.bind (.builtin "getset_descriptor.__get__") (.builtin "object.__class__")) := x_findObj (by obtain ⟨cd, hc, _⟩ := any_some hdct; rw [hc]; rfl) ha hn htk
  obtain ⟨hp, g, d, t, os⟩ := s
  have L0 := I.type (M := model prog w)
  have L1 := looks_findIn (M := model prog w) X hga
  have L2 := looks_findIn (M := model prog w) X hgt
  have L3 := looks_find (M := model prog w) X I hf
  have sub : Looks (model prog w) hp (isInstance (.ref x) (.type "BaseException")) true := L0.andThen (looks_subIn X hsub)
  have hx0 : (false && onTheHeap (Value.builtin "BaseException.__getattribute__")) = false := rfl
  have hx2 : (Value.builtin "BaseException.__getattribute__" == Value.builtin "object.__getattribute__") = false := by decide +kernel
  have hx1 : (onTheHeap (Value.ref D) && Value.builtin "BaseException.__getattribute__" == Value.builtin "object.__getattribute__") = false := by rw [hx2]; rfl
  unfold getAttr? getAttrBy? getAttrBy
  refine wpAny_bind (wpAny_mkText (wpAny_bind (wpAny_attempt (wpAny_holding (wpAny_bind (L0.at (wpAny_bind (L1.at ?_))))))))
  show wpAny _ _ (if (onTheHeap (Value.ref D) && Value.builtin "BaseException.__getattribute__" == Value.builtin "object.__getattribute__") = true then _ else _) _ _ _
  rw [hx1, if_neg Bool.false_ne_true]
  unfold getAttrByItsOwn hookBefore
  refine wpAny_bind ?_
  rw [if_pos (show onTheHeap (Value.ref D) = true from rfl)]
  refine L2.at ?_
  refine wpAny_bind (wpAny_attempt (wpAny_holding ?_))
  unfold callGetattribute
  rw [hx0, if_neg Bool.false_ne_true]
  unfold boundAndCalled
  rw [PySem.F.excAttr_ValueError.ga.bind (.ref x)]
  refine wpAny_bind (wpAny_pure ?_)
  show wpAny _ _ (call (.builtin "BaseException.__getattribute__") [.ref x, .str "__class__" t]) _ _ _
  refine wpAny_call (codeAny_call_builtin PySem.F.excAttr_ValueError.ga.plain PySem.F.entry_bexc_ga ?_)
  refine @check_slot (model prog w) _ _ ⟨hp, g, d, t + 1, os⟩ "BaseException.__getattribute__" "BaseException" "__getattribute__" (.ref x) [.str "__class__" t] [] _ (by decide +kernel) (by decide +kernel) sub (PySem.F.args_bexc_ga (.ref x) (.str "__class__" t)) ?_
  unfold Builtin.«object.__getattribute__»
  refine wpAny_bind (wpAny_of_eq (a := ((Value.ref x : Value), [Value.str "__class__" t])) (by first | rfl | (simp only [slotArgs]; rfl)) ?_)
  refine wpAny_bind (wpAny_pure (wpAny_bind (L0.at (wpAny_bind (L3.at ?_)))))
  show wpAny _ _ (holding [Value.builtin "object.__class__"] (call (.builtin "getset_descriptor.__get__") [.builtin "object.__class__", .ref x, .ref D]) >>= ret) _ _ _
  refine wpAny_bind (wpAny_holding (wpAny_call (class_get (s := ⟨hp, g, d, t + 1, os⟩) (ox := ox) (od := od) X I hm ?_)))
  refine wpAny_pure ?_
  show wpAny _ _ (handedOut (.ref D)) _ _ _
  rw [handedOut_of (v := .ref D) rfl]
  first
    | exact wpAny_pure (wpAny_pure h)
    | exact wpAny_pure h
    | exact wpAny_pure (wpAny_bind (wpAny_pure (wpAny_pure h)))
theorem x_kitx (hga : findIn K (.ref D) "__getattribute__" = some (some (.builtin "BaseException.__getattribute__"))) (hgt : findIn K (.ref D) "__getattr__" = some none) (hsub : subIn K (.ref D) (.type "BaseException") = some true) (hdct : hasDictIn K D = true) (ha : findIn K (.ref D) "__class__" = some (some (.builtin "object.__class__")))
    (hn : specialIn K (.builtin "object.__class__") "__get__" = some (some (.builtin "getset_descriptor.__get__"))) (htk : takesIn K (.builtin "object.__class__") = some true) (hm : mroIn K D (.type "object") = some true) :
    KitX K (.ref x) (.ref D) (fun h => InstAt h x ox D od) where
  ty := fun _ _ _ I => I.type
  it := fun _ _ X _ => by
    obtain ⟨cdD, hcD, _⟩ := any_some hdct
    unfold clsIn at hcD
    split at hcD
    · rename_i c' d' cd' sl' ho
      intro A' Q' E' s' k q
      unfold isType loadHead
      exact wpAny_bind (wpAny_loadPart (k _ _ (X _ _ ho)) (wpAny_pure q))
    · cases hcD
  ne := fun h tp dd its n sl X htp => by
    obtain ⟨cdD, hcD, _⟩ := any_some hdct
    refine Bool.eq_false_iff.mpr fun q => ?_
    have e : D = tp := Value.ref.inj (beq_iff_eq.mp q)
    subst e
    unfold clsIn at hcD
    split at hcD
    · rename_i c' d' cd' sl' ho
      have z := (X _ _ ho).symm.trans htp
      cases z
    · cases hcD
  ca := fun X I k => x_class hga hgt hsub hdct ha hn htk hm X I k
end
open PySem PySem.Spec PyProof.Rows L2
/-- what is told of an exception that holds fields, seen in the heap -/
theorem inst_of {X : Cx} {pins : List (Addr × Obj)} {σ : St} {H : Hp} {s : Shared} {a C dx : Addr} {fs : List (Str × V)} (I : Inv X pins σ H s) (h : H a = some (trk (.ref C) (some dx) a)) (hd : H dx = some (.xd fs)) :
    ∃ (oe od : Obj), PySem.W.InstAt s.heap a oe C (some od) ∧ ∀ n v, fs.lookup n = some v → ∃ u, PySem.W.lookIn n od = some (some u) ∧ RelV v u := by
  obtain ⟨⟨oe, vs, ha, h1, h2, h3⟩, _⟩ := (show ObjOk X.prog X.w H s.heap a (trk (.ref C) (some dx) a) from I.hok a _ h)
  obtain ⟨mA, hns, hr⟩ := (show ObjOk X.prog X.w H s.heap dx (.xd fs) from I.hok dx _ hd)
  obtain ⟨od, ho, hl⟩ := lookIn_ns hns
  refine ⟨oe, od, ⟨ha, h1, by unfold PySem.W.notCls; rw [h3] <;> rfl, by rw [h2]; exact ho⟩, fun n v e => ?_⟩
  obtain ⟨u, hu, ru⟩ := RelO.some_of (v := v) (o := mA n) (by rw [← e]; exact hr n)
  exact ⟨u, by rw [hl, hu], ru⟩
def rIsY (K : PySem.W.Frag) : List V → Hp → VK → Prop := fun xs H Q => ∃ (a C dx : Addr) (fs : List (Str × V)) (c : V) (b : Bool), xs = [.ref a, c] ∧ H a = some (trk (.ref C) (some dx) a) ∧ H dx = some (.xd fs) ∧ ExcC K C ∧
  ((∃ u, ClsV c u ∧ PySem.W.kitOne K (.ref C) u = some b) ∨ ∃ (tp : Addr) (cs : List V) (us : List Value), c = .ref tp ∧ H tp = some (.tup cs) ∧ Paired ClsV cs us ∧ PySem.W.kitAny K (.ref C) us = some b) ∧ Q (.bl b) H
theorem call_isY_ {X : Cx} {K : PySem.W.Frag} (hK : X.K = K) : CallR X (.builtin "isinstance") (rIsY K) := by
  subst hK
  intro pins s σ H xs us Q I r h
  obtain ⟨a, C, dx, fs, c, b, rfl, hH, hD, E, hc, q⟩ := h
  obtain ⟨u1, u2, rfl, r1, r2⟩ := vals2 r
  cases (show u1 = Value.ref a from r1)
  obtain ⟨oe, od, J, _⟩ := inst_of I hH hD
  have Z := x_kitx (x := a) (ox := oe) (od := some od) E.hg E.hk E.hs E.hd E.ha E.hn E.ht E.hm
  rcases hc with ⟨u, k, e⟩ | ⟨tp, cs, ws, rfl, hT, k, e⟩
  · have e2 := k.eq r2
    subst e2
    exact PySem.W.kia_one (H := fun h => PySem.W.InstAt h a oe C (some od)) Z I.kIn J e (fun z => nomatch z) fun tk => ⟨.bl b, H, I.tok tk, rfl, q⟩
  · cases (show u2 = Value.ref tp from r2)
    obtain ⟨_, its, rv, o, p1, p2, n, p3⟩ := (show ObjOk X.prog X.w H s.heap tp (.tup cs) from I.hok tp _ hT)
    have e3 := ClsV.all k rv
    subst e3
    obtain ⟨oc, od', dt, sl⟩ := o
    dsimp only at p2 p3
    subst p2 p3
    exact PySem.W.kia_tup (H := fun h => PySem.W.InstAt h a oe C (some od)) Z I.kIn J p1 e (fun z => nomatch z) fun tk => ⟨.bl b, H, I.tok tk, rfl, q⟩
def lookX : List (Str × List Str) → Str → Option (List Str)
  | [], _ => none
  | (y, ys) :: t, x => if x = y then some ys else lookX t x
def XTs (K : PySem.W.Frag) (tb : List (Str × List Str)) : Prop := ∀ x ys, lookX tb x = some ys → XT K x ys
theorem XTs.nil {K : PySem.W.Frag} : XTs K [] := fun _ _ h => by cases h
theorem XTs.cons {K : PySem.W.Frag} {tb : List (Str × List Str)} {x : Str} {ys : List Str} (h : XT K x ys) (t : XTs K tb) : XTs K ((x, ys) :: tb) := fun y zs e => by
  unfold lookX at e
  split at e
  · rename_i hy
    cases e
    rw [hy]
    exact h
  · exact t y zs e
def isYF (tb : List (Str × List Str)) : List D → Option D
  | [.xn x _ _, .tup ds] => match lookX tb x with
    | some ys => if ds.all (fun d => (xTab x ys d).isSome) = true then (xAny x ys ds).map .bl else none
    | none => none
  | [.xn x _ _, d] => match lookX tb x with
    | some ys => (xTab x ys d).map .bl
    | none => none
  | _ => none
section
variable {K : PySem.W.Frag} {tb : List (Str × List Str)}
theorem s_isY (T : XTs K tb) : OpS K (rIsY K) (isYF tb) := fun H ds vs Q d R ef q => by
  unfold isYF at ef
  split at ef
  · rename_i x f i es
    obtain ⟨x1, y1, rfl, rx, ry⟩ := R.two_inv
    split at ef
    · rename_i ys el
      split at ef
      · rename_i al
        cases eb : xAny x ys es with
        | none => rw [eb] at ef; cases ef
        | some b =>
          rw [eb] at ef
          cases ef
          cases rx with
          | @xn _ _ _ C a dx hC hZ hD =>
            cases ry with
            | @tup tp us _ hT rr =>
              obtain ⟨ws, p, k⟩ := xAny_ok (T x ys el) hC rr al eb
              exact ⟨a, C, dx, _, _, b, rfl, hZ, hD, (T x ys el).exc C hC, .inr ⟨tp, us, ws, rfl, hT, p, k⟩, q _ (.bl _)⟩
      · cases ef
    · cases ef
  · rename_i x f i y _
    obtain ⟨x1, y1, rfl, rx, ry⟩ := R.two_inv
    split at ef
    · rename_i ys el
      cases eb : xTab x ys y with
      | none => rw [eb] at ef; cases ef
      | some b =>
        rw [eb] at ef
        cases ef
        cases rx with
        | @xn _ _ _ C a dx hC hZ hD =>
          obtain ⟨u, p, k⟩ := xTab_ok (T x ys el) hC ry eb
          exact ⟨a, C, dx, _, _, b, rfl, hZ, hD, (T x ys el).exc C hC, .inl ⟨u, p, k⟩, q _ (.bl _)⟩
    · cases ef
  · cases ef
end
/-! ### the field of a kept exception -/
def tXk (K : PySem.W.Frag) (f : Str) (te : TE) : TE := fun σ H Q => te σ H fun x H1 => ∃ (a C dx : Addr) (fs : List (Str × V)) (v : V), x = .ref a ∧ XfC K C ∧ PySem.W.findIn K (.ref C) f = some none ∧ H1 a = some (trk (.ref C) (some dx) a) ∧ H1 dx = some (.xd fs) ∧ fs.lookup f = some v ∧ Q v H1
theorem pe_xk {X : Cx} {K : PySem.W.Frag} {e : Expr} {te : TE} {pos : Pos} {n : Str} (hK : X.K = K) (he : PE X e te) (hb : attributeBase e n X.env (eval e X.env) = eval e X.env := by rfl) : PE X (.Attribute e n pos) (tXk K n te) := by
  subst hK
  refine ⟨fun pins s σ H Q I h => ?_⟩
  refine attr_of hb (thn (he.run pins s σ H _ I h) fun u s1 hh => ?_)
  obtain ⟨x, H1, I1, rx, a, C, dx, fs, v, rfl, T, hno, ea, ed, l, q⟩ := hh
  obtain rfl : u = Value.ref a := rx
  obtain ⟨oe, od, J, g⟩ := inst_of I1 ea ed
  obtain ⟨u, hu, ru⟩ := g n v l
  exact HandSPX.exc_get I1.kIn J T.ga T.gg T.exC (PySem.W.findObj_own T.hdC hno rfl hu) (handed_of ru) ⟨v, H1, I1.tok _, ru, q⟩
def FX (K : PySem.W.Frag) (f : Str) (xs : List Str) : Prop := ∀ x ∈ xs, ∀ C, PySem.W.nsIn K mainGlobals x = some (some (.ref C)) → XfC K C ∧ PySem.W.findIn K (.ref C) f = some none
theorem FX.nil {K : PySem.W.Frag} {f : Str} : FX K f [] := fun _ h => nomatch h
theorem FX.cons {K : PySem.W.Frag} {mg : Str → Option Value} {f x qual : Str} {st : Stmt} {xs : List Str} (T : IniT K mg x f st qual) (Z : XfC K T.C) (h : FX K f xs) : FX K f (x :: xs) := fun y m C hC => by
  rcases List.mem_cons.mp m with e | m
  · subst e
    have := T.nsx
    rw [hC] at this
    cases this
    exact ⟨Z, T.no⟩
  · exact h y m C hC
def xatM (xs : List Str) (f : Str) (m : M D) : M D := fun env => match m env with
  | .ok (.xn x g i) e => if x ∈ xs ∧ g = f then .ok (.int i) e else .no
  | .ex e e2 => .ex e e2
  | _ => .no
@[simp] theorem xatM_ap {xs : List Str} {f : Str} {m : M D} {env : Env} : xatM xs f m env = match m env with
  | .ok (.xn x g i) e => if x ∈ xs ∧ g = f then .ok (.int i) e else .no
  | .ex e e2 => .ex e e2
  | _ => .no := rfl
section
variable {K : PySem.W.Frag} {mg : Str → Option Value} {W : WX} {p : Bool} {xs : List Str} {f : Str} {te : TE} {m : M D}
theorem ev_xat (T : FX K f xs) (h1 : EvE K mg W p te m) : EvE K mg W p (tXk K f te) (xatM xs f m) := fun B env σ H F Q S h => by
  unfold xatM at h
  refine h1 B env σ H F _ S ?_
  cases em : m env with
  | ex e e2 => rw [em] at h; exact h
  | no => rw [em] at h; exact h.elim
  | ok d e =>
    rw [em] at h
    intro v H1 F1 Fd S1 N1 P1
    cases d with
    | xn x g i =>
      dsimp only at h
      by_cases hx : x ∈ xs ∧ g = f
      · rw [if_pos hx] at h
        obtain ⟨hx, rfl⟩ := hx
        have S2 := S1.sta
        have rr : Rep K H1 (.xn x g i) v := by
          cases S1.repH with
          | cons r _ => exact r
        cases rr with
        | @xn _ _ _ C a dx hC hZ hD =>
          obtain ⟨Z1, Z2⟩ := T x hx C hC
          exact ⟨a, C, dx, _, .int i, rfl, Z1, Z2, hZ, hD, by simp [List.lookup], h (.int i) H1 F1 [] (S2.rep (.cons (.int i) .nil)) (by rw [List.append_nil]; exact N1.weak fun a m => List.mem_append_left _ m) P1⟩
      · rw [if_neg hx] at h
        exact h.elim
    | _ => exact h.elim
end
/-! ### try .. except M as e: c = e, of exceptions that hold a field -/
def tryKI (i j : Nat) (xs : List Str) (m : MS) : MS := fun env => match m env with
  | .ex ⟨x, some (f, v)⟩ e => if x ∈ xs ∧ i < e.length ∧ j < e.length then .nx ((e.set j (some (false, .xn x f v))).set i none) else .no
  | .ex ⟨_, none⟩ _ => .no
  | r => r
theorem tryKI_ex {i j : Nat} {xs : List Str} {m : MS} {env e : Env} {x f : Str} {v : Int} (h : m env = .ex ⟨x, some (f, v)⟩ e) (hx : x ∈ xs) (hi : i < e.length) (hj : j < e.length) : tryKI i j xs m env = .nx ((e.set j (some (false, .xn x f v))).set i none) := by
  unfold tryKI
  rw [h]
  dsimp only
  rw [if_pos ⟨hx, hi, hj⟩]
theorem tryKI_nx {i j : Nat} {xs : List Str} {m : MS} {env e : Env} (h : m env = .nx e) : tryKI i j xs m env = .nx e := by
  unfold tryKI
  rw [h]
theorem Takers.nil {K : PySem.W.Frag} {mg : Str → Option Value} {c : Value} : Takers K mg c [] := ⟨fun _ h => nomatch h⟩
theorem Takers.cons {K : PySem.W.Frag} {mg : Str → Option Value} {c : Value} {x : Str} {xs : List Str} {C : Addr} (h1 : mg x = some (.ref C)) (h2 : PySem.W.nsIn K mainGlobals x = some (some (.ref C))) (h3 : PySem.W.exmOne K (.ref C) c = some true) (t : Takers K mg c xs) : Takers K mg c (x :: xs) where
  at_ := fun y m => by
    rcases List.mem_cons.mp m with e | m
    · rw [e]
      exact ⟨C, h1, h2, h3⟩
    · exact t.at_ y m
section
variable {K : PySem.W.Frag} {mg : Str → Option Value} {W : WX} {ps : List Nat} {ro : Bool} {i j : Nat} {xs : List Str} {m : MS} {tb : WX → TS} {c : Value}
theorem es_tryKI (T : Takers K mg c xs) (hb : ∀ W', EvS K mg W' ps ro (tb W') m) (hij : i ≠ j) (hi : i ∉ ps) (hj : j ∉ ps) : EvS K mg W ps ro (fun D σ H => tb (wKept K c i (tKeep i j) W D) D σ H) (tryKI i j xs m) := fun B env σ H F D S h => by
  refine hb _ B env σ H F D S ?_
  unfold tryKI at h
  cases em : m env with
  | nx e => rw [em] at h; exact h
  | bk e => rw [em] at h; exact h
  | ct e => rw [em] at h; exact h
  | rt d e => rw [em] at h; exact h
  | no => rw [em] at h; exact h
  | ex x e =>
    obtain ⟨x, f⟩ := x
    rw [em] at h
    cases f with
    | none => exact h.elim
    | some f =>
      obtain ⟨f, v⟩ := f
      dsimp only at h
      by_cases hx : x ∈ xs ∧ i < e.length ∧ j < e.length
      · rw [if_pos hx] at h
        obtain ⟨C, g1, g2, g3⟩ := T.at_ x hx.1
        intro cls dd σ1 H1 F1 S1 N1 k1 xx
        obtain ⟨x1, dx, x2, hdx⟩ := xx
        dsimp only at x1
        rw [g1] at x1
        cases x1
        subst x2
        refine ⟨true, g3, (fun z => nomatch z), fun _ a na => ?_⟩
        obtain ⟨_, li, lj⟩ := hx
        have hl : (σ1.set i (some (V.ref a)))[i]? = some (some (V.ref a)) := List.getElem?_set_self (by rw [← S1.lenE]; exact li)
        have S2 : Sta K B e σ1 (upd H1 a (trk (.ref C) (some dx) a)) F1 := S1.new na
        have hn := S1.nil.sub0 na
        rw [List.append_nil] at hn
        have hda : dx ≠ a := ne_of_none hdx na
        have rp : Rep K (Fz B (upd H1 a (trk (.ref C) (some dx) a)) F1) (.xn x f v) (.ref a) := .xn g2 (by rw [fz_in hn.1 hn.2]; exact upd_same) (by
          rw [fz_in (fun z => (S1.liv dx z).2.2 _ hdx) (fun z => (S1.bad dx z).1.2.2 _ hdx), upd_ne hda]; exact hdx)
        obtain ⟨F2, S3, sub3⟩ := S2.putF (i := j) rp lj
        obtain ⟨F3, S4, sub4⟩ := Sta.putNo (i := i) S3 (by rw [List.length_set]; exact li)
        have N2 : Nxt H F (upd H1 a (trk (.ref C) (some dx) a)) F1 := N1.grow (ex_new na)
        refine ⟨.ref a, hl, ?_⟩
        show D.nx (((σ1.set i (some (V.ref a))).set j (some (V.ref a))).set i none) _
        rw [List.set_comm _ _ hij, List.set_set]
        exact h _ _ F3 S4 (N2.weak fun b m => sub3 b (sub4 b m)) ((k1.trans (.set hj)).trans (.set hi))
      · rw [if_neg hx] at h
        exact h.elim
end
/-! ### X(e).f -/
def tMkAt (C : Addr) (sp : Sp) (f : Str) (ta : TA) : TE := fun σ H Q => tMkO C sp [] ta σ H fun cls d H' => ∃ (dx : Addr) (fs : List (Str × V)) (v : V), cls = .ref C ∧ d = some dx ∧ H' dx = some (.xd fs) ∧ fs.lookup f = some v ∧ ∀ a, H' a = none → Q v (upd H' a (trk (.ref C) (some dx) a))
theorem pe_mkat {X : Cx} {C : Addr} {e : Expr} {t : St → Hp → XK → Prop} {pos : Pos} {n : Str} (T : XfC X.K C) (hno : PySem.W.findIn X.K (.ref C) n = some none) (he : PMk X e t) (hb : attributeBase e n X.env (eval e X.env) = eval e X.env := by rfl) :
    PE X (.Attribute e n pos) (fun σ H Q => t σ H fun cls d H' => ∃ (dx : Addr) (fs : List (Str × V)) (v : V), cls = .ref C ∧ d = some dx ∧ H' dx = some (.xd fs) ∧ fs.lookup n = some v ∧ ∀ a, H' a = none → Q v (upd H' a (trk (.ref C) (some dx) a))) := by
  refine ⟨fun pins s σ H Q I h => ?_⟩
  refine attr_of hb (thn (he pins s σ H _ I h) fun u s1 hh => ?_)
  obtain ⟨a, oe, vs, sI, H1, cls, d, rfl, J, kk, hne, ha, hz, hd, h1, na, os, ag, r, dx, fs, v, rfl, rfl, ed, l, q⟩ := hh
  have J2 := J.laidN (t' := s1.toks) (o := trk (.ref C) (some dx) a) (h' := s1.heap) kk hne na ⟨⟨oe, vs, ha, hz.1, hz.2, hd⟩, ⟨oe, ha⟩, fun _ _ ⟨o, v, q, r⟩ k => ⟨o, v, k o q, r⟩⟩
  have I1 : Inv X pins σ (upd H1 a (trk (.ref C) (some dx) a)) s1 := ⟨J2.ok, os ▸ J.os, ag, J2.base, J2.loc, J2.cell, J2.free, J2.freeC, J2.pin, J2.hok, J2.len⟩
  have hda : dx ≠ a := ne_of_none ed na
  obtain ⟨oe, od, Jx, g⟩ := inst_of I1 upd_same (by rw [upd_ne hda]; exact ed)
  obtain ⟨u, hu, ru⟩ := g n v l
  exact HandSPX.exc_get I1.kIn Jx T.ga T.gg T.exC (PySem.W.findObj_own T.hdC hno rfl hu) (handed_of ru) ⟨v, _, I1.tok _, ru, q a na⟩
def mkatM (x f : Str) (m : M D) : M D := fun env => match m env with
  | .ok (.int i) e => .ok (.int i) e
  | .ex e e2 => .ex e e2
  | _ => .no
@[simp] theorem mkatM_ap {x f : Str} {m : M D} {env : Env} : mkatM x f m env = match m env with
  | .ok (.int i) e => .ok (.int i) e
  | .ex e e2 => .ex e e2
  | _ => .no := rfl
section
variable {K : PySem.W.Frag} {mg : Str → Option Value} {W : WX} {x f qual : Str} {st : Stmt} {te : TE} {m : M D}
theorem ev_mkat (T : IniT K mg x f st qual) (h1 : EvE K mg W true te m) : EvE K mg W true (fun σ H Q => tMkO T.C (spIni K f) [] (tCons te tNil) σ H fun cls d H' => ∃ (dx : Addr) (fs : List (Str × V)) (v : V), cls = .ref T.C ∧ d = some dx ∧ H' dx = some (.xd fs) ∧ fs.lookup f = some v ∧ ∀ a, H' a = none → Q v (upd H' a (trk (.ref T.C) (some dx) a))) (mkatM x f m) := fun B env σ H F Q S h => by
  unfold mkatM at h
  refine h1 B env σ H F _ S ?_
  cases em : m env with
  | ex e e2 => rw [em] at h; exact h
  | no => rw [em] at h; exact h.elim
  | ok d e =>
    rw [em] at h
    intro v H1 F1 Fd S1 N1 P1
    cases d with
    | int i =>
      dsimp only at h
      have S2 := S1.sta
      have N2 : Nxt H F H1 F1 := N1.weak fun a m => List.mem_append_left _ m
      have hv : v = .int i := by
        cases S1.repH with
        | cons r _ => cases r; rfl
      subst hv
      refine ⟨by simp, fun a na => ⟨a, T.C, i, rfl, T.oC, T.no, upd_same, fun dx ndx ne => ⟨rfl, dx, [(f, .int i)], ?_, ?_, ?_, ?_⟩⟩⟩
      · exact upd_same
      · rw [upd_ne ne, upd_same]
      · rwa [upd_ne ne] at ndx
      · have n1 : H1 dx = none := by rwa [upd_ne ne] at ndx
        have eH : upd (del (upd (upd (upd H1 a (exo a T.C none)) dx (exd dx [(f, .int i)])) a (exo a T.C (some dx))) a) dx (.xd [(f, .int i)]) = upd H1 dx (.xd [(f, .int i)]) := by
          funext b
          by_cases hb : b = dx
          · rw [hb, upd_same, upd_same]
          · rw [upd_ne hb, upd_ne hb]
            by_cases ha : b = a
            · rw [ha, del_same, na]
            · rw [del_ne ha, upd_ne ha, upd_ne hb, upd_ne ha]
        rw [eH]
        refine ⟨dx, _, .int i, rfl, rfl, upd_same, by simp [List.lookup], fun a2 na2 => ?_⟩
        have S3 := (S2.new (o := .xd [(f, .int i)]) n1).new (o := trk (.ref T.C) (some dx) a2) na2
        have xx : Ex H1 (upd (upd H1 dx (.xd [(f, .int i)])) a2 (trk (.ref T.C) (some dx) a2)) := (ex_new n1).trans (ex_new na2)
        exact h (.int i) _ F1 [] (S3.rep (.cons (.int i) .nil)) (by rw [List.append_nil]; exact N2.grow xx) fun hp => by
          obtain ⟨p1, p2, p3⟩ := P1 hp
          exact ⟨p1, p2, p3.trans xx⟩
    | _ => exact h.elim
end
theorem pe_mkatI {X : Cx} {mg : Str → Option Value} {K : PySem.W.Frag} {x f qual : Str} {st : Stmt} {k : Nat} {e : Expr} {te : TE} {p pos pos2 : Pos} (T : IniT K mg x f st qual) (Z : XfC K T.C) (hK : X.K = K) (hm : X.mg = mg) {W : WX} (tk : Takes X W) (F1 : FnOk X.prog X.w K mg X.base (L2.CX X.prog X.w) k T.fI T.fd ["self", f] (spIni K f)) (hr : Room (k + 1) X.A) (hg : Gl X x) (ha : PA X [e] (tCons te tNil))
    (hdb : (x == ("__debug__" : Str)) = false := by decide) (hs : starEach [e] X.env = (false, eval e X.env) :: starEach [] X.env := by rfl) (hb : attributeBase (.Call (.Name x p) [e] [] pos2) f X.env (eval (.Call (.Name x p) [e] [] pos2) X.env) = eval (.Call (.Name x p) [e] [] pos2) X.env := by rfl) :
    PE X (.Attribute (.Call (.Name x p) [e] [] pos2) f pos) (fun σ H Q => tMkO T.C (spIni K f) [] (tCons te tNil) σ H fun cls d H' => ∃ (dx : Addr) (fs : List (Str × V)) (v : V), cls = .ref T.C ∧ d = some dx ∧ H' dx = some (.xd fs) ∧ fs.lookup f = some v ∧ ∀ a, H' a = none → Q v (upd H' a (trk (.ref T.C) (some dx) a))) := by
  subst hK hm
  exact pe_mkat Z T.no (pmk_oex T.oC T.ini T.tI F1 hr T.b .nil (passN tk) hg T.mgx ha hdb hs) hb
theorem names_bas {X : Cx} {K : PySem.W.Frag} {mg : Str → Option Value} {x : Str} (T : BasT K mg x) (hm : X.mg = mg) (hg : Gl X x) (hdb : (x == ("__debug__" : Str)) = false := by decide) : Names X x (.ref T.C) := by
  subst hm
  exact ⟨hg, hdb, .inl T.mgx⟩
/-- what more is told of such a class: isinstance asks rightly -/
theorem xt_mk {K : PySem.W.Frag} {x : Str} {ys : List Str} {C : Addr} (ns : PySem.W.nsIn K mainGlobals x = some (some (.ref C)))
    (hg : PySem.W.findIn K (.ref C) "__getattribute__" = some (some (.builtin "BaseException.__getattribute__"))) (hk : PySem.W.findIn K (.ref C) "__getattr__" = some none) (sub : PySem.W.subIn K (.ref C) (.type "BaseException") = some true) (hd : PySem.W.hasDictIn K C = true) (ha : PySem.W.findIn K (.ref C) "__class__" = some (some (.builtin "object.__class__")))
    (hn : PySem.W.specialIn K (.builtin "object.__class__") "__get__" = some (some (.builtin "getset_descriptor.__get__"))) (ht : PySem.W.takesIn K (.builtin "object.__class__") = some true) (hm : PySem.W.mroIn K C (.type "object") = some true)
    (ve : PySem.W.subIn K (.ref C) (.type "ValueError") = some true) (se : PySem.W.subIn K (.ref C) (.ref C) = some true) (oth : OthOk K C ys) : XT K x ys where
  exc := fun C' e => by
    rw [ns] at e
    cases e
    exact ⟨hg, hk, sub, hd, ha, hn, ht, hm⟩
  val := fun C' e => by
    rw [ns] at e
    cases e
    exact kit_val ve
  oth := fun C' e => by
    rw [ns] at e
    cases e
    exact othOk_of se oth
end MM

set_option Elab.async false
set_option linter.all false
set_option maxRecDepth 100000
set_option maxHeartbeats 8000000
noncomputable section
namespace MM
open PySem PySem.Spec PyProof.Rows L2

/-! ### tuple(range(a, b)) -/
def tupRg2F : List D → Option D
  | [.int a, .int n] => haveI : Decidable (RgOk a n) := Classical.propDecidable _; if RgOk a n then some (.tup (rangeL a (n - a).toNat)) else none
  | _ => none
def rTupRg2 : List V → Hp → VK → Prop := fun vs H Q => match vs with
  | [x, y] => ∃ i j, x = .int i ∧ y = .int j ∧ (RgOk i j ∧ ∀ q, H q = none → Q (.ref q) (upd H q (.tup (rgV i j))))
  | _ => False
section
variable {K : PySem.W.Frag}
theorem n_tupRg2 : OpN K rTupRg2 tupRg2F := fun Z H ds vs Q d ez R ef q ql qt => by
  unfold tupRg2F at ef
  split at ef
  · rename_i a n
    obtain ⟨x, y, rfl, rx, ry⟩ := R.two_inv
    cases rx
    cases ry
    split at ef
    · rename_i hb
      cases ef
      exact ⟨a, n, rfl, rfl, hb, fun p hp => qt _ p _ rfl hp (repL_rg (K := K) (Z := Z) a (n - a).toNat)⟩
    · cases ef
  · cases ef
end
/-! ### "..".join(a list of texts) -/
def strsOf : List D → Option (List Str)
  | [] => some []
  | .str x :: ds => match strsOf ds with
    | some ys => some (x :: ys)
    | none => none
  | _ :: _ => none
theorem strsOf_rep {K : PySem.W.Frag} {H : Hp} : ∀ {ds : List D} {vs : List V} {ys : List Str}, RepL K H ds vs → strsOf ds = some ys → vs = ys.map V.str
  | [], _, ys, .nil, e => by
    cases e
    rfl
  | d :: ds, v :: vs, ys, .cons r t, e => by
    unfold strsOf at e
    split at e
    · rename_i h
      cases h
    · rename_i x ds' h
      cases h
      split at e
      · rename_i zs ez
        cases e
        cases r
        rw [List.map_cons, strsOf_rep t ez]
      · cases e
    · cases e
open Classical in
def joinM (a : Str) (m : M D) : M D := fun env => match m env with
  | .ok (.lst ds) e => match strsOf ds with
    | some ys => if (ys.map (·.length)).sum + ys.length * a.length ≤ 16777216 then .ok (.str (Txt.join a ys)) e else .no
    | none => .no
  | .ex e e2 => .ex e e2
  | _ => .no
open Classical in
@[simp] theorem joinM_ap {a : Str} {m : M D} {env : Env} : joinM a m env = match m env with
  | .ok (.lst ds) e => match strsOf ds with
    | some ys => if (ys.map (·.length)).sum + ys.length * a.length ≤ 16777216 then .ok (.str (Txt.join a ys)) e else .no
    | none => .no
  | .ex e e2 => .ex e e2
  | _ => .no := rfl
section
variable {K : PySem.W.Frag} {mg : Str → Option Value} {W : WX} {p : Bool} {te : TE} {m : M D} {a : Str}
theorem ev_join (h1 : EvE K mg W p te m) : EvE K mg W p (tM1 (fun x xs H Q => ∃ a p, ∃ ys : List Str, x = .str a ∧ xs = [.ref p] ∧ (SqL K H p (ys.map V.str) ∨ SqT K H p (ys.map V.str)) ∧
      (ys.map (·.length)).sum + ys.length * a.length ≤ 16777216 ∧ Q (.str (Txt.join a ys)) H) (tC (.str a)) te) (joinM a m) := fun B env σ H F Q S h => by
  unfold joinM at h
  refine ⟨⟨a, rfl⟩, h1 B env σ H F _ S ?_⟩
  cases em : m env with
  | ex e e2 => rw [em] at h; exact h
  | no => rw [em] at h; exact h.elim
  | ok d e =>
    rw [em] at h
    intro v H1 F1 Fd S1 N1 P1
    cases d with
    | lst ds =>
      dsimp only at h
      cases es : strsOf ds with
      | none => rw [es] at h; exact h.elim
      | some ys =>
        rw [es] at h
        dsimp only at h
        by_cases hz : (ys.map (·.length)).sum + ys.length * a.length ≤ 16777216
        · rw [if_pos hz] at h
          have S2 := S1.sta
          have rr : Rep K H1 (.lst ds) v := by
            cases S1.repH with
            | cons r _ => exact r
          cases rr with
          | lst hh rl =>
            have ev := strsOf_rep rl es
            subst ev
            exact ⟨a, _, ys, rfl, rfl, .inl (.of hh), hz, h (.str _) H1 F1 [] (S2.rep (.cons (.str _) .nil)) (by rw [List.append_nil]; exact N1.weak fun a m => List.mem_append_left _ m) P1⟩
        · rw [if_neg hz] at h
          exact h.elim
    | _ => exact h.elim
end
end MM

set_option Elab.async false
set_option linter.all false
set_option maxRecDepth 100000
set_option maxHeartbeats 4000000
noncomputable section
namespace MM
open PySem PySem.Spec PyProof.Rows L2
def fuel : Nat := 1000000
def m__law_pen : MS :=
  retM (dispM [(.inr "script", vrM 0), (.inr "at", cM (.int 0)), (.inr "left", cM (.int 0))])
def f__law_pen : List D → RF := callF 1 1 m__law_pen
def m__law_draw_12 : MS :=
  setM 0 (opM absF (consM (vrM 4) (nilM))) (cM (.str "left"))
def m__law_draw_8 : MS :=
  seqM (ifS (orM (tstM (opM geF (consM (vrM 3) (consM (opM lenF (consM (vrM 2) (nilM))) (nilM))))) (tstM (opM ltF (consM (opM absF (consM (vrM 4) (nilM))) (consM (opM powF (consM (cM (.int 10)) (consM (cM (.int 18)) (nilM)))) (nilM)))))) (seqM (asgF 5 (opM modF (consM (opM mulF (consM (opM addF (consM (opM addF (consM (opM modF (consM (vrM 4) (consM (cM (.int 2147483629)) (nilM)))) (consM (opM mulF (consM (cM (.int 7907)) (consM (vrM 3) nilM))) nilM))) (consM (cM (.int 17)) nilM))) (consM (cM (.int 48271)) nilM))) (consM (cM (.int 2147483647)) (nilM)))))
  (seqM (asgF 5 (opM modF (consM (opM addF (consM (opM addF (consM (opM mulF (consM (vrM 5) (consM (vrM 5) nilM))) (consM (opM mulF (consM (cM (.int 40692)) (consM (vrM 5) nilM))) nilM))) (consM (vrM 3) nilM))) (consM (cM (.int 2147483579)) (nilM)))))
  (retM (opM modF (consM (opM fdivF (consM (vrM 5) (consM (cM (.int 32)) (nilM)))) (consM (vrM 1) (nilM))))))) (nxM))
  (m__law_draw_12)
def m__law_draw_13 : MS :=
  seqM (asgF 6 (opM modF (consTM (ixT (rdM 0) (cM (.str "left"))) (consM (vrM 1) (nilM)))))
  (seqM (setM 0 (opM fdivF (consTM (ixT (rdM 0) (cM (.str "left"))) (consM (vrM 1) (nilM)))) (cM (.str "left")))
  (retM (vrM 6)))
def m__law_draw : MS :=
  seqM (asgF 2 (immM (ixT (rdM 0) (cM (.str "script")))))
  (seqM (asgF 3 (immM (ixT (rdM 0) (cM (.str "at")))))
  (seqM (ifS (tstM (opM eqF (consTM (ixT (rdM 0) (cM (.str "left"))) (consM (cM (.int 0)) (nilM))))) (seqM (setM 0 (opM addF (consM (vrM 3) (consM (cM (.int 1)) nilM))) (cM (.str "at")))
  (seqM (asgF 4 (cM (.int 7)))
  (seqM (ifS (tstM (opM gtF (consM (opM lenF (consM (vrM 2) (nilM))) (consM (cM (.int 0)) (nilM))))) (asgF 4 (opM ixF (consM (vrM 2) (consM (opM modF (consM (vrM 3) (consM (opM lenF (consM (vrM 2) (nilM))) (nilM)))) nilM)))) (nxM))
  (m__law_draw_8)))) (nxM))
  (m__law_draw_13)))
def p__law_draw : D → List D → RP := callP 2 7 m__law_draw
def m__law_any_turn : MS :=
  seqM (asgO 2 (opM lstRg1F (consM (vrM 1) (nilM))))
  (retM (opM tupleF (consM (lcM [3] (range1M (consM (vrM 1) (nilM))) (bdName 3) (yesM) (mutM 2 popAtF (consM (clP 0 p__law_draw (consM (opM lenF (consTM (rdM 2) (nilM))) (nilM))) (nilM)))) (nilM))))
def p__law_any_turn : D → List D → RP := callP 2 4 m__law_any_turn
def m__law_turns : MS :=
  seqM (asgF 2 (lcM [3] (range1M (consM (clP 0 p__law_draw (consM (cM (.int 3)) (nilM))) (nilM))) (bdName 3) (yesM) (clP 0 p__law_any_turn (consM (vrM 1) (nilM)))))
  (seqM (ifS (andM (tstM (opM gtF (consM (vrM 1) (consM (cM (.int 4)) (nilM))))) (tstM (opM eqF (consM (clP 0 p__law_draw (consM (cM (.int 3)) (nilM))) (consM (cM (.int 0)) (nilM)))))) (asgF 2 (lstM (consM (opM addF (consM (opM tupRg2F (consM (cM (.int 1)) (consM (vrM 1) (nilM)))) (consM (tupM (consM (cM (.int 0)) (nilM))) nilM))) (consM (opM addF (consM (tupM (consM (cM (.int 1)) (consM (cM (.int 0)) (nilM)))) (consM (opM tupRg2F (consM (cM (.int 2)) (consM (vrM 1) (nilM)))) nilM))) (nilM))))) (nxM))
  (retM (vrM 2)))
def p__law_turns : D → List D → RP := callP 2 4 m__law_turns
def m_is_whole : MS :=
  retM (imM (andVM (opM (isiF .int) (consM (vrM 0) (consM (cM (.opq (.ty "int"))) (nilM)))) (notVM (opM (isiF .bool) (consM (vrM 0) (consM (cM (.opq (.ty "bool"))) (nilM)))))))
def f_is_whole : List D → RF := callF 1 1 m_is_whole
def m_is_turn_of_3 : MS :=
  retM (imM (opM eqF (consM (opM sortTF (consM (vrM 1) (nilM))) (consM (opM lstRg1F (consM (vrM 0) (nilM))) (nilM)))))
def m_is_turn_of : MS :=
  seqM (ifS (orM (notM (tstM (opM (isiF .tuple) (consM (vrM 1) (consM (cM (.opq (.ty "tuple"))) (nilM)))))) (orM (tstM (opM neF (consM (opM lenF (consM (vrM 1) (nilM))) (consM (vrM 0) (nilM))))) (notM (tstM (opM allF (consM (lcM [2] (itemsM (vrM 1)) (bdName 2) (yesM) (clF f_is_whole (consM (vrM 2) (nilM)))) (nilM))))))) (retM (imM (cM (.bl false)))) (nxM))
  (m_is_turn_of_3)
def f_is_turn_of : List D → RF := callF 2 3 m_is_turn_of
def m_then_3 : MS :=
  retM (opM tupleF (consM (lcM [2] (itemsM (vrM 0)) (bdName 2) (yesM) (opM ixF (consM (vrM 1) (consM (vrM 2) nilM)))) (nilM)))
def m_then : MS :=
  seqM (ifS (tstM (opM neF (consM (opM lenF (consM (vrM 0) (nilM))) (consM (opM lenF (consM (vrM 1) (nilM))) (nilM))))) (raiseIM "NoTurn" "at" (cM (.int 1))) (nxM))
  (m_then_3)
def f_then : List D → RF := callF 2 3 m_then
def m_grown_turns_11 : MS :=
  seqM (setM 3 (cM (.bl true)) (vrM 7))
  (dropM (mutM 4 appendF (consM (vrM 7) (nilM))))
def m_grown_turns_7 : MS :=
  seqM (asgF 7 (clF f_then (consM (vrM 5) (consM (vrM 6) (nilM)))))
  (ifS (tstM (opM notInF (consM (vrM 7) (consTM (rdM 3) (nilM))))) (seqM (ifS (tstM (opM eqF (consM (opM lenF (consTM (rdM 3) (nilM))) (consM (cM (.int 60)) (nilM))))) ((fun _ => .no)) (nxM))
  (m_grown_turns_11)) (nxM))
def m_grown_turns_5 : MS :=
  seqM (asgF 5 (mutM 4 popF (nilM)))
  (loopM (itemsM (vrM 1)) (bdName 6) (m_grown_turns_7))
def m_grown_turns : MS :=
  seqM (asgF 2 (opM tupRg1F (consM (vrM 0) (nilM))))
  (seqM (asgO 3 (dT1M (vrM 2) (cM (.bl true))))
  (seqM (asgO 4 (lstM (consM (vrM 2) (nilM))))
  (seqM (whM (tstM (opM neF (consTM (rdM 4) (consM (lstM (nilM)) (nilM))))) (m_grown_turns_5) fuel)
  (retM (mvM 3)))))
def f_grown_turns : List D → RF := callF 2 8 m_grown_turns
def m_group_of_4 : MS :=
  ifS (notM (tstM (clF f_is_turn_of (consM (vrM 0) (consM (opM ixF (consM (vrM 1) (consM (vrM 2) nilM))) (nilM)))))) (raiseIM "NoTurn" "at" (vrM 2)) (nxM)
def m_group_of_6 : MS :=
  retM (opM tupleF (consM (opM sorted3F (consM (opM listTF (consM (clF f_grown_turns (consM (vrM 0) (consM (vrM 1) (nilM)))) (nilM))) (nilM))) (nilM)))
def m_group_of_3 : MS :=
  seqM (loopM (range1M (consM (opM lenF (consM (vrM 1) (nilM))) (nilM))) (bdName 2) (m_group_of_4))
  (m_group_of_6)
def m_group_of : MS :=
  seqM (ifS (notM (tstM (chM (fun i j => decide (i ≤ j)) (fun i j => decide (i ≤ j)) (consM (cM (.int 1)) (consM (vrM 0) (nilM))) (cM (.int 7))))) (raiseIM "NoTurn" "at" (opM negF (consM (cM (.int 1)) (nilM)))) (nxM))
  (m_group_of_3)
def f_group_of : List D → RF := callF 2 3 m_group_of
def m__law_same : MS :=
  retM (imM (andVM (opM eqF (consM (vrM 0) (consM (vrM 1) (nilM)))) (opM eqF (consM (opM reprZF (consM (vrM 0) (nilM))) (consM (opM reprZF (consM (vrM 1) (nilM))) (nilM))))))
def f__law_same : List D → RF := callF 2 2 m__law_same
def m__law_refused_9 : MS :=
  retM (imM (andVM (notVM (opM (isYF [("NoTurn", ["BelowNought", "NoBack", "NoColours", "NoLeading", "NoName", "NoNumber", "NoRow", "NoSet", "NoText", "TooMany"])]) (consM (vrM 4) (consM (tupM (consM (cM (.nam false "NoSet")) (consM (cM (.nam false "NoText")) (consM (cM (.nam false "TooMany")) (nilM))))) (nilM))))) (clF f__law_same (consM (xatM ["NoTurn"] "at" (vrM 4)) (consM (vrM 2) (nilM))))))
def m__law_refused_7 : MS :=
  seqM (ifS (tstM (opM (isYF [("NoTurn", ["BelowNought", "NoBack", "NoColours", "NoLeading", "NoName", "NoNumber", "NoRow", "NoSet", "NoText", "TooMany"])]) (consM (vrM 4) (consM (tupM (consM (cM (.nam false "BelowNought")) (consM (cM (.nam false "NoBack")) (consM (cM (.nam false "NoColours")) (consM (cM (.nam false "NoLeading")) (consM (cM (.nam false "NoName")) (consM (cM (.nam false "NoNumber")) (consM (cM (.nam false "NoRow")) (nilM))))))))) (nilM))))) (retM (imM (cM (.bl false)))) (nxM))
  (m__law_refused_9)
def m__law_refused : MS :=
  seqM (asgF 3 (opM reprZF (consM (vrM 1) (nilM))))
  (seqM (asgF 4 (cM .non))
  (seqM (tryKI 5 4 ["NoTurn"] (dropM (clF f_group_of (consM (vrM 0) (consM (vrM 1) (nilM))))))
  (seqM (ifS (orM (tstM (opM neF (consM (opM reprZF (consM (vrM 1) (nilM))) (consM (vrM 3) (nilM))))) (orM (notM (tstM (opM (isYF [("NoTurn", ["BelowNought", "NoBack", "NoColours", "NoLeading", "NoName", "NoNumber", "NoRow", "NoSet", "NoText", "TooMany"])]) (consM (vrM 4) (consM (cM (.nam false "NoTurn")) (nilM)))))) (notM (tstM (opM (isYF [("NoTurn", ["BelowNought", "NoBack", "NoColours", "NoLeading", "NoName", "NoNumber", "NoRow", "NoSet", "NoText", "TooMany"])]) (consM (vrM 4) (consM (cM (.opq (.ty "ValueError"))) (nilM)))))))) (retM (imM (cM (.bl false)))) (nxM))
  (m__law_refused_7))))
def f__law_refused : List D → RF := callF 3 6 m__law_refused
def m__law_odd_7 : MS :=
  dropM (mutM 5 appendF (consM (opM addF (consM (opM addF (consM (slM (vrM 2) (noM) (partM (vrM 3))) (consM (tupM (consM (vrM 6) (nilM))) nilM))) (consM (slM (vrM 2) (partM (opM addF (consM (vrM 3) (consM (cM (.int 1)) nilM)))) (noM)) nilM))) (nilM)))
def m__law_odd_11 : MS :=
  frzM 5 (retM (opM ixF (consM (vrM 5) (consM (clP 0 p__law_draw (consM (opM lenF (consTM (rdM 5) (nilM))) (nilM))) nilM))))
def m__law_odd_8 : MS :=
  seqM (ifS (tstM (opM gtF (consM (vrM 1) (consM (cM (.int 1)) (nilM))))) (seqM (dropM (mutM 5 appendF (consM (opM addF (consM (opM addF (consM (slM (vrM 2) (noM) (partM (vrM 3))) (consM (tupM (consM (opM ixF (consM (vrM 2) (consM (opM subF (consM (vrM 3) (consM (cM (.int 1)) (nilM)))) nilM))) (nilM))) nilM))) (consM (slM (vrM 2) (partM (opM addF (consM (vrM 3) (consM (cM (.int 1)) nilM)))) (noM)) nilM))) (nilM))))
  (dropM (mutM 5 appendF (consM (opM addF (consM (opM addF (consM (slM (vrM 2) (noM) (partM (vrM 3))) (consM (tupM (consM (cM (.bl false)) (nilM))) nilM))) (consM (slM (vrM 2) (partM (opM addF (consM (vrM 3) (consM (cM (.int 1)) nilM)))) (noM)) nilM))) (nilM))))) (nxM))
  (m__law_odd_11)
def m__law_odd : MS :=
  seqM (asgF 2 (clP 0 p__law_any_turn (consM (vrM 1) (nilM))))
  (seqM (asgF 3 (clP 0 p__law_draw (consM (vrM 1) (nilM))))
  (seqM (asgF 4 (clP 0 p__law_any_turn (consM (opM addF (consM (vrM 1) (consM (cM (.int 1)) nilM))) (nilM))))
  (seqM (asgO 5 (lstM (consM (vrM 4) (consM (opM tupRg1F (consM (opM subF (consM (vrM 1) (consM (cM (.int 1)) (nilM)))) (nilM))) (consM (opM listF (consM (vrM 2) (nilM))) (consM (cM .non) (consM (cM (.int 7)) (consM (cM (.str "0")) (consM (tupM (nilM)) (consM (cM (.dK [])) (consM (tupM (consM (vrM 2) (nilM))) (consM (cM (.bl true)) (nilM)))))))))))))
  (seqM (dropM (mutM 5 appendF (consM (joinM "" (lcM [6] (itemsM (vrM 2)) (bdName 6) (yesM) (opM strAF (consM (vrM 6) (nilM))))) (nilM))))
  (seqM (loopM (itemsM (lstM (consM (vrM 1) (consM (opM negF (consM (cM (.int 1)) (nilM))) (consM (cM (.bl true)) (consM (cM (.str "0")) (consM (cM .non) (consM (opM powF (consM (cM (.int 10)) (consM (cM (.int 29)) (nilM)))) (consM (opM negF (consM (opM powF (consM (cM (.int 10)) (consM (cM (.int 29)) (nilM)))) (nilM))) (consM (tupM (consM (cM (.int 0)) (nilM))) (consM (lstM (consM (cM (.int 0)) (nilM))) (consM (opM addF (consM (vrM 1) (consM (cM (.int 1)) nilM))) (nilM))))))))))))) (bdName 6) (m__law_odd_7))
  (m__law_odd_8))))))
def p__law_odd : D → List D → RP := callP 2 7 m__law_odd
def m_law_14 : MS :=
  ifS (notM (tstM (clF f__law_refused (consM (vrM 8) (consM (vrM 9) (consM (opM negF (consM (cM (.int 1)) (nilM))) (nilM))))))) (retM (imM (cM (.bl false)))) (nxM)
def m_law_16 : MS :=
  ifS (notM (tstM (opM (isiF .tuple) (consM (clF f_group_of (consM (vrM 3) (consM (lstM (consM (opM addF (consM (clP 1 p__law_any_turn (consM (opM min2F (consM (vrM 3) (consM (cM (.int 4)) (nilM)))) (nilM))) (consM (opM tupRg2F (consM (opM min2F (consM (vrM 3) (consM (cM (.int 4)) (nilM)))) (consM (vrM 3) (nilM)))) nilM))) (nilM))) (nilM)))) (consM (cM (.opq (.ty "tuple"))) (nilM)))))) (retM (imM (cM (.bl false)))) (nxM)
def m_law_12 : MS :=
  seqM (asgF 8 (opM ixF (consM (lstM (consM (cM (.int 0)) (consM (cM (.int 8)) (consM (opM negF (consM (cM (.int 1)) (nilM))) (consM (opM negF (consM (cM (.int 7)) (nilM))) (consM (opM powF (consM (cM (.int 10)) (consM (cM (.int 29)) (nilM)))) (consM (opM negF (consM (opM powF (consM (cM (.int 10)) (consM (cM (.int 29)) (nilM)))) (nilM))) (nilM)))))))) (consM (clP 1 p__law_draw (consM (cM (.int 6)) (nilM))) nilM))))
  (seqM (loopM (itemsM (lstM (consM (lstM (nilM)) (consM (opM listF (consM (vrM 4) (nilM))) (consM (opM listF (consM (vrM 6) (nilM))) (nilM)))))) (bdName 9) (m_law_14))
  (m_law_16))
def m_law_9 : MS :=
  seqM (asgF 7 (opM addF (consM (opM addF (consM (vrM 5) (consM (cM (.int 1)) nilM))) (consM (clP 1 p__law_draw (consM (opM subF (consM (opM lenF (consM (vrM 6) (nilM))) (consM (vrM 5) (nilM)))) (nilM))) nilM))))
  (seqM (ifS (notM (tstM (clF f__law_refused (consM (vrM 3) (consM (opM addF (consM (opM addF (consM (slM (vrM 6) (noM) (partM (vrM 7))) (consM (lstM (consM (clP 1 p__law_odd (consM (vrM 3) (nilM))) (nilM))) nilM))) (consM (slM (vrM 6) (partM (vrM 7)) (noM)) nilM))) (consM (vrM 5) (nilM))))))) (retM (imM (cM (.bl false)))) (nxM))
  (m_law_12))
def m_law_3 : MS :=
  seqM (asgF 3 (opM addF (consM (cM (.int 1)) (consM (clP 1 p__law_draw (consM (cM (.int 7)) (nilM))) nilM))))
  (seqM (asgF 4 (clP 1 p__law_turns (consM (vrM 3) (nilM))))
  (seqM (asgF 5 (clP 1 p__law_draw (consM (opM addF (consM (opM lenF (consM (vrM 4) (nilM))) (consM (cM (.int 1)) nilM))) (nilM))))
  (seqM (asgF 6 (opM addF (consM (opM addF (consM (slM (vrM 4) (noM) (partM (vrM 5))) (consM (lstM (consM (clP 1 p__law_odd (consM (vrM 3) (nilM))) (nilM))) nilM))) (consM (slM (vrM 4) (partM (vrM 5)) (noM)) nilM))))
  (seqM (ifS (notM (tstM (clF f__law_refused (consM (vrM 3) (consM (opM listF (consM (vrM 6) (nilM))) (consM (vrM 5) (nilM))))))) (retM (imM (cM (.bl false)))) (nxM))
  (m_law_9)))))
def m_law_18 : MS :=
  retM (imM (cM (.bl true)))
def m_law : MS :=
  seqM (asgO 1 (clF f__law_pen (consM (vrM 0) (nilM))))
  (seqM (loopM (range1M (consM (cM (.int 8)) (nilM))) (bdName 2) (m_law_3))
  (m_law_18))
def f_law : List D → RF := callF 1 10 m_law
end MM

set_option Elab.async false
set_option linter.all false
set_option maxRecDepth 100000
set_option maxHeartbeats 4000000
noncomputable section
namespace MM
open PySem PySem.Spec PyProof.Rows L2

theorem lstRg1_ok {n : Nat} (h : n < 1000000) : lstRg1F [.int n] = some (lstN (List.range n)) := by
  have hr : RgOk 0 (n : Int) := by unfold RgOk; omega
  have e : lstRg1F [.int n] = some (.lst (rangeL 0 (n : Int).toNat)) := if_pos hr
  rw [e, Int.toNat_natCast, rangeL_ofN]
theorem lt_size {n : Nat} (h : n < 1000000) : n < sizeLine := by rw [sizeLine_eq]; omega
theorem appendF_ok {ds : List D} {d : D} (h : ds.length < 1000000) : appendF ds [d] = some (ds ++ [d], .non) := if_pos (lt_size h)
theorem seqIx {i n : Nat} (h : i < n) : seqIndex? (i : Int) n = some i := by
  unfold seqIndex?
  have h1 : ¬ (i : Int) < 0 := by omega
  have h2 : (i : Int) < n := by omega
  simp [h1, h2]
theorem erase_map (l : List Nat) (i : Nat) : (ofN l).eraseIdx i = ofN (l.eraseIdx i) := by
  induction l generalizing i with
  | nil => rfl
  | cons x l ih => cases i with
    | zero => rfl
    | succ i => simp [List.eraseIdx, ih]
theorem cons_erase {α : Type} : ∀ {l : List α} {i : Nat} (h : i < l.length), (l[i] :: l.eraseIdx i).Perm l
  | x :: l, 0, _ => .refl _
  | x :: l, i + 1, h => by
    have := cons_erase (l := l) (i := i) (Nat.lt_of_succ_lt_succ h)
    exact (List.Perm.swap _ _ _).trans (this.cons x)
theorem popAtF_ok {l : List Nat} {i : Nat} (h : i < l.length) (hl : l.length < 1000000) : popAtF (ofN l) [.int i] = some (ofN (l.eraseIdx i), .int (l[i] : Nat)) := by
  have e : seqIndex? (i : Int) (ofN l).length = some i := seqIx (by simpa using h)
  have hb : -(2 ^ 63) ≤ (i : Int) ∧ (i : Int) < 2 ^ 63 := by omega
  have e2 : (ofN l)[i]? = some (.int (l[i] : Nat)) := by rw [ofN_get, List.getElem?_eq_getElem h]; rfl
  unfold popAtF
  simp only [e, hb, e2, and_self, if_true]
  rw [erase_map]
theorem perm_pop {found left : List Nat} {i : Nat} (h : i < left.length) {R : List Nat} (p : (found ++ left).Perm R) : ((found ++ [left[i]]) ++ left.eraseIdx i).Perm R := by
  refine List.Perm.trans ?_ p
  rw [List.append_assoc]
  refine List.Perm.append_left _ ?_
  show (left[i] :: left.eraseIdx i).Perm left
  exact cons_erase h


/-! ### houses -/
def rowD (n : Nat) (f : Nat → Nat) : D := lstN ((List.range n).map f)
def rowsD (k n : Nat) (m : Nat → Nat → Nat) : List D := (List.range k).map fun a => rowD n (m a)
def dH (n : Nat) (m : Nat → Nat → Nat) : D := .lst (rowsD n n m)
@[simp] theorem rowsD_length {k n : Nat} {m : Nat → Nat → Nat} : (rowsD k n m).length = k := by simp [rowsD]
theorem rowsD_get {k n : Nat} {m : Nat → Nat → Nat} {a : Nat} (h : a < k) : (rowsD k n m)[a]? = some (rowD n (m a)) := by
  unfold rowsD
  rw [List.getElem?_map, List.getElem?_range h]
  rfl
theorem rowsD_get' {k n : Nat} {m : Nat → Nat → Nat} {a : Nat} (h : a < (rowsD k n m).length) : (rowsD k n m)[a] = rowD n (m a) :=
  Option.some.inj ((List.getElem?_eq_getElem h).symm.trans (rowsD_get (by simpa using h)))
theorem rowsD_succ {k n : Nat} {m : Nat → Nat → Nat} : rowsD k n m ++ [rowD n (m k)] = rowsD (k + 1) n m := by
  unfold rowsD
  rw [List.range_succ, List.map_append]
  rfl
theorem ix_house {n : Nat} {m : Nat → Nat → Nat} {a : Nat} (h : a < n) : ixF [dH n m, .int a] = some (rowD n (m a)) := by
  unfold dH
  rw [ixF_lst (by omega) (by simp; omega), Int.toNat_natCast, rowsD_get h]
theorem ix_row {n : Nat} {f : Nat → Nat} {b : Nat} (h : b < n) : ixF [rowD n f, .int b] = some (.int (f b : Nat)) := by
  unfold rowD lstN
  rw [ixF_lst (by omega) (by simp; omega), Int.toNat_natCast, ofN_get, List.getElem?_map, List.getElem?_range h]
  rfl
@[simp] theorem len_house {n : Nat} {m : Nat → Nat → Nat} : lenF [dH n m] = some (.int n) := by
  unfold dH; rw [lenF_lst, rowsD_length]
@[simp] theorem items_house {n : Nat} {m : Nat → Nat → Nat} : itemsD (dH n m) = some (rowsD n n m) := rfl
/-- the house twice over -/
def dbl (m : Nat → Nat → Nat) (r k : Nat) : Nat := m (r / 2) (k / 2) * 2 + (r % 2 + k) % 2
theorem dbl_grp {n : Nat} {m : Nat → Nat → Nat} (G : Grp n m) : Grp (2 * n) (dbl m) where
  pos := by have := G.pos; omega
  cl := fun a b ha hb => by
    have := G.cl (a / 2) (b / 2) (by omega) (by omega)
    unfold dbl; omega
  il := fun b hb => by
    have := G.il (b / 2) (by omega)
    unfold dbl
    rw [show 0 / 2 = 0 from rfl, this]; omega
  ir := fun a ha => by
    have := G.ir (a / 2) (by omega)
    unfold dbl
    rw [show 0 / 2 = 0 from rfl, this]; omega
  as := fun a b c ha hb hc => by
    have h := G.as (a / 2) (b / 2) (c / 2) (by omega) (by omega) (by omega)
    unfold dbl
    rw [show (m (a / 2) (b / 2) * 2 + (a % 2 + b) % 2) / 2 = m (a / 2) (b / 2) by omega, show (m (b / 2) (c / 2) * 2 + (b % 2 + c) % 2) / 2 = m (b / 2) (c / 2) by omega, h]
    omega
  iv := fun a ha => by
    obtain ⟨b, hb, h1, h2⟩ := G.iv (a / 2) (by omega)
    refine ⟨2 * b + a % 2, by omega, ?_, ?_⟩
    · unfold dbl
      rw [show (2 * b + a % 2) / 2 = b by omega, h1]; omega
    · unfold dbl
      rw [show (2 * b + a % 2) / 2 = b by omega, h2]; omega
theorem dbl_row {n : Nat} {m : Nat → Nat → Nat} {i j : Nat} : (List.range (2 * n)).map (fun k => D.int ((m i (k / 2) * 2 + (j + k) % 2 : Nat) : Int)) = ofN ((List.range (2 * n)).map fun k => m i (k / 2) * 2 + (j + k) % 2) := by
  unfold ofN
  rw [List.map_map]
  rfl


theorem ix_lstN {l : List Nat} {k : Nat} (h : k < l.length) : ixF [lstN l, .int k] = some (.int (l.getD k 0 : Nat)) := by
  unfold lstN
  rw [ixF_lst (by omega) (by simp; omega), Int.toNat_natCast, ofN_get, List.getElem?_eq_getElem h, List.getD_eq_getElem?_getD, List.getElem?_eq_getElem h]
  rfl
theorem lstRg2_ok {a n : Nat} (h : n < 1000000) (ha : a < 1000000) : lstRg2F [.int a, .int n] = some (lstN (List.range' a (n - a))) := by
  have hr : RgOk (a : Int) (n : Int) := by unfold RgOk; omega
  have e : lstRg2F [.int a, .int n] = some (.lst (rangeL a ((n : Int) - a).toNat)) := if_pos hr
  rw [e, show ((n : Int) - a).toNat = n - a by omega, rangeL_ofN1]
theorem for_rg2 {a n : Nat} {ms : M (List D)} {bd : D → Env → Option Env} {body : MS} {e : Env} {r : RS} (hL : loopM (range2M ms) bd body e = r) (P : Nat → Env → Prop) (hm : ms e = .ok [.int a, .int n] e) (hn : n < 1000000000) (ha : a < 1000000000) (h0 : P 0 e)
    (hs : ∀ i (h : i < n - a) e, P i e → NxS (bdB bd body (.int (a + i : Nat)) e) (P (i + 1))) : ∃ e', r = .nx e' ∧ P (n - a) e' := by
  have hx : range2M ms e = .ok (rangeL a (n - a)) e := by
    unfold range2M
    rw [hm]
    dsimp only
    rw [if_pos (by omega), show ((n : Int) - a).toNat = n - a by omega]
  have := for_on hL (rangeL a (n - a)) P hx h0 fun i h e hp => by
    have h' := h
    rw [rangeL_length] at h'
    have e0 := rangeL_get h
    rw [e0]
    have := hs i h' e hp
    rwa [Int.natCast_add] at this
  rwa [rangeL_length] at this
/-! ### numbered anew -/
theorem mctL_ofN (l : List Nat) : mctL (ofN l) = 0 := by
  induction l with
  | nil => rfl
  | cons n l ih => simp [mctL, mct, ih]
def upd2 (g : Nat → Nat → Nat) (x y v : Nat) : Nat → Nat → Nat := fun a b => if a = x ∧ b = y then v else g a b
theorem ofN_set (l : List Nat) (i v : Nat) : (ofN l).set i (.int v) = ofN (l.set i v) := by
  unfold ofN
  rw [List.map_set]
theorem map_set_range (f : Nat → Nat) {n y v : Nat} : ((List.range n).map f).set y v = (List.range n).map fun b => if b = y then v else f b := by
  refine List.ext_getElem? fun i => ?_
  rw [List.getElem?_set]
  by_cases hi : i < n
  · rw [List.getElem?_map, List.getElem?_map, List.getElem?_range hi]
    by_cases e : y = i
    · subst e; simp [hi]
    · have : ¬ i = y := fun z => e z.symm
      simp [e, this]
  · have h1 : ((List.range n).map f)[i]? = none := by simp; omega
    have h2 : ((List.range n).map fun b => if b = y then v else f b)[i]? = none := by simp; omega
    rw [h1, h2]
    by_cases e : y = i
    · subst e; simp [hi]
    · simp [e]
theorem house_set {n : Nat} {g : Nat → Nat → Nat} {x y v : Nat} (hx : x < n) (hy : y < n) : (rowsD n n g).set x (.lst ((ofN ((List.range n).map (g x))).set y (.int v))) = rowsD n n (upd2 g x y v) := by
  rw [ofN_set, map_set_range]
  refine List.ext_getElem? fun i => ?_
  rw [List.getElem?_set]
  by_cases hi : i < n
  · rw [rowsD_get hi, rowsD_get hi]
    by_cases e : x = i
    · subst e
      simp only [if_true, rowsD_length, hx]
      unfold rowD lstN upd2
      simp
    · simp only [e, if_false]
      unfold rowD lstN upd2
      have : ∀ b, ¬ (i = x ∧ b = y) := fun b z => e z.1.symm
      simp [this]
  · have h1 : (rowsD n n g)[i]? = none := by simp; omega
    have h2 : (rowsD n n (upd2 g x y v))[i]? = none := by simp; omega
    rw [h1, h2]
    by_cases e : x = i
    · subst e; omega
    · simp [e]
theorem setM2_ok {i n x y v : Nat} {mv ma mb : M D} {env : Env} {g : Nat → Nat → Nat} (hs : env[i]? = some (some (true, .deep (dH n g)))) (hv : mv env = .ok (.int v) env) (ha : ma env = .ok (.int x) env) (hb : mb env = .ok (.int y) env) (hx : x < n) (hy : y < n) :
    setM2 i mv ma mb env = .nx (env.set i (some (true, .deep (dH n (upd2 g x y v))))) := by
  unfold setM2
  rw [hv]
  dsimp only
  rw [hs]
  dsimp only [dH]
  rw [ha]
  dsimp only
  rw [hb]
  dsimp only
  have e1 : ixN (rowsD n n g).length (x : Int) = some x := by unfold ixN; rw [rowsD_length, if_pos (by omega), if_pos (by omega)]; rfl
  rw [e1]
  dsimp only
  rw [rowsD_get hx]
  dsimp only [rowD, lstN]
  have e2 : ixN (ofN ((List.range n).map (g x))).length (y : Int) = some y := by unfold ixN; rw [ofN_length, List.length_map, List.length_range, if_pos (by omega), if_pos (by omega)]; rfl
  rw [e2]
  dsimp only
  rw [if_pos ⟨mctL_ofN _, rfl⟩, house_set hx hy]



@[simp] theorem asgD_ap {i : Nat} {m : M D} {env : Env} : asgD i m env = match m env with | .ok d e => .nx (e.set i (some (true, .deep d))) | .ex e e2 => .ex e e2 | .no => .no := id rfl
@[simp] theorem udM_ap {i : Nat} {a : MS} {env : Env} : udM i a env = match a env with | .nx e => .nx (udE i e) | r => r := id rfl
theorem dpM_ap {m : M D} {env : Env} : dpM m env = match m env with | .ok (.lst es) e => (if mctL es = 0 then .ok (.lst es) e else .no) | .ok _ _ => .no | .ex e e2 => .ex e e2 | .no => .no := id rfl
theorem zeros_ok {n : Nat} (h : n < 1000000) : mulF [.lst [.int 0], .int n] = some (rowD n fun _ => 0) := by
  have hg : -(2 ^ 63) ≤ (n : Int) ∧ (n : Int) < 2 ^ 63 ∧ [D.int 0].length * (n : Int).toNat ≤ sizeLine := by
    rw [sizeLine_eq]
    simp
    omega
  have e : mulF [.lst [.int 0], .int n] = some (.lst (List.replicate (n : Int).toNat [D.int 0]).flatten) := if_pos hg
  rw [e, Int.toNat_natCast]
  unfold rowD lstN
  congr 2
  clear e hg h
  induction n with
  | zero => rfl
  | succ n ih =>
    rw [List.replicate_succ', List.flatten_append, ih, List.range_succ, List.map_append]
    simp
/-- the order's places -/
def ordO (ord : List Nat) (k : Nat) : Nat := ord.getD k 0
structure Ord (n : Nat) (ord : List Nat) : Prop where
  len : ord.length = n
  perm : ord.Perm (List.range n)
  zero : ordO ord 0 = 0
theorem Ord.lt {n : Nat} {ord : List Nat} (O : Ord n ord) {k : Nat} (h : k < n) : ordO ord k < n := by
  have h' : k < ord.length := by rw [O.len]; exact h
  have : ordO ord k ∈ ord := by
    unfold ordO
    rw [List.getD_eq_getElem?_getD, List.getElem?_eq_getElem h']
    exact List.getElem_mem h'
  exact List.mem_range.mp (O.perm.mem_iff.mp this)
theorem Ord.inj {n : Nat} {ord : List Nat} (O : Ord n ord) {a b : Nat} (ha : a < n) (hb : b < n) (h : ordO ord a = ordO ord b) : a = b := by
  have ha' : a < ord.length := by rw [O.len]; exact ha
  have hb' : b < ord.length := by rw [O.len]; exact hb
  unfold ordO at h
  rw [List.getD_eq_getElem?_getD, List.getElem?_eq_getElem ha', List.getD_eq_getElem?_getD, List.getElem?_eq_getElem hb'] at h
  have nd : ord.Nodup := O.perm.nodup_iff.mpr List.nodup_range
  have pw := List.pairwise_iff_getElem.mp nd
  have h' : ord[a] = ord[b] := h
  rcases Nat.lt_trichotomy a b with c | c | c
  · exact absurd h' (pw a b ha' hb' c)
  · exact c
  · exact absurd h'.symm (pw b a hb' ha' c)
theorem Ord.surj {n : Nat} {ord : List Nat} (O : Ord n ord) {x : Nat} (h : x < n) : ∃ a, a < n ∧ ordO ord a = x := by
  have : x ∈ ord := O.perm.mem_iff.mpr (List.mem_range.mpr h)
  obtain ⟨a, ha, e⟩ := List.getElem_of_mem this
  refine ⟨a, by rw [← O.len]; exact ha, ?_⟩
  unfold ordO
  rw [List.getD_eq_getElem?_getD, List.getElem?_eq_getElem ha]
  exact e
/-- a house's numbers renamed -/
def Rel (n : Nat) (o : Nat → Nat) (m g : Nat → Nat → Nat) : Prop := ∀ a b, a < n → b < n → g (o a) (o b) = o (m a b)
theorem rel_grp {n : Nat} {ord : List Nat} {m g : Nat → Nat → Nat} (O : Ord n ord) (G : Grp n m) (R : Rel n (ordO ord) m g) : Grp n g where
  pos := G.pos
  cl := fun x y hx hy => by
    obtain ⟨a, ha, rfl⟩ := O.surj hx
    obtain ⟨b, hb, rfl⟩ := O.surj hy
    rw [R a b ha hb]
    exact O.lt (G.cl a b ha hb)
  il := fun y hy => by
    obtain ⟨b, hb, rfl⟩ := O.surj hy
    have := R 0 b G.pos hb
    rw [O.zero, G.il b hb] at this
    exact this
  ir := fun x hx => by
    obtain ⟨a, ha, rfl⟩ := O.surj hx
    have := R a 0 ha G.pos
    rw [O.zero, G.ir a ha] at this
    exact this
  as := fun x y z hx hy hz => by
    obtain ⟨a, ha, rfl⟩ := O.surj hx
    obtain ⟨b, hb, rfl⟩ := O.surj hy
    obtain ⟨c, hc, rfl⟩ := O.surj hz
    rw [R a b ha hb, R b c hb hc, R _ c (G.cl a b ha hb) hc, R a _ ha (G.cl b c hb hc), G.as a b c ha hb hc]
  iv := fun x hx => by
    obtain ⟨a, ha, rfl⟩ := O.surj hx
    obtain ⟨b, hb, h1, h2⟩ := G.iv a ha
    exact ⟨ordO ord b, O.lt hb, by rw [R a b ha hb, h1, O.zero], by rw [R b a hb ha, h2, O.zero]⟩
theorem ord_mk {n : Nat} {l : List Nat} (hn : 0 < n) (p : l.Perm (List.range' 1 (n - 1))) : Ord n (0 :: l) := by
  have e : List.range n = 0 :: List.range' 1 (n - 1) := by
    obtain ⟨k, rfl⟩ : ∃ k, n = k + 1 := ⟨n - 1, by omega⟩
    rw [List.range_eq_range', List.range'_succ]
    rfl
  refine ⟨?_, by rw [e]; exact p.cons 0, rfl⟩
  have := p.length_eq
  rw [List.length_range'] at this
  rw [List.length_cons, this]
  omega


def pairD (R k : Nat) : D := .tup [.int (k % R : Nat), .int (k / R : Nat)]
def pairsD (R n : Nat) : List D := (List.range n).map (pairD R)
@[simp] theorem pairsD_length {R n : Nat} : (pairsD R n).length = n := by simp [pairsD]
theorem pairsD_get {R n k : Nat} (h : k < (pairsD R n).length) : (pairsD R n)[k] = pairD R k := by
  have h' : k < n := by simpa using h
  have e : (pairsD R n)[k]? = some (pairD R k) := by
    unfold pairsD
    rw [List.getElem?_map, List.getElem?_range h']
    rfl
  exact Option.some.inj ((List.getElem?_eq_getElem h).symm.trans e)
@[simp] theorem bdTup_ap {bs : List (D → Env → Option Env)} {ds : List D} {e : Env} : bdTup bs (.tup ds) e = bdList bs ds e := rfl
@[simp] theorem bdList_nil {e : Env} : bdList [] [] e = some e := rfl
@[simp] theorem bdList_cons {b : D → Env → Option Env} {bs : List (D → Env → Option Env)} {d : D} {ds : List D} {e : Env} : bdList (b :: bs) (d :: ds) e = match b d e with | some e => bdList bs ds e | none => none := id rfl
theorem rowD_succ {f : Nat → Nat} {k : Nat} : ofN ((List.range k).map f) ++ [.int (f k : Nat)] = ofN ((List.range (k + 1)).map f) := by
  rw [List.range_succ, List.map_append, ofN_append]
  rfl


theorem ix_last {l : List Nat} {k : Nat} (h : l.length = k + 1) : ixF [lstN l, .int (-1)] = some (.int (l.getD k 0 : Nat)) := by
  show atI (ofN l) (-1) = _
  unfold atI ixN
  rw [if_neg (by omega), if_pos (by rw [ofN_length]; omega), Option.bind_some]
  rw [show ((-1 : Int) + ((ofN l).length : Nat)).toNat = k by rw [ofN_length]; omega, ofN_get, List.getElem?_eq_getElem (by omega), List.getD_eq_getElem?_getD, List.getElem?_eq_getElem (by omega)]
  rfl
theorem modF_nat {a b : Nat} (h : 0 < b) : modF [.int a, .int b] = some (.int (a % b : Nat)) := by
  rw [modF_int (by omega), fmod_nat]
theorem fdivF_nat {a b : Nat} (h : 0 < b) (h2 : b < 1073741824) : fdivF [.int a, .int b] = some (.int (a / b : Nat)) := by
  rw [fdivF_int (by omega) (by omega), fdiv_nat]
theorem mulF_nat {a b : Nat} (h : a < 1000000000) : mulF [.int a, .int b] = some (.int (a * b : Nat)) := by
  rw [mulF_l (by omega) (by omega), Int.natCast_mul]
theorem addF_nat {a b : Nat} : addF [.int a, .int b] = some (.int (a + b : Nat)) := by
  rw [addF_int, Int.natCast_add]
theorem add1 {a : Nat} : addF [.int 1, .int a] = some (.int (1 + a : Nat)) := addF_nat (a := 1)
theorem mod1 {a : Nat} (h : 0 < a) : modF [.int 1, .int a] = some (.int (1 % a : Nat)) := modF_nat (a := 1) h
theorem addc1 {a : Nat} : addF [.int a, .int 1] = some (.int (a + 1 : Nat)) := addF_nat (b := 1)
theorem ones_ok {n : Nat} (h : n < 1000000) : mulF [.lst [.int 1], .int n] = some (lstN (List.replicate n 1)) := by
  have hg : -(2 ^ 63) ≤ (n : Int) ∧ (n : Int) < 2 ^ 63 ∧ [D.int 1].length * (n : Int).toNat ≤ sizeLine := by
    rw [sizeLine_eq]
    simp
    omega
  have e : mulF [.lst [.int 1], .int n] = some (.lst (List.replicate (n : Int).toNat [D.int 1]).flatten) := if_pos hg
  rw [e, Int.toNat_natCast]
  unfold lstN ofN
  congr 2
  clear e hg h
  induction n with
  | zero => rfl
  | succ n ih =>
    rw [List.replicate_succ', List.flatten_append, ih, List.replicate_succ', List.map_append]
    simp
theorem getD_append_lt {l m : List Nat} {j : Nat} (h : j < l.length) : (l ++ m).getD j 0 = l.getD j 0 := by
  rw [List.getD_eq_getElem?_getD, List.getD_eq_getElem?_getD, List.getElem?_append_left h]
theorem getD_append_eq {l : List Nat} {x k : Nat} (h : l.length = k) : (l ++ [x]).getD k 0 = x := by
  subst h
  rw [List.getD_eq_getElem?_getD, List.getElem?_append_right (Nat.le_refl _)]
  simp
theorem lstN_snoc (l : List Nat) (x : Nat) : D.lst (ofN l ++ [.int x]) = lstN (l ++ [x]) := by rw [lstN, ofN_append]; rfl
def pairD' (o k : Nat) : D := .tup [.int (k / o : Nat), .int (k % o : Nat)]
theorem rng_snoc {α : Type} {f : Nat → α} {k : Nat} : (List.range k).map f ++ [f k] = (List.range (k + 1)).map f := by
  rw [List.range_succ, List.map_append]; rfl
abbrev prD (o k : Nat) : D := .tup [.int (k / o : Nat), .int (k % o : Nat)]


theorem setF_lst {l : List Nat} {x v : Nat} (h : x < l.length) : setF (lstN l) (.int x) (.int v) = some (lstN (l.set x v)) := by
  unfold setF
  have e2 : ixN (ofN l).length (x : Int) = some x := by unfold ixN; rw [ofN_length, if_pos (by omega), if_pos (by omega)]; rfl
  simp only [e2]
  rw [ofN_set]
theorem ix_tupN {l : List Nat} {k : Nat} (h : k < l.length) : ixF [tupN l, .int k] = some (.int (l.getD k 0 : Nat)) := by
  unfold tupN
  rw [ixF_tup (by omega) (by simp; omega), Int.toNat_natCast, ofN_get, List.getElem?_eq_getElem h, List.getD_eq_getElem?_getD, List.getElem?_eq_getElem h]
  rfl
theorem tupleF_lst {l : List Nat} : tupleF [lstN l] = some (tupN l) := rfl
theorem listF_tup {l : List Nat} : listF [tupN l] = some (lstN l) := rfl
theorem listF_lst {l : List Nat} : listF [lstN l] = some (lstN l) := rfl
theorem lenF_tupN {l : List Nat} : lenF [tupN l] = some (.int l.length) := by rw [lenF_tup, ofN_length]
theorem lenF_lstN {l : List Nat} : lenF [lstN l] = some (.int l.length) := by rw [lenF_lst, ofN_length]
theorem getD_set_eq {l : List Nat} {x v : Nat} (h : x < l.length) : (l.set x v).getD x 0 = v := by
  rw [List.getD_eq_getElem?_getD, List.getElem?_set_self h]; rfl
theorem getD_set_ne {l : List Nat} {x y v : Nat} (h : x ≠ y) : (l.set x v).getD y 0 = l.getD y 0 := by
  rw [List.getD_eq_getElem?_getD, List.getElem?_set_ne h, ← List.getD_eq_getElem?_getD]
/-! ### the known groups -/
theorem addF_lst {a b : List D} (h : a.length + b.length < 1000000) : addF [.lst a, .lst b] = some (.lst (a ++ b)) := if_pos (by rw [sizeLine_eq]; omega)


theorem tupRg1_ok {n : Nat} (h : n < 1000000) : tupRg1F [.int n] = some (tupN (List.range n)) := by
  have hr : RgOk 0 (n : Int) := by unfold RgOk; omega
  have e : tupRg1F [.int n] = some (.tup (rangeL 0 (n : Int).toNat)) := if_pos hr
  rw [e, Int.toNat_natCast, rangeL_ofN]
theorem comp_ok {one x : List Nat} : D.lst (one.map fun (k : Nat) => D.int (x.getD k 0 : Nat)) = lstN (comp one x) := by
  unfold lstN ofN comp
  rw [List.map_map]
  rfl
theorem pyl_turns (w : List (List Nat)) : ∃ ps, PyL 1 (w.map tupN) ps := ⟨_, PyL.map (g := fun l => .tuple (pyN l)) fun x _ => .tup (.ofN x)⟩
theorem neF_turns (w : List (List Nat)) : neF [.lst (w.map tupN), .lst []] = some (.bl (!w.isEmpty)) := by
  obtain ⟨ps, h⟩ := pyl_turns w
  rw [neF_nil h (by decide)]
  cases w <;> rfl
theorem fuel_eq : fuel = 1000000 := rfl
theorem map_snoc {α β : Type} {f : α → β} {l : List α} {x : α} : l.map f ++ [f x] = (l ++ [x]).map f := by simp


/-- a dict of turns' numbers -/
def numT (F : List (List Nat)) : D := .dT (F.zipIdx.map fun p => (keyN p.1, D.int (p.2 : Nat)))
theorem lenF_numT (F : List (List Nat)) : lenF [numT F] = some (.int F.length) := by
  have : lenF [numT F] = some (.int (F.zipIdx.map fun p => (keyN p.1, D.int (p.2 : Nat))).length) := rfl
  rw [this, List.length_map, List.length_zipIdx]
theorem setF_numT {F : List (List Nat)} {x : List Nat} (h : x ∉ F) (hl : F.length < 1000000) : setF (numT F) (tupN x) (.int F.length) = some (numT (F ++ [x])) := by
  unfold setF numT
  simp only [keysD_ofN]
  rw [if_pos (by rw [List.length_map, List.length_zipIdx, sizeLine_eq]; omega)]
  unfold putG
  rw [if_neg]
  · rw [List.zipIdx_append, List.map_append]
    simp
  · simp only [List.any_map, List.any_eq_true, Function.comp, decide_eq_true_eq]
    rintro ⟨a, ha, e⟩
    have := List.fst_mem_of_mem_zipIdx ha
    exact h (keyN_inj e ▸ this)
theorem valG_numT {x : List Nat} : ∀ {F : List (List Nat)} (k : Nat), x ∈ F → valG ((F.zipIdx k).map fun p => (keyN p.1, D.int (p.2 : Nat))) (keyN x) = some (.int (k + tno F x : Nat))
  | y :: F, k, h => by
    unfold valG
    rw [List.zipIdx_cons, List.map_cons, List.find?_cons]
    by_cases e : y = x
    · subst e
      simp [tno]
    · have e' : ¬ keyN y = keyN x := fun z => e (keyN_inj z)
      simp only [e', decide_false]
      have ih := valG_numT (x := x) (F := F) (k + 1) ((List.mem_cons.mp h).resolve_left (Ne.symm e))
      unfold valG at ih
      rw [ih]
      congr 2
      unfold tno
      rw [List.idxOf_cons, show (y == x) = false from by simpa using e, cond_false]
      omega
theorem ix_numT {F : List (List Nat)} {x : List Nat} (h : x ∈ F) : ixF [numT F, tupN x] = some (.int (tno F x : Nat)) := by
  have e : ixF [numT F, tupN x] = match getD2 (numT F) (tupN x) with
    | some r => r
    | none => none := rfl
  rw [e]
  unfold getD2 numT
  simp only [keysD_ofN]
  have := valG_numT 0 h
  rw [Nat.zero_add] at this
  exact this
theorem ixI_numT {F : List (List Nat)} {x : List Nat} (h : x ∈ F) : ixIF [numT F, tupN x] = some (.int (tno F x : Nat)) := by
  unfold ixIF
  rw [ix_numT h]
  rfl
theorem intF_bl {b : Bool} : intF [.bl b] = some (.int (if b then 1 else 0)) := by cases b <;> rfl
/-- a house of at most sixty numbers -/
def HouseD (d : D) : Prop := ∃ n m, d = dH n m ∧ Grp n m ∧ n ≤ 60
end MM

set_option Elab.async false
set_option linter.all false
set_option maxRecDepth 100000
set_option maxHeartbeats 4000000
noncomputable section
namespace MM
open PySem PySem.Spec PyProof.Rows L2

/-! ### the pen of the fifth harness -/
def penD (ns : List Int) (at' left : Int) : D := .dK [(.inr "script", .scr ns), (.inr "at", .int at'), (.inr "left", .int left)]
section
variable (ns : List Int) (a l : Int)
@[simp] theorem pen_script : ixF [penD ns a l, .str "script"] = some (.scr ns) := rfl
@[simp] theorem pen_at : ixF [penD ns a l, .str "at"] = some (.int a) := rfl
@[simp] theorem pen_left : ixF [penD ns a l, .str "left"] = some (.int l) := rfl
@[simp] theorem pen_setAt (v : Int) : setF (penD ns a l) (.str "at") (.int v) = some (penD ns v l) := if_pos (show 3 < sizeLine by rw [sizeLine_eq]; omega)
@[simp] theorem pen_setLeft (v : Int) : setF (penD ns a l) (.str "left") (.int v) = some (penD ns a v) := if_pos (show 3 < sizeLine by rw [sizeLine_eq]; omega)
end
theorem pow18 : powF [.int 10, .int 18] = some (.int 1000000000000000000) := if_pos (by decide)
theorem abs_ex (c : Int) : ∃ z, absF [.int c] = some (.int z) ∧ 0 ≤ z := ⟨_, rfl, by split <;> omega⟩
theorem take1 (ns : List Int) (at' left : Int) (h : 0 < left) (many : Int) (hm : 0 < many) (hm2 : many < 1073741824) :
    p__law_draw (penD ns at' left) [.int many] = .ret (.int (left.fmod many)) (penD ns at' (left.fdiv many)) := by
  unfold p__law_draw m__law_draw m__law_draw_13
  have h1 : many ≠ 0 := by omega
  have h2 : many.natAbs < 1073741824 := by omega
  have h3 : ¬ left = 0 := by omega
  simp [eqF_int, cmpF, modF, fdivF, imm, h, h1, h2, h3]
def Pen (d : D) : Prop := ∃ ns a l, d = penD ns a l ∧ 0 ≤ a ∧ 0 ≤ l
theorem pen_mk {ns : List Int} {a l : Int} (h0 : 0 ≤ a) (hl : 0 ≤ l) : Pen (penD ns a l) := ⟨ns, a, l, rfl, h0, hl⟩
def Dig (many : Int) (d p : D) : Prop := Pen p ∧ ∃ i, d = .int i ∧ 0 ≤ i ∧ i < many
theorem dig_mk {ns : List Int} {a l x many : Int} (h0 : 0 ≤ a) (hl : 0 ≤ l) (hm : 0 < many) : Dig many (.int (x.fmod many)) (penD ns (a + 1) l) := ⟨pen_mk (by omega) hl, _, rfl, fmod_pos hm⟩
theorem dig0 {ns : List Int} {a x many : Int} (h0 : 0 ≤ a) (hm : 0 < many) : Dig many (.int (x.fmod many)) (penD ns (a + 1) 0) := dig_mk h0 (by omega) hm
theorem take2 (ns : List Int) (at' : Int) (h0 : 0 ≤ at') (many : Int) (hm : 0 < many) (hm2 : many < 1073741824) :
    RetP (p__law_draw (penD ns at' 0) [.int many]) (Dig many) := by
  unfold p__law_draw m__law_draw m__law_draw_8 m__law_draw_12 m__law_draw_13
  by_cases hn : 0 < ns.length
  · obtain ⟨c, hcx⟩ : ∃ c, ixF [.scr ns, .int (at'.fmod ns.length)] = some (.int c) := ⟨_, ixF_scr (fmod_pos (by omega)).1 (fmod_pos (by omega)).2⟩
    obtain ⟨z, hz, hz0⟩ := abs_ex c
    have hq : 0 ≤ z.fdiv many := Int.fdiv_nonneg hz0 (by omega)
    by_cases ha : (ns.length : Int) ≤ at'
    · simp [eqF_int, cmpF_int, imm, addF_int, mulF_l, lenF_scr, hcx, ha, hn, fdivF_int, modF_int, mulF_r, mulF_fmod, hm, hm2, dig0 h0]
    · by_cases hb : z < 1000000000000000000
      · simp [eqF_int, cmpF_int, imm, addF_int, mulF_l, lenF_scr, hcx, ha, hn, hz, pow18, hb, fdivF_int, modF_int, mulF_r, mulF_fmod, hm, hm2, dig0 h0]
      · simp [eqF_int, cmpF_int, imm, addF_int, mulF_l, lenF_scr, hcx, ha, hn, hz, pow18, hb, fdivF_int hm hm2, modF_int, dig_mk h0, hm, hq]
  · have hna : (ns.length : Int) ≤ at' := by omega
    simp [eqF_int, cmpF_int, imm, addF_int, mulF_l, lenF_scr, hna, hn, fdivF_int, modF_int, mulF_r, mulF_fmod, hm, hm2, dig0 h0]
theorem take_ok {pen : D} (P : Pen pen) {many : Int} (hm : 0 < many) (hm2 : many < 1073741824) : RetP (p__law_draw pen [.int many]) (Dig many) := by
  obtain ⟨ns, a, l, rfl, h0, hl⟩ := P
  by_cases h : 0 < l
  · rw [take1 ns a l h many hm hm2]
    exact ⟨pen_mk h0 (Int.fdiv_nonneg hl (by omega)), _, rfl, fmod_pos hm⟩
  · have : l = 0 := by omega
    subst this
    exact take2 ns a h0 many hm hm2
theorem pen_start (ns : List Int) : ∃ pen, f__law_pen [.scr ns] = .ret pen ∧ Pen pen := by
  unfold f__law_pen m__law_pen
  refine ⟨penD ns 0 0, ?_, pen_mk (by omega) (by omega)⟩
  simp only [lstM_ap, tupM_ap, le_size, seqM_ap, nxM_ap, brM_ap, ctM_ap, retM_ap, retNM_ap, ifS_ap, asgF_ap, asgO_ap, dropM_ap, frzE_ap, frzM_ap, rdM_ap, vrM_ap, cM_ap, nilM_ap, consM_ap, consTM_ap, consNM_ap, opM_ap, tstM_ap, andM_ap, orM_ap, notM_ap, ifM_ap, andVM_ap, orVM_ap, notVM_ap, immM_ap, imM_ap, ixT_ap, yesM_ap, mutM_ap, mvM_ap, clF_ap, clT_ap, bdName_ap, itemsM_ap, asgG_ap, envF_ap, envP_ap, callF_ap, callP_ap, ownAt0_ap, itemsD_lst, itemsD_tup, chM_ap, slM_ap, noM_ap, partM_ap, bdB_ap, bdTup_ap, bdList_cons, bdList_nil, List.length_cons, List.length_nil, List.set_cons_succ, List.set_cons_zero, List.getElem?_cons_zero, List.getElem?_cons_succ, List.map_cons, List.map_nil, List.cons_append, List.nil_append, List.replicate, Nat.zero_add, Nat.reduceAdd, Nat.reduceSub, Nat.reduceLT, Nat.reduceLeDiff, Nat.reduceEqDiff, if_true, if_false, reduceIte, Bool.false_eq_true, NxS_nx, NxS_ct, RetF_ret, RetP_ret, imm, Bool.not_true, Bool.not_false, dispM, pairsM]
  rfl
theorem take_any {pen : D} (Pn : Pen pen) (k : Nat) (hk : 0 < k) (h2 : k < 1073741824) : ∃ (a : Nat) (pen' : D), p__law_draw pen [.int k] = .ret (.int a) pen' ∧ a < k ∧ Pen pen' := by
  have := take_ok Pn (many := k) (by omega) (by omega)
  unfold RetP at this
  split at this
  · rename_i d p e
    obtain ⟨Pp, i, rfl, h0, h1⟩ := this
    exact ⟨i.toNat, p, by rw [e, Int.toNat_of_nonneg h0], by omega, Pp⟩
  · exact this.elim
/-- a comprehension that draws from a state: what it has told so far counts -/
theorem lc_acc {α β S : Type} {k : Nat} {mi : M (List D)} {el : M D} {e : Env} {rc : R D} (hC : lcM [k] mi (bdName k) yesM el e = rc) (l : List α) (g : α → D) (F : S → Env) (I : List β → S → Prop) (o : β → D) (s : S) (hm : mi e = .ok (l.map g) (F s)) (hs : I [] s)
    (hk : ∀ b s, I b s → OkSlot (F s) k) (hkk : ∀ s s', (F s)[k]? = (F s')[k]?) (hz : l.length < 1000000)
    (h : ∀ x ∈ l, ∀ b s, b.length < l.length → I b s → ∃ y s', el ((F s).set k (some (false, g x))) = .ok (o y) ((F s').set k (some (false, g x))) ∧ I (b ++ [y]) s') :
    ∃ (ys : List β) (s' : S), rc = .ok (.lst (ys.map o)) (F s') ∧ I ys s' ∧ ys.length = l.length := by
  have key : ∀ (m : List α) (b : List β) (s : S), b.length + m.length = l.length → (∀ x ∈ m, x ∈ l) → I b s → ∃ (ys : List β) (s' : S), compM [k] (bdName k) yesM el (m.map g) ((F s).set k none) = .ok (ys.map o) ((F s').set k none) ∧ I (b ++ ys) s' ∧ ys.length = m.length := by
    intro m
    induction m with
    | nil => intro b s hb hsub hI; exact ⟨[], s, rfl, by rwa [List.append_nil], rfl⟩
    | cons x m ih =>
      intro b s hb hsub hI
      rw [List.length_cons] at hb
      obtain ⟨y, s1, h1, h2⟩ := h x (hsub x List.mem_cons_self) b s (by omega) hI
      obtain ⟨ys, s2, g1, g2, g3⟩ := ih (b ++ [y]) s1 (by rw [List.length_append, List.length_singleton]; omega) (fun z hz => hsub z (List.mem_cons_of_mem _ hz)) h2
      refine ⟨y :: ys, s2, ?_, by rw [List.append_assoc] at g2; exact g2, by rw [List.length_cons, List.length_cons, g3]⟩
      rw [List.map_cons]
      unfold compM
      have hb : bdName k (g x) ((F s).set k none) = some ((F s).set k (some (false, g x))) := by
        unfold bdName
        rw [if_pos (by rw [List.length_set]; exact (hk b s hI).lt), List.set_set]
      rw [hb]
      simp only [yesM_ap]
      rw [h1]
      dsimp only
      rw [show wipeE ((F s1).set k (some (false, g x))) [k] = (F s1).set k none from by unfold wipeE wipeE; rw [List.set_set], g1]
      rfl
  obtain ⟨ys, s', g1, g2, g3⟩ := key l [] s (by simp) (fun _ h => h) hs
  refine ⟨ys, s', ?_, g2, g3⟩
  rw [← hC]
  unfold lcM
  rw [hm]
  dsimp only
  rw [if_pos (by rw [List.length_map, sizeLine_eq]; omega)]
  have e0 : wipeE (F s) [k] = (F s).set k none := rfl
  rw [e0, g1]
  dsimp only
  rw [(hk _ _ hs).rest2 (hkk s' s)]
theorem any_turn_ok {pen : D} (Pn : Pen pen) {n : Nat} (hn : n < 1000) : ∃ (l : List Nat) (pen' : D), p__law_any_turn pen [.int n] = .ret (tupN l) pen' ∧ Turn n l ∧ Pen pen' := by
  unfold p__law_any_turn m__law_any_turn
  simp only [lstM_ap, tupM_ap, le_size, seqM_ap, nxM_ap, brM_ap, ctM_ap, retM_ap, retNM_ap, ifS_ap, asgF_ap, asgO_ap, dropM_ap, frzE_ap, frzM_ap, rdM_ap, vrM_ap, cM_ap, nilM_ap, consM_ap, consTM_ap, consNM_ap, opM_ap, tstM_ap, andM_ap, orM_ap, notM_ap, ifM_ap, andVM_ap, orVM_ap, notVM_ap, immM_ap, imM_ap, ixT_ap, yesM_ap, mutM_ap, mvM_ap, clF_ap, clT_ap, bdName_ap, itemsM_ap, asgG_ap, envF_ap, envP_ap, callF_ap, callP_ap, ownAt0_ap, itemsD_lst, itemsD_tup, chM_ap, slM_ap, noM_ap, partM_ap, bdB_ap, bdTup_ap, bdList_cons, bdList_nil, List.length_cons, List.length_nil, List.set_cons_succ, List.set_cons_zero, List.getElem?_cons_zero, List.getElem?_cons_succ, List.map_cons, List.map_nil, List.cons_append, List.nil_append, List.replicate, Nat.zero_add, Nat.reduceAdd, Nat.reduceSub, Nat.reduceLT, Nat.reduceLeDiff, Nat.reduceEqDiff, if_true, if_false, reduceIte, Bool.false_eq_true, NxS_nx, NxS_ct, RetF_ret, RetP_ret, imm, Bool.not_true, Bool.not_false, lstRg1_ok (show n < 1000000 by omega)]
  generalize hC : lcM _ _ _ _ _ _ = rc
  obtain ⟨ys, ⟨pen', left⟩, rfl, ⟨P', hp⟩, hl⟩ := lc_acc hC (List.range n) (fun (i : Nat) => D.int (i : Int)) (fun (s : D × List Nat) => [some (true, s.1), some (false, .int n), some (true, lstN s.2), none]) (fun (b : List Nat) s => Pen s.1 ∧ (b ++ s.2).Perm (List.range n)) (fun (x : Nat) => D.int (x : Int)) (pen, List.range n)
    (range1_ok (n := n) (by simp only [lstM_ap, tupM_ap, le_size, seqM_ap, nxM_ap, brM_ap, ctM_ap, retM_ap, retNM_ap, ifS_ap, asgF_ap, asgO_ap, dropM_ap, frzE_ap, frzM_ap, rdM_ap, vrM_ap, cM_ap, nilM_ap, consM_ap, consTM_ap, consNM_ap, opM_ap, tstM_ap, andM_ap, orM_ap, notM_ap, ifM_ap, andVM_ap, orVM_ap, notVM_ap, immM_ap, imM_ap, ixT_ap, yesM_ap, mutM_ap, mvM_ap, clF_ap, clT_ap, bdName_ap, itemsM_ap, asgG_ap, envF_ap, envP_ap, callF_ap, callP_ap, ownAt0_ap, itemsD_lst, itemsD_tup, chM_ap, slM_ap, noM_ap, partM_ap, bdB_ap, bdTup_ap, bdList_cons, bdList_nil, List.length_cons, List.length_nil, List.set_cons_succ, List.set_cons_zero, List.getElem?_cons_zero, List.getElem?_cons_succ, List.map_cons, List.map_nil, List.cons_append, List.nil_append, List.replicate, Nat.zero_add, Nat.reduceAdd, Nat.reduceSub, Nat.reduceLT, Nat.reduceLeDiff, Nat.reduceEqDiff, if_true, if_false, reduceIte, Bool.false_eq_true, NxS_nx, NxS_ct, RetF_ret, RetP_ret, imm, Bool.not_true, Bool.not_false]) (by omega)) ⟨Pn, .refl _⟩ (fun _ _ _ => trivial) (fun _ _ => rfl) (by simp; omega) (by
    rintro x hx b ⟨pen', left⟩ hb ⟨P', hp⟩
    rw [List.length_range] at hb
    have hp : (b ++ left).Perm (List.range n) := hp
    have hll := hp.length_eq
    rw [List.length_append, List.length_range] at hll
    have hlen : left.length < 1000000 := by omega
    obtain ⟨a, pen2, e2, ha, P2⟩ := take_any P' left.length (by omega) (by omega)
    refine ⟨left[a], (pen2, left.eraseIdx a), ?_, P2, perm_pop ha hp⟩
    simp only [clP_eq, lstM_ap, tupM_ap, le_size, seqM_ap, nxM_ap, brM_ap, ctM_ap, retM_ap, retNM_ap, ifS_ap, asgF_ap, asgO_ap, dropM_ap, frzE_ap, frzM_ap, rdM_ap, vrM_ap, cM_ap, nilM_ap, consM_ap, consTM_ap, consNM_ap, opM_ap, tstM_ap, andM_ap, orM_ap, notM_ap, ifM_ap, andVM_ap, orVM_ap, notVM_ap, immM_ap, imM_ap, ixT_ap, yesM_ap, mutM_ap, mvM_ap, clF_ap, clT_ap, bdName_ap, itemsM_ap, asgG_ap, envF_ap, envP_ap, callF_ap, callP_ap, ownAt0_ap, itemsD_lst, itemsD_tup, chM_ap, slM_ap, noM_ap, partM_ap, bdB_ap, bdTup_ap, bdList_cons, bdList_nil, List.length_cons, List.length_nil, List.set_cons_succ, List.set_cons_zero, List.getElem?_cons_zero, List.getElem?_cons_succ, List.map_cons, List.map_nil, List.cons_append, List.nil_append, List.replicate, Nat.zero_add, Nat.reduceAdd, Nat.reduceSub, Nat.reduceLT, Nat.reduceLeDiff, Nat.reduceEqDiff, if_true, if_false, reduceIte, Bool.false_eq_true, NxS_nx, NxS_ct, RetF_ret, RetP_ret, imm, Bool.not_true, Bool.not_false, lenF_lstN, e2]
    simp only [lstN, popAtF_ok ha hlen])
  have hp : (ys ++ left).Perm (List.range n) := hp
  have hleft : left = [] := by
    have := hp.length_eq
    rw [List.length_append, List.length_range] at this
    rw [List.length_range] at hl
    exact List.eq_nil_of_length_eq_zero (by omega)
  subst hleft
  rw [List.append_nil] at hp
  have ht : tupleF [.lst (ys.map fun (x : Nat) => D.int (x : Int))] = some (tupN ys) := rfl
  simp only [lstM_ap, tupM_ap, le_size, seqM_ap, nxM_ap, brM_ap, ctM_ap, retM_ap, retNM_ap, ifS_ap, asgF_ap, asgO_ap, dropM_ap, frzE_ap, frzM_ap, rdM_ap, vrM_ap, cM_ap, nilM_ap, consM_ap, consTM_ap, consNM_ap, opM_ap, tstM_ap, andM_ap, orM_ap, notM_ap, ifM_ap, andVM_ap, orVM_ap, notVM_ap, immM_ap, imM_ap, ixT_ap, yesM_ap, mutM_ap, mvM_ap, clF_ap, clT_ap, bdName_ap, itemsM_ap, asgG_ap, envF_ap, envP_ap, callF_ap, callP_ap, ownAt0_ap, itemsD_lst, itemsD_tup, chM_ap, slM_ap, noM_ap, partM_ap, bdB_ap, bdTup_ap, bdList_cons, bdList_nil, List.length_cons, List.length_nil, List.set_cons_succ, List.set_cons_zero, List.getElem?_cons_zero, List.getElem?_cons_succ, List.map_cons, List.map_nil, List.cons_append, List.nil_append, List.replicate, Nat.zero_add, Nat.reduceAdd, Nat.reduceSub, Nat.reduceLT, Nat.reduceLeDiff, Nat.reduceEqDiff, if_true, if_false, reduceIte, Bool.false_eq_true, NxS_nx, NxS_ct, RetF_ret, RetP_ret, imm, Bool.not_true, Bool.not_false, ht]
  exact ⟨ys, pen', rfl, hp, P'⟩
end MM

set_option Elab.async false
set_option linter.all false
set_option maxRecDepth 100000
set_option maxHeartbeats 4000000
noncomputable section
namespace MM
open PySem PySem.Spec PyProof.Rows L2

/-! ### the program's group -/
theorem then_ok {n : Nat} {a b : List Nat} (ha : Turn n a) (hb : Turn n b) (hn : n < 1000) : f_then [tupN a, tupN b] = .ret (tupN (comp a b)) := by
  have hne : neF [.int (a.length : Nat), .int (b.length : Nat)] = some (.bl false) := by
    rw [neF_int, ha.len, hb.len]
    simp
  unfold f_then m_then
  simp only [lstM_ap, tupM_ap, le_size, seqM_ap, nxM_ap, brM_ap, ctM_ap, retM_ap, retNM_ap, ifS_ap, asgF_ap, asgO_ap, dropM_ap, frzE_ap, frzM_ap, rdM_ap, vrM_ap, cM_ap, nilM_ap, consM_ap, consTM_ap, consNM_ap, opM_ap, tstM_ap, andM_ap, orM_ap, notM_ap, ifM_ap, andVM_ap, orVM_ap, notVM_ap, immM_ap, imM_ap, ixT_ap, yesM_ap, mutM_ap, mvM_ap, clF_ap, clT_ap, bdName_ap, itemsM_ap, asgG_ap, envF_ap, envP_ap, callF_ap, callP_ap, ownAt0_ap, itemsD_lst, itemsD_tup, chM_ap, slM_ap, noM_ap, partM_ap, bdB_ap, bdTup_ap, bdList_cons, bdList_nil, List.length_cons, List.length_nil, List.set_cons_succ, List.set_cons_zero, List.getElem?_cons_zero, List.getElem?_cons_succ, List.map_cons, List.map_nil, List.cons_append, List.nil_append, List.replicate, Nat.zero_add, Nat.reduceAdd, Nat.reduceSub, Nat.reduceLT, Nat.reduceLeDiff, Nat.reduceEqDiff, if_true, if_false, reduceIte, Bool.false_eq_true, NxS_nx, NxS_ct, RetF_ret, RetP_ret, imm, Bool.not_true, Bool.not_false, lenF_tupN, hne, m_then_3]
  generalize hC : lcM _ _ _ _ _ _ = rc
  have hc := lc_on' hC a (fun (k : Nat) => D.int (k : Int)) (fun k => D.int (b.getD k 0 : Nat)) (by simp only [lstM_ap, tupM_ap, le_size, seqM_ap, nxM_ap, brM_ap, ctM_ap, retM_ap, retNM_ap, ifS_ap, asgF_ap, asgO_ap, dropM_ap, frzE_ap, frzM_ap, rdM_ap, vrM_ap, cM_ap, nilM_ap, consM_ap, consTM_ap, consNM_ap, opM_ap, tstM_ap, andM_ap, orM_ap, notM_ap, ifM_ap, andVM_ap, orVM_ap, notVM_ap, immM_ap, imM_ap, ixT_ap, yesM_ap, mutM_ap, mvM_ap, clF_ap, clT_ap, bdName_ap, itemsM_ap, asgG_ap, envF_ap, envP_ap, callF_ap, callP_ap, ownAt0_ap, itemsD_lst, itemsD_tup, chM_ap, slM_ap, noM_ap, partM_ap, bdB_ap, bdTup_ap, bdList_cons, bdList_nil, List.length_cons, List.length_nil, List.set_cons_succ, List.set_cons_zero, List.getElem?_cons_zero, List.getElem?_cons_succ, List.map_cons, List.map_nil, List.cons_append, List.nil_append, List.replicate, Nat.zero_add, Nat.reduceAdd, Nat.reduceSub, Nat.reduceLT, Nat.reduceLeDiff, Nat.reduceEqDiff, if_true, if_false, reduceIte, Bool.false_eq_true, NxS_nx, NxS_ct, RetF_ret, RetP_ret, imm, Bool.not_true, Bool.not_false]; rfl) trivial (by rw [ha.len]; omega) fun k hk => by
    simp only [lstM_ap, tupM_ap, le_size, seqM_ap, nxM_ap, brM_ap, ctM_ap, retM_ap, retNM_ap, ifS_ap, asgF_ap, asgO_ap, dropM_ap, frzE_ap, frzM_ap, rdM_ap, vrM_ap, cM_ap, nilM_ap, consM_ap, consTM_ap, consNM_ap, opM_ap, tstM_ap, andM_ap, orM_ap, notM_ap, ifM_ap, andVM_ap, orVM_ap, notVM_ap, immM_ap, imM_ap, ixT_ap, yesM_ap, mutM_ap, mvM_ap, clF_ap, clT_ap, bdName_ap, itemsM_ap, asgG_ap, envF_ap, envP_ap, callF_ap, callP_ap, ownAt0_ap, itemsD_lst, itemsD_tup, chM_ap, slM_ap, noM_ap, partM_ap, bdB_ap, bdTup_ap, bdList_cons, bdList_nil, List.length_cons, List.length_nil, List.set_cons_succ, List.set_cons_zero, List.getElem?_cons_zero, List.getElem?_cons_succ, List.map_cons, List.map_nil, List.cons_append, List.nil_append, List.replicate, Nat.zero_add, Nat.reduceAdd, Nat.reduceSub, Nat.reduceLT, Nat.reduceLeDiff, Nat.reduceEqDiff, if_true, if_false, reduceIte, Bool.false_eq_true, NxS_nx, NxS_ct, RetF_ret, RetP_ret, imm, Bool.not_true, Bool.not_false, ix_tupN (show k < b.length by rw [hb.len]; exact ha.mem.mp hk)]
  subst hc
  simp only [lstM_ap, tupM_ap, le_size, seqM_ap, nxM_ap, brM_ap, ctM_ap, retM_ap, retNM_ap, ifS_ap, asgF_ap, asgO_ap, dropM_ap, frzE_ap, frzM_ap, rdM_ap, vrM_ap, cM_ap, nilM_ap, consM_ap, consTM_ap, consNM_ap, opM_ap, tstM_ap, andM_ap, orM_ap, notM_ap, ifM_ap, andVM_ap, orVM_ap, notVM_ap, immM_ap, imM_ap, ixT_ap, yesM_ap, mutM_ap, mvM_ap, clF_ap, clT_ap, bdName_ap, itemsM_ap, asgG_ap, envF_ap, envP_ap, callF_ap, callP_ap, ownAt0_ap, itemsD_lst, itemsD_tup, chM_ap, slM_ap, noM_ap, partM_ap, bdB_ap, bdTup_ap, bdList_cons, bdList_nil, List.length_cons, List.length_nil, List.set_cons_succ, List.set_cons_zero, List.getElem?_cons_zero, List.getElem?_cons_succ, List.map_cons, List.map_nil, List.cons_append, List.nil_append, List.replicate, Nat.zero_add, Nat.reduceAdd, Nat.reduceSub, Nat.reduceLT, Nat.reduceLeDiff, Nat.reduceEqDiff, if_true, if_false, reduceIte, Bool.false_eq_true, NxS_nx, NxS_ct, RetF_ret, RetP_ret, imm, Bool.not_true, Bool.not_false, comp_ok, tupleF_lst]
theorem srtN_uniq2 {A B : List (List Nat)} (p : A.Perm B) (sa : SrtN A) (sb : SrtN B) : A = B := by
  have := srtT_uniq (p.map zi) sa sb
  exact (List.map_inj_right fun a b h => zi_inj h).mp this
theorem grown_ok {n : Nat} (hn0 : 0 < n) (h8 : n < 8) {ts : List (List Nat)} (ht : ∀ t ∈ ts, Turn n t) (hl : ts.length < 1000) (hmax : ∀ f : List (List Nat), f.Nodup → (∀ x ∈ f, Reach comp (List.range n) ts x) → f.length ≤ 60) :
    ∃ F : List (List Nat), f_grown_turns [.int (n : Nat), .lst (ts.map tupN)] = .ret (setT F) ∧ TG n F ∧ F.length ≤ 60 ∧ ∀ x, x ∈ F ↔ Reach comp (List.range n) ts x := by
  unfold f_grown_turns m_grown_turns
  simp only [lstM_ap, tupM_ap, le_size, seqM_ap, nxM_ap, brM_ap, ctM_ap, retM_ap, retNM_ap, ifS_ap, asgF_ap, asgO_ap, dropM_ap, frzE_ap, frzM_ap, rdM_ap, vrM_ap, cM_ap, nilM_ap, consM_ap, consTM_ap, consNM_ap, opM_ap, tstM_ap, andM_ap, orM_ap, notM_ap, ifM_ap, andVM_ap, orVM_ap, notVM_ap, immM_ap, imM_ap, ixT_ap, yesM_ap, mutM_ap, mvM_ap, clF_ap, clT_ap, bdName_ap, itemsM_ap, asgG_ap, envF_ap, envP_ap, callF_ap, callP_ap, ownAt0_ap, itemsD_lst, itemsD_tup, chM_ap, slM_ap, noM_ap, partM_ap, bdB_ap, bdTup_ap, bdList_cons, bdList_nil, List.length_cons, List.length_nil, List.set_cons_succ, List.set_cons_zero, List.getElem?_cons_zero, List.getElem?_cons_succ, List.map_cons, List.map_nil, List.cons_append, List.nil_append, List.replicate, Nat.zero_add, Nat.reduceAdd, Nat.reduceSub, Nat.reduceLT, Nat.reduceLeDiff, Nat.reduceEqDiff, if_true, if_false, reduceIte, Bool.false_eq_true, NxS_nx, NxS_ct, RetF_ret, RetP_ret, imm, Bool.not_true, Bool.not_false, tupRg1_ok (show n < 1000000 by omega), dT1M_ap, keysD_ofN, setT_one]
  generalize hW : whM _ _ _ _ = rw'
  have key := wh_retN (P := fun m e => ∃ f w d5 d6 d7, e = [some (false, .int n), some (false, .lst (ts.map tupN)), some (false, tupN (List.range n)), some (true, setT f), some (true, .lst (w.map tupN)), d5, d6, d7] ∧ Wk comp (List.range n) ts f w ∧ f.length ≤ 60 ∧ m = 2 * (60 - f.length) + w.length)
    (Q := fun d e => False) fuel (2 * (60 - 1) + 1) [some (false, .int n), some (false, .lst (ts.map tupN)), some (false, tupN (List.range n)), some (true, setT [List.range n]), some (true, .lst [tupN (List.range n)]), none, none, none] ⟨[List.range n], [List.range n], none, none, none, rfl, .start _ _, by simp, rfl⟩ (by rw [fuel_eq]; omega) (t := tstM (opM neF (consTM (rdM 4) (consM (lstM nilM) nilM)))) (body := m_grown_turns_5) (by
    rintro m e ⟨f, w, d5, d6, d7, rfl, hWk, hf, rfl⟩
    rcases List.eq_nil_or_concat w with rfl | ⟨w', one, rfl⟩
    · left
      simp only [lstM_ap, tupM_ap, le_size, seqM_ap, nxM_ap, brM_ap, ctM_ap, retM_ap, retNM_ap, ifS_ap, asgF_ap, asgO_ap, dropM_ap, frzE_ap, frzM_ap, rdM_ap, vrM_ap, cM_ap, nilM_ap, consM_ap, consTM_ap, consNM_ap, opM_ap, tstM_ap, andM_ap, orM_ap, notM_ap, ifM_ap, andVM_ap, orVM_ap, notVM_ap, immM_ap, imM_ap, ixT_ap, yesM_ap, mutM_ap, mvM_ap, clF_ap, clT_ap, bdName_ap, itemsM_ap, asgG_ap, envF_ap, envP_ap, callF_ap, callP_ap, ownAt0_ap, itemsD_lst, itemsD_tup, chM_ap, slM_ap, noM_ap, partM_ap, bdB_ap, bdTup_ap, bdList_cons, bdList_nil, List.length_cons, List.length_nil, List.set_cons_succ, List.set_cons_zero, List.getElem?_cons_zero, List.getElem?_cons_succ, List.map_cons, List.map_nil, List.cons_append, List.nil_append, List.replicate, Nat.zero_add, Nat.reduceAdd, Nat.reduceSub, Nat.reduceLT, Nat.reduceLeDiff, Nat.reduceEqDiff, if_true, if_false, reduceIte, Bool.false_eq_true, NxS_nx, NxS_ct, RetF_ret, RetP_ret, imm, Bool.not_true, Bool.not_false, neF_nil0]
    · right
      rw [List.concat_eq_append] at hWk ⊢
      refine ⟨by simp only [lstM_ap, tupM_ap, le_size, seqM_ap, nxM_ap, brM_ap, ctM_ap, retM_ap, retNM_ap, ifS_ap, asgF_ap, asgO_ap, dropM_ap, frzE_ap, frzM_ap, rdM_ap, vrM_ap, cM_ap, nilM_ap, consM_ap, consTM_ap, consNM_ap, opM_ap, tstM_ap, andM_ap, orM_ap, notM_ap, ifM_ap, andVM_ap, orVM_ap, notVM_ap, immM_ap, imM_ap, ixT_ap, yesM_ap, mutM_ap, mvM_ap, clF_ap, clT_ap, bdName_ap, itemsM_ap, asgG_ap, envF_ap, envP_ap, callF_ap, callP_ap, ownAt0_ap, itemsD_lst, itemsD_tup, chM_ap, slM_ap, noM_ap, partM_ap, bdB_ap, bdTup_ap, bdList_cons, bdList_nil, List.length_cons, List.length_nil, List.set_cons_succ, List.set_cons_zero, List.getElem?_cons_zero, List.getElem?_cons_succ, List.map_cons, List.map_nil, List.cons_append, List.nil_append, List.replicate, Nat.zero_add, Nat.reduceAdd, Nat.reduceSub, Nat.reduceLT, Nat.reduceLeDiff, Nat.reduceEqDiff, if_true, if_false, reduceIte, Bool.false_eq_true, NxS_nx, NxS_ct, RetF_ret, RetP_ret, imm, Bool.not_true, Bool.not_false, neF_turns]; simp, ?_⟩
      have hro := hWk.rc one (hWk.sub one (by simp))
      have ho : Turn n one := reach_turn ht hro
      obtain ⟨new, a1, a2⟩ := hWk.next
      unfold m_grown_turns_5
      simp only [lstM_ap, tupM_ap, le_size, seqM_ap, nxM_ap, brM_ap, ctM_ap, retM_ap, retNM_ap, ifS_ap, asgF_ap, asgO_ap, dropM_ap, frzE_ap, frzM_ap, rdM_ap, vrM_ap, cM_ap, nilM_ap, consM_ap, consTM_ap, consNM_ap, opM_ap, tstM_ap, andM_ap, orM_ap, notM_ap, ifM_ap, andVM_ap, orVM_ap, notVM_ap, immM_ap, imM_ap, ixT_ap, yesM_ap, mutM_ap, mvM_ap, clF_ap, clT_ap, bdName_ap, itemsM_ap, asgG_ap, envF_ap, envP_ap, callF_ap, callP_ap, ownAt0_ap, itemsD_lst, itemsD_tup, chM_ap, slM_ap, noM_ap, partM_ap, bdB_ap, bdTup_ap, bdList_cons, bdList_nil, List.length_cons, List.length_nil, List.set_cons_succ, List.set_cons_zero, List.getElem?_cons_zero, List.getElem?_cons_succ, List.map_cons, List.map_nil, List.cons_append, List.nil_append, List.replicate, Nat.zero_add, Nat.reduceAdd, Nat.reduceSub, Nat.reduceLT, Nat.reduceLeDiff, Nat.reduceEqDiff, if_true, if_false, reduceIte, Bool.false_eq_true, NxS_nx, NxS_ct, RetF_ret, RetP_ret, imm, Bool.not_true, Bool.not_false, List.map_append, popF_snoc]
      generalize hL : loopM _ _ _ _ = r
      have key2 := for_items hL ts tupN (fun done e => ∃ d6 d7, e = [some (false, .int n), some (false, .lst (ts.map tupN)), some (false, tupN (List.range n)), some (true, setT (addAll comp one done (f, w')).1), some (true, .lst ((addAll comp one done (f, w')).2.map tupN)), some (false, tupN one), d6, d7])
        (by simp only [lstM_ap, tupM_ap, le_size, seqM_ap, nxM_ap, brM_ap, ctM_ap, retM_ap, retNM_ap, ifS_ap, asgF_ap, asgO_ap, dropM_ap, frzE_ap, frzM_ap, rdM_ap, vrM_ap, cM_ap, nilM_ap, consM_ap, consTM_ap, consNM_ap, opM_ap, tstM_ap, andM_ap, orM_ap, notM_ap, ifM_ap, andVM_ap, orVM_ap, notVM_ap, immM_ap, imM_ap, ixT_ap, yesM_ap, mutM_ap, mvM_ap, clF_ap, clT_ap, bdName_ap, itemsM_ap, asgG_ap, envF_ap, envP_ap, callF_ap, callP_ap, ownAt0_ap, itemsD_lst, itemsD_tup, chM_ap, slM_ap, noM_ap, partM_ap, bdB_ap, bdTup_ap, bdList_cons, bdList_nil, List.length_cons, List.length_nil, List.set_cons_succ, List.set_cons_zero, List.getElem?_cons_zero, List.getElem?_cons_succ, List.map_cons, List.map_nil, List.cons_append, List.nil_append, List.replicate, Nat.zero_add, Nat.reduceAdd, Nat.reduceSub, Nat.reduceLT, Nat.reduceLeDiff, Nat.reduceEqDiff, if_true, if_false, reduceIte, Bool.false_eq_true, NxS_nx, NxS_ct, RetF_ret, RetP_ret, imm, Bool.not_true, Bool.not_false]) ⟨_, _, rfl⟩ (by
        rintro done x rest e hts ⟨d6, d7, rfl⟩
        have hlen := addAll_len (step := comp) one done (f, w')
        have hd : done.length ≤ ts.length := by rw [hts, List.length_append]; omega
        have hw' : w'.length < 1000 := by
          have := hWk.wlen
          simp only [List.length_append, List.length_cons, List.length_nil] at this
          omega
        have hx : Turn n x := ht x (by rw [hts]; simp)
        have hcap : comp one x ∉ (addAll comp one done (f, w')).1 → (addAll comp one done (f, w')).1.length < 60 := fun hn => by
          obtain ⟨nw, b1, b2, b3, _⟩ := addAll_spec (step := comp) one done f w'
          rw [b1] at hn ⊢
          have hnd := b2 hWk.nd
          have hrc : ∀ y ∈ f ++ nw, Reach comp (List.range n) ts y := fun y hy => by
            rcases List.mem_append.mp hy with z | z
            · exact hWk.rc y z
            · obtain ⟨g, hg, rfl⟩ := b3 y z
              exact .step hro (by rw [hts]; exact List.mem_append_left _ hg)
          have := hmax (comp one x :: (f ++ nw)) (List.nodup_cons.mpr ⟨hn, hnd⟩) fun y hy => by
            rcases List.mem_cons.mp hy with rfl | hy
            · exact .step hro (by rw [hts]; simp)
            · exact hrc y hy
          rw [List.length_cons] at this
          show (f ++ nw).length < 60
          omega
        rw [addAll_snoc]
        generalize addAll comp one done (f, w') = s at hlen hcap ⊢
        dsimp only at hlen
        have hs1 : s.1.length < 1000000 := by omega
        have hs2 : (s.2.map tupN).length < 1000000 := by rw [List.length_map]; omega
        simp only [lstM_ap, tupM_ap, le_size, seqM_ap, nxM_ap, brM_ap, ctM_ap, retM_ap, retNM_ap, ifS_ap, asgF_ap, asgO_ap, dropM_ap, frzE_ap, frzM_ap, rdM_ap, vrM_ap, cM_ap, nilM_ap, consM_ap, consTM_ap, consNM_ap, opM_ap, tstM_ap, andM_ap, orM_ap, notM_ap, ifM_ap, andVM_ap, orVM_ap, notVM_ap, immM_ap, imM_ap, ixT_ap, yesM_ap, mutM_ap, mvM_ap, clF_ap, clT_ap, bdName_ap, itemsM_ap, asgG_ap, envF_ap, envP_ap, callF_ap, callP_ap, ownAt0_ap, itemsD_lst, itemsD_tup, chM_ap, slM_ap, noM_ap, partM_ap, bdB_ap, bdTup_ap, bdList_cons, bdList_nil, List.length_cons, List.length_nil, List.set_cons_succ, List.set_cons_zero, List.getElem?_cons_zero, List.getElem?_cons_succ, List.map_cons, List.map_nil, List.cons_append, List.nil_append, List.replicate, Nat.zero_add, Nat.reduceAdd, Nat.reduceSub, Nat.reduceLT, Nat.reduceLeDiff, Nat.reduceEqDiff, if_true, if_false, reduceIte, Bool.false_eq_true, NxS_nx, NxS_ct, RetF_ret, RetP_ret, imm, Bool.not_true, Bool.not_false, m_grown_turns_7, then_ok ho hx (show n < 1000 by omega), notInF_setT]
        by_cases hm : comp one x ∈ s.1
        · simp only [lstM_ap, tupM_ap, le_size, seqM_ap, nxM_ap, brM_ap, ctM_ap, retM_ap, retNM_ap, ifS_ap, asgF_ap, asgO_ap, dropM_ap, frzE_ap, frzM_ap, rdM_ap, vrM_ap, cM_ap, nilM_ap, consM_ap, consTM_ap, consNM_ap, opM_ap, tstM_ap, andM_ap, orM_ap, notM_ap, ifM_ap, andVM_ap, orVM_ap, notVM_ap, immM_ap, imM_ap, ixT_ap, yesM_ap, mutM_ap, mvM_ap, clF_ap, clT_ap, bdName_ap, itemsM_ap, asgG_ap, envF_ap, envP_ap, callF_ap, callP_ap, ownAt0_ap, itemsD_lst, itemsD_tup, chM_ap, slM_ap, noM_ap, partM_ap, bdB_ap, bdTup_ap, bdList_cons, bdList_nil, List.length_cons, List.length_nil, List.set_cons_succ, List.set_cons_zero, List.getElem?_cons_zero, List.getElem?_cons_succ, List.map_cons, List.map_nil, List.cons_append, List.nil_append, List.replicate, Nat.zero_add, Nat.reduceAdd, Nat.reduceSub, Nat.reduceLT, Nat.reduceLeDiff, Nat.reduceEqDiff, if_true, if_false, reduceIte, Bool.false_eq_true, NxS_nx, NxS_ct, RetF_ret, RetP_ret, imm, Bool.not_true, Bool.not_false, hm, decide_true, if_pos]
          exact ⟨_, _, rfl⟩
        · have hc60 := hcap hm
          have hq : eqF [.int (s.1.length : Nat), .int 60] = some (.bl false) := by
            rw [eqF_int, decide_eq_false (by omega)]
          simp only [lstM_ap, tupM_ap, le_size, seqM_ap, nxM_ap, brM_ap, ctM_ap, retM_ap, retNM_ap, ifS_ap, asgF_ap, asgO_ap, dropM_ap, frzE_ap, frzM_ap, rdM_ap, vrM_ap, cM_ap, nilM_ap, consM_ap, consTM_ap, consNM_ap, opM_ap, tstM_ap, andM_ap, orM_ap, notM_ap, ifM_ap, andVM_ap, orVM_ap, notVM_ap, immM_ap, imM_ap, ixT_ap, yesM_ap, mutM_ap, mvM_ap, clF_ap, clT_ap, bdName_ap, itemsM_ap, asgG_ap, envF_ap, envP_ap, callF_ap, callP_ap, ownAt0_ap, itemsD_lst, itemsD_tup, chM_ap, slM_ap, noM_ap, partM_ap, bdB_ap, bdTup_ap, bdList_cons, bdList_nil, List.length_cons, List.length_nil, List.set_cons_succ, List.set_cons_zero, List.getElem?_cons_zero, List.getElem?_cons_succ, List.map_cons, List.map_nil, List.cons_append, List.nil_append, List.replicate, Nat.zero_add, Nat.reduceAdd, Nat.reduceSub, Nat.reduceLT, Nat.reduceLeDiff, Nat.reduceEqDiff, if_true, if_false, reduceIte, Bool.false_eq_true, NxS_nx, NxS_ct, RetF_ret, RetP_ret, imm, Bool.not_true, Bool.not_false, hm, decide_false, lenF_setT, hq, m_grown_turns_11, if_neg, not_false_eq_true, setM_ap, setF_setT hm hs1, appendF_ok hs2, map_snoc]
          exact ⟨_, _, rfl⟩)
      obtain ⟨e', rfl, d6', d7', rfl⟩ := key2
      rw [a1]
      have hle := hmax (f ++ new) a2.nd a2.rc
      simp only [lstM_ap, tupM_ap, le_size, seqM_ap, nxM_ap, brM_ap, ctM_ap, retM_ap, retNM_ap, ifS_ap, asgF_ap, asgO_ap, dropM_ap, frzE_ap, frzM_ap, rdM_ap, vrM_ap, cM_ap, nilM_ap, consM_ap, consTM_ap, consNM_ap, opM_ap, tstM_ap, andM_ap, orM_ap, notM_ap, ifM_ap, andVM_ap, orVM_ap, notVM_ap, immM_ap, imM_ap, ixT_ap, yesM_ap, mutM_ap, mvM_ap, clF_ap, clT_ap, bdName_ap, itemsM_ap, asgG_ap, envF_ap, envP_ap, callF_ap, callP_ap, ownAt0_ap, itemsD_lst, itemsD_tup, chM_ap, slM_ap, noM_ap, partM_ap, bdB_ap, bdTup_ap, bdList_cons, bdList_nil, List.length_cons, List.length_nil, List.set_cons_succ, List.set_cons_zero, List.getElem?_cons_zero, List.getElem?_cons_succ, List.map_cons, List.map_nil, List.cons_append, List.nil_append, List.replicate, Nat.zero_add, Nat.reduceAdd, Nat.reduceSub, Nat.reduceLT, Nat.reduceLeDiff, Nat.reduceEqDiff, if_true, if_false, reduceIte, Bool.false_eq_true, NxS_nx, NxS_ct, RetF_ret, RetP_ret, imm, Bool.not_true, Bool.not_false]
      refine ⟨_, ?_, f ++ new, w' ++ new, _, _, _, rfl, a2, hle, rfl⟩
      simp only [List.length_append, List.length_cons, List.length_nil] at hle ⊢
      omega)
  rw [hW] at key
  rcases key with ⟨e', m', rfl, ⟨f, w, d5, d6, d7, rfl, hWk, hf, _⟩, hend⟩ | ⟨d, e', rfl, hQ⟩
  · have hw : w = [] := by
      simp only [lstM_ap, tupM_ap, le_size, seqM_ap, nxM_ap, brM_ap, ctM_ap, retM_ap, retNM_ap, ifS_ap, asgF_ap, asgO_ap, dropM_ap, frzE_ap, frzM_ap, rdM_ap, vrM_ap, cM_ap, nilM_ap, consM_ap, consTM_ap, consNM_ap, opM_ap, tstM_ap, andM_ap, orM_ap, notM_ap, ifM_ap, andVM_ap, orVM_ap, notVM_ap, immM_ap, imM_ap, ixT_ap, yesM_ap, mutM_ap, mvM_ap, clF_ap, clT_ap, bdName_ap, itemsM_ap, asgG_ap, envF_ap, envP_ap, callF_ap, callP_ap, ownAt0_ap, itemsD_lst, itemsD_tup, chM_ap, slM_ap, noM_ap, partM_ap, bdB_ap, bdTup_ap, bdList_cons, bdList_nil, List.length_cons, List.length_nil, List.set_cons_succ, List.set_cons_zero, List.getElem?_cons_zero, List.getElem?_cons_succ, List.map_cons, List.map_nil, List.cons_append, List.nil_append, List.replicate, Nat.zero_add, Nat.reduceAdd, Nat.reduceSub, Nat.reduceLT, Nat.reduceLeDiff, Nat.reduceEqDiff, if_true, if_false, reduceIte, Bool.false_eq_true, NxS_nx, NxS_ct, RetF_ret, RetP_ret, imm, Bool.not_true, Bool.not_false, neF_turns] at hend
      cases w with
      | nil => rfl
      | cons x w => simp at hend
    subst hw
    simp only [lstM_ap, tupM_ap, le_size, seqM_ap, nxM_ap, brM_ap, ctM_ap, retM_ap, retNM_ap, ifS_ap, asgF_ap, asgO_ap, dropM_ap, frzE_ap, frzM_ap, rdM_ap, vrM_ap, cM_ap, nilM_ap, consM_ap, consTM_ap, consNM_ap, opM_ap, tstM_ap, andM_ap, orM_ap, notM_ap, ifM_ap, andVM_ap, orVM_ap, notVM_ap, immM_ap, imM_ap, ixT_ap, yesM_ap, mutM_ap, mvM_ap, clF_ap, clT_ap, bdName_ap, itemsM_ap, asgG_ap, envF_ap, envP_ap, callF_ap, callP_ap, ownAt0_ap, itemsD_lst, itemsD_tup, chM_ap, slM_ap, noM_ap, partM_ap, bdB_ap, bdTup_ap, bdList_cons, bdList_nil, List.length_cons, List.length_nil, List.set_cons_succ, List.set_cons_zero, List.getElem?_cons_zero, List.getElem?_cons_succ, List.map_cons, List.map_nil, List.cons_append, List.nil_append, List.replicate, Nat.zero_add, Nat.reduceAdd, Nat.reduceSub, Nat.reduceLT, Nat.reduceLeDiff, Nat.reduceEqDiff, if_true, if_false, reduceIte, Bool.false_eq_true, NxS_nx, NxS_ct, RetF_ret, RetP_ret, imm, Bool.not_true, Bool.not_false]
    exact ⟨f, rfl, tg_of ht hWk, hf, fun x => hWk.done x⟩
  · exact hQ.elim
theorem intsOf_ofN' : ∀ l : List Nat, intsOf (ofN l) = some (zi l)
  | [] => rfl
  | x :: l => by rw [ofN_cons, intsOf, intsOf_ofN' l]; rfl
theorem is_turn_ok {n : Nat} {t : List Nat} (T : Turn n t) (hn : n < 64) : f_is_turn_of [.int (n : Nat), tupN t] = .ret (.bl true) := by
  have h1 : isiF .tuple [tupN t, .opq (.ty "tuple")] = some (.bl true) := rfl
  have hne : neF [.int (t.length : Nat), .int (n : Nat)] = some (.bl false) := by
    rw [neF_int, T.len]
    simp
  unfold f_is_turn_of m_is_turn_of
  simp only [lstM_ap, tupM_ap, le_size, seqM_ap, nxM_ap, brM_ap, ctM_ap, retM_ap, retNM_ap, ifS_ap, asgF_ap, asgO_ap, dropM_ap, frzE_ap, frzM_ap, rdM_ap, vrM_ap, cM_ap, nilM_ap, consM_ap, consTM_ap, consNM_ap, opM_ap, tstM_ap, andM_ap, orM_ap, notM_ap, ifM_ap, andVM_ap, orVM_ap, notVM_ap, immM_ap, imM_ap, ixT_ap, yesM_ap, mutM_ap, mvM_ap, clF_ap, clT_ap, bdName_ap, itemsM_ap, asgG_ap, envF_ap, envP_ap, callF_ap, callP_ap, ownAt0_ap, itemsD_lst, itemsD_tup, chM_ap, slM_ap, noM_ap, partM_ap, bdB_ap, bdTup_ap, bdList_cons, bdList_nil, List.length_cons, List.length_nil, List.set_cons_succ, List.set_cons_zero, List.getElem?_cons_zero, List.getElem?_cons_succ, List.map_cons, List.map_nil, List.cons_append, List.nil_append, List.replicate, Nat.zero_add, Nat.reduceAdd, Nat.reduceSub, Nat.reduceLT, Nat.reduceLeDiff, Nat.reduceEqDiff, if_true, if_false, reduceIte, Bool.false_eq_true, NxS_nx, NxS_ct, RetF_ret, RetP_ret, imm, Bool.not_true, Bool.not_false, h1, lenF_tupN, hne]
  generalize hC : lcM _ _ _ _ _ _ = rc
  have hc := lc_on' hC t (fun (k : Nat) => D.int (k : Int)) (fun _ => D.bl true) (by simp only [lstM_ap, tupM_ap, le_size, seqM_ap, nxM_ap, brM_ap, ctM_ap, retM_ap, retNM_ap, ifS_ap, asgF_ap, asgO_ap, dropM_ap, frzE_ap, frzM_ap, rdM_ap, vrM_ap, cM_ap, nilM_ap, consM_ap, consTM_ap, consNM_ap, opM_ap, tstM_ap, andM_ap, orM_ap, notM_ap, ifM_ap, andVM_ap, orVM_ap, notVM_ap, immM_ap, imM_ap, ixT_ap, yesM_ap, mutM_ap, mvM_ap, clF_ap, clT_ap, bdName_ap, itemsM_ap, asgG_ap, envF_ap, envP_ap, callF_ap, callP_ap, ownAt0_ap, itemsD_lst, itemsD_tup, chM_ap, slM_ap, noM_ap, partM_ap, bdB_ap, bdTup_ap, bdList_cons, bdList_nil, List.length_cons, List.length_nil, List.set_cons_succ, List.set_cons_zero, List.getElem?_cons_zero, List.getElem?_cons_succ, List.map_cons, List.map_nil, List.cons_append, List.nil_append, List.replicate, Nat.zero_add, Nat.reduceAdd, Nat.reduceSub, Nat.reduceLT, Nat.reduceLeDiff, Nat.reduceEqDiff, if_true, if_false, reduceIte, Bool.false_eq_true, NxS_nx, NxS_ct, RetF_ret, RetP_ret, imm, Bool.not_true, Bool.not_false]; rfl) trivial (by rw [T.len]; omega) fun k hk => by
    have i1 : isiF .int [.int (k : Nat), .opq (.ty "int")] = some (.bl true) := rfl
    have i2 : isiF .bool [.int (k : Nat), .opq (.ty "bool")] = some (.bl false) := rfl
    simp only [lstM_ap, tupM_ap, le_size, seqM_ap, nxM_ap, brM_ap, ctM_ap, retM_ap, retNM_ap, ifS_ap, asgF_ap, asgO_ap, dropM_ap, frzE_ap, frzM_ap, rdM_ap, vrM_ap, cM_ap, nilM_ap, consM_ap, consTM_ap, consNM_ap, opM_ap, tstM_ap, andM_ap, orM_ap, notM_ap, ifM_ap, andVM_ap, orVM_ap, notVM_ap, immM_ap, imM_ap, ixT_ap, yesM_ap, mutM_ap, mvM_ap, clF_ap, clT_ap, bdName_ap, itemsM_ap, asgG_ap, envF_ap, envP_ap, callF_ap, callP_ap, ownAt0_ap, itemsD_lst, itemsD_tup, chM_ap, slM_ap, noM_ap, partM_ap, bdB_ap, bdTup_ap, bdList_cons, bdList_nil, List.length_cons, List.length_nil, List.set_cons_succ, List.set_cons_zero, List.getElem?_cons_zero, List.getElem?_cons_succ, List.map_cons, List.map_nil, List.cons_append, List.nil_append, List.replicate, Nat.zero_add, Nat.reduceAdd, Nat.reduceSub, Nat.reduceLT, Nat.reduceLeDiff, Nat.reduceEqDiff, if_true, if_false, reduceIte, Bool.false_eq_true, NxS_nx, NxS_ct, RetF_ret, RetP_ret, imm, Bool.not_true, Bool.not_false, f_is_whole, m_is_whole, i1, i2]
  subst hc
  have ha : allF [.lst (t.map fun _ => D.bl true)] = some (.bl true) := by
    rw [allF_map (fun _ => true)]
    simp
  have hs : sortTF [tupN t] = some (lstN (List.range n)) := by
    show (match intsOf (ofN t) with
      | some ns => if ns.length < 64 then some (D.lst ((isort ns).map .int)) else none
      | none => none) = _
    rw [intsOf_ofN']
    dsimp only
    rw [if_pos (by unfold zi; rw [List.length_map, T.len]; omega), isort_zi]
    have e : srtN t = List.range n := srt_uniq ((srtN_perm _).trans T) (srtN_sorted _) List.pairwise_le_range
    rw [e, ofN_zi]
  have he : eqF [lstN (List.range n), lstN (List.range n)] = some (.bl true) := by rw [eqF_lstN]; simp
  simp only [lstM_ap, tupM_ap, le_size, seqM_ap, nxM_ap, brM_ap, ctM_ap, retM_ap, retNM_ap, ifS_ap, asgF_ap, asgO_ap, dropM_ap, frzE_ap, frzM_ap, rdM_ap, vrM_ap, cM_ap, nilM_ap, consM_ap, consTM_ap, consNM_ap, opM_ap, tstM_ap, andM_ap, orM_ap, notM_ap, ifM_ap, andVM_ap, orVM_ap, notVM_ap, immM_ap, imM_ap, ixT_ap, yesM_ap, mutM_ap, mvM_ap, clF_ap, clT_ap, bdName_ap, itemsM_ap, asgG_ap, envF_ap, envP_ap, callF_ap, callP_ap, ownAt0_ap, itemsD_lst, itemsD_tup, chM_ap, slM_ap, noM_ap, partM_ap, bdB_ap, bdTup_ap, bdList_cons, bdList_nil, List.length_cons, List.length_nil, List.set_cons_succ, List.set_cons_zero, List.getElem?_cons_zero, List.getElem?_cons_succ, List.map_cons, List.map_nil, List.cons_append, List.nil_append, List.replicate, Nat.zero_add, Nat.reduceAdd, Nat.reduceSub, Nat.reduceLT, Nat.reduceLeDiff, Nat.reduceEqDiff, if_true, if_false, reduceIte, Bool.false_eq_true, NxS_nx, NxS_ct, RetF_ret, RetP_ret, imm, Bool.not_true, Bool.not_false, ha, m_is_turn_of_3, hs, lstRg1_ok (show n < 1000000 by omega), he]
theorem tups_map : ∀ {F : List (List Nat)}, (∀ l ∈ F, l ≠ []) → tupsOf (F.map tupN) = some (F.map zi)
  | [], _ => rfl
  | l :: F, h => by
    have ih := tups_map fun m hm => h m (List.mem_cons_of_mem _ hm)
    have hl := h l List.mem_cons_self
    rw [List.map_cons]
    show tupsOf (.tup (ofN l) :: F.map tupN) = _
    rw [tupsOf, intsOf_ofN', ih]
    cases l with
    | nil => exact absurd rfl hl
    | cons x l => rfl
theorem intsOf_tups : ∀ {F : List (List Nat)}, F ≠ [] → intsOf (F.map tupN) = none
  | [], h => absurd rfl h
  | l :: F, _ => rfl
/-- group_of of turns that stay within a known list -/
theorem group_fin {n : Nat} (hn0 : 0 < n) (h8 : n < 8) {ts E : List (List Nat)} (ht : ∀ t ∈ ts, Turn n t) (hl : ts.length < 1000) (h0 : List.range n ∈ E) (hc : ∀ x ∈ E, ∀ t ∈ ts, comp x t ∈ E) (hE : E.length ≤ 60) :
    ∃ G, f_group_of [.int (n : Nat), .lst (ts.map tupN)] = .ret (.tup (G.map tupN)) ∧ TG n G ∧ SrtN G ∧ G.length ≤ E.length := by
  have key : ∀ x, Reach comp (List.range n) ts x → x ∈ E := fun x hx => by
    induction hx with
    | base => exact h0
    | step _ ht ih => exact hc _ ih _ ht
  obtain ⟨F, e1, TF, hF, hm⟩ := grown_ok hn0 h8 ht hl fun f nd hr => by
    have := len_of_sub (l := f) (m := E) nd fun x hx => key x (hr x hx)
    omega
  have hne : ∀ l ∈ F, l ≠ [] := fun l hl e => by
    have := (TF.tn l hl).len
    rw [e] at this
    simp at this
    omega
  have hF0 : F ≠ [] := fun e => by
    have := TF.id
    rw [e] at this
    cases this
  have hlist : listTF [setT F] = some (.lst (F.map tupN)) := by
    show (match keysT (F.map fun l => (keyN l, D.bl true)) with
      | some ks => some (D.lst (ks.map dtup))
      | none => none) = _
    rw [keysT_setT hne]
    dsimp only
    rw [List.map_map]
    congr 2
    refine List.map_congr_left fun l _ => ?_
    simp only [Function.comp, dtup, ofN_zi]
  obtain ⟨G', e, p⟩ := perm_zi (sortT_perm (F.map zi))
  have TG' : TG n G' := ⟨p.nodup_iff.mpr TF.nd, fun x hx => TF.tn x (p.mem_iff.mp hx), p.mem_iff.mpr TF.id, fun x hx y hy => p.mem_iff.mpr (TF.cl x (p.mem_iff.mp hx) y (p.mem_iff.mp hy))⟩
  have hsort : sorted3F [.lst (F.map tupN)] = some (.lst (G'.map tupN)) := by
    show (match intsOf (F.map tupN) with
      | some ns => some (D.lst ((isort ns).map .int))
      | none => match tupsOf (F.map tupN) with
        | some ks => some (D.lst ((sortT ks).map dtup))
        | none => none) = _
    rw [intsOf_tups hF0, tups_map hne]
    dsimp only
    rw [e, List.map_map]
    congr 2
    refine List.map_congr_left fun l _ => ?_
    simp only [Function.comp, dtup, ofN_zi]
  have c1 : decide ((1 : Int) ≤ (n : Nat)) = true := decide_eq_true (by omega)
  have c2 : decide (((n : Nat) : Int) ≤ 7) = true := decide_eq_true (by omega)
  have hlen : lenF [.lst (ts.map tupN)] = some (.int (ts.length : Nat)) := by rw [lenF_lst, List.length_map]
  unfold f_group_of m_group_of
  simp only [lstM_ap, tupM_ap, le_size, seqM_ap, nxM_ap, brM_ap, ctM_ap, retM_ap, retNM_ap, ifS_ap, asgF_ap, asgO_ap, dropM_ap, frzE_ap, frzM_ap, rdM_ap, vrM_ap, cM_ap, nilM_ap, consM_ap, consTM_ap, consNM_ap, opM_ap, tstM_ap, andM_ap, orM_ap, notM_ap, ifM_ap, andVM_ap, orVM_ap, notVM_ap, immM_ap, imM_ap, ixT_ap, yesM_ap, mutM_ap, mvM_ap, clF_ap, clT_ap, bdName_ap, itemsM_ap, asgG_ap, envF_ap, envP_ap, callF_ap, callP_ap, ownAt0_ap, itemsD_lst, itemsD_tup, chM_ap, slM_ap, noM_ap, partM_ap, bdB_ap, bdTup_ap, bdList_cons, bdList_nil, List.length_cons, List.length_nil, List.set_cons_succ, List.set_cons_zero, List.getElem?_cons_zero, List.getElem?_cons_succ, List.map_cons, List.map_nil, List.cons_append, List.nil_append, List.replicate, Nat.zero_add, Nat.reduceAdd, Nat.reduceSub, Nat.reduceLT, Nat.reduceLeDiff, Nat.reduceEqDiff, if_true, if_false, reduceIte, Bool.false_eq_true, NxS_nx, NxS_ct, RetF_ret, RetP_ret, imm, Bool.not_true, Bool.not_false, c1, c2, m_group_of_3]
  generalize hL : loopM _ _ _ _ = r
  obtain ⟨e', rfl, d2, rfl⟩ := for_rg hL (n := ts.length) (fun _ e => ∃ (d2 : Option (Bool × D)), e = [some (false, .int (n : Nat)), some (false, .lst (ts.map tupN)), d2])
    (by simp only [lstM_ap, tupM_ap, le_size, seqM_ap, nxM_ap, brM_ap, ctM_ap, retM_ap, retNM_ap, ifS_ap, asgF_ap, asgO_ap, dropM_ap, frzE_ap, frzM_ap, rdM_ap, vrM_ap, cM_ap, nilM_ap, consM_ap, consTM_ap, consNM_ap, opM_ap, tstM_ap, andM_ap, orM_ap, notM_ap, ifM_ap, andVM_ap, orVM_ap, notVM_ap, immM_ap, imM_ap, ixT_ap, yesM_ap, mutM_ap, mvM_ap, clF_ap, clT_ap, bdName_ap, itemsM_ap, asgG_ap, envF_ap, envP_ap, callF_ap, callP_ap, ownAt0_ap, itemsD_lst, itemsD_tup, chM_ap, slM_ap, noM_ap, partM_ap, bdB_ap, bdTup_ap, bdList_cons, bdList_nil, List.length_cons, List.length_nil, List.set_cons_succ, List.set_cons_zero, List.getElem?_cons_zero, List.getElem?_cons_succ, List.map_cons, List.map_nil, List.cons_append, List.nil_append, List.replicate, Nat.zero_add, Nat.reduceAdd, Nat.reduceSub, Nat.reduceLT, Nat.reduceLeDiff, Nat.reduceEqDiff, if_true, if_false, reduceIte, Bool.false_eq_true, NxS_nx, NxS_ct, RetF_ret, RetP_ret, imm, Bool.not_true, Bool.not_false, hlen]) (by omega) ⟨_, rfl⟩ (by
    rintro i hi e ⟨d2, rfl⟩
    have i1 : ixF [.lst (ts.map tupN), .int (i : Nat)] = some (tupN ts[i]) := by
      rw [ixF_lst (by omega) (by rw [List.length_map]; omega), Int.toNat_natCast, List.getElem?_map, List.getElem?_eq_getElem hi]
      rfl
    simp only [lstM_ap, tupM_ap, le_size, seqM_ap, nxM_ap, brM_ap, ctM_ap, retM_ap, retNM_ap, ifS_ap, asgF_ap, asgO_ap, dropM_ap, frzE_ap, frzM_ap, rdM_ap, vrM_ap, cM_ap, nilM_ap, consM_ap, consTM_ap, consNM_ap, opM_ap, tstM_ap, andM_ap, orM_ap, notM_ap, ifM_ap, andVM_ap, orVM_ap, notVM_ap, immM_ap, imM_ap, ixT_ap, yesM_ap, mutM_ap, mvM_ap, clF_ap, clT_ap, bdName_ap, itemsM_ap, asgG_ap, envF_ap, envP_ap, callF_ap, callP_ap, ownAt0_ap, itemsD_lst, itemsD_tup, chM_ap, slM_ap, noM_ap, partM_ap, bdB_ap, bdTup_ap, bdList_cons, bdList_nil, List.length_cons, List.length_nil, List.set_cons_succ, List.set_cons_zero, List.getElem?_cons_zero, List.getElem?_cons_succ, List.map_cons, List.map_nil, List.cons_append, List.nil_append, List.replicate, Nat.zero_add, Nat.reduceAdd, Nat.reduceSub, Nat.reduceLT, Nat.reduceLeDiff, Nat.reduceEqDiff, if_true, if_false, reduceIte, Bool.false_eq_true, NxS_nx, NxS_ct, RetF_ret, RetP_ret, imm, Bool.not_true, Bool.not_false, m_group_of_4, i1, is_turn_ok (ht _ (List.getElem_mem hi)) (show n < 64 by omega)]
    exact ⟨_, rfl⟩)
  have htup : tupleF [.lst (G'.map tupN)] = some (.tup (G'.map tupN)) := rfl
  simp only [lstM_ap, tupM_ap, le_size, seqM_ap, nxM_ap, brM_ap, ctM_ap, retM_ap, retNM_ap, ifS_ap, asgF_ap, asgO_ap, dropM_ap, frzE_ap, frzM_ap, rdM_ap, vrM_ap, cM_ap, nilM_ap, consM_ap, consTM_ap, consNM_ap, opM_ap, tstM_ap, andM_ap, orM_ap, notM_ap, ifM_ap, andVM_ap, orVM_ap, notVM_ap, immM_ap, imM_ap, ixT_ap, yesM_ap, mutM_ap, mvM_ap, clF_ap, clT_ap, bdName_ap, itemsM_ap, asgG_ap, envF_ap, envP_ap, callF_ap, callP_ap, ownAt0_ap, itemsD_lst, itemsD_tup, chM_ap, slM_ap, noM_ap, partM_ap, bdB_ap, bdTup_ap, bdList_cons, bdList_nil, List.length_cons, List.length_nil, List.set_cons_succ, List.set_cons_zero, List.getElem?_cons_zero, List.getElem?_cons_succ, List.map_cons, List.map_nil, List.cons_append, List.nil_append, List.replicate, Nat.zero_add, Nat.reduceAdd, Nat.reduceSub, Nat.reduceLT, Nat.reduceLeDiff, Nat.reduceEqDiff, if_true, if_false, reduceIte, Bool.false_eq_true, NxS_nx, NxS_ct, RetF_ret, RetP_ret, imm, Bool.not_true, Bool.not_false, m_group_of_6, e1, hlist, hsort, htup]
  refine ⟨G', rfl, TG', by unfold SrtN; rw [← e]; exact sortT_srt _, ?_⟩
  rw [p.length_eq]
  exact len_of_sub TF.nd fun x hx => key x ((hm x).mp hx)
end MM

set_option Elab.async false
set_option linter.all false
set_option maxRecDepth 100000
set_option maxHeartbeats 4000000
noncomputable section
namespace MM
open PySem PySem.Spec PyProof.Rows L2

/-! ### what can be shown, by its depth, its leaves' length and its bulk -/
def LowS (p : PyData) : Prop := ∀ k, 128 ≤ k → k ∉ p.shown.cps.toList
theorem lowS_int (i : Int) : LowS (.int i) := fun k hk => PyProof.Rows.shown_int_free' ⟨by omega, by omega⟩ i
theorem lowS_join {xs : List PyData} (h : ∀ x ∈ xs, LowS x) {k : Nat} (hk : 128 ≤ k) : k ∉ (Str.join ", " (PyData.shownAll xs)).cps.toList := by
  rw [PyProof.Rows.mem_join, PyProof.Rows.signs_sep]
  rintro (⟨t, ht, hc⟩ | ⟨_, hc⟩)
  · exact PyProof.Rows.shownAll_free (fun x hx => h x hx k hk) t ht hc
  · rcases List.mem_cons.mp hc with z | z
    · omega
    · rw [List.mem_singleton] at z; omega
theorem lowS_list {xs : List PyData} (h : ∀ x ∈ xs, LowS x) : LowS (.list xs) := fun k hk => by
  rw [PyData.shown_list, PyProof.Rows.mem_cps_append, PyProof.Rows.mem_cps_append, PyProof.Rows.signs_lbrack, PyProof.Rows.signs_rbrack]
  rintro ((z | z) | z)
  · rw [List.mem_singleton] at z; omega
  · exact lowS_join h hk z
  · rw [List.mem_singleton] at z; omega
theorem lowS_tuple {xs : List PyData} (h : ∀ x ∈ xs, LowS x) : LowS (.tuple xs) := fun k hk => by
  rw [PyData.shown_tuple, PyProof.Rows.mem_cps_append, PyProof.Rows.mem_cps_append, PyProof.Rows.signs_lparen]
  rintro ((z | z) | z)
  · rw [List.mem_singleton] at z; omega
  · exact lowS_join h hk z
  · have e1 : ((",)" : String) : Str).cps.toList = [44, 41] := by decide
    have e2 : ((")" : String) : Str).cps.toList = [41] := by decide
    split at z
    · rw [e1] at z
      rcases List.mem_cons.mp z with z | z
      · omega
      · rw [List.mem_singleton] at z; omega
    · rw [e2, List.mem_singleton] at z; omega
theorem lowS_ok {p : PyData} (h : LowS p) : PyData.strOk p.shown = true := by
  unfold PyData.strOk
  rw [Array.all_eq_true']
  intro x hx
  rw [decide_eq_true_eq]
  refine Classical.byContradiction fun hn => h x (by omega) (Array.mem_toList_iff.mpr hx)
structure ShP (c B : Nat) (p : PyData) : Prop where
  lf : PyData.leavesShort c p = true
  sh : PyData.showable p = true
  nd : PyData.hasDict p = false
  bk : PyData.bulk p ≤ B
  lw : LowS p
structure ShPL (c B : Nat) (ps : List PyData) : Prop where
  lf : PyData.leavesShortAll c ps = true
  sh : PyData.showableAll ps = true
  nd : PyData.hasDictAll ps = false
  bk : PyData.bulkAll ps ≤ ps.length * (B + 1)
  lw : ∀ p ∈ ps, LowS p
def ShD (k c B : Nat) (d : D) : Prop := ∃ p, Py k d p ∧ ShP c B p
theorem ShD.mono {k k' c B B' : Nat} {d : D} (h : ShD k c B d) (hk : k ≤ k') (hB : B ≤ B') : ShD k' c B' d := by
  obtain ⟨p, h1, h2⟩ := h
  exact ⟨p, h1.mono hk, h2.lf, h2.sh, h2.nd, Nat.le_trans h2.bk hB, h2.lw⟩
theorem shL {k c B : Nat} : ∀ {ds : List D}, (∀ d ∈ ds, ShD k c B d) → ∃ ps, PyL k ds ps ∧ ShPL c B ps ∧ ps.length = ds.length
  | [], _ => ⟨[], .nil, ⟨rfl, rfl, rfl, by simp [PyData.bulkAll], fun p hp => by cases hp⟩, rfl⟩
  | d :: ds, h => by
    obtain ⟨p, h1, h2⟩ := h d List.mem_cons_self
    obtain ⟨ps, g1, g2, g3⟩ := shL fun x hx => h x (List.mem_cons_of_mem _ hx)
    refine ⟨p :: ps, .cons h1 g1, ⟨?_, ?_, ?_, ?_, ?_⟩, by rw [List.length_cons, g3]; rfl⟩
    · rw [PyData.leavesShortAll, h2.lf, g2.lf]; rfl
    · rw [PyData.showableAll, h2.sh, g2.sh]; rfl
    · rw [PyData.hasDictAll, h2.nd, g2.nd]; rfl
    · rw [PyData.bulkAll, List.length_cons, Nat.succ_mul]
      have := h2.bk
      have := g2.bk
      omega
    · intro q hq
      rcases List.mem_cons.mp hq with rfl | hq
      · exact h2.lw
      · exact g2.lw q hq
theorem sh_lst {k c B N : Nat} {ds : List D} (h : ∀ d ∈ ds, ShD k c B d) (hl : ds.length ≤ N) : ShD (k + 1) c (N * (B + 1)) (.lst ds) := by
  obtain ⟨ps, g1, g2, g3⟩ := shL h
  refine ⟨.list ps, .lst g1, ⟨?_, ?_, ?_, ?_, lowS_list g2.lw⟩⟩
  · rw [PyData.leavesShort, g2.lf]
  · rw [PyData.showable, g2.sh]
  · rw [PyData.hasDict, g2.nd]
  · rw [PyData.bulk]
    exact Nat.le_trans g2.bk (Nat.mul_le_mul_right _ (by omega))
theorem sh_tup {k c B N : Nat} {ds : List D} (h : ∀ d ∈ ds, ShD k c B d) (hl : ds.length ≤ N) : ShD (k + 1) c (N * (B + 1)) (.tup ds) := by
  obtain ⟨ps, g1, g2, g3⟩ := shL h
  refine ⟨.tuple ps, .tup g1, ⟨?_, ?_, ?_, ?_, lowS_tuple g2.lw⟩⟩
  · rw [PyData.leavesShort, g2.lf]
  · rw [PyData.showable, g2.sh]
  · rw [PyData.hasDict, g2.nd]
  · rw [PyData.bulk]
    exact Nat.le_trans g2.bk (Nat.mul_le_mul_right _ (by omega))
theorem short_nat : ∀ x, x < 1024 → (PyData.shown (.int (x : Nat))).length ≤ 8 := by decide +kernel
theorem sh_nat {x : Nat} (hx : x < 1024) : ShD 0 8 0 (.int (x : Nat)) := by
  have hlog : ((x : Nat) : Int).natAbs.log2 < 1920 := by
    have : x.log2 < 11 := by
      by_cases z : x = 0
      · subst z; decide
      · exact (Nat.log2_lt z).mpr (by omega)
    simpa using Nat.lt_of_lt_of_le this (by omega)
  refine ⟨.int (x : Nat), .int _, ⟨?_, ?_, ?_, ?_, lowS_int _⟩⟩
  · rw [PyData.leavesShort, decide_eq_true (short_nat x hx)]
  · rw [PyData.showable, decide_eq_true hlog]
  · rw [PyData.hasDict]
  · rw [PyData.bulk]; exact Nat.le_refl _
theorem sh_ints {l : List Nat} (h : ∀ x ∈ l, x < 1024) : ∀ d ∈ ofN l, ShD 0 8 0 d := fun d hd => by
  obtain ⟨x, hx, rfl⟩ := List.mem_map.mp hd
  exact sh_nat (h x hx)
theorem sh_lstN {l : List Nat} {N : Nat} (h : ∀ x ∈ l, x < 1024) (hl : l.length ≤ N) : ShD 1 8 N (lstN l) :=
  (sh_lst (sh_ints h) (by rw [ofN_length]; exact hl)).mono (Nat.le_refl _) (by omega)
theorem sh_tupN {l : List Nat} {N : Nat} (h : ∀ x ∈ l, x < 1024) (hl : l.length ≤ N) : ShD 1 8 N (tupN l) :=
  (sh_tup (sh_ints h) (by rw [ofN_length]; exact hl)).mono (Nat.le_refl _) (by omega)
theorem sh_rowD {k : Nat} {f : Nat → Nat} (h : ∀ x, x < k → f x < 1024) : ShD 1 8 k (rowD k f) :=
  sh_lstN (fun x hx => by
    obtain ⟨y, hy, rfl⟩ := List.mem_map.mp hx
    exact h y (List.mem_range.mp hy)) (by rw [List.length_map, List.length_range]; exact Nat.le_refl _)
theorem sh_dH {n : Nat} {m : Nat → Nat → Nat} (hc : ∀ a b, a < n → b < n → m a b < n) (hn : n ≤ 60) : ShD 2 8 3660 (dH n m) := by
  have : dH n m = .lst ((List.range n).map fun a => rowD n (m a)) := rfl
  rw [this]
  refine (sh_lst (k := 1) (c := 8) (B := 60) (N := 60) (fun d hd => ?_) (by rw [List.length_map, List.length_range]; exact hn)).mono (Nat.le_refl _) (by omega)
  obtain ⟨a, ha, rfl⟩ := List.mem_map.mp hd
  exact (sh_rowD fun x hx => by have := hc a x (List.mem_range.mp ha) hx; omega).mono (Nat.le_refl _) hn
theorem sh_rows {n k : Nat} {a : Nat → Nat → Nat} (h : ∀ x g, x < k → g < n → a x g < 1024) (hn : n ≤ 60) {K : Nat} (hk : k ≤ K) : ShD 2 8 (60 * (K + 1)) (.lst ((List.range n).map fun g => rowD k fun x => a x g)) := by
  refine sh_lst (fun d hd => ?_) (by rw [List.length_map, List.length_range]; exact hn)
  obtain ⟨g, hg, rfl⟩ := List.mem_map.mp hd
  exact (sh_rowD fun x hx => h x g hx (List.mem_range.mp hg)).mono (Nat.le_refl _) hk
theorem sh_parts {R : List (List Nat)} {N : Nat} (hR : R.length ≤ N) (hl : ∀ l ∈ R, l.length ≤ 60 ∧ ∀ x ∈ l, x < 1024) : ShD 2 8 (N * 61) (.lst (R.map tupN)) := by
  refine sh_lst (fun d hd => ?_) (by rw [List.length_map]; exact hR)
  obtain ⟨l, h, rfl⟩ := List.mem_map.mp hd
  exact sh_tupN (hl l h).2 (hl l h).1
theorem sh_two {k c B : Nat} {a b : D} (ha : ShD k c B a) (hb : ShD k c B b) : ShD (k + 1) c (2 * (B + 1)) (.tup [a, b]) :=
  sh_tup (fun d hd => by
    rcases List.mem_cons.mp hd with rfl | hd
    · exact ha
    · rw [List.mem_singleton.mp hd]; exact hb) (Nat.le_refl _)
theorem sh_twoL {k c B : Nat} {a b : D} (ha : ShD k c B a) (hb : ShD k c B b) : ShD (k + 1) c (2 * (B + 1)) (.lst [a, b]) :=
  sh_lst (fun d hd => by
    rcases List.mem_cons.mp hd with rfl | hd
    · exact ha
    · rw [List.mem_singleton.mp hd]; exact hb) (Nat.le_refl _)
theorem showL {k c B : Nat} {ds : List D} (h : ShD k c B (.lst ds)) (hk : k ≤ 30) (hc : 8 ≤ c) (hB : (c + 2) * B + c ≤ 16000000) : ∃ z, reprF [.lst ds] = some (.str z) ∧ PyData.strOk z = true := by
  obtain ⟨p, h1, h2⟩ := h
  have hs := PyData.shown_le_bulk c hc p h2.lf
  have hb : (c + 2) * p.bulk ≤ (c + 2) * B := Nat.mul_le_mul_left _ h2.bk
  have ok : ShowOk p := ⟨h2.sh, h2.nd, by have := h1.dep; omega, by rw [sizeLine_eq]; omega⟩
  have ht := h1.to
  simp only [toPy] at ht
  unfold reprF
  dsimp only
  cases e : toPyL ds with
  | none => rw [e] at ht; cases ht
  | some qs =>
    rw [e] at ht
    cases ht
    dsimp only
    rw [if_pos ok]
    exact ⟨_, rfl, lowS_ok h2.lw⟩
theorem showT {k c B : Nat} {ds : List D} (h : ShD k c B (.tup ds)) (hk : k ≤ 30) (hc : 8 ≤ c) (hB : (c + 2) * B + c ≤ 16000000) : ∃ z, reprF [.tup ds] = some (.str z) ∧ PyData.strOk z = true := by
  obtain ⟨p, h1, h2⟩ := h
  have hs := PyData.shown_le_bulk c hc p h2.lf
  have hb : (c + 2) * p.bulk ≤ (c + 2) * B := Nat.mul_le_mul_left _ h2.bk
  have ok : ShowOk p := ⟨h2.sh, h2.nd, by have := h1.dep; omega, by rw [sizeLine_eq]; omega⟩
  have ht := h1.to
  simp only [toPy] at ht
  unfold reprF
  dsimp only
  cases e : toPyL ds with
  | none => rw [e] at ht; cases ht
  | some qs =>
    rw [e] at ht
    cases ht
    dsimp only
    rw [if_pos ok]
    exact ⟨_, rfl, lowS_ok h2.lw⟩
theorem ne_str {z : Str} (hz : PyData.strOk z = true) : neF [.str z, .str z] = some (.bl false) := by
  have h : Py 0 (.str z) (.str z) := ⟨by simp only [toPy], by simp only [PyData.canLay0, hz], by simp only [PyData.depth]; omega⟩
  rw [neF_ap, eqP_refl h]
  rfl
theorem eq_str {z : Str} (hz : PyData.strOk z = true) : eqF [.str z, .str z] = some (.bl true) := by
  have h : Py 0 (.str z) (.str z) := ⟨by simp only [toPy], by simp only [PyData.canLay0, hz], by simp only [PyData.depth]; omega⟩
  rw [eqF_ap, eqP_refl h]
  rfl
end MM

set_option Elab.async false
set_option linter.all false
set_option maxRecDepth 100000
set_option maxHeartbeats 8000000
noncomputable section
namespace MM
open PySem PySem.Spec PyProof.Rows L2

/-! ### any plain thing, and lists with a dict, shown -/
structure PyS (k B : Nat) (p : PyData) : Prop where
  lf : p.leavesShort 40 = true
  sh : p.showable = true
  dp : p.depth ≤ k
  bk : p.bulk ≤ B
  lw : LowS p
def ShO (k B : Nat) (d : D) : Prop := ∃ p, toPy d = some p ∧ p.hasDict = false ∧ PyS k B p
def ShE (k B : Nat) (d : D) : Prop := ∃ p, elZ d = some p ∧ PyS k B p
theorem PyS.mono {k B k' B' : Nat} {p : PyData} (h : PyS k B p) (hk : k ≤ k') (hB : B ≤ B') : PyS k' B' p := ⟨h.lf, h.sh, Nat.le_trans h.dp hk, Nat.le_trans h.bk hB, h.lw⟩
theorem ShO.mono {k B k' B' : Nat} {d : D} (h : ShO k B d) (hk : k ≤ k') (hB : B ≤ B') : ShO k' B' d := by
  obtain ⟨p, h1, h2, h3⟩ := h
  exact ⟨p, h1, h2, h3.mono hk hB⟩
theorem elP_of {d : D} {p : PyData} (h1 : toPy d = some p) (h2 : p.hasDict = false) : elP d = some p := by
  cases d with
  | dK kvs => simp [toPy] at h1
  | _ => simp only [elP, h1, h2, if_true]
theorem elQ_of {d : D} {p : PyData} (h : elP d = some p) : elQ d = some p := by unfold elQ; rw [h]
theorem ShO.e {k B : Nat} {d : D} (h : ShO k B d) : ShE k B d := by
  obtain ⟨p, h1, h2, h3⟩ := h
  exact ⟨p, by unfold elZ; rw [elP_of h1 h2], h3⟩
theorem pys_all {k B : Nat} : ∀ {ps : List PyData}, (∀ p ∈ ps, PyS k B p) → PyData.leavesShortAll 40 ps = true ∧ PyData.showableAll ps = true ∧ PyData.depthAll ps ≤ k ∧ PyData.bulkAll ps ≤ ps.length * (B + 1)
  | [], _ => ⟨rfl, rfl, by simp only [PyData.depthAll]; omega, by simp [PyData.bulkAll]⟩
  | p :: ps, h => by
    have h1 := h p List.mem_cons_self
    obtain ⟨g1, g2, g3, g4⟩ := pys_all fun q hq => h q (List.mem_cons_of_mem _ hq)
    refine ⟨?_, ?_, ?_, ?_⟩
    · rw [PyData.leavesShortAll, h1.lf, g1]; rfl
    · rw [PyData.showableAll, h1.sh, g2]; rfl
    · simp only [PyData.depthAll]
      have := h1.dp
      omega
    · rw [PyData.bulkAll, List.length_cons, Nat.succ_mul]
      have := h1.bk
      omega
theorem pys_list {k B N : Nat} {ps : List PyData} (h : ∀ p ∈ ps, PyS k B p) (hl : ps.length ≤ N) : PyS (k + 1) (N * (B + 1)) (.list ps) := by
  obtain ⟨g1, g2, g3, g4⟩ := pys_all h
  refine ⟨by rw [PyData.leavesShort, g1], by rw [PyData.showable, g2], by simp only [PyData.depth]; omega, ?_, lowS_list fun p hp => (h p hp).lw⟩
  rw [PyData.bulk]
  exact Nat.le_trans g4 (Nat.mul_le_mul_right _ hl)
theorem pys_tup {k B N : Nat} {ps : List PyData} (h : ∀ p ∈ ps, PyS k B p) (hl : ps.length ≤ N) : PyS (k + 1) (N * (B + 1)) (.tuple ps) := by
  obtain ⟨g1, g2, g3, g4⟩ := pys_all h
  refine ⟨by rw [PyData.leavesShort, g1], by rw [PyData.showable, g2], by simp only [PyData.depth]; omega, ?_, lowS_tuple fun p hp => (h p hp).lw⟩
  rw [PyData.bulk]
  exact Nat.le_trans g4 (Nat.mul_le_mul_right _ hl)
theorem sho_all {k B : Nat} : ∀ {ds : List D}, (∀ d ∈ ds, ShO k B d) → ∃ ps, toPyL ds = some ps ∧ PyData.hasDictAll ps = false ∧ (∀ p ∈ ps, PyS k B p) ∧ ps.length = ds.length
  | [], _ => ⟨[], by simp only [toPyL], rfl, (fun p hp => by cases hp), rfl⟩
  | d :: ds, h => by
    obtain ⟨p, h1, h2, h3⟩ := h d List.mem_cons_self
    obtain ⟨ps, g1, g2, g3, g4⟩ := sho_all fun x hx => h x (List.mem_cons_of_mem _ hx)
    refine ⟨p :: ps, by simp only [toPyL, h1, g1], by rw [PyData.hasDictAll, h2, g2]; rfl, fun q hq => ?_, by rw [List.length_cons, g4]; rfl⟩
    rcases List.mem_cons.mp hq with rfl | hq
    · exact h3
    · exact g3 q hq
theorem sho_lst {k B N : Nat} {ds : List D} (h : ∀ d ∈ ds, ShO k B d) (hl : ds.length ≤ N) : ShO (k + 1) (N * (B + 1)) (.lst ds) := by
  obtain ⟨ps, g1, g2, g3, g4⟩ := sho_all h
  exact ⟨.list ps, by simp only [toPy, g1, Option.map_some], by rw [PyData.hasDict, g2], pys_list g3 (by omega)⟩
theorem sho_tup {k B N : Nat} {ds : List D} (h : ∀ d ∈ ds, ShO k B d) (hl : ds.length ≤ N) : ShO (k + 1) (N * (B + 1)) (.tup ds) := by
  obtain ⟨ps, g1, g2, g3, g4⟩ := sho_all h
  exact ⟨.tuple ps, by simp only [toPy, g1, Option.map_some], by rw [PyData.hasDict, g2], pys_tup g3 (by omega)⟩
theorem toPyL_none : ∀ {ds : List D}, (∃ d ∈ ds, toPy d = none) → toPyL ds = none
  | [], h => by obtain ⟨d, hd, _⟩ := h; cases hd
  | d :: ds, h => by
    obtain ⟨x, hx, h0⟩ := h
    cases e1 : toPy d with
    | none => simp only [toPyL, e1]
    | some p =>
      rcases List.mem_cons.mp hx with rfl | hx
      · rw [e1] at h0; cases h0
      · have := toPyL_none ⟨x, hx, h0⟩
        simp only [toPyL, e1, this]
theorem elQs_all {k B : Nat} : ∀ {ds : List D}, (∀ d ∈ ds, ∃ p, elP d = some p ∧ PyS k B p) → ∃ ps, elQs ds = some ps ∧ (∀ p ∈ ps, PyS k B p) ∧ ps.length = ds.length
  | [], _ => ⟨[], rfl, (fun p hp => by cases hp), rfl⟩
  | d :: ds, h => by
    obtain ⟨p, h1, h3⟩ := h d List.mem_cons_self
    obtain ⟨ps, g1, g3, g4⟩ := elQs_all fun x hx => h x (List.mem_cons_of_mem _ hx)
    refine ⟨p :: ps, by simp only [elQs, elQ_of h1, g1], fun q hq => ?_, by rw [List.length_cons, g4]; rfl⟩
    rcases List.mem_cons.mp hq with rfl | hq
    · exact h3
    · exact g3 q hq
theorem pys_dec {k B : Nat} {p : PyData} (h2 : p.leavesShort 40 = true) (h3 : p.showable = true) (h4 : p.depth ≤ k) (h5 : p.bulk ≤ B) (h6 : p.shown.cps.toList.all (fun c => decide (c < 128)) = true) : PyS k B p := ⟨h2, h3, h4, h5, fun k hk hm => by
  have := List.all_eq_true.mp h6 k hm
  rw [decide_eq_true_eq] at this
  omega⟩
theorem she_dict {k B : Nat} (hk : 1 ≤ k) : ShE k B (.dK []) := ⟨.dict [], rfl, pys_dec (by decide +kernel) (by decide +kernel) (Nat.le_trans (by decide +kernel) hk) (Nat.le_trans (by decide +kernel) (Nat.zero_le _)) (by decide +kernel)⟩
/-- a list with an empty dict in it -/
theorem she_lst {k B N : Nat} (hk : 1 ≤ k) {ds : List D} (h : ∀ d ∈ ds, d = .dK [] ∨ ShO k B d) (hl : ds.length ≤ N) : ShE (k + 1) (N * (B + 1)) (.lst ds) := by
  by_cases c : ∃ d ∈ ds, d = .dK []
  · obtain ⟨d, hd, rfl⟩ := c
    obtain ⟨ps, g1, g3, g4⟩ := elQs_all (k := k) (B := B) (ds := ds) fun d hd => by
      rcases h d hd with rfl | ⟨p, h1, h2, h3⟩
      · exact ⟨.dict [], rfl, pys_dec (by decide +kernel) (by decide +kernel) (Nat.le_trans (by decide +kernel) hk) (Nat.le_trans (by decide +kernel) (Nat.zero_le _)) (by decide +kernel)⟩
      · exact ⟨p, elP_of h1 h2, h3⟩
    have hn : toPyL ds = none := toPyL_none ⟨_, hd, by simp [toPy]⟩
    exact ⟨.list ps, by simp only [elZ, elP, toPy, hn, g1, Option.map_none], pys_list g3 (by omega)⟩
  · exact (sho_lst (fun d hd => (h d hd).resolve_left fun z => c ⟨d, hd, z⟩) hl).e
theorem sho_int {i : Int} (h : i.natAbs < 10 ^ 31) : ShO 0 0 (.int i) := by
  have e := int_text_length_le10 (a := i) (k := 31) (by omega) h
  have hs : (PyData.shown (.int i)).length ≤ 40 := by
    show (Str.ofString (toString i)).length ≤ 40
    rw [PySem.ofString_length]
    omega
  have hlog : i.natAbs.log2 < 1920 := by
    by_cases z : i.natAbs = 0
    · rw [z]; decide
    · exact (Nat.log2_lt z).mpr (Nat.lt_trans h (Nat.lt_of_lt_of_le (show 10 ^ 31 < 2 ^ 120 by decide) (Nat.pow_le_pow_right (by omega) (by omega))))
  refine ⟨.int i, by simp only [toPy], rfl, by rw [PyData.leavesShort, decide_eq_true hs], by rw [PyData.showable]; exact decide_eq_true hlog, by simp only [PyData.depth]; omega, by rw [PyData.bulk]; omega, lowS_int i⟩
theorem sho_nat {x : Nat} (h : x < 1000000) : ShO 0 0 (.int (x : Nat)) := sho_int (by
  rw [Int.natAbs_natCast]
  omega)
theorem sho_non : ShO 0 0 .non := ⟨.none, by simp only [toPy], rfl, pys_dec (by decide +kernel) (by decide +kernel) (by decide +kernel) (by decide +kernel) (by decide +kernel)⟩
theorem sho_bl : ∀ b, ShO 0 0 (.bl b)
  | true => ⟨.bool true, by simp only [toPy], rfl, pys_dec (by decide +kernel) (by decide +kernel) (by decide +kernel) (by decide +kernel) (by decide +kernel)⟩
  | false => ⟨.bool false, by simp only [toPy], rfl, pys_dec (by decide +kernel) (by decide +kernel) (by decide +kernel) (by decide +kernel) (by decide +kernel)⟩
def okT (z : Str) : Bool := z.cps.toList.all (fun c => decide (32 ≤ c) && decide (c ≤ 126)) && decide (z.length ≤ 40) && (PyData.shown (.str z)).cps.toList.all fun c => decide (c < 128)
theorem sho_str {z : Str} (h : okT z = true) : ShO 0 40 (.str z) := by
  unfold okT at h
  simp only [Bool.and_eq_true, decide_eq_true_eq] at h
  obtain ⟨⟨h1, h2⟩, h5⟩ := h
  refine ⟨.str z, by simp only [toPy], by rw [PyData.hasDict], pys_dec ?_ (by rw [PyData.showable]) (by simp only [PyData.depth]; omega) (by rw [PyData.bulk]; exact h2) h5⟩
  rw [PyData.leavesShort, List.all_eq_true]
  intro c hc
  have := List.all_eq_true.mp h1 c hc
  simp only [Bool.and_eq_true, decide_eq_true_eq] at this
  rw [decide_eq_true_eq]
  omega
theorem okT_nat : ∀ x, x < 128 → okT (PyData.shown (.int (x : Nat))) = true := by decide +kernel
theorem showZ {k B : Nat} {d : D} (h : ShE k B d) (hk : k ≤ 60) (hB : 42 * B + 40 ≤ 16000000) : ∃ z, reprZF [d] = some (.str z) ∧ PyData.strOk z = true := by
  obtain ⟨p, h1, h2⟩ := h
  have hs := PyData.shown_le_bulk 40 (by omega) p h2.lf
  have hb : (40 + 2) * p.bulk ≤ (40 + 2) * B := Nat.mul_le_mul_left _ h2.bk
  have ok : ShowX p := ⟨h2.sh, by have := h2.dp; omega, by rw [sizeLine_eq]; omega⟩
  unfold reprZF
  simp only [h1, ok, if_true]
  exact ⟨_, rfl, lowS_ok h2.lw⟩
theorem sho_ofN {l : List Nat} (h : ∀ x ∈ l, x < 1000000) : ∀ d ∈ ofN l, ShO 0 0 d := fun d hd => by
  obtain ⟨x, hx, rfl⟩ := List.mem_map.mp hd
  exact sho_nat (h x hx)
theorem sho_rowD {k : Nat} {f : Nat → Nat} (h : ∀ x, x < k → f x < 1000000) {N : Nat} (hN : k ≤ N) : ShO 1 N (rowD k f) := by
  unfold rowD lstN
  refine (sho_lst (N := N) (sho_ofN fun x hx => ?_) (by simp [ofN]; exact hN)).mono (Nat.le_refl _) (by omega)
  obtain ⟨y, hy, rfl⟩ := List.mem_map.mp hx
  exact h y (List.mem_range.mp hy)
end MM

set_option Elab.async false
set_option linter.all false
set_option maxRecDepth 100000
set_option maxHeartbeats 8000000
noncomputable section
namespace MM
open PySem PySem.Spec PyProof.Rows L2

/-! ### what is no turn -/
/-- a plain thing that may be asked whether it is whole -/
def Pl : D → Prop
  | .int _ | .bl _ | .str _ | .non | .tup _ | .lst _ => True
  | _ => False
def wh : D → Bool
  | .int _ => true
  | _ => false
theorem whole_ok {d : D} (h : Pl d) : f_is_whole [d] = .ret (.bl (wh d)) := by
  unfold f_is_whole m_is_whole
  cases d with
  | int i =>
    have i1 : isiF .int [.int i, .opq (.ty "int")] = some (.bl true) := rfl
    have i2 : isiF .bool [.int i, .opq (.ty "bool")] = some (.bl false) := rfl
    simp only [lstM_ap, tupM_ap, le_size, seqM_ap, nxM_ap, brM_ap, ctM_ap, retM_ap, retNM_ap, ifS_ap, asgF_ap, asgO_ap, dropM_ap, frzE_ap, frzM_ap, rdM_ap, vrM_ap, cM_ap, nilM_ap, consM_ap, consTM_ap, consNM_ap, opM_ap, tstM_ap, andM_ap, orM_ap, notM_ap, ifM_ap, andVM_ap, orVM_ap, notVM_ap, immM_ap, imM_ap, ixT_ap, yesM_ap, mutM_ap, mvM_ap, clF_ap, clT_ap, bdName_ap, itemsM_ap, asgG_ap, envF_ap, envP_ap, callF_ap, callP_ap, ownAt0_ap, itemsD_lst, itemsD_tup, chM_ap, slM_ap, noM_ap, partM_ap, bdB_ap, bdTup_ap, bdList_cons, bdList_nil, List.length_cons, List.length_nil, List.set_cons_succ, List.set_cons_zero, List.getElem?_cons_zero, List.getElem?_cons_succ, List.map_cons, List.map_nil, List.cons_append, List.nil_append, List.replicate, Nat.zero_add, Nat.reduceAdd, Nat.reduceSub, Nat.reduceLT, Nat.reduceLeDiff, Nat.reduceEqDiff, if_true, if_false, reduceIte, Bool.false_eq_true, NxS_nx, NxS_ct, RetF_ret, RetP_ret, imm, Bool.not_true, Bool.not_false, i1, i2]
    rfl
  | bl b =>
    have i1 : isiF .int [.bl b, .opq (.ty "int")] = some (.bl true) := rfl
    have i2 : isiF .bool [.bl b, .opq (.ty "bool")] = some (.bl true) := rfl
    simp only [lstM_ap, tupM_ap, le_size, seqM_ap, nxM_ap, brM_ap, ctM_ap, retM_ap, retNM_ap, ifS_ap, asgF_ap, asgO_ap, dropM_ap, frzE_ap, frzM_ap, rdM_ap, vrM_ap, cM_ap, nilM_ap, consM_ap, consTM_ap, consNM_ap, opM_ap, tstM_ap, andM_ap, orM_ap, notM_ap, ifM_ap, andVM_ap, orVM_ap, notVM_ap, immM_ap, imM_ap, ixT_ap, yesM_ap, mutM_ap, mvM_ap, clF_ap, clT_ap, bdName_ap, itemsM_ap, asgG_ap, envF_ap, envP_ap, callF_ap, callP_ap, ownAt0_ap, itemsD_lst, itemsD_tup, chM_ap, slM_ap, noM_ap, partM_ap, bdB_ap, bdTup_ap, bdList_cons, bdList_nil, List.length_cons, List.length_nil, List.set_cons_succ, List.set_cons_zero, List.getElem?_cons_zero, List.getElem?_cons_succ, List.map_cons, List.map_nil, List.cons_append, List.nil_append, List.replicate, Nat.zero_add, Nat.reduceAdd, Nat.reduceSub, Nat.reduceLT, Nat.reduceLeDiff, Nat.reduceEqDiff, if_true, if_false, reduceIte, Bool.false_eq_true, NxS_nx, NxS_ct, RetF_ret, RetP_ret, imm, Bool.not_true, Bool.not_false, i1, i2]
    rfl
  | str x =>
    have i1 : isiF .int [.str x, .opq (.ty "int")] = some (.bl false) := rfl
    simp only [lstM_ap, tupM_ap, le_size, seqM_ap, nxM_ap, brM_ap, ctM_ap, retM_ap, retNM_ap, ifS_ap, asgF_ap, asgO_ap, dropM_ap, frzE_ap, frzM_ap, rdM_ap, vrM_ap, cM_ap, nilM_ap, consM_ap, consTM_ap, consNM_ap, opM_ap, tstM_ap, andM_ap, orM_ap, notM_ap, ifM_ap, andVM_ap, orVM_ap, notVM_ap, immM_ap, imM_ap, ixT_ap, yesM_ap, mutM_ap, mvM_ap, clF_ap, clT_ap, bdName_ap, itemsM_ap, asgG_ap, envF_ap, envP_ap, callF_ap, callP_ap, ownAt0_ap, itemsD_lst, itemsD_tup, chM_ap, slM_ap, noM_ap, partM_ap, bdB_ap, bdTup_ap, bdList_cons, bdList_nil, List.length_cons, List.length_nil, List.set_cons_succ, List.set_cons_zero, List.getElem?_cons_zero, List.getElem?_cons_succ, List.map_cons, List.map_nil, List.cons_append, List.nil_append, List.replicate, Nat.zero_add, Nat.reduceAdd, Nat.reduceSub, Nat.reduceLT, Nat.reduceLeDiff, Nat.reduceEqDiff, if_true, if_false, reduceIte, Bool.false_eq_true, NxS_nx, NxS_ct, RetF_ret, RetP_ret, imm, Bool.not_true, Bool.not_false, i1]
    rfl
  | non =>
    have i1 : isiF .int [.non, .opq (.ty "int")] = some (.bl false) := rfl
    simp only [lstM_ap, tupM_ap, le_size, seqM_ap, nxM_ap, brM_ap, ctM_ap, retM_ap, retNM_ap, ifS_ap, asgF_ap, asgO_ap, dropM_ap, frzE_ap, frzM_ap, rdM_ap, vrM_ap, cM_ap, nilM_ap, consM_ap, consTM_ap, consNM_ap, opM_ap, tstM_ap, andM_ap, orM_ap, notM_ap, ifM_ap, andVM_ap, orVM_ap, notVM_ap, immM_ap, imM_ap, ixT_ap, yesM_ap, mutM_ap, mvM_ap, clF_ap, clT_ap, bdName_ap, itemsM_ap, asgG_ap, envF_ap, envP_ap, callF_ap, callP_ap, ownAt0_ap, itemsD_lst, itemsD_tup, chM_ap, slM_ap, noM_ap, partM_ap, bdB_ap, bdTup_ap, bdList_cons, bdList_nil, List.length_cons, List.length_nil, List.set_cons_succ, List.set_cons_zero, List.getElem?_cons_zero, List.getElem?_cons_succ, List.map_cons, List.map_nil, List.cons_append, List.nil_append, List.replicate, Nat.zero_add, Nat.reduceAdd, Nat.reduceSub, Nat.reduceLT, Nat.reduceLeDiff, Nat.reduceEqDiff, if_true, if_false, reduceIte, Bool.false_eq_true, NxS_nx, NxS_ct, RetF_ret, RetP_ret, imm, Bool.not_true, Bool.not_false, i1]
    rfl
  | tup x =>
    have i1 : isiF .int [.tup x, .opq (.ty "int")] = some (.bl false) := rfl
    simp only [lstM_ap, tupM_ap, le_size, seqM_ap, nxM_ap, brM_ap, ctM_ap, retM_ap, retNM_ap, ifS_ap, asgF_ap, asgO_ap, dropM_ap, frzE_ap, frzM_ap, rdM_ap, vrM_ap, cM_ap, nilM_ap, consM_ap, consTM_ap, consNM_ap, opM_ap, tstM_ap, andM_ap, orM_ap, notM_ap, ifM_ap, andVM_ap, orVM_ap, notVM_ap, immM_ap, imM_ap, ixT_ap, yesM_ap, mutM_ap, mvM_ap, clF_ap, clT_ap, bdName_ap, itemsM_ap, asgG_ap, envF_ap, envP_ap, callF_ap, callP_ap, ownAt0_ap, itemsD_lst, itemsD_tup, chM_ap, slM_ap, noM_ap, partM_ap, bdB_ap, bdTup_ap, bdList_cons, bdList_nil, List.length_cons, List.length_nil, List.set_cons_succ, List.set_cons_zero, List.getElem?_cons_zero, List.getElem?_cons_succ, List.map_cons, List.map_nil, List.cons_append, List.nil_append, List.replicate, Nat.zero_add, Nat.reduceAdd, Nat.reduceSub, Nat.reduceLT, Nat.reduceLeDiff, Nat.reduceEqDiff, if_true, if_false, reduceIte, Bool.false_eq_true, NxS_nx, NxS_ct, RetF_ret, RetP_ret, imm, Bool.not_true, Bool.not_false, i1]
    rfl
  | lst x =>
    have i1 : isiF .int [.lst x, .opq (.ty "int")] = some (.bl false) := rfl
    simp only [lstM_ap, tupM_ap, le_size, seqM_ap, nxM_ap, brM_ap, ctM_ap, retM_ap, retNM_ap, ifS_ap, asgF_ap, asgO_ap, dropM_ap, frzE_ap, frzM_ap, rdM_ap, vrM_ap, cM_ap, nilM_ap, consM_ap, consTM_ap, consNM_ap, opM_ap, tstM_ap, andM_ap, orM_ap, notM_ap, ifM_ap, andVM_ap, orVM_ap, notVM_ap, immM_ap, imM_ap, ixT_ap, yesM_ap, mutM_ap, mvM_ap, clF_ap, clT_ap, bdName_ap, itemsM_ap, asgG_ap, envF_ap, envP_ap, callF_ap, callP_ap, ownAt0_ap, itemsD_lst, itemsD_tup, chM_ap, slM_ap, noM_ap, partM_ap, bdB_ap, bdTup_ap, bdList_cons, bdList_nil, List.length_cons, List.length_nil, List.set_cons_succ, List.set_cons_zero, List.getElem?_cons_zero, List.getElem?_cons_succ, List.map_cons, List.map_nil, List.cons_append, List.nil_append, List.replicate, Nat.zero_add, Nat.reduceAdd, Nat.reduceSub, Nat.reduceLT, Nat.reduceLeDiff, Nat.reduceEqDiff, if_true, if_false, reduceIte, Bool.false_eq_true, NxS_nx, NxS_ct, RetF_ret, RetP_ret, imm, Bool.not_true, Bool.not_false, i1]
    rfl
  | _ => exact h.elim
/-- no tuple -/
def NoTup : D → Prop
  | .int _ | .bl _ | .str _ | .non | .lst _ | .dK _ => True
  | _ => False
theorem not_tup {n : Nat} {d : D} (h : NoTup d) : f_is_turn_of [.int (n : Nat), d] = .ret (.bl false) := by
  have h1 : isiF .tuple [d, .opq (.ty "tuple")] = some (.bl false) := by
    cases d <;> first | rfl | exact h.elim
  unfold f_is_turn_of m_is_turn_of
  simp only [lstM_ap, tupM_ap, le_size, seqM_ap, nxM_ap, brM_ap, ctM_ap, retM_ap, retNM_ap, ifS_ap, asgF_ap, asgO_ap, dropM_ap, frzE_ap, frzM_ap, rdM_ap, vrM_ap, cM_ap, nilM_ap, consM_ap, consTM_ap, consNM_ap, opM_ap, tstM_ap, andM_ap, orM_ap, notM_ap, ifM_ap, andVM_ap, orVM_ap, notVM_ap, immM_ap, imM_ap, ixT_ap, yesM_ap, mutM_ap, mvM_ap, clF_ap, clT_ap, bdName_ap, itemsM_ap, asgG_ap, envF_ap, envP_ap, callF_ap, callP_ap, ownAt0_ap, itemsD_lst, itemsD_tup, chM_ap, slM_ap, noM_ap, partM_ap, bdB_ap, bdTup_ap, bdList_cons, bdList_nil, List.length_cons, List.length_nil, List.set_cons_succ, List.set_cons_zero, List.getElem?_cons_zero, List.getElem?_cons_succ, List.map_cons, List.map_nil, List.cons_append, List.nil_append, List.replicate, Nat.zero_add, Nat.reduceAdd, Nat.reduceSub, Nat.reduceLT, Nat.reduceLeDiff, Nat.reduceEqDiff, if_true, if_false, reduceIte, Bool.false_eq_true, NxS_nx, NxS_ct, RetF_ret, RetP_ret, imm, Bool.not_true, Bool.not_false, h1]
theorem not_len {n : Nat} {ds : List D} (h : ds.length ≠ n) : f_is_turn_of [.int (n : Nat), .tup ds] = .ret (.bl false) := by
  have h1 : isiF .tuple [.tup ds, .opq (.ty "tuple")] = some (.bl true) := rfl
  have hne : neF [.int (ds.length : Nat), .int (n : Nat)] = some (.bl true) := by
    rw [neF_int, decide_eq_false (by omega)]
    rfl
  unfold f_is_turn_of m_is_turn_of
  simp only [lstM_ap, tupM_ap, le_size, seqM_ap, nxM_ap, brM_ap, ctM_ap, retM_ap, retNM_ap, ifS_ap, asgF_ap, asgO_ap, dropM_ap, frzE_ap, frzM_ap, rdM_ap, vrM_ap, cM_ap, nilM_ap, consM_ap, consTM_ap, consNM_ap, opM_ap, tstM_ap, andM_ap, orM_ap, notM_ap, ifM_ap, andVM_ap, orVM_ap, notVM_ap, immM_ap, imM_ap, ixT_ap, yesM_ap, mutM_ap, mvM_ap, clF_ap, clT_ap, bdName_ap, itemsM_ap, asgG_ap, envF_ap, envP_ap, callF_ap, callP_ap, ownAt0_ap, itemsD_lst, itemsD_tup, chM_ap, slM_ap, noM_ap, partM_ap, bdB_ap, bdTup_ap, bdList_cons, bdList_nil, List.length_cons, List.length_nil, List.set_cons_succ, List.set_cons_zero, List.getElem?_cons_zero, List.getElem?_cons_succ, List.map_cons, List.map_nil, List.cons_append, List.nil_append, List.replicate, Nat.zero_add, Nat.reduceAdd, Nat.reduceSub, Nat.reduceLT, Nat.reduceLeDiff, Nat.reduceEqDiff, if_true, if_false, reduceIte, Bool.false_eq_true, NxS_nx, NxS_ct, RetF_ret, RetP_ret, imm, Bool.not_true, Bool.not_false, h1, lenF_tup, hne]
theorem eqvAll_ints : ∀ l m : List Int, PyData.eqvAll (l.map PyData.int) (m.map PyData.int) = decide (l = m)
  | [], [] => by simp [PyData.eqvAll]
  | [], _ :: _ => by simp [PyData.eqvAll]
  | _ :: _, [] => by simp [PyData.eqvAll]
  | x :: l, y :: m => by
    have ih := eqvAll_ints l m
    show PyData.eqvAll (.int x :: l.map PyData.int) (.int y :: m.map PyData.int) = _
    simp only [PyData.eqvAll, PyData.eqv, ih]
    by_cases e : x = y
    · subst e; simp
    · simp [e]
theorem intsOf_ints : ∀ v : List Int, intsOf (v.map D.int) = some v
  | [] => rfl
  | x :: v => by
    rw [List.map_cons, intsOf, intsOf_ints v]
theorem isort_perm (v : List Int) : (isort v).Perm v := List.mergeSort_perm _ _
theorem not_turn {n : Nat} {ds : List D} (hn : n < 64) (hl : ds.length = n) (hp : ∀ d ∈ ds, Pl d) (h : (∃ d ∈ ds, wh d = false) ∨ ∃ v : List Int, ds = v.map D.int ∧ ¬ v.Perm ((List.range n).map fun (x : Nat) => (x : Int))) : f_is_turn_of [.int (n : Nat), .tup ds] = .ret (.bl false) := by
  have h1 : isiF .tuple [.tup ds, .opq (.ty "tuple")] = some (.bl true) := rfl
  have hne : neF [.int (ds.length : Nat), .int (n : Nat)] = some (.bl false) := by
    rw [neF_int, decide_eq_true (by omega)]
    rfl
  unfold f_is_turn_of m_is_turn_of
  simp only [lstM_ap, tupM_ap, le_size, seqM_ap, nxM_ap, brM_ap, ctM_ap, retM_ap, retNM_ap, ifS_ap, asgF_ap, asgO_ap, dropM_ap, frzE_ap, frzM_ap, rdM_ap, vrM_ap, cM_ap, nilM_ap, consM_ap, consTM_ap, consNM_ap, opM_ap, tstM_ap, andM_ap, orM_ap, notM_ap, ifM_ap, andVM_ap, orVM_ap, notVM_ap, immM_ap, imM_ap, ixT_ap, yesM_ap, mutM_ap, mvM_ap, clF_ap, clT_ap, bdName_ap, itemsM_ap, asgG_ap, envF_ap, envP_ap, callF_ap, callP_ap, ownAt0_ap, itemsD_lst, itemsD_tup, chM_ap, slM_ap, noM_ap, partM_ap, bdB_ap, bdTup_ap, bdList_cons, bdList_nil, List.length_cons, List.length_nil, List.set_cons_succ, List.set_cons_zero, List.getElem?_cons_zero, List.getElem?_cons_succ, List.map_cons, List.map_nil, List.cons_append, List.nil_append, List.replicate, Nat.zero_add, Nat.reduceAdd, Nat.reduceSub, Nat.reduceLT, Nat.reduceLeDiff, Nat.reduceEqDiff, if_true, if_false, reduceIte, Bool.false_eq_true, NxS_nx, NxS_ct, RetF_ret, RetP_ret, imm, Bool.not_true, Bool.not_false, h1, lenF_tup, hne]
  generalize hC : lcM _ _ _ _ _ _ = rc
  have hc := lc_on' hC ds id (fun d => D.bl (wh d)) (by simp only [lstM_ap, tupM_ap, le_size, seqM_ap, nxM_ap, brM_ap, ctM_ap, retM_ap, retNM_ap, ifS_ap, asgF_ap, asgO_ap, dropM_ap, frzE_ap, frzM_ap, rdM_ap, vrM_ap, cM_ap, nilM_ap, consM_ap, consTM_ap, consNM_ap, opM_ap, tstM_ap, andM_ap, orM_ap, notM_ap, ifM_ap, andVM_ap, orVM_ap, notVM_ap, immM_ap, imM_ap, ixT_ap, yesM_ap, mutM_ap, mvM_ap, clF_ap, clT_ap, bdName_ap, itemsM_ap, asgG_ap, envF_ap, envP_ap, callF_ap, callP_ap, ownAt0_ap, itemsD_lst, itemsD_tup, chM_ap, slM_ap, noM_ap, partM_ap, bdB_ap, bdTup_ap, bdList_cons, bdList_nil, List.length_cons, List.length_nil, List.set_cons_succ, List.set_cons_zero, List.getElem?_cons_zero, List.getElem?_cons_succ, List.map_cons, List.map_nil, List.cons_append, List.nil_append, List.replicate, Nat.zero_add, Nat.reduceAdd, Nat.reduceSub, Nat.reduceLT, Nat.reduceLeDiff, Nat.reduceEqDiff, if_true, if_false, reduceIte, Bool.false_eq_true, NxS_nx, NxS_ct, RetF_ret, RetP_ret, imm, Bool.not_true, Bool.not_false, List.map_id]) trivial (by omega) fun k hk => by
    simp only [lstM_ap, tupM_ap, le_size, seqM_ap, nxM_ap, brM_ap, ctM_ap, retM_ap, retNM_ap, ifS_ap, asgF_ap, asgO_ap, dropM_ap, frzE_ap, frzM_ap, rdM_ap, vrM_ap, cM_ap, nilM_ap, consM_ap, consTM_ap, consNM_ap, opM_ap, tstM_ap, andM_ap, orM_ap, notM_ap, ifM_ap, andVM_ap, orVM_ap, notVM_ap, immM_ap, imM_ap, ixT_ap, yesM_ap, mutM_ap, mvM_ap, clF_ap, clT_ap, bdName_ap, itemsM_ap, asgG_ap, envF_ap, envP_ap, callF_ap, callP_ap, ownAt0_ap, itemsD_lst, itemsD_tup, chM_ap, slM_ap, noM_ap, partM_ap, bdB_ap, bdTup_ap, bdList_cons, bdList_nil, List.length_cons, List.length_nil, List.set_cons_succ, List.set_cons_zero, List.getElem?_cons_zero, List.getElem?_cons_succ, List.map_cons, List.map_nil, List.cons_append, List.nil_append, List.replicate, Nat.zero_add, Nat.reduceAdd, Nat.reduceSub, Nat.reduceLT, Nat.reduceLeDiff, Nat.reduceEqDiff, if_true, if_false, reduceIte, Bool.false_eq_true, NxS_nx, NxS_ct, RetF_ret, RetP_ret, imm, Bool.not_true, Bool.not_false, id, whole_ok (hp k hk)]
  subst hc
  have hA : allF [.lst (ds.map fun d => D.bl (wh d))] = some (.bl (ds.all wh)) := allF_map wh ds
  by_cases ha : ds.all wh = true
  · rcases h with ⟨d, hd, hw⟩ | ⟨v, rfl, hv⟩
    · exact absurd (List.all_eq_true.mp ha d hd) (by rw [hw]; decide)
    · rw [List.length_map] at hl
      have hs : sortTF [.tup (v.map D.int)] = some (D.lst ((isort v).map D.int)) := by
        show (match intsOf (v.map D.int) with
          | some ns => if ns.length < 64 then some (D.lst ((isort ns).map .int)) else none
          | none => none) = _
        rw [intsOf_ints]
        dsimp only
        rw [if_pos (by omega)]
      have he : eqF [D.lst ((isort v).map D.int), lstN (List.range n)] = some (.bl false) := by
        have e2 : lstN (List.range n) = D.lst (((List.range n).map fun (x : Nat) => (x : Int)).map D.int) := by
          unfold lstN ofN
          rw [List.map_map]
          rfl
        rw [e2, eqF_ap, eqP_of (.lst (PyL.map (g := PyData.int) fun i _ => .int i)) (.lst (PyL.map (g := PyData.int) fun i _ => .int i))]
        simp only [PyData.eqv, eqvAll_ints]
        rw [decide_eq_false (show ¬ isort v = ((List.range n).map fun (x : Nat) => (x : Int)) from fun z => hv ((isort_perm v).symm.trans (by rw [z])))]
        rfl
      rw [ha] at hA
      simp only [lstM_ap, tupM_ap, le_size, seqM_ap, nxM_ap, brM_ap, ctM_ap, retM_ap, retNM_ap, ifS_ap, asgF_ap, asgO_ap, dropM_ap, frzE_ap, frzM_ap, rdM_ap, vrM_ap, cM_ap, nilM_ap, consM_ap, consTM_ap, consNM_ap, opM_ap, tstM_ap, andM_ap, orM_ap, notM_ap, ifM_ap, andVM_ap, orVM_ap, notVM_ap, immM_ap, imM_ap, ixT_ap, yesM_ap, mutM_ap, mvM_ap, clF_ap, clT_ap, bdName_ap, itemsM_ap, asgG_ap, envF_ap, envP_ap, callF_ap, callP_ap, ownAt0_ap, itemsD_lst, itemsD_tup, chM_ap, slM_ap, noM_ap, partM_ap, bdB_ap, bdTup_ap, bdList_cons, bdList_nil, List.length_cons, List.length_nil, List.set_cons_succ, List.set_cons_zero, List.getElem?_cons_zero, List.getElem?_cons_succ, List.map_cons, List.map_nil, List.cons_append, List.nil_append, List.replicate, Nat.zero_add, Nat.reduceAdd, Nat.reduceSub, Nat.reduceLT, Nat.reduceLeDiff, Nat.reduceEqDiff, if_true, if_false, reduceIte, Bool.false_eq_true, NxS_nx, NxS_ct, RetF_ret, RetP_ret, imm, Bool.not_true, Bool.not_false, hA, m_is_turn_of_3, hs, lstRg1_ok (show n < 1000000 by omega), he]
  · have ha : ds.all wh = false := by simpa using ha
    rw [ha] at hA
    simp only [lstM_ap, tupM_ap, le_size, seqM_ap, nxM_ap, brM_ap, ctM_ap, retM_ap, retNM_ap, ifS_ap, asgF_ap, asgO_ap, dropM_ap, frzE_ap, frzM_ap, rdM_ap, vrM_ap, cM_ap, nilM_ap, consM_ap, consTM_ap, consNM_ap, opM_ap, tstM_ap, andM_ap, orM_ap, notM_ap, ifM_ap, andVM_ap, orVM_ap, notVM_ap, immM_ap, imM_ap, ixT_ap, yesM_ap, mutM_ap, mvM_ap, clF_ap, clT_ap, bdName_ap, itemsM_ap, asgG_ap, envF_ap, envP_ap, callF_ap, callP_ap, ownAt0_ap, itemsD_lst, itemsD_tup, chM_ap, slM_ap, noM_ap, partM_ap, bdB_ap, bdTup_ap, bdList_cons, bdList_nil, List.length_cons, List.length_nil, List.set_cons_succ, List.set_cons_zero, List.getElem?_cons_zero, List.getElem?_cons_succ, List.map_cons, List.map_nil, List.cons_append, List.nil_append, List.replicate, Nat.zero_add, Nat.reduceAdd, Nat.reduceSub, Nat.reduceLT, Nat.reduceLeDiff, Nat.reduceEqDiff, if_true, if_false, reduceIte, Bool.false_eq_true, NxS_nx, NxS_ct, RetF_ret, RetP_ret, imm, Bool.not_true, Bool.not_false, hA]
/-! ### what the law draws of such things -/
structure Odd (n : Nat) (d : D) : Prop where
  no : f_is_turn_of [.int (n : Nat), d] = .ret (.bl false)
  sh : d = .dK [] ∨ ShO 2 2000 d
def repD (l : List Nat) (k : Nat) (d : D) : List D := (ofN l).take k ++ [d] ++ (ofN l).drop (k + 1)
theorem repD_len {l : List Nat} {k : Nat} {d : D} (h : k < l.length) : (repD l k d).length = l.length := by
  unfold repD
  rw [List.length_append, List.length_append, List.length_take, List.length_drop, ofN_length]
  simp only [List.length_cons, List.length_nil]
  omega
theorem pl_ofN {l : List Nat} {d : D} (h : d ∈ ofN l) : Pl d := by
  obtain ⟨x, _, rfl⟩ := List.mem_map.mp h
  trivial
theorem repD_pl {l : List Nat} {k : Nat} {d : D} (h : Pl d) : ∀ x ∈ repD l k d, Pl x := fun x hx => by
  unfold repD at hx
  rcases List.mem_append.mp hx with hx | hx
  · rcases List.mem_append.mp hx with hx | hx
    · exact pl_ofN (List.mem_of_mem_take hx)
    · rw [List.mem_singleton.mp hx]; exact h
  · exact pl_ofN (List.mem_of_mem_drop hx)
theorem repD_sh {n : Nat} (hn : n < 8) {l : List Nat} (T : Turn n l) {k : Nat} (hk : k < n) {d : D} (h : ShO 1 60 d) : ShO 2 2000 (.tup (repD l k d)) := by
  have hl := repD_len (d := d) (show k < l.length by rw [T.len]; exact hk)
  have hm : ∀ x ∈ ofN l, ShO 1 60 x := fun x hx => (sho_ofN (l := l) (fun y hy => by have := T.mem.mp hy; omega) x hx).mono (by omega) (by omega)
  refine (sho_tup (k := 1) (B := 60) (N := 8) (fun x hx => ?_) (by rw [hl, T.len]; omega)).mono (by omega) (by omega)
  unfold repD at hx
  rcases List.mem_append.mp hx with hx | hx
  · rcases List.mem_append.mp hx with hx | hx
    · exact hm x (List.mem_of_mem_take hx)
    · rw [List.mem_singleton.mp hx]; exact h
  · exact hm x (List.mem_of_mem_drop hx)
/-- one number otherwise: no whole number -/
theorem odd_bad {n : Nat} (hn : n < 8) {l : List Nat} (T : Turn n l) {k : Nat} (hk : k < n) {d : D} (hp : Pl d) (hw : wh d = false) (h : ShO 1 60 d) : Odd n (.tup (repD l k d)) :=
  ⟨not_turn (by omega) (by rw [repD_len (by rw [T.len]; exact hk), T.len]) (repD_pl hp) (.inl ⟨d, by unfold repD; simp, hw⟩), .inr (repD_sh hn T hk h)⟩
/-- one number otherwise: another number -/
theorem odd_int {n : Nat} (hn : n < 8) {l : List Nat} (T : Turn n l) {k : Nat} (hk : k < n) {i : Int} (hi : i ≠ (l.getD k 0 : Nat)) (h : i.natAbs < 10 ^ 31) : Odd n (.tup (repD l k (.int i))) := by
  refine ⟨not_turn (by omega) (by rw [repD_len (by rw [T.len]; exact hk), T.len]) (repD_pl trivial) (.inr ?_), .inr (repD_sh hn T hk ((sho_int h).mono (by omega) (by omega)))⟩
  obtain ⟨z, hz⟩ : ∃ z : List Int, z = l.map fun (x : Nat) => (x : Int) := ⟨_, rfl⟩
  have eN : ofN l = z.map D.int := by rw [hz, List.map_map]; rfl
  have hzl : z.length = n := by rw [hz, List.length_map, T.len]
  refine ⟨z.take k ++ [i] ++ z.drop (k + 1), ?_, fun p => hi ?_⟩
  · unfold repD
    rw [eN, List.map_append, List.map_append, List.map_take, List.map_drop]
    rfl
  · have p2 : z.Perm ((List.range n).map fun (x : Nat) => (x : Int)) := by rw [hz]; exact T.map _
    have hs : z = z.take k ++ [z[k]'(by omega)] ++ z.drop (k + 1) := by
      rw [List.append_assoc, List.singleton_append, ← List.drop_eq_getElem_cons, List.take_append_drop]
    have p3 := p.trans p2.symm
    rw [hs] at p3
    have hlk : (z.take k).length = k := by rw [List.length_take]; omega
    have p4 : ([i] ++ z.drop (k + 1)).Perm ([z[k]'(by omega)] ++ z.drop (k + 1)) := by
      have p5 := p3
      rw [List.append_assoc, List.append_assoc] at p5
      have e1 : (z.take k ++ ([z[k]'(by omega)] ++ z.drop (k + 1))).take k = z.take k := by rw [List.take_append_of_le_length (by omega), List.take_of_length_le (by omega)]
      have e2 : (z.take k ++ ([z[k]'(by omega)] ++ z.drop (k + 1))).drop (k + 1) = z.drop (k + 1) := by
        rw [← List.append_assoc, ← hs]
      rw [e1, e2] at p5
      exact (List.perm_append_left_iff _).mp p5
    have p6 := (List.perm_append_right_iff _).mp p4
    have := List.singleton_perm_singleton.mp p6
    rw [this]
    have hlk2 : k < l.length := by rw [T.len]; exact hk
    simp only [hz, List.getElem_map]
    rw [getD_lt hlk2]
end MM

set_option Elab.async false
set_option linter.all false
set_option maxRecDepth 100000
set_option maxHeartbeats 8000000
noncomputable section
namespace MM
open PySem PySem.Spec PyProof.Rows L2

/-! ### texts of plain signs -/
def Od (k : Nat) : Prop := k < 32 ∨ 126 < k
def LowT (x : Str) : Prop := ∀ k, Od k → k ∉ x.cps.toList
open Builtin Builtin.Str in
theorem reprChar_ok : ∀ c, c < 127 → 32 ≤ c → (reprChar 34 c).all (fun d => decide (32 ≤ d) && decide (d ≤ 126)) = true ∧ (reprChar 39 c).all (fun d => decide (32 ≤ d) && decide (d ≤ 126)) = true := by decide +kernel
open Builtin Builtin.Str in
theorem foldl_repr_low {q : Nat} (hq : q = 34 ∨ q = 39) : ∀ (l : List Nat) (acc : Array Nat), (∀ c ∈ l, ¬ Od c) → (∀ c ∈ acc.toList, ¬ Od c) → ∀ c ∈ (l.foldl (fun out c => out ++ (reprChar q c).toArray) acc).toList, ¬ Od c
  | [], acc, _, h => h
  | x :: r, acc, hl, h => by
    refine foldl_repr_low hq r _ (fun c hc => hl c (List.mem_cons_of_mem _ hc)) fun c hc => ?_
    rw [Array.toList_append, List.mem_append] at hc
    rcases hc with hc | hc
    · exact h c hc
    · have hx := hl x List.mem_cons_self
      have hx' : 32 ≤ x ∧ x < 127 := by unfold Od at hx; omega
      have := reprChar_ok x hx'.2 hx'.1
      have t : (reprChar q x).all (fun d => decide (32 ≤ d) && decide (d ≤ 126)) = true := by
        rcases hq with rfl | rfl
        · exact this.1
        · exact this.2
      have := List.all_eq_true.mp t c hc
      rw [Bool.and_eq_true, decide_eq_true_eq, decide_eq_true_eq] at this
      unfold Od
      omega
theorem lowS_str {x : Str} (h : LowT x) : ∀ k, Od k → k ∉ (PyData.shown (.str x)).cps.toList := fun k hk hm => by
  have hq : reprQuote x = 34 ∨ reprQuote x = 39 := by unfold reprQuote; split <;> simp
  rw [PyData.shown_str] at hm
  have hm : k ∈ ((x.cps.foldl (fun out c => out ++ (Builtin.Str.reprChar (reprQuote x) c).toArray) #[reprQuote x]).push (reprQuote x)).toList := hm
  rw [Array.toList_push, List.mem_append, ← Array.foldl_toList] at hm
  rcases hm with hm | hm
  · refine foldl_repr_low hq x.cps.toList #[reprQuote x] (fun c hc ho => h c ho hc) (fun c hc => ?_) k hm hk
    have : c = reprQuote x := by simpa using hc
    unfold Od
    omega
  · rw [List.mem_singleton] at hm
    unfold Od at hk
    omega
theorem sho_text {z : Str} (h : LowT z) (hl : z.length ≤ 60) : ShO 0 60 (.str z) := by
  refine ⟨.str z, by simp only [toPy], by rw [PyData.hasDict], ⟨?_, by rw [PyData.showable], by simp only [PyData.depth]; omega, by rw [PyData.bulk]; exact hl, fun k hk => lowS_str h k (.inr (by omega))⟩⟩
  rw [PyData.leavesShort, List.all_eq_true]
  intro c hc
  rw [decide_eq_true_eq]
  refine Classical.byContradiction fun hn => h c (by unfold Od; omega) hc
def dg (x : Nat) : Str := PyData.shown (.int (x : Nat))
theorem dg_ok : ∀ x, x < 8 → (dg x).length ≤ 1 ∧ (dg x).cps.toList.all (fun c => decide (32 ≤ c) && decide (c ≤ 126)) = true := by decide +kernel
theorem strA_dg {x : Nat} (h : x < 8) : strAF [.int (x : Nat)] = some (.str (dg x)) := by
  have h1 := (dg_ok x h).1
  have ok : ShowX (.int (x : Nat)) := by
    refine ⟨?_, by simp only [PyData.depth]; omega, by
      have : (PyData.shown (.int (x : Nat))).length ≤ 1 := h1
      rw [sizeLine_eq]
      omega⟩
    have hlog : ((x : Nat) : Int).natAbs.log2 < 1920 := by
      by_cases z : x = 0
      · subst z; decide
      · have : x.log2 < 11 := (Nat.log2_lt z).mpr (by omega)
        simpa using Nat.lt_of_lt_of_le this (by omega)
    rw [PyData.showable, decide_eq_true hlog]
  unfold strAF
  dsimp only [strP]
  rw [if_pos ok]
  rfl
theorem strsOf_map : ∀ ys : List Str, strsOf (ys.map D.str) = some ys
  | [] => rfl
  | y :: ys => by rw [List.map_cons, strsOf, strsOf_map ys]
theorem join_dg {l : List Nat} (h : ∀ x ∈ l, x < 8) (hl : l.length ≤ 8) : ∃ z : Str, Txt.join "" (l.map dg) = z ∧ LowT z ∧ z.length ≤ 60 ∧ ((l.map dg).map (·.length)).sum + (l.map dg).length * ("" : Str).length ≤ 16777216 := by
  have hsum : ∀ l : List Nat, (∀ x ∈ l, x < 8) → ((l.map dg).map (·.length)).sum ≤ l.length := by
    intro l
    induction l with
    | nil => intro _; simp
    | cons x l ih =>
      intro h
      have h1 := (dg_ok x (h x List.mem_cons_self)).1
      have h2 := ih fun y hy => h y (List.mem_cons_of_mem _ hy)
      rw [List.map_cons, List.map_cons, List.sum_cons, List.length_cons]
      omega
  have e0 : ("" : Str).length = 0 := by decide
  have hs := hsum l h
  refine ⟨_, rfl, fun k hk hm => ?_, ?_, ?_⟩
  · have hm : k ∈ (Str.join "" (l.map dg)).cps.toList := by
      rw [← PySem.StrLaws.glued_eq_join]
      exact hm
    rw [PyProof.Rows.mem_join] at hm
    rcases hm with ⟨t, ht, hc⟩ | ⟨_, hc⟩
    · obtain ⟨x, hx, rfl⟩ := List.mem_map.mp ht
      have := List.all_eq_true.mp (dg_ok x (h x hx)).2 k hc
      rw [Bool.and_eq_true, decide_eq_true_eq, decide_eq_true_eq] at this
      unfold Od at hk
      omega
    · have e : ("" : Str).cps.toList = [] := by decide
      rw [e] at hc
      cases hc
  · have := PySem.StrLaws.join_length_le "" (l.map dg)
    rw [e0] at this
    have e : Txt.join "" (l.map dg) = Str.join "" (l.map dg) := PySem.StrLaws.glued_eq_join _ _
    rw [e]
    omega
  · rw [e0]
    omega
/-! ### slices -/
theorem slF_take {l : List Nat} {k : Nat} : slF (tupN l) none (some (k : Int)) = some (.tup ((ofN l).take k)) := by
  have : slF (tupN l) none (some (k : Int)) = some (.tup (cutG (ofN l) none (some (k : Int)))) := rfl
  rw [this]
  unfold cutG
  rw [HT.sIx_none, HT.sIx_nat, List.drop_zero, Nat.sub_zero]
  congr 2
  by_cases h : k ≤ (ofN l).length
  · rw [Nat.min_eq_left h]
  · rw [Nat.min_eq_right (by omega), List.take_of_length_le (Nat.le_refl _), List.take_of_length_le (by omega)]
theorem slF_drop {ds : List D} {k : Nat} : slF (.tup ds) (some (k : Int)) none = some (.tup (ds.drop k)) := by
  have : slF (.tup ds) (some (k : Int)) none = some (.tup (cutG ds (some (k : Int)) none)) := rfl
  rw [this]
  unfold cutG
  rw [HT.sIx_none, HT.sIx_nat]
  congr 2
  by_cases h : k ≤ ds.length
  · rw [Nat.min_eq_left h, List.take_of_length_le (by rw [List.length_drop]; omega)]
  · rw [Nat.min_eq_right (by omega), List.drop_of_length_le (Nat.le_refl _), List.drop_of_length_le (by omega)]
    simp
theorem slF_takeL {ds : List D} {k : Nat} : slF (.lst ds) none (some (k : Int)) = some (.lst (ds.take k)) := by
  have : slF (.lst ds) none (some (k : Int)) = some (.lst (cutG ds none (some (k : Int)))) := rfl
  rw [this]
  unfold cutG
  rw [HT.sIx_none, HT.sIx_nat, List.drop_zero, Nat.sub_zero]
  congr 2
  by_cases h : k ≤ ds.length
  · rw [Nat.min_eq_left h]
  · rw [Nat.min_eq_right (by omega), List.take_of_length_le (Nat.le_refl _), List.take_of_length_le (by omega)]
theorem slF_dropL {ds : List D} {k : Nat} : slF (.lst ds) (some (k : Int)) none = some (.lst (ds.drop k)) := by
  have : slF (.lst ds) (some (k : Int)) none = some (.lst (cutG ds (some (k : Int)) none)) := rfl
  rw [this]
  unfold cutG
  rw [HT.sIx_none, HT.sIx_nat]
  congr 2
  by_cases h : k ≤ ds.length
  · rw [Nat.min_eq_left h, List.take_of_length_le (by rw [List.length_drop]; omega)]
  · rw [Nat.min_eq_right (by omega), List.drop_of_length_le (Nat.le_refl _), List.drop_of_length_le (by omega)]
    simp
theorem addF_tup {a b : List D} (h : a.length + b.length < 1000000) : addF [.tup a, .tup b] = some (.tup (a ++ b)) := if_pos (by rw [sizeLine_eq]; omega)
end MM

set_option Elab.async false
set_option linter.all false
set_option maxRecDepth 100000
set_option maxHeartbeats 8000000
noncomputable section
namespace MM
open PySem PySem.Spec PyProof.Rows L2

theorem cut_rep {l : List Nat} {k : Nat} {d : D} (hl : l.length < 100) :
    addF [.tup ((ofN l).take k), .tup [d]] = some (.tup ((ofN l).take k ++ [d])) ∧ addF [.tup ((ofN l).take k ++ [d]), .tup ((ofN l).drop (k + 1))] = some (.tup (repD l k d)) := by
  constructor
  · exact addF_tup (by rw [List.length_take, ofN_length]; simp only [List.length_cons, List.length_nil]; omega)
  · exact addF_tup (by rw [List.length_append, List.length_take, List.length_drop, ofN_length]; simp only [List.length_cons, List.length_nil]; omega)
theorem turn_short {n : Nat} (hn : n < 8) {l : List Nat} {m : Nat} (T : Turn m l) (hm : m < 9) (h : m ≠ n) : Odd n (tupN l) :=
  ⟨not_len (by rw [ofN_length, T.len]; exact h), .inr ((sho_tup (k := 0) (B := 0) (N := 9) (sho_ofN fun x hx => by have := T.mem.mp hx; omega) (by rw [ofN_length, T.len]; omega)).mono (by omega) (by omega))⟩
theorem odd_ok {pen : D} (Pn : Pen pen) {n : Nat} (h0 : 0 < n) (hn : n < 8) : ∃ (d pen' : D), p__law_odd pen [.int (n : Nat)] = .ret d pen' ∧ Odd n d ∧ Pen pen' := by
  obtain ⟨l, pen1, e1, T, P1⟩ := any_turn_ok Pn (n := n) (by omega)
  obtain ⟨k, pen2, e2, hk, P2⟩ := take_any P1 n h0 (by omega)
  obtain ⟨lg, pen3, e3, Tg, P3⟩ := any_turn_ok P2 (n := n + 1) (by omega)
  have hll := T.len
  have ha1 : addF [.int (n : Nat), .int 1] = some (.int ((n + 1 : Nat) : Int)) := by rw [addF_int]; simp
  have hs1 : subF [.int (n : Nat), .int 1] = some (.int ((n - 1 : Nat) : Int)) := by
    show some (D.int ((n : Int) - 1)) = _
    congr 2
    omega
  have hr : tupRg1F [.int ((n - 1 : Nat) : Int)] = some (tupN (List.range (n - 1))) := tupRg1_ok (by omega)
  have hlt : listF [tupN l] = some (lstN l) := rfl
  have hpw : powF [.int 10, .int 29] = some (.int 100000000000000000000000000000) := if_pos (by decide)
  have hk1 : addF [.int (k : Nat), .int 1] = some (.int ((k + 1 : Nat) : Int)) := by rw [addF_int]; simp
  obtain ⟨z, hz, z1, z2, z3⟩ := join_dg (l := l) (fun x hx => by have := T.mem.mp hx; omega) (by omega)
  have hTp : tupN l = .tup (ofN l) := rfl
  -- the first ten
  obtain ⟨A, hA⟩ : ∃ A : List D, A = [tupN lg, tupN (List.range (n - 1)), lstN l, .non, .int 7, .str "0", .tup [], .dK [], .tup [tupN l], .bl true] := ⟨_, rfl⟩
  have hAl : A.length = 10 := by rw [hA]; rfl
  have hAo : ∀ d ∈ A, Odd n d := fun d hd => by
    rw [hA] at hd
    simp only [List.mem_cons, List.not_mem_nil, or_false] at hd
    rcases hd with rfl | rfl | rfl | rfl | rfl | rfl | rfl | rfl | rfl | rfl
    · exact turn_short hn Tg (by omega) (by omega)
    · exact turn_short hn (range_turn (n - 1)) (by omega) (by omega)
    · exact ⟨not_tup trivial, .inr ((sho_lst (k := 0) (B := 0) (N := 8) (sho_ofN fun x hx => by have := T.mem.mp hx; omega) (by rw [ofN_length]; omega)).mono (by omega) (by omega))⟩
    · exact ⟨not_tup trivial, .inr (sho_non.mono (by omega) (by omega))⟩
    · exact ⟨not_tup trivial, .inr ((sho_nat (x := 7) (by omega)).mono (by omega) (by omega))⟩
    · exact ⟨not_tup trivial, .inr ((sho_str (by decide +kernel)).mono (by omega) (by omega))⟩
    · exact ⟨not_len (by simp only [List.length_nil]; omega), .inr ((sho_tup (k := 0) (B := 0) (N := 0) (ds := []) (fun _ h => nomatch h) (by simp)).mono (by omega) (by omega))⟩
    · exact ⟨not_tup trivial, .inl rfl⟩
    · have hs : ShO 2 2000 (.tup [tupN l]) := (sho_tup (k := 1) (B := 8) (N := 1) (fun x hx => by
        rw [List.mem_singleton.mp hx]
        exact (sho_tup (k := 0) (B := 0) (N := 8) (sho_ofN fun x hx => by have := T.mem.mp hx; omega) (by rw [ofN_length]; omega)).mono (by omega) (by omega)) (by simp)).mono (by omega) (by omega)
      by_cases h1 : n = 1
      · subst h1
        exact ⟨not_turn (by omega) rfl (fun x hx => by rw [List.mem_singleton.mp hx]; trivial) (.inl ⟨_, List.mem_singleton_self _, rfl⟩), .inr hs⟩
      · exact ⟨not_len (by simp only [List.length_cons, List.length_nil]; omega), .inr hs⟩
    · exact ⟨not_tup trivial, .inr ((sho_bl true).mono (by omega) (by omega))⟩
  have ap1 := appendF_ok (ds := A) (d := .str z) (by omega)
  have hBo : ∀ d ∈ A ++ [.str z], Odd n d := fun d hd => by
    rcases List.mem_append.mp hd with hd | hd
    · exact hAo d hd
    · rw [List.mem_singleton.mp hd]
      exact ⟨not_tup trivial, .inr ((sho_text z1 z2).mono (by omega) (by omega))⟩
  have hBl : (A ++ [D.str z]).length = 11 := by rw [List.length_append, hAl]; rfl
  unfold p__law_odd m__law_odd
  simp only [clP_eq, lstM_ap, tupM_ap, le_size, seqM_ap, nxM_ap, brM_ap, ctM_ap, retM_ap, retNM_ap, ifS_ap, asgF_ap, asgO_ap, dropM_ap, frzE_ap, frzM_ap, rdM_ap, vrM_ap, cM_ap, nilM_ap, consM_ap, consTM_ap, consNM_ap, opM_ap, tstM_ap, andM_ap, orM_ap, notM_ap, ifM_ap, andVM_ap, orVM_ap, notVM_ap, immM_ap, imM_ap, ixT_ap, yesM_ap, mutM_ap, mvM_ap, clF_ap, clT_ap, bdName_ap, itemsM_ap, asgG_ap, envF_ap, envP_ap, callF_ap, callP_ap, ownAt0_ap, itemsD_lst, itemsD_tup, chM_ap, slM_ap, noM_ap, partM_ap, bdB_ap, bdTup_ap, bdList_cons, bdList_nil, List.length_cons, List.length_nil, List.set_cons_succ, List.set_cons_zero, List.getElem?_cons_zero, List.getElem?_cons_succ, List.map_cons, List.map_nil, List.cons_append, List.nil_append, List.replicate, Nat.zero_add, Nat.reduceAdd, Nat.reduceSub, Nat.reduceLT, Nat.reduceLeDiff, Nat.reduceEqDiff, if_true, if_false, reduceIte, Bool.false_eq_true, NxS_nx, NxS_ct, RetF_ret, RetP_ret, imm, Bool.not_true, Bool.not_false, e1, e2, e3, ha1, hs1, hr, hlt, le_size (show 10 < 1000000 by omega), le_size (show 1 < 1000000 by omega), le_size (show 0 < 1000000 by omega)]
  rw [← hA]
  simp only [lstM_ap, tupM_ap, le_size, seqM_ap, nxM_ap, brM_ap, ctM_ap, retM_ap, retNM_ap, ifS_ap, asgF_ap, asgO_ap, dropM_ap, frzE_ap, frzM_ap, rdM_ap, vrM_ap, cM_ap, nilM_ap, consM_ap, consTM_ap, consNM_ap, opM_ap, tstM_ap, andM_ap, orM_ap, notM_ap, ifM_ap, andVM_ap, orVM_ap, notVM_ap, immM_ap, imM_ap, ixT_ap, yesM_ap, mutM_ap, mvM_ap, clF_ap, clT_ap, bdName_ap, itemsM_ap, asgG_ap, envF_ap, envP_ap, callF_ap, callP_ap, ownAt0_ap, itemsD_lst, itemsD_tup, chM_ap, slM_ap, noM_ap, partM_ap, bdB_ap, bdTup_ap, bdList_cons, bdList_nil, List.length_cons, List.length_nil, List.set_cons_succ, List.set_cons_zero, List.getElem?_cons_zero, List.getElem?_cons_succ, List.map_cons, List.map_nil, List.cons_append, List.nil_append, List.replicate, Nat.zero_add, Nat.reduceAdd, Nat.reduceSub, Nat.reduceLT, Nat.reduceLeDiff, Nat.reduceEqDiff, if_true, if_false, reduceIte, Bool.false_eq_true, NxS_nx, NxS_ct, RetF_ret, RetP_ret, imm, Bool.not_true, Bool.not_false, joinM_ap]
  generalize hC : lcM _ _ _ _ _ _ = rc
  have hc := lc_on' hC l (fun (x : Nat) => D.int (x : Int)) (fun x => .str (dg x)) (by simp only [lstM_ap, tupM_ap, le_size, seqM_ap, nxM_ap, brM_ap, ctM_ap, retM_ap, retNM_ap, ifS_ap, asgF_ap, asgO_ap, dropM_ap, frzE_ap, frzM_ap, rdM_ap, vrM_ap, cM_ap, nilM_ap, consM_ap, consTM_ap, consNM_ap, opM_ap, tstM_ap, andM_ap, orM_ap, notM_ap, ifM_ap, andVM_ap, orVM_ap, notVM_ap, immM_ap, imM_ap, ixT_ap, yesM_ap, mutM_ap, mvM_ap, clF_ap, clT_ap, bdName_ap, itemsM_ap, asgG_ap, envF_ap, envP_ap, callF_ap, callP_ap, ownAt0_ap, itemsD_lst, itemsD_tup, chM_ap, slM_ap, noM_ap, partM_ap, bdB_ap, bdTup_ap, bdList_cons, bdList_nil, List.length_cons, List.length_nil, List.set_cons_succ, List.set_cons_zero, List.getElem?_cons_zero, List.getElem?_cons_succ, List.map_cons, List.map_nil, List.cons_append, List.nil_append, List.replicate, Nat.zero_add, Nat.reduceAdd, Nat.reduceSub, Nat.reduceLT, Nat.reduceLeDiff, Nat.reduceEqDiff, if_true, if_false, reduceIte, Bool.false_eq_true, NxS_nx, NxS_ct, RetF_ret, RetP_ret, imm, Bool.not_true, Bool.not_false]; rfl) trivial (by omega) fun x hx => by
    simp only [lstM_ap, tupM_ap, le_size, seqM_ap, nxM_ap, brM_ap, ctM_ap, retM_ap, retNM_ap, ifS_ap, asgF_ap, asgO_ap, dropM_ap, frzE_ap, frzM_ap, rdM_ap, vrM_ap, cM_ap, nilM_ap, consM_ap, consTM_ap, consNM_ap, opM_ap, tstM_ap, andM_ap, orM_ap, notM_ap, ifM_ap, andVM_ap, orVM_ap, notVM_ap, immM_ap, imM_ap, ixT_ap, yesM_ap, mutM_ap, mvM_ap, clF_ap, clT_ap, bdName_ap, itemsM_ap, asgG_ap, envF_ap, envP_ap, callF_ap, callP_ap, ownAt0_ap, itemsD_lst, itemsD_tup, chM_ap, slM_ap, noM_ap, partM_ap, bdB_ap, bdTup_ap, bdList_cons, bdList_nil, List.length_cons, List.length_nil, List.set_cons_succ, List.set_cons_zero, List.getElem?_cons_zero, List.getElem?_cons_succ, List.map_cons, List.map_nil, List.cons_append, List.nil_append, List.replicate, Nat.zero_add, Nat.reduceAdd, Nat.reduceSub, Nat.reduceLT, Nat.reduceLeDiff, Nat.reduceEqDiff, if_true, if_false, reduceIte, Bool.false_eq_true, NxS_nx, NxS_ct, RetF_ret, RetP_ret, imm, Bool.not_true, Bool.not_false, strA_dg (show x < 8 by have := T.mem.mp hx; omega)]
  subst hc
  have hso : strsOf (l.map fun x => D.str (dg x)) = some (l.map dg) := by
    rw [← strsOf_map (l.map dg), List.map_map]
    rfl
  simp only [hso, if_pos z3, hz]
  simp only [lstM_ap, tupM_ap, le_size, seqM_ap, nxM_ap, brM_ap, ctM_ap, retM_ap, retNM_ap, ifS_ap, asgF_ap, asgO_ap, dropM_ap, frzE_ap, frzM_ap, rdM_ap, vrM_ap, cM_ap, nilM_ap, consM_ap, consTM_ap, consNM_ap, opM_ap, tstM_ap, andM_ap, orM_ap, notM_ap, ifM_ap, andVM_ap, orVM_ap, notVM_ap, immM_ap, imM_ap, ixT_ap, yesM_ap, mutM_ap, mvM_ap, clF_ap, clT_ap, bdName_ap, itemsM_ap, asgG_ap, envF_ap, envP_ap, callF_ap, callP_ap, ownAt0_ap, itemsD_lst, itemsD_tup, chM_ap, slM_ap, noM_ap, partM_ap, bdB_ap, bdTup_ap, bdList_cons, bdList_nil, List.length_cons, List.length_nil, List.set_cons_succ, List.set_cons_zero, List.getElem?_cons_zero, List.getElem?_cons_succ, List.map_cons, List.map_nil, List.cons_append, List.nil_append, List.replicate, Nat.zero_add, Nat.reduceAdd, Nat.reduceSub, Nat.reduceLT, Nat.reduceLeDiff, Nat.reduceEqDiff, if_true, if_false, reduceIte, Bool.false_eq_true, NxS_nx, NxS_ct, RetF_ret, RetP_ret, imm, Bool.not_true, Bool.not_false, ap1]
  generalize A ++ [D.str z] = B at hBo hBl
  -- ten more
  obtain ⟨V, hV⟩ : ∃ V : List D, V = [.int (n : Nat), .int (-1), .bl true, .str "0", .non, .int 100000000000000000000000000000, .int (-100000000000000000000000000000), .tup [.int 0], .lst [.int 0], .int ((n + 1 : Nat) : Int)] := ⟨_, rfl⟩
  have hVo : ∀ d ∈ V, Odd n (.tup (repD l k d)) := fun d hd => by
    have hlk : l.getD k 0 < n := T.lt hk
    rw [hV] at hd
    simp only [List.mem_cons, List.not_mem_nil, or_false] at hd
    rcases hd with rfl | rfl | rfl | rfl | rfl | rfl | rfl | rfl | rfl | rfl
    · exact odd_int hn T hk (by omega) (by omega)
    · exact odd_int hn T hk (by omega) (by omega)
    · exact odd_bad hn T hk trivial rfl ((sho_bl true).mono (by omega) (by omega))
    · exact odd_bad hn T hk trivial rfl ((sho_str (by decide +kernel)).mono (by omega) (by omega))
    · exact odd_bad hn T hk trivial rfl (sho_non.mono (by omega) (by omega))
    · exact odd_int hn T hk (by omega) (by omega)
    · exact odd_int hn T hk (by omega) (by omega)
    · exact odd_bad hn T hk trivial rfl ((sho_tup (k := 0) (B := 0) (N := 1) (fun x hx => by rw [List.mem_singleton.mp hx]; exact sho_nat (x := 0) (by omega)) (by simp)).mono (by omega) (by omega))
    · exact odd_bad hn T hk trivial rfl ((sho_lst (k := 0) (B := 0) (N := 1) (fun x hx => by rw [List.mem_singleton.mp hx]; exact sho_nat (x := 0) (by omega)) (by simp)).mono (by omega) (by omega))
    · exact odd_int hn T hk (by omega) (by omega)
  generalize hL : loopM _ _ _ _ = r
  obtain ⟨e', rfl, items, d6, rfl, hI, hIl⟩ := for_items hL V id (fun done e => ∃ (items : List D) (d6 : Option (Bool × D)), e = [some (true, pen3), some (false, .int (n : Nat)), some (false, tupN l), some (false, .int (k : Nat)), some (false, tupN lg), some (true, .lst items), d6] ∧ (∀ d ∈ items, Odd n d) ∧ items.length = 11 + done.length)
    (by
      rw [List.map_id, hV]
      simp only [lstM_ap, tupM_ap, le_size, seqM_ap, nxM_ap, brM_ap, ctM_ap, retM_ap, retNM_ap, ifS_ap, asgF_ap, asgO_ap, dropM_ap, frzE_ap, frzM_ap, rdM_ap, vrM_ap, cM_ap, nilM_ap, consM_ap, consTM_ap, consNM_ap, opM_ap, tstM_ap, andM_ap, orM_ap, notM_ap, ifM_ap, andVM_ap, orVM_ap, notVM_ap, immM_ap, imM_ap, ixT_ap, yesM_ap, mutM_ap, mvM_ap, clF_ap, clT_ap, bdName_ap, itemsM_ap, asgG_ap, envF_ap, envP_ap, callF_ap, callP_ap, ownAt0_ap, itemsD_lst, itemsD_tup, chM_ap, slM_ap, noM_ap, partM_ap, bdB_ap, bdTup_ap, bdList_cons, bdList_nil, List.length_cons, List.length_nil, List.set_cons_succ, List.set_cons_zero, List.getElem?_cons_zero, List.getElem?_cons_succ, List.map_cons, List.map_nil, List.cons_append, List.nil_append, List.replicate, Nat.zero_add, Nat.reduceAdd, Nat.reduceSub, Nat.reduceLT, Nat.reduceLeDiff, Nat.reduceEqDiff, if_true, if_false, reduceIte, Bool.false_eq_true, NxS_nx, NxS_ct, RetF_ret, RetP_ret, imm, Bool.not_true, Bool.not_false, ha1, hpw, negF, le_size (show 10 < 1000000 by omega), le_size (show 1 < 1000000 by omega)]) ⟨B, _, rfl, hBo, hBl⟩ (by
    rintro done x rest e hts ⟨items, d6, rfl, hI, hIl⟩
    have hx : x ∈ V := by rw [hts]; simp
    have hdl : done.length ≤ 10 := by
      have := congrArg List.length hts
      rw [List.length_append, hV] at this
      simp only [List.length_cons, List.length_nil] at this
      omega
    obtain ⟨c1, c2⟩ := cut_rep (l := l) (k := k) (d := x) (by omega)
    have ap := appendF_ok (ds := items) (d := .tup (repD l k x)) (by omega)
    have hs2 : slF (tupN l) (some ((k + 1 : Nat) : Int)) none = some (.tup ((ofN l).drop (k + 1))) := slF_drop
    unfold m__law_odd_7
    simp only [lstM_ap, tupM_ap, le_size, seqM_ap, nxM_ap, brM_ap, ctM_ap, retM_ap, retNM_ap, ifS_ap, asgF_ap, asgO_ap, dropM_ap, frzE_ap, frzM_ap, rdM_ap, vrM_ap, cM_ap, nilM_ap, consM_ap, consTM_ap, consNM_ap, opM_ap, tstM_ap, andM_ap, orM_ap, notM_ap, ifM_ap, andVM_ap, orVM_ap, notVM_ap, immM_ap, imM_ap, ixT_ap, yesM_ap, mutM_ap, mvM_ap, clF_ap, clT_ap, bdName_ap, itemsM_ap, asgG_ap, envF_ap, envP_ap, callF_ap, callP_ap, ownAt0_ap, itemsD_lst, itemsD_tup, chM_ap, slM_ap, noM_ap, partM_ap, bdB_ap, bdTup_ap, bdList_cons, bdList_nil, List.length_cons, List.length_nil, List.set_cons_succ, List.set_cons_zero, List.getElem?_cons_zero, List.getElem?_cons_succ, List.map_cons, List.map_nil, List.cons_append, List.nil_append, List.replicate, Nat.zero_add, Nat.reduceAdd, Nat.reduceSub, Nat.reduceLT, Nat.reduceLeDiff, Nat.reduceEqDiff, if_true, if_false, reduceIte, Bool.false_eq_true, NxS_nx, NxS_ct, RetF_ret, RetP_ret, imm, Bool.not_true, Bool.not_false, id, slF_take, hk1, hs2, c1, c2, ap, le_size (show 1 < 1000000 by omega)]
    refine ⟨_, _, rfl, fun d hd => ?_, by rw [List.length_append, List.length_append, hIl]; rfl⟩
    rcases List.mem_append.mp hd with hd | hd
    · exact hI d hd
    · rw [List.mem_singleton.mp hd]; exact hVo x hx)
  have hIl2 : items.length = 21 := by rw [hIl, hV]; rfl
  -- the end
  have fin : ∀ {its : List D} {d6 : Option (Bool × D)}, (∀ d ∈ its, Odd n d) → 0 < its.length → its.length < 100 → ∃ (d pen' : D) (e' : Env), m__law_odd_11 [some (true, pen3), some (false, .int (n : Nat)), some (false, tupN l), some (false, .int (k : Nat)), some (false, tupN lg), some (true, .lst its), d6] = .rt d (some (true, pen') :: e') ∧ Odd n d ∧ Pen pen' := by
    intro its d6 ho h1 h2
    have hle : lenF [.lst its] = some (.int (its.length : Nat)) := lenF_lst
    obtain ⟨i, pen4, e4, hi, P4⟩ := take_any P3 its.length h1 (by omega)
    have hix : ixF [.lst its, .int (i : Nat)] = some its[i] := by
      rw [ixF_lst (by omega) (by omega), Int.toNat_natCast, List.getElem?_eq_getElem hi]
    unfold m__law_odd_11
    simp only [clP_eq, lstM_ap, tupM_ap, le_size, seqM_ap, nxM_ap, brM_ap, ctM_ap, retM_ap, retNM_ap, ifS_ap, asgF_ap, asgO_ap, dropM_ap, frzE_ap, frzM_ap, rdM_ap, vrM_ap, cM_ap, nilM_ap, consM_ap, consTM_ap, consNM_ap, opM_ap, tstM_ap, andM_ap, orM_ap, notM_ap, ifM_ap, andVM_ap, orVM_ap, notVM_ap, immM_ap, imM_ap, ixT_ap, yesM_ap, mutM_ap, mvM_ap, clF_ap, clT_ap, bdName_ap, itemsM_ap, asgG_ap, envF_ap, envP_ap, callF_ap, callP_ap, ownAt0_ap, itemsD_lst, itemsD_tup, chM_ap, slM_ap, noM_ap, partM_ap, bdB_ap, bdTup_ap, bdList_cons, bdList_nil, List.length_cons, List.length_nil, List.set_cons_succ, List.set_cons_zero, List.getElem?_cons_zero, List.getElem?_cons_succ, List.map_cons, List.map_nil, List.cons_append, List.nil_append, List.replicate, Nat.zero_add, Nat.reduceAdd, Nat.reduceSub, Nat.reduceLT, Nat.reduceLeDiff, Nat.reduceEqDiff, if_true, if_false, reduceIte, Bool.false_eq_true, NxS_nx, NxS_ct, RetF_ret, RetP_ret, imm, Bool.not_true, Bool.not_false, hle, e4, hix]
    exact ⟨_, _, _, rfl, ho _ (List.getElem_mem hi), P4⟩
  unfold m__law_odd_8
  by_cases h1 : (1 : Int) < (n : Nat)
  · have hs0 : ∃ y : Nat, subF [.int (k : Nat), .int 1] = some (.int ((k : Int) - 1)) ∧ ixF [tupN l, .int ((k : Int) - 1)] = some (.int (y : Nat)) ∧ y ≠ l.getD k 0 ∧ y < n := by
      by_cases k0 : k = 0
      · subst k0
        refine ⟨l.getD (n - 1) 0, rfl, ?_, fun z => ?_, T.lt (by omega)⟩
        · have : ixF [.tup (ofN l), .int (((0 : Nat) : Int) - 1)] = (ofN l)[(ofN l).length - 1]? := by
            show atI (ofN l) (((0 : Nat) : Int) - 1) = _
            unfold atI
            have : ixN (ofN l).length (((0 : Nat) : Int) - 1) = some ((ofN l).length - 1) := by
              unfold ixN
              rw [ofN_length]
              first
                | (rw [if_neg (by omega), if_pos (by omega)]; congr 1; omega)
                | (simp; omega)
            rw [this]
            rfl
          rw [hTp, this, ofN_length, hll, ofN_get, List.getElem?_eq_getElem (by omega), getD_lt (by omega)]
          rfl
        · have := T.inj (i := n - 1) (j := 0) (by omega) (by omega) z
          omega
      · refine ⟨l.getD (k - 1) 0, rfl, ?_, fun z => ?_, T.lt (by omega)⟩
        · rw [show (k : Int) - 1 = ((k - 1 : Nat) : Int) by omega]
          exact ix_tupN (by omega)
        · have := T.inj (i := k - 1) (j := k) (by omega) hk z
          omega
    obtain ⟨y, y1, y2, y3, y4⟩ := hs0
    have o1 : Odd n (.tup (repD l k (.int (y : Nat)))) := odd_int hn T hk (by omega) (by omega)
    have o2 : Odd n (.tup (repD l k (.bl false))) := odd_bad hn T hk trivial rfl ((sho_bl false).mono (by omega) (by omega))
    obtain ⟨c1, c2⟩ := cut_rep (l := l) (k := k) (d := .int (y : Nat)) (by omega)
    obtain ⟨c3, c4⟩ := cut_rep (l := l) (k := k) (d := .bl false) (by omega)
    have ap2 := appendF_ok (ds := items) (d := .tup (repD l k (.int (y : Nat)))) (by omega)
    have ap3 := appendF_ok (ds := items ++ [.tup (repD l k (.int (y : Nat)))]) (d := .tup (repD l k (.bl false))) (by rw [List.length_append]; simp only [List.length_cons, List.length_nil]; omega)
    have hs2 : slF (tupN l) (some ((k + 1 : Nat) : Int)) none = some (.tup ((ofN l).drop (k + 1))) := slF_drop
    obtain ⟨d, pen', e', f1, f2, f3⟩ := fin (its := items ++ [.tup (repD l k (.int (y : Nat)))] ++ [.tup (repD l k (.bl false))]) (d6 := d6) (fun d hd => by
      rcases List.mem_append.mp hd with hd | hd
      · rcases List.mem_append.mp hd with hd | hd
        · exact hI d hd
        · rw [List.mem_singleton.mp hd]; exact o1
      · rw [List.mem_singleton.mp hd]; exact o2) (by rw [List.length_append, List.length_append]; simp only [List.length_cons, List.length_nil]; omega) (by rw [List.length_append, List.length_append]; simp only [List.length_cons, List.length_nil]; omega)
    simp only [lstM_ap, tupM_ap, le_size, seqM_ap, nxM_ap, brM_ap, ctM_ap, retM_ap, retNM_ap, ifS_ap, asgF_ap, asgO_ap, dropM_ap, frzE_ap, frzM_ap, rdM_ap, vrM_ap, cM_ap, nilM_ap, consM_ap, consTM_ap, consNM_ap, opM_ap, tstM_ap, andM_ap, orM_ap, notM_ap, ifM_ap, andVM_ap, orVM_ap, notVM_ap, immM_ap, imM_ap, ixT_ap, yesM_ap, mutM_ap, mvM_ap, clF_ap, clT_ap, bdName_ap, itemsM_ap, asgG_ap, envF_ap, envP_ap, callF_ap, callP_ap, ownAt0_ap, itemsD_lst, itemsD_tup, chM_ap, slM_ap, noM_ap, partM_ap, bdB_ap, bdTup_ap, bdList_cons, bdList_nil, List.length_cons, List.length_nil, List.set_cons_succ, List.set_cons_zero, List.getElem?_cons_zero, List.getElem?_cons_succ, List.map_cons, List.map_nil, List.cons_append, List.nil_append, List.replicate, Nat.zero_add, Nat.reduceAdd, Nat.reduceSub, Nat.reduceLT, Nat.reduceLeDiff, Nat.reduceEqDiff, if_true, if_false, reduceIte, Bool.false_eq_true, NxS_nx, NxS_ct, RetF_ret, RetP_ret, imm, Bool.not_true, Bool.not_false, cmpF_int, decide_eq_true h1, slF_take, hk1, hs2, y1, y2, c1, c2, c3, c4, ap2, ap3, le_size (show 1 < 1000000 by omega), f1]
    exact ⟨_, _, rfl, f2, f3⟩
  · obtain ⟨d, pen', e', f1, f2, f3⟩ := fin (its := items) (d6 := d6) hI (by omega) (by omega)
    simp only [lstM_ap, tupM_ap, le_size, seqM_ap, nxM_ap, brM_ap, ctM_ap, retM_ap, retNM_ap, ifS_ap, asgF_ap, asgO_ap, dropM_ap, frzE_ap, frzM_ap, rdM_ap, vrM_ap, cM_ap, nilM_ap, consM_ap, consTM_ap, consNM_ap, opM_ap, tstM_ap, andM_ap, orM_ap, notM_ap, ifM_ap, andVM_ap, orVM_ap, notVM_ap, immM_ap, imM_ap, ixT_ap, yesM_ap, mutM_ap, mvM_ap, clF_ap, clT_ap, bdName_ap, itemsM_ap, asgG_ap, envF_ap, envP_ap, callF_ap, callP_ap, ownAt0_ap, itemsD_lst, itemsD_tup, chM_ap, slM_ap, noM_ap, partM_ap, bdB_ap, bdTup_ap, bdList_cons, bdList_nil, List.length_cons, List.length_nil, List.set_cons_succ, List.set_cons_zero, List.getElem?_cons_zero, List.getElem?_cons_succ, List.map_cons, List.map_nil, List.cons_append, List.nil_append, List.replicate, Nat.zero_add, Nat.reduceAdd, Nat.reduceSub, Nat.reduceLT, Nat.reduceLeDiff, Nat.reduceEqDiff, if_true, if_false, reduceIte, Bool.false_eq_true, NxS_nx, NxS_ct, RetF_ret, RetP_ret, imm, Bool.not_true, Bool.not_false, cmpF_int, decide_eq_false h1, f1]
    exact ⟨_, _, rfl, f2, f3⟩
end MM

set_option Elab.async false
set_option linter.all false
set_option maxRecDepth 100000
set_option maxHeartbeats 8000000
noncomputable section
namespace MM
open PySem PySem.Spec PyProof.Rows L2

/-! ### refused -/
theorem forM_ex {α : Type} {bd : D → Env → Option Env} {body : MS} (g : α → D) (P : Nat → Env → Prop) (Q : Exn → Prop) : ∀ (l : List α) (k : Nat) (e : Env), P k e →
    (∀ i (h : i < l.length) e, P (k + i) e → (∃ x e', bdB bd body (g l[i]) e = .ex x e' ∧ Q x) ∨ NxS (bdB bd body (g l[i]) e) (P (k + i + 1))) → (∃ x e', forM bd body (l.map g) e = .ex x e' ∧ Q x) ∨ ∃ e', forM bd body (l.map g) e = .nx e' ∧ P (k + l.length) e'
  | [], k, e, h0, _ => .inr ⟨e, rfl, h0⟩
  | x :: l, k, e, h0, hs => by
    rw [List.map_cons]
    rcases hs 0 (by simp) e h0 with ⟨d, e', h1, h2⟩ | hx
    · refine .inl ⟨d, e', ?_, h2⟩
      have h1 : bdB bd body (g x) e = .ex d e' := h1
      unfold bdB at h1
      unfold forM
      cases hd : bd (g x) e with
      | none => rw [hd] at h1; cases h1
      | some e1 =>
        rw [hd] at h1
        dsimp only at h1 ⊢
        rw [h1]
    · have hx : NxS (bdB bd body (g x) e) (P (k + 1)) := hx
      obtain ⟨e1, e2, h1, h2, h3⟩ := hx.get
      have ih := forM_ex (bd := bd) (body := body) g P Q l (k + 1) e2 h3 fun i hi e he => by
        have := hs (i + 1) (by simp; omega) e (by rw [show k + (i + 1) = k + 1 + i by omega]; exact he)
        rw [show k + (i + 1) + 1 = k + 1 + i + 1 by omega] at this
        exact this
      have he : forM bd body (g x :: l.map g) e = forM bd body (l.map g) e2 := by
        conv => lhs; unfold forM
        rw [h1]
        rcases h2 with h2 | h2 <;> (dsimp only; rw [h2])
      rw [he, List.length_cons, show k + (l.length + 1) = k + 1 + l.length by omega]
      exact ih
/-- a list of turns as far as k, what is no turn at k -/
structure Bad (n k : Nat) (ds : List D) : Prop where
  good : ∀ i (h : i < ds.length), i < k → ∃ l, Turn n l ∧ ds[i] = tupN l
  lt : k < ds.length
  bad : f_is_turn_of [.int (n : Nat), ds[k]] = .ret (.bl false)
theorem group_bad {n k : Nat} (h0 : 0 < n) (hn : n < 8) {ds : List D} (hl : ds.length < 100) (B : Bad n k ds) : f_group_of [.int (n : Nat), .lst ds] = .ex ⟨"NoTurn", some ("at", (k : Nat))⟩ := by
  have hle : lenF [.lst ds] = some (.int (ds.length : Nat)) := lenF_lst
  have h1 : (1 : Int) ≤ (n : Nat) := by omega
  have h7 : ((n : Nat) : Int) ≤ 7 := by omega
  unfold f_group_of m_group_of m_group_of_3
  simp only [lstM_ap, tupM_ap, le_size, seqM_ap, nxM_ap, brM_ap, ctM_ap, retM_ap, retNM_ap, ifS_ap, asgF_ap, asgO_ap, dropM_ap, frzE_ap, frzM_ap, rdM_ap, vrM_ap, cM_ap, nilM_ap, consM_ap, consTM_ap, consNM_ap, opM_ap, tstM_ap, andM_ap, orM_ap, notM_ap, ifM_ap, andVM_ap, orVM_ap, notVM_ap, immM_ap, imM_ap, ixT_ap, yesM_ap, mutM_ap, mvM_ap, clF_ap, clT_ap, bdName_ap, itemsM_ap, asgG_ap, envF_ap, envP_ap, callF_ap, callP_ap, ownAt0_ap, itemsD_lst, itemsD_tup, chM_ap, slM_ap, noM_ap, partM_ap, bdB_ap, bdTup_ap, bdList_cons, bdList_nil, List.length_cons, List.length_nil, List.set_cons_succ, List.set_cons_zero, List.getElem?_cons_zero, List.getElem?_cons_succ, List.map_cons, List.map_nil, List.cons_append, List.nil_append, List.replicate, Nat.zero_add, Nat.reduceAdd, Nat.reduceSub, Nat.reduceLT, Nat.reduceLeDiff, Nat.reduceEqDiff, if_true, if_false, reduceIte, Bool.false_eq_true, NxS_nx, NxS_ct, RetF_ret, RetP_ret, imm, Bool.not_true, Bool.not_false, decide_eq_true h1, decide_eq_true h7]
  generalize hL : loopM _ _ _ _ = r
  have key := forM_ex (bd := bdName 2) (body := m_group_of_4) (fun (i : Nat) => D.int (i : Int)) (fun i e => i ≤ k ∧ ∃ d2, e = [some (false, .int (n : Nat)), some (false, .lst ds), d2]) (fun x => x = ⟨"NoTurn", some ("at", (k : Nat))⟩) (List.range ds.length) 0 [some (false, .int (n : Nat)), some (false, .lst ds), none] ⟨by omega, _, rfl⟩ (by
    rintro i hi e ⟨hik, d2, rfl⟩
    rw [List.length_range] at hi
    rw [Nat.zero_add] at hik ⊢
    have hix : ixF [.lst ds, .int (i : Nat)] = some ds[i] := by
      rw [ixF_lst (by omega) (by omega), Int.toNat_natCast, List.getElem?_eq_getElem hi]
    by_cases e : i = k
    · subst e
      left
      refine ⟨_, [some (false, .int (n : Nat)), some (false, .lst ds), some (false, .int (i : Nat))], ?_, rfl⟩
      simp only [lstM_ap, tupM_ap, le_size, seqM_ap, nxM_ap, brM_ap, ctM_ap, retM_ap, retNM_ap, ifS_ap, asgF_ap, asgO_ap, dropM_ap, frzE_ap, frzM_ap, rdM_ap, vrM_ap, cM_ap, nilM_ap, consM_ap, consTM_ap, consNM_ap, opM_ap, tstM_ap, andM_ap, orM_ap, notM_ap, ifM_ap, andVM_ap, orVM_ap, notVM_ap, immM_ap, imM_ap, ixT_ap, yesM_ap, mutM_ap, mvM_ap, clF_ap, clT_ap, bdName_ap, itemsM_ap, asgG_ap, envF_ap, envP_ap, callF_ap, callP_ap, ownAt0_ap, itemsD_lst, itemsD_tup, chM_ap, slM_ap, noM_ap, partM_ap, bdB_ap, bdTup_ap, bdList_cons, bdList_nil, List.length_cons, List.length_nil, List.set_cons_succ, List.set_cons_zero, List.getElem?_cons_zero, List.getElem?_cons_succ, List.map_cons, List.map_nil, List.cons_append, List.nil_append, List.replicate, Nat.zero_add, Nat.reduceAdd, Nat.reduceSub, Nat.reduceLT, Nat.reduceLeDiff, Nat.reduceEqDiff, if_true, if_false, reduceIte, Bool.false_eq_true, NxS_nx, NxS_ct, RetF_ret, RetP_ret, imm, Bool.not_true, Bool.not_false, List.getElem_range, m_group_of_4, hix, B.bad, raiseIM_ap]
    · right
      obtain ⟨l, T, hl⟩ := B.good i hi (by omega)
      rw [hl] at hix
      simp only [lstM_ap, tupM_ap, le_size, seqM_ap, nxM_ap, brM_ap, ctM_ap, retM_ap, retNM_ap, ifS_ap, asgF_ap, asgO_ap, dropM_ap, frzE_ap, frzM_ap, rdM_ap, vrM_ap, cM_ap, nilM_ap, consM_ap, consTM_ap, consNM_ap, opM_ap, tstM_ap, andM_ap, orM_ap, notM_ap, ifM_ap, andVM_ap, orVM_ap, notVM_ap, immM_ap, imM_ap, ixT_ap, yesM_ap, mutM_ap, mvM_ap, clF_ap, clT_ap, bdName_ap, itemsM_ap, asgG_ap, envF_ap, envP_ap, callF_ap, callP_ap, ownAt0_ap, itemsD_lst, itemsD_tup, chM_ap, slM_ap, noM_ap, partM_ap, bdB_ap, bdTup_ap, bdList_cons, bdList_nil, List.length_cons, List.length_nil, List.set_cons_succ, List.set_cons_zero, List.getElem?_cons_zero, List.getElem?_cons_succ, List.map_cons, List.map_nil, List.cons_append, List.nil_append, List.replicate, Nat.zero_add, Nat.reduceAdd, Nat.reduceSub, Nat.reduceLT, Nat.reduceLeDiff, Nat.reduceEqDiff, if_true, if_false, reduceIte, Bool.false_eq_true, NxS_nx, NxS_ct, RetF_ret, RetP_ret, imm, Bool.not_true, Bool.not_false, List.getElem_range, m_group_of_4, hix, is_turn_ok T (show n < 64 by omega)]
      exact ⟨by omega, _, rfl⟩)
  have er : forM (bdName 2) m_group_of_4 ((List.range ds.length).map fun (i : Nat) => D.int (i : Int)) [some (false, .int (n : Nat)), some (false, .lst ds), none] = r := by
    rw [← hL]
    unfold loopM
    rw [range1_ok (n := ds.length) (e0 := [some (false, .int (n : Nat)), some (false, .lst ds), none]) (by simp only [lstM_ap, tupM_ap, le_size, seqM_ap, nxM_ap, brM_ap, ctM_ap, retM_ap, retNM_ap, ifS_ap, asgF_ap, asgO_ap, dropM_ap, frzE_ap, frzM_ap, rdM_ap, vrM_ap, cM_ap, nilM_ap, consM_ap, consTM_ap, consNM_ap, opM_ap, tstM_ap, andM_ap, orM_ap, notM_ap, ifM_ap, andVM_ap, orVM_ap, notVM_ap, immM_ap, imM_ap, ixT_ap, yesM_ap, mutM_ap, mvM_ap, clF_ap, clT_ap, bdName_ap, itemsM_ap, asgG_ap, envF_ap, envP_ap, callF_ap, callP_ap, ownAt0_ap, itemsD_lst, itemsD_tup, chM_ap, slM_ap, noM_ap, partM_ap, bdB_ap, bdTup_ap, bdList_cons, bdList_nil, List.length_cons, List.length_nil, List.set_cons_succ, List.set_cons_zero, List.getElem?_cons_zero, List.getElem?_cons_succ, List.map_cons, List.map_nil, List.cons_append, List.nil_append, List.replicate, Nat.zero_add, Nat.reduceAdd, Nat.reduceSub, Nat.reduceLT, Nat.reduceLeDiff, Nat.reduceEqDiff, if_true, if_false, reduceIte, Bool.false_eq_true, NxS_nx, NxS_ct, RetF_ret, RetP_ret, imm, Bool.not_true, Bool.not_false, hle]) (by omega)]
  rw [er] at key
  rcases key with ⟨x, e', rfl, rfl⟩ | ⟨e', rfl, h, _⟩
  · simp only [lstM_ap, tupM_ap, le_size, seqM_ap, nxM_ap, brM_ap, ctM_ap, retM_ap, retNM_ap, ifS_ap, asgF_ap, asgO_ap, dropM_ap, frzE_ap, frzM_ap, rdM_ap, vrM_ap, cM_ap, nilM_ap, consM_ap, consTM_ap, consNM_ap, opM_ap, tstM_ap, andM_ap, orM_ap, notM_ap, ifM_ap, andVM_ap, orVM_ap, notVM_ap, immM_ap, imM_ap, ixT_ap, yesM_ap, mutM_ap, mvM_ap, clF_ap, clT_ap, bdName_ap, itemsM_ap, asgG_ap, envF_ap, envP_ap, callF_ap, callP_ap, ownAt0_ap, itemsD_lst, itemsD_tup, chM_ap, slM_ap, noM_ap, partM_ap, bdB_ap, bdTup_ap, bdList_cons, bdList_nil, List.length_cons, List.length_nil, List.set_cons_succ, List.set_cons_zero, List.getElem?_cons_zero, List.getElem?_cons_succ, List.map_cons, List.map_nil, List.cons_append, List.nil_append, List.replicate, Nat.zero_add, Nat.reduceAdd, Nat.reduceSub, Nat.reduceLT, Nat.reduceLeDiff, Nat.reduceEqDiff, if_true, if_false, reduceIte, Bool.false_eq_true, NxS_nx, NxS_ct, RetF_ret, RetP_ret, imm, Bool.not_true, Bool.not_false]
  · rw [List.length_range] at h
    have := B.lt
    omega
theorem group_out {x : Int} (h : x < 1 ∨ 7 < x) {d : D} : f_group_of [.int x, d] = .ex ⟨"NoTurn", some ("at", -1)⟩ := by
  unfold f_group_of m_group_of m_group_of_3
  by_cases h1 : (1 : Int) ≤ x
  · have h7 : ¬ x ≤ 7 := by omega
    simp only [lstM_ap, tupM_ap, le_size, seqM_ap, nxM_ap, brM_ap, ctM_ap, retM_ap, retNM_ap, ifS_ap, asgF_ap, asgO_ap, dropM_ap, frzE_ap, frzM_ap, rdM_ap, vrM_ap, cM_ap, nilM_ap, consM_ap, consTM_ap, consNM_ap, opM_ap, tstM_ap, andM_ap, orM_ap, notM_ap, ifM_ap, andVM_ap, orVM_ap, notVM_ap, immM_ap, imM_ap, ixT_ap, yesM_ap, mutM_ap, mvM_ap, clF_ap, clT_ap, bdName_ap, itemsM_ap, asgG_ap, envF_ap, envP_ap, callF_ap, callP_ap, ownAt0_ap, itemsD_lst, itemsD_tup, chM_ap, slM_ap, noM_ap, partM_ap, bdB_ap, bdTup_ap, bdList_cons, bdList_nil, List.length_cons, List.length_nil, List.set_cons_succ, List.set_cons_zero, List.getElem?_cons_zero, List.getElem?_cons_succ, List.map_cons, List.map_nil, List.cons_append, List.nil_append, List.replicate, Nat.zero_add, Nat.reduceAdd, Nat.reduceSub, Nat.reduceLT, Nat.reduceLeDiff, Nat.reduceEqDiff, if_true, if_false, reduceIte, Bool.false_eq_true, NxS_nx, NxS_ct, RetF_ret, RetP_ret, imm, Bool.not_true, Bool.not_false, decide_eq_true h1, decide_eq_false h7, negF, raiseIM_ap]
  · simp only [lstM_ap, tupM_ap, le_size, seqM_ap, nxM_ap, brM_ap, ctM_ap, retM_ap, retNM_ap, ifS_ap, asgF_ap, asgO_ap, dropM_ap, frzE_ap, frzM_ap, rdM_ap, vrM_ap, cM_ap, nilM_ap, consM_ap, consTM_ap, consNM_ap, opM_ap, tstM_ap, andM_ap, orM_ap, notM_ap, ifM_ap, andVM_ap, orVM_ap, notVM_ap, immM_ap, imM_ap, ixT_ap, yesM_ap, mutM_ap, mvM_ap, clF_ap, clT_ap, bdName_ap, itemsM_ap, asgG_ap, envF_ap, envP_ap, callF_ap, callP_ap, ownAt0_ap, itemsD_lst, itemsD_tup, chM_ap, slM_ap, noM_ap, partM_ap, bdB_ap, bdTup_ap, bdList_cons, bdList_nil, List.length_cons, List.length_nil, List.set_cons_succ, List.set_cons_zero, List.getElem?_cons_zero, List.getElem?_cons_succ, List.map_cons, List.map_nil, List.cons_append, List.nil_append, List.replicate, Nat.zero_add, Nat.reduceAdd, Nat.reduceSub, Nat.reduceLT, Nat.reduceLeDiff, Nat.reduceEqDiff, if_true, if_false, reduceIte, Bool.false_eq_true, NxS_nx, NxS_ct, RetF_ret, RetP_ret, imm, Bool.not_true, Bool.not_false, decide_eq_false h1, negF, raiseIM_ap]
theorem refused_ok {many due : Int} {ds : List D} (hs : ∃ z, reprZF [.lst ds] = some (.str z) ∧ PyData.strOk z = true) (hd : due.natAbs < 1000) (h : f_group_of [.int many, .lst ds] = .ex ⟨"NoTurn", some ("at", due)⟩) : f__law_refused [.int many, .lst ds, .int due] = .ret (.bl true) := by
  obtain ⟨z, hz, oz⟩ := hs
  obtain ⟨z2, hz2, oz2⟩ := showZ (k := 0) (B := 0) (sho_int (i := due) (by omega)).e (by omega) (by omega)
  unfold f__law_refused m__law_refused m__law_refused_7 m__law_refused_9
  have e0 : dropM (clF f_group_of (consM (vrM 0) (consM (vrM 1) (nilM)))) [some (false, .int many), some (false, .lst ds), some (false, .int due), some (false, .str z), some (false, .non), none] = .ex ⟨"NoTurn", some ("at", due)⟩ [some (false, .int many), some (false, .lst ds), some (false, .int due), some (false, .str z), some (false, .non), none] := by
    simp only [lstM_ap, tupM_ap, le_size, seqM_ap, nxM_ap, brM_ap, ctM_ap, retM_ap, retNM_ap, ifS_ap, asgF_ap, asgO_ap, dropM_ap, frzE_ap, frzM_ap, rdM_ap, vrM_ap, cM_ap, nilM_ap, consM_ap, consTM_ap, consNM_ap, opM_ap, tstM_ap, andM_ap, orM_ap, notM_ap, ifM_ap, andVM_ap, orVM_ap, notVM_ap, immM_ap, imM_ap, ixT_ap, yesM_ap, mutM_ap, mvM_ap, clF_ap, clT_ap, bdName_ap, itemsM_ap, asgG_ap, envF_ap, envP_ap, callF_ap, callP_ap, ownAt0_ap, itemsD_lst, itemsD_tup, chM_ap, slM_ap, noM_ap, partM_ap, bdB_ap, bdTup_ap, bdList_cons, bdList_nil, List.length_cons, List.length_nil, List.set_cons_succ, List.set_cons_zero, List.getElem?_cons_zero, List.getElem?_cons_succ, List.map_cons, List.map_nil, List.cons_append, List.nil_append, List.replicate, Nat.zero_add, Nat.reduceAdd, Nat.reduceSub, Nat.reduceLT, Nat.reduceLeDiff, Nat.reduceEqDiff, if_true, if_false, reduceIte, Bool.false_eq_true, NxS_nx, NxS_ct, RetF_ret, RetP_ret, imm, Bool.not_true, Bool.not_false, h]
  have e1 := tryKI_ex (i := 5) (j := 4) (xs := ["NoTurn"]) e0 (by decide) (by simp) (by simp)
  have i1 : isYF [("NoTurn", ["BelowNought", "NoBack", "NoColours", "NoLeading", "NoName", "NoNumber", "NoRow", "NoSet", "NoText", "TooMany"])] [.xn "NoTurn" "at" due, .nam false "NoTurn"] = some (.bl true) := rfl
  have i2 : isYF [("NoTurn", ["BelowNought", "NoBack", "NoColours", "NoLeading", "NoName", "NoNumber", "NoRow", "NoSet", "NoText", "TooMany"])] [.xn "NoTurn" "at" due, .opq (.ty "ValueError")] = some (.bl true) := rfl
  have i3 : isYF [("NoTurn", ["BelowNought", "NoBack", "NoColours", "NoLeading", "NoName", "NoNumber", "NoRow", "NoSet", "NoText", "TooMany"])] [.xn "NoTurn" "at" due, .tup [.nam false "BelowNought", .nam false "NoBack", .nam false "NoColours", .nam false "NoLeading", .nam false "NoName", .nam false "NoNumber", .nam false "NoRow"]] = some (.bl false) := by
    unfold isYF
    simp only [lookX, if_true]
    rw [if_pos (by decide)]
    rfl
  have i4 : isYF [("NoTurn", ["BelowNought", "NoBack", "NoColours", "NoLeading", "NoName", "NoNumber", "NoRow", "NoSet", "NoText", "TooMany"])] [.xn "NoTurn" "at" due, .tup [.nam false "NoSet", .nam false "NoText", .nam false "TooMany"]] = some (.bl false) := by
    unfold isYF
    simp only [lookX, if_true]
    rw [if_pos (by decide)]
    rfl
  generalize isYF [("NoTurn", ["BelowNought", "NoBack", "NoColours", "NoLeading", "NoName", "NoNumber", "NoRow", "NoSet", "NoText", "TooMany"])] = isY at *
  have hx : ("NoTurn" : Str) ∈ (["NoTurn"] : List Str) ∧ ("at" : Str) = "at" := ⟨by decide, rfl⟩
  have hsm : f__law_same [.int due, .int due] = .ret (.bl true) := by
    unfold f__law_same m__law_same
    simp only [lstM_ap, tupM_ap, le_size, seqM_ap, nxM_ap, brM_ap, ctM_ap, retM_ap, retNM_ap, ifS_ap, asgF_ap, asgO_ap, dropM_ap, frzE_ap, frzM_ap, rdM_ap, vrM_ap, cM_ap, nilM_ap, consM_ap, consTM_ap, consNM_ap, opM_ap, tstM_ap, andM_ap, orM_ap, notM_ap, ifM_ap, andVM_ap, orVM_ap, notVM_ap, immM_ap, imM_ap, ixT_ap, yesM_ap, mutM_ap, mvM_ap, clF_ap, clT_ap, bdName_ap, itemsM_ap, asgG_ap, envF_ap, envP_ap, callF_ap, callP_ap, ownAt0_ap, itemsD_lst, itemsD_tup, chM_ap, slM_ap, noM_ap, partM_ap, bdB_ap, bdTup_ap, bdList_cons, bdList_nil, List.length_cons, List.length_nil, List.set_cons_succ, List.set_cons_zero, List.getElem?_cons_zero, List.getElem?_cons_succ, List.map_cons, List.map_nil, List.cons_append, List.nil_append, List.replicate, Nat.zero_add, Nat.reduceAdd, Nat.reduceSub, Nat.reduceLT, Nat.reduceLeDiff, Nat.reduceEqDiff, if_true, if_false, reduceIte, Bool.false_eq_true, NxS_nx, NxS_ct, RetF_ret, RetP_ret, imm, Bool.not_true, Bool.not_false, eqF_int, decide_true, hz2, eq_str oz2]
  have hnz : neF [.str z, .str z] = some (.bl false) := by
    have := eq_str oz
    rw [eqF_ap] at this
    rw [neF_ap]
    cases e : eqP (.str z) (.str z) with
    | none => rw [e] at this; cases this
    | some b => rw [e] at this; cases b <;> first | rfl | cases this
  simp only [lstM_ap, tupM_ap, le_size, seqM_ap, nxM_ap, brM_ap, ctM_ap, retM_ap, retNM_ap, ifS_ap, asgF_ap, asgO_ap, dropM_ap, frzE_ap, frzM_ap, rdM_ap, vrM_ap, cM_ap, nilM_ap, consM_ap, consTM_ap, consNM_ap, opM_ap, tstM_ap, andM_ap, orM_ap, notM_ap, ifM_ap, andVM_ap, orVM_ap, notVM_ap, immM_ap, imM_ap, ixT_ap, yesM_ap, mutM_ap, mvM_ap, clF_ap, clT_ap, bdName_ap, itemsM_ap, asgG_ap, envF_ap, envP_ap, callF_ap, callP_ap, ownAt0_ap, itemsD_lst, itemsD_tup, chM_ap, slM_ap, noM_ap, partM_ap, bdB_ap, bdTup_ap, bdList_cons, bdList_nil, List.length_cons, List.length_nil, List.set_cons_succ, List.set_cons_zero, List.getElem?_cons_zero, List.getElem?_cons_succ, List.map_cons, List.map_nil, List.cons_append, List.nil_append, List.replicate, Nat.zero_add, Nat.reduceAdd, Nat.reduceSub, Nat.reduceLT, Nat.reduceLeDiff, Nat.reduceEqDiff, if_true, if_false, reduceIte, Bool.false_eq_true, NxS_nx, NxS_ct, RetF_ret, RetP_ret, imm, Bool.not_true, Bool.not_false, hz, e1, hnz, i1, i2, i3, i4, xatM_ap, hx, and_self, if_true, hsm, le_size (show 7 < 1000000 by omega), le_size (show 3 < 1000000 by omega), imm]
end MM

set_option Elab.async false
set_option linter.all false
set_option maxRecDepth 100000
set_option maxHeartbeats 8000000
noncomputable section
namespace MM
open PySem PySem.Spec PyProof.Rows L2

/-! ### turns of four things at most, the rest stays -/
def lists (b : Nat) : Nat → List (List Nat)
  | 0 => [[]]
  | k + 1 => (List.range b).flatMap fun x => (lists b k).map (x :: ·)
theorem mem_lists {b : Nat} : ∀ {k : Nat} {l : List Nat}, l ∈ lists b k ↔ l.length = k ∧ ∀ x ∈ l, x < b
  | 0, l => by
    unfold lists
    rw [List.mem_singleton]
    constructor
    · rintro rfl
      simp
    · exact fun h => List.eq_nil_of_length_eq_zero h.1
  | k + 1, l => by
    unfold lists
    rw [List.mem_flatMap]
    constructor
    · rintro ⟨x, hx, h⟩
      obtain ⟨t, ht, rfl⟩ := List.mem_map.mp h
      obtain ⟨h1, h2⟩ := mem_lists.mp ht
      refine ⟨by rw [List.length_cons, h1], fun y hy => ?_⟩
      rcases List.mem_cons.mp hy with rfl | hy
      · exact List.mem_range.mp hx
      · exact h2 y hy
    · rintro ⟨h1, h2⟩
      match l, h1, h2 with
      | x :: t, h1, h2 =>
        exact ⟨x, List.mem_range.mpr (h2 x List.mem_cons_self), List.mem_map.mpr ⟨t, mem_lists.mpr ⟨by simpa using h1, fun y hy => h2 y (List.mem_cons_of_mem _ hy)⟩, rfl⟩⟩
def prm (m : Nat) : List (List Nat) := (lists m m).filter fun l => decide l.Nodup
theorem prm_len : ∀ m, m < 5 → (prm m).length ≤ 24 := by decide +kernel
theorem mem_prm {m : Nat} {l : List Nat} : l ∈ prm m ↔ Turn m l := by
  unfold prm
  rw [List.mem_filter, mem_lists, decide_eq_true_eq]
  constructor
  · rintro ⟨⟨h1, h2⟩, h3⟩
    exact Turn.mk' h1 h3 h2
  · exact fun T => ⟨⟨T.len, fun x hx => T.mem.mp hx⟩, T.nodup⟩
def tl (n m : Nat) : List Nat := List.range' m (n - m)
theorem tl_turn {n m : Nat} (h : m ≤ n) {l : List Nat} (T : Turn m l) : Turn n (l ++ tl n m) := by
  have e : List.range n = List.range m ++ tl n m := by
    unfold tl
    rw [List.range_eq_range', List.range_eq_range']
    have := List.range'_append_1 (s := 0) (m := m) (n := n - m)
    rw [Nat.zero_add] at this
    rw [this]
    congr 1
    omega
  unfold Turn
  rw [e]
  exact T.append_right _
theorem tl_at {n m : Nat} (h : m ≤ n) {l : List Nat} (T : Turn m l) {k : Nat} (hk : k < n) : (l ++ tl n m).getD k 0 = if k < m then l.getD k 0 else k := by
  have hl := T.len
  split
  · rw [List.getD_eq_getElem?_getD, List.getElem?_append_left (by omega), ← List.getD_eq_getElem?_getD]
  · unfold tl
    rw [List.getD_eq_getElem?_getD, List.getElem?_append_right (by omega), List.getElem?_range' (by omega)]
    show m + 1 * (k - l.length) = k
    omega
theorem tl_comp {n m : Nat} (h : m ≤ n) {a l : List Nat} (A : Turn m a) (T : Turn m l) : comp (a ++ tl n m) (l ++ tl n m) = comp a l ++ tl n m := by
  unfold comp
  rw [List.map_append]
  congr 1
  · refine List.map_congr_left fun x hx => ?_
    have hx := A.mem.mp hx
    rw [tl_at h T (by omega), if_pos hx]
  · refine (List.map_congr_left fun x hx => ?_).trans (List.map_id _)
    unfold tl at hx
    have hx := List.mem_range'_1.mp hx
    rw [tl_at h T (by omega), if_neg (by omega)]
    rfl
theorem group_small {n m : Nat} (h0 : 0 < m) (hm : m < 5) (h : m ≤ n) (hn : n < 8) {l : List Nat} (T : Turn m l) : ∃ G : List D, f_group_of [.int (n : Nat), .lst [tupN (l ++ tl n m)]] = .ret (.tup G) := by
  obtain ⟨G, e, _⟩ := group_fin (n := n) (by omega) hn (ts := [l ++ tl n m]) (E := (prm m).map (· ++ tl n m)) (fun t ht => by rw [List.mem_singleton.mp ht]; exact tl_turn h T) (by simp) (List.mem_map.mpr ⟨List.range m, mem_prm.mpr (range_turn m), by
      unfold tl
      rw [List.range_eq_range', List.range_eq_range', show List.range' 0 n = List.range' 0 m ++ List.range' m (n - m) from by
        have := List.range'_append_1 (s := 0) (m := m) (n := n - m)
        rw [Nat.zero_add] at this
        rw [this]
        congr 1
        omega]⟩) (fun x hx t ht => by
      obtain ⟨a, ha, rfl⟩ := List.mem_map.mp hx
      rw [List.mem_singleton.mp ht, tl_comp h (mem_prm.mp ha) T]
      exact List.mem_map.mpr ⟨_, mem_prm.mpr (comp_turn (mem_prm.mp ha) T), rfl⟩) (by rw [List.length_map]; have := prm_len m hm; omega)
  exact ⟨_, e⟩
/-! ### the turns that are drawn -/
theorem sh_turn {n : Nat} (hn : n < 8) {l : List Nat} (T : Turn n l) : ShO 2 2000 (tupN l) :=
  (sho_tup (k := 0) (B := 0) (N := 9) (sho_ofN fun x hx => by have := T.mem.mp hx; omega) (by rw [ofN_length, T.len]; omega)).mono (by omega) (by omega)
theorem turns_ok {pen : D} (Pn : Pen pen) {n : Nat} (h0 : 0 < n) (hn : n < 8) : ∃ (T : List (List Nat)) (pen' : D), p__law_turns pen [.int (n : Nat)] = .ret (.lst (T.map tupN)) pen' ∧ (∀ l ∈ T, Turn n l) ∧ T.length ≤ 2 ∧ Pen pen' := by
  obtain ⟨j, pen1, e1, hj, P1⟩ := take_any Pn 3 (by omega) (by omega)
  have e1' : p__law_draw pen [.int 3] = .ret (.int j) pen1 := e1
  unfold p__law_turns m__law_turns
  simp only [clP_eq, lstM_ap, tupM_ap, le_size, seqM_ap, nxM_ap, brM_ap, ctM_ap, retM_ap, retNM_ap, ifS_ap, asgF_ap, asgO_ap, dropM_ap, frzE_ap, frzM_ap, rdM_ap, vrM_ap, cM_ap, nilM_ap, consM_ap, consTM_ap, consNM_ap, opM_ap, tstM_ap, andM_ap, orM_ap, notM_ap, ifM_ap, andVM_ap, orVM_ap, notVM_ap, immM_ap, imM_ap, ixT_ap, yesM_ap, mutM_ap, mvM_ap, clF_ap, clT_ap, bdName_ap, itemsM_ap, asgG_ap, envF_ap, envP_ap, callF_ap, callP_ap, ownAt0_ap, itemsD_lst, itemsD_tup, chM_ap, slM_ap, noM_ap, partM_ap, bdB_ap, bdTup_ap, bdList_cons, bdList_nil, List.length_cons, List.length_nil, List.set_cons_succ, List.set_cons_zero, List.getElem?_cons_zero, List.getElem?_cons_succ, List.map_cons, List.map_nil, List.cons_append, List.nil_append, List.replicate, Nat.zero_add, Nat.reduceAdd, Nat.reduceSub, Nat.reduceLT, Nat.reduceLeDiff, Nat.reduceEqDiff, if_true, if_false, reduceIte, Bool.false_eq_true, NxS_nx, NxS_ct, RetF_ret, RetP_ret, imm, Bool.not_true, Bool.not_false]
  generalize hC : lcM _ _ _ _ _ _ = rc
  obtain ⟨ys, pen2, rfl, ⟨P2, hys⟩, hyl⟩ := lc_acc hC (List.range j) (fun (i : Nat) => D.int (i : Int)) (fun (s : D) => [some (true, s), some (false, .int (n : Nat)), none, none]) (fun (b : List (List Nat)) s => Pen s ∧ ∀ x ∈ b, Turn n x) tupN pen1
    (range1_ok (n := j) (by simp only [clP_eq, lstM_ap, tupM_ap, le_size, seqM_ap, nxM_ap, brM_ap, ctM_ap, retM_ap, retNM_ap, ifS_ap, asgF_ap, asgO_ap, dropM_ap, frzE_ap, frzM_ap, rdM_ap, vrM_ap, cM_ap, nilM_ap, consM_ap, consTM_ap, consNM_ap, opM_ap, tstM_ap, andM_ap, orM_ap, notM_ap, ifM_ap, andVM_ap, orVM_ap, notVM_ap, immM_ap, imM_ap, ixT_ap, yesM_ap, mutM_ap, mvM_ap, clF_ap, clT_ap, bdName_ap, itemsM_ap, asgG_ap, envF_ap, envP_ap, callF_ap, callP_ap, ownAt0_ap, itemsD_lst, itemsD_tup, chM_ap, slM_ap, noM_ap, partM_ap, bdB_ap, bdTup_ap, bdList_cons, bdList_nil, List.length_cons, List.length_nil, List.set_cons_succ, List.set_cons_zero, List.getElem?_cons_zero, List.getElem?_cons_succ, List.map_cons, List.map_nil, List.cons_append, List.nil_append, List.replicate, Nat.zero_add, Nat.reduceAdd, Nat.reduceSub, Nat.reduceLT, Nat.reduceLeDiff, Nat.reduceEqDiff, if_true, if_false, reduceIte, Bool.false_eq_true, NxS_nx, NxS_ct, RetF_ret, RetP_ret, imm, Bool.not_true, Bool.not_false, e1']) (by omega)) ⟨P1, fun _ h => nomatch h⟩ (fun _ _ _ => trivial) (fun _ _ => rfl) (by simp; omega) (by
    intro x hx b pen hb ⟨P, hb2⟩
    obtain ⟨l, pen', e2, hl, P'⟩ := any_turn_ok P (n := n) (by omega)
    refine ⟨l, pen', ?_, P', fun y hy => ?_⟩
    · simp only [clP_eq, lstM_ap, tupM_ap, le_size, seqM_ap, nxM_ap, brM_ap, ctM_ap, retM_ap, retNM_ap, ifS_ap, asgF_ap, asgO_ap, dropM_ap, frzE_ap, frzM_ap, rdM_ap, vrM_ap, cM_ap, nilM_ap, consM_ap, consTM_ap, consNM_ap, opM_ap, tstM_ap, andM_ap, orM_ap, notM_ap, ifM_ap, andVM_ap, orVM_ap, notVM_ap, immM_ap, imM_ap, ixT_ap, yesM_ap, mutM_ap, mvM_ap, clF_ap, clT_ap, bdName_ap, itemsM_ap, asgG_ap, envF_ap, envP_ap, callF_ap, callP_ap, ownAt0_ap, itemsD_lst, itemsD_tup, chM_ap, slM_ap, noM_ap, partM_ap, bdB_ap, bdTup_ap, bdList_cons, bdList_nil, List.length_cons, List.length_nil, List.set_cons_succ, List.set_cons_zero, List.getElem?_cons_zero, List.getElem?_cons_succ, List.map_cons, List.map_nil, List.cons_append, List.nil_append, List.replicate, Nat.zero_add, Nat.reduceAdd, Nat.reduceSub, Nat.reduceLT, Nat.reduceLeDiff, Nat.reduceEqDiff, if_true, if_false, reduceIte, Bool.false_eq_true, NxS_nx, NxS_ct, RetF_ret, RetP_ret, imm, Bool.not_true, Bool.not_false, e2]
    · rcases List.mem_append.mp hy with hy | hy
      · exact hb2 y hy
      · rw [List.mem_singleton.mp hy]; exact hl)
  rw [List.length_range] at hyl
  by_cases h4 : (4 : Int) < (n : Nat)
  · obtain ⟨w, pen3, e3, hw, P3⟩ := take_any P2 3 (by omega) (by omega)
    have e3' : p__law_draw pen2 [.int 3] = .ret (.int w) pen3 := e3
    by_cases w0 : w = 0
    · have q0 : eqF [.int (w : Int), .int 0] = some (.bl true) := by rw [eqF_int, w0]; rfl
      obtain ⟨a, b, ha, hb, r1, r2⟩ : ∃ a b : List Nat, Turn n a ∧ Turn n b ∧ (∃ x, tupRg2F [.int 1, .int (n : Nat)] = some (.tup x) ∧ addF [.tup x, .tup [.int 0]] = some (tupN a)) ∧ ∃ x, tupRg2F [.int 2, .int (n : Nat)] = some (.tup x) ∧ addF [.tup [.int 1, .int 0], .tup x] = some (tupN b) := by
        have : n = 5 ∨ n = 6 ∨ n = 7 := by omega
        rcases this with rfl | rfl | rfl
        · exact ⟨[1, 2, 3, 4, 0], [1, 0, 2, 3, 4], by unfold Turn; decide, by unfold Turn; decide, ⟨ofN [1, 2, 3, 4], if_pos (by unfold RgOk; omega), (addF_tup (by decide)).trans rfl⟩, ⟨ofN [2, 3, 4], if_pos (by unfold RgOk; omega), (addF_tup (by decide)).trans rfl⟩⟩
        · exact ⟨[1, 2, 3, 4, 5, 0], [1, 0, 2, 3, 4, 5], by unfold Turn; decide, by unfold Turn; decide, ⟨ofN [1, 2, 3, 4, 5], if_pos (by unfold RgOk; omega), (addF_tup (by decide)).trans rfl⟩, ⟨ofN [2, 3, 4, 5], if_pos (by unfold RgOk; omega), (addF_tup (by decide)).trans rfl⟩⟩
        · exact ⟨[1, 2, 3, 4, 5, 6, 0], [1, 0, 2, 3, 4, 5, 6], by unfold Turn; decide, by unfold Turn; decide, ⟨ofN [1, 2, 3, 4, 5, 6], if_pos (by unfold RgOk; omega), (addF_tup (by decide)).trans rfl⟩, ⟨ofN [2, 3, 4, 5, 6], if_pos (by unfold RgOk; omega), (addF_tup (by decide)).trans rfl⟩⟩
      obtain ⟨x1, r1, r3⟩ := r1
      obtain ⟨x2, r2, r4⟩ := r2
      simp only [clP_eq, lstM_ap, tupM_ap, le_size, seqM_ap, nxM_ap, brM_ap, ctM_ap, retM_ap, retNM_ap, ifS_ap, asgF_ap, asgO_ap, dropM_ap, frzE_ap, frzM_ap, rdM_ap, vrM_ap, cM_ap, nilM_ap, consM_ap, consTM_ap, consNM_ap, opM_ap, tstM_ap, andM_ap, orM_ap, notM_ap, ifM_ap, andVM_ap, orVM_ap, notVM_ap, immM_ap, imM_ap, ixT_ap, yesM_ap, mutM_ap, mvM_ap, clF_ap, clT_ap, bdName_ap, itemsM_ap, asgG_ap, envF_ap, envP_ap, callF_ap, callP_ap, ownAt0_ap, itemsD_lst, itemsD_tup, chM_ap, slM_ap, noM_ap, partM_ap, bdB_ap, bdTup_ap, bdList_cons, bdList_nil, List.length_cons, List.length_nil, List.set_cons_succ, List.set_cons_zero, List.getElem?_cons_zero, List.getElem?_cons_succ, List.map_cons, List.map_nil, List.cons_append, List.nil_append, List.replicate, Nat.zero_add, Nat.reduceAdd, Nat.reduceSub, Nat.reduceLT, Nat.reduceLeDiff, Nat.reduceEqDiff, if_true, if_false, reduceIte, Bool.false_eq_true, NxS_nx, NxS_ct, RetF_ret, RetP_ret, imm, Bool.not_true, Bool.not_false, cmpF_int, decide_eq_true h4, e3', q0, r1, r2, r3, r4, le_size (show 2 < 1000000 by omega), le_size (show 1 < 1000000 by omega)]
      exact ⟨[a, b], pen3, rfl, fun l hl => by
        rcases List.mem_cons.mp hl with rfl | hl
        · exact ha
        · rw [List.mem_singleton.mp hl]; exact hb, by simp, P3⟩
    · have q0 : eqF [.int (w : Int), .int 0] = some (.bl false) := by rw [eqF_int, decide_eq_false (by omega)]
      simp only [clP_eq, lstM_ap, tupM_ap, le_size, seqM_ap, nxM_ap, brM_ap, ctM_ap, retM_ap, retNM_ap, ifS_ap, asgF_ap, asgO_ap, dropM_ap, frzE_ap, frzM_ap, rdM_ap, vrM_ap, cM_ap, nilM_ap, consM_ap, consTM_ap, consNM_ap, opM_ap, tstM_ap, andM_ap, orM_ap, notM_ap, ifM_ap, andVM_ap, orVM_ap, notVM_ap, immM_ap, imM_ap, ixT_ap, yesM_ap, mutM_ap, mvM_ap, clF_ap, clT_ap, bdName_ap, itemsM_ap, asgG_ap, envF_ap, envP_ap, callF_ap, callP_ap, ownAt0_ap, itemsD_lst, itemsD_tup, chM_ap, slM_ap, noM_ap, partM_ap, bdB_ap, bdTup_ap, bdList_cons, bdList_nil, List.length_cons, List.length_nil, List.set_cons_succ, List.set_cons_zero, List.getElem?_cons_zero, List.getElem?_cons_succ, List.map_cons, List.map_nil, List.cons_append, List.nil_append, List.replicate, Nat.zero_add, Nat.reduceAdd, Nat.reduceSub, Nat.reduceLT, Nat.reduceLeDiff, Nat.reduceEqDiff, if_true, if_false, reduceIte, Bool.false_eq_true, NxS_nx, NxS_ct, RetF_ret, RetP_ret, imm, Bool.not_true, Bool.not_false, cmpF_int, decide_eq_true h4, e3', q0]
      exact ⟨ys, pen3, rfl, hys, by omega, P3⟩
  · simp only [clP_eq, lstM_ap, tupM_ap, le_size, seqM_ap, nxM_ap, brM_ap, ctM_ap, retM_ap, retNM_ap, ifS_ap, asgF_ap, asgO_ap, dropM_ap, frzE_ap, frzM_ap, rdM_ap, vrM_ap, cM_ap, nilM_ap, consM_ap, consTM_ap, consNM_ap, opM_ap, tstM_ap, andM_ap, orM_ap, notM_ap, ifM_ap, andVM_ap, orVM_ap, notVM_ap, immM_ap, imM_ap, ixT_ap, yesM_ap, mutM_ap, mvM_ap, clF_ap, clT_ap, bdName_ap, itemsM_ap, asgG_ap, envF_ap, envP_ap, callF_ap, callP_ap, ownAt0_ap, itemsD_lst, itemsD_tup, chM_ap, slM_ap, noM_ap, partM_ap, bdB_ap, bdTup_ap, bdList_cons, bdList_nil, List.length_cons, List.length_nil, List.set_cons_succ, List.set_cons_zero, List.getElem?_cons_zero, List.getElem?_cons_succ, List.map_cons, List.map_nil, List.cons_append, List.nil_append, List.replicate, Nat.zero_add, Nat.reduceAdd, Nat.reduceSub, Nat.reduceLT, Nat.reduceLeDiff, Nat.reduceEqDiff, if_true, if_false, reduceIte, Bool.false_eq_true, NxS_nx, NxS_ct, RetF_ret, RetP_ret, imm, Bool.not_true, Bool.not_false, cmpF_int, decide_eq_false h4]
    exact ⟨ys, pen2, rfl, hys, by omega, P2⟩
end MM

set_option Elab.async false
set_option linter.all false
set_option maxRecDepth 100000
set_option maxHeartbeats 8000000
noncomputable section
namespace MM
open PySem PySem.Spec PyProof.Rows L2

def El (d : D) : Prop := d = .dK [] ∨ ShO 2 2000 d
theorem show_list {ds : List D} (h : ∀ d ∈ ds, El d) (hl : ds.length ≤ 10) : ∃ z, reprZF [.lst ds] = some (.str z) ∧ PyData.strOk z = true :=
  showZ (she_lst (k := 2) (B := 2000) (N := 10) (by omega) h hl) (by omega) (by omega)
theorem bad_ins {n f : Nat} {T : List (List Nat)} (hT : ∀ l ∈ T, Turn n l) (hf : f ≤ T.length) {d : D} (O : Odd n d) (rest : List D) : Bad n f ((T.take f).map tupN ++ (d :: rest)) := by
  have hl : ((T.take f).map tupN).length = f := by rw [List.length_map, List.length_take]; omega
  refine ⟨fun i h hi => ?_, by rw [List.length_append, hl, List.length_cons]; omega, ?_⟩
  · refine ⟨T[i]'(by omega), hT _ (List.getElem_mem _), ?_⟩
    rw [List.getElem_append_left (by omega)]
    simp
  · have : ((T.take f).map tupN ++ (d :: rest))[f]'(by rw [List.length_append, hl, List.length_cons]; omega) = d := by
      rw [List.getElem_append_right (by omega)]
      simp [hl, Nat.min_eq_left hf]
    rw [this]
    exact O.no
theorem addF_lst' {a b : List D} (h : a.length + b.length < 1000000) : addF [.lst a, .lst b] = some (.lst (a ++ b)) := addF_lst h
theorem law_3_ok (ns : List Int) {pen : D} (Pn : Pen pen) {d2 d3 d4 d5 d6 d7 d8 d9 : Option (Bool × D)} :
    NxS (m_law_3 [some (false, .scr ns), some (true, pen), d2, d3, d4, d5, d6, d7, d8, d9]) fun e => ∃ (pen : D) (d3 d4 d5 d6 d7 d8 d9 : Option (Bool × D)), e = [some (false, .scr ns), some (true, pen), d2, d3, d4, d5, d6, d7, d8, d9] ∧ Pen pen := by
  obtain ⟨a, pen1, e1, ha, P1⟩ := take_any Pn 7 (by omega) (by omega)
  have e1' : p__law_draw pen [.int 7] = .ret (.int a) pen1 := e1
  have ha1 : addF [.int 1, .int (a : Int)] = some (.int ((1 + a : Nat) : Int)) := by rw [addF_int]; simp
  obtain ⟨n, hn⟩ : ∃ n, n = 1 + a := ⟨_, rfl⟩
  rw [← hn] at ha1
  have h0 : 0 < n := by omega
  have h8 : n < 8 := by omega
  obtain ⟨T, pen2, e2, hT, hTl, P2⟩ := turns_ok P1 h0 h8
  have hlT : lenF [.lst (T.map tupN)] = some (.int (T.length : Nat)) := by rw [lenF_lst, List.length_map]
  have hT1 : addF [.int (T.length : Nat), .int 1] = some (.int ((T.length + 1 : Nat) : Int)) := by rw [addF_int]; simp
  obtain ⟨f, pen3, e3, hf, P3⟩ := take_any P2 (T.length + 1) (by omega) (by omega)
  obtain ⟨d, pen4, e4, O, P4⟩ := odd_ok P3 h0 h8
  -- the first list
  have tk : slF (.lst (T.map tupN)) none (some (f : Int)) = some (.lst ((T.take f).map tupN)) := by rw [slF_takeL, List.map_take]
  have dr : slF (.lst (T.map tupN)) (some (f : Int)) none = some (.lst ((T.drop f).map tupN)) := by rw [slF_dropL, List.map_drop]
  have hlt : ((T.take f).map tupN).length = f := by rw [List.length_map, List.length_take]; omega
  have hld : ((T.drop f).map tupN).length = T.length - f := by rw [List.length_map, List.length_drop]
  have a1 : addF [.lst ((T.take f).map tupN), .lst [d]] = some (.lst ((T.take f).map tupN ++ [d])) := addF_lst' (by rw [hlt]; simp only [List.length_cons, List.length_nil]; omega)
  have a2 : addF [.lst ((T.take f).map tupN ++ [d]), .lst ((T.drop f).map tupN)] = some (.lst ((T.take f).map tupN ++ (d :: (T.drop f).map tupN))) := by
    rw [addF_lst' (by rw [List.length_append, hlt, hld]; simp only [List.length_cons, List.length_nil]; omega)]
    simp
  have B1 := bad_ins hT (show f ≤ T.length by omega) O ((T.drop f).map tupN)
  have elT : ∀ x ∈ T.map tupN, El x := fun x hx => by
    obtain ⟨l, hl, rfl⟩ := List.mem_map.mp hx
    exact .inr (sh_turn h8 (hT l hl))
  have el1 : ∀ x ∈ (T.take f).map tupN ++ (d :: (T.drop f).map tupN), El x := fun x hx => by
    rcases List.mem_append.mp hx with hx | hx
    · rw [List.map_take] at hx
      exact elT x (List.mem_of_mem_take hx)
    · rcases List.mem_cons.mp hx with rfl | hx
      · exact O.sh
      · rw [List.map_drop] at hx
        exact elT x (List.mem_of_mem_drop hx)
  obtain ⟨S, hS⟩ : ∃ S, S = (T.take f).map tupN ++ (d :: (T.drop f).map tupN) := ⟨_, rfl⟩
  have hSl : S.length = T.length + 1 := by rw [hS, List.length_append, List.length_cons, hlt, hld]; omega
  rw [← hS] at a2 B1 el1
  have hlS : listF [.lst S] = some (.lst S) := rfl
  have r1 := refused_ok (many := (n : Nat)) (due := (f : Nat)) (show_list el1 (by omega)) (by omega) (group_bad h0 h8 (by omega) B1)
  have hleS : lenF [.lst S] = some (.int (S.length : Nat)) := lenF_lst
  have hsub : subF [.int (S.length : Nat), .int (f : Nat)] = some (.int ((S.length - f : Nat) : Int)) := by
    rw [subF_int]
    congr 2
    omega
  obtain ⟨b, pen5, e5, hb, P5⟩ := take_any P4 (S.length - f) (by omega) (by omega)
  have hf1 : addF [.int (f : Nat), .int 1] = some (.int ((f + 1 : Nat) : Int)) := by rw [addF_int]; simp
  have hf2 : addF [.int ((f + 1 : Nat) : Int), .int (b : Nat)] = some (.int ((f + 1 + b : Nat) : Int)) := by rw [addF_int]; simp
  obtain ⟨d', pen6, e6, O', P6⟩ := odd_ok P5 h0 h8
  obtain ⟨s, hs⟩ : ∃ s, s = f + 1 + b := ⟨_, rfl⟩
  rw [← hs] at hf2
  have tk2 : slF (.lst S) none (some (s : Int)) = some (.lst (S.take s)) := slF_takeL
  have dr2 : slF (.lst S) (some (s : Int)) none = some (.lst (S.drop s)) := slF_dropL
  have htl : (S.take s).length ≤ S.length := by rw [List.length_take]; omega
  have hdl : (S.drop s).length ≤ S.length := by rw [List.length_drop]; omega
  have a3 : addF [.lst (S.take s), .lst [d']] = some (.lst (S.take s ++ [d'])) := addF_lst' (by simp only [List.length_cons, List.length_nil]; omega)
  have a4 : addF [.lst (S.take s ++ [d']), .lst (S.drop s)] = some (.lst (S.take s ++ [d'] ++ S.drop s)) := addF_lst' (by rw [List.length_append]; simp only [List.length_cons, List.length_nil]; omega)
  have el2 : ∀ x ∈ S.take s ++ [d'] ++ S.drop s, El x := fun x hx => by
    rcases List.mem_append.mp hx with hx | hx
    · rcases List.mem_append.mp hx with hx | hx
      · exact el1 x (List.mem_of_mem_take hx)
      · rw [List.mem_singleton.mp hx]; exact O'.sh
    · exact el1 x (List.mem_of_mem_drop hx)
  have hS2 : (S.take s ++ [d'] ++ S.drop s).length ≤ 10 := by rw [List.length_append, List.length_append]; simp only [List.length_cons, List.length_nil]; omega
  have B2 : Bad n f (S.take s ++ [d'] ++ S.drop s) := by
    have e : S.take s = (T.take f).map tupN ++ (d :: ((T.drop f).map tupN).take (s - (f + 1))) := by
      rw [hS, List.take_append, hlt, List.take_of_length_le (by omega), show s - f = (s - (f + 1)) + 1 by omega, List.take_succ_cons]
    rw [e, List.append_assoc, List.append_assoc, List.cons_append]
    exact bad_ins hT (by omega) O _
  have r2 := refused_ok (many := (n : Nat)) (due := (f : Nat)) (show_list el2 hS2) (by omega) (group_bad h0 h8 (by omega) B2)
  -- strange numbers
  obtain ⟨w, pen7, e7, hw, P7⟩ := take_any P6 6 (by omega) (by omega)
  have e7' : p__law_draw pen6 [.int 6] = .ret (.int w) pen7 := e7
  have hpw : powF [.int 10, .int 29] = some (.int 100000000000000000000000000000) := if_pos (by decide)
  obtain ⟨x, hx, hix⟩ : ∃ x : Int, (x < 1 ∨ 7 < x) ∧ ixF [.lst [.int 0, .int 8, .int (-1), .int (-7), .int 100000000000000000000000000000, .int (-100000000000000000000000000000)], .int (w : Nat)] = some (.int x) := by
    have : w = 0 ∨ w = 1 ∨ w = 2 ∨ w = 3 ∨ w = 4 ∨ w = 5 := by omega
    rcases this with rfl | rfl | rfl | rfl | rfl | rfl
    · exact ⟨0, by omega, rfl⟩
    · exact ⟨8, by omega, rfl⟩
    · exact ⟨-1, by omega, rfl⟩
    · exact ⟨-7, by omega, rfl⟩
    · exact ⟨100000000000000000000000000000, by omega, rfl⟩
    · exact ⟨-100000000000000000000000000000, by omega, rfl⟩
  have hlT2 : listF [.lst (T.map tupN)] = some (.lst (T.map tupN)) := rfl
  have r3 : ∀ y ∈ ([[], T.map tupN, S] : List (List D)), f__law_refused [.int x, .lst y, .int (-1)] = .ret (.bl true) := fun y hy => by
    refine refused_ok (show_list ?_ ?_) (by decide) (group_out hx)
    · simp only [List.mem_cons, List.not_mem_nil, or_false] at hy
      rcases hy with rfl | rfl | rfl
      · exact fun _ h => nomatch h
      · exact elT
      · exact el1
    · simp only [List.mem_cons, List.not_mem_nil, or_false] at hy
      rcases hy with rfl | rfl | rfl
      · simp
      · rw [List.length_map]; omega
      · omega
  unfold m_law_3 m_law_9 m_law_12
  simp only [clP_eq, lstM_ap, tupM_ap, le_size, seqM_ap, nxM_ap, brM_ap, ctM_ap, retM_ap, retNM_ap, ifS_ap, asgF_ap, asgO_ap, dropM_ap, frzE_ap, frzM_ap, rdM_ap, vrM_ap, cM_ap, nilM_ap, consM_ap, consTM_ap, consNM_ap, opM_ap, tstM_ap, andM_ap, orM_ap, notM_ap, ifM_ap, andVM_ap, orVM_ap, notVM_ap, immM_ap, imM_ap, ixT_ap, yesM_ap, mutM_ap, mvM_ap, clF_ap, clT_ap, bdName_ap, itemsM_ap, asgG_ap, envF_ap, envP_ap, callF_ap, callP_ap, ownAt0_ap, itemsD_lst, itemsD_tup, chM_ap, slM_ap, noM_ap, partM_ap, bdB_ap, bdTup_ap, bdList_cons, bdList_nil, List.length_cons, List.length_nil, List.set_cons_succ, List.set_cons_zero, List.getElem?_cons_zero, List.getElem?_cons_succ, List.map_cons, List.map_nil, List.cons_append, List.nil_append, List.replicate, Nat.zero_add, Nat.reduceAdd, Nat.reduceSub, Nat.reduceLT, Nat.reduceLeDiff, Nat.reduceEqDiff, if_true, if_false, reduceIte, Bool.false_eq_true, NxS_nx, NxS_ct, RetF_ret, RetP_ret, imm, Bool.not_true, Bool.not_false, e1', ha1, e2, hlT, hT1, e3, tk, e4, a1, dr, a2, hlS, r1, hf1, hleS, hsub, e5, hf2, tk2, e6, a3, dr2, a4, r2, negF, hpw, e7', hix, hlT2, le_size (show 1 < 1000000 by omega), le_size (show 6 < 1000000 by omega)]
  generalize hL : loopM _ _ _ _ = r
  obtain ⟨e', rfl, d9', rfl⟩ := for_items hL ([[], T.map tupN, S] : List (List D)) D.lst (fun done e => ∃ (d9 : Option (Bool × D)), e = [some (false, .scr ns), some (true, pen7), d2, some (false, .int (n : Nat)), some (false, .lst (T.map tupN)), some (false, .int (f : Nat)), some (false, .lst S), some (false, .int (s : Nat)), some (false, .int x), d9])
    (by simp only [lstM_ap, tupM_ap, le_size, seqM_ap, nxM_ap, brM_ap, ctM_ap, retM_ap, retNM_ap, ifS_ap, asgF_ap, asgO_ap, dropM_ap, frzE_ap, frzM_ap, rdM_ap, vrM_ap, cM_ap, nilM_ap, consM_ap, consTM_ap, consNM_ap, opM_ap, tstM_ap, andM_ap, orM_ap, notM_ap, ifM_ap, andVM_ap, orVM_ap, notVM_ap, immM_ap, imM_ap, ixT_ap, yesM_ap, mutM_ap, mvM_ap, clF_ap, clT_ap, bdName_ap, itemsM_ap, asgG_ap, envF_ap, envP_ap, callF_ap, callP_ap, ownAt0_ap, itemsD_lst, itemsD_tup, chM_ap, slM_ap, noM_ap, partM_ap, bdB_ap, bdTup_ap, bdList_cons, bdList_nil, List.length_cons, List.length_nil, List.set_cons_succ, List.set_cons_zero, List.getElem?_cons_zero, List.getElem?_cons_succ, List.map_cons, List.map_nil, List.cons_append, List.nil_append, List.replicate, Nat.zero_add, Nat.reduceAdd, Nat.reduceSub, Nat.reduceLT, Nat.reduceLeDiff, Nat.reduceEqDiff, if_true, if_false, reduceIte, Bool.false_eq_true, NxS_nx, NxS_ct, RetF_ret, RetP_ret, imm, Bool.not_true, Bool.not_false, hlS, hlT2, le_size (show 3 < 1000000 by omega), le_size (show 0 < 1000000 by omega)]) ⟨_, rfl⟩ (by
    rintro done y rest e hts ⟨d9, rfl⟩
    have hy : y ∈ ([[], T.map tupN, S] : List (List D)) := by rw [hts]; simp
    unfold m_law_14
    simp only [lstM_ap, tupM_ap, le_size, seqM_ap, nxM_ap, brM_ap, ctM_ap, retM_ap, retNM_ap, ifS_ap, asgF_ap, asgO_ap, dropM_ap, frzE_ap, frzM_ap, rdM_ap, vrM_ap, cM_ap, nilM_ap, consM_ap, consTM_ap, consNM_ap, opM_ap, tstM_ap, andM_ap, orM_ap, notM_ap, ifM_ap, andVM_ap, orVM_ap, notVM_ap, immM_ap, imM_ap, ixT_ap, yesM_ap, mutM_ap, mvM_ap, clF_ap, clT_ap, bdName_ap, itemsM_ap, asgG_ap, envF_ap, envP_ap, callF_ap, callP_ap, ownAt0_ap, itemsD_lst, itemsD_tup, chM_ap, slM_ap, noM_ap, partM_ap, bdB_ap, bdTup_ap, bdList_cons, bdList_nil, List.length_cons, List.length_nil, List.set_cons_succ, List.set_cons_zero, List.getElem?_cons_zero, List.getElem?_cons_succ, List.map_cons, List.map_nil, List.cons_append, List.nil_append, List.replicate, Nat.zero_add, Nat.reduceAdd, Nat.reduceSub, Nat.reduceLT, Nat.reduceLeDiff, Nat.reduceEqDiff, if_true, if_false, reduceIte, Bool.false_eq_true, NxS_nx, NxS_ct, RetF_ret, RetP_ret, imm, Bool.not_true, Bool.not_false, negF, r3 y hy]
    exact ⟨_, rfl⟩)
  -- a turn of few things
  have hmin : min2F [.int (n : Nat), .int 4] = some (.int ((min n 4 : Nat) : Int)) := by
    show some (D.int _) = _
    congr 2
    omega
  obtain ⟨l, pen8, e8, Tl, P8⟩ := any_turn_ok P7 (n := min n 4) (by omega)
  have hrg : tupRg2F [.int ((min n 4 : Nat) : Int), .int (n : Nat)] = some (tupN (tl n (min n 4))) := by
    have hr : RgOk ((min n 4 : Nat) : Int) (n : Nat) := by unfold RgOk; omega
    have e : tupRg2F [.int ((min n 4 : Nat) : Int), .int (n : Nat)] = some (.tup (rangeL ((min n 4 : Nat) : Int) (((n : Nat) : Int) - ((min n 4 : Nat) : Int)).toNat)) := if_pos hr
    rw [e]
    have : (((n : Nat) : Int) - ((min n 4 : Nat) : Int)).toNat = n - min n 4 := by omega
    rw [this]
    unfold rangeL tupN tl ofN
    rw [List.range'_eq_map_range, List.map_map]
    congr 2
  have had : addF [tupN l, tupN (tl n (min n 4))] = some (tupN (l ++ tl n (min n 4))) := by
    have := addF_tup (a := ofN l) (b := ofN (tl n (min n 4))) (by rw [ofN_length, ofN_length, Tl.len]; unfold tl; rw [List.length_range']; omega)
    refine this.trans ?_
    unfold tupN
    rw [ofN_append]
  obtain ⟨G, eG⟩ := group_small (n := n) (m := min n 4) (by omega) (by omega) (by omega) h8 Tl
  have hty : isiF .tuple [.tup G, .opq (.ty "tuple")] = some (.bl true) := rfl
  unfold m_law_16
  simp only [clP_eq, lstM_ap, tupM_ap, le_size, seqM_ap, nxM_ap, brM_ap, ctM_ap, retM_ap, retNM_ap, ifS_ap, asgF_ap, asgO_ap, dropM_ap, frzE_ap, frzM_ap, rdM_ap, vrM_ap, cM_ap, nilM_ap, consM_ap, consTM_ap, consNM_ap, opM_ap, tstM_ap, andM_ap, orM_ap, notM_ap, ifM_ap, andVM_ap, orVM_ap, notVM_ap, immM_ap, imM_ap, ixT_ap, yesM_ap, mutM_ap, mvM_ap, clF_ap, clT_ap, bdName_ap, itemsM_ap, asgG_ap, envF_ap, envP_ap, callF_ap, callP_ap, ownAt0_ap, itemsD_lst, itemsD_tup, chM_ap, slM_ap, noM_ap, partM_ap, bdB_ap, bdTup_ap, bdList_cons, bdList_nil, List.length_cons, List.length_nil, List.set_cons_succ, List.set_cons_zero, List.getElem?_cons_zero, List.getElem?_cons_succ, List.map_cons, List.map_nil, List.cons_append, List.nil_append, List.replicate, Nat.zero_add, Nat.reduceAdd, Nat.reduceSub, Nat.reduceLT, Nat.reduceLeDiff, Nat.reduceEqDiff, if_true, if_false, reduceIte, Bool.false_eq_true, NxS_nx, NxS_ct, RetF_ret, RetP_ret, imm, Bool.not_true, Bool.not_false, hmin, e8, hrg, had, eG, hty, le_size (show 1 < 1000000 by omega)]
  exact ⟨_, _, _, _, _, _, _, _, rfl, P8⟩
theorem maths (ns : List Int) (hl : ns.length ≤ 63) : f_law [.scr ns] = .ret (.bl true) := by
  obtain ⟨pen, e1, P⟩ := pen_start ns
  unfold f_law m_law
  simp only [lstM_ap, tupM_ap, le_size, seqM_ap, nxM_ap, brM_ap, ctM_ap, retM_ap, retNM_ap, ifS_ap, asgF_ap, asgO_ap, dropM_ap, frzE_ap, frzM_ap, rdM_ap, vrM_ap, cM_ap, nilM_ap, consM_ap, consTM_ap, consNM_ap, opM_ap, tstM_ap, andM_ap, orM_ap, notM_ap, ifM_ap, andVM_ap, orVM_ap, notVM_ap, immM_ap, imM_ap, ixT_ap, yesM_ap, mutM_ap, mvM_ap, clF_ap, clT_ap, bdName_ap, itemsM_ap, asgG_ap, envF_ap, envP_ap, callF_ap, callP_ap, ownAt0_ap, itemsD_lst, itemsD_tup, chM_ap, slM_ap, noM_ap, partM_ap, bdB_ap, bdTup_ap, bdList_cons, bdList_nil, List.length_cons, List.length_nil, List.set_cons_succ, List.set_cons_zero, List.getElem?_cons_zero, List.getElem?_cons_succ, List.map_cons, List.map_nil, List.cons_append, List.nil_append, List.replicate, Nat.zero_add, Nat.reduceAdd, Nat.reduceSub, Nat.reduceLT, Nat.reduceLeDiff, Nat.reduceEqDiff, if_true, if_false, reduceIte, Bool.false_eq_true, NxS_nx, NxS_ct, RetF_ret, RetP_ret, imm, Bool.not_true, Bool.not_false, e1]
  generalize hL : loopM _ _ _ _ = r
  obtain ⟨e', rfl, pen2, d2, d3, d4, d5, d6, d7, d8, d9, rfl, P2⟩ := for_items hL (List.range 8) (fun (i : Nat) => D.int (i : Int)) (fun done e => ∃ (pen : D) (d2 d3 d4 d5 d6 d7 d8 d9 : Option (Bool × D)), e = [some (false, .scr ns), some (true, pen), d2, d3, d4, d5, d6, d7, d8, d9] ∧ Pen pen)
    (range1_ok (n := 8) (by simp only [lstM_ap, tupM_ap, le_size, seqM_ap, nxM_ap, brM_ap, ctM_ap, retM_ap, retNM_ap, ifS_ap, asgF_ap, asgO_ap, dropM_ap, frzE_ap, frzM_ap, rdM_ap, vrM_ap, cM_ap, nilM_ap, consM_ap, consTM_ap, consNM_ap, opM_ap, tstM_ap, andM_ap, orM_ap, notM_ap, ifM_ap, andVM_ap, orVM_ap, notVM_ap, immM_ap, imM_ap, ixT_ap, yesM_ap, mutM_ap, mvM_ap, clF_ap, clT_ap, bdName_ap, itemsM_ap, asgG_ap, envF_ap, envP_ap, callF_ap, callP_ap, ownAt0_ap, itemsD_lst, itemsD_tup, chM_ap, slM_ap, noM_ap, partM_ap, bdB_ap, bdTup_ap, bdList_cons, bdList_nil, List.length_cons, List.length_nil, List.set_cons_succ, List.set_cons_zero, List.getElem?_cons_zero, List.getElem?_cons_succ, List.map_cons, List.map_nil, List.cons_append, List.nil_append, List.replicate, Nat.zero_add, Nat.reduceAdd, Nat.reduceSub, Nat.reduceLT, Nat.reduceLeDiff, Nat.reduceEqDiff, if_true, if_false, reduceIte, Bool.false_eq_true, NxS_nx, NxS_ct, RetF_ret, RetP_ret, imm, Bool.not_true, Bool.not_false]; rfl) (by omega)) ⟨pen, _, _, _, _, _, _, _, _, rfl, P⟩ (by
    rintro done x rest e hts ⟨pen, d2, d3, d4, d5, d6, d7, d8, d9, rfl, P⟩
    have := law_3_ok ns P (d2 := some (false, .int (x : Nat))) (d3 := d3) (d4 := d4) (d5 := d5) (d6 := d6) (d7 := d7) (d8 := d8) (d9 := d9)
    simp only [lstM_ap, tupM_ap, le_size, seqM_ap, nxM_ap, brM_ap, ctM_ap, retM_ap, retNM_ap, ifS_ap, asgF_ap, asgO_ap, dropM_ap, frzE_ap, frzM_ap, rdM_ap, vrM_ap, cM_ap, nilM_ap, consM_ap, consTM_ap, consNM_ap, opM_ap, tstM_ap, andM_ap, orM_ap, notM_ap, ifM_ap, andVM_ap, orVM_ap, notVM_ap, immM_ap, imM_ap, ixT_ap, yesM_ap, mutM_ap, mvM_ap, clF_ap, clT_ap, bdName_ap, itemsM_ap, asgG_ap, envF_ap, envP_ap, callF_ap, callP_ap, ownAt0_ap, itemsD_lst, itemsD_tup, chM_ap, slM_ap, noM_ap, partM_ap, bdB_ap, bdTup_ap, bdList_cons, bdList_nil, List.length_cons, List.length_nil, List.set_cons_succ, List.set_cons_zero, List.getElem?_cons_zero, List.getElem?_cons_succ, List.map_cons, List.map_nil, List.cons_append, List.nil_append, List.replicate, Nat.zero_add, Nat.reduceAdd, Nat.reduceSub, Nat.reduceLT, Nat.reduceLeDiff, Nat.reduceEqDiff, if_true, if_false, reduceIte, Bool.false_eq_true, NxS_nx, NxS_ct, RetF_ret, RetP_ret, imm, Bool.not_true, Bool.not_false]
    unfold NxS at this ⊢
    split at this
    · rename_i e' h
      obtain ⟨pen, d3, d4, d5, d6, d7, d8, d9, rfl, P⟩ := this
      rw [h]
      exact ⟨_, _, _, _, _, _, _, _, _, rfl, P⟩
    · rename_i e' h
      obtain ⟨pen, d3, d4, d5, d6, d7, d8, d9, rfl, P⟩ := this
      rw [h]
      exact ⟨_, _, _, _, _, _, _, _, _, rfl, P⟩
    · exact this.elim)
  unfold m_law_18
  simp only [lstM_ap, tupM_ap, le_size, seqM_ap, nxM_ap, brM_ap, ctM_ap, retM_ap, retNM_ap, ifS_ap, asgF_ap, asgO_ap, dropM_ap, frzE_ap, frzM_ap, rdM_ap, vrM_ap, cM_ap, nilM_ap, consM_ap, consTM_ap, consNM_ap, opM_ap, tstM_ap, andM_ap, orM_ap, notM_ap, ifM_ap, andVM_ap, orVM_ap, notVM_ap, immM_ap, imM_ap, ixT_ap, yesM_ap, mutM_ap, mvM_ap, clF_ap, clT_ap, bdName_ap, itemsM_ap, asgG_ap, envF_ap, envP_ap, callF_ap, callP_ap, ownAt0_ap, itemsD_lst, itemsD_tup, chM_ap, slM_ap, noM_ap, partM_ap, bdB_ap, bdTup_ap, bdList_cons, bdList_nil, List.length_cons, List.length_nil, List.set_cons_succ, List.set_cons_zero, List.getElem?_cons_zero, List.getElem?_cons_succ, List.map_cons, List.map_nil, List.cons_append, List.nil_append, List.replicate, Nat.zero_add, Nat.reduceAdd, Nat.reduceSub, Nat.reduceLT, Nat.reduceLeDiff, Nat.reduceEqDiff, if_true, if_false, reduceIte, Bool.false_eq_true, NxS_nx, NxS_ct, RetF_ret, RetP_ret, imm, Bool.not_true, Bool.not_false]
end MM

set_option Elab.async false
set_option linter.all false
set_option maxRecDepth 100000
set_option maxHeartbeats 4000000
noncomputable section
namespace MM
open PySem PySem.Spec PyProof.Rows L2
structure DefAt (K : PySem.W.Frag) (mg : Str → Option Value) (x : Str) (st : Stmt) (ps : List Str) where
  f : Addr
  fd : FuncData
  mg : mg x = some (.ref f)
  F : Fun K x x st f fd
  b : Binds K fd ps []
theorem pe_gi {X : Cx} {x : Str} {i : Int} {pos : Pos} (hg : Gl X x) (h : ∃ t, X.mg x = some (.int i t)) (hd : (x == ("__debug__" : Str)) = false := by decide) : PE X (.Name x pos) (tC (.int i)) := by
  obtain ⟨t, e⟩ := h
  exact pe_glob hg e ⟨t, rfl⟩ hd
theorem hu65 {k : Nat} {A : Around} (hr : Room k A) : A.units + 65 < cLine := by have := hr.un; omega
theorem hu4 {k : Nat} {A : Around} (hr : Room k A) : A.units + 4 < cLine := by have := hr.un; omega
theorem hu1 {k : Nat} {A : Around} (hr : Room k A) : A.units + 1 < cLine := by have := hr.un; omega
def topS (i : Nat) : Stmt := PySem.Challenge.pw_heldmarks_k06_no_groups.main.body.getD i (.Pass ⟨0, 0, 0, 0⟩)
abbrev s__law_pen : Stmt := topS 23
abbrev N__law_pen : List Str := ["_law_script"]
abbrev P__law_pen : List Str := ["_law_script"]
theorem sc__law_pen : FnScope N__law_pen P__law_pen (defScope s__law_pen) := ⟨rfl, rfl, rfl, by decide +kernel, rfl, by decide +kernel, by decide +kernel⟩
abbrev s__law_draw : Stmt := topS 24
abbrev N__law_draw : List Str := ["_law_pen_here", "_law_most", "_law_script", "_law_at", "_law_cell", "_law_mixed", "_law_found"]
abbrev P__law_draw : List Str := ["_law_pen_here", "_law_most"]
theorem sc__law_draw : FnScope N__law_draw P__law_draw (defScope s__law_draw) := ⟨rfl, rfl, rfl, by decide +kernel, rfl, by decide +kernel, by decide +kernel⟩
abbrev s__law_any_turn : Stmt := topS 25
abbrev N__law_any_turn : List Str := ["_law_pen_here", "_law_many", "_law_left", "_law_k"]
abbrev P__law_any_turn : List Str := ["_law_pen_here", "_law_many"]
theorem sc__law_any_turn : FnScope N__law_any_turn P__law_any_turn (defScope s__law_any_turn) := ⟨rfl, rfl, rfl, by decide +kernel, rfl, by decide +kernel, by decide +kernel⟩
abbrev s__law_turns : Stmt := topS 28
abbrev N__law_turns : List Str := ["_law_pen_here", "_law_many", "_law_found", "_law_k"]
abbrev P__law_turns : List Str := ["_law_pen_here", "_law_many"]
theorem sc__law_turns : FnScope N__law_turns P__law_turns (defScope s__law_turns) := ⟨rfl, rfl, rfl, by decide +kernel, rfl, by decide +kernel, by decide +kernel⟩
abbrev s_is_whole : Stmt := topS 15
abbrev N_is_whole : List Str := ["thing"]
abbrev P_is_whole : List Str := ["thing"]
theorem sc_is_whole : FnScope N_is_whole P_is_whole (defScope s_is_whole) := ⟨rfl, rfl, rfl, by decide +kernel, rfl, by decide +kernel, by decide +kernel⟩
abbrev s_is_turn_of : Stmt := topS 16
abbrev N_is_turn_of : List Str := ["many", "thing", "one"]
abbrev P_is_turn_of : List Str := ["many", "thing"]
theorem sc_is_turn_of : FnScope N_is_turn_of P_is_turn_of (defScope s_is_turn_of) := ⟨rfl, rfl, rfl, by decide +kernel, rfl, by decide +kernel, by decide +kernel⟩
abbrev s_then : Stmt := topS 17
abbrev N_then : List Str := ["one", "other", "place"]
abbrev P_then : List Str := ["one", "other"]
theorem sc_then : FnScope N_then P_then (defScope s_then) := ⟨rfl, rfl, rfl, by decide +kernel, rfl, by decide +kernel, by decide +kernel⟩
abbrev s_grown_turns : Stmt := topS 20
abbrev N_grown_turns : List Str := ["many", "turns", "stay", "found", "waiting", "one", "other", "now"]
abbrev P_grown_turns : List Str := ["many", "turns"]
theorem sc_grown_turns : FnScope N_grown_turns P_grown_turns (defScope s_grown_turns) := ⟨rfl, rfl, rfl, by decide +kernel, rfl, by decide +kernel, by decide +kernel⟩
abbrev s_group_of : Stmt := topS 21
abbrev N_group_of : List Str := ["many", "turns", "at"]
abbrev P_group_of : List Str := ["many", "turns"]
theorem sc_group_of : FnScope N_group_of P_group_of (defScope s_group_of) := ⟨rfl, rfl, rfl, by decide +kernel, rfl, by decide +kernel, by decide +kernel⟩
abbrev s__law_same : Stmt := topS 26
abbrev N__law_same : List Str := ["_law_found", "_law_due"]
abbrev P__law_same : List Str := ["_law_found", "_law_due"]
theorem sc__law_same : FnScope N__law_same P__law_same (defScope s__law_same) := ⟨rfl, rfl, rfl, by decide +kernel, rfl, by decide +kernel, by decide +kernel⟩
abbrev s__law_refused : Stmt := topS 29
abbrev N__law_refused : List Str := ["_law_many", "_law_some", "_law_due", "_law_kept", "_law_caught", "e"]
abbrev P__law_refused : List Str := ["_law_many", "_law_some", "_law_due"]
theorem sc__law_refused : FnScope N__law_refused P__law_refused (defScope s__law_refused) := ⟨rfl, rfl, rfl, by decide +kernel, rfl, by decide +kernel, by decide +kernel⟩
abbrev s__law_odd : Stmt := topS 27
abbrev N__law_odd : List Str := ["_law_pen_here", "_law_many", "_law_turn", "_law_at", "_law_longer", "_law_some", "_law_one"]
abbrev P__law_odd : List Str := ["_law_pen_here", "_law_many"]
theorem sc__law_odd : FnScope N__law_odd P__law_odd (defScope s__law_odd) := ⟨rfl, rfl, rfl, by decide +kernel, rfl, by decide +kernel, by decide +kernel⟩
abbrev s_law : Stmt := topS 30
abbrev N_law : List Str := ["_law_script", "_law_pen_here", "_law_turn", "_law_many", "_law_some", "_law_first", "_law_spoilt", "_law_second", "_law_strange", "_law_one"]
abbrev P_law : List Str := ["_law_script"]
theorem sc_law : FnScope N_law P_law (defScope s_law) := ⟨rfl, rfl, rfl, by decide +kernel, rfl, by decide +kernel, by decide +kernel⟩
abbrev si_NoTurn : Stmt := initOf (topS 2)
theorem sci_NoTurn : FnScope ["self", "at"] ["self", "at"] (defScope si_NoTurn) := ⟨rfl, rfl, rfl, by decide +kernel, rfl, by decide +kernel, by decide +kernel⟩
structure Txt (K : PySem.W.Frag) (mg : Str → Option Value) where
  d__law_pen : DefAt K mg "_law_pen" s__law_pen P__law_pen
  d__law_draw : DefAt K mg "_law_draw" s__law_draw P__law_draw
  d__law_any_turn : DefAt K mg "_law_any_turn" s__law_any_turn P__law_any_turn
  d__law_turns : DefAt K mg "_law_turns" s__law_turns P__law_turns
  d_is_whole : DefAt K mg "is_whole" s_is_whole P_is_whole
  d_is_turn_of : DefAt K mg "is_turn_of" s_is_turn_of P_is_turn_of
  d_then : DefAt K mg "then" s_then P_then
  d_grown_turns : DefAt K mg "grown_turns" s_grown_turns P_grown_turns
  d_group_of : DefAt K mg "group_of" s_group_of P_group_of
  d__law_same : DefAt K mg "_law_same" s__law_same P__law_same
  d__law_refused : DefAt K mg "_law_refused" s__law_refused P__law_refused
  d__law_odd : DefAt K mg "_law_odd" s__law_odd P__law_odd
  d_law : DefAt K mg "law" s_law P_law
  z_ValueError : mg "ValueError" = none
  z_abs : mg "abs" = none
  z_all : mg "all" = none
  z_bool : mg "bool" = none
  z_int : mg "int" = none
  z_isinstance : mg "isinstance" = none
  z_len : mg "len" = none
  z_list : mg "list" = none
  z_min : mg "min" = none
  z_range : mg "range" = none
  z_repr : mg "repr" = none
  z_sorted : mg "sorted" = none
  z_str : mg "str" = none
  z_tuple : mg "tuple" = none
  g_MOST_THINGS : ∃ t, mg "MOST_THINGS" = some (.int 7 t)
  g_MOST_TURNS : ∃ t, mg "MOST_TURNS" = some (.int 60 t)
  i_NoTurn : IniT K mg "NoTurn" "at" si_NoTurn "NoTurn.__init__"
  t_NoTurn : Takers K mg (.ref i_NoTurn.C) ["NoTurn"]
  x_NoTurn : XfC K i_NoTurn.C
  b_err : BasT K mg "MarkError"
  t_err : Takers K mg (.ref b_err.C) ["NoTurn"]
  x_tab : XTs K [("NoTurn", ["BelowNought", "NoBack", "NoColours", "NoLeading", "NoName", "NoNumber", "NoRow", "NoSet", "NoText", "TooMany"])]
  c_BelowNought : ClT K mg "BelowNought"
  c_NoBack : ClT K mg "NoBack"
  c_NoColours : ClT K mg "NoColours"
  c_NoLeading : ClT K mg "NoLeading"
  c_NoName : ClT K mg "NoName"
  c_NoNumber : ClT K mg "NoNumber"
  c_NoRow : ClT K mg "NoRow"
  c_NoSet : ClT K mg "NoSet"
  c_NoText : ClT K mg "NoText"
  c_NoTurn : ClT K mg "NoTurn"
  c_TooMany : ClT K mg "TooMany"
section
variable {P : Program} {w : World} {K : PySem.W.Frag} {mg : Str → Option Value} {base : Heap}
theorem fxT (T : Txt K mg) : FX K "at" ["NoTurn"] := FX.cons T.i_NoTurn T.x_NoTurn (FX.nil)
theorem okI_NoTurn (T : Txt K mg) : FnOk P w K mg base (L2.CX P w) 1 T.i_NoTurn.fI T.i_NoTurn.fd ["self", "at"] (spIni K "at") := by
  refine fnIni (m := "no such turn") T.i_NoTurn rfl sci_NoTurn fun cdv A outer s H E hr => ?_
  have sc := sci_NoTurn
  exact pss_cons (ps_expr (pe_minit (by rfl) T.b_err.mgx T.b_err.ga T.b_err.rd T.b_err.vV (pa_cons (pv 0) (pa_cons pe_str pa_nil)))) (pss_one (ps_ost (pv 0) (pv 1)))
theorem ok__law_pen (T : Txt K mg) : FnG P w K mg base 1 T.d__law_pen.f T.d__law_pen.fd P__law_pen (spF K mg true f__law_pen) := by
  refine fnF_G (k := 0) (m := m__law_pen) (np := 1) (nn := 1) rfl rfl rfl T.d__law_pen.F sc__law_pen fun cdv A outer s H E hr hgd => ?_
  have h64 := hr.units
  have h65 := hu65 hr
  have h1 := hu1 hr
  have h4 := hu4 hr
  have sc := sc__law_pen
  refine ⟨_, pss_one (ps_ret (pe_disp (pps_cons (pe_str) (pv 0) (pps_cons (pe_str) (pe_int) (pps_cons (pe_str) (pe_int) (pps_nil)))) (by rfl) (by rfl) (fun z => by cases z) (by decide))), ?_⟩
  unfold m__law_pen
  exact es_retO (en_disp (eps_cons (k := .inr "script") (ev_var (i := 0)) (eps_cons (k := .inr "at") (ev_int) (eps_cons (k := .inr "left") (ev_int) (eps_nil)))))
theorem ok__law_draw (T : Txt K mg) : FnG P w K mg base 1 T.d__law_draw.f T.d__law_draw.fd P__law_draw (spP K mg false p__law_draw) := by
  refine fnP_G (k := 0) (m := m__law_draw) (np := 2) (nn := 7) rfl rfl rfl T.d__law_draw.F sc__law_draw fun cdv A outer s H E hr hgd => ?_
  have h64 := hr.units
  have h65 := hu65 hr
  have h1 := hu1 hr
  have h4 := hu4 hr
  have sc := sc__law_draw
  refine ⟨_, pss_cons (ps_set (i := 2) sc.nd rfl (Or.inl rfl) (pe_ix (ix_any_ (K := K) rfl h1) (pv 0) (pe_str) (fun _ _ => rfl)))
      (pss_cons (ps_set (i := 3) sc.nd rfl (Or.inl rfl) (pe_ix (ix_any_ (K := K) rfl h1) (pv 0) (pe_str) (fun _ _ => rfl)))
      (pss_cons (ps_if (pt_cmpR (op_eqD_ (K := K) rfl h64) (pe_ix (ix_any_ (K := K) rfl h1) (pv 0) (pe_str) (fun _ _ => rfl)) (pe_int) (nomark _)) (pss_cons (ps_asg (pe_op (op_addAny_ (K := K) rfl) (pv 3) (pe_int)) (pg_sub (pv 0) (pe_str) (set_any h1)))
      (pss_cons (ps_set (i := 4) sc.nd rfl (Or.inl rfl) (pe_int))
      (pss_cons (ps_if (pt_cmpR op_gt (pe_callB (call_lenAny_ (K := K) rfl) (by rfl) T.z_len (by decide +kernel) (pa_cons (pv 2) (pa_nil))) (pe_int) (nomark _)) (pss_one (ps_set (i := 4) sc.nd rfl (Or.inl rfl) (pe_ix (ix_any_ (K := K) rfl h1) (pv 2) (pe_op op_modN (pv 3) (pe_callB (call_lenAny_ (K := K) rfl) (by rfl) T.z_len (by decide +kernel) (pa_cons (pv 2) (pa_nil)))) (fun _ _ => rfl)))) (pss_nil))
      (pss_cons (ps_if (PW.pt (pw_or (pt_cmpR op_ge (pv 3) (pe_callB (call_lenAny_ (K := K) rfl) (by rfl) T.z_len (by decide +kernel) (pa_cons (pv 2) (pa_nil))) (nomark _)) (pw_or1 (pt_cmpR op_lt (pe_callB call_abs (by rfl) T.z_abs (by decide +kernel) (pa_cons (pv 4) (pa_nil))) (pe_op op_pow (pe_int) (pe_int)) (nomark _))))) (pss_cons (ps_set (i := 5) sc.nd rfl (Or.inl rfl) (pe_op op_modN (pe_op (op_mulAny_ (K := K) rfl) (pe_op (op_addAny_ (K := K) rfl) (pe_op (op_addAny_ (K := K) rfl) (pe_op op_modN (pv 4) (pe_int)) (pe_op (op_mulAny_ (K := K) rfl) (pe_int) (pv 3))) (pe_int)) (pe_int)) (pe_int)))
      (pss_cons (ps_set (i := 5) sc.nd rfl (Or.inl rfl) (pe_op op_modN (pe_op (op_addAny_ (K := K) rfl) (pe_op (op_addAny_ (K := K) rfl) (pe_op (op_mulAny_ (K := K) rfl) (pv 5) (pv 5)) (pe_op (op_mulAny_ (K := K) rfl) (pe_int) (pv 5))) (pv 3)) (pe_int)))
      (pss_one (ps_ret (pe_op op_modN (pe_op op_fdivN (pv 5) (pe_int)) (pv 1)))))) (pss_nil))
      (pss_one (ps_asg (pe_callB call_abs (by rfl) T.z_abs (by decide +kernel) (pa_cons (pv 4) (pa_nil))) (pg_sub (pv 0) (pe_str) (set_any h1)))))))) (pss_nil))
      (pss_cons (ps_set (i := 6) sc.nd rfl (Or.inl rfl) (pe_op op_modN (pe_ix (ix_any_ (K := K) rfl h1) (pv 0) (pe_str) (fun _ _ => rfl)) (pv 1)))
      (pss_cons (ps_asg (pe_op op_fdivN (pe_ix (ix_any_ (K := K) rfl h1) (pv 0) (pe_str) (fun _ _ => rfl)) (pv 1)) (pg_sub (pv 0) (pe_str) (set_any h1)))
      (pss_one (ps_ret (pv 6))))))), ?_⟩
  unfold m__law_draw
  exact es_seq (es_asgF (ev_imm (evt_ix (mg := mg) (W := fun cls d _ H => E cls d H) (evt_var (i := 0)) (ev_str))) (by decide))
      (es_seq (es_asgF (ev_imm (evt_ix (mg := mg) (W := fun cls d _ H => E cls d H) (evt_var (i := 0)) (ev_str))) (by decide))
      (es_seq (es_if (eb_of (ev_sc s_eq (er_consT (evt_ix (mg := mg) (W := fun cls d _ H => E cls d H) (evt_var (i := 0)) (ev_str)) (er_cons (ev_int) (er_nil))))) (es_seq (es_set (i := 0) ((en_n g_add (ea_cons (ev_var (i := 3)) (ea_cons (ev_int) ea_nil))).e) (ev_str))
      (es_seq (es_asgF (ev_int) (by decide))
      (es_seq (es_if (eb_of (ev_sc s_cmp (er_cons (ev_sc s_len (er_cons (ev_var (i := 2)) (er_nil))) (er_cons (ev_int) (er_nil))))) (es_asgF (ev_g g_ix (ea_cons (ev_var (i := 2)) (ea_cons (ev_sc s_mod (er_cons (ev_var (i := 3)) (er_cons (ev_sc s_len (er_cons (ev_var (i := 2)) (er_nil))) (er_nil)))) ea_nil))) (by decide)) (es_nx))
      (es_seq (es_if (eb_or (eb_of (ev_sc s_cmp (er_cons (ev_var (i := 3)) (er_cons (ev_sc s_len (er_cons (ev_var (i := 2)) (er_nil))) (er_nil))))) (eb_of (ev_sc s_cmp (er_cons (ev_sc s_abs (er_cons (ev_var (i := 4)) (er_nil))) (er_cons (ev_sc s_pow (er_cons (ev_int) (er_cons (ev_int) (er_nil)))) (er_nil)))))) (es_seq (es_asgF (ev_sc s_mod (er_cons ((en_n g_mul (ea_cons ((en_n g_add (ea_cons ((en_n g_add (ea_cons (ev_sc s_mod (er_cons (ev_var (i := 4)) (er_cons (ev_int) (er_nil)))) (ea_cons ((en_n g_mul (ea_cons (ev_int) (ea_cons (ev_var (i := 3)) ea_nil))).e) ea_nil))).e) (ea_cons (ev_int) ea_nil))).e) (ea_cons (ev_int) ea_nil))).e) (er_cons (ev_int) (er_nil)))) (by decide))
      (es_seq (es_asgF (ev_sc s_mod (er_cons ((en_n g_add (ea_cons ((en_n g_add (ea_cons ((en_n g_mul (ea_cons (ev_var (i := 5)) (ea_cons (ev_var (i := 5)) ea_nil))).e) (ea_cons ((en_n g_mul (ea_cons (ev_int) (ea_cons (ev_var (i := 5)) ea_nil))).e) ea_nil))).e) (ea_cons (ev_var (i := 3)) ea_nil))).e) (er_cons (ev_int) (er_nil)))) (by decide))
      (es_ret (ev_sc s_mod (er_cons (ev_sc s_fdiv (er_cons (ev_var (i := 5)) (er_cons (ev_int) (er_nil)))) (er_cons (ev_var (i := 1)) (er_nil))))))) (es_nx))
      (es_set (i := 0) (ev_sc s_abs (er_cons (ev_var (i := 4)) (er_nil))) (ev_str)))))) (es_nx))
      (es_seq (es_asgF (ev_sc s_mod (er_consT (evt_ix (mg := mg) (W := fun cls d _ H => E cls d H) (evt_var (i := 0)) (ev_str)) (er_cons (ev_var (i := 1)) (er_nil)))) (by decide))
      (es_seq (es_set (i := 0) (ev_sc s_fdiv (er_consT (evt_ix (mg := mg) (W := fun cls d _ H => E cls d H) (evt_var (i := 0)) (ev_str)) (er_cons (ev_var (i := 1)) (er_nil)))) (ev_str))
      (es_ret (ev_var (i := 6)))))))
theorem ok__law_any_turn (T : Txt K mg) : FnG P w K mg base 2 T.d__law_any_turn.f T.d__law_any_turn.fd P__law_any_turn (spP K mg true p__law_any_turn) := by
  refine fnP_G (k := 1) (m := m__law_any_turn) (np := 2) (nn := 4) rfl rfl rfl T.d__law_any_turn.F sc__law_any_turn fun cdv A outer s H E hr hgd => ?_
  have h64 := hr.units
  have h65 := hu65 hr
  have h1 := hu1 hr
  have h4 := hu4 hr
  have sc := sc__law_any_turn
  refine ⟨_, pss_cons (ps_set (i := 2) sc.nd rfl (Or.inr rfl) (pe_listRg rfl (by rfl) T.z_list (prg_1 (by rfl) T.z_range (pv 1))))
      (pss_one (ps_ret (pe_callTy (call_tuple_of_ (K := K) rfl) (by rfl) T.z_tuple (by decide +kernel) (pa_cons (pe_lc (own := [("_law_k", 3)]) rfl sc.nd (pi_range1 (by rfl) T.z_range (pa_cons (pv 1) (pa_nil))) (blkOk_by (own := [("_law_k", 3)]) (N := N__law_any_turn) (sc := defScope s__law_any_turn) (by decide +kernel)) (fun _ _ _ _ _ => pg_name (i := 3) sc.nd rfl (Or.inl rfl)) (fun _ _ _ _ _ => pts_nil) (fun _ _ _ _ _ => pe_bm_ (K := K) rfl PySem.F.plainAttrs_list PySem.F.slot_list_pop PySem.F.type_list_pop mt_popAt (pv 2) (pa_cons (pe_callG (ok__law_draw T) (hr.mono (by decide)) hgd (by rfl) T.d__law_draw.mg T.d__law_draw.F.kp T.d__law_draw.b (fun σ => passAt takes0 σ) (pa_cons (pv 0) (pa_cons (pe_callB (call_lenAny_ (K := K) rfl) (by rfl) T.z_len (by decide +kernel) (pa_cons (pv 2) (pa_nil))) (pa_nil)))) (pa_nil)))) (pa_nil))))), ?_⟩
  unfold m__law_any_turn
  exact es_seq (es_asgO (en_n n_lstRg1 (ea_cons (ev_var (i := 1)) (ea_nil))) (by decide))
      (es_retO (en_n g_tuple (ea_cons ((en_lc (ws := [3]) (ei_range1 (er_cons (ev_var (i := 1)) (er_nil))) (eg_name 3) (eb_yes) (ev_mut (i := 2) mut_popAt (ea_cons (ev_callP (i := 0) (ea_cons (ev_sc s_len (er_consT (evt_var (i := 2)) (er_nil))) (ea_nil))) (ea_nil))) (by decide)).e) (ea_nil))))
theorem ok__law_turns (T : Txt K mg) : FnG P w K mg base 3 T.d__law_turns.f T.d__law_turns.fd P__law_turns (spP K mg false p__law_turns) := by
  refine fnP_G (k := 2) (m := m__law_turns) (np := 2) (nn := 4) rfl rfl rfl T.d__law_turns.F sc__law_turns fun cdv A outer s H E hr hgd => ?_
  have h64 := hr.units
  have h65 := hu65 hr
  have h1 := hu1 hr
  have h4 := hu4 hr
  have sc := sc__law_turns
  refine ⟨_, pss_cons (ps_setLc (i := 2) (own := [("_law_k", 3)]) (g := _) rfl sc.nd rfl rfl (sw_true rfl rfl rfl (by decide +kernel)) (pi_range1 (by rfl) T.z_range (pa_cons (pe_callG (ok__law_draw T) (hr.mono (by decide)) hgd (by rfl) T.d__law_draw.mg T.d__law_draw.F.kp T.d__law_draw.b (fun σ => passAt (takes_of rfl rfl rfl rfl) σ) (pa_cons (pv 0) (pa_cons (pe_int) (pa_nil)))) (pa_nil))) (blkOk_by (own := [("_law_k", 3)]) (N := N__law_turns) (sc := defScope s__law_turns) (by decide +kernel)) (fun _ _ _ _ _ => pg_name (i := 3) sc.nd rfl (Or.inl rfl)) (fun _ _ _ _ _ => pts_nil) (fun _ _ _ _ _ => pe_callG (ok__law_any_turn T) (hr.mono (by decide)) hgd (by rfl) T.d__law_any_turn.mg T.d__law_any_turn.F.kp T.d__law_any_turn.b (fun σ => passAt takes0 σ) (pa_cons (pv 0) (pa_cons (pv 1) (pa_nil)))))
      (pss_cons (ps_if (PW.pt (pw_and (pt_cmpR op_gt (pv 1) (pe_int) (nomark _)) (pw_and1 (pt_cmpR (op_eqD_ (K := K) rfl h64) (pe_callG (ok__law_draw T) (hr.mono (by decide)) hgd (by rfl) T.d__law_draw.mg T.d__law_draw.F.kp T.d__law_draw.b (fun σ => passAt (takes_of rfl rfl rfl rfl) σ) (pa_cons (pv 0) (pa_cons (pe_int) (pa_nil)))) (pe_int) (nomark _))))) (pss_one (ps_set (i := 2) sc.nd rfl (Or.inl rfl) (pe_lst (pa_cons (pe_op (op_addAny_ (K := K) rfl) (pe_tupRg rfl (by rfl) T.z_tuple (prg_2 (by rfl) T.z_range (pe_int) (pv 1))) (pe_tup (pa_cons (pe_int) (pa_nil)))) (pa_cons (pe_op (op_addAny_ (K := K) rfl) (pe_tup (pa_cons (pe_int) (pa_cons (pe_int) (pa_nil)))) (pe_tupRg rfl (by rfl) T.z_tuple (prg_2 (by rfl) T.z_range (pe_int) (pv 1)))) (pa_nil)))))) (pss_nil))
      (pss_one (ps_ret (pv 2)))), ?_⟩
  unfold m__law_turns
  exact es_seq (es_asgF ((en_lc (ws := [3]) (ei_range1 (er_cons (ev_callP (i := 0) (ea_cons (ev_int) (ea_nil))) (er_nil))) (eg_name 3) (eb_yes) ((en_callP (i := 0) (ea_cons (ev_var (i := 1)) (ea_nil))).e) (by decide)).e) (by decide))
      (es_seq (es_if (eb_and (eb_of (ev_sc s_cmp (er_cons (ev_var (i := 1)) (er_cons (ev_int) (er_nil))))) (eb_of (ev_sc s_eq (er_cons (ev_callP (i := 0) (ea_cons (ev_int) (ea_nil))) (er_cons (ev_int) (er_nil)))))) (es_asgF ((en_lst (ea_cons ((en_n g_add (ea_cons ((en_n n_tupRg2 (ea_cons (ev_int) (ea_cons (ev_var (i := 1)) (ea_nil)))).e) (ea_cons ((en_tup (ea_cons (ev_int) (ea_nil))).e) ea_nil))).e) (ea_cons ((en_n g_add (ea_cons ((en_tup (ea_cons (ev_int) (ea_cons (ev_int) (ea_nil)))).e) (ea_cons ((en_n n_tupRg2 (ea_cons (ev_int) (ea_cons (ev_var (i := 1)) (ea_nil)))).e) ea_nil))).e) (ea_nil)))).e) (by decide)) (es_nx))
      (es_ret (ev_var (i := 2))))
theorem ok_is_whole (T : Txt K mg) : FnG P w K mg base 1 T.d_is_whole.f T.d_is_whole.fd P_is_whole (spF K mg true f_is_whole) := by
  refine fnF_G (k := 0) (m := m_is_whole) (np := 1) (nn := 1) rfl rfl rfl T.d_is_whole.F sc_is_whole fun cdv A outer s H E hr hgd => ?_
  have h64 := hr.units
  have h65 := hu65 hr
  have h1 := hu1 hr
  have h4 := hu4 hr
  have sc := sc_is_whole
  refine ⟨_, pss_one (ps_ret (pe_and (pe_callB (call_isi_ (K := K) rfl) (by rfl) T.z_isinstance (by decide +kernel) (pa_cons (pv 0) (pa_cons (pe_bltn (v := .ty "int") (by rfl) T.z_int (by decide +kernel) rfl) (pa_nil)))) (pe_one (pe_not (pe_callB (call_isi_ (K := K) rfl) (by rfl) T.z_isinstance (by decide +kernel) (pa_cons (pv 0) (pa_cons (pe_bltn (v := .ty "bool") (by rfl) T.z_bool (by decide +kernel) rfl) (pa_nil)))))))), ?_⟩
  unfold m_is_whole
  exact es_retO (en_imm (ev_andV (ev_sc (s_isi (T := .int)) (er_cons (ev_var (i := 0)) (er_cons (ev_ty (n := "int")) (er_nil)))) (ev_notV (ev_sc (s_isi (T := .bool)) (er_cons (ev_var (i := 0)) (er_cons (ev_ty (n := "bool")) (er_nil)))))))
theorem ok_is_turn_of (T : Txt K mg) : FnG P w K mg base 2 T.d_is_turn_of.f T.d_is_turn_of.fd P_is_turn_of (spF K mg true f_is_turn_of) := by
  refine fnF_G (k := 1) (m := m_is_turn_of) (np := 2) (nn := 3) rfl rfl rfl T.d_is_turn_of.F sc_is_turn_of fun cdv A outer s H E hr hgd => ?_
  have h64 := hr.units
  have h65 := hu65 hr
  have h1 := hu1 hr
  have h4 := hu4 hr
  have sc := sc_is_turn_of
  refine ⟨_, pss_cons (ps_if (PW.pt (pw_or (pt_not (pt_val (pe_callB (call_isi_ (K := K) rfl) (by rfl) T.z_isinstance (by decide +kernel) (pa_cons (pv 1) (pa_cons (pe_bltn (v := .ty "tuple") (by rfl) T.z_tuple (by decide +kernel) rfl) (pa_nil)))))) (pw_or (pt_cmpR (op_neD_ (K := K) rfl h64) (pe_callB (call_lenAny_ (K := K) rfl) (by rfl) T.z_len (by decide +kernel) (pa_cons (pv 1) (pa_nil))) (pv 0) (nomark _)) (pw_or1 (pt_not (pt_val (pe_callB (cr_all_ (K := K) rfl rfl) (by rfl) T.z_all (by decide +kernel) (pa_cons (pe_lc (own := [("one", 2)]) rfl sc.nd (pi_seq_ (K := K) rfl (pv 1)) (blkOk_by (own := [("one", 2)]) (N := N_is_turn_of) (sc := defScope s_is_turn_of) (by decide +kernel)) (fun _ _ _ _ _ => pg_name (i := 2) sc.nd rfl (Or.inl rfl)) (fun _ _ _ _ _ => pts_nil) (fun _ _ _ _ _ => pe_callG (ok_is_whole T) (hr.mono (by decide)) hgd (by rfl) T.d_is_whole.mg T.d_is_whole.F.kp T.d_is_whole.b (fun σ => passAt takes0 σ) (pa_cons (pv 2) (pa_nil)))) (pa_nil))))))))) (pss_one (ps_ret (pe_bl))) (pss_nil))
      (pss_one (ps_ret (pe_cmpR (op_eqD_ (K := K) rfl h64) (pe_callB (cr_sortT (K := K) rfl) (by rfl) T.z_sorted (by decide +kernel) (pa_cons (pv 1) (pa_nil))) (pe_listRg rfl (by rfl) T.z_list (prg_1 (by rfl) T.z_range (pv 0))) (nomark _)))), ?_⟩
  unfold m_is_turn_of
  exact es_seq (es_if (eb_or (eb_not (eb_ofB (ev_sc (s_isi (T := .tuple)) (er_cons (ev_var (i := 1)) (er_cons (ev_ty (n := "tuple")) (er_nil)))))) (eb_or (eb_of (ev_sc s_ne (er_cons (ev_sc s_len (er_cons (ev_var (i := 1)) (er_nil))) (er_cons (ev_var (i := 0)) (er_nil))))) (eb_not (eb_ofB (ev_sc s_all (er_cons ((en_lc (ws := [2]) (ei_seq (ev_var (i := 1))) (eg_name 2) (eb_yes) ((en_callF (ea_cons (ev_var (i := 2)) (ea_nil))).e) (by decide)).e) (er_nil))))))) (es_retO (en_imm (ev_bl))) (es_nx))
      (es_retO (en_imm (ev_sc s_eq (er_cons ((en_n n_sortT (ea_cons (ev_var (i := 1)) (ea_nil))).e) (er_cons ((en_n n_lstRg1 (ea_cons (ev_var (i := 0)) (ea_nil))).e) (er_nil))))))
theorem ok_then (T : Txt K mg) : FnG P w K mg base 3 T.d_then.f T.d_then.fd P_then (spF K mg true f_then) := by
  refine fnF_G (k := 2) (m := m_then) (np := 2) (nn := 3) rfl rfl rfl T.d_then.F sc_then fun cdv A outer s H E hr hgd => ?_
  have h64 := hr.units
  have h65 := hu65 hr
  have h1 := hu1 hr
  have h4 := hu4 hr
  have sc := sc_then
  refine ⟨_, pss_cons (ps_if (pt_cmpR (op_neD_ (K := K) rfl h64) (pe_callB (call_lenAny_ (K := K) rfl) (by rfl) T.z_len (by decide +kernel) (pa_cons (pv 0) (pa_nil))) (pe_callB (call_lenAny_ (K := K) rfl) (by rfl) T.z_len (by decide +kernel) (pa_cons (pv 1) (pa_nil))) (nomark _)) (pss_one (ps_raiseI T.i_NoTurn rfl rfl (okI_NoTurn T) (hr.mono (by decide)) rfl (takes_of rfl rfl rfl rfl) (by rfl) (pa_cons (pe_int) pa_nil))) (pss_nil))
      (pss_one (ps_ret (pe_callTy (call_tuple_of_ (K := K) rfl) (by rfl) T.z_tuple (by decide +kernel) (pa_cons (pe_lc (own := [("place", 2)]) rfl sc.nd (pi_seq_ (K := K) rfl (pv 0)) (blkOk_by (own := [("place", 2)]) (N := N_then) (sc := defScope s_then) (by decide +kernel)) (fun _ _ _ _ _ => pg_name (i := 2) sc.nd rfl (Or.inl rfl)) (fun _ _ _ _ _ => pts_nil) (fun _ _ _ _ _ => pe_ix (ix_any_ (K := K) rfl h1) (pv 1) (pv 2) (fun _ _ => rfl))) (pa_nil))))), ?_⟩
  unfold m_then
  exact es_seq (es_if (eb_of (ev_sc s_ne (er_cons (ev_sc s_len (er_cons (ev_var (i := 0)) (er_nil))) (er_cons (ev_sc s_len (er_cons (ev_var (i := 1)) (er_nil))) (er_nil))))) (es_raiseI T.i_NoTurn (ev_int)) (es_nx))
      (es_retO (en_n g_tuple (ea_cons ((en_lc (ws := [2]) (ei_seq (ev_var (i := 0))) (eg_name 2) (eb_yes) (ev_g g_ix (ea_cons (ev_var (i := 1)) (ea_cons (ev_var (i := 2)) ea_nil))) (by decide)).e) (ea_nil))))
theorem ok_grown_turns (T : Txt K mg) : FnG P w K mg base 4 T.d_grown_turns.f T.d_grown_turns.fd P_grown_turns (spF K mg true f_grown_turns) := by
  refine fnF_G (k := 3) (m := m_grown_turns) (np := 2) (nn := 8) rfl rfl rfl T.d_grown_turns.F sc_grown_turns fun cdv A outer s H E hr hgd => ?_
  have h64 := hr.units
  have h65 := hu65 hr
  have h1 := hu1 hr
  have h4 := hu4 hr
  have sc := sc_grown_turns
  refine ⟨_, pss_cons (ps_set (i := 2) sc.nd rfl (Or.inl rfl) (pe_tupRg rfl (by rfl) T.z_tuple (prg_1 (by rfl) T.z_range (pv 0))))
      (pss_cons (ps_set (i := 3) sc.nd rfl (Or.inl rfl) (pe_dispT h1 (pv 2) (pe_bl)))
      (pss_cons (ps_set (i := 4) sc.nd rfl (Or.inl rfl) (pe_lst (pa_cons (pv 2) (pa_nil))))
      (pss_cons (ps_while (passes_of rfl) (pt_cmpR (op_neD_ (K := K) rfl h64) (pv 4) (pe_lst (pa_nil)) (nomark _)) (pss_cons (ps_set (i := 5) sc.nd rfl (Or.inl rfl) (pe_bm0 PySem.F.plainAttrs_list PySem.F.slot_list_pop PySem.F.type_list_pop mt_pop (pv 4)))
      (pss_one (ps_for (passes_of rfl) rfl (pi_seq_ (K := K) rfl (pv 1)) (pg_name (i := 6) sc.nd rfl (Or.inl rfl)) (pss_cons (ps_set (i := 7) sc.nd rfl (Or.inl rfl) (pe_callG (ok_then T) (hr.mono (by decide)) hgd (by rfl) T.d_then.mg T.d_then.F.kp T.d_then.b (fun σ => passAt (takes_of rfl rfl rfl rfl) σ) (pa_cons (pv 5) (pa_cons (pv 6) (pa_nil)))))
      (pss_one (ps_if (pt_cmpR (op_notInW_ (K := K) rfl h65) (pv 7) (pv 3) (by rfl)) (pss_cons (ps_if (pt_cmpR (op_eqD_ (K := K) rfl h64) (pe_callB (call_lenAny_ (K := K) rfl) (by rfl) T.z_len (by decide +kernel) (pa_cons (pv 3) (pa_nil))) (pe_gi (by rfl) T.g_MOST_TURNS) (nomark _)) (pss_one (ps_never)) (pss_nil))
      (pss_cons (ps_asg (pe_bl) (pg_sub (pv 3) (pv 7) (set_any h1)))
      (pss_one (ps_expr (pe_bm PySem.F.plainAttrs_list PySem.F.slot_list_append PySem.F.type_list_append mt_append (pv 4) (pa_cons (pv 7) (pa_nil))))))) (pss_nil))))))))
      (pss_one (ps_ret (pv 3)))))), ?_⟩
  unfold m_grown_turns
  exact es_seq (es_asgF ((en_n n_tupRg1 (ea_cons (ev_var (i := 0)) (ea_nil))).e) (by decide))
      (es_seq (es_asgO (en_dispT (ev_var (i := 2)) (ev_bl)) (by decide))
      (es_seq (es_asgO (en_lst (ea_cons (ev_var (i := 2)) (ea_nil))) (by decide))
      (es_seq (es_while fuel (eb_of (ev_sc s_ne (er_consT (evt_var (i := 4)) (er_cons ((en_lst (ea_nil)).e) (er_nil))))) (es_seq (es_asgF (ev_mut (i := 4) (tA := tNil) mut_pop ea_nil) (by decide))
      (es_for (ei_seq (ev_var (i := 1))) (eg_name 6) (es_seq (es_asgF ((en_callF (ea_cons (ev_var (i := 5)) (ea_cons (ev_var (i := 6)) (ea_nil)))).e) (by decide))
      (es_if (eb_of (ev_sc s_notIn (er_cons (ev_var (i := 7)) (er_consT (evt_var (i := 3)) (er_nil))))) (es_seq (es_if (eb_of (ev_sc s_eq (er_cons (ev_sc s_len (er_consT (evt_var (i := 3)) (er_nil))) (er_cons (ev_int) (er_nil))))) (es_never) (es_nx))
      (es_seq (es_set (i := 3) (ev_bl) (ev_var (i := 7)))
      (es_drop (ev_mut (i := 4) mut_append (ea_cons (ev_var (i := 7)) (ea_nil)))))) (es_nx))) (by decide))))
      (es_retO (en_mv (i := 3))))))
theorem ok_group_of (T : Txt K mg) : FnG P w K mg base 5 T.d_group_of.f T.d_group_of.fd P_group_of (spF K mg true f_group_of) := by
  refine fnF_G (k := 4) (m := m_group_of) (np := 2) (nn := 3) rfl rfl rfl T.d_group_of.F sc_group_of fun cdv A outer s H E hr hgd => ?_
  have h64 := hr.units
  have h65 := hu65 hr
  have h1 := hu1 hr
  have h4 := hu4 hr
  have sc := sc_group_of
  refine ⟨_, pss_cons (ps_if (pt_not (pt_chain op_le op_le (pe_int) (pv 0) (pe_gi (by rfl) T.g_MOST_THINGS))) (pss_one (ps_raiseI T.i_NoTurn rfl rfl (okI_NoTurn T) (hr.mono (by decide)) rfl (takes_of rfl rfl rfl rfl) (by rfl) (pa_cons (pe_un un_neg (pe_int)) pa_nil))) (pss_nil))
      (pss_cons (ps_for (passes_of rfl) rfl (pi_range1 (by rfl) T.z_range (pa_cons (pe_callB (call_lenAny_ (K := K) rfl) (by rfl) T.z_len (by decide +kernel) (pa_cons (pv 1) (pa_nil))) (pa_nil))) (pg_name (i := 2) sc.nd rfl (Or.inl rfl)) (pss_one (ps_if (pt_not (pt_val (pe_callG (ok_is_turn_of T) (hr.mono (by decide)) hgd (by rfl) T.d_is_turn_of.mg T.d_is_turn_of.F.kp T.d_is_turn_of.b (fun σ => passAt (takes_of rfl rfl rfl rfl) σ) (pa_cons (pv 0) (pa_cons (pe_ix (ix_any_ (K := K) rfl h1) (pv 1) (pv 2) (fun _ _ => rfl)) (pa_nil)))))) (pss_one (ps_raiseI T.i_NoTurn rfl rfl (okI_NoTurn T) (hr.mono (by decide)) rfl (takes_of rfl rfl rfl rfl) (by rfl) (pa_cons (pv 2) pa_nil))) (pss_nil))))
      (pss_one (ps_ret (pe_callTy (call_tuple_of_ (K := K) rfl) (by rfl) T.z_tuple (by decide +kernel) (pa_cons (pe_callB (cr_sorted3_ (K := K) rfl rfl) (by rfl) T.z_sorted (by decide +kernel) (pa_cons (pe_callTy (call_list_dT rfl) (by rfl) T.z_list (by decide +kernel) (pa_cons (pe_callG (ok_grown_turns T) (hr.mono (by decide)) hgd (by rfl) T.d_grown_turns.mg T.d_grown_turns.F.kp T.d_grown_turns.b (fun σ => passAt (takes_of rfl rfl rfl rfl) σ) (pa_cons (pv 0) (pa_cons (pv 1) (pa_nil)))) (pa_nil))) (pa_nil))) (pa_nil)))))), ?_⟩
  unfold m_group_of
  exact es_seq (es_if (eb_not (eb_of (ev_chain (f := fun i j => decide (i ≤ j)) (g := fun i j => decide (i ≤ j)) (er_cons (ev_int) (er_cons (ev_var (i := 0)) (er_nil))) (ev_int)))) (es_raiseI T.i_NoTurn (ev_sc s_neg (er_cons (ev_int) (er_nil)))) (es_nx))
      (es_seq (es_for (ei_range1 (er_cons (ev_sc s_len (er_cons (ev_var (i := 1)) (er_nil))) (er_nil))) (eg_name 2) (es_if (eb_not (eb_ofB ((en_callF (ea_cons (ev_var (i := 0)) (ea_cons (ev_g g_ix (ea_cons (ev_var (i := 1)) (ea_cons (ev_var (i := 2)) ea_nil))) (ea_nil)))).e))) (es_raiseI T.i_NoTurn (ev_var (i := 2))) (es_nx)) (by decide))
      (es_retO (en_n g_tuple (ea_cons ((en_i i_sorted3 (er_cons ((en_i i_listT (er_cons ((en_callF (ea_cons (ev_var (i := 0)) (ea_cons (ev_var (i := 1)) (ea_nil)))).e) (er_nil))).e) (er_nil))).e) (ea_nil)))))
theorem ok__law_same (T : Txt K mg) : FnG P w K mg base 1 T.d__law_same.f T.d__law_same.fd P__law_same (spF K mg true f__law_same) := by
  refine fnF_G (k := 0) (m := m__law_same) (np := 2) (nn := 2) rfl rfl rfl T.d__law_same.F sc__law_same fun cdv A outer s H E hr hgd => ?_
  have h64 := hr.units
  have h65 := hu65 hr
  have h1 := hu1 hr
  have h4 := hu4 hr
  have sc := sc__law_same
  refine ⟨_, pss_one (ps_ret (pe_and (pe_cmpR (op_eqD_ (K := K) rfl h64) (pv 0) (pv 1) (nomark _)) (pe_one (pe_cmpR (op_eqD_ (K := K) rfl h64) (pe_callB (call_reprZ (K := K) rfl hgd h65) (by rfl) T.z_repr (by decide +kernel) (pa_cons (pv 0) (pa_nil))) (pe_callB (call_reprZ (K := K) rfl hgd h65) (by rfl) T.z_repr (by decide +kernel) (pa_cons (pv 1) (pa_nil))) (nomark _))))), ?_⟩
  unfold m__law_same
  exact es_retO (en_imm (ev_andV (ev_sc s_eq (er_cons (ev_var (i := 0)) (er_cons (ev_var (i := 1)) (er_nil)))) (ev_sc s_eq (er_cons (ev_sc s_reprZ (er_cons (ev_var (i := 0)) (er_nil))) (er_cons (ev_sc s_reprZ (er_cons (ev_var (i := 1)) (er_nil))) (er_nil))))))
theorem ok__law_refused (T : Txt K mg) : FnG P w K mg base 6 T.d__law_refused.f T.d__law_refused.fd P__law_refused (spF K mg true f__law_refused) := by
  refine fnF_G (k := 5) (m := m__law_refused) (np := 3) (nn := 6) rfl rfl rfl T.d__law_refused.F sc__law_refused fun cdv A outer s H E hr hgd => ?_
  have h64 := hr.units
  have h65 := hu65 hr
  have h1 := hu1 hr
  have h4 := hu4 hr
  have sc := sc__law_refused
  refine ⟨_, pss_cons (ps_set (i := 3) sc.nd rfl (Or.inl rfl) (pe_callB (call_reprZ (K := K) rfl hgd h65) (by rfl) T.z_repr (by decide +kernel) (pa_cons (pv 1) (pa_nil))))
      (pss_cons (ps_set (i := 4) sc.nd rfl (Or.inl rfl) (pe_non))
      (pss_cons (ps_tryK (i := 5) (x := "MarkError") rfl rfl rfl sc.nd rfl rfl (names_bas T.b_err rfl (by rfl)) (takes_of rfl rfl rfl rfl) (fun _ _ _ tkB poB => pss_one (ps_expr (pe_callG (ok_group_of T) (hr.mono (by decide)) hgd (by rfl) T.d_group_of.mg T.d_group_of.F.kp T.d_group_of.b (fun σ => passAt tkB σ) (pa_cons (pv 0) (pa_cons (pv 1) (pa_nil)))))) (fun _ _ _ _ _ _ _ => pss_one (ps_set (i := 4) sc.nd rfl (Or.inl rfl) (pv 5))))
      (pss_cons (ps_if (PW.pt (pw_or (pt_cmpR (op_neD_ (K := K) rfl h64) (pe_callB (call_reprZ (K := K) rfl hgd h65) (by rfl) T.z_repr (by decide +kernel) (pa_cons (pv 1) (pa_nil))) (pv 3) (nomark _)) (pw_or (pt_not (pt_val (pe_callB (call_isY_ (K := K) rfl) (by rfl) T.z_isinstance (by decide +kernel) (pa_cons (pv 4) (pa_cons (pe_cls T.c_NoTurn rfl (by rfl)) (pa_nil)))))) (pw_or1 (pt_not (pt_val (pe_callB (call_isY_ (K := K) rfl) (by rfl) T.z_isinstance (by decide +kernel) (pa_cons (pv 4) (pa_cons (pe_bltn (v := .ty "ValueError") (by rfl) T.z_ValueError (by decide +kernel) rfl) (pa_nil)))))))))) (pss_one (ps_ret (pe_bl))) (pss_nil))
      (pss_cons (ps_if (pt_val (pe_callB (call_isY_ (K := K) rfl) (by rfl) T.z_isinstance (by decide +kernel) (pa_cons (pv 4) (pa_cons (pe_tup (pa_cons (pe_cls T.c_BelowNought rfl (by rfl)) (pa_cons (pe_cls T.c_NoBack rfl (by rfl)) (pa_cons (pe_cls T.c_NoColours rfl (by rfl)) (pa_cons (pe_cls T.c_NoLeading rfl (by rfl)) (pa_cons (pe_cls T.c_NoName rfl (by rfl)) (pa_cons (pe_cls T.c_NoNumber rfl (by rfl)) (pa_cons (pe_cls T.c_NoRow rfl (by rfl)) (pa_nil))))))))) (pa_nil))))) (pss_one (ps_ret (pe_bl))) (pss_nil))
      (pss_one (ps_ret (pe_and (pe_not (pe_callB (call_isY_ (K := K) rfl) (by rfl) T.z_isinstance (by decide +kernel) (pa_cons (pv 4) (pa_cons (pe_tup (pa_cons (pe_cls T.c_NoSet rfl (by rfl)) (pa_cons (pe_cls T.c_NoText rfl (by rfl)) (pa_cons (pe_cls T.c_TooMany rfl (by rfl)) (pa_nil))))) (pa_nil))))) (pe_one (pe_callG (ok__law_same T) (hr.mono (by decide)) hgd (by rfl) T.d__law_same.mg T.d__law_same.F.kp T.d__law_same.b (fun σ => passAt (takes_of rfl rfl rfl rfl) σ) (pa_cons (pe_xk (K := K) rfl (pv 4)) (pa_cons (pv 2) (pa_nil)))))))))))), ?_⟩
  unfold m__law_refused
  exact es_seq (es_asgF (ev_sc s_reprZ (er_cons (ev_var (i := 1)) (er_nil))) (by decide))
      (es_seq (es_asgF (ev_non) (by decide))
      (es_seq (es_tryKI T.t_err (fun W1 => es_drop ((en_callF (ea_cons (ev_var (i := 0)) (ea_cons (ev_var (i := 1)) (ea_nil)))).e)) (by decide) (by decide) (by decide))
      (es_seq (es_if (eb_or (eb_of (ev_sc s_ne (er_cons (ev_sc s_reprZ (er_cons (ev_var (i := 1)) (er_nil))) (er_cons (ev_var (i := 3)) (er_nil))))) (eb_or (eb_not (eb_ofB (ev_sc (s_isY T.x_tab) (er_cons (ev_var (i := 4)) (er_cons (ev_cls T.c_NoTurn.ns) (er_nil)))))) (eb_not (eb_ofB (ev_sc (s_isY T.x_tab) (er_cons (ev_var (i := 4)) (er_cons (ev_ty (n := "ValueError")) (er_nil)))))))) (es_retO (en_imm (ev_bl))) (es_nx))
      (es_seq (es_if (eb_ofB (ev_sc (s_isY T.x_tab) (er_cons (ev_var (i := 4)) (er_cons ((en_tup (ea_cons (ev_cls T.c_BelowNought.ns) (ea_cons (ev_cls T.c_NoBack.ns) (ea_cons (ev_cls T.c_NoColours.ns) (ea_cons (ev_cls T.c_NoLeading.ns) (ea_cons (ev_cls T.c_NoName.ns) (ea_cons (ev_cls T.c_NoNumber.ns) (ea_cons (ev_cls T.c_NoRow.ns) (ea_nil))))))))).e) (er_nil))))) (es_retO (en_imm (ev_bl))) (es_nx))
      (es_retO (en_imm (ev_andV (ev_notV (ev_sc (s_isY T.x_tab) (er_cons (ev_var (i := 4)) (er_cons ((en_tup (ea_cons (ev_cls T.c_NoSet.ns) (ea_cons (ev_cls T.c_NoText.ns) (ea_cons (ev_cls T.c_TooMany.ns) (ea_nil))))).e) (er_nil))))) ((en_callF (ea_cons (ev_xat (fxT T) (ev_var (i := 4))) (ea_cons (ev_var (i := 2)) (ea_nil)))).e))))))))
theorem ok__law_odd (T : Txt K mg) : FnG P w K mg base 3 T.d__law_odd.f T.d__law_odd.fd P__law_odd (spP K mg false p__law_odd) := by
  refine fnP_G (k := 2) (m := m__law_odd) (np := 2) (nn := 7) rfl rfl rfl T.d__law_odd.F sc__law_odd fun cdv A outer s H E hr hgd => ?_
  have h64 := hr.units
  have h65 := hu65 hr
  have h1 := hu1 hr
  have h4 := hu4 hr
  have sc := sc__law_odd
  refine ⟨_, pss_cons (ps_set (i := 2) sc.nd rfl (Or.inl rfl) (pe_callG (ok__law_any_turn T) (hr.mono (by decide)) hgd (by rfl) T.d__law_any_turn.mg T.d__law_any_turn.F.kp T.d__law_any_turn.b (fun σ => passAt (takes_of rfl rfl rfl rfl) σ) (pa_cons (pv 0) (pa_cons (pv 1) (pa_nil)))))
      (pss_cons (ps_set (i := 3) sc.nd rfl (Or.inl rfl) (pe_callG (ok__law_draw T) (hr.mono (by decide)) hgd (by rfl) T.d__law_draw.mg T.d__law_draw.F.kp T.d__law_draw.b (fun σ => passAt (takes_of rfl rfl rfl rfl) σ) (pa_cons (pv 0) (pa_cons (pv 1) (pa_nil)))))
      (pss_cons (ps_set (i := 4) sc.nd rfl (Or.inl rfl) (pe_callG (ok__law_any_turn T) (hr.mono (by decide)) hgd (by rfl) T.d__law_any_turn.mg T.d__law_any_turn.F.kp T.d__law_any_turn.b (fun σ => passAt (takes_of rfl rfl rfl rfl) σ) (pa_cons (pv 0) (pa_cons (pe_op (op_addAny_ (K := K) rfl) (pv 1) (pe_int)) (pa_nil)))))
      (pss_cons (ps_set (i := 5) sc.nd rfl (Or.inl rfl) (pe_lst (pa_cons (pv 4) (pa_cons (pe_tupRg rfl (by rfl) T.z_tuple (prg_1 (by rfl) T.z_range (pe_op op_sub (pv 1) (pe_int)))) (pa_cons (pe_callTy (call_list_of_ (K := K) rfl) (by rfl) T.z_list (by decide +kernel) (pa_cons (pv 2) (pa_nil))) (pa_cons (pe_non) (pa_cons (pe_int) (pa_cons (pe_str) (pa_cons (pe_tup (pa_nil)) (pa_cons (pe_dnewK) (pa_cons (pe_tup (pa_cons (pv 2) (pa_nil))) (pa_cons (pe_bl) (pa_nil)))))))))))))
      (pss_cons (ps_expr (pe_bm PySem.F.plainAttrs_list PySem.F.slot_list_append PySem.F.type_list_append mt_append (pv 5) (pa_cons (pe_join pe_str (pe_lc (own := [("_law_one", 6)]) rfl sc.nd (pi_seq_ (K := K) rfl (pv 2)) (blkOk_by (own := [("_law_one", 6)]) (N := N__law_odd) (sc := defScope s__law_odd) (by decide +kernel)) (fun _ _ _ _ _ => pg_name (i := 6) sc.nd rfl (Or.inl rfl)) (fun _ _ _ _ _ => pts_nil) (fun _ _ _ _ _ => pe_callTy (call_strA (K := K) rfl hgd h65) (by rfl) T.z_str (by decide +kernel) (pa_cons (pv 6) (pa_nil))))) (pa_nil))))
      (pss_cons (ps_for (passes_of rfl) rfl (pi_seq_ (K := K) rfl (pe_lst (pa_cons (pv 1) (pa_cons (pe_un un_neg (pe_int)) (pa_cons (pe_bl) (pa_cons (pe_str) (pa_cons (pe_non) (pa_cons (pe_op op_pow (pe_int) (pe_int)) (pa_cons (pe_un un_neg (pe_op op_pow (pe_int) (pe_int))) (pa_cons (pe_tup (pa_cons (pe_int) (pa_nil))) (pa_cons (pe_lst (pa_cons (pe_int) (pa_nil))) (pa_cons (pe_op (op_addAny_ (K := K) rfl) (pv 1) (pe_int)) (pa_nil))))))))))))) (pg_name (i := 6) sc.nd rfl (Or.inl rfl)) (pss_one (ps_expr (pe_bm PySem.F.plainAttrs_list PySem.F.slot_list_append PySem.F.type_list_append mt_append (pv 5) (pa_cons (pe_op (op_addAny_ (K := K) rfl) (pe_op (op_addAny_ (K := K) rfl) (pe_slice (sl_any_ (K := K) rfl) (pv 2) (po_none) (po_some (pv 3))) (pe_tup (pa_cons (pv 6) (pa_nil)))) (pe_slice (sl_any_ (K := K) rfl) (pv 2) (po_some (pe_op (op_addAny_ (K := K) rfl) (pv 3) (pe_int))) (po_none))) (pa_nil))))))
      (pss_cons (ps_if (pt_cmpR op_gt (pv 1) (pe_int) (nomark _)) (pss_cons (ps_expr (pe_bm PySem.F.plainAttrs_list PySem.F.slot_list_append PySem.F.type_list_append mt_append (pv 5) (pa_cons (pe_op (op_addAny_ (K := K) rfl) (pe_op (op_addAny_ (K := K) rfl) (pe_slice (sl_any_ (K := K) rfl) (pv 2) (po_none) (po_some (pv 3))) (pe_tup (pa_cons (pe_ix (ix_any_ (K := K) rfl h1) (pv 2) (pe_op op_sub (pv 3) (pe_int)) (fun _ _ => rfl)) (pa_nil)))) (pe_slice (sl_any_ (K := K) rfl) (pv 2) (po_some (pe_op (op_addAny_ (K := K) rfl) (pv 3) (pe_int))) (po_none))) (pa_nil))))
      (pss_one (ps_expr (pe_bm PySem.F.plainAttrs_list PySem.F.slot_list_append PySem.F.type_list_append mt_append (pv 5) (pa_cons (pe_op (op_addAny_ (K := K) rfl) (pe_op (op_addAny_ (K := K) rfl) (pe_slice (sl_any_ (K := K) rfl) (pv 2) (po_none) (po_some (pv 3))) (pe_tup (pa_cons (pe_bl) (pa_nil)))) (pe_slice (sl_any_ (K := K) rfl) (pv 2) (po_some (pe_op (op_addAny_ (K := K) rfl) (pv 3) (pe_int))) (po_none))) (pa_nil)))))) (pss_nil))
      (pss_one (ps_ret (pe_ix (ix_any_ (K := K) rfl h1) (pv 5) (pe_callG (ok__law_draw T) (hr.mono (by decide)) hgd (by rfl) T.d__law_draw.mg T.d__law_draw.F.kp T.d__law_draw.b (fun σ => passAt (takes_of rfl rfl rfl rfl) σ) (pa_cons (pv 0) (pa_cons (pe_callB (call_lenAny_ (K := K) rfl) (by rfl) T.z_len (by decide +kernel) (pa_cons (pv 5) (pa_nil))) (pa_nil)))) (fun _ _ => rfl)))))))))), ?_⟩
  unfold m__law_odd
  exact es_seq (es_asgF ((en_callP (i := 0) (ea_cons (ev_var (i := 1)) (ea_nil))).e) (by decide))
      (es_seq (es_asgF (ev_callP (i := 0) (ea_cons (ev_var (i := 1)) (ea_nil))) (by decide))
      (es_seq (es_asgF ((en_callP (i := 0) (ea_cons ((en_n g_add (ea_cons (ev_var (i := 1)) (ea_cons (ev_int) ea_nil))).e) (ea_nil))).e) (by decide))
      (es_seq (es_asgO (en_lst (ea_cons (ev_var (i := 4)) (ea_cons ((en_n n_tupRg1 (ea_cons (ev_sc s_sub (er_cons (ev_var (i := 1)) (er_cons (ev_int) (er_nil)))) (ea_nil))).e) (ea_cons ((en_n g_list (ea_cons (ev_var (i := 2)) (ea_nil))).e) (ea_cons (ev_non) (ea_cons (ev_int) (ea_cons (ev_str) (ea_cons ((en_tup (ea_nil)).e) (ea_cons ((en_dnewK).e) (ea_cons ((en_tup (ea_cons (ev_var (i := 2)) (ea_nil))).e) (ea_cons (ev_bl) (ea_nil)))))))))))) (by decide))
      (es_seq (es_drop (ev_mut (i := 5) mut_append (ea_cons (ev_join ((en_lc (ws := [6]) (ei_seq (ev_var (i := 2))) (eg_name 6) (eb_yes) (ev_sc s_strA (er_cons (ev_var (i := 6)) (er_nil))) (by decide)).e)) (ea_nil))))
      (es_seq (es_for (ei_seq ((en_lst (ea_cons (ev_var (i := 1)) (ea_cons (ev_sc s_neg (er_cons (ev_int) (er_nil))) (ea_cons (ev_bl) (ea_cons (ev_str) (ea_cons (ev_non) (ea_cons (ev_sc s_pow (er_cons (ev_int) (er_cons (ev_int) (er_nil)))) (ea_cons (ev_sc s_neg (er_cons (ev_sc s_pow (er_cons (ev_int) (er_cons (ev_int) (er_nil)))) (er_nil))) (ea_cons ((en_tup (ea_cons (ev_int) (ea_nil))).e) (ea_cons ((en_lst (ea_cons (ev_int) (ea_nil))).e) (ea_cons ((en_n g_add (ea_cons (ev_var (i := 1)) (ea_cons (ev_int) ea_nil))).e) (ea_nil)))))))))))).e)) (eg_name 6) (es_drop (ev_mut (i := 5) mut_append (ea_cons ((en_n g_add (ea_cons ((en_n g_add (ea_cons (ev_slice (ev_var (i := 2)) (eo_no) (eo_part (ev_var (i := 3)))) (ea_cons ((en_tup (ea_cons (ev_var (i := 6)) (ea_nil))).e) ea_nil))).e) (ea_cons (ev_slice (ev_var (i := 2)) (eo_part ((en_n g_add (ea_cons (ev_var (i := 3)) (ea_cons (ev_int) ea_nil))).e)) (eo_no)) ea_nil))).e) (ea_nil)))) (by decide))
      (es_seq (es_if (eb_of (ev_sc s_cmp (er_cons (ev_var (i := 1)) (er_cons (ev_int) (er_nil))))) (es_seq (es_drop (ev_mut (i := 5) mut_append (ea_cons ((en_n g_add (ea_cons ((en_n g_add (ea_cons (ev_slice (ev_var (i := 2)) (eo_no) (eo_part (ev_var (i := 3)))) (ea_cons ((en_tup (ea_cons (ev_g g_ix (ea_cons (ev_var (i := 2)) (ea_cons (ev_sc s_sub (er_cons (ev_var (i := 3)) (er_cons (ev_int) (er_nil)))) ea_nil))) (ea_nil))).e) ea_nil))).e) (ea_cons (ev_slice (ev_var (i := 2)) (eo_part ((en_n g_add (ea_cons (ev_var (i := 3)) (ea_cons (ev_int) ea_nil))).e)) (eo_no)) ea_nil))).e) (ea_nil))))
      (es_drop (ev_mut (i := 5) mut_append (ea_cons ((en_n g_add (ea_cons ((en_n g_add (ea_cons (ev_slice (ev_var (i := 2)) (eo_no) (eo_part (ev_var (i := 3)))) (ea_cons ((en_tup (ea_cons (ev_bl) (ea_nil))).e) ea_nil))).e) (ea_cons (ev_slice (ev_var (i := 2)) (eo_part ((en_n g_add (ea_cons (ev_var (i := 3)) (ea_cons (ev_int) ea_nil))).e)) (eo_no)) ea_nil))).e) (ea_nil))))) (es_nx))
      (es_frz 5 (es_ret (ev_g g_ix (ea_cons (ev_var (i := 5)) (ea_cons (ev_callP (i := 0) (ea_cons (ev_sc s_len (er_consT (evt_var (i := 5)) (er_nil))) (ea_nil))) ea_nil)))))))))))
theorem ok_law (T : Txt K mg) : FnG P w K mg base 7 T.d_law.f T.d_law.fd P_law (spF K mg true f_law) := by
  refine fnF_G (k := 6) (m := m_law) (np := 1) (nn := 10) rfl rfl rfl T.d_law.F sc_law fun cdv A outer s H E hr hgd => ?_
  have h64 := hr.units
  have h65 := hu65 hr
  have h1 := hu1 hr
  have h4 := hu4 hr
  have sc := sc_law
  refine ⟨_, pss_cons (ps_set (i := 1) sc.nd rfl (Or.inl rfl) (pe_callG (ok__law_pen T) (hr.mono (by decide)) hgd (by rfl) T.d__law_pen.mg T.d__law_pen.F.kp T.d__law_pen.b (fun σ => passAt (takes_of rfl rfl rfl rfl) σ) (pa_cons (pv 0) (pa_nil))))
      (pss_cons (ps_for (passes_of rfl) rfl (pi_range1 (by rfl) T.z_range (pa_cons (pe_int) (pa_nil))) (pg_name (i := 2) sc.nd rfl (Or.inl rfl)) (pss_cons (ps_set (i := 3) sc.nd rfl (Or.inl rfl) (pe_op (op_addAny_ (K := K) rfl) (pe_int) (pe_callG (ok__law_draw T) (hr.mono (by decide)) hgd (by rfl) T.d__law_draw.mg T.d__law_draw.F.kp T.d__law_draw.b (fun σ => passAt (takes_of rfl rfl rfl rfl) σ) (pa_cons (pv 1) (pa_cons (pe_int) (pa_nil))))))
      (pss_cons (ps_set (i := 4) sc.nd rfl (Or.inl rfl) (pe_callG (ok__law_turns T) (hr.mono (by decide)) hgd (by rfl) T.d__law_turns.mg T.d__law_turns.F.kp T.d__law_turns.b (fun σ => passAt (takes_of rfl rfl rfl rfl) σ) (pa_cons (pv 1) (pa_cons (pv 3) (pa_nil)))))
      (pss_cons (ps_set (i := 5) sc.nd rfl (Or.inl rfl) (pe_callG (ok__law_draw T) (hr.mono (by decide)) hgd (by rfl) T.d__law_draw.mg T.d__law_draw.F.kp T.d__law_draw.b (fun σ => passAt (takes_of rfl rfl rfl rfl) σ) (pa_cons (pv 1) (pa_cons (pe_op (op_addAny_ (K := K) rfl) (pe_callB (call_lenAny_ (K := K) rfl) (by rfl) T.z_len (by decide +kernel) (pa_cons (pv 4) (pa_nil))) (pe_int)) (pa_nil)))))
      (pss_cons (ps_set (i := 6) sc.nd rfl (Or.inl rfl) (pe_op (op_addAny_ (K := K) rfl) (pe_op (op_addAny_ (K := K) rfl) (pe_slice (sl_any_ (K := K) rfl) (pv 4) (po_none) (po_some (pv 5))) (pe_lst (pa_cons (pe_callG (ok__law_odd T) (hr.mono (by decide)) hgd (by rfl) T.d__law_odd.mg T.d__law_odd.F.kp T.d__law_odd.b (fun σ => passAt (takes_of rfl rfl rfl rfl) σ) (pa_cons (pv 1) (pa_cons (pv 3) (pa_nil)))) (pa_nil)))) (pe_slice (sl_any_ (K := K) rfl) (pv 4) (po_some (pv 5)) (po_none))))
      (pss_cons (ps_if (pt_not (pt_val (pe_callG (ok__law_refused T) (hr.mono (by decide)) hgd (by rfl) T.d__law_refused.mg T.d__law_refused.F.kp T.d__law_refused.b (fun σ => passAt (takes_of rfl rfl rfl rfl) σ) (pa_cons (pv 3) (pa_cons (pe_callTy (call_list_of_ (K := K) rfl) (by rfl) T.z_list (by decide +kernel) (pa_cons (pv 6) (pa_nil))) (pa_cons (pv 5) (pa_nil))))))) (pss_one (ps_ret (pe_bl))) (pss_nil))
      (pss_cons (ps_set (i := 7) sc.nd rfl (Or.inl rfl) (pe_op (op_addAny_ (K := K) rfl) (pe_op (op_addAny_ (K := K) rfl) (pv 5) (pe_int)) (pe_callG (ok__law_draw T) (hr.mono (by decide)) hgd (by rfl) T.d__law_draw.mg T.d__law_draw.F.kp T.d__law_draw.b (fun σ => passAt (takes_of rfl rfl rfl rfl) σ) (pa_cons (pv 1) (pa_cons (pe_op op_sub (pe_callB (call_lenAny_ (K := K) rfl) (by rfl) T.z_len (by decide +kernel) (pa_cons (pv 6) (pa_nil))) (pv 5)) (pa_nil))))))
      (pss_cons (ps_if (pt_not (pt_val (pe_callG (ok__law_refused T) (hr.mono (by decide)) hgd (by rfl) T.d__law_refused.mg T.d__law_refused.F.kp T.d__law_refused.b (fun σ => passAt (takes_of rfl rfl rfl rfl) σ) (pa_cons (pv 3) (pa_cons (pe_op (op_addAny_ (K := K) rfl) (pe_op (op_addAny_ (K := K) rfl) (pe_slice (sl_any_ (K := K) rfl) (pv 6) (po_none) (po_some (pv 7))) (pe_lst (pa_cons (pe_callG (ok__law_odd T) (hr.mono (by decide)) hgd (by rfl) T.d__law_odd.mg T.d__law_odd.F.kp T.d__law_odd.b (fun σ => passAt (takes_of rfl rfl rfl rfl) σ) (pa_cons (pv 1) (pa_cons (pv 3) (pa_nil)))) (pa_nil)))) (pe_slice (sl_any_ (K := K) rfl) (pv 6) (po_some (pv 7)) (po_none))) (pa_cons (pv 5) (pa_nil))))))) (pss_one (ps_ret (pe_bl))) (pss_nil))
      (pss_cons (ps_set (i := 8) sc.nd rfl (Or.inl rfl) (pe_ix (ix_any_ (K := K) rfl h1) (pe_lst (pa_cons (pe_int) (pa_cons (pe_int) (pa_cons (pe_un un_neg (pe_int)) (pa_cons (pe_un un_neg (pe_int)) (pa_cons (pe_op op_pow (pe_int) (pe_int)) (pa_cons (pe_un un_neg (pe_op op_pow (pe_int) (pe_int))) (pa_nil)))))))) (pe_callG (ok__law_draw T) (hr.mono (by decide)) hgd (by rfl) T.d__law_draw.mg T.d__law_draw.F.kp T.d__law_draw.b (fun σ => passAt (takes_of rfl rfl rfl rfl) σ) (pa_cons (pv 1) (pa_cons (pe_int) (pa_nil)))) (fun _ _ => rfl)))
      (pss_cons (ps_for (passes_of rfl) rfl (pi_seq_ (K := K) rfl (pe_lst (pa_cons (pe_lst (pa_nil)) (pa_cons (pe_callTy (call_list_of_ (K := K) rfl) (by rfl) T.z_list (by decide +kernel) (pa_cons (pv 4) (pa_nil))) (pa_cons (pe_callTy (call_list_of_ (K := K) rfl) (by rfl) T.z_list (by decide +kernel) (pa_cons (pv 6) (pa_nil))) (pa_nil)))))) (pg_name (i := 9) sc.nd rfl (Or.inl rfl)) (pss_one (ps_if (pt_not (pt_val (pe_callG (ok__law_refused T) (hr.mono (by decide)) hgd (by rfl) T.d__law_refused.mg T.d__law_refused.F.kp T.d__law_refused.b (fun σ => passAt (takes_of rfl rfl rfl rfl) σ) (pa_cons (pv 8) (pa_cons (pv 9) (pa_cons (pe_un un_neg (pe_int)) (pa_nil))))))) (pss_one (ps_ret (pe_bl))) (pss_nil))))
      (pss_one (ps_if (pt_not (pt_val (pe_callB (call_isi_ (K := K) rfl) (by rfl) T.z_isinstance (by decide +kernel) (pa_cons (pe_callG (ok_group_of T) (hr.mono (by decide)) hgd (by rfl) T.d_group_of.mg T.d_group_of.F.kp T.d_group_of.b (fun σ => passAt (takes_of rfl rfl rfl rfl) σ) (pa_cons (pv 3) (pa_cons (pe_lst (pa_cons (pe_op (op_addAny_ (K := K) rfl) (pe_callG (ok__law_any_turn T) (hr.mono (by decide)) hgd (by rfl) T.d__law_any_turn.mg T.d__law_any_turn.F.kp T.d__law_any_turn.b (fun σ => passAt (takes_of rfl rfl rfl rfl) σ) (pa_cons (pv 1) (pa_cons (pe_callB (call_min2 rfl) (by rfl) T.z_min (by decide +kernel) (pa_cons (pv 3) (pa_cons (pe_int) (pa_nil)))) (pa_nil)))) (pe_tupRg rfl (by rfl) T.z_tuple (prg_2 (by rfl) T.z_range (pe_callB (call_min2 rfl) (by rfl) T.z_min (by decide +kernel) (pa_cons (pv 3) (pa_cons (pe_int) (pa_nil)))) (pv 3)))) (pa_nil))) (pa_nil)))) (pa_cons (pe_bltn (v := .ty "tuple") (by rfl) T.z_tuple (by decide +kernel) rfl) (pa_nil)))))) (pss_one (ps_ret (pe_bl))) (pss_nil)))))))))))))
      (pss_one (ps_ret (pe_bl)))), ?_⟩
  unfold m_law
  exact es_seq (es_asgO (en_callF (ea_cons (ev_var (i := 0)) (ea_nil))) (by decide))
      (es_seq (es_for (ei_range1 (er_cons (ev_int) (er_nil))) (eg_name 2) (es_seq (es_asgF ((en_n g_add (ea_cons (ev_int) (ea_cons (ev_callP (i := 1) (ea_cons (ev_int) (ea_nil))) ea_nil))).e) (by decide))
      (es_seq (es_asgF (ev_callP (i := 1) (ea_cons (ev_var (i := 3)) (ea_nil))) (by decide))
      (es_seq (es_asgF (ev_callP (i := 1) (ea_cons ((en_n g_add (ea_cons (ev_sc s_len (er_cons (ev_var (i := 4)) (er_nil))) (ea_cons (ev_int) ea_nil))).e) (ea_nil))) (by decide))
      (es_seq (es_asgF ((en_n g_add (ea_cons ((en_n g_add (ea_cons (ev_slice (ev_var (i := 4)) (eo_no) (eo_part (ev_var (i := 5)))) (ea_cons ((en_lst (ea_cons (ev_callP (i := 1) (ea_cons (ev_var (i := 3)) (ea_nil))) (ea_nil))).e) ea_nil))).e) (ea_cons (ev_slice (ev_var (i := 4)) (eo_part (ev_var (i := 5))) (eo_no)) ea_nil))).e) (by decide))
      (es_seq (es_if (eb_not (eb_ofB ((en_callF (ea_cons (ev_var (i := 3)) (ea_cons ((en_n g_list (ea_cons (ev_var (i := 6)) (ea_nil))).e) (ea_cons (ev_var (i := 5)) (ea_nil))))).e))) (es_retO (en_imm (ev_bl))) (es_nx))
      (es_seq (es_asgF ((en_n g_add (ea_cons ((en_n g_add (ea_cons (ev_var (i := 5)) (ea_cons (ev_int) ea_nil))).e) (ea_cons (ev_callP (i := 1) (ea_cons (ev_sc s_sub (er_cons (ev_sc s_len (er_cons (ev_var (i := 6)) (er_nil))) (er_cons (ev_var (i := 5)) (er_nil)))) (ea_nil))) ea_nil))).e) (by decide))
      (es_seq (es_if (eb_not (eb_ofB ((en_callF (ea_cons (ev_var (i := 3)) (ea_cons ((en_n g_add (ea_cons ((en_n g_add (ea_cons (ev_slice (ev_var (i := 6)) (eo_no) (eo_part (ev_var (i := 7)))) (ea_cons ((en_lst (ea_cons (ev_callP (i := 1) (ea_cons (ev_var (i := 3)) (ea_nil))) (ea_nil))).e) ea_nil))).e) (ea_cons (ev_slice (ev_var (i := 6)) (eo_part (ev_var (i := 7))) (eo_no)) ea_nil))).e) (ea_cons (ev_var (i := 5)) (ea_nil))))).e))) (es_retO (en_imm (ev_bl))) (es_nx))
      (es_seq (es_asgF (ev_g g_ix (ea_cons ((en_lst (ea_cons (ev_int) (ea_cons (ev_int) (ea_cons (ev_sc s_neg (er_cons (ev_int) (er_nil))) (ea_cons (ev_sc s_neg (er_cons (ev_int) (er_nil))) (ea_cons (ev_sc s_pow (er_cons (ev_int) (er_cons (ev_int) (er_nil)))) (ea_cons (ev_sc s_neg (er_cons (ev_sc s_pow (er_cons (ev_int) (er_cons (ev_int) (er_nil)))) (er_nil))) (ea_nil)))))))).e) (ea_cons (ev_callP (i := 1) (ea_cons (ev_int) (ea_nil))) ea_nil))) (by decide))
      (es_seq (es_for (ei_seq ((en_lst (ea_cons ((en_lst (ea_nil)).e) (ea_cons ((en_n g_list (ea_cons (ev_var (i := 4)) (ea_nil))).e) (ea_cons ((en_n g_list (ea_cons (ev_var (i := 6)) (ea_nil))).e) (ea_nil))))).e)) (eg_name 9) (es_if (eb_not (eb_ofB ((en_callF (ea_cons (ev_var (i := 8)) (ea_cons (ev_var (i := 9)) (ea_cons (ev_sc s_neg (er_cons (ev_int) (er_nil))) (ea_nil))))).e))) (es_retO (en_imm (ev_bl))) (es_nx)) (by decide))
      (es_if (eb_not (eb_ofB (ev_sc (s_isi (T := .tuple)) (er_cons ((en_callF (ea_cons (ev_var (i := 3)) (ea_cons ((en_lst (ea_cons ((en_n g_add (ea_cons ((en_callP (i := 1) (ea_cons (ev_sc s_min2 (er_cons (ev_var (i := 3)) (er_cons (ev_int) (er_nil)))) (ea_nil))).e) (ea_cons ((en_n n_tupRg2 (ea_cons (ev_sc s_min2 (er_cons (ev_var (i := 3)) (er_cons (ev_int) (er_nil)))) (ea_cons (ev_var (i := 3)) (ea_nil)))).e) ea_nil))).e) (ea_nil))).e) (ea_nil)))).e) (er_cons (ev_ty (n := "tuple")) (er_nil)))))) (es_retO (en_imm (ev_bl))) (es_nx))))))))))) (by decide))
      (es_retO (en_imm (ev_bl))))
end
end MM

set_option Elab.async false
set_option linter.all false
set_option maxRecDepth 100000
set_option maxHeartbeats 4000000
noncomputable section
namespace MM
open PySem PySem.Spec PyProof.Rows L2
def defAt_mk {K : PySem.W.Frag} {h : Heap} {mg : Str → Option Value} {x : Str} {st : Stmt} {ps : List Str} {f : Addr} {od an : Option Addr} {sl : Array (Option Value)} {oc kV dc pm cd ct : Value} (X : K.In h) (G : h.Ns mainGlobals mg)
    (a : PySem.W.nsIn K mainGlobals x = some (some (.ref f))) (l : K.lookup f = some ⟨oc, od, .func (PySem.W.fnOf x x (defArgs st) (defBody st) (defScope st) .none kV dc pm an cd ct), sl⟩) (c : PySem.W.codeIn K cd x = true) (k : PySem.W.keepIn K (.ref f) = true)
    (hb : ∀ (kV doc pm : Value) (an : Option Addr) (cdv ct : Value) (us : List Value), us.length = ps.length → bindArgs (PySem.W.fnOf x x (defArgs st) (defBody st) (defScope st) .none kV doc pm an cdv ct) ⟨us, []⟩ = pure (ps.zip us)) : DefAt K mg x st ps where
  f := f
  fd := PySem.W.fnOf x x (defArgs st) (defBody st) (defScope st) .none kV dc pm an cd ct
  mg := PySem.W.mg_of X G a
  F := fun_mk l c k
  b := (fun_mk l c k).binds hb
/-! ### the law -/
def spLaw (K : PySem.W.Frag) : Sp := fun vs H Q _ => ∃ (a : Addr) (ns : List Int), vs = [.ref a] ∧ SqL K H a (ns.map V.int) ∧ ns.length ≤ 63 ∧ ∀ H', Q (.bl true) H'
theorem spLaw_of {K : PySem.W.Frag} {mg : Str → Option Value} {f : List D → RF} (hf : ∀ ns : List Int, ns.length ≤ 63 → f [.scr ns] = .ret (.bl true)) (vs : List V) (H : Hp) (Q : VK) (E : XK) (h : spLaw K vs H Q E) : spF K mg true f vs H Q E := by
  obtain ⟨a, ns, rfl, hS, hl, q⟩ := h
  refine ⟨fun _ => False, [.scr ns], fun b z => z.elim, .cons (.scr ?_) .nil, ?_⟩
  · rw [show Fz (fun _ => False) H [] = H from funext fun b => fz_in (fun z => nomatch z) id]
    exact hS
  · rw [hf ns hl]
    intro v H' Fd S _ _
    obtain ⟨v', e, r⟩ := S.repH.one_inv
    cases e
    cases r
    exact q _
theorem all_mk {l : PySem.W.OpenLaw} {w : World} {K : PySem.W.Frag} {h : Heap} {mg : Str → Option Value} {fa : Addr} (hf : ∀ ns : List Int, ns.length ≤ 63 → f_law [.scr ns] = .ret (.bl true)) (X : K.In h) (G : h.Ns mainGlobals mg) (hfa : mg "law" = some (.ref fa))
    {f1 : Addr} {od1 an1 : Option Addr} {sl1 : Array (Option Value)} {oc1 kV1 dc1 pm1 cd1 ct1 : Value}
    {f2 : Addr} {od2 an2 : Option Addr} {sl2 : Array (Option Value)} {oc2 kV2 dc2 pm2 cd2 ct2 : Value}
    {f3 : Addr} {od3 an3 : Option Addr} {sl3 : Array (Option Value)} {oc3 kV3 dc3 pm3 cd3 ct3 : Value}
    {f4 : Addr} {od4 an4 : Option Addr} {sl4 : Array (Option Value)} {oc4 kV4 dc4 pm4 cd4 ct4 : Value}
    {f5 : Addr} {od5 an5 : Option Addr} {sl5 : Array (Option Value)} {oc5 kV5 dc5 pm5 cd5 ct5 : Value}
    {f6 : Addr} {od6 an6 : Option Addr} {sl6 : Array (Option Value)} {oc6 kV6 dc6 pm6 cd6 ct6 : Value}
    {f7 : Addr} {od7 an7 : Option Addr} {sl7 : Array (Option Value)} {oc7 kV7 dc7 pm7 cd7 ct7 : Value}
    {f8 : Addr} {od8 an8 : Option Addr} {sl8 : Array (Option Value)} {oc8 kV8 dc8 pm8 cd8 ct8 : Value}
    {f9 : Addr} {od9 an9 : Option Addr} {sl9 : Array (Option Value)} {oc9 kV9 dc9 pm9 cd9 ct9 : Value}
    {f10 : Addr} {od10 an10 : Option Addr} {sl10 : Array (Option Value)} {oc10 kV10 dc10 pm10 cd10 ct10 : Value}
    {f11 : Addr} {od11 an11 : Option Addr} {sl11 : Array (Option Value)} {oc11 kV11 dc11 pm11 cd11 ct11 : Value}
    {f12 : Addr} {od12 an12 : Option Addr} {sl12 : Array (Option Value)} {oc12 kV12 dc12 pm12 cd12 ct12 : Value}
    {f13 : Addr} {od13 an13 : Option Addr} {sl13 : Array (Option Value)} {oc13 kV13 dc13 pm13 cd13 ct13 : Value}
    {tg0 : Tok}
    {tg1 : Tok}
    {bM : Addr}
    {iC0 iN0 iF0 : Addr} {inm0 iq0 : Str} {ibs0 ibm0 : List Value} {isn0 : List Str} {isub0 : List Value} {iab0 : Bool} {icol0 : Option Bool} {idd0 iod0 ian0 : Option Addr} {ik00 ik10 ik20 ik30 ik50 : Option Value} {ioc0 ikV0 idc0 ipm0 icd0 ict0 : Value} {isl0 : Array (Option Value)}
    {yC0 : Addr} {yC1 : Addr} {yC2 : Addr} {yC3 : Addr} {yC4 : Addr} {yC5 : Addr} {yC6 : Addr} {yC7 : Addr} {yC8 : Addr} {yC9 : Addr}
    (a1 : PySem.W.nsIn K mainGlobals "_law_pen" = some (some (.ref f1))) (l1 : K.lookup f1 = some ⟨oc1, od1, .func (PySem.W.fnOf "_law_pen" "_law_pen" (defArgs s__law_pen) (defBody s__law_pen) (defScope s__law_pen) .none kV1 dc1 pm1 an1 cd1 ct1), sl1⟩) (c1 : PySem.W.codeIn K cd1 "_law_pen" = true) (k1 : PySem.W.keepIn K (.ref f1) = true)
    (a2 : PySem.W.nsIn K mainGlobals "_law_draw" = some (some (.ref f2))) (l2 : K.lookup f2 = some ⟨oc2, od2, .func (PySem.W.fnOf "_law_draw" "_law_draw" (defArgs s__law_draw) (defBody s__law_draw) (defScope s__law_draw) .none kV2 dc2 pm2 an2 cd2 ct2), sl2⟩) (c2 : PySem.W.codeIn K cd2 "_law_draw" = true) (k2 : PySem.W.keepIn K (.ref f2) = true)
    (a3 : PySem.W.nsIn K mainGlobals "_law_any_turn" = some (some (.ref f3))) (l3 : K.lookup f3 = some ⟨oc3, od3, .func (PySem.W.fnOf "_law_any_turn" "_law_any_turn" (defArgs s__law_any_turn) (defBody s__law_any_turn) (defScope s__law_any_turn) .none kV3 dc3 pm3 an3 cd3 ct3), sl3⟩) (c3 : PySem.W.codeIn K cd3 "_law_any_turn" = true) (k3 : PySem.W.keepIn K (.ref f3) = true)
    (a4 : PySem.W.nsIn K mainGlobals "_law_turns" = some (some (.ref f4))) (l4 : K.lookup f4 = some ⟨oc4, od4, .func (PySem.W.fnOf "_law_turns" "_law_turns" (defArgs s__law_turns) (defBody s__law_turns) (defScope s__law_turns) .none kV4 dc4 pm4 an4 cd4 ct4), sl4⟩) (c4 : PySem.W.codeIn K cd4 "_law_turns" = true) (k4 : PySem.W.keepIn K (.ref f4) = true)
    (a5 : PySem.W.nsIn K mainGlobals "is_whole" = some (some (.ref f5))) (l5 : K.lookup f5 = some ⟨oc5, od5, .func (PySem.W.fnOf "is_whole" "is_whole" (defArgs s_is_whole) (defBody s_is_whole) (defScope s_is_whole) .none kV5 dc5 pm5 an5 cd5 ct5), sl5⟩) (c5 : PySem.W.codeIn K cd5 "is_whole" = true) (k5 : PySem.W.keepIn K (.ref f5) = true)
    (a6 : PySem.W.nsIn K mainGlobals "is_turn_of" = some (some (.ref f6))) (l6 : K.lookup f6 = some ⟨oc6, od6, .func (PySem.W.fnOf "is_turn_of" "is_turn_of" (defArgs s_is_turn_of) (defBody s_is_turn_of) (defScope s_is_turn_of) .none kV6 dc6 pm6 an6 cd6 ct6), sl6⟩) (c6 : PySem.W.codeIn K cd6 "is_turn_of" = true) (k6 : PySem.W.keepIn K (.ref f6) = true)
    (a7 : PySem.W.nsIn K mainGlobals "then" = some (some (.ref f7))) (l7 : K.lookup f7 = some ⟨oc7, od7, .func (PySem.W.fnOf "then" "then" (defArgs s_then) (defBody s_then) (defScope s_then) .none kV7 dc7 pm7 an7 cd7 ct7), sl7⟩) (c7 : PySem.W.codeIn K cd7 "then" = true) (k7 : PySem.W.keepIn K (.ref f7) = true)
    (a8 : PySem.W.nsIn K mainGlobals "grown_turns" = some (some (.ref f8))) (l8 : K.lookup f8 = some ⟨oc8, od8, .func (PySem.W.fnOf "grown_turns" "grown_turns" (defArgs s_grown_turns) (defBody s_grown_turns) (defScope s_grown_turns) .none kV8 dc8 pm8 an8 cd8 ct8), sl8⟩) (c8 : PySem.W.codeIn K cd8 "grown_turns" = true) (k8 : PySem.W.keepIn K (.ref f8) = true)
    (a9 : PySem.W.nsIn K mainGlobals "group_of" = some (some (.ref f9))) (l9 : K.lookup f9 = some ⟨oc9, od9, .func (PySem.W.fnOf "group_of" "group_of" (defArgs s_group_of) (defBody s_group_of) (defScope s_group_of) .none kV9 dc9 pm9 an9 cd9 ct9), sl9⟩) (c9 : PySem.W.codeIn K cd9 "group_of" = true) (k9 : PySem.W.keepIn K (.ref f9) = true)
    (a10 : PySem.W.nsIn K mainGlobals "_law_same" = some (some (.ref f10))) (l10 : K.lookup f10 = some ⟨oc10, od10, .func (PySem.W.fnOf "_law_same" "_law_same" (defArgs s__law_same) (defBody s__law_same) (defScope s__law_same) .none kV10 dc10 pm10 an10 cd10 ct10), sl10⟩) (c10 : PySem.W.codeIn K cd10 "_law_same" = true) (k10 : PySem.W.keepIn K (.ref f10) = true)
    (a11 : PySem.W.nsIn K mainGlobals "_law_refused" = some (some (.ref f11))) (l11 : K.lookup f11 = some ⟨oc11, od11, .func (PySem.W.fnOf "_law_refused" "_law_refused" (defArgs s__law_refused) (defBody s__law_refused) (defScope s__law_refused) .none kV11 dc11 pm11 an11 cd11 ct11), sl11⟩) (c11 : PySem.W.codeIn K cd11 "_law_refused" = true) (k11 : PySem.W.keepIn K (.ref f11) = true)
    (a12 : PySem.W.nsIn K mainGlobals "_law_odd" = some (some (.ref f12))) (l12 : K.lookup f12 = some ⟨oc12, od12, .func (PySem.W.fnOf "_law_odd" "_law_odd" (defArgs s__law_odd) (defBody s__law_odd) (defScope s__law_odd) .none kV12 dc12 pm12 an12 cd12 ct12), sl12⟩) (c12 : PySem.W.codeIn K cd12 "_law_odd" = true) (k12 : PySem.W.keepIn K (.ref f12) = true)
    (a13 : PySem.W.nsIn K mainGlobals "law" = some (some (.ref f13))) (l13 : K.lookup f13 = some ⟨oc13, od13, .func (PySem.W.fnOf "law" "law" (defArgs s_law) (defBody s_law) (defScope s_law) .none kV13 dc13 pm13 an13 cd13 ct13), sl13⟩) (c13 : PySem.W.codeIn K cd13 "law" = true) (k13 : PySem.W.keepIn K (.ref f13) = true)
    (z_ValueError : PySem.W.nsIn K mainGlobals "ValueError" = some none)
    (z_abs : PySem.W.nsIn K mainGlobals "abs" = some none)
    (z_all : PySem.W.nsIn K mainGlobals "all" = some none)
    (z_bool : PySem.W.nsIn K mainGlobals "bool" = some none)
    (z_int : PySem.W.nsIn K mainGlobals "int" = some none)
    (z_isinstance : PySem.W.nsIn K mainGlobals "isinstance" = some none)
    (z_len : PySem.W.nsIn K mainGlobals "len" = some none)
    (z_list : PySem.W.nsIn K mainGlobals "list" = some none)
    (z_min : PySem.W.nsIn K mainGlobals "min" = some none)
    (z_range : PySem.W.nsIn K mainGlobals "range" = some none)
    (z_repr : PySem.W.nsIn K mainGlobals "repr" = some none)
    (z_sorted : PySem.W.nsIn K mainGlobals "sorted" = some none)
    (z_str : PySem.W.nsIn K mainGlobals "str" = some none)
    (z_tuple : PySem.W.nsIn K mainGlobals "tuple" = some none)
    (g_MOST_THINGS : PySem.W.nsIn K mainGlobals "MOST_THINGS" = some (some (.int 7 tg0)))
    (g_MOST_TURNS : PySem.W.nsIn K mainGlobals "MOST_TURNS" = some (some (.int 60 tg1)))
    (b_ns : PySem.W.nsIn K mainGlobals "MarkError" = some (some (.ref bM)))
    (b_ga : PySem.W.specialIn K (.ref bM) "__getattribute__" = some (some (.builtin "type.__getattribute__")))
    (b_rd : PySem.W.readsIn K bM (.type "type") = true)
    (b_vv : PySem.W.findCls K (.ref bM) (.type "type") "__init__" = some (.val (.builtin "ValueError.__init__")))
    (i0_ns : PySem.W.nsIn K mainGlobals "NoTurn" = some (some (.ref iC0)))
    (i0_l : K.lookup iC0 = some (excClassObj inm0 iq0 iC0 iN0 ibs0 ibm0 true isn0 isub0 iab0 icol0 idd0 ik00 ik10 ik20 ik30 ik50 "ValueError.__new__"))
    (i0_rv : PySem.HandSPX.refsVE ibm0 = true)
    (i0_sa : PySem.W.findIn K (.ref iC0) "__setattr__" = some (some (.builtin "object.__setattr__")))
    (i0_sb : PySem.W.subIn K (.ref iC0) (.type "BaseException") = some true)
    (i0_ty : PySem.W.typeIn K (.ref iC0) = some (.type "type"))
    (i0_kp : PySem.W.keepIn K (.ref iC0) = true)
    (i0_no : PySem.W.findIn K (.ref iC0) "at" = some none)
    (i0_in : PySem.W.findIn K (.ref iC0) "__init__" = some (some (.ref iF0)))
    (i0_tI : PySem.W.typeIn K (.ref iF0) = some (.type "function"))
    (i0_lF : K.lookup iF0 = some ⟨ioc0, iod0, .func (PySem.W.fnOf "__init__" "NoTurn.__init__" (defArgs si_NoTurn) (defBody si_NoTurn) (defScope si_NoTurn) .none ikV0 idc0 ipm0 ian0 icd0 ict0), isl0⟩)
    (i0_cF : PySem.W.codeIn K icd0 "NoTurn.__init__" = true)
    (i0_kF : PySem.W.keepIn K (.ref iF0) = true)
    (i0_hd : PySem.W.hasDictIn K iC0 = true)
    (i0_se : PySem.W.subIn K (.ref iC0) (.ref iC0) = some true)
    (i0_ga : PySem.W.findIn K (.ref iC0) "__getattribute__" = some (some (.builtin "BaseException.__getattribute__")))
    (i0_gg : PySem.W.findIn K (.ref iC0) "__getattr__" = some none)
    (k_hn : PySem.W.specialIn K (.builtin "object.__class__") "__get__" = some (some (.builtin "getset_descriptor.__get__")))
    (k_ht : PySem.W.takesIn K (.builtin "object.__class__") = some true)
    (b_sb : PySem.W.subIn K (.ref bM) (.type "BaseException") = some true)
    (b_hd : PySem.W.hasDictIn K bM = true)
    (b_ty : PySem.W.typeIn K (.ref bM) = some (.type "type"))
    (y_n0 : PySem.W.nsIn K mainGlobals "BelowNought" = some (some (.ref yC0)))
    (y_t0 : PySem.W.typeIn K (.ref yC0) = some (.type "type"))
    (y_h0 : PySem.W.hasDictIn K yC0 = true)
    (y_n1 : PySem.W.nsIn K mainGlobals "NoBack" = some (some (.ref yC1)))
    (y_t1 : PySem.W.typeIn K (.ref yC1) = some (.type "type"))
    (y_h1 : PySem.W.hasDictIn K yC1 = true)
    (y_n2 : PySem.W.nsIn K mainGlobals "NoColours" = some (some (.ref yC2)))
    (y_t2 : PySem.W.typeIn K (.ref yC2) = some (.type "type"))
    (y_h2 : PySem.W.hasDictIn K yC2 = true)
    (y_n3 : PySem.W.nsIn K mainGlobals "NoLeading" = some (some (.ref yC3)))
    (y_t3 : PySem.W.typeIn K (.ref yC3) = some (.type "type"))
    (y_h3 : PySem.W.hasDictIn K yC3 = true)
    (y_n4 : PySem.W.nsIn K mainGlobals "NoName" = some (some (.ref yC4)))
    (y_t4 : PySem.W.typeIn K (.ref yC4) = some (.type "type"))
    (y_h4 : PySem.W.hasDictIn K yC4 = true)
    (y_n5 : PySem.W.nsIn K mainGlobals "NoNumber" = some (some (.ref yC5)))
    (y_t5 : PySem.W.typeIn K (.ref yC5) = some (.type "type"))
    (y_h5 : PySem.W.hasDictIn K yC5 = true)
    (y_n6 : PySem.W.nsIn K mainGlobals "NoRow" = some (some (.ref yC6)))
    (y_t6 : PySem.W.typeIn K (.ref yC6) = some (.type "type"))
    (y_h6 : PySem.W.hasDictIn K yC6 = true)
    (y_n7 : PySem.W.nsIn K mainGlobals "NoSet" = some (some (.ref yC7)))
    (y_t7 : PySem.W.typeIn K (.ref yC7) = some (.type "type"))
    (y_h7 : PySem.W.hasDictIn K yC7 = true)
    (y_n8 : PySem.W.nsIn K mainGlobals "NoText" = some (some (.ref yC8)))
    (y_t8 : PySem.W.typeIn K (.ref yC8) = some (.type "type"))
    (y_h8 : PySem.W.hasDictIn K yC8 = true)
    (y_n9 : PySem.W.nsIn K mainGlobals "TooMany" = some (some (.ref yC9)))
    (y_t9 : PySem.W.typeIn K (.ref yC9) = some (.type "type"))
    (y_h9 : PySem.W.hasDictIn K yC9 = true)
    (k0_ha : PySem.W.findIn K (.ref iC0) "__class__" = some (some (.builtin "object.__class__")))
    (k0_hm : PySem.W.mroIn K iC0 (.type "object") = some true)
    (k0_ve : PySem.W.subIn K (.ref iC0) (.type "ValueError") = some true)
    (k0_xm : PySem.W.subIn K (.ref iC0) (.ref bM) = some true)
    (k0_y_n0 : PySem.W.subIn K (.ref iC0) (.ref yC0) = some false)
    (k0_y_n1 : PySem.W.subIn K (.ref iC0) (.ref yC1) = some false)
    (k0_y_n2 : PySem.W.subIn K (.ref iC0) (.ref yC2) = some false)
    (k0_y_n3 : PySem.W.subIn K (.ref iC0) (.ref yC3) = some false)
    (k0_y_n4 : PySem.W.subIn K (.ref iC0) (.ref yC4) = some false)
    (k0_y_n5 : PySem.W.subIn K (.ref iC0) (.ref yC5) = some false)
    (k0_y_n6 : PySem.W.subIn K (.ref iC0) (.ref yC6) = some false)
    (k0_y_n7 : PySem.W.subIn K (.ref iC0) (.ref yC7) = some false)
    (k0_y_n8 : PySem.W.subIn K (.ref iC0) (.ref yC8) = some false)
    (k0_y_n9 : PySem.W.subIn K (.ref iC0) (.ref yC9) = some false) :
    ∃ fd : FuncData, (∀ (s : Shared) (v : Value), BindsTo s fd ⟨[v], []⟩ [("_law_script", v)]) ∧ ∀ base : Heap, K.In base → base.Ns mainGlobals mg → FnG l.prog w K mg base 7 fa fd ["_law_script"] (spLaw K) := by
  have e := hfa.symm.trans (PySem.W.mg_of X G a13)
  cases e
  let T : Txt K mg := {
    d__law_pen := (defAt_mk X G a1 l1 c1 k1 fun _ _ _ _ _ _ us hl => by match us, hl with | [_], _ => rfl),
    d__law_draw := (defAt_mk X G a2 l2 c2 k2 fun _ _ _ _ _ _ us hl => by match us, hl with | [_, _], _ => rfl),
    d__law_any_turn := (defAt_mk X G a3 l3 c3 k3 fun _ _ _ _ _ _ us hl => by match us, hl with | [_, _], _ => rfl),
    d__law_turns := (defAt_mk X G a4 l4 c4 k4 fun _ _ _ _ _ _ us hl => by match us, hl with | [_, _], _ => rfl),
    d_is_whole := (defAt_mk X G a5 l5 c5 k5 fun _ _ _ _ _ _ us hl => by match us, hl with | [_], _ => rfl),
    d_is_turn_of := (defAt_mk X G a6 l6 c6 k6 fun _ _ _ _ _ _ us hl => by match us, hl with | [_, _], _ => rfl),
    d_then := (defAt_mk X G a7 l7 c7 k7 fun _ _ _ _ _ _ us hl => by match us, hl with | [_, _], _ => rfl),
    d_grown_turns := (defAt_mk X G a8 l8 c8 k8 fun _ _ _ _ _ _ us hl => by match us, hl with | [_, _], _ => rfl),
    d_group_of := (defAt_mk X G a9 l9 c9 k9 fun _ _ _ _ _ _ us hl => by match us, hl with | [_, _], _ => rfl),
    d__law_same := (defAt_mk X G a10 l10 c10 k10 fun _ _ _ _ _ _ us hl => by match us, hl with | [_, _], _ => rfl),
    d__law_refused := (defAt_mk X G a11 l11 c11 k11 fun _ _ _ _ _ _ us hl => by match us, hl with | [_, _, _], _ => rfl),
    d__law_odd := (defAt_mk X G a12 l12 c12 k12 fun _ _ _ _ _ _ us hl => by match us, hl with | [_, _], _ => rfl),
    d_law := (defAt_mk X G a13 l13 c13 k13 fun _ _ _ _ _ _ us hl => by match us, hl with | [_], _ => rfl),
    z_ValueError := PySem.W.mg_none_of X G z_ValueError,
    z_abs := PySem.W.mg_none_of X G z_abs,
    z_all := PySem.W.mg_none_of X G z_all,
    z_bool := PySem.W.mg_none_of X G z_bool,
    z_int := PySem.W.mg_none_of X G z_int,
    z_isinstance := PySem.W.mg_none_of X G z_isinstance,
    z_len := PySem.W.mg_none_of X G z_len,
    z_list := PySem.W.mg_none_of X G z_list,
    z_min := PySem.W.mg_none_of X G z_min,
    z_range := PySem.W.mg_none_of X G z_range,
    z_repr := PySem.W.mg_none_of X G z_repr,
    z_sorted := PySem.W.mg_none_of X G z_sorted,
    z_str := PySem.W.mg_none_of X G z_str,
    z_tuple := PySem.W.mg_none_of X G z_tuple,
    g_MOST_THINGS := ⟨_, PySem.W.mg_of X G g_MOST_THINGS⟩,
    g_MOST_TURNS := ⟨_, PySem.W.mg_of X G g_MOST_TURNS⟩,
    b_err := basT_mk X G b_ns b_ga b_rd b_vv,
    x_NoTurn := ⟨i0_ga, i0_gg, i0_sb, i0_hd⟩,
    i_NoTurn := iniT_mk X G i0_ns i0_l i0_rv i0_sa i0_sb i0_ty i0_kp i0_no i0_in i0_tI i0_lF i0_cF i0_kF fun _ _ _ _ _ _ us hl => by match us, hl with | [_, _], _ => rfl,
    t_NoTurn := .one (PySem.W.mg_of X G i0_ns) i0_ns (PySem.W.exm_ref i0_sb i0_hd i0_ty i0_se),
    t_err := Takers.cons (PySem.W.mg_of X G i0_ns) i0_ns (PySem.W.exm_ref b_sb b_hd b_ty k0_xm) (Takers.nil),
    x_tab := XTs.cons (xt_mk i0_ns i0_ga i0_gg i0_sb i0_hd k0_ha k_hn k_ht k0_hm k0_ve i0_se ⟨⟨yC0, y_n0, y_t0, y_h0, k0_y_n0⟩, ⟨yC1, y_n1, y_t1, y_h1, k0_y_n1⟩, ⟨yC2, y_n2, y_t2, y_h2, k0_y_n2⟩, ⟨yC3, y_n3, y_t3, y_h3, k0_y_n3⟩, ⟨yC4, y_n4, y_t4, y_h4, k0_y_n4⟩, ⟨yC5, y_n5, y_t5, y_h5, k0_y_n5⟩, ⟨yC6, y_n6, y_t6, y_h6, k0_y_n6⟩, ⟨yC7, y_n7, y_t7, y_h7, k0_y_n7⟩, ⟨yC8, y_n8, y_t8, y_h8, k0_y_n8⟩, ⟨yC9, y_n9, y_t9, y_h9, k0_y_n9⟩, trivial⟩) (XTs.nil),
    c_BelowNought := clt_mk X G y_n0,
    c_NoBack := clt_mk X G y_n1,
    c_NoColours := clt_mk X G y_n2,
    c_NoLeading := clt_mk X G y_n3,
    c_NoName := clt_mk X G y_n4,
    c_NoNumber := clt_mk X G y_n5,
    c_NoRow := clt_mk X G y_n6,
    c_NoSet := clt_mk X G y_n7,
    c_NoText := clt_mk X G y_n8,
    c_NoTurn := clt_mk X G i0_ns,
    c_TooMany := clt_mk X G y_n9 }
  exact ⟨T.d_law.fd, fun s v => .of_eq rfl, fun base _ _ => (ok_law T).imp fun h => spLaw_of hf _ _ _ _ h⟩
end MM
open PySem PySem.W PyProof.Rows
set_option maxHeartbeats 0 in
theorem PySem.Challenge.cw_heldmarks_k06_no_groups_holds : PySem.Challenge.rw_heldmarks_k06_no_groups.Holds := by
  w_on; o_law; k_head; (case hw => w_witness2)
  k_fill
  refine MM.walk_G (l := PySem.Challenge.rw_heldmarks_k06_no_groups) (n := 63) (k := 7) (x := "_law_script") (sp := fun w => MM.spLaw _) rfl (by decide) rfl ⟨rfl, by decide, by decide⟩ (fun w h Y => PySem.W.kIn_of Y) ?F fun _ _ a ns hl _ hS => ⟨a, ns, rfl, hS, hl, fun _ => rfl⟩
  case F =>
    intro w mg fa h KX G hmg
    refine' MM.all_mk MM.maths KX G hmg ?a1 ?l1 ?c1 ?k1 ?a2 ?l2 ?c2 ?k2 ?a3 ?l3 ?c3 ?k3 ?a4 ?l4 ?c4 ?k4 ?a5 ?l5 ?c5 ?k5 ?a6 ?l6 ?c6 ?k6 ?a7 ?l7 ?c7 ?k7 ?a8 ?l8 ?c8 ?k8 ?a9 ?l9 ?c9 ?k9 ?a10 ?l10 ?c10 ?k10 ?a11 ?l11 ?c11 ?k11 ?a12 ?l12 ?c12 ?k12 ?a13 ?l13 ?c13 ?k13 ?z_ValueError ?z_abs ?z_all ?z_bool ?z_int ?z_isinstance ?z_len ?z_list ?z_min ?z_range ?z_repr ?z_sorted ?z_str ?z_tuple ?g_MOST_THINGS ?g_MOST_TURNS ?b_ns ?b_ga ?b_rd ?b_vv ?i0_ns ?i0_l ?i0_rv ?i0_sa ?i0_sb ?i0_ty ?i0_kp ?i0_no ?i0_in ?i0_tI ?i0_lF ?i0_cF ?i0_kF ?i0_hd ?i0_se ?i0_ga ?i0_gg ?k_hn ?k_ht ?b_sb ?b_hd ?b_ty ?y_n0 ?y_t0 ?y_h0 ?y_n1 ?y_t1 ?y_h1 ?y_n2 ?y_t2 ?y_h2 ?y_n3 ?y_t3 ?y_h3 ?y_n4 ?y_t4 ?y_h4 ?y_n5 ?y_t5 ?y_h5 ?y_n6 ?y_t6 ?y_h6 ?y_n7 ?y_t7 ?y_h7 ?y_n8 ?y_t8 ?y_h8 ?y_n9 ?y_t9 ?y_h9 ?k0_ha ?k0_hm ?k0_ve ?k0_xm ?k0_y_n0 ?k0_y_n1 ?k0_y_n2 ?k0_y_n3 ?k0_y_n4 ?k0_y_n5 ?k0_y_n6 ?k0_y_n7 ?k0_y_n8 ?k0_y_n9
    (case a1 => k_is)
    (case l1 => k_is)
    (case c1 => k_is)
    (case k1 => k_is)
    (case a2 => k_is)
    (case l2 => k_is)
    (case c2 => k_is)
    (case k2 => k_is)
    (case a3 => k_is)
    (case l3 => k_is)
    (case c3 => k_is)
    (case k3 => k_is)
    (case a4 => k_is)
    (case l4 => k_is)
    (case c4 => k_is)
    (case k4 => k_is)
    (case a5 => k_is)
    (case l5 => k_is)
    (case c5 => k_is)
    (case k5 => k_is)
    (case a6 => k_is)
    (case l6 => k_is)
    (case c6 => k_is)
    (case k6 => k_is)
    (case a7 => k_is)
    (case l7 => k_is)
    (case c7 => k_is)
    (case k7 => k_is)
    (case a8 => k_is)
    (case l8 => k_is)
    (case c8 => k_is)
    (case k8 => k_is)
    (case a9 => k_is)
    (case l9 => k_is)
    (case c9 => k_is)
    (case k9 => k_is)
    (case a10 => k_is)
    (case l10 => k_is)
    (case c10 => k_is)
    (case k10 => k_is)
    (case a11 => k_is)
    (case l11 => k_is)
    (case c11 => k_is)
    (case k11 => k_is)
    (case a12 => k_is)
    (case l12 => k_is)
    (case c12 => k_is)
    (case k12 => k_is)
    (case a13 => k_is)
    (case l13 => k_is)
    (case c13 => k_is)
    (case k13 => k_is)
    (case z_ValueError => k_is)
    (case z_abs => k_is)
    (case z_all => k_is)
    (case z_bool => k_is)
    (case z_int => k_is)
    (case z_isinstance => k_is)
    (case z_len => k_is)
    (case z_list => k_is)
    (case z_min => k_is)
    (case z_range => k_is)
    (case z_repr => k_is)
    (case z_sorted => k_is)
    (case z_str => k_is)
    (case z_tuple => k_is)
    (case g_MOST_THINGS => k_is)
    (case g_MOST_TURNS => k_is)
    (case b_ns => k_is)
    (case b_ga => k_is)
    (case b_rd => k_is)
    (case b_vv => k_is)
    (case i0_ns => k_is)
    (case i0_l => k_is)
    (case i0_rv => rfl)
    (case i0_sa => k_is)
    (case i0_sb => k_is)
    (case i0_ty => k_is)
    (case i0_kp => k_is)
    (case i0_no => k_is)
    (case i0_in => k_is)
    (case i0_tI => k_is)
    (case i0_lF => k_is)
    (case i0_cF => k_is)
    (case i0_kF => k_is)
    (case i0_hd => k_is)
    (case i0_se => k_is)
    (case i0_ga => k_is)
    (case i0_gg => k_is)
    (case k_hn => k_is)
    (case k_ht => k_is)
    (case b_sb => k_is)
    (case b_hd => k_is)
    (case b_ty => k_is)
    (case y_n0 => k_is)
    (case y_t0 => k_is)
    (case y_h0 => k_is)
    (case y_n1 => k_is)
    (case y_t1 => k_is)
    (case y_h1 => k_is)
    (case y_n2 => k_is)
    (case y_t2 => k_is)
    (case y_h2 => k_is)
    (case y_n3 => k_is)
    (case y_t3 => k_is)
    (case y_h3 => k_is)
    (case y_n4 => k_is)
    (case y_t4 => k_is)
    (case y_h4 => k_is)
    (case y_n5 => k_is)
    (case y_t5 => k_is)
    (case y_h5 => k_is)
    (case y_n6 => k_is)
    (case y_t6 => k_is)
    (case y_h6 => k_is)
    (case y_n7 => k_is)
    (case y_t7 => k_is)
    (case y_h7 => k_is)
    (case y_n8 => k_is)
    (case y_t8 => k_is)
    (case y_h8 => k_is)
    (case y_n9 => k_is)
    (case y_t9 => k_is)
    (case y_h9 => k_is)
    (case k0_ha => k_is)
    (case k0_hm => k_is)
    (case k0_ve => k_is)
    (case k0_xm => k_is)
    (case k0_y_n0 => k_is)
    (case k0_y_n1 => k_is)
    (case k0_y_n2 => k_is)
    (case k0_y_n3 => k_is)
    (case k0_y_n4 => k_is)
    (case k0_y_n5 => k_is)
    (case k0_y_n6 => k_is)
    (case k0_y_n7 => k_is)
    (case k0_y_n8 => k_is)
    (case k0_y_n9 => k_is)
