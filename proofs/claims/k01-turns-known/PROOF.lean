import PyProof.Rows.All
import Wide.All
import OpenK.AllK
import Wide.FinOn
import HandS.ForMost
import HandS.ForExc
import HandS.RaiseMore
import HandS.IsInst
import HandS.Conv
import HandS.SortInts
import HandS.Flow
import HandS.Wide
import HandS.TupAny
import HandS.TupLen
import HandS.Style
import HandS.TupMul
import HandS.Deep
import HandS.Zip
import HandS.More
import HandS.TupSets
import HandS.SortOrd
import HandS.SortRule
import KE.KDictCopyH
import KE.KSortTupAny
import KE.KDictDisplayH
import HandS.TupLe
import HandS.SetFor
import HandS.Strs
import HandS.Ends
import HandS.EndBits
import PyProof.ReprRoads
import KE.SortKeyHeap
import KE.SortData
import HandS.SortKw
import KE.KDictWalk
import KE.KDictKeyed
import KE.KDictPairs
import KE.DataCmp
import HandS.SetKeys
import KE.GoesMore
import PyProof.Draws
import PyProof.EnumMake
import HandS.ExcValue
import HandS.Exc
import HandS.ExcIs
import PyProof.TupleOfSeq
import PyProof.AutoSeq1
import HandS.ExcInit
import HandS.TryOnly
import HandS.ExcField
import KE.KDictZip
import PyProof.StrBlock2
import KE.DataFind
import PyProof.ReprBulk
import PyProof.Rows.ReprOcc
import PySem.Challenge.RW_heldmarks_k01_turns_known
set_option Elab.async false
set_option linter.all false
set_option maxRecDepth 100000
set_option maxHeartbeats 4000000
noncomputable section
namespace MM
open PySem PySem.Spec PyProof.Rows L2

/-! ### data -/
inductive D where
  | non | bl (b : Bool) | int (i : Int) | str (x : Str)
  | lst (xs : List D) | tup (xs : List D)
  | dK (kvs : List (Key × D)) | dT (kvs : List (List Key × D)) | dTf (kvs : List (List Key × D))
  | scr (ns : List Int) | opq (v : V) | deep (d : D)
  | nam (b : Bool) (x : Str) | xn (x f : Str) (i : Int) | fz (d : D) | tz (xs : List D)
/-- what is told of a kept exception -/
def trk (cls : Value) (d : Option Addr) (a : Addr) : HO := .ext fun h => ∃ (oe : Obj) (vs : Array Value), h.get? a = some oe ∧ oe.cls = cls ∧ oe.dict = d ∧ oe.data = .fields vs
/-- an exception object of the class at C, no fields of its own, at a -/
def ExK (C a : Addr) : HO := .ext fun h => ∃ (oe : Obj) (vs : Array Value), h.get? a = some oe ∧ oe.cls = .ref C ∧ oe.dict = none ∧ oe.data = .fields vs

mutual
inductive Rep (K : PySem.W.Frag) (Z : Hp) : D → V → Prop
  | non : Rep K Z .non .non
  | bl (b : Bool) : Rep K Z (.bl b) (.bl b)
  | int (i : Int) : Rep K Z (.int i) (.int i)
  | str (x : Str) : Rep K Z (.str x) (.str x)
  | lst {a : Addr} {vs : List V} {ds : List D} : Z a = some (.lst vs) → RepL K Z ds vs → Rep K Z (.lst ds) (.ref a)
  | tup {a : Addr} {vs : List V} {ds : List D} : Z a = some (.tup vs) → RepL K Z ds vs → Rep K Z (.tup ds) (.ref a)
  | dK {a : Addr} {kws : List (Key × V)} {kvs : List (Key × D)} : Z a = some (.dK kws) → RepK K Z kvs kws → Rep K Z (.dK kvs) (.ref a)
  | dT {a : Addr} {kws : List (List Key × V)} {kvs : List (List Key × D)} : Z a = some (.dT kws) → RepT K Z kvs kws → Rep K Z (.dT kvs) (.ref a)
  | dTf {a : Addr} {o : Obj} {kws : List (List Key × V)} {kvs : List (List Key × D)} : Z a = some (.frz o (.dT kws)) → RepT K Z kvs kws → Rep K Z (.dTf kvs) (.ref a)
  | scr {a : Addr} {ns : List Int} : SqL K Z a (ns.map V.int) → Rep K Z (.scr ns) (.ref a)
  | opq (v : V) : Rep K Z (.opq v) v
  | cls {x : Str} {C : Addr} : PySem.W.nsIn K mainGlobals x = some (some (.ref C)) → Rep K Z (.nam false x) (.ref C)
  | exn {x : Str} {C a : Addr} : PySem.W.nsIn K mainGlobals x = some (some (.ref C)) → Z a = some (ExK C a) → Rep K Z (.nam true x) (.ref a)
  | xn {x f : Str} {i : Int} {C a dx : Addr} : PySem.W.nsIn K mainGlobals x = some (some (.ref C)) → Z a = some (trk (.ref C) (some dx) a) → Z dx = some (.xd [(f, .int i)]) → Rep K Z (.xn x f i) (.ref a)
  | deep {d : D} {v : V} : Rep K Z d v → Rep K Z (.deep d) v
  | frzn {d : D} {v : V} : Rep K Z d v → Rep K Z (.fz d) v
  | tz {a : Addr} {o : Obj} {vs : List V} {ds : List D} : Z a = some (.frz o (.tup vs)) → o.dict = none → RepL K Z ds vs → Rep K Z (.tz ds) (.ref a)
inductive RepL (K : PySem.W.Frag) (Z : Hp) : List D → List V → Prop
  | nil : RepL K Z [] []
  | cons {d : D} {v : V} {ds : List D} {vs : List V} : Rep K Z d v → RepL K Z ds vs → RepL K Z (d :: ds) (v :: vs)
inductive RepK (K : PySem.W.Frag) (Z : Hp) : List (Key × D) → List (Key × V) → Prop
  | nil : RepK K Z [] []
  | cons {k : Key} {d : D} {v : V} {ds : List (Key × D)} {vs : List (Key × V)} : Rep K Z d v → RepK K Z ds vs → RepK K Z ((k, d) :: ds) ((k, v) :: vs)
inductive RepT (K : PySem.W.Frag) (Z : Hp) : List (List Key × D) → List (List Key × V) → Prop
  | nil : RepT K Z [] []
  | cons {k : List Key} {d : D} {v : V} {ds : List (List Key × D)} {vs : List (List Key × V)} : Rep K Z d v → RepT K Z ds vs → RepT K Z ((k, d) :: ds) ((k, v) :: vs)
end

def Ex (H H' : Hp) : Prop := ∀ a o, H a = some o → H' a = some o
theorem Ex.refl (H : Hp) : Ex H H := fun _ _ h => h
theorem Ex.trans {H H1 H2 : Hp} (a : Ex H H1) (b : Ex H1 H2) : Ex H H2 := fun x o h => b x o (a x o h)
theorem ex_new {H : Hp} {p : Addr} {o : HO} (h : H p = none) : Ex H (upd H p o) := fun a u e => by
  rw [upd_ne (ne_of_none e h)]
  exact e
theorem sql_mono {K : PySem.W.Frag} {H H' : Hp} {a : Addr} {xs : List V} (e : Ex H H') (h : SqL K H a xs) : SqL K H' a xs := by
  rcases h with (h | ⟨o, h⟩) | h
  · exact .inl (.inl (e _ _ h))
  · exact .inl (.inr ⟨o, e _ _ h⟩)
  · exact .inr h

section
variable {K : PySem.W.Frag} {Z Z' : Hp}
mutual
theorem Rep.mono (e : Ex Z Z') : ∀ {d : D} {v : V}, Rep K Z d v → Rep K Z' d v
  | _, _, .non => .non
  | _, _, .bl b => .bl b
  | _, _, .int b => .int b
  | _, _, .str b => .str b
  | _, _, .lst h r => .lst (e _ _ h) (RepL.mono e r)
  | _, _, .tup h r => .tup (e _ _ h) (RepL.mono e r)
  | _, _, .dK h r => .dK (e _ _ h) (RepK.mono e r)
  | _, _, .dT h r => .dT (e _ _ h) (RepT.mono e r)
  | _, _, .dTf h r => .dTf (e _ _ h) (RepT.mono e r)
  | _, _, .scr h => .scr (sql_mono e h)
  | _, _, .opq v => .opq v
  | _, _, .cls h => .cls h
  | _, _, .exn h g => .exn h (e _ _ g)
  | _, _, .xn h g k => .xn h (e _ _ g) (e _ _ k)
  | _, _, .deep h => .deep (Rep.mono e h)
  | _, _, .frzn h => .frzn (Rep.mono e h)
  | _, _, .tz h d r => .tz (e _ _ h) d (RepL.mono e r)
theorem RepL.mono (e : Ex Z Z') : ∀ {d : List D} {v : List V}, RepL K Z d v → RepL K Z' d v
  | _, _, .nil => .nil
  | _, _, .cons h r => .cons (Rep.mono e h) (RepL.mono e r)
theorem RepK.mono (e : Ex Z Z') : ∀ {d : List (Key × D)} {v : List (Key × V)}, RepK K Z d v → RepK K Z' d v
  | _, _, .nil => .nil
  | _, _, .cons h r => .cons (Rep.mono e h) (RepK.mono e r)
theorem RepT.mono (e : Ex Z Z') : ∀ {d : List (List Key × D)} {v : List (List Key × V)}, RepT K Z d v → RepT K Z' d v
  | _, _, .nil => .nil
  | _, _, .cons h r => .cons (Rep.mono e h) (RepT.mono e r)
end
theorem RepL.length : ∀ {ds : List D} {vs : List V}, RepL K Z ds vs → ds.length = vs.length
  | _, _, .nil => rfl
  | _, _, .cons _ r => by rw [List.length_cons, List.length_cons, RepL.length r]
theorem RepL.get : ∀ {ds : List D} {vs : List V} {i : Nat} {d : D}, RepL K Z ds vs → ds[i]? = some d → ∃ v, vs[i]? = some v ∧ Rep K Z d v
  | _, _, 0, _, .cons h _, e => by cases e; exact ⟨_, rfl, h⟩
  | _, _, i + 1, _, .cons _ r, e => RepL.get (i := i) r e
theorem RepL.append : ∀ {ds es : List D} {vs us : List V}, RepL K Z ds vs → RepL K Z es us → RepL K Z (ds ++ es) (vs ++ us)
  | _, _, _, _, .nil, r => r
  | _, _, _, _, .cons h t, r => .cons h (RepL.append t r)
end

/-! ### ownership: the mutable cells of a value -/
mutual
inductive Own (K : PySem.W.Frag) (H Z : Hp) : D → V → List Addr → Prop
  | frz {d : D} {v : V} : Rep K Z d v → Own K H Z d v []
  | lst {a : Addr} {vs : List V} {ds : List D} {F : List Addr} : H a = some (.lst vs) → OwnL K H Z ds vs F → Own K H Z (.lst ds) (.ref a) (a :: F)
  | tup {a : Addr} {vs : List V} {ds : List D} {F : List Addr} : Z a = some (.tup vs) → OwnL K H Z ds vs F → Own K H Z (.tup ds) (.ref a) F
  | dK {a : Addr} {kws : List (Key × V)} {kvs : List (Key × D)} : H a = some (.dK kws) → RepK K Z kvs kws → Own K H Z (.dK kvs) (.ref a) [a]
  | dT {a : Addr} {kws : List (List Key × V)} {kvs : List (List Key × D)} : H a = some (.dT kws) → RepT K Z kvs kws → Own K H Z (.dT kvs) (.ref a) [a]
  | deep {d : D} {v : V} {F : List Addr} : Own K H Z d v F → Own K H Z (.deep d) v F
inductive OwnL (K : PySem.W.Frag) (H Z : Hp) : List D → List V → List Addr → Prop
  | nil : OwnL K H Z [] [] []
  | cons {d : D} {v : V} {F : List Addr} {ds : List D} {vs : List V} {G : List Addr} : Own K H Z d v F → OwnL K H Z ds vs G → OwnL K H Z (d :: ds) (v :: vs) (F ++ G)
end
section
variable {K : PySem.W.Frag} {H H' Z Z' : Hp}
mutual
theorem Own.step (e : Ex Z Z') : ∀ {d : D} {v : V} {F : List Addr}, Own K H Z d v F → (∀ a ∈ F, ∀ o, H a = some o → H' a = some o) → Own K H' Z' d v F
  | _, _, _, .frz h, _ => .frz (h.mono e)
  | _, _, _, .lst h r, k => .lst (k _ List.mem_cons_self _ h) (OwnL.step e r fun a m => k a (List.mem_cons_of_mem _ m))
  | _, _, _, .tup h r, k => .tup (e _ _ h) (OwnL.step e r k)
  | _, _, _, .dK h r, k => .dK (k _ List.mem_cons_self _ h) (r.mono e)
  | _, _, _, .dT h r, k => .dT (k _ List.mem_cons_self _ h) (r.mono e)
  | _, _, _, .deep h, k => .deep (Own.step e h k)
theorem OwnL.step (e : Ex Z Z') : ∀ {d : List D} {v : List V} {F : List Addr}, OwnL K H Z d v F → (∀ a ∈ F, ∀ o, H a = some o → H' a = some o) → OwnL K H' Z' d v F
  | _, _, _, .nil, _ => .nil
  | _, _, _, .cons h r, k => .cons (Own.step e h fun a m => k a (List.mem_append_left _ m)) (OwnL.step e r fun a m => k a (List.mem_append_right _ m))
end
mutual
/-- its cells are frozen -/
theorem Own.freeze (e : Ex Z Z') : ∀ {d : D} {v : V} {F : List Addr}, Own K H Z d v F → (∀ a ∈ F, ∀ o, H a = some o → Z' a = some o) → Rep K Z' d v
  | _, _, _, .frz h, _ => h.mono e
  | _, _, _, .lst h r, k => .lst (k _ List.mem_cons_self _ h) (OwnL.freeze e r fun a m => k a (List.mem_cons_of_mem _ m))
  | _, _, _, .tup h r, k => .tup (e _ _ h) (OwnL.freeze e r k)
  | _, _, _, .dK h r, k => .dK (k _ List.mem_cons_self _ h) (r.mono e)
  | _, _, _, .dT h r, k => .dT (k _ List.mem_cons_self _ h) (r.mono e)
  | _, _, _, .deep h, k => .deep (Own.freeze e h k)
theorem OwnL.freeze (e : Ex Z Z') : ∀ {d : List D} {v : List V} {F : List Addr}, OwnL K H Z d v F → (∀ a ∈ F, ∀ o, H a = some o → Z' a = some o) → RepL K Z' d v
  | _, _, _, .nil, _ => .nil
  | _, _, _, .cons h r, k => .cons (Own.freeze e h fun a m => k a (List.mem_append_left _ m)) (OwnL.freeze e r fun a m => k a (List.mem_append_right _ m))
end
mutual
theorem Own.live : ∀ {d : D} {v : V} {F : List Addr}, Own K H Z d v F → ∀ a ∈ F, H a ≠ none
  | _, _, _, .frz h, a, m => nomatch m
  | _, _, _, .lst h r, a, m => by
    rcases List.mem_cons.mp m with e | m
    · rw [e, h]; exact nofun
    · exact OwnL.live r a m
  | _, _, _, .tup h r, a, m => OwnL.live r a m
  | _, _, _, .dK h r, a, m => by
    rcases List.mem_cons.mp m with e | m
    · rw [e, h]; exact nofun
    · exact nomatch m
  | _, _, _, .dT h r, a, m => by
    rcases List.mem_cons.mp m with e | m
    · rw [e, h]; exact nofun
    · exact nomatch m
  | _, _, _, .deep h, a, m => Own.live h a m
theorem OwnL.live : ∀ {d : List D} {v : List V} {F : List Addr}, OwnL K H Z d v F → ∀ a ∈ F, H a ≠ none
  | _, _, _, .nil, a, m => nomatch m
  | _, _, _, .cons h r, a, m => by
    rcases List.mem_append.mp m with m | m
    · exact Own.live h a m
    · exact OwnL.live r a m
end
theorem Own.rep {d : D} {v : V} {F : List Addr} (e : Ex Z H) (h : Own K H Z d v F) : Rep K H d v := h.freeze e fun _ _ _ h => h
theorem OwnL.rep {d : List D} {v : List V} {F : List Addr} (e : Ex Z H) (h : OwnL K H Z d v F) : RepL K H d v := h.freeze e fun _ _ _ h => h
theorem OwnL.length : ∀ {ds : List D} {vs : List V} {F : List Addr}, OwnL K H Z ds vs F → ds.length = vs.length
  | _, _, _, .nil => rfl
  | _, _, _, .cons _ r => by rw [List.length_cons, List.length_cons, OwnL.length r]
theorem OwnL.of_rep : ∀ {ds : List D} {vs : List V}, RepL K Z ds vs → OwnL K H Z ds vs []
  | _, _, .nil => .nil
  | _, _, .cons h r => .cons (F := []) (.frz h) (OwnL.of_rep r)
theorem OwnL.append : ∀ {ds es : List D} {vs us : List V} {F G : List Addr}, OwnL K H Z ds vs F → OwnL K H Z es us G → OwnL K H Z (ds ++ es) (vs ++ us) (F ++ G)
  | _, _, _, _, _, _, .nil, r => r
  | _, _, _, _, _, _, .cons h t, r => by
    rw [List.append_assoc]
    exact .cons h (OwnL.append t r)
theorem OwnL.one {d : D} {v : V} {F : List Addr} (h : Own K H Z d v F) : OwnL K H Z [d] [v] F := by
  have := OwnL.cons h OwnL.nil
  rwa [List.append_nil] at this
theorem OwnL.get : ∀ {ds : List D} {vs : List V} {F : List Addr} {i : Nat} {d : D}, OwnL K H Z ds vs F → ds[i]? = some d → ∃ v G, vs[i]? = some v ∧ Own K H Z d v G ∧ ∀ a ∈ G, a ∈ F
  | _, _, _, 0, _, .cons h _, e => by cases e; exact ⟨_, _, rfl, h, fun a m => List.mem_append_left _ m⟩
  | _, _, _, i + 1, _, .cons _ r, e => by
    obtain ⟨v, G, h1, h2, h3⟩ := OwnL.get (i := i) r e
    exact ⟨v, G, h1, h2, fun a m => List.mem_append_right _ (h3 a m)⟩
end

/-! ### immutable data -/
mutual
def imm : D → Bool
  | .non | .bl _ | .int _ | .str _ | .scr _ | .opq _ | .nam _ _ | .xn _ _ _ | .tz _ => true
  | .tup xs => immL xs
  | .lst _ | .dK _ | .dT _ | .dTf _ | .deep _ | .fz _ => false
def immL : List D → Bool
  | [] => true
  | d :: ds => imm d && immL ds
end
section
variable {K : PySem.W.Frag} {H H' Z Z' : Hp}
mutual
theorem Own.imm : ∀ {d : D} {v : V} {F : List Addr}, Own K H Z d v F → imm d = true → Rep K Z d v
  | _, _, _, .frz h, _ => h
  | _, _, _, .lst h r, k => by simp [MM.imm] at k
  | _, _, _, .tup h r, k => .tup h (OwnL.imm r (by simpa [MM.imm] using k))
  | _, _, _, .dK h r, k => by simp [MM.imm] at k
  | _, _, _, .dT h r, k => by simp [MM.imm] at k
  | _, _, _, .deep h, k => by simp [MM.imm] at k
theorem OwnL.imm : ∀ {d : List D} {v : List V} {F : List Addr}, OwnL K H Z d v F → immL d = true → RepL K Z d v
  | _, _, _, .nil, _ => .nil
  | _, _, _, .cons h r, k => by
    have k' := k
    simp only [immL, Bool.and_eq_true] at k'
    exact .cons (Own.imm h k'.1) (OwnL.imm r k'.2)
end
end

/-! ### the frozen part of a heap -/
open Classical in
def Fz (B : Addr → Prop) (H : Hp) (F : List Addr) : Hp := fun b => if b ∈ F ∨ B b then none else H b
theorem fz_in {B : Addr → Prop} {H : Hp} {F : List Addr} {b : Addr} (h : b ∉ F) (hb : ¬ B b) : Fz B H F b = H b := by
  unfold Fz
  rw [if_neg (fun z => z.elim h hb)]
theorem fz_some {B : Addr → Prop} {H : Hp} {F : List Addr} {b : Addr} {o : HO} (h : Fz B H F b = some o) : H b = some o ∧ b ∉ F ∧ ¬ B b := by
  unfold Fz at h
  split at h
  · cases h
  · rename_i n
    exact ⟨h, fun z => n (.inl z), fun z => n (.inr z)⟩
theorem fz_ex (B : Addr → Prop) (H : Hp) (F : List Addr) : Ex (Fz B H F) H := fun _ _ h => (fz_some h).1
theorem fz_mk {B : Addr → Prop} {H H' : Hp} {F F' : List Addr} {B' : Addr → Prop} (h : ∀ b o, H b = some o → b ∉ F → ¬ B b → H' b = some o ∧ b ∉ F' ∧ ¬ B' b) : Ex (Fz B H F) (Fz B' H' F') := fun b o e => by
  obtain ⟨h1, h2, h3⟩ := fz_some e
  obtain ⟨q1, q2, q3⟩ := h b o h1 h2 h3
  rw [fz_in q2 q3]
  exact q1
theorem fz_congr {B B' : Addr → Prop} {H : Hp} {F F' : List Addr} (h : ∀ b, (b ∈ F ∨ B b) ↔ (b ∈ F' ∨ B' b)) : Fz B H F = Fz B' H F' := by
  funext b
  unfold Fz
  by_cases q : b ∈ F ∨ B b
  · rw [if_pos q, if_pos ((h b).mp q)]
  · rw [if_neg q, if_neg fun z => q ((h b).mpr z)]

/-! ### slots -/
mutual
/-- its mutable cells, counted -/
def mct : D → Nat
  | .lst ds => 1 + mctL ds
  | .tup ds => mctL ds
  | .dK _ | .dT _ => 1
  | .deep d => mct d
  | _ => 0
def mctL : List D → Nat
  | [] => 0
  | d :: ds => mct d + mctL ds
end
mutual
theorem Own.len {K : PySem.W.Frag} {H Z : Hp} : ∀ {d : D} {v : V} {F : List Addr}, Own K H Z d v F → F.length ≤ mct d
  | _, _, _, .frz _ => Nat.zero_le _
  | _, _, _, .lst _ r => by have := OwnL.len r; simp only [mct, List.length_cons]; omega
  | _, _, _, .tup _ r => by have := OwnL.len r; simp only [mct]; omega
  | _, _, _, .dK _ _ => by simp [mct]
  | _, _, _, .dT _ _ => by simp [mct]
  | _, _, _, .deep h => by have := Own.len h; simp only [mct]; omega
theorem OwnL.len {K : PySem.W.Frag} {H Z : Hp} : ∀ {d : List D} {v : List V} {F : List Addr}, OwnL K H Z d v F → F.length ≤ mctL d
  | _, _, _, .nil => Nat.zero_le _
  | _, _, _, .cons h r => by have := Own.len h; have := OwnL.len r; simp only [mctL, List.length_append]; omega
end
/-- a mutable object has its own cell -/
def Exl (d : D) (F : List Addr) : Prop := match d with
  | .lst _ | .dK _ | .dT _ => F ≠ []
  | .deep d => F.length = mct d ∧ F ≠ []
  | _ => True
abbrev St := L2.St
abbrev Env := List (Option (Bool × D))
inductive RelE (K : PySem.W.Frag) (H Z : Hp) : Env → St → List Addr → Prop
  | nil : RelE K H Z [] [] []
  | non {o : Option V} {env : Env} {σ : St} {F : List Addr} : RelE K H Z env σ F → RelE K H Z (none :: env) (o :: σ) F
  | fz {d : D} {v : V} {env : Env} {σ : St} {F : List Addr} : Rep K Z d v → RelE K H Z env σ F → RelE K H Z (some (false, d) :: env) (some v :: σ) F
  | ow {d : D} {v : V} {env : Env} {σ : St} {F G : List Addr} : Exl d F → Own K H Z d v F → RelE K H Z env σ G → RelE K H Z (some (true, d) :: env) (some v :: σ) (F ++ G)
section
variable {K : PySem.W.Frag} {H H' Z Z' : Hp}
theorem RelE.step (e : Ex Z Z') : ∀ {env : Env} {σ : St} {F : List Addr}, RelE K H Z env σ F → (∀ a ∈ F, ∀ o, H a = some o → H' a = some o) → RelE K H' Z' env σ F
  | _, _, _, .nil, _ => .nil
  | _, _, _, .non r, k => .non (RelE.step e r k)
  | _, _, _, .fz h r, k => .fz (h.mono e) (RelE.step e r k)
  | _, _, _, .ow x h r, k => .ow x (h.step e fun a m => k a (List.mem_append_left _ m)) (RelE.step e r fun a m => k a (List.mem_append_right _ m))
theorem RelE.length : ∀ {env : Env} {σ : St} {F : List Addr}, RelE K H Z env σ F → env.length = σ.length
  | _, _, _, .nil => rfl
  | _, _, _, .non r => by rw [List.length_cons, List.length_cons, RelE.length r]
  | _, _, _, .fz _ r => by rw [List.length_cons, List.length_cons, RelE.length r]
  | _, _, _, .ow _ _ r => by rw [List.length_cons, List.length_cons, RelE.length r]
/-- what a frozen slot holds -/
theorem RelE.fzAt : ∀ {env : Env} {σ : St} {F : List Addr} {i : Nat} {d : D}, RelE K H Z env σ F → env[i]? = some (some (false, d)) → ∃ v, σ[i]? = some (some v) ∧ Rep K Z d v
  | _, _, _, 0, _, .fz h _, e => by cases e; exact ⟨_, rfl, h⟩
  | _, _, _, i + 1, _, .non r, e => RelE.fzAt (i := i) r e
  | _, _, _, i + 1, _, .fz _ r, e => RelE.fzAt (i := i) r e
  | _, _, _, i + 1, _, .ow _ _ r, e => RelE.fzAt (i := i) r e
/-- what any slot holds -/
theorem RelE.anyAt : ∀ {env : Env} {σ : St} {F : List Addr} {i : Nat} {k : Bool} {d : D}, RelE K H Z env σ F → env[i]? = some (some (k, d)) → ∃ v G, σ[i]? = some (some v) ∧ Own K H Z d v G ∧ ∀ a ∈ G, a ∈ F
  | _, _, _, 0, _, _, .fz h _, e => by cases e; exact ⟨_, [], rfl, .frz h, nofun⟩
  | _, _, _, 0, _, _, .ow _ h _, e => by cases e; exact ⟨_, _, rfl, h, fun a m => List.mem_append_left _ m⟩
  | _, _, _, i + 1, _, _, .non r, e => RelE.anyAt (i := i) r e
  | _, _, _, i + 1, _, _, .fz _ r, e => RelE.anyAt (i := i) r e
  | _, _, _, i + 1, _, _, .ow _ _ r, e => by
    obtain ⟨v, G, h1, h2, h3⟩ := RelE.anyAt (i := i) r e
    exact ⟨v, G, h1, h2, fun a m => List.mem_append_right _ (h3 a m)⟩
end
end MM

set_option Elab.async false
set_option linter.all false
set_option maxRecDepth 100000
set_option maxHeartbeats 4000000
noncomputable section
namespace MM
open PySem PySem.Spec PyProof.Rows L2

structure Exn where
  cls : Str
  fld : Option (Str × Int)
inductive R (α : Type) where
  | ok (a : α) (env : Env) | ex (e : Exn) (env : Env) | no
abbrev M (α : Type) := Env → R α

/-! ### slots changed -/
section
variable {K : PySem.W.Frag} {H H' Z Z' : Hp}
theorem RelE.cut : ∀ {env : Env} {σ : St} {F : List Addr} {i : Nat}, RelE K H Z env σ F → i < env.length → ∃ F1 Fi F2, F = F1 ++ (Fi ++ F2) ∧
    (∀ d, env[i]? = some (some (true, d)) → ∃ v, σ[i]? = some (some v) ∧ Exl d Fi ∧ Own K H Z d v Fi) ∧
    ∀ H' Z', Ex Z Z' → (∀ a, a ∈ F1 ∨ a ∈ F2 → ∀ o, H a = some o → H' a = some o) →
      (∀ d' v' Fi', Exl d' Fi' → Own K H' Z' d' v' Fi' → RelE K H' Z' (env.set i (some (true, d'))) (σ.set i (some v')) (F1 ++ (Fi' ++ F2))) ∧
      (∀ d' v', Rep K Z' d' v' → RelE K H' Z' (env.set i (some (false, d'))) (σ.set i (some v')) (F1 ++ F2)) ∧
      ∀ o', RelE K H' Z' (env.set i none) (σ.set i o') (F1 ++ F2)
  | _, _, _, 0, .nil, h => absurd h (Nat.not_lt_zero _)
  | _, _, _, i + 1, .nil, h => absurd h (Nat.not_lt_zero _)
  | _, _, _, 0, .non (F := F) r, _ => by
    refine ⟨[], [], F, rfl, fun d e => by simp at e, fun H' Z' e k => ?_⟩
    have r' := r.step e fun a m => k a (.inr m)
    exact ⟨fun d v Fi x o => RelE.ow (F := Fi) x o r', fun d v o => .fz o r', fun o => .non r'⟩
  | _, _, _, 0, .fz (F := F) h r, _ => by
    refine ⟨[], [], F, rfl, fun d e => by simp at e, fun H' Z' e k => ?_⟩
    have r' := r.step e fun a m => k a (.inr m)
    exact ⟨fun d v Fi x o => RelE.ow (F := Fi) x o r', fun d v o => .fz o r', fun o => .non r'⟩
  | _, _, _, 0, .ow (F := F) (G := G) x h r, _ => by
    refine ⟨[], F, G, rfl, fun d e => by simp at e; subst e; exact ⟨_, rfl, x, h⟩, fun H' Z' e k => ?_⟩
    have r' := r.step e fun a m => k a (.inr m)
    exact ⟨fun d v Fi x o => RelE.ow (F := Fi) x o r', fun d v o => .fz o r', fun o => .non r'⟩
  | _, _, _, i + 1, .non r, h => by
    obtain ⟨F1, Fi, F2, e, s, g⟩ := RelE.cut (i := i) r (Nat.lt_of_succ_lt_succ h)
    refine ⟨F1, Fi, F2, e, s, fun H' Z' ez k => ?_⟩
    obtain ⟨g1, g2, g3⟩ := g H' Z' ez k
    exact ⟨fun d v Fi x o => .non (g1 d v Fi x o), fun d v o => .non (g2 d v o), fun o => .non (g3 o)⟩
  | _, _, _, i + 1, .fz q r, h => by
    obtain ⟨F1, Fi, F2, e, s, g⟩ := RelE.cut (i := i) r (Nat.lt_of_succ_lt_succ h)
    refine ⟨F1, Fi, F2, e, s, fun H' Z' ez k => ?_⟩
    obtain ⟨g1, g2, g3⟩ := g H' Z' ez k
    have q' := q.mono ez
    exact ⟨fun d v Fi x o => .fz q' (g1 d v Fi x o), fun d v o => .fz q' (g2 d v o), fun o => .fz q' (g3 o)⟩
  | _, _, _, i + 1, .ow (F := F0) x0 q r, h => by
    obtain ⟨F1, Fi, F2, e, s, g⟩ := RelE.cut (i := i) r (Nat.lt_of_succ_lt_succ h)
    refine ⟨F0 ++ F1, Fi, F2, by rw [e, List.append_assoc], s, fun H' Z' ez k => ?_⟩
    obtain ⟨g1, g2, g3⟩ := g H' Z' ez fun a m => k a (m.elim (fun m => .inl (List.mem_append_right _ m)) .inr)
    have q' := q.step ez fun a m => k a (.inl (List.mem_append_left _ m))
    refine ⟨fun d v Fi x o => ?_, fun d v o => ?_, fun o => ?_⟩
    · rw [List.append_assoc]; exact .ow x0 q' (g1 d v Fi x o)
    · rw [List.append_assoc]; exact .ow x0 q' (g2 d v o)
    · rw [List.append_assoc]; exact .ow x0 q' (g3 o)
end
theorem set_same {σ : St} {i : Nat} {v : V} (h : σ[i]? = some (some v)) : σ.set i (some v) = σ := by
  obtain ⟨hi, e⟩ := List.getElem?_eq_some_iff.mp h
  rw [← e]
  exact List.set_getElem_self hi

/-! ### the state -/
/-- a cell that is no tuple -/
def NT (o : Option HO) : Prop := o ≠ none ∧ (∀ ys, o ≠ some (.tup ys)) ∧ ∀ fs, o ≠ some (.xd fs)
structure Sta (K : PySem.W.Frag) (B : Addr → Prop) (env : Env) (σ : St) (H : Hp) (F : List Addr) : Prop where
  rel : RelE K H (Fz B H F) env σ F
  nd : F.Nodup
  liv : ∀ a ∈ F, NT (H a)
  bad : ∀ b, B b → NT (H b) ∧ b ∉ F
/-- with values in hand -/
structure StaL (K : PySem.W.Frag) (B : Addr → Prop) (env : Env) (σ : St) (H : Hp) (F : List Addr) (ds : List D) (vs : List V) (Fd : List Addr) : Prop where
  rel : RelE K H (Fz B H (F ++ Fd)) env σ F
  own : OwnL K H (Fz B H (F ++ Fd)) ds vs Fd
  nd : (F ++ Fd).Nodup
  liv : ∀ a ∈ F ++ Fd, NT (H a)
  bad : ∀ b, B b → NT (H b) ∧ b ∉ F ++ Fd
structure Nxt (H : Hp) (F : List Addr) (H' : Hp) (F' : List Addr) : Prop where
  fr : ∀ b o, H b = some o → b ∉ F → H' b = some o
  sub : ∀ a ∈ F', a ∈ F ∨ H a = none
abbrev Hid (B : Addr → Prop) (Fd : List Addr) : Addr → Prop := fun b => B b ∨ b ∈ Fd
section
variable {K : PySem.W.Frag} {B B' : Addr → Prop} {env env1 env2 : Env} {σ σ1 : St} {H H1 H2 : Hp} {F F1 F2 Fd Fs G G1 G2 : List Addr} {ds es : List D} {vs us : List V} {p : Addr} {o : HO}
theorem Nxt.refl : Nxt H F H F := ⟨fun _ _ h _ => h, fun _ h => .inl h⟩
theorem Nxt.none_of (N : Nxt H F H1 G) {a : Addr} (h : H1 a = none) : a ∈ F ∨ H a = none := by
  by_cases m : a ∈ F
  · exact .inl m
  · refine .inr ?_
    cases q : H a with
    | none => rfl
    | some o => rw [N.fr a o q m] at h; cases h
theorem Nxt.trans (N1 : Nxt H F H1 G1) (N2 : Nxt H1 F1 H2 G2) (s : ∀ a ∈ F1, a ∈ G1) : Nxt H F H2 G2 where
  fr := fun b o h hb => N2.fr b o (N1.fr b o h hb) fun z => (N1.sub b (s b z)).elim hb fun q => by rw [q] at h; cases h
  sub := fun a m => (N2.sub a m).elim (fun m => N1.sub a (s a m)) N1.none_of
theorem Nxt.weak (N : Nxt H F H1 G) (s : ∀ a ∈ G1, a ∈ G) : Nxt H F H1 G1 := ⟨N.fr, fun a m => N.sub a (s a m)⟩
theorem Nxt.more (N : Nxt H F H1 G) (N1 : Nxt H F H1 G1) : Nxt H F H1 (G ++ G1) := ⟨N.fr, fun a m => (List.mem_append.mp m).elim (N.sub a) (N1.sub a)⟩
theorem Nxt.grow (N : Nxt H F H1 G) (e : Ex H1 H2) : Nxt H F H2 G := ⟨fun b o h hb => e _ _ (N.fr b o h hb), N.sub⟩
theorem Nxt.ex (e : Ex H H1) : Nxt H F H1 F := ⟨fun b o h _ => e _ _ h, fun _ h => .inl h⟩
theorem Nxt.cons (N1 : Nxt H F H1 (F1 ++ Fd)) (N2 : Nxt H1 F1 H2 (F2 ++ Fs)) : Nxt H F H2 (F2 ++ (Fd ++ Fs)) where
  fr := (N1.trans N2 fun a m => List.mem_append_left _ m).fr
  sub := fun a m => by
    have t := (N1.trans N2 fun a m => List.mem_append_left _ m).sub a
    rcases List.mem_append.mp m with m | m
    · exact t (List.mem_append_left _ m)
    · rcases List.mem_append.mp m with m | m
      · exact N1.sub a (List.mem_append_right _ m)
      · exact t (List.mem_append_right _ m)

theorem Sta.nil (S : Sta K B env σ H F) : StaL K B env σ H F [] [] [] := by
  have e : F ++ [] = F := List.append_nil _
  exact ⟨by rw [e]; exact S.rel, .nil, by rw [e]; exact S.nd, by rw [e]; exact S.liv, by rw [e]; exact S.bad⟩
theorem Sta.rep (S : Sta K B env σ H F) (r : RepL K (Fz B H F) ds vs) : StaL K B env σ H F ds vs [] := by
  have e : F ++ [] = F := List.append_nil _
  exact ⟨by rw [e]; exact S.rel, by rw [e]; exact .of_rep r, by rw [e]; exact S.nd, by rw [e]; exact S.liv, by rw [e]; exact S.bad⟩
theorem Sta.imp (S : Sta K B' env σ H F) (h : ∀ b, B b → B' b) : Sta K B env σ H F :=
  ⟨S.rel.step (fz_mk fun b o e m n => ⟨e, m, fun z => n (h b z)⟩) fun _ _ _ h => h, S.nd, S.liv, fun b q => S.bad b (h b q)⟩
theorem StaL.imp (S : StaL K B' env σ H F ds vs Fd) (h : ∀ b, B b → B' b) : StaL K B env σ H F ds vs Fd := by
  have e : Ex (Fz B' H (F ++ Fd)) (Fz B H (F ++ Fd)) := fz_mk fun b o e m n => ⟨e, m, fun z => n (h b z)⟩
  exact ⟨S.rel.step e fun _ _ _ h => h, S.own.step e fun _ _ _ h => h, S.nd, S.liv, fun b q => S.bad b (h b q)⟩
/-- the values in hand hidden -/
theorem StaL.hide (S : StaL K B env σ H F ds vs Fd) : Sta K (Hid B Fd) env σ H F := by
  have nd := List.nodup_append.mp S.nd
  refine ⟨?_, nd.1, fun a m => S.liv a (List.mem_append_left _ m), fun b h => ?_⟩
  · rw [fz_congr (B' := B) (F' := F ++ Fd) fun b => ?_]
    · exact S.rel
    · show b ∈ F ∨ (B b ∨ b ∈ Fd) ↔ b ∈ F ++ Fd ∨ B b
      rw [List.mem_append, or_assoc, or_comm (a := B b)]
  · rcases h with h | h
    · exact ⟨(S.bad b h).1, fun z => (S.bad b h).2 (List.mem_append_left _ z)⟩
    · exact ⟨S.liv b (List.mem_append_right _ h), fun z => nd.2.2 b z b h rfl⟩
/-- let go: they are frozen -/
theorem StaL.freeze (S : StaL K B env σ H F ds vs Fd) : Sta K B env σ H F ∧ RepL K (Fz B H F) ds vs := by
  have nd := List.nodup_append.mp S.nd
  have e : Ex (Fz B H (F ++ Fd)) (Fz B H F) := fz_mk fun b o e m n => ⟨e, fun z => m (List.mem_append_left _ z), n⟩
  refine ⟨⟨S.rel.step e fun _ _ _ h => h, nd.1, fun a m => S.liv a (List.mem_append_left _ m), fun b h => ⟨(S.bad b h).1, fun z => (S.bad b h).2 (List.mem_append_left _ z)⟩⟩, S.own.freeze e fun a m o h => ?_⟩
  rw [fz_in (fun z => nd.2.2 a z a m rfl) fun z => (S.bad a z).2 (List.mem_append_right _ m)]
  exact h
theorem StaL.sta (S : StaL K B env σ H F ds vs Fd) : Sta K B env σ H F := S.freeze.1
theorem StaL.repZ (S : StaL K B env σ H F ds vs Fd) : RepL K (Fz B H F) ds vs := S.freeze.2
theorem StaL.repH (S : StaL K B env σ H F ds vs Fd) : RepL K H ds vs := S.own.rep (fz_ex _ _ _)
/-- values evaluated further -/
theorem StaL.cons (S1 : StaL K B env1 σ1 H1 F1 ds vs Fd) (S2 : StaL K (Hid B Fd) env2 σ H2 F2 es us Fs) (N : Nxt H1 F1 H2 (F2 ++ Fs)) : StaL K B env2 σ H2 F2 (ds ++ es) (vs ++ us) (Fd ++ Fs) := by
  have nd := List.nodup_append.mp S1.nd
  have ez : Fz B H2 (F2 ++ (Fd ++ Fs)) = Fz (Hid B Fd) H2 (F2 ++ Fs) := fz_congr fun b => by
    simp only [List.mem_append, Hid]
    constructor
    · rintro ((h | h | h) | h)
      · exact .inl (.inl h)
      · exact .inr (.inr h)
      · exact .inl (.inr h)
      · exact .inr (.inl h)
    · rintro ((h | h) | h | h)
      · exact .inl (.inl h)
      · exact .inl (.inr (.inr h))
      · exact .inr h
      · exact .inl (.inr (.inl h))
  have ex : Ex (Fz B H1 (F1 ++ Fd)) (Fz B H2 (F2 ++ (Fd ++ Fs))) := fz_mk fun b o e m n => by
    refine ⟨N.fr b o e fun z => m (List.mem_append_left _ z), fun z => ?_, n⟩
    have q : b ∈ F2 ++ Fs → False := fun z => (N.sub b z).elim (fun z => m (List.mem_append_left _ z)) fun z => by rw [z] at e; cases e
    rcases List.mem_append.mp z with z | z
    · exact q (List.mem_append_left _ z)
    · rcases List.mem_append.mp z with z | z
      · exact m (List.mem_append_right _ z)
      · exact q (List.mem_append_right _ z)
  refine ⟨by rw [ez]; exact S2.rel, .append (S1.own.step ex fun a m o h => N.fr a o h fun z => nd.2.2 a z a m rfl) (by rw [ez]; exact S2.own), ?_, fun a m => ?_, fun b h => ⟨(S2.bad b (.inl h)).1, fun z => ?_⟩⟩
  · have nd2 := List.nodup_append.mp S2.nd
    refine List.nodup_append.mpr ⟨nd2.1, List.nodup_append.mpr ⟨nd.2.1, nd2.2.1, fun a m b q e => ?_⟩, fun a m b q e => ?_⟩
    · subst e
      exact (S2.bad a (.inr m)).2 (List.mem_append_right _ q)
    · subst e
      rcases List.mem_append.mp q with q | q
      · exact (S2.bad a (.inr q)).2 (List.mem_append_left _ m)
      · exact nd2.2.2 a m a q rfl
  · rcases List.mem_append.mp m with m | m
    · exact S2.liv a (List.mem_append_left _ m)
    · rcases List.mem_append.mp m with m | m
      · exact (S2.bad a (.inr m)).1
      · exact S2.liv a (List.mem_append_right _ m)
  · rcases List.mem_append.mp z with z | z
    · exact (S2.bad b (.inl h)).2 (List.mem_append_left _ z)
    · rcases List.mem_append.mp z with z | z
      · exact (S1.bad b h).2 (List.mem_append_right _ z)
      · exact (S2.bad b (.inl h)).2 (List.mem_append_right _ z)
theorem StaL.sub0 (S : StaL K B env σ H F ds vs Fd) (h : H p = none) : p ∉ F ++ Fd ∧ ¬ B p := ⟨fun m => (S.liv p m).1 h, fun b => (S.bad p b).1.1 h⟩
/-- a new object beside -/
theorem StaL.new (S : StaL K B env σ H F ds vs Fd) (h : H p = none) : StaL K B env σ (upd H p o) F ds vs Fd := by
  have e := ex_new (o := o) h
  have ez : Ex (Fz B H (F ++ Fd)) (Fz B (upd H p o) (F ++ Fd)) := fz_mk fun b u q m n => ⟨e _ _ q, m, n⟩
  refine ⟨S.rel.step ez fun a _ u q => e _ _ q, S.own.step ez fun a _ u q => e _ _ q, S.nd, fun a m => ?_, fun b q => ⟨?_, (S.bad b q).2⟩⟩
  · rw [upd_ne (fun z => by subst z; exact (S.liv _ m).1 h)]
    exact S.liv a m
  · rw [upd_ne (fun z => by subst z; exact (S.bad _ q).1.1 h)]
    exact (S.bad b q).1
theorem Sta.new (S : Sta K B env σ H F) (h : H p = none) : Sta K B env σ (upd H p o) F := (S.nil.new h).sta
/-- a new list of the values in hand -/
theorem StaL.mkL (S : StaL K B env σ H F ds vs Fd) (h : H p = none) : StaL K B env σ (upd H p (.lst vs)) F [.lst ds] [.ref p] (p :: Fd) := by
  have S1 := S.new (o := .lst vs) h
  obtain ⟨hp, hb⟩ := S.sub0 h
  have ez : Ex (Fz B (upd H p (.lst vs)) (F ++ Fd)) (Fz B (upd H p (.lst vs)) (F ++ p :: Fd)) → True := fun _ => trivial
  have nd := List.nodup_append.mp S.nd
  have ex : Ex (Fz B H (F ++ Fd)) (Fz B (upd H p (.lst vs)) (F ++ p :: Fd)) := fz_mk fun b u q m n => by
    have np : b ≠ p := fun z => by subst z; rw [h] at q; cases q
    refine ⟨by rw [upd_ne np]; exact q, fun z => ?_, n⟩
    rcases List.mem_append.mp z with z | z
    · exact m (List.mem_append_left _ z)
    · rcases List.mem_cons.mp z with z | z
      · exact np z
      · exact m (List.mem_append_right _ z)
  have ek := ex_new (o := .lst vs) h
  refine ⟨S.rel.step ex fun a _ u q => ek _ _ q, .one (.lst upd_same (S.own.step ex fun a _ u q => ek _ _ q)), ?_, fun a m => ?_, fun b q => ⟨(S1.bad b q).1, fun z => ?_⟩⟩
  · refine List.nodup_append.mpr ⟨nd.1, List.nodup_cons.mpr ⟨fun m => hp (List.mem_append_right _ m), nd.2.1⟩, fun a m b q e => ?_⟩
    subst e
    rcases List.mem_cons.mp q with q | q
    · subst q; exact hp (List.mem_append_left _ m)
    · exact nd.2.2 a m a q rfl
  · rcases List.mem_append.mp m with m | m
    · exact S1.liv a (List.mem_append_left _ m)
    · rcases List.mem_cons.mp m with m | m
      · subst m; rw [upd_same]; exact ⟨nofun, nofun, nofun⟩
      · exact S1.liv a (List.mem_append_right _ m)
  · rcases List.mem_append.mp z with z | z
    · exact (S.bad b q).2 (List.mem_append_left _ z)
    · rcases List.mem_cons.mp z with z | z
      · subst z; exact hb q
      · exact (S.bad b q).2 (List.mem_append_right _ z)
/-- a new tuple of them -/
theorem StaL.mkT (S : StaL K B env σ H F ds vs Fd) (h : H p = none) : StaL K B env σ (upd H p (.tup vs)) F [.tup ds] [.ref p] Fd := by
  have S1 := S.new (o := .tup vs) h
  obtain ⟨hp, hb⟩ := S.sub0 h
  refine ⟨S1.rel, .one (.tup (vs := vs) (by rw [fz_in hp hb]; exact upd_same) S1.own), S1.nd, S1.liv, S1.bad⟩
theorem Nxt.add (N : Nxt H F H1 G) (h : H1 p = none) : Nxt H F (upd H1 p o) (p :: G) :=
  ⟨fun b u q m => ex_new h _ _ (N.fr b u q m), fun a m => (List.mem_cons.mp m).elim (fun e => by rw [e]; exact N.none_of h) (N.sub a)⟩
theorem Nxt.mkL (N : Nxt H F H1 (F1 ++ Fd)) (h : H1 p = none) : Nxt H F (upd H1 p o) (F1 ++ p :: Fd) :=
  (N.add h).weak fun a m => (List.mem_append.mp m).elim (fun m => List.mem_cons_of_mem _ (List.mem_append_left _ m)) fun m => (List.mem_cons.mp m).elim (fun e => e ▸ List.mem_cons_self) fun m => List.mem_cons_of_mem _ (List.mem_append_right _ m)
end
end MM

set_option Elab.async false
set_option linter.all false
set_option maxRecDepth 100000
set_option maxHeartbeats 4000000
noncomputable section
namespace MM
open PySem PySem.Spec PyProof.Rows L2

/-! ### what an expression does -/
def ExnAt (mg : Str → Option Value) (H : Hp) (e : Exn) (cls : Value) (dd : Option Addr) : Prop :=
  mg e.cls = some cls ∧ match e.fld with
    | none => dd = none
    | some (f, i) => ∃ a, dd = some a ∧ H a = some (.xd [(f, .int i)])
section
variable (K : PySem.W.Frag) (mg : Str → Option Value) (W : WX)
def ExP (B : Addr → Prop) (σ : St) (H : Hp) (F : List Addr) (e : Exn) (env' : Env) : Prop :=
  ∀ cls dd H' F', Sta K B env' σ H' F' → Nxt H F H' F' → ExnAt mg H' e cls dd → W cls dd σ H'
def PureP (p : Bool) (env env' : Env) (F F' : List Addr) (H H' : Hp) : Prop := p = true → env' = env ∧ F' = F ∧ Ex H H'
def EvE (p : Bool) (t : TE) (m : M D) : Prop := ∀ B env σ H F (Q : VK), Sta K B env σ H F → (match m env with
  | .ok d env' => ∀ v H' F' Fd, StaL K B env' σ H' F' [d] [v] Fd → Nxt H F H' (F' ++ Fd) → PureP p env env' F F' H H' → Q v H'
  | .ex e env' => ExP K mg W B σ H F e env'
  | .no => False) → t σ H Q
/-- .. whose answer is new -/
def EvN (p : Bool) (t : TE) (m : M D) : Prop := ∀ B env σ H F (Q : VK), Sta K B env σ H F → (match m env with
  | .ok d env' => ∀ v H' F' Fd, StaL K B env' σ H' F' [d] [v] Fd → Exl d Fd → Nxt H F H' (F' ++ Fd) → PureP p env env' F F' H H' → Q v H'
  | .ex e env' => ExP K mg W B σ H F e env'
  | .no => False) → t σ H Q
/-- arguments, to be kept -/
def EvA (p : Bool) (t : TA) (m : M (List D)) : Prop := ∀ B env σ H F (Q : List V → Hp → Prop), Sta K B env σ H F → (match m env with
  | .ok ds env' => ∀ vs H' F' Fd, StaL K B env' σ H' F' ds vs Fd → Nxt H F H' (F' ++ Fd) → PureP p env env' F F' H H' → Q vs H'
  | .ex e env' => ExP K mg W B σ H F e env'
  | .no => False) → t σ H Q
/-- arguments, to be read -/
def EvR (p : Bool) (t : TA) (m : M (List D)) : Prop := ∀ B env σ H F (Q : List V → Hp → Prop), Sta K B env σ H F → (match m env with
  | .ok ds env' => ∀ vs H' F', Sta K B env' σ H' F' → RepL K H' ds vs → Nxt H F H' F' → PureP p env env' F F' H H' → Q vs H'
  | .ex e env' => ExP K mg W B σ H F e env'
  | .no => False) → t σ H Q
/-- a place that is read -/
def EvT (t : TE) (m : Env → Option D) : Prop := ∀ B env σ H F (Q : VK) d, Sta K B env σ H F → m env = some d →
  (∀ v H' Fs, Ex H H' → Sta K B env σ H' F → Own K H' (Fz B H' F) d v Fs → (∀ a ∈ Fs, a ∈ F) → Q v H') → t σ H Q
/-- a test -/
def EvB (p : Bool) (t : TT) (m : M Bool) : Prop := ∀ B env σ H F (Q : Bool → Hp → Prop), Sta K B env σ H F → (match m env with
  | .ok b env' => ∀ H' F', Sta K B env' σ H' F' → Nxt H F H' F' → PureP p env env' F F' H H' → Q b H'
  | .ex e env' => ExP K mg W B σ H F e env'
  | .no => False) → t σ H Q
end

/-! ### the mirror's words -/
def rdM (i : Nat) (env : Env) : Option D := match env[i]? with
  | some (some (_, d)) => some d
  | _ => none
def vrM (i : Nat) : M D := fun env => match env[i]? with
  | some (some (false, d)) => .ok d env
  | _ => .no
def cM (d : D) : M D := fun env => .ok d env
def nilM : M (List D) := fun env => .ok [] env
def consM (m : M D) (ms : M (List D)) : M (List D) := fun env => match m env with
  | .ok d e1 => match ms e1 with
    | .ok ds e2 => .ok (d :: ds) e2
    | .ex e e2 => .ex e e2
    | .no => .no
  | .ex e e1 => .ex e e1
  | .no => .no
def consTM (m : Env → Option D) (ms : M (List D)) : M (List D) := fun env => match m env with
  | some d => match ms env with
    | .ok ds e2 => .ok (d :: ds) e2
    | .ex e e2 => .ex e e2
    | .no => .no
  | none => .no
def consNM (i : Nat) (ms : M (List D)) : M (List D) := fun env => match rdM i env with
  | some _ => match ms env with
    | .ok ds e2 => match rdM i e2 with
      | some d => .ok (d :: ds) e2
      | none => .no
    | .ex e e2 => .ex e e2
    | .no => .no
  | none => .no
/-- an operation on what was evaluated -/
def opM (f : List D → Option D) (ms : M (List D)) : M D := fun env => match ms env with
  | .ok ds e2 => match f ds with
    | some d => .ok d e2
    | none => .no
  | .ex e e2 => .ex e e2
  | .no => .no
def tstM (m : M D) : M Bool := fun env => match m env with
  | .ok (.bl b) e => .ok b e
  | .ok _ _ => .no
  | .ex e e2 => .ex e e2
  | .no => .no
def andM (a b : M Bool) : M Bool := fun env => match a env with
  | .ok true e => b e
  | r => r
def orM (a b : M Bool) : M Bool := fun env => match a env with
  | .ok false e => b e
  | r => r
def notM (a : M Bool) : M Bool := fun env => match a env with
  | .ok b e => .ok (!b) e
  | r => r
def ifM {α : Type} (c : M Bool) (a b : M α) : M α := fun env => match c env with
  | .ok true e => a e
  | .ok false e => b e
  | .ex e e2 => .ex e e2
  | .no => .no
def andVM (a b : M D) : M D := fun env => match a env with
  | .ok (.bl true) e => b e
  | .ok (.bl false) e => .ok (.bl false) e
  | .ok _ _ => .no
  | r => r
def orVM (a b : M D) : M D := fun env => match a env with
  | .ok (.bl false) e => b e
  | .ok (.bl true) e => .ok (.bl true) e
  | .ok _ _ => .no
  | r => r
def notVM (a : M D) : M D := fun env => match a env with
  | .ok (.bl b) e => .ok (.bl (!b)) e
  | .ok _ _ => .no
  | r => r
def immM (m : Env → Option D) : M D := fun env => match m env with
  | some d => if imm d then .ok d env else .no
  | none => .no

section
variable {K : PySem.W.Frag} {mg : Str → Option Value} {W : WX} {p q : Bool} {t t1 t2 ta tb : TE} {m m1 m2 : M D} {tA : TA} {ms : M (List D)} {i : Nat} {mt : Env → Option D}

theorem ExP.mono {B B' : Addr → Prop} {σ : St} {H H1 : Hp} {F F1 : List Addr} {e : Exn} {env' : Env} (h : ExP K mg W B σ H F e env') (N : ∀ H' F', Nxt H1 F1 H' F' → Nxt H F H' F') (hB : ∀ b, B b → B' b) : ExP K mg W B' σ H1 F1 e env' :=
  fun cls dd H' F' S n x => h cls dd H' F' (S.imp hB) (N H' F' n) x

theorem EvN.e (h : EvN K mg W p t m) : EvE K mg W p t m := fun B env σ H F Q S g => by
  refine h B env σ H F Q S ?_
  cases em : m env with
  | ok d e => rw [em] at g; exact fun v H' F' Fd s _ n pp => g v H' F' Fd s n pp
  | ex e e2 => rw [em] at g; exact g
  | no => rw [em] at g; exact g
theorem exl_imm {d : D} (h : imm d = true) (F : List Addr) : Exl d F := by
  cases d <;> first | trivial | (simp [imm] at h)
def imM (m : M D) : M D := fun env => match m env with
  | .ok d e => if imm d then .ok d e else .no
  | r => r
theorem en_imm (h : EvE K mg W p t m) : EvN K mg W p t (imM m) := fun B env σ H F Q S g => by
  refine h B env σ H F Q S ?_
  unfold imM at g
  cases em : m env with
  | ok d e =>
    rw [em] at g
    dsimp only at g
    by_cases hi : imm d = true
    · rw [if_pos hi] at g
      exact fun v H' F' Fd s n pp => g v H' F' Fd s (exl_imm hi _) n pp
    · rw [if_neg hi] at g
      exact g.elim
  | ex e e2 => rw [em] at g; exact g
  | no => rw [em] at g; exact g
/-- a frozen slot -/
theorem ev_var : EvE K mg W true (tVar i) (vrM i) := fun B env σ H F Q S h => by
  unfold vrM at h
  split at h
  · rename_i d env' e1 e2
    split at e2
    · rename_i d' e3
      cases e2
      obtain ⟨v, hv, r⟩ := S.rel.fzAt e3
      exact ⟨v, hv, h v H F [] (S.rep (.cons r .nil)) (by rw [List.append_nil]; exact .refl) fun _ => ⟨rfl, rfl, .refl _⟩⟩
    · cases e2
  · rename_i e1 e2
    split at e2 <;> cases e2
  · exact h.elim
theorem evt_var : EvT K (tVar i) (rdM i) := fun B env σ H F Q d S e h => by
  unfold rdM at e
  split at e
  · rename_i k d' e3
    cases e
    obtain ⟨v, G, hv, r, g⟩ := S.rel.anyAt e3
    exact ⟨v, hv, h v H G (.refl _) S r g⟩
  · cases e
theorem ev_c {d : D} {v : V} (h : ∀ Z, Rep K Z d v) : EvE K mg W true (tC v) (cM d) := fun B env σ H F Q S g =>
  g v H F [] (S.rep (.cons (h _) .nil)) (by rw [List.append_nil]; exact .refl) fun _ => ⟨rfl, rfl, .refl _⟩
theorem ev_int {z : Int} : EvE K mg W true (tC (.int z)) (cM (.int z)) := ev_c fun _ => .int z
theorem ev_bl {z : Bool} : EvE K mg W true (tC (.bl z)) (cM (.bl z)) := ev_c fun _ => .bl z
theorem ev_str {z : Str} : EvE K mg W true (tC (.str z)) (cM (.str z)) := ev_c fun _ => .str z
theorem ev_non : EvE K mg W true (tC .non) (cM .non) := ev_c fun _ => .non
/-- any expression is a place to be read -/
theorem ev_imm (h : EvT K t mt) : EvE K mg W true t (immM mt) := fun B env σ H F Q S g => by
  unfold immM at g
  split at g
  · rename_i d env' e1
    split at e1
    · rename_i d' e2
      split at e1
      · rename_i hi
        cases e1
        exact h B env σ H F Q _ S e2 fun v H' Fs ex S' o _ => g v H' F [] (S'.rep (.cons (o.imm hi) .nil)) (by rw [List.append_nil]; exact .ex ex) fun _ => ⟨rfl, rfl, ex⟩
      · cases e1
    · cases e1
  · rename_i e1
    split at e1
    · split at e1 <;> cases e1
    · cases e1
  · exact g.elim

/-! ### lists of arguments -/
theorem ea_nil : EvA K mg W true tNil nilM := fun B env σ H F Q S h => h [] H F [] S.nil (by rw [List.append_nil]; exact .refl) fun _ => ⟨rfl, rfl, .refl _⟩
theorem ea_cons (h1 : EvE K mg W p t m) (h2 : EvA K mg W q tA ms) : EvA K mg W (p && q) (tCons t tA) (consM m ms) := fun B env σ H F Q S h => by
  unfold consM at h
  refine h1 B env σ H F _ S ?_
  split
  · rename_i d e1 em
    rw [em] at h
    dsimp only at h
    intro v H1 F1 Fd S1 N1 P1
    refine h2 (Hid B Fd) e1 σ H1 F1 _ S1.hide ?_
    split
    · rename_i ds e2 em2
      rw [em2] at h
      intro vs H2 F2 Fs S2 N2 P2
      have N2' : Nxt H1 F1 H2 (F2 ++ Fs) := N2
      refine h (v :: vs) H2 F2 (Fd ++ Fs) (S1.cons S2 N2') (N1.cons N2') fun hp => ?_
      obtain ⟨a1, a2, a3⟩ := P1 (by simp at hp; exact hp.1)
      obtain ⟨b1, b2, b3⟩ := P2 (by simp at hp; exact hp.2)
      exact ⟨b1.trans a1, b2.trans a2, a3.trans b3⟩
    · rename_i e e2 em2
      rw [em2] at h
      exact h.mono (fun H' F' n => N1.trans n fun a m => List.mem_append_left _ m) fun b z => .inl z
    · rename_i em2
      rw [em2] at h
      exact h
  · rename_i e e1 em
    rw [em] at h
    exact h
  · rename_i em
    rw [em] at h
    exact h
theorem er_nil : EvR K mg W true tNil nilM := fun B env σ H F Q S h => h [] H F S .nil .refl fun _ => ⟨rfl, rfl, .refl _⟩
theorem er_cons (h1 : EvE K mg W p t m) (h2 : EvR K mg W q tA ms) : EvR K mg W (p && q) (tCons t tA) (consM m ms) := fun B env σ H F Q S h => by
  unfold consM at h
  refine h1 B env σ H F _ S ?_
  split
  · rename_i d e1 em
    rw [em] at h
    dsimp only at h
    intro v H1 F1 Fd S1 N1 P1
    refine h2 (Hid B Fd) e1 σ H1 F1 _ S1.hide ?_
    split
    · rename_i ds e2 em2
      rw [em2] at h
      intro vs H2 F2 S2 r2 N2 P2
      have hN : Nxt H1 F1 H2 (F2 ++ []) := by rw [List.append_nil]; exact N2
      have S3 := S1.cons S2.nil hN
      have N3 := N1.cons hN
      have hv : Rep K H2 d v := by
        cases S3.repH with
        | cons r _ => exact r
      refine h (v :: vs) H2 F2 S3.sta (.cons hv r2) (N3.weak fun a m => List.mem_append_left _ m) fun hp => ?_
      obtain ⟨a1, a2, a3⟩ := P1 (by simp at hp; exact hp.1)
      obtain ⟨b1, b2, b3⟩ := P2 (by simp at hp; exact hp.2)
      exact ⟨b1.trans a1, b2.trans a2, a3.trans b3⟩
    · rename_i e e2 em2
      rw [em2] at h
      exact h.mono (fun H' F' n => N1.trans n fun a m => List.mem_append_left _ m) fun b z => .inl z
    · rename_i em2
      rw [em2] at h
      exact h
  · rename_i e e1 em
    rw [em] at h
    exact h
  · rename_i em
    rw [em] at h
    exact h
theorem er_consT (h1 : EvT K t mt) (h2 : EvR K mg W true tA ms) : EvR K mg W true (tCons t tA) (consTM mt ms) := fun B env σ H F Q S h => by
  unfold consTM at h
  cases e1 : mt env with
  | none => rw [e1] at h; exact h.elim
  | some d =>
    rw [e1] at h
    refine h1 B env σ H F _ d S e1 fun v H1 Fs ex S1 o _ => ?_
    refine h2 B env σ H1 F _ S1 ?_
    dsimp only at h
    split
    · rename_i ds e2 em2
      rw [em2] at h
      intro vs H2 F2 S2 r2 N2 P2
      obtain ⟨b1, b2, b3⟩ := P2 rfl
      subst b2
      exact h (v :: vs) H2 F2 S2 (.cons ((o.rep (fz_ex _ _ _)).mono b3) r2) ((Nxt.ex ex).trans N2 fun a m => m) fun _ => ⟨b1, rfl, ex.trans b3⟩
    · rename_i e e2 em2
      rw [em2] at h
      exact ExP.mono h (fun H' F' n => (Nxt.ex ex).trans n fun a m => m) fun b z => z
    · rename_i em2
      rw [em2] at h
      exact h
end
end MM

set_option Elab.async false
set_option linter.all false
set_option maxRecDepth 100000
set_option maxHeartbeats 4000000
noncomputable section
namespace MM
open PySem PySem.Spec PyProof.Rows L2

inductive Sc : D → V → Prop
  | non : Sc .non .non
  | bl (b : Bool) : Sc (.bl b) (.bl b)
  | int (i : Int) : Sc (.int i) (.int i)
  | str (x : Str) : Sc (.str x) (.str x)
theorem Sc.rep {K : PySem.W.Frag} {Z : Hp} {d : D} {v : V} (h : Sc d v) : Rep K Z d v := by
  cases h
  · exact .non
  · exact .bl _
  · exact .int _
  · exact .str _
/-- a relation on values keeps the word of a function on data: a flat answer -/
def OpS (K : PySem.W.Frag) (r : List V → Hp → VK → Prop) (f : List D → Option D) : Prop :=
  ∀ H ds vs (Q : VK) d, RepL K H ds vs → f ds = some d → (∀ v, Sc d v → Q v H) → r vs H Q
/-- any answer over frozen data -/
def OpG (K : PySem.W.Frag) (r : List V → Hp → VK → Prop) (f : List D → Option D) : Prop :=
  ∀ Z H ds vs (Q : VK) d, Ex Z H → RepL K Z ds vs → f ds = some d → (∀ v, Rep K Z d v → Q v H) →
    (∀ es p us, d = .lst es → H p = none → RepL K Z es us → Q (.ref p) (upd H p (.lst us))) →
    (∀ es p us, d = .tup es → H p = none → RepL K Z es us → Q (.ref p) (upd H p (.tup us))) →
    (∀ es p us, d = .dK es → H p = none → RepK K Z es us → Q (.ref p) (upd H p (.dK us))) →
    (∀ es p us, d = .dT es → H p = none → RepT K Z es us → Q (.ref p) (upd H p (.dT us))) → r vs H Q
/-- .. where a mutable answer is new -/
def OpN (K : PySem.W.Frag) (r : List V → Hp → VK → Prop) (f : List D → Option D) : Prop :=
  ∀ Z H ds vs (Q : VK) d, Ex Z H → RepL K Z ds vs → f ds = some d → (∀ v, Rep K Z d v → Exl d [] → Q v H) →
    (∀ es p us, d = .lst es → H p = none → RepL K Z es us → Q (.ref p) (upd H p (.lst us))) →
    (∀ es p us, d = .tup es → H p = none → RepL K Z es us → Q (.ref p) (upd H p (.tup us))) → r vs H Q
theorem OpN.g {K : PySem.W.Frag} {r : List V → Hp → VK → Prop} {f : List D → Option D} (h : OpN K r f) : OpG K r f :=
  fun Z H ds vs Q d e R hf q ql qt _ _ => h Z H ds vs Q d e R hf (fun v s _ => q v s) ql qt
theorem OpS.g {K : PySem.W.Frag} {r : List V → Hp → VK → Prop} {f : List D → Option D} (h : OpS K r f) : OpG K r f :=
  fun Z H ds vs Q d e R hf q _ _ _ _ => h H ds vs Q d (R.mono e) hf fun v s => q v s.rep

section
variable {K : PySem.W.Frag} {mg : Str → Option Value} {W : WX} {p q : Bool} {t t1 t2 ta tb : TE} {m m1 m2 : M D} {tA : TA} {ms : M (List D)} {i : Nat} {mt : Env → Option D} {r : List V → Hp → VK → Prop} {f : List D → Option D}

theorem ev_sc (hr : OpS K r f) (ha : EvR K mg W p tA ms) (ht : ∀ σ H Q, tA σ H (fun vs H' => r vs H' Q) → t σ H Q := by exact fun _ _ _ h => h) : EvE K mg W p t (opM f ms) := fun B env σ H F Q S h => by
  refine ht σ H Q (ha B env σ H F _ S ?_)
  unfold opM at h
  split
  · rename_i ds e2 em
    rw [em] at h
    dsimp only at h
    intro vs H2 F2 S2 r2 N2 P2
    cases ef : f ds with
    | none => rw [ef] at h; exact h.elim
    | some d =>
      rw [ef] at h
      dsimp only at h
      exact hr H2 ds vs Q d r2 ef fun v sc => h v H2 F2 [] (S2.rep (.cons sc.rep .nil)) (by rw [List.append_nil]; exact N2) P2
  · rename_i e e2 em
    rw [em] at h
    exact h
  · rename_i em
    rw [em] at h
    exact h
theorem ev_g (hr : OpG K r f) (ha : EvA K mg W p tA ms) (ht : ∀ σ H Q, tA σ H (fun vs H' => r vs H' Q) → t σ H Q := by exact fun _ _ _ h => h) : EvE K mg W p t (opM f ms) := fun B env σ H F Q S h => by
  refine ht σ H Q (ha B env σ H F _ S ?_)
  unfold opM at h
  split
  · rename_i ds e2 em
    rw [em] at h
    dsimp only at h
    intro vs H2 F2 Fd S1 N1 P2
    obtain ⟨S2, r2⟩ := S1.freeze
    have N2 : Nxt H F H2 F2 := N1.weak fun a m => List.mem_append_left _ m
    cases ef : f ds with
    | none => rw [ef] at h; exact h.elim
    | some d =>
      rw [ef] at h
      dsimp only at h
      have gro : ∀ {pp : Addr} {o : HO}, H2 pp = none → PureP p env e2 F F2 H (upd H2 pp o) := fun hp q => by
        obtain ⟨a1, a2, a3⟩ := P2 q
        exact ⟨a1, a2, a3.trans (ex_new hp)⟩
      refine hr _ H2 ds vs Q d (fz_ex B H2 F2) r2 ef (fun v rv => ?_) (fun es pp us e hp ru => ?_) (fun es pp us e hp ru => ?_) (fun es pp us e hp ru => ?_) (fun es pp us e hp ru => ?_)
      · exact h v H2 F2 [] (S2.rep (.cons rv .nil)) (by rw [List.append_nil]; exact N2) P2
      · subst e
        have S3 := (S2.rep ru).mkL hp
        exact h _ _ F2 [pp] S3 (Nxt.mkL (by rw [List.append_nil]; exact N2) hp) (gro hp)
      · subst e
        have S3 := (S2.rep ru).mkT hp
        exact h _ _ F2 [] S3 (by rw [List.append_nil]; exact N2.grow (ex_new hp)) (gro hp)
      · subst e
        have hn := (S2.nil.sub0 hp)
        rw [List.append_nil] at hn
        have S3 : Sta K B e2 σ (upd H2 pp (.dK us)) F2 := S2.new hp
        have e4 : Ex (Fz B H2 F2) (Fz B (upd H2 pp (.dK us)) F2) := fz_mk fun b o e m n => ⟨ex_new hp _ _ e, m, n⟩
        refine h _ _ F2 [] (S3.rep (.cons (.dK (by rw [fz_in hn.1 hn.2]; exact upd_same) (ru.mono e4)) .nil)) (by rw [List.append_nil]; exact N2.grow (ex_new hp)) (gro hp)
      · subst e
        have hn := (S2.nil.sub0 hp)
        rw [List.append_nil] at hn
        have S3 : Sta K B e2 σ (upd H2 pp (.dT us)) F2 := S2.new hp
        have e4 : Ex (Fz B H2 F2) (Fz B (upd H2 pp (.dT us)) F2) := fz_mk fun b o e m n => ⟨ex_new hp _ _ e, m, n⟩
        refine h _ _ F2 [] (S3.rep (.cons (.dT (by rw [fz_in hn.1 hn.2]; exact upd_same) (ru.mono e4)) .nil)) (by rw [List.append_nil]; exact N2.grow (ex_new hp)) (gro hp)
  · rename_i e e2 em
    rw [em] at h
    exact h
  · rename_i em
    rw [em] at h
    exact h
theorem en_n (hr : OpN K r f) (ha : EvA K mg W p tA ms) (ht : ∀ σ H Q, tA σ H (fun vs H' => r vs H' Q) → t σ H Q := by exact fun _ _ _ h => h) : EvN K mg W p t (opM f ms) := fun B env σ H F Q S h => by
  refine ht σ H Q (ha B env σ H F _ S ?_)
  unfold opM at h
  split
  · rename_i ds e2 em
    rw [em] at h
    dsimp only at h
    intro vs H2 F2 Fd S1 N1 P2
    obtain ⟨S2, r2⟩ := S1.freeze
    have N2 : Nxt H F H2 F2 := N1.weak fun a m => List.mem_append_left _ m
    cases ef : f ds with
    | none => rw [ef] at h; exact h.elim
    | some d =>
      rw [ef] at h
      dsimp only at h
      have gro : ∀ {pp : Addr} {o : HO}, H2 pp = none → PureP p env e2 F F2 H (upd H2 pp o) := fun hp q => by
        obtain ⟨a1, a2, a3⟩ := P2 q
        exact ⟨a1, a2, a3.trans (ex_new hp)⟩
      refine hr _ H2 ds vs Q d (fz_ex B H2 F2) r2 ef (fun v rv x => ?_) (fun es pp us e hp ru => ?_) (fun es pp us e hp ru => ?_)
      · exact h v H2 F2 [] (S2.rep (.cons rv .nil)) x (by rw [List.append_nil]; exact N2) P2
      · subst e
        exact h _ _ F2 [pp] ((S2.rep ru).mkL hp) (List.cons_ne_nil _ _) (Nxt.mkL (by rw [List.append_nil]; exact N2) hp) (gro hp)
      · subst e
        exact h _ _ F2 [] ((S2.rep ru).mkT hp) trivial (by rw [List.append_nil]; exact N2.grow (ex_new hp)) (gro hp)
  · rename_i e e2 em
    rw [em] at h
    exact h
  · rename_i em
    rw [em] at h
    exact h
/-- displays -/
def lstM (ms : M (List D)) : M D := opM (fun ds => haveI : Decidable (ds.length ≤ sizeLine) := Classical.propDecidable _; if ds.length ≤ sizeLine then some (.lst ds) else none) ms
def tupM (ms : M (List D)) : M D := opM (fun ds => haveI : Decidable (ds.length ≤ sizeLine) := Classical.propDecidable _; if ds.length ≤ sizeLine then some (.tup ds) else none) ms
theorem en_lst (ha : EvA K mg W p tA ms) : EvN K mg W p (tLst tA) (lstM ms) := fun B env σ H F Q S h => by
  refine ha B env σ H F _ S ?_
  unfold lstM opM at h
  split
  · rename_i ds e2 em
    rw [em] at h
    dsimp only at h
    intro vs H2 F2 Fd S1 N1 P2
    by_cases hz : ds.length ≤ sizeLine
    · rw [if_pos hz] at h
      refine ⟨by rw [← S1.own.length]; exact hz, fun pp hp => h _ _ F2 _ (S1.mkL hp) (List.cons_ne_nil _ _) (N1.mkL hp) fun q => ?_⟩
      obtain ⟨a1, a2, a3⟩ := P2 q
      exact ⟨a1, a2, a3.trans (ex_new hp)⟩
    · rw [if_neg hz] at h; exact h.elim
  · rename_i e e2 em
    rw [em] at h
    exact h
  · rename_i em
    rw [em] at h
    exact h
theorem en_tup (ha : EvA K mg W p tA ms) : EvN K mg W p (tTup tA) (tupM ms) := fun B env σ H F Q S h => by
  refine ha B env σ H F _ S ?_
  unfold tupM opM at h
  split
  · rename_i ds e2 em
    rw [em] at h
    dsimp only at h
    intro vs H2 F2 Fd S1 N1 P2
    by_cases hz : ds.length ≤ sizeLine
    · rw [if_pos hz] at h
      refine ⟨by rw [← S1.own.length]; exact hz, fun pp hp => h _ _ F2 _ (S1.mkT hp) trivial (N1.grow (ex_new hp)) fun q => ?_⟩
      obtain ⟨a1, a2, a3⟩ := P2 q
      exact ⟨a1, a2, a3.trans (ex_new hp)⟩
    · rw [if_neg hz] at h; exact h.elim
  · rename_i e e2 em
    rw [em] at h
    exact h
  · rename_i em
    rw [em] at h
    exact h

/-! ### truths -/
theorem eb_of (h : EvE K mg W p t m) : EvB K mg W p (tTest t) (tstM m) := fun B env σ H F Q S g => by
  refine h B env σ H F _ S ?_
  unfold tstM at g
  split
  · rename_i d e2 em
    rw [em] at g
    intro v H2 F2 Fd S1 N1 P2
    cases d with
    | bl b =>
      dsimp only at g
      cases S1.repZ with
      | cons r _ =>
        cases r
        exact ⟨b, rfl, g H2 F2 S1.sta (N1.weak fun a m => List.mem_append_left _ m) P2⟩
    | _ => exact g.elim
  · rename_i e e2 em
    rw [em] at g
    exact g
  · rename_i em
    rw [em] at g
    exact g
theorem eb_ofB (h : EvE K mg W p t m) : EvB K mg W p (tB t) (tstM m) := eb_of h
theorem eb_or {t u : TT} {a b : M Bool} (h1 : EvB K mg W p t a) (h2 : EvB K mg W q u b) : EvB K mg W (p && q) (tOr t u) (orM a b) := fun B env σ H F Q S g => by
  refine h1 B env σ H F _ S ?_
  unfold orM at g
  split
  · rename_i c e2 em
    rw [em] at g
    intro H2 F2 S2 N2 P2
    cases c with
    | false =>
      dsimp only at g
      show u σ H2 Q
      refine h2 B e2 σ H2 F2 _ S2 ?_
      split
      · rename_i c' e3 em3
        rw [em3] at g
        intro H3 F3 S3 N3 P3
        refine g H3 F3 S3 (N2.trans N3 fun a m => m) fun hp => ?_
        obtain ⟨a1, a2, a3⟩ := P2 (by simp at hp; exact hp.1)
        obtain ⟨b1, b2, b3⟩ := P3 (by simp at hp; exact hp.2)
        exact ⟨b1.trans a1, b2.trans a2, a3.trans b3⟩
      · rename_i e e3 em3
        rw [em3] at g
        exact ExP.mono g (fun H' F' n => N2.trans n fun a m => m) fun b z => z
      · rename_i em3
        rw [em3] at g
        exact g
    | true =>
      dsimp only at g
      show Q true H2
      exact g H2 F2 S2 N2 fun hp => P2 (by simp at hp; exact hp.1)
  · rename_i e e2 em
    rw [em] at g
    exact g
  · rename_i em
    rw [em] at g
    exact g
theorem eb_not {t : TT} {a : M Bool} (h1 : EvB K mg W p t a) : EvB K mg W p (tNot t) (notM a) := fun B env σ H F Q S g => by
  refine h1 B env σ H F _ S ?_
  unfold notM at g
  split
  · rename_i c e2 em
    rw [em] at g
    exact g
  · rename_i e e2 em
    rw [em] at g
    exact g
  · rename_i em
    rw [em] at g
    exact g
theorem ev_notV (h1 : EvE K mg W p ta m) : EvE K mg W p (tNotV ta) (notVM m) := fun B env σ H F Q S g => by
  refine h1 B env σ H F _ S ?_
  unfold notVM at g
  split
  · rename_i d e2 em
    rw [em] at g
    intro v H2 F2 Fd S1 N1 P2
    cases d with
    | bl b =>
      dsimp only at g
      obtain ⟨S2, r⟩ := S1.freeze
      cases r with
      | cons r _ =>
        cases r
        exact ⟨b, rfl, g _ H2 F2 [] (S2.rep (.cons (.bl _) .nil)) (by rw [List.append_nil]; exact N1.weak fun a m => List.mem_append_left _ m) P2⟩
    | _ => exact g.elim
  · rename_i e e2 em
    rw [em] at g
    exact g
  · rename_i em
    rw [em] at g
    exact g
theorem ev_andV (h1 : EvE K mg W p ta m1) (h2 : EvE K mg W q tb m2) : EvE K mg W (p && q) (tAndV ta tb) (andVM m1 m2) := fun B env σ H F Q S g => by
  refine h1 B env σ H F _ S ?_
  unfold andVM at g
  split
  · rename_i d e2 em
    rw [em] at g
    intro v H2 F2 Fd S1 N1 P2
    obtain ⟨S2, r⟩ := S1.freeze
    have N2 : Nxt H F H2 F2 := N1.weak fun a m => List.mem_append_left _ m
    cases d with
    | bl b =>
      cases r with
      | cons r _ =>
        cases r
        refine ⟨b, rfl, ?_⟩
        cases b with
        | true =>
          dsimp only at g
          show tb σ H2 Q
          refine h2 B e2 σ H2 F2 _ S2 ?_
          split
          · rename_i c' e3 em3
            rw [em3] at g
            intro v3 H3 F3 Fd3 S3 N3 P3
            refine g v3 H3 F3 Fd3 S3 (N2.trans N3 fun a m => m) fun hp => ?_
            obtain ⟨a1, a2, a3⟩ := P2 (by simp at hp; exact hp.1)
            obtain ⟨b1, b2, b3⟩ := P3 (by simp at hp; exact hp.2)
            exact ⟨b1.trans a1, b2.trans a2, a3.trans b3⟩
          · rename_i e e3 em3
            rw [em3] at g
            exact ExP.mono g (fun H' F' n => N2.trans n fun a m => m) fun b z => z
          · rename_i em3
            rw [em3] at g
            exact g
        | false =>
          dsimp only at g
          show Q (.bl false) H2
          exact g _ H2 F2 [] (S2.rep (.cons (.bl _) .nil)) (by rw [List.append_nil]; exact N2) fun hp => P2 (by simp at hp; exact hp.1)
    | _ => exact g.elim
  · rename_i e e2 em
    rw [em] at g
    exact g
  · rename_i em
    rw [em] at g
    exact g
end
end MM

set_option Elab.async false
set_option linter.all false
set_option maxRecDepth 100000
set_option maxHeartbeats 4000000
noncomputable section
namespace MM
open PySem PySem.Spec PyProof.Rows L2

inductive RS where
  | nx (env : Env) | rt (d : D) (env : Env) | bk (env : Env) | ct (env : Env) | ex (e : Exn) (env : Env) | no
def Kp (ps : List Nat) (σ σ' : St) : Prop := ∀ i ∈ ps, σ'[i]? = σ[i]?
theorem Kp.refl {ps : List Nat} {σ : St} : Kp ps σ σ := fun _ _ => rfl
theorem Kp.trans {ps : List Nat} {σ σ1 σ2 : St} (a : Kp ps σ σ1) (b : Kp ps σ1 σ2) : Kp ps σ σ2 := fun i m => (b i m).trans (a i m)
theorem Kp.set {ps : List Nat} {σ : St} {i : Nat} {o : Option V} (h : i ∉ ps) : Kp ps σ (σ.set i o) := fun j m => List.getElem?_set_ne (fun e => h (by rw [e]; exact m))
section
variable (K : PySem.W.Frag) (mg : Str → Option Value) (W : WX) (ps : List Nat) (ro : Bool)
def NxP (B : Addr → Prop) (σ : St) (H : Hp) (F : List Addr) (env' : Env) (q : St → Hp → Prop) : Prop :=
  ∀ σ' H' F', Sta K B env' σ' H' F' → Nxt H F H' F' → Kp ps σ σ' → q σ' H'
def RtP (B : Addr → Prop) (σ : St) (H : Hp) (F : List Addr) (d : D) (env' : Env) (q : VK) : Prop :=
  ∀ v σ' H' F' Fd, StaL K B env' σ' H' F' [d] [v] Fd → (ro = true → Exl d Fd) → Nxt H F H' (F' ++ Fd) → Kp ps σ σ' → q v H'
def XsP (B : Addr → Prop) (σ : St) (H : Hp) (F : List Addr) (e : Exn) (env' : Env) : Prop :=
  ∀ cls dd σ' H' F', Sta K B env' σ' H' F' → Nxt H F H' F' → Kp ps σ σ' → ExnAt mg H' e cls dd → W cls dd σ' H'
def PostS (B : Addr → Prop) (σ : St) (H : Hp) (F : List Addr) (D : Ends) : RS → Prop
  | .nx env' => NxP K ps B σ H F env' D.nx
  | .bk env' => NxP K ps B σ H F env' D.bk
  | .ct env' => NxP K ps B σ H F env' D.ct
  | .rt d env' => RtP K ps ro B σ H F d env' D.rt
  | .ex e env' => XsP K mg W ps B σ H F e env'
  | .no => False
def EvS (t : TS) (m : Env → RS) : Prop := ∀ B env σ H F (D : Ends), Sta K B env σ H F → PostS K mg W ps ro B σ H F D (m env) → t D σ H
end

/-! ### the mirror's statements -/
abbrev MS := Env → RS
def seqM (a b : MS) : MS := fun env => match a env with
  | .nx e => b e
  | r => r
def nxM : MS := fun env => .nx env
def brM : MS := fun env => .bk env
def ctM : MS := fun env => .ct env
def retM (m : M D) : MS := fun env => match m env with
  | .ok d e => .rt d e
  | .ex e e2 => .ex e e2
  | .no => .no
def retNM : MS := fun env => .rt .non env
def ifS (c : M Bool) (a b : MS) : MS := fun env => match c env with
  | .ok true e => a e
  | .ok false e => b e
  | .ex e e2 => .ex e e2
  | .no => .no
/-- x = e: frozen, owned -/
def asgF (i : Nat) (m : M D) : MS := fun env => match m env with
  | .ok d e => .nx (e.set i (some (false, d)))
  | .ex e e2 => .ex e e2
  | .no => .no
def asgO (i : Nat) (m : M D) : MS := fun env => match m env with
  | .ok d e => .nx (e.set i (some (true, d)))
  | .ex e e2 => .ex e e2
  | .no => .no
def dropM (m : M D) : MS := fun env => match m env with
  | .ok _ e => .nx e
  | .ex e e2 => .ex e e2
  | .no => .no
/-- the slot frozen -/
def frzE (i : Nat) (env : Env) : Env := match env[i]? with
  | some (some (_, d)) => env.set i (some (false, d))
  | _ => env
def frzM (i : Nat) (a : MS) : MS := fun env => a (frzE i env)
section
variable {K : PySem.W.Frag} {mg : Str → Option Value} {W : WX} {ps : List Nat} {ro : Bool} {p q : Bool} {te : TE} {m : M D} {t u : TS} {a b : MS} {i : Nat} {tA : TA} {ms : M (List D)}

theorem PostS.mono {B : Addr → Prop} {σ σ1 : St} {H H1 : Hp} {F F1 : List Addr} {D : Ends} {r : RS} (h : PostS K mg W ps ro B σ H F D r) (N : ∀ H' F', Nxt H1 F1 H' F' → Nxt H F H' F') (kp : Kp ps σ σ1) : PostS K mg W ps ro B σ1 H1 F1 D r := by
  cases r with
  | nx e => exact fun σ' H' F' S n k => h σ' H' F' S (N _ _ n) (kp.trans k)
  | bk e => exact fun σ' H' F' S n k => h σ' H' F' S (N _ _ n) (kp.trans k)
  | ct e => exact fun σ' H' F' S n k => h σ' H' F' S (N _ _ n) (kp.trans k)
  | rt d e => exact fun v σ' H' F' Fd S x n k => h v σ' H' F' Fd S x (N _ _ n) (kp.trans k)
  | ex e e2 => exact fun c d σ' H' F' S n k x => h c d σ' H' F' S (N _ _ n) (kp.trans k) x
  | no => exact h
theorem ExP.xs {B : Addr → Prop} {σ : St} {H : Hp} {F : List Addr} {e : Exn} {env' : Env} (h : XsP K mg W ps B σ H F e env') : ExP K mg W B σ H F e env' :=
  fun cls dd H' F' S N x => h cls dd σ H' F' S N .refl x

theorem es_nx : EvS K mg W ps ro tNext nxM := fun B env σ H F D S h => h σ H F S .refl .refl
theorem es_seq (h1 : EvS K mg W ps ro t a) (h2 : EvS K mg W ps ro u b) : EvS K mg W ps ro (tSeq t u) (seqM a b) := fun B env σ H F D S h => by
  refine h1 B env σ H F _ S ?_
  unfold seqM at h
  cases em : a env with
  | nx e =>
    rw [em] at h
    exact fun σ' H' F' S' N k => h2 B e σ' H' F' D S' (h.mono (fun _ _ n => N.trans n fun a m => m) k)
  | bk e => rw [em] at h; exact h
  | ct e => rw [em] at h; exact h
  | rt d e => rw [em] at h; exact h
  | ex e e2 => rw [em] at h; exact h
  | no => rw [em] at h; exact h
theorem es_ret (h1 : EvE K mg W p te m) : EvS K mg W ps false (tRet te) (retM m) := fun B env σ H F D S h => by
  refine h1 B env σ H F _ S ?_
  unfold retM at h
  cases em : m env with
  | ok d e => rw [em] at h; exact fun v H' F' Fd S' N _ => h v σ H' F' Fd S' (fun z => nomatch z) N .refl
  | ex e e2 => rw [em] at h; exact .xs h
  | no => rw [em] at h; exact h
theorem es_retO (h1 : EvN K mg W p te m) : EvS K mg W ps ro (tRet te) (retM m) := fun B env σ H F D S h => by
  refine h1 B env σ H F _ S ?_
  unfold retM at h
  cases em : m env with
  | ok d e => rw [em] at h; exact fun v H' F' Fd S' x N _ => h v σ H' F' Fd S' (fun _ => x) N .refl
  | ex e e2 => rw [em] at h; exact .xs h
  | no => rw [em] at h; exact h
theorem es_drop (h1 : EvE K mg W p te m) : EvS K mg W ps ro (tDrop te) (dropM m) := fun B env σ H F D S h => by
  refine h1 B env σ H F _ S ?_
  unfold dropM at h
  cases em : m env with
  | ok d e => rw [em] at h; exact fun v H' F' Fd S' N _ => h σ H' F' S'.sta (N.weak fun a m => List.mem_append_left _ m) .refl
  | ex e e2 => rw [em] at h; exact .xs h
  | no => rw [em] at h; exact h
theorem es_if {c : TT} {mc : M Bool} (hc : EvB K mg W p c mc) (h1 : EvS K mg W ps ro t a) (h2 : EvS K mg W ps ro u b) : EvS K mg W ps ro (tIfS c t u) (ifS mc a b) := fun B env σ H F D S h => by
  refine hc B env σ H F _ S ?_
  unfold ifS at h
  cases em : mc env with
  | ok d e =>
    rw [em] at h
    intro H' F' S' N _
    cases d with
    | true => exact h1 B e σ H' F' D S' (h.mono (fun _ _ n => N.trans n fun a m => m) .refl)
    | false => exact h2 B e σ H' F' D S' (h.mono (fun _ _ n => N.trans n fun a m => m) .refl)
  | ex e e2 => rw [em] at h; exact .xs h
  | no => rw [em] at h; exact h

theorem Sta.lenE {B : Addr → Prop} {env : Env} {σ : St} {H : Hp} {F : List Addr} (S : Sta K B env σ H F) : env.length = σ.length := S.rel.length
/-- a slot gets a frozen value -/
theorem Sta.putF {B : Addr → Prop} {env : Env} {σ : St} {H : Hp} {F : List Addr} {d : D} {v : V} (S : Sta K B env σ H F) (r : Rep K (Fz B H F) d v) (hi : i < env.length) :
    ∃ F', Sta K B (env.set i (some (false, d))) (σ.set i (some v)) H F' ∧ ∀ a ∈ F', a ∈ F := by
  obtain ⟨F1, Fi, F2, eF, _, g⟩ := S.rel.cut hi
  have sub : ∀ a ∈ F1 ++ F2, a ∈ F := fun a m => by
    rw [eF]
    rcases List.mem_append.mp m with m | m
    · exact List.mem_append_left _ m
    · exact List.mem_append_right _ (List.mem_append_right _ m)
  have ex : Ex (Fz B H F) (Fz B H (F1 ++ F2)) := fz_mk fun b o e m n => ⟨e, fun z => m (sub b z), n⟩
  obtain ⟨_, g2, _⟩ := g H (Fz B H (F1 ++ F2)) ex fun _ _ _ h => h
  have nd := S.nd
  rw [eF] at nd
  refine ⟨F1 ++ F2, ⟨g2 d v (r.mono ex), ?_, fun a m => S.liv a (sub a m), fun b h => ⟨(S.bad b h).1, fun z => (S.bad b h).2 (sub b z)⟩⟩, sub⟩
  have n1 := List.nodup_append.mp nd
  have n2 := List.nodup_append.mp n1.2.1
  exact List.nodup_append.mpr ⟨n1.1, n2.2.1, fun a m b q => n1.2.2 a m b (List.mem_append_right _ q)⟩
/-- a slot gets an owned value -/
theorem StaL.putO {B : Addr → Prop} {env : Env} {σ : St} {H : Hp} {F Fd : List Addr} {d : D} {v : V} (S : StaL K B env σ H F [d] [v] Fd) (hx : Exl d Fd) (hi : i < env.length) :
    ∃ F', Sta K B (env.set i (some (true, d))) (σ.set i (some v)) H F' ∧ ∀ a ∈ F', a ∈ F ++ Fd := by
  obtain ⟨F1, Fi, F2, eF, _, g⟩ := S.rel.cut hi
  have sub : ∀ a ∈ F1 ++ (Fd ++ F2), a ∈ F ++ Fd := fun a m => by
    rw [eF]
    rcases List.mem_append.mp m with m | m
    · exact List.mem_append_left _ (List.mem_append_left _ m)
    · rcases List.mem_append.mp m with m | m
      · exact List.mem_append_right _ m
      · exact List.mem_append_left _ (List.mem_append_right _ (List.mem_append_right _ m))
  have ex : Ex (Fz B H (F ++ Fd)) (Fz B H (F1 ++ (Fd ++ F2))) := fz_mk fun b o e m n => ⟨e, fun z => m (sub b z), n⟩
  obtain ⟨g1, _, _⟩ := g H (Fz B H (F1 ++ (Fd ++ F2))) ex fun _ _ _ h => h
  have nd := S.nd
  have o : Own K H (Fz B H (F ++ Fd)) d v Fd := by
    have := S.own
    cases this with
    | @cons _ _ F' _ _ G' h t =>
      cases t
      rw [List.append_nil]
      rw [List.append_nil] at *
      exact h
  refine ⟨F1 ++ (Fd ++ F2), ⟨g1 d v Fd hx (o.step ex fun _ _ _ h => h), ?_, fun a m => S.liv a (sub a m), fun b h => ⟨(S.bad b h).1, fun z => (S.bad b h).2 (sub b z)⟩⟩, sub⟩
  have n0 := List.nodup_append.mp nd
  have n00 := n0.1
  rw [eF] at n00
  have n1 := List.nodup_append.mp n00
  have n2 := List.nodup_append.mp n1.2.1
  refine List.nodup_append.mpr ⟨n1.1, List.nodup_append.mpr ⟨n0.2.1, n2.2.1, fun a m b q e => ?_⟩, fun a m b q e => ?_⟩
  · subst e
    exact n0.2.2 a (by rw [eF]; exact List.mem_append_right _ (List.mem_append_right _ q)) a m rfl
  · subst e
    rcases List.mem_append.mp q with q | q
    · exact n0.2.2 a (by rw [eF]; exact List.mem_append_left _ m) a q rfl
    · exact n1.2.2 a m a (List.mem_append_right _ q) rfl
theorem es_asgF (h1 : EvE K mg W p te m) (hi : i ∉ ps) : EvS K mg W ps ro (tAsg te (gName i)) (asgF i m) := fun B env σ H F D S h => by
  refine h1 B env σ H F _ S ?_
  unfold asgF at h
  cases em : m env with
  | ok d e =>
    rw [em] at h
    intro v H' F' Fd S' N _
    show D.nx (σ.set i (some v)) H'
    obtain ⟨S2, r⟩ := S'.freeze
    have r1 : Rep K (Fz B H' F') d v := by
      cases r with
      | cons r _ => exact r
    by_cases hl : i < e.length
    · obtain ⟨F2, S3, sub⟩ := S2.putF (i := i) r1 hl
      exact h _ H' F2 S3 (N.weak fun a m => List.mem_append_left _ (sub a m)) (.set hi)
    · have e1 : e.set i (some (false, d)) = e := List.set_eq_of_length_le (by omega)
      have e2 : σ.set i (some v) = σ := List.set_eq_of_length_le (by rw [← S2.lenE]; omega)
      rw [e2]
      dsimp only at h
      rw [e1] at h
      exact h _ H' F' S2 (N.weak fun a m => List.mem_append_left _ m) .refl
  | ex e e2 => rw [em] at h; exact .xs h
  | no => rw [em] at h; exact h
theorem es_asgO (h1 : EvN K mg W p te m) (hi : i ∉ ps) : EvS K mg W ps ro (tAsg te (gName i)) (asgO i m) := fun B env σ H F D S h => by
  refine h1 B env σ H F _ S ?_
  unfold asgO at h
  cases em : m env with
  | ok d e =>
    rw [em] at h
    intro v H' F' Fd S' hx N _
    show D.nx (σ.set i (some v)) H'
    by_cases hl : i < e.length
    · obtain ⟨F2, S3, sub⟩ := S'.putO (i := i) hx hl
      exact h _ H' F2 S3 (N.weak sub) (.set hi)
    · have e1 : e.set i (some (true, d)) = e := List.set_eq_of_length_le (by omega)
      have e2 : σ.set i (some v) = σ := List.set_eq_of_length_le (by rw [← S'.sta.lenE]; omega)
      rw [e2]
      dsimp only at h
      rw [e1] at h
      exact h _ H' F' S'.sta (N.weak fun a m => List.mem_append_left _ m) .refl
  | ex e e2 => rw [em] at h; exact .xs h
  | no => rw [em] at h; exact h
/-- a ghost: the slot is frozen ahead of a statement -/
theorem Sta.frz {B : Addr → Prop} {env : Env} {σ : St} {H : Hp} {F : List Addr} (S : Sta K B env σ H F) (i : Nat) : ∃ F', Sta K B (frzE i env) σ H F' ∧ ∀ a ∈ F', a ∈ F := by
  unfold frzE
  split
  · rename_i k d e
    obtain ⟨hl, _⟩ := List.getElem?_eq_some_iff.mp e
    obtain ⟨F1, Fi, F2, eF, sl, g⟩ := S.rel.cut hl
    have sub : ∀ a ∈ F1 ++ F2, a ∈ F := fun a m => by
      rw [eF]
      rcases List.mem_append.mp m with m | m
      · exact List.mem_append_left _ m
      · exact List.mem_append_right _ (List.mem_append_right _ m)
    have ex : Ex (Fz B H F) (Fz B H (F1 ++ F2)) := fz_mk fun b o e m n => ⟨e, fun z => m (sub b z), n⟩
    have nd := S.nd
    rw [eF] at nd
    have n1 := List.nodup_append.mp nd
    have n2 := List.nodup_append.mp n1.2.1
    cases k with
    | false =>
      refine ⟨F, ?_, fun a m => m⟩
      obtain ⟨hl', e'⟩ := List.getElem?_eq_some_iff.mp e
      have e3 : env.set i (some (false, d)) = env := by
        rw [← e']
        exact List.set_getElem_self hl'
      rw [e3]
      exact S
    | true =>
      obtain ⟨v, hv, _, o⟩ := sl d e
      obtain ⟨_, g2, _⟩ := g H (Fz B H (F1 ++ F2)) ex fun _ _ _ h => h
      have r : Rep K (Fz B H (F1 ++ F2)) d v := o.freeze ex fun a m u hu => by
        rw [fz_in (fun z => ?_) (fun z => (S.bad a z).2 (by rw [eF]; exact List.mem_append_right _ (List.mem_append_left _ m)))]
        · exact hu
        · rcases List.mem_append.mp z with z | z
          · exact n1.2.2 a z a (List.mem_append_left _ m) rfl
          · exact n2.2.2 a m a z rfl
      have g3 := g2 d v r
      rw [set_same hv] at g3
      exact ⟨F1 ++ F2, ⟨g3, List.nodup_append.mpr ⟨n1.1, n2.2.1, fun a m b q => n1.2.2 a m b (List.mem_append_right _ q)⟩, fun a m => S.liv a (sub a m), fun b h => ⟨(S.bad b h).1, fun z => (S.bad b h).2 (sub b z)⟩⟩, sub⟩
  · exact ⟨F, S, fun a m => m⟩
end
end MM

set_option Elab.async false
set_option linter.all false
set_option maxRecDepth 100000
set_option maxHeartbeats 4000000
noncomputable section
namespace MM
open PySem PySem.Spec PyProof.Rows L2

theorem nd_swap {F1 Fr Fc Fa F' Fd : List Addr} {l : Addr} (h : ((F1 ++ ((l :: Fc) ++ Fr)) ++ Fa).Nodup) (h1 : (F' ++ Fd).Nodup) (h2 : ∀ a ∈ F' ++ Fd, a ∈ Fc ++ Fa) : ((F1 ++ ((l :: F') ++ Fr)) ++ Fd).Nodup := by
  simp only [List.nodup_append, List.nodup_cons, List.mem_append, List.mem_cons, List.cons_append] at *
  grind
section
variable {K : PySem.W.Frag} {mg : Str → Option Value} {W : WX} {ps : List Nat} {ro : Bool} {p q : Bool} {te : TE} {m : M D} {i : Nat} {tA : TA} {ms : M (List D)}
  {B : Addr → Prop} {env : Env} {σ : St} {H H0 : Hp} {F F0 Fa : List Addr} {as : List D} {us : List V}
theorem Own.top {K : PySem.W.Frag} {H Z : Hp} {ds : List D} {v : V} {F : List Addr} (o : Own K H Z (.lst ds) v F) (x : Exl (.lst ds) F) : ∃ a vs G, v = .ref a ∧ H a = some (.lst vs) ∧ F = a :: G ∧ OwnL K H Z ds vs G := by
  cases o with
  | frz _ => exact (x rfl).elim
  | lst h r => exact ⟨_, _, _, rfl, h, rfl, r⟩
theorem Own.topK {K : PySem.W.Frag} {H Z : Hp} {ds : List (Key × D)} {v : V} {F : List Addr} (o : Own K H Z (.dK ds) v F) (x : Exl (.dK ds) F) : ∃ a vs, v = .ref a ∧ H a = some (.dK vs) ∧ F = [a] ∧ RepK K Z ds vs := by
  cases o with
  | frz _ => exact (x rfl).elim
  | dK h r => exact ⟨_, _, rfl, h, rfl, r⟩
theorem Own.topT {K : PySem.W.Frag} {H Z : Hp} {ds : List (List Key × D)} {v : V} {F : List Addr} (o : Own K H Z (.dT ds) v F) (x : Exl (.dT ds) F) : ∃ a vs, v = .ref a ∧ H a = some (.dT vs) ∧ F = [a] ∧ RepT K Z ds vs := by
  cases o with
  | frz _ => exact (x rfl).elim
  | dT h r => exact ⟨_, _, rfl, h, rfl, r⟩
/-- a mutable slot: its cell, and the slot changed -/
theorem StaL.mutL (S : StaL K B env σ H F as us Fa) {ds : List D} (hi : env[i]? = some (some (true, .lst ds))) : ∃ l vs Fc, σ[i]? = some (some (.ref l)) ∧ H l = some (.lst vs) ∧
    OwnL K H (Fz B H (F ++ Fa)) ds vs Fc ∧ (Fc ++ Fa).Nodup ∧ l ∉ Fc ++ Fa ∧ l ∈ F ∧ ∀ es vs' d v F' Fd, OwnL K H (Fz B H (F ++ Fa)) es vs' F' → Own K H (Fz B H (F ++ Fa)) d v Fd → (F' ++ Fd).Nodup →
      (∀ a ∈ F' ++ Fd, a ∈ Fc ++ Fa) → ∃ F3, StaL K B (env.set i (some (true, .lst es))) σ (upd H l (.lst vs')) F3 [d] [v] Fd ∧ ∀ a ∈ F3 ++ Fd, a ∈ F ++ Fa := by
  obtain ⟨hl, _⟩ := List.getElem?_eq_some_iff.mp hi
  obtain ⟨F1, Fi, F2, eF, sl, g⟩ := S.rel.cut hl
  obtain ⟨v0, hv, x0, o0⟩ := sl _ hi
  obtain ⟨l, vs, Fc, rfl, hH, rfl, oc⟩ := o0.top x0
  have nd := S.nd
  rw [eF] at nd
  have nl : l ∉ F1 ∧ l ∉ F2 ∧ l ∉ Fc ∧ l ∉ Fa := by
    simp only [List.nodup_append, List.nodup_cons, List.mem_append, List.mem_cons, List.cons_append] at nd
    grind
  have lF : l ∈ F := by rw [eF]; simp
  refine ⟨l, vs, Fc, hv, hH, oc, ?_, ?_, lF, fun es vs' d v F' Fd o1 o2 n2 sb => ?_⟩
  · simp only [List.nodup_append, List.nodup_cons, List.mem_append, List.mem_cons, List.cons_append] at *
    grind
  · simp only [List.mem_append, not_or]
    exact ⟨nl.2.2.1, nl.2.2.2⟩
  · have nd3 := nd_swap nd n2 sb
    have sub : ∀ a ∈ (F1 ++ ((l :: F') ++ F2)) ++ Fd, a ∈ F ++ Fa := fun a m => by
      have := sb a
      rw [eF]
      simp only [List.mem_append, List.mem_cons, List.cons_append] at *
      grind
    have lnotF' : l ∉ F' ++ Fd := fun z => by
      have := sb l z
      simp only [List.mem_append] at this
      exact this.elim nl.2.2.1 nl.2.2.2
    have ex : Ex (Fz B H (F ++ Fa)) (Fz B (upd H l (.lst vs')) ((F1 ++ ((l :: F') ++ F2)) ++ Fd)) := fz_mk fun b o e m n => by
      have nb : b ≠ l := fun z => m (by rw [z]; exact List.mem_append_left _ lF)
      exact ⟨by rw [upd_ne nb]; exact e, fun z => m (sub b z), n⟩
    have kp : ∀ a, a ≠ l → ∀ o, H a = some o → (upd H l (.lst vs')) a = some o := fun a n o h => by rw [upd_ne n]; exact h
    obtain ⟨g1, _, _⟩ := g (upd H l (.lst vs')) (Fz B (upd H l (.lst vs')) ((F1 ++ ((l :: F') ++ F2)) ++ Fd)) ex fun a m o h => kp a (fun z => by subst z; exact m.elim nl.1 nl.2.1) o h
    have r1 := g1 (.lst es) (.ref l) (l :: F') (List.cons_ne_nil _ _) (.lst upd_same (o1.step ex fun a m o h => kp a (fun z => by subst z; exact lnotF' (List.mem_append_left _ m)) o h))
    rw [set_same hv] at r1
    refine ⟨F1 ++ ((l :: F') ++ F2), ⟨r1, .one (o2.step ex fun a m o h => kp a (fun z => by subst z; exact lnotF' (List.mem_append_right _ m)) o h), nd3, fun a m => ?_, fun b q => ⟨?_, fun z => (S.bad b q).2 (sub b z)⟩⟩, sub⟩
    · by_cases e : a = l
      · subst e; rw [upd_same]; exact ⟨nofun, nofun, nofun⟩
      · rw [upd_ne e]; exact S.liv a (sub a m)
    · by_cases e : b = l
      · subst e; rw [upd_same]; exact ⟨nofun, nofun, nofun⟩
      · rw [upd_ne e]; exact (S.bad b q).1
theorem Nxt.mut {G G1 : List Addr} {l : Addr} {o : HO} (N : Nxt H0 F0 H G) (hl : l ∈ G) (s : ∀ a ∈ G1, a ∈ G) : Nxt H0 F0 (upd H l o) G1 := by
  refine ⟨fun b u e m => ?_, fun a m => N.sub a (s a m)⟩
  have nb : b ≠ l := fun z => by
    subst z
    exact (N.sub b hl).elim m fun z => by rw [z] at e; cases e
  rw [upd_ne nb]
  exact N.fr b u e m
/-- what a method of a list does to its items -/
def MutL (K : PySem.W.Frag) (r : V → List V → Hp → VK → Prop) (f : List D → List D → Option (List D × D)) : Prop :=
  ∀ H Z l ds vs Fc as us Fa (Q : VK) es d, Ex Z H → H l = some (.lst vs) → OwnL K H Z ds vs Fc → OwnL K H Z as us Fa → (Fc ++ Fa).Nodup → l ∉ Fc ++ Fa → f ds as = some (es, d) →
    (∀ vs' v F' Fd, OwnL K H Z es vs' F' → Own K H Z d v Fd → (F' ++ Fd).Nodup → (∀ a ∈ F' ++ Fd, a ∈ Fc ++ Fa) → Q v (upd H l (.lst vs'))) → r (.ref l) us H Q
def mutM (i : Nat) (f : List D → List D → Option (List D × D)) (ms : M (List D)) : M D := fun env => match env[i]? with
  | some (some (true, .lst _)) => match ms env with
    | .ok as e2 => match e2[i]? with
      | some (some (true, .lst ds)) => match f ds as with
        | some (es, d) => .ok d (e2.set i (some (true, .lst es)))
        | none => .no
      | _ => .no
    | .ex e e2 => .ex e e2
    | .no => .no
  | _ => .no
theorem ev_mut {r : V → List V → Hp → VK → Prop} {f : List D → List D → Option (List D × D)} {t : TE} (hr : MutL K r f) (ha : EvA K mg W p tA ms)
    (ht : ∀ σ H Q, (∃ v, σ[i]? = some (some v) ∧ tyV K "list" v H ∧ tA σ H fun us H1 => r v us H1 Q) → t σ H Q := by exact fun _ _ _ h => h) : EvE K mg W false t (mutM i f ms) := fun B env σ H F Q S h => by
  unfold mutM at h
  split at h
  · rename_i d env' em0
    split at em0
    · rename_i ds0 ei
      obtain ⟨l, vs, Fc, hv, hH, _, _, _, lF, _⟩ := S.nil.mutL ei
      refine ht σ H Q ⟨.ref l, hv, .inl ⟨rfl, vs, .of hH⟩, ha B env σ H F _ S ?_⟩
      split at em0
      · rename_i as e2 em
        try rw [em]
        split at em0
        · rename_i ds ei2
          split at em0
          · rename_i es d' ef
            cases em0
            intro us H2 F2 Fa S2 N2 _
            obtain ⟨l2, vs2, Fc2, hv2, hH2, oc, ndc, nl, lF2, go⟩ := S2.mutL ei2
            rw [hv] at hv2
            cases hv2
            refine hr H2 _ l ds vs2 Fc2 as us Fa Q es d (fz_ex _ _ _) hH2 oc S2.own ndc nl ef fun vs' v F' Fd o1 o2 n2 sb => ?_
            obtain ⟨F3, S3, s3⟩ := go es vs' d v F' Fd o1 o2 n2 sb
            exact h v _ F3 Fd S3 (N2.mut (List.mem_append_left _ lF2) s3) (fun z => nomatch z)
          · cases em0
        · cases em0
      · cases em0
      · cases em0
    · cases em0
  · rename_i e env' em0
    split at em0
    · rename_i ds0 ei
      obtain ⟨l, vs, Fc, hv, hH, _, _, _, lF, _⟩ := S.nil.mutL ei
      refine ht σ H Q ⟨.ref l, hv, .inl ⟨rfl, vs, .of hH⟩, ha B env σ H F _ S ?_⟩
      split at em0
      · split at em0
        · split at em0 <;> cases em0
        · cases em0
      · rename_i e' e2 em
        try rw [em]
        cases em0
        exact h
      · cases em0
    · cases em0
  · exact h.elim

/-! ### the methods of lists -/
theorem OwnL.snoc {K : PySem.W.Frag} {H Z : Hp} {ds : List D} {vs : List V} {F G : List Addr} {d : D} {v : V} (h : OwnL K H Z ds vs F) (o : Own K H Z d v G) : OwnL K H Z (ds ++ [d]) (vs ++ [v]) (F ++ G) := h.append (.one o)
theorem OwnL.one_inv {K : PySem.W.Frag} {H Z : Hp} {d : D} {vs : List V} {F : List Addr} (h : OwnL K H Z [d] vs F) : ∃ v, vs = [v] ∧ Own K H Z d v F := by
  cases h with
  | cons h t =>
    cases t
    rw [List.append_nil]
    exact ⟨_, rfl, h⟩
def appendF (ds as : List D) : Option (List D × D) := match as with
  | [d] => haveI : Decidable (ds.length < sizeLine) := Classical.propDecidable _; if ds.length < sizeLine then some (ds ++ [d], .non) else none
  | _ => none
theorem mut_append : MutL K rAppend appendF := fun H Z l ds vs Fc as us Fa Q es d ez hH oc oa nd nl ef q => by
  unfold appendF at ef
  split at ef
  · rename_i d'
    split at ef
    · rename_i hz
      cases ef
      obtain ⟨v, rfl, o⟩ := oa.one_inv
      exact ⟨l, vs, v, rfl, rfl, hH, by rw [← oc.length]; exact hz, q (vs ++ [v]) .non (Fc ++ Fa) [] (oc.snoc o) (.frz .non) (by rw [List.append_nil]; exact nd) fun a m => by rwa [List.append_nil] at m⟩
    · cases ef
  · cases ef
def extendF (ds as : List D) : Option (List D × D) := match as with
  | [.lst xs] => haveI : Decidable (ds.length + xs.length ≤ sizeLine) := Classical.propDecidable _; if ds.length + xs.length ≤ sizeLine then some (ds ++ xs, .non) else none
  | _ => none
/-- a list's cell and its items, own or frozen -/
theorem Own.items {K : PySem.W.Frag} {H Z : Hp} {ds : List D} {v : V} {F : List Addr} (ez : Ex Z H) (o : Own K H Z (.lst ds) v F) : ∃ a vs G, v = .ref a ∧ H a = some (.lst vs) ∧ OwnL K H Z ds vs G ∧ G.Sublist F := by
  cases o with
  | frz r =>
    cases r with
    | lst h r => exact ⟨_, _, [], rfl, ez _ _ h, .of_rep r, List.nil_sublist _⟩
  | lst h r => exact ⟨_, _, _, rfl, h, r, List.sublist_cons_self _ _⟩
theorem mut_extend : MutL K rExtend extendF := fun H Z l ds vs Fc as us Fa Q es d ez hH oc oa nd nl ef q => by
  unfold extendF at ef
  split at ef
  · rename_i xs
    split at ef
    · rename_i hz
      cases ef
      obtain ⟨v, rfl, o⟩ := oa.one_inv
      obtain ⟨a, ws, G, rfl, ha, og, sl⟩ := o.items ez
      refine ⟨l, a, vs, ws, rfl, rfl, hH, ha, by rw [← oc.length, ← og.length]; exact hz, q (vs ++ ws) .non (Fc ++ G) [] (oc.append og) (.frz .non) ?_ fun b m => ?_⟩
      · rw [List.append_nil]
        exact nd.sublist (List.Sublist.append_left sl _)
      · rw [List.append_nil] at m
        rcases List.mem_append.mp m with m | m
        · exact List.mem_append_left _ m
        · exact List.mem_append_right _ (sl.subset m)
    · cases ef
  · cases ef
theorem OwnL.erase {K : PySem.W.Frag} {H Z : Hp} : ∀ {ds : List D} {vs : List V} {F : List Addr} {k : Nat} {d : D}, OwnL K H Z ds vs F → ds[k]? = some d → ∃ v F' Fd, vs[k]? = some v ∧ OwnL K H Z (ds.eraseIdx k) (vs.eraseIdx k) F' ∧ Own K H Z d v Fd ∧ (F' ++ Fd).Perm F
  | _, _, _, 0, _, .cons (F := F0) (G := G0) h t, e => by
    cases e
    exact ⟨_, G0, F0, rfl, t, h, List.perm_append_comm⟩
  | _, _, _, k + 1, _, .cons (F := F0) (G := G0) h t, e => by
    obtain ⟨v, F', Fd, h1, h2, h3, h4⟩ := OwnL.erase (k := k) t e
    refine ⟨v, F0 ++ F', Fd, h1, .cons h h2, h3, ?_⟩
    rw [List.append_assoc]
    exact h4.append_left F0
def popAtF (ds as : List D) : Option (List D × D) := match as with
  | [.int i] => haveI : Decidable (-(2 ^ 63) ≤ i ∧ i < 2 ^ 63) := Classical.propDecidable _; if -(2 ^ 63) ≤ i ∧ i < 2 ^ 63 then match seqIndex? i ds.length with
    | some k => match ds[k]? with
      | some d => some (ds.eraseIdx k, d)
      | none => none
    | none => none
    else none
  | _ => none
theorem mut_popAt : MutL K rPopAt popAtF := fun H Z l ds vs Fc as us Fa Q es d ez hH oc oa nd nl ef q => by
  unfold popAtF at ef
  split at ef
  · rename_i j
    split at ef
    · rename_i hb
      split at ef
      · rename_i k ek
        split at ef
        · rename_i d' ed
          cases ef
          obtain ⟨v1, rfl, o⟩ := oa.one_inv
          have e1 : v1 = .int j := by
            have := o.imm rfl
            cases this
            rfl
          subst e1
          obtain ⟨v, F', Fd, h1, h2, h3, h4⟩ := oc.erase ed
          refine ⟨l, vs, j, k, v, rfl, rfl, hH, hb.1, hb.2, by rw [← oc.length]; exact ek, h1, ?_⟩
          exact q _ v F' Fd h2 h3 (h4.nodup_iff.mpr (List.nodup_append.mp nd).1) fun a m => List.mem_append_left _ (h4.mem_iff.mp m)
        · cases ef
      · cases ef
    · cases ef
  · cases ef
theorem OwnL.reverse {K : PySem.W.Frag} {H Z : Hp} : ∀ {ds : List D} {vs : List V} {F : List Addr}, OwnL K H Z ds vs F → ∃ F', OwnL K H Z ds.reverse vs.reverse F' ∧ F'.Perm F
  | _, _, _, .nil => ⟨[], .nil, .refl _⟩
  | _, _, _, .cons (F := F0) (G := G0) h t => by
    obtain ⟨F', h1, h2⟩ := OwnL.reverse t
    rw [List.reverse_cons, List.reverse_cons]
    exact ⟨F' ++ F0, h1.snoc h, (h2.append_right F0).trans List.perm_append_comm⟩
end
end MM

set_option Elab.async false
set_option linter.all false
set_option maxRecDepth 100000
set_option maxHeartbeats 4000000
noncomputable section
namespace MM
open PySem PySem.Spec PyProof.Rows L2

/-! ### rules by values, joined -/
section
variable {X : Cx}
theorem opor {f : Value → Value → Sem Value} {r r' : R2} (h : OpR X f r) (h' : OpR X f r') : OpR X f (fun x y H Q => r x y H Q ∨ r' x y H Q) := by
  intro pins s σ H x y v u Q I rx ry q
  rcases q with q | q
  · exact h pins s σ H x y v u Q I rx ry q
  · exact h' pins s σ H x y v u Q I rx ry q
def rIxD : R2 := fun x y H Q => ∃ a v, x = .ref a ∧ DGet H a y (some v) ∧ Q v H
theorem ix_dict (hu : X.A.units + 1 < cLine) : IxR X rIxD := by
  intro value slice pins s σ H x y v u Q I rx ry h hs
  obtain ⟨a, z, rfl, g, q⟩ := h
  obtain rfl : v = Value.ref a := rx
  have hT := dict_typeIs I g
  unfold subscriptTail
  refine wpAny_bind ?_
  rw [getitemInPython_of_ne hT.not_modules]
  refine wpAny_bind (wpAny_specialOf hT PySem.F.slot_dict_getitem.lookup ?_)
  have fin : wpAny (model X.prog X.w) X.A (subscripted slice false (.ref a) u) (fun r s₃ => wpAny (model X.prog X.w) X.A (letTemporaryGo value (.ref a) r >>= fun _ => pure r) (EP X pins σ Q) X.xe s₃) X.xe s := by
    rw [hs]
    exact wpAny_operating (d_getItem hu I g ry fun w' s3 I3 rw' => wpAny_bind (wpAny_letTemporaryGo (wpAny_pure ⟨z, H, I3, rw', q⟩)))
  first
    | exact wpAny_pure (wpAny_bind fin)
    | exact wpAny_bind (wpAny_pure (wpAny_bind fin))
    | exact wpAny_bind fin
def rSetD : TSet := fun o i v H Q => ∃ a H', o = .ref a ∧ DPut H a i v H' ∧ Q H'
theorem set_dict (hu : X.A.units + 1 < cLine) : PSet X rSetD := by
  intro pins s σ H o i v ov iv u Q I ro ri rv h
  obtain ⟨a, H', rfl, g, q⟩ := h
  obtain rfl : ov = Value.ref a := ro
  exact d_setItem hu I g ri rv fun s' I' => ⟨H', I', q⟩
def rSetAny : TSet := fun o i v H Q => rSetL o i v H Q ∨ rSetD o i v H Q
theorem set_any (hu : X.A.units + 1 < cLine) : PSet X rSetAny := by
  intro pins s σ H o i v ov iv u Q I ro ri rv h
  rcases h with h | h
  · exact set_list pins s σ H o i v ov iv u Q I ro ri rv h
  · exact set_dict hu pins s σ H o i v ov iv u Q I ro ri rv h
def rIxAny (K : PySem.W.Frag) : R2 := fun x y H Q => rIx K x y H Q ∨ rIxD x y H Q
theorem ix_any (hu : X.A.units + 1 < cLine) : IxR X (rIxAny X.K) := ix_seq.or (ix_dict hu)
end

/-! ### keys -/
def keyD : D → Option Key
  | .int i => some (.inl i)
  | .str x => some (.inr x)
  | _ => none
def keysD : List D → Option (List Key)
  | [] => some []
  | d :: ds => match keyD d, keysD ds with
    | some k, some ks => some (k :: ks)
    | _, _ => none
def valG {κ α : Type} [DecidableEq κ] (kvs : List (κ × α)) (k : κ) : Option α := (kvs.find? fun kv => decide (kv.1 = k)).map (·.2)
def putG {κ α : Type} [DecidableEq κ] (kvs : List (κ × α)) (k : κ) (v : α) : List (κ × α) :=
  if (kvs.any fun kv => decide (kv.1 = k)) = true then kvs.map (fun kv => if kv.1 = k then (kv.1, v) else kv) else kvs ++ [(k, v)]
section
variable {K : PySem.W.Frag} {Z H : Hp}
theorem keyD_rep {d : D} {v : V} {k : Key} (r : Rep K Z d v) (e : keyD d = some k) : v = kV k := by
  cases r <;> first | (cases e; rfl) | (simp [keyD] at e)
theorem keysD_rep : ∀ {ds : List D} {vs : List V} {ks : List Key}, RepL K Z ds vs → keysD ds = some ks → vs = ks.map kV
  | _, _, _, .nil, e => by cases e; rfl
  | _, _, _, .cons h t, e => by
    unfold keysD at e
    split at e
    · rename_i k ks e1 e2
      cases e
      rw [keyD_rep h e1, keysD_rep t e2]
      rfl
    · cases e
theorem RepK.val {k : Key} : ∀ {kvs : List (Key × D)} {kws : List (Key × V)}, RepK K Z kvs kws → (valG kvs k = none ∧ valV kws k = none) ∨ ∃ d v, valG kvs k = some d ∧ valV kws k = some v ∧ Rep K Z d v
  | _, _, .nil => .inl ⟨rfl, rfl⟩
  | _, _, .cons (k := k0) (d := d0) (v := v0) (ds := ds) (vs := vs) h t => by
    by_cases e : k0 = k
    · exact .inr ⟨d0, v0, by simp [valG, List.find?_cons, e], by simp [valV, List.find?_cons, e], h⟩
    · have e1 : valG ((k0, d0) :: ds) k = valG ds k := by simp [valG, List.find?_cons, e]
      have e2 : valV ((k0, v0) :: vs) k = valV vs k := by simp [valV, List.find?_cons, e]
      rw [e1, e2]
      exact RepK.val t
theorem RepT.val {k : List Key} : ∀ {kvs : List (List Key × D)} {kws : List (List Key × V)}, RepT K Z kvs kws → (valG kvs k = none ∧ valV kws k = none) ∨ ∃ d v, valG kvs k = some d ∧ valV kws k = some v ∧ Rep K Z d v
  | _, _, .nil => .inl ⟨rfl, rfl⟩
  | _, _, .cons (k := k0) (d := d0) (v := v0) (ds := ds) (vs := vs) h t => by
    by_cases e : k0 = k
    · exact .inr ⟨d0, v0, by simp [valG, List.find?_cons, e], by simp [valV, List.find?_cons, e], h⟩
    · have e1 : valG ((k0, d0) :: ds) k = valG ds k := by simp [valG, List.find?_cons, e]
      have e2 : valV ((k0, v0) :: vs) k = valV vs k := by simp [valV, List.find?_cons, e]
      rw [e1, e2]
      exact RepT.val t
theorem RepK.any {k : Key} : ∀ {kvs : List (Key × D)} {kws : List (Key × V)}, RepK K Z kvs kws → (kvs.any fun kv => decide (kv.1 = k)) = kws.any fun kv => decide (kv.1 = k)
  | _, _, .nil => rfl
  | _, _, .cons h t => by rw [List.any_cons, List.any_cons, RepK.any t]
theorem RepT.any {k : List Key} : ∀ {kvs : List (List Key × D)} {kws : List (List Key × V)}, RepT K Z kvs kws → (kvs.any fun kv => decide (kv.1 = k)) = kws.any fun kv => decide (kv.1 = k)
  | _, _, .nil => rfl
  | _, _, .cons h t => by rw [List.any_cons, List.any_cons, RepT.any t]
theorem RepK.setAll {k : Key} {d : D} {v : V} (r : Rep K Z d v) : ∀ {kvs : List (Key × D)} {kws : List (Key × V)}, RepK K Z kvs kws → RepK K Z (kvs.map fun kv => if kv.1 = k then (kv.1, d) else kv) (kws.map fun kv => if kv.1 = k then (kv.1, v) else kv)
  | _, _, .nil => .nil
  | _, _, .cons (k := k0) h t => by
    rw [List.map_cons, List.map_cons]
    dsimp only
    split
    · exact .cons r (RepK.setAll r t)
    · exact .cons h (RepK.setAll r t)
theorem RepT.setAll {k : List Key} {d : D} {v : V} (r : Rep K Z d v) : ∀ {kvs : List (List Key × D)} {kws : List (List Key × V)}, RepT K Z kvs kws → RepT K Z (kvs.map fun kv => if kv.1 = k then (kv.1, d) else kv) (kws.map fun kv => if kv.1 = k then (kv.1, v) else kv)
  | _, _, .nil => .nil
  | _, _, .cons (k := k0) h t => by
    rw [List.map_cons, List.map_cons]
    dsimp only
    split
    · exact .cons r (RepT.setAll r t)
    · exact .cons h (RepT.setAll r t)
theorem RepK.snoc {k : Key} {d : D} {v : V} (r : Rep K Z d v) : ∀ {kvs : List (Key × D)} {kws : List (Key × V)}, RepK K Z kvs kws → RepK K Z (kvs ++ [(k, d)]) (kws ++ [(k, v)])
  | _, _, .nil => .cons r .nil
  | _, _, .cons h t => .cons h (RepK.snoc r t)
theorem RepT.snoc {k : List Key} {d : D} {v : V} (r : Rep K Z d v) : ∀ {kvs : List (List Key × D)} {kws : List (List Key × V)}, RepT K Z kvs kws → RepT K Z (kvs ++ [(k, d)]) (kws ++ [(k, v)])
  | _, _, .nil => .cons r .nil
  | _, _, .cons h t => .cons h (RepT.snoc r t)
theorem RepK.put {k : Key} {d : D} {v : V} (r : Rep K Z d v) {kvs : List (Key × D)} {kws : List (Key × V)} (h : RepK K Z kvs kws) : RepK K Z (putG kvs k d) (putK kws k v) := by
  unfold putG putK
  rw [h.any]
  split
  · exact h.setAll r
  · exact h.snoc r
theorem RepT.put {k : List Key} {d : D} {v : V} (r : Rep K Z d v) {kvs : List (List Key × D)} {kws : List (List Key × V)} (h : RepT K Z kvs kws) : RepT K Z (putG kvs k d) (putK kws k v) := by
  unfold putG putK
  rw [h.any]
  split
  · exact h.setAll r
  · exact h.snoc r
theorem RepK.length : ∀ {kvs : List (Key × D)} {kws : List (Key × V)}, RepK K Z kvs kws → kvs.length = kws.length
  | _, _, .nil => rfl
  | _, _, .cons h t => by rw [List.length_cons, List.length_cons, RepK.length t]
theorem RepT.length : ∀ {kvs : List (List Key × D)} {kws : List (List Key × V)}, RepT K Z kvs kws → kvs.length = kws.length
  | _, _, .nil => rfl
  | _, _, .cons h t => by rw [List.length_cons, List.length_cons, RepT.length t]
end
/-- what a dict answers at a key: none where the key is of no use -/
def getD2 (d k : D) : Option (Option D) := match d with
  | .dK kvs => match keyD k with
    | some k => some (valG kvs k)
    | none => none
  | .dT kvs => match k with
    | .tup ks => match keysD ks with
      | some k => some (valG kvs k)
      | none => none
    | _ => none
  | _ => none
section
variable {K : PySem.W.Frag} {Z H : Hp}
theorem getD2_get {d k : D} {x y : V} {r : Option D} (rx : Rep K Z d x) (ry : Rep K Z k y) (e : getD2 d k = some r) : ∃ a o, x = .ref a ∧ DGet Z a y o ∧ ((r = none ∧ o = none) ∨ ∃ d v, r = some d ∧ o = some v ∧ Rep K Z d v) := by
  unfold getD2 at e
  split at e
  · split at e
    · rename_i kvs k' k2 ek
      cases e
      cases rx with
      | dK h r =>
        rw [keyD_rep ry ek]
        refine ⟨_, _, rfl, .inl ⟨_, _, .inl h, rfl, rfl⟩, ?_⟩
        rcases r.val (k := k2) with ⟨e1, e2⟩ | ⟨d, v, e1, e2, r⟩
        · exact .inl ⟨e1, e2⟩
        · exact .inr ⟨d, v, e1, e2, r⟩
    · cases e
  · split at e
    · rename_i kvs k' ks
      split at e
      · rename_i k2 ek
        cases e
        cases rx with
        | dT h r =>
          cases ry with
          | tup hb rb =>
            rw [keysD_rep rb ek] at hb
            refine ⟨_, _, rfl, .inr ⟨_, _, _, .inl h, rfl, hb, rfl⟩, ?_⟩
            rcases r.val (k := k2) with ⟨e1, e2⟩ | ⟨d, v, e1, e2, r⟩
            · exact .inl ⟨e1, e2⟩
            · exact .inr ⟨d, v, e1, e2, r⟩
      · cases e
    · cases e
  · cases e
theorem dget_mono {Z H : Hp} {a : Addr} {y : V} {o : Option V} (e : Ex Z H) (g : DGet Z a y o) : DGet H a y o := by
  rcases g with ⟨kvs, k, h, e1, e2⟩ | ⟨kvs, k, b, h, e1, hb, e2⟩
  · exact .inl ⟨kvs, k, h.elim (fun h => .inl (e _ _ h)) fun ⟨o, h⟩ => .inr ⟨o, e _ _ h⟩, e1, e2⟩
  · exact .inr ⟨kvs, k, b, h.elim (fun h => .inl (e _ _ h)) fun ⟨o, h⟩ => .inr ⟨o, e _ _ h⟩, e1, e _ _ hb, e2⟩
end

/-! ### the operations on data -/
def two (r : R2) : List V → Hp → VK → Prop := fun vs H Q => match vs with
  | [x, y] => r x y H Q
  | _ => False
def one (r : V → Hp → VK → Prop) : List V → Hp → VK → Prop := fun vs H Q => match vs with
  | [x] => r x H Q
  | _ => False
theorem RepL.two_inv {K : PySem.W.Frag} {Z : Hp} {a b : D} {vs : List V} (h : RepL K Z [a, b] vs) : ∃ x y, vs = [x, y] ∧ Rep K Z a x ∧ Rep K Z b y := by
  cases h with
  | cons h t =>
    cases t with
    | cons h2 t =>
      cases t
      exact ⟨_, _, rfl, h, h2⟩
theorem RepL.one_inv {K : PySem.W.Frag} {Z : Hp} {a : D} {vs : List V} (h : RepL K Z [a] vs) : ∃ x, vs = [x] ∧ Rep K Z a x := by
  cases h with
  | cons h t =>
    cases t
    exact ⟨_, rfl, h⟩
section
variable {K : PySem.W.Frag}
def ixF : List D → Option D
  | [.lst ds, .int i] => atI ds i
  | [.tup ds, .int i] => atI ds i
  | [.tz ds, .int i] => atI ds i
  | [.scr ns, .int i] => (atI ns i).map .int
  | [.str z, .int i] => haveI : Decidable (z.length ≤ sizeLine) := Classical.propDecidable _; if z.length ≤ sizeLine then (atI z.cps.toList i).map fun c => .str ⟨#[c]⟩ else none
  | [d, k] => match getD2 d k with
    | some r => r
    | none => none
  | _ => none
theorem atI_repL {Z : Hp} {ds : List D} {vs : List V} {i : Int} {d : D} (r : RepL K Z ds vs) (e : atI ds i = some d) : ∃ v, atI vs i = some v ∧ Rep K Z d v := by
  unfold atI at e ⊢
  rw [← r.length]
  cases ej : ixN ds.length i with
  | none => rw [ej] at e; cases e
  | some j =>
    rw [ej] at e
    exact r.get (i := j) e
theorem ix_core (Z H : Hp) (ds : List D) (vs : List V) (Q : VK) (d : D) (ez : Ex Z H) (R : RepL K Z ds vs) (ef : ixF ds = some d) (q : ∀ v, Rep K Z d v → Q v H) : two (rIxAny K) vs H Q := by
  unfold ixF at ef
  split at ef
  · rename_i ds i
    obtain ⟨x, y, rfl, rx, ry⟩ := R.two_inv
    cases ry
    cases rx with
    | lst h r =>
      obtain ⟨v, ev, rv⟩ := atI_repL r ef
      exact .inl (.inl ⟨_, _, i, v, rfl, rfl, .of (ez _ _ h), ev, q v rv⟩)
  · rename_i ds i
    obtain ⟨x, y, rfl, rx, ry⟩ := R.two_inv
    cases ry
    cases rx with
    | tup h r =>
      obtain ⟨v, ev, rv⟩ := atI_repL r ef
      exact .inl (.inr (.inl ⟨_, _, i, v, rfl, rfl, .of (ez _ _ h), ev, q v rv⟩))
  · rename_i ds i
    obtain ⟨x, y, rfl, rx, ry⟩ := R.two_inv
    cases ry
    cases rx with
    | tz h _ r =>
      obtain ⟨v, ev, rv⟩ := atI_repL r ef
      exact .inl (.inr (.inl ⟨_, _, i, v, rfl, rfl, .inl (.inr ⟨_, ez _ _ h⟩), ev, q v rv⟩))
  · rename_i ns i
    obtain ⟨x, y, rfl, rx, ry⟩ := R.two_inv
    cases ry
    cases rx with
    | scr h =>
      cases en : atI ns i with
      | none => rw [en] at ef; cases ef
      | some n =>
        rw [en] at ef
        cases ef
        refine .inl (.inl ⟨_, _, i, .int n, rfl, rfl, sql_mono ez h, ?_, q _ (.int n)⟩)
        unfold atI at en ⊢
        rw [List.length_map]
        cases ej : ixN ns.length i with
        | none => rw [ej] at en; cases en
        | some j =>
          rw [ej] at en
          have en' : ns[j]? = some n := en
          show (ns.map V.int)[j]? = _
          rw [List.getElem?_map, en']
          rfl
  · rename_i z i
    obtain ⟨x, y, rfl, rx, ry⟩ := R.two_inv
    cases ry
    cases rx
    split at ef
    · rename_i hz
      cases ec : atI z.cps.toList i with
      | none => rw [ec] at ef; cases ef
      | some c =>
        rw [ec] at ef
        cases ef
        exact .inl (.inr (.inr ⟨z, i, c, rfl, rfl, hz, ec, q _ (.str _)⟩))
    · cases ef
  · rename_i d1 k1 _ _ _ _ _
    obtain ⟨x, y, rfl, rx, ry⟩ := R.two_inv
    cases eg : getD2 d1 k1 with
    | none => rw [eg] at ef; cases ef
    | some r =>
      rw [eg] at ef
      dsimp only at ef
      subst ef
      obtain ⟨a, o, rfl, g, h⟩ := getD2_get rx ry eg
      rcases h with ⟨h, _⟩ | ⟨d', v, e1, e2, rv⟩
      · cases h
      · cases e1
        subst e2
        exact .inr ⟨a, v, rfl, dget_mono ez g, q v rv⟩
  · cases ef
theorem g_ix : OpG K (two (rIxAny K)) ixF := fun Z H ds vs Q d ez R ef q _ _ _ _ => ix_core Z H ds vs Q d ez R ef q
def fdivF : List D → Option D
  | [.int i, .int j] => haveI : Decidable (j ≠ 0 ∧ j.natAbs < 1073741824) := Classical.propDecidable _; if j ≠ 0 ∧ j.natAbs < 1073741824 then some (.int (i.fdiv j)) else none
  | _ => none
theorem s_fdiv : OpS K (two (rI CDivN fun i j => .int (i.fdiv j))) fdivF := fun H ds vs Q d R ef q => by
  unfold fdivF at ef
  split at ef
  · obtain ⟨x, y, rfl, rx, ry⟩ := R.two_inv
    split at ef
    · rename_i hc
      cases rx; cases ry; cases ef
      exact ⟨_, _, rfl, rfl, hc, q _ (.int _)⟩
    · cases ef
  · cases ef
def modF : List D → Option D
  | [.int i, .int j] => if j ≠ 0 then some (.int (i.fmod j)) else none
  | _ => none
theorem s_mod : OpS K (two (rI (fun _ j => j ≠ 0) fun i j => .int (i.fmod j))) modF := fun H ds vs Q d R ef q => by
  unfold modF at ef
  split at ef
  · obtain ⟨x, y, rfl, rx, ry⟩ := R.two_inv
    split at ef
    · rename_i hc
      cases rx; cases ry; cases ef
      exact ⟨_, _, rfl, rfl, hc, q _ (.int _)⟩
    · cases ef
  · cases ef
def powF : List D → Option D
  | [.int i, .int j] => haveI : Decidable (0 ≤ j ∧ j ≤ 1000000 ∧ i.natAbs < 2 ^ 64) := Classical.propDecidable _; if 0 ≤ j ∧ j ≤ 1000000 ∧ i.natAbs < 2 ^ 64 then some (.int (i ^ j.toNat)) else none
  | _ => none
theorem s_pow : OpS K (two (rI CPow fun i j => .int (i ^ j.toNat))) powF := fun H ds vs Q d R ef q => by
  unfold powF at ef
  split at ef
  · obtain ⟨x, y, rfl, rx, ry⟩ := R.two_inv
    split at ef
    · rename_i hc
      cases rx; cases ry; cases ef
      exact ⟨_, _, rfl, rfl, hc, q _ (.int _)⟩
    · cases ef
  · cases ef
def negF : List D → Option D
  | [.int i] => some (.int (-i))
  | _ => none
theorem s_neg : OpS K (one (rU fun i => .int (-i))) negF := fun H ds vs Q d R ef q => by
  unfold negF at ef
  split at ef
  · obtain ⟨x, rfl, rx⟩ := R.one_inv
    cases rx; cases ef
    exact ⟨_, rfl, q _ (.int _)⟩
  · cases ef
/-- ints, texts, lists, tuples -/
def rAddAny (K : PySem.W.Frag) : R2 := fun x y H Q => rI0 (fun i j => .int (i + j)) x y H Q ∨ ((∃ i j, x = .str i ∧ y = .str j ∧ i.length + j.length ≤ sizeLine ∧ Q (.str (i ++ j)) H) ∨ (rCat x y H Q ∨ rCatA K x y H Q))
theorem op_addAny {X : Cx} : OpR X (binaryOp .Add) (rAddAny X.K) := opor op_add (opor op_add_str (opor op_cat op_catA))
def addF : List D → Option D
  | [.int i, .int j] => some (.int (i + j))
  | [.str i, .str j] => haveI : Decidable (i.length + j.length ≤ sizeLine) := Classical.propDecidable _; if i.length + j.length ≤ sizeLine then some (.str (i ++ j)) else none
  | [.lst i, .lst j] => haveI : Decidable (i.length + j.length ≤ sizeLine) := Classical.propDecidable _; if i.length + j.length ≤ sizeLine then some (.lst (i ++ j)) else none
  | [.tup i, .tup j] => haveI : Decidable (i.length + j.length ≤ sizeLine) := Classical.propDecidable _; if i.length + j.length ≤ sizeLine then some (.tup (i ++ j)) else none
  | _ => none
theorem g_add : OpN K (two (rAddAny K)) addF := fun Z H ds vs Q d ez R ef q ql qt => by
  unfold addF at ef
  split at ef
  · obtain ⟨x, y, rfl, rx, ry⟩ := R.two_inv
    cases rx; cases ry; cases ef
    exact .inl ⟨_, _, rfl, rfl, q _ (.int _) trivial⟩
  · obtain ⟨x, y, rfl, rx, ry⟩ := R.two_inv
    split at ef
    · rename_i hc
      cases rx; cases ry; cases ef
      exact .inr (.inl ⟨_, _, rfl, rfl, hc, q _ (.str _) trivial⟩)
    · cases ef
  · obtain ⟨x, y, rfl, rx, ry⟩ := R.two_inv
    split at ef
    · rename_i hc
      cases ef
      cases rx with
      | lst h1 r1 =>
        cases ry with
        | lst h2 r2 =>
          exact .inr (.inr (.inl ⟨_, _, _, _, rfl, rfl, ez _ _ h1, ez _ _ h2, by rw [← r1.length, ← r2.length]; exact hc, fun p hp => ql _ p _ rfl hp (r1.append r2)⟩))
    · cases ef
  · obtain ⟨x, y, rfl, rx, ry⟩ := R.two_inv
    split at ef
    · rename_i hc
      cases ef
      cases rx with
      | tup h1 r1 =>
        cases ry with
        | tup h2 r2 =>
          refine .inr (.inr (.inr ⟨_, _, _, _, rfl, rfl, .of (ez _ _ h1), .of (ez _ _ h2), by rw [← r1.length, ← r2.length]; exact hc, fun e => ?_, fun _ e => ?_, fun _ _ p hp => qt _ p _ rfl hp (r1.append r2)⟩))
          · subst e
            cases r1
            exact q _ (.tup h2 r2) trivial
          · subst e
            cases r2
            rw [List.append_nil] at q
            exact q _ (.tup h1 r1) trivial
    · cases ef
  · cases ef
/-- ints, list * int -/
def CMulA (i j : Int) : Prop := CMul i j ∨ CMulW i j
theorem op_mulA {X : Cx} : OpR X (binaryOp .Mult) (rI CMulA fun i j => .int (i * j)) := by
  intro pins s σ H x y v u Q I rx ry h
  obtain ⟨i, j, e1, e2, hc, q⟩ := h
  rcases hc with hc | hc
  · exact op_mul pins s σ H x y v u Q I rx ry ⟨i, j, e1, e2, hc, q⟩
  · exact op_mulW pins s σ H x y v u Q I rx ry ⟨i, j, e1, e2, hc, q⟩
def rMulAny (K : PySem.W.Frag) : R2 := fun x y H Q => rI CMulA (fun i j => .int (i * j)) x y H Q ∨ rRep x y H Q
theorem op_mulAny {X : Cx} : OpR X (binaryOp .Mult) (rMulAny X.K) := opor op_mulA op_rep
end
end MM

set_option Elab.async false
set_option linter.all false
set_option maxRecDepth 100000
set_option maxHeartbeats 4000000
noncomputable section
namespace MM
open PySem PySem.Spec PyProof.Rows L2

/-! ### data as the library has it -/
mutual
def toPy : D → Option PyData
  | .non => some .none
  | .bl b => some (.bool b)
  | .int i => some (.int i)
  | .str x => some (.str x)
  | .lst xs => match toPyL xs with
    | some ys => some (.list ys)
    | none => none
  | .tup xs => match toPyL xs with
    | some ys => some (.tuple ys)
    | none => none
  | .tz xs => match toPyL xs with
    | some ys => some (.tuple ys)
    | none => none
  | .scr ns => some (.list (ns.map .int))
  | .dK _ | .dT _ | .dTf _ | .opq _ | .deep _ | .nam _ _ | .xn _ _ _ | .fz _ => none
def toPyL : List D → Option (List PyData)
  | [] => some []
  | d :: ds => match toPy d with
    | some y => match toPyL ds with
      | some ys => some (y :: ys)
      | none => none
    | none => none
end
section
variable {K : PySem.W.Frag} {H : Hp}
theorem dpAll_ints : ∀ ns : List Int, DpAll K H (ns.map V.int) (ns.map PyData.int)
  | [] => .nil
  | n :: ns => .cons (.int n) (dpAll_ints ns)
mutual
theorem Rep.dp : ∀ {d : D} {v : V} {p : PyData}, Rep K H d v → toPy d = some p → Dp K H v p
  | _, _, _, .non, e => by simp only [toPy] at e; cases e; exact .non
  | _, _, _, .bl b, e => by simp only [toPy] at e; cases e; exact .bl b
  | _, _, _, .int b, e => by simp only [toPy] at e; cases e; exact .int b
  | _, _, _, .str b, e => by simp only [toPy] at e; cases e; exact .str b
  | _, _, _, .lst h r, e => by
    simp only [toPy] at e
    split at e
    · rename_i ys e1
      cases e
      exact .lst (.of h) (RepL.dp r e1)
    · cases e
  | _, _, _, .tup h r, e => by
    simp only [toPy] at e
    split at e
    · rename_i ys e1
      cases e
      exact .tup (.of h) (RepL.dp r e1)
    · cases e
  | _, _, _, .dK h r, e => by simp only [toPy] at e; cases e
  | _, _, _, .dT h r, e => by simp only [toPy] at e; cases e
  | _, _, _, .dTf h r, e => by simp only [toPy] at e; cases e
  | _, _, _, .scr h, e => by simp only [toPy] at e; cases e; exact .lst h (dpAll_ints _)
  | _, _, _, .opq v, e => by simp only [toPy] at e; cases e
  | _, _, _, .cls _, e => by simp only [toPy] at e; cases e
  | _, _, _, .exn _ _, e => by simp only [toPy] at e; cases e
  | _, _, _, .xn _ _ _, e => by simp only [toPy] at e; cases e
  | _, _, _, .deep _, e => by simp only [toPy] at e; cases e
  | _, _, _, .frzn _, e => by simp only [toPy] at e; cases e
  | _, _, _, .tz h _ r, e => by
    simp only [toPy] at e
    split at e
    · rename_i ys e1
      cases e
      exact .tup (.inl (.inr ⟨_, h⟩)) (RepL.dp r e1)
    · cases e
theorem RepL.dp : ∀ {d : List D} {v : List V} {p : List PyData}, RepL K H d v → toPyL d = some p → DpAll K H v p
  | _, _, _, .nil, e => by simp only [toPyL] at e; cases e; exact .nil
  | _, _, _, .cons h r, e => by
    simp only [toPyL] at e
    split at e
    · rename_i y e1
      split at e
      · rename_i ys e2
        cases e
        exact .cons (Rep.dp h e1) (RepL.dp r e2)
      · cases e
    · cases e
end
end
/-- == of data -/
def eqP (a b : D) : Option Bool := match toPy a with
  | some p => match toPy b with
    | some q => haveI : Decidable (SeqAt.shaped p = true ∧ SeqAt.shaped q = true) := Classical.propDecidable _; if SeqAt.shaped p = true ∧ SeqAt.shaped q = true then some (PyData.eqv p q) else none
    | none => none
  | none => none
def eqF : List D → Option D
  | [a, b] => (eqP a b).map .bl
  | _ => none
def neF : List D → Option D
  | [a, b] => (eqP a b).map fun c => .bl (!c)
  | _ => none
section
variable {X : Cx}
end
section
variable {K : PySem.W.Frag}
theorem s_eq : OpS K (two (rEqD K)) eqF := fun H ds vs Q d R ef q => by
  unfold eqF at ef
  split at ef
  · obtain ⟨x, y, rfl, rx, ry⟩ := R.two_inv
    unfold eqP at ef
    split at ef
    · rename_i p e1
      split at ef
      · rename_i p2 e2
        split at ef
        · rename_i hs
          cases ef
          exact ⟨p, p2, rx.dp e1, ry.dp e2, hs.1, hs.2, q _ (.bl _)⟩
        · cases ef
      · cases ef
    · cases ef
  · cases ef
theorem s_ne : OpS K (two (rNeD K)) neF := fun H ds vs Q d R ef q => by
  unfold neF at ef
  split at ef
  · obtain ⟨x, y, rfl, rx, ry⟩ := R.two_inv
    unfold eqP at ef
    split at ef
    · rename_i p e1
      split at ef
      · rename_i p2 e2
        split at ef
        · rename_i hs
          cases ef
          exact ⟨p, p2, rx.dp e1, ry.dp e2, hs.1, hs.2, q _ (.bl _)⟩
        · cases ef
      · cases ef
    · cases ef
  · cases ef
/-! ints compared -/
def cmpF (f : Int → Int → Bool) : List D → Option D
  | [.int i, .int j] => some (.bl (f i j))
  | _ => none
theorem s_cmp {f : Int → Int → Bool} : OpS K (two (rI0 fun i j => .bl (f i j))) (cmpF f) := fun H ds vs Q d R ef q => by
  unfold cmpF at ef
  split at ef
  · obtain ⟨x, y, rfl, rx, ry⟩ := R.two_inv
    cases rx; cases ry; cases ef
    exact ⟨_, _, rfl, rfl, q _ (.bl _)⟩
  · cases ef
abbrev ltF := cmpF fun i j => decide (i < j)
abbrev gtF := cmpF fun i j => decide (j < i)
abbrev geF := cmpF fun i j => decide (j ≤ i)
/-! is None -/
/-! products -/
instance (i j : Int) : Decidable (CMulA i j) := by unfold CMulA CMul CMulW; exact inferInstance
def mulF : List D → Option D
  | [.int i, .int j] => haveI : Decidable (CMulA i j) := Classical.propDecidable _; if CMulA i j then some (.int (i * j)) else none
  | [.lst ds, .int k] => haveI : Decidable (-(2 ^ 63) ≤ k ∧ k < 2 ^ 63 ∧ ds.length * k.toNat ≤ sizeLine) := Classical.propDecidable _; if -(2 ^ 63) ≤ k ∧ k < 2 ^ 63 ∧ ds.length * k.toNat ≤ sizeLine then some (.lst (List.replicate k.toNat ds).flatten) else none
  | _ => none
theorem RepL.rep {Z : Hp} {ds : List D} {vs : List V} (h : RepL K Z ds vs) : ∀ n, RepL K Z (List.replicate n ds).flatten (List.replicate n vs).flatten
  | 0 => .nil
  | n + 1 => by
    rw [List.replicate_succ, List.replicate_succ, List.flatten_cons, List.flatten_cons]
    exact h.append (RepL.rep h n)
theorem g_mul : OpN K (two (rMulAny K)) mulF := fun Z H ds vs Q d ez R ef q ql _ => by
  unfold mulF at ef
  split at ef
  · obtain ⟨x, y, rfl, rx, ry⟩ := R.two_inv
    split at ef
    · rename_i hc
      cases rx; cases ry; cases ef
      exact .inl ⟨_, _, rfl, rfl, hc, q _ (.int _) trivial⟩
    · cases ef
  · obtain ⟨x, y, rfl, rx, ry⟩ := R.two_inv
    split at ef
    · rename_i hc
      cases ry; cases ef
      cases rx with
      | lst h r => exact .inr ⟨_, _, _, rfl, rfl, ez _ _ h, hc.1, hc.2.1, by rw [← r.length]; exact hc.2.2, fun p hp => ql _ p _ rfl hp (r.rep _)⟩
    · cases ef
  · cases ef
/-! len -/
def lenF : List D → Option D
  | [.lst ds] => some (.int ds.length)
  | [.tup ds] => some (.int ds.length)
  | [.tz ds] => some (.int ds.length)
  | [.scr ds] => some (.int ds.length)
  | [.dK ds] => some (.int ds.length)
  | [.dT ds] => some (.int ds.length)
  | [.str z] => haveI : Decidable (z.length ≤ sizeLine) := Classical.propDecidable _; if z.length ≤ sizeLine then some (.int z.length) else none
  | _ => none
def rLenAny (K : PySem.W.Frag) : List V → Hp → VK → Prop := fun xs H Q => ((∃ p ys, xs = [.ref p] ∧ (SqL K H p ys ∨ SqT K H p ys) ∧ Q (.int ys.length) H) ∨ (∃ z, xs = [.str z] ∧ z.length ≤ sizeLine ∧ Q (.int z.length) H)) ∨
  ((∃ a kvs, xs = [V.ref a] ∧ H a = some (.dK kvs) ∧ Q (.int kvs.length) H) ∨ rLenT xs H Q)
theorem call_lenAny {X : Cx} : CallR X (.builtin "len") (rLenAny X.K) := (call_len_seq.or call_len_str).or (call_lenD.or call_len_dT)
theorem s_len : OpS K (rLenAny K) lenF := fun H ds vs Q d R ef q => by
  unfold lenF at ef
  split at ef
  · obtain ⟨x, rfl, rx⟩ := R.one_inv
    cases ef
    cases rx with
    | lst h r => exact .inl (.inl ⟨_, _, rfl, .inl (.of h), by rw [← r.length]; exact q _ (.int _)⟩)
  · obtain ⟨x, rfl, rx⟩ := R.one_inv
    cases ef
    cases rx with
    | tup h r => exact .inl (.inl ⟨_, _, rfl, .inr (.of h), by rw [← r.length]; exact q _ (.int _)⟩)
  · obtain ⟨x, rfl, rx⟩ := R.one_inv
    cases ef
    cases rx with
    | tz h _ r => exact .inl (.inl ⟨_, _, rfl, .inr (.inl (.inr ⟨_, h⟩)), by rw [← r.length]; exact q _ (.int _)⟩)
  · obtain ⟨x, rfl, rx⟩ := R.one_inv
    cases ef
    cases rx with
    | scr h => exact .inl (.inl ⟨_, _, rfl, .inl h, by rw [List.length_map]; exact q _ (.int _)⟩)
  · obtain ⟨x, rfl, rx⟩ := R.one_inv
    cases ef
    cases rx with
    | dK h r => exact .inr (.inl ⟨_, _, rfl, h, by rw [← r.length]; exact q _ (.int _)⟩)
  · obtain ⟨x, rfl, rx⟩ := R.one_inv
    cases ef
    cases rx with
    | dT h r => exact .inr (.inr ⟨_, _, rfl, h, by rw [← r.length]; exact q _ (.int _)⟩)
  · obtain ⟨x, rfl, rx⟩ := R.one_inv
    split at ef
    · rename_i hz
      cases ef
      cases rx
      exact .inl (.inr ⟨_, rfl, hz, q _ (.int _)⟩)
    · cases ef
  · cases ef
def absF : List D → Option D
  | [.int i] => some (.int (if i < 0 then -i else i))
  | _ => none
theorem s_abs : OpS K (fun xs H Q => ∃ i, xs = [V.int i] ∧ Q (.int (if i < 0 then -i else i)) H) absF := fun H ds vs Q d R ef q => by
  unfold absF at ef
  split at ef
  · obtain ⟨x, rfl, rx⟩ := R.one_inv
    cases rx; cases ef
    exact ⟨_, rfl, q _ (.int _)⟩
  · cases ef
/-! list(x), tuple(x) -/
def tupleF : List D → Option D
  | [.lst ds] => some (.tup ds)
  | [.tup ds] => some (.tup ds)
  | [.tz ds] => some (.tz ds)
  | _ => none
def listF : List D → Option D
  | [.lst ds] => some (.lst ds)
  | [.tup ds] => some (.lst ds)
  | [.tz ds] => some (.lst ds)
  | _ => none
theorem g_list : OpN K (fun xs H Q => ∃ p ys, xs = [V.ref p] ∧ (SqL K H p ys ∨ SqT K H p ys) ∧ ∀ l, H l = none → Q (.ref l) (upd H l (.lst ys))) listF := fun Z H ds vs Q d ez R ef q ql qt => by
  unfold listF at ef
  split at ef
  · obtain ⟨x, rfl, rx⟩ := R.one_inv
    cases ef
    cases rx with
    | lst h r => exact ⟨_, _, rfl, .inl (.of (ez _ _ h)), fun l hl => ql _ l _ rfl hl r⟩
  · obtain ⟨x, rfl, rx⟩ := R.one_inv
    cases ef
    cases rx with
    | tup h r => exact ⟨_, _, rfl, .inr (.of (ez _ _ h)), fun l hl => ql _ l _ rfl hl r⟩
  · obtain ⟨x, rfl, rx⟩ := R.one_inv
    cases ef
    cases rx with
    | tz h _ r => exact ⟨_, _, rfl, .inr (.inl (.inr ⟨_, ez _ _ h⟩)), fun l hl => ql _ l _ rfl hl r⟩
  · cases ef
end
end MM

set_option Elab.async false
set_option linter.all false
set_option maxRecDepth 100000
set_option maxHeartbeats 4000000
noncomputable section
namespace MM
open PySem PySem.Spec PyProof.Rows L2

/-! ### what is walked -/
/-- what an iterator gives at a place: a datum that stands, or a new tuple of such -/
def YldOk (K : PySem.W.Frag) (Z H : Hp) (d : D) (x : V) (H' : Hp) : Prop :=
  (H' = H ∧ Rep K Z d x) ∨ ∃ ds vs T, d = .tup ds ∧ x = .ref T ∧ H T = none ∧ RepL K Z ds vs ∧ H' = upd H T (.tup vs)
def Feeds (K : PySem.W.Frag) (Z : Hp) (J : It) (xs : List D) : Prop :=
  ∀ H i, Ex Z H → (∀ d, xs[i]? = some d → J.go i H ∧ ∀ x H', J.yld i H x H' → YldOk K Z H d x H') ∧ (xs.length ≤ i → J.stop i H)
section
variable (K : PySem.W.Frag) (mg : Str → Option Value) (W : WX)
def EvI (p : Bool) (wi : TI) (m : M (List D)) : Prop := ∀ B env σ H F (Q : It → Hp → Prop), Sta K B env σ H F → (match m env with
  | .ok xs env' => ∀ J H' F', Sta K B env' σ H' F' → Feeds K (Fz B H' F') J xs → Nxt H F H' F' → PureP p env env' F F' H H' → Q J H'
  | .ex e env' => ExP K mg W B σ H F e env'
  | .no => False) → wi σ H Q
/-- a target of a frozen value: the slots js are set -/
def EvG (js : List Nat) (g : TG) (bd : D → Env → Option Env) : Prop := ∀ B env σ H F d v env' (Q : St → Hp → Prop), Sta K B env σ H F → Rep K (Fz B H F) d v → bd d env = some env' →
  (∀ σ' F', Sta K B env' σ' H F' → (∀ a ∈ F', a ∈ F) → (∀ i, i ∉ js → σ'[i]? = σ[i]?) → σ'.length = σ.length → Q σ' H) → g v σ H Q
end
/-- the items of a list, a tuple, a script -/
def itemsD : D → Option (List D)
  | .lst ds => some ds
  | .tup ds => some ds
  | .tz ds => some ds
  | .scr ns => some (ns.map .int)
  | _ => none
def itemsM (m : M D) : M (List D) := fun env => match m env with
  | .ok d e => match itemsD d with
    | some ds => .ok ds e
    | none => .no
  | .ex e e2 => .ex e e2
  | .no => .no
/-- list or tuple -/
def iSeq (K : PySem.W.Frag) (tl : TE) : TI := fun σ H R => tl σ H fun x H1 => ∃ a, x = .ref a ∧ (((∃ xs, SqL K H1 a xs) ∧ R (Itl K a) H1) ∨ ((∃ xs, SqT K H1 a xs) ∧ R (Itt K a) H1))
theorem pi_seq {X : Cx} {tg l : Expr} {tl : TE} (hl : PE X l tl) : PI X tg l (iSeq X.K tl) := by
  refine ⟨fun pins s σ H R I h => ?_⟩
  refine thn (hl.run pins s σ H _ I h) fun v s1 ⟨x, H1, I1, r1, q1⟩ => ?_
  obtain ⟨a, e, q1⟩ := q1
  subst e
  cases r1
  rcases q1 with ⟨⟨xs, hq⟩, q⟩ | ⟨⟨xs, hq⟩, q⟩
  · obtain ⟨its, rv, p, hz⟩ := I1.list hq
    refine wpAny_pyIter_list p.isList ?_
    refine ⟨s1.heap.objs.size, [s1.heap.objs.size], _, _, H1, rfl, I1.kept (t' := s1.toks) fun b o e => Heap.get?_push_of_some _ e, turn_list a _, ⟨_, Heap.get?_push_size _ rfl, rfl, rfl⟩, fun b hb => ?_, q⟩
    have e : b = s1.heap.objs.size := by simpa using hb
    subst e
    exact I1.fpOk (Nat.le_refl _) (I1.hok.fresh (Nat.le_refl _))
  · obtain ⟨its, rv, p, hz⟩ := I1.tuple hq
    refine wpAny_pyIter_tuple (show s1.heap.IsTuple a its.toArray from p) ?_
    refine ⟨s1.heap.objs.size, [s1.heap.objs.size], _, _, H1, rfl, I1.kept (t' := s1.toks) fun b o e => Heap.get?_push_of_some _ e, turn_tuple a _, ⟨_, Heap.get?_push_size _ rfl, rfl, rfl⟩, fun b hb => ?_, q⟩
    have e : b = s1.heap.objs.size := by simpa using hb
    subst e
    exact I1.fpOk (Nat.le_refl _) (I1.hok.fresh (Nat.le_refl _))
section
variable {K : PySem.W.Frag} {mg : Str → Option Value} {W : WX} {p q : Bool} {te tl : TE} {m : M D} {tA : TA} {ms : M (List D)} {i : Nat} {Z : Hp}
theorem feeds_list {a : Addr} {vs : List V} {ds : List D} (h : Z a = some (.lst vs)) (r : RepL K Z ds vs) : Feeds K Z (Itl K a) ds := fun H i ez => by
  have hH := ez _ _ h
  refine ⟨fun d hd => ?_, fun hl => ⟨vs, .of hH, by rw [← r.length]; exact hl⟩⟩
  obtain ⟨v, hv, rv⟩ := r.get hd
  exact ⟨⟨vs, v, .of hH, hv⟩, fun x H' y => .inl ⟨y.1, by
    have := y.2 vs (.of hH)
    rw [hv] at this
    cases this
    exact rv⟩⟩
theorem feeds_tup {a : Addr} {vs : List V} {ds : List D} (h : Z a = some (.tup vs)) (r : RepL K Z ds vs) : Feeds K Z (Itt K a) ds := fun H i ez => by
  have hH := ez _ _ h
  refine ⟨fun d hd => ?_, fun hl => ⟨vs, .of hH, by rw [← r.length]; exact hl⟩⟩
  obtain ⟨v, hv, rv⟩ := r.get hd
  exact ⟨⟨vs, v, .of hH, hv⟩, fun x H' y => .inl ⟨y.1, by
    have := y.2 vs (.of hH)
    rw [hv] at this
    cases this
    exact rv⟩⟩
theorem feeds_tz {a : Addr} {o : Obj} {vs : List V} {ds : List D} (h : Z a = some (.frz o (.tup vs))) (r : RepL K Z ds vs) : Feeds K Z (Itt K a) ds := fun H i ez => by
  have hH : SqT K H a vs := .inl (.inr ⟨o, ez _ _ h⟩)
  refine ⟨fun d hd => ?_, fun hl => ⟨vs, hH, by rw [← r.length]; exact hl⟩⟩
  obtain ⟨v, hv, rv⟩ := r.get hd
  exact ⟨⟨vs, v, hH, hv⟩, fun x H' y => .inl ⟨y.1, by
    have := y.2 vs hH
    rw [hv] at this
    cases this
    exact rv⟩⟩
theorem repL_ints {Z : Hp} : ∀ ns : List Int, RepL K Z (ns.map D.int) (ns.map V.int)
  | [] => .nil
  | n :: ns => .cons (.int n) (repL_ints ns)
theorem feeds_scr {a : Addr} {ns : List Int} (h : SqL K Z a (ns.map V.int)) : Feeds K Z (Itl K a) (ns.map .int) := fun H i ez => by
  have hH := sql_mono ez h
  refine ⟨fun d hd => ?_, fun hl => ⟨_, hH, by rw [List.length_map] at *; exact hl⟩⟩
  obtain ⟨v, hv, rv⟩ := (repL_ints (K := K) (Z := Z) ns).get hd
  exact ⟨⟨_, v, hH, hv⟩, fun x H' y => .inl ⟨y.1, by
    have := y.2 _ hH
    rw [hv] at this
    cases this
    exact rv⟩⟩
theorem feeds_range {lo : Int} {n : Nat} : Feeds K Z (Itr lo n) ((List.range n).map fun i => .int (lo + (i : Nat))) := fun H i ez => by
  refine ⟨fun d hd => ?_, fun hl => show n ≤ i by simpa using hl⟩
  rw [List.getElem?_map] at hd
  cases e : (List.range n)[i]? with
  | none => rw [e] at hd; cases hd
  | some j =>
    obtain ⟨h1, h2⟩ := List.getElem?_eq_some_iff.mp e
    rw [List.getElem_range] at h2
    rw [List.length_range] at h1
    rw [e] at hd
    cases hd
    subst h2
    exact ⟨h1, fun x H' y => .inl ⟨y.1, by rw [y.2]; exact .int _⟩⟩
theorem ei_seq (h1 : EvE K mg W p tl m) : EvI K mg W p (iSeq K tl) (itemsM m) := fun B env σ H F Q S h => by
  refine h1 B env σ H F _ S ?_
  unfold itemsM at h
  cases em : m env with
  | ok d e =>
    rw [em] at h
    intro v H' F' Fd S' N P
    obtain ⟨S2, r⟩ := S'.freeze
    have r1 : Rep K (Fz B H' F') d v := by
      cases r with
      | cons r _ => exact r
    dsimp only at h
    cases r1 with
    | lst hz rl => exact ⟨_, rfl, .inl ⟨⟨_, .of (fz_ex _ _ _ _ _ hz)⟩, h _ H' F' S2 (feeds_list hz rl) (N.weak fun a m => List.mem_append_left _ m) P⟩⟩
    | tup hz rl => exact ⟨_, rfl, .inr ⟨⟨_, .of (fz_ex _ _ _ _ _ hz)⟩, h _ H' F' S2 (feeds_tup hz rl) (N.weak fun a m => List.mem_append_left _ m) P⟩⟩
    | tz hz _ rl => exact ⟨_, rfl, .inr ⟨⟨_, .inl (.inr ⟨_, fz_ex _ _ _ _ _ hz⟩)⟩, h _ H' F' S2 (feeds_tz hz rl) (N.weak fun a m => List.mem_append_left _ m) P⟩⟩
    | scr hz => exact ⟨_, rfl, .inl ⟨⟨_, sql_mono (fz_ex _ _ _) hz⟩, h _ H' F' S2 (feeds_scr hz) (N.weak fun a m => List.mem_append_left _ m) P⟩⟩
    | _ => exact h.elim
  | ex e e2 => rw [em] at h; exact h
  | no => rw [em] at h; exact h
def rangeL (lo : Int) (n : Nat) : List D := (List.range n).map fun i => .int (lo + (i : Nat))
def range1M (ms : M (List D)) : M (List D) := fun env => match ms env with
  | .ok [.int j] e => haveI : Decidable (-(2 ^ 62) ≤ j ∧ j < 2 ^ 62) := Classical.propDecidable _; if -(2 ^ 62) ≤ j ∧ j < 2 ^ 62 then .ok (rangeL 0 j.toNat) e else .no
  | .ok _ _ => .no
  | .ex e e2 => .ex e e2
  | .no => .no
theorem ei_range1 (h1 : EvR K mg W p tA ms) : EvI K mg W p (iRng1 tA) (range1M ms) := fun B env σ H F Q S h => by
  refine h1 B env σ H F _ S ?_
  unfold range1M at h
  cases em : ms env with
  | ok ds e =>
    rw [em] at h
    intro vs H' F' S' r N P
    split at h
    · rename_i xs env' eq
      split at eq
      · rename_i j e' eq2
        cases eq2
        obtain ⟨x, rfl, rx⟩ := r.one_inv
        cases rx
        split at eq
        · rename_i hb
          cases eq
          exact ⟨j, rfl, hb.1, hb.2, h _ H' F' S' feeds_range N P⟩
        · cases eq
      · cases eq
      · cases eq
      · cases eq
    · rename_i eq
      split at eq
      · split at eq <;> cases eq
      · cases eq
      · rename_i eq2; cases eq2
      · cases eq
    · exact h.elim
  | ex e e2 => rw [em] at h; exact h
  | no => rw [em] at h; exact h
/-! ### targets -/
def bdName (i : Nat) (d : D) (env : Env) : Option Env := if i < env.length then some (env.set i (some (false, d))) else none
theorem eg_name (i : Nat) : EvG K [i] (gName i) (bdName i) := fun B env σ H F d v env' Q S r e q => by
  unfold bdName at e
  split at e
  · rename_i hl
    cases e
    obtain ⟨F2, S3, sub⟩ := S.putF (i := i) r hl
    exact q _ F2 S3 sub (fun j hj => List.getElem?_set_ne (fun z => hj (by rw [z]; exact List.mem_singleton_self _))) (List.length_set)
  · cases e
def bdList : List (D → Env → Option Env) → List D → Env → Option Env
  | [], [], env => some env
  | b :: bs, d :: ds, env => match b d env with
    | some e => bdList bs ds e
    | none => none
  | _, _, _ => none
def bdTup (bs : List (D → Env → Option Env)) (d : D) (env : Env) : Option Env := match d with
  | .tup ds => bdList bs ds env
  | .tz ds => bdList bs ds env
  | _ => none
end
end MM

set_option Elab.async false
set_option linter.all false
set_option maxRecDepth 100000
set_option maxHeartbeats 4000000
noncomputable section
namespace MM
open PySem PySem.Spec PyProof.Rows L2

def forM (bd : D → Env → Option Env) (body : MS) : List D → MS
  | [], env => .nx env
  | d :: ds, env => match bd d env with
    | none => .no
    | some e1 => match body e1 with
      | .nx e2 => forM bd body ds e2
      | .ct e2 => forM bd body ds e2
      | .bk e2 => .nx e2
      | r => r
def loopM (mi : M (List D)) (bd : D → Env → Option Env) (body : MS) : MS := fun env => match mi env with
  | .ok xs e => forM bd body xs e
  | .ex e e2 => .ex e e2
  | .no => .no
def wipeE (env : Env) : List Nat → Env
  | [] => env
  | v :: vs => (wipeE env vs).set v none
def restE (e1 : Env) : List Nat → Env → Env
  | [], e2 => e2
  | j :: js, e2 => match e1[j]? with
    | some (some (false, d)) => (restE e1 js e2).set j (some (false, d))
    | _ => (restE e1 js e2).set j none
def compM (vs : List Nat) (bd : D → Env → Option Env) (tt : M Bool) (el : M D) : List D → M (List D)
  | [], env => .ok [] env
  | d :: ds, env => match bd d env with
    | none => .no
    | some e1 => match tt e1 with
      | .ok true e2 => match el e2 with
        | .ok y e3 => match compM vs bd tt el ds (wipeE e3 vs) with
          | .ok ys e4 => .ok (y :: ys) e4
          | _ => .no
        | _ => .no
      | .ok false e2 => compM vs bd tt el ds (wipeE e2 vs)
      | _ => .no
def lcM (vs : List Nat) (mi : M (List D)) (bd : D → Env → Option Env) (tt : M Bool) (el : M D) : M D := fun env => match mi env with
  | .ok xs e1 => haveI : Decidable (xs.length ≤ sizeLine) := Classical.propDecidable _; if xs.length ≤ sizeLine then match compM vs bd tt el xs (wipeE e1 vs) with
    | .ok ys e2 => .ok (.lst ys) (restE e1 vs e2)
    | _ => .no
    else .no
  | .ex e e2 => .ex e e2
  | .no => .no
def yesM : M Bool := fun env => .ok true env
section
variable {K : PySem.W.Frag} {mg : Str → Option Value} {W : WX} {ps : List Nat} {ro : Bool} {p q : Bool} {t : TS} {a : MS} {wi : TI} {mi : M (List D)} {g : TG} {js : List Nat} {bd : D → Env → Option Env} {i : Nat}
  {B : Addr → Prop} {env : Env} {σ : St} {H H0 : Hp} {F F0 Fd : List Addr} {ds : List D} {vs : List V}

theorem nxt_ex {H' : Hp} {F' : List Addr} (N : Nxt H F H' F') : Ex (Fz B H F) (Fz B H' F') := fz_mk fun b o e m n => ⟨N.fr b o e m, (fun z => (N.sub b z).elim m fun z => by (rw [z] at e; cases e)), n⟩
theorem nxt_exH {H' : Hp} {F' : List Addr} (N : Nxt H F H' F') : Ex (Fz B H F) H' := fun b o e => by
  obtain ⟨e1, m, n⟩ := fz_some e
  exact N.fr b o e1 m
/-- the datum that has come -/
theorem yld_sta {Z H2 : Hp} {d : D} {x : V} (S : Sta K B env σ H F) (ez : Ex Z (Fz B H F)) (y : YldOk K Z H d x H2) : Sta K B env σ H2 F ∧ Rep K (Fz B H2 F) d x ∧ Ex H H2 := by
  rcases y with ⟨rfl, r⟩ | ⟨ds, vs, T, rfl, rfl, hT, r, rfl⟩
  · exact ⟨S, r.mono ez, .refl _⟩
  · have S2 := S.new (o := .tup vs) hT
    have hn := S.nil.sub0 hT
    rw [List.append_nil] at hn
    have e2 : Ex (Fz B H F) (Fz B (upd H T (.tup vs)) F) := fz_mk fun b o e m n => ⟨ex_new hT _ _ e, m, n⟩
    exact ⟨S2, .tup (by rw [fz_in hn.1 hn.2]; exact upd_same) ((r.mono ez).mono e2), ex_new hT⟩
theorem es_for (hi : EvI K mg W p wi mi) (hg : EvG K js g bd) (hb : EvS K mg W ps ro t a) (hj : ∀ j ∈ ps, j ∉ js) : EvS K mg W ps ro (tFor wi g t) (loopM mi bd a) := fun B env σ H F D S h => by
  refine hi B env σ H F _ S ?_
  unfold loopM at h
  cases em : mi env with
  | ex e e2 => rw [em] at h; exact .xs h
  | no => rw [em] at h; exact h
  | ok xs e =>
    rw [em] at h
    dsimp only at h
    intro J H1 F1 S1 fd N1 _
    refine ⟨fun i m σ2 H2 => m = xs.length - i ∧ i ≤ xs.length ∧ ∃ F2 env2, Sta K B env2 σ2 H2 F2 ∧ Nxt H1 F1 H2 F2 ∧ Kp ps σ σ2 ∧ PostS K mg W ps ro B σ2 H2 F2 D (forM bd a (xs.drop i) env2),
      ⟨_, rfl, Nat.zero_le _, F1, e, S1, .refl, .refl, h.mono (fun _ _ n => N1.trans n fun a m => m) .refl⟩, ?_⟩
    rintro i m σ2 H2 ⟨rfl, hle, F2, env2, S2, N2, k2, h2⟩
    obtain ⟨fy, fs⟩ := fd H2 i (nxt_exH N2)
    by_cases hl : i < xs.length
    · refine .inr ?_
      obtain ⟨go, yl⟩ := fy xs[i] (List.getElem?_eq_getElem hl)
      rw [List.drop_eq_getElem_cons hl] at h2
      unfold forM at h2
      cases eb : bd xs[i] env2 with
      | none => rw [eb] at h2; exact h2.elim
      | some e1 =>
        rw [eb] at h2
        dsimp only at h2
        refine ⟨go, _, fun σ' H' n' => n', fun x H3 y => ?_⟩
        obtain ⟨S3, r3, ex3⟩ := yld_sta S2 (nxt_ex N2) (yl x H3 y)
        refine hg B env2 σ2 H3 F2 xs[i] x e1 _ S3 r3 eb fun σ4 F4 S4 sub4 k4 _ => ?_
        have N4 : Nxt H2 F2 H3 F4 := ⟨fun b o e _ => ex3 _ _ e, fun a m => .inl (sub4 a m)⟩
        have kp4 : Kp ps σ2 σ4 := fun j hjp => k4 j (hj j hjp)
        refine hb B e1 σ4 H3 F4 _ S4 ?_
        have go : ∀ {e5 : Env}, PostS K mg W ps ro B σ2 H2 F2 D (forM bd a (xs.drop (i + 1)) e5) → NxP K ps B σ4 H3 F4 e5 (fun σ' H' => ∃ m', m' < xs.length - i ∧ m' = xs.length - (i + 1) ∧ i + 1 ≤ xs.length ∧ ∃ F2 env2, Sta K B env2 σ' H' F2 ∧ Nxt H1 F1 H' F2 ∧ Kp ps σ σ' ∧ PostS K mg W ps ro B σ' H' F2 D (forM bd a (xs.drop (i + 1)) env2)) := fun {e5} h5 σ' H' F' S' N' kp =>
          ⟨_, by omega, rfl, hl, F', e5, S', N2.trans (N4.trans N' fun a m => m) fun a m => m, k2.trans (kp4.trans kp), h5.mono (fun _ _ n => N4.trans (N'.trans n fun a m => m) fun a m => m) (kp4.trans kp)⟩
        cases ea : a e1 with
        | nx e5 => rw [ea] at h2; exact go h2
        | ct e5 => rw [ea] at h2; exact go h2
        | bk e5 => rw [ea] at h2; exact fun σ' H' F' S' N' kp => h2 σ' H' F' S' (N4.trans N' fun a m => m) (kp4.trans kp)
        | rt d e5 => rw [ea] at h2; exact fun v σ' H' F' Fd S' x N' kp => h2 v σ' H' F' Fd S' x (N4.trans N' fun a m => m) (kp4.trans kp)
        | ex e6 e5 => rw [ea] at h2; exact fun c d σ' H' F' S' N' kp x => h2 c d σ' H' F' S' (N4.trans N' fun a m => m) (kp4.trans kp) x
        | no => rw [ea] at h2; exact h2
    · have hd : xs.drop i = [] := List.drop_eq_nil_of_le (by omega)
      rw [hd] at h2
      exact .inl ⟨fs (by omega), h2 σ2 H2 F2 S2 .refl .refl⟩

/-! ### comprehensions -/
theorem StaL.setN (S : StaL K B env σ H F ds vs Fd) (i : Nat) (o : Option V) : ∃ F', StaL K B (env.set i none) (σ.set i o) H F' ds vs Fd ∧ ∀ a ∈ F', a ∈ F := by
  by_cases hl : i < env.length
  · obtain ⟨F1, Fi, F2, eF, _, g⟩ := S.rel.cut hl
    have sub : ∀ a ∈ F1 ++ F2, a ∈ F := fun a m => by
      rw [eF]
      rcases List.mem_append.mp m with m | m
      · exact List.mem_append_left _ m
      · exact List.mem_append_right _ (List.mem_append_right _ m)
    have sub2 : ∀ a ∈ (F1 ++ F2) ++ Fd, a ∈ F ++ Fd := fun a m => (List.mem_append.mp m).elim (fun m => List.mem_append_left _ (sub a m)) fun m => List.mem_append_right _ m
    have ex : Ex (Fz B H (F ++ Fd)) (Fz B H ((F1 ++ F2) ++ Fd)) := fz_mk fun b o e m n => ⟨e, fun z => m (sub2 b z), n⟩
    obtain ⟨_, _, g3⟩ := g H (Fz B H ((F1 ++ F2) ++ Fd)) ex fun _ _ _ h => h
    have nd := S.nd
    rw [eF] at nd
    refine ⟨F1 ++ F2, ⟨g3 o, S.own.step ex fun _ _ _ h => h, ?_, fun a m => S.liv a (sub2 a m), fun b q => ⟨(S.bad b q).1, fun z => (S.bad b q).2 (sub2 b z)⟩⟩, sub⟩
    simp only [List.nodup_append, List.mem_append] at nd ⊢
    grind
  · have e1 : env.set i none = env := List.set_eq_of_length_le (by omega)
    have e2 : σ.set i o = σ := List.set_eq_of_length_le (by rw [← S.sta.lenE]; omega)
    rw [e1, e2]
    exact ⟨F, S, fun a m => m⟩
theorem StaL.wipe (S : StaL K B env σ H F ds vs Fd) : ∀ ws : List Nat, ∃ F', StaL K B (wipeE env ws) (L2.wipe σ ws) H F' ds vs Fd ∧ ∀ a ∈ F', a ∈ F
  | [] => ⟨F, S, fun a m => m⟩
  | w :: ws => by
    obtain ⟨F1, S1, s1⟩ := StaL.wipe S ws
    obtain ⟨F2, S2, s2⟩ := S1.setN w none
    exact ⟨F2, S2, fun a m => s1 a (s2 a m)⟩
theorem StaL.setF {d : D} {v : V} (S : StaL K B env σ H F ds vs Fd) (r : Rep K (Fz B H (F ++ Fd)) d v) (i : Nat) : ∃ F', StaL K B (env.set i (some (false, d))) (σ.set i (some v)) H F' ds vs Fd ∧ ∀ a ∈ F', a ∈ F := by
  by_cases hl : i < env.length
  · obtain ⟨F1, Fi, F2, eF, _, g⟩ := S.rel.cut hl
    have sub : ∀ a ∈ F1 ++ F2, a ∈ F := fun a m => by
      rw [eF]
      rcases List.mem_append.mp m with m | m
      · exact List.mem_append_left _ m
      · exact List.mem_append_right _ (List.mem_append_right _ m)
    have sub2 : ∀ a ∈ (F1 ++ F2) ++ Fd, a ∈ F ++ Fd := fun a m => (List.mem_append.mp m).elim (fun m => List.mem_append_left _ (sub a m)) fun m => List.mem_append_right _ m
    have ex : Ex (Fz B H (F ++ Fd)) (Fz B H ((F1 ++ F2) ++ Fd)) := fz_mk fun b o e m n => ⟨e, fun z => m (sub2 b z), n⟩
    obtain ⟨_, g2, _⟩ := g H (Fz B H ((F1 ++ F2) ++ Fd)) ex fun _ _ _ h => h
    have nd := S.nd
    rw [eF] at nd
    refine ⟨F1 ++ F2, ⟨g2 d v (r.mono ex), S.own.step ex fun _ _ _ h => h, ?_, fun a m => S.liv a (sub2 a m), fun b q => ⟨(S.bad b q).1, fun z => (S.bad b q).2 (sub2 b z)⟩⟩, sub⟩
    simp only [List.nodup_append, List.mem_append] at nd ⊢
    grind
  · have e1 : env.set i (some (false, d)) = env := List.set_eq_of_length_le (by omega)
    have e2 : σ.set i (some v) = σ := List.set_eq_of_length_le (by rw [← S.sta.lenE]; omega)
    rw [e1, e2]
    exact ⟨F, S, fun a m => m⟩
def unw (σ : St) : List Nat → St → St
  | [], s => s
  | j :: js, s => (unw σ js s).set j ((σ[j]?).getD none)
theorem wipe_get (σ : St) : ∀ (vs : List Nat) (i : Nat), (L2.wipe σ vs)[i]? = if i ∈ vs ∧ i < σ.length then some none else σ[i]?
  | [], i => by simp [L2.wipe]
  | v :: vs, i => by
    unfold L2.wipe
    rw [List.getElem?_set, wipe_length, wipe_get σ vs i]
    by_cases e : v = i
    · subst e
      by_cases hl : v < σ.length
      · simp [hl]
      · simp only [hl, and_false, if_false]
        rw [List.getElem?_eq_none (by omega)]
        simp
    · simp only [e, if_false, List.mem_cons]
      have : i ≠ v := fun z => e z.symm
      simp only [this, false_or]
theorem unw_length (σ : St) : ∀ (js : List Nat) (s : St), (unw σ js s).length = s.length
  | [], s => rfl
  | j :: js, s => by unfold unw; rw [List.length_set, unw_length σ js s]
theorem unw_get (σ s : St) (hl : s.length = σ.length) : ∀ (js : List Nat) (i : Nat), (unw σ js s)[i]? = if i ∈ js then σ[i]? else s[i]?
  | [], i => by simp [unw]
  | j :: js, i => by
    unfold unw
    rw [List.getElem?_set, unw_length, unw_get σ s hl js i]
    by_cases e : j = i
    · subst e
      by_cases h : j < s.length
      · simp only [h, if_true, List.mem_cons, true_or]
        have h' : j < σ.length := by omega
        rw [List.getElem?_eq_getElem h']
        rfl
      · simp only [h, if_true, if_false, List.mem_cons, true_or]
        rw [List.getElem?_eq_none (by omega)]
    · simp only [e, if_false, List.mem_cons]
      have : i ≠ j := fun z => e z.symm
      simp only [this, false_or]
theorem unw_wipe (σ : St) (vs : List Nat) : unw σ vs (L2.wipe σ vs) = σ := by
  refine List.ext_getElem? fun i => ?_
  rw [unw_get σ _ (wipe_length σ vs), wipe_get]
  by_cases h : i ∈ vs
  · rw [if_pos h]
  · rw [if_neg h, if_neg fun z => h z.1]
theorem wipe_eq {σ σ' : St} {vs : List Nat} (hl : σ'.length = σ.length) (h : ∀ i, i ∉ vs → σ'[i]? = (L2.wipe σ vs)[i]?) : L2.wipe σ' vs = L2.wipe σ vs := by
  refine List.ext_getElem? fun i => ?_
  rw [wipe_get]
  by_cases m : i ∈ vs
  · by_cases l : i < σ'.length
    · rw [if_pos ⟨m, l⟩, wipe_get, if_pos ⟨m, by omega⟩]
    · rw [if_neg fun z => l z.2, List.getElem?_eq_none (by omega), List.getElem?_eq_none (by rw [wipe_length]; omega)]
  · rw [if_neg fun z => m z.1, h i m]
/-- back to the def's slots -/
theorem StaL.rest {e1 e2 : Env} {σw : St} (S : StaL K B e2 σw H F ds vs Fd) (hold : ∀ (j : Nat) (d : D), e1[j]? = some (some (false, d)) → ∃ v, σ[j]? = some (some v) ∧ Rep K (Fz B H (F ++ Fd)) d v) :
    ∀ ws : List Nat, ∃ F', StaL K B (restE e1 ws e2) (unw σ ws σw) H F' ds vs Fd ∧ ∀ a ∈ F', a ∈ F
  | [] => ⟨F, S, fun a m => m⟩
  | w :: ws => by
    obtain ⟨F1, S1, s1⟩ := StaL.rest S hold ws
    have ex : Ex (Fz B H (F ++ Fd)) (Fz B H (F1 ++ Fd)) := fz_mk fun b o e m n => ⟨e, fun z => m ((List.mem_append.mp z).elim (fun z => List.mem_append_left _ (s1 b z)) fun z => List.mem_append_right _ z), n⟩
    unfold restE unw
    split
    · rename_i d e
      obtain ⟨v, hv, r⟩ := hold w d e
      rw [hv]
      obtain ⟨F2, S2, s2⟩ := S1.setF (r.mono ex) w
      exact ⟨F2, S2, fun a m => s1 a (s2 a m)⟩
    · obtain ⟨F2, S2, s2⟩ := S1.setN w ((σ[w]?).getD none)
      exact ⟨F2, S2, fun a m => s1 a (s2 a m)⟩
/-- an item put to the list in hand -/
theorem StaL.app {Dl : Addr} {acc : List V} {es : List D} {y : D} {v : V} {Fa Fy : List Addr} (S : StaL K B env σ H F [.lst es, y] [.ref Dl, v] ((Dl :: Fa) ++ Fy)) (hD : H Dl = some (.lst acc))
    (oa : OwnL K H (Fz B H (F ++ ((Dl :: Fa) ++ Fy))) es acc Fa) (oy : Own K H (Fz B H (F ++ ((Dl :: Fa) ++ Fy))) y v Fy) :
    StaL K B env σ (upd H Dl (.lst (acc ++ [v]))) F [.lst (es ++ [y])] [.ref Dl] (Dl :: (Fa ++ Fy)) := by
  have eFF : F ++ (Dl :: (Fa ++ Fy)) = F ++ ((Dl :: Fa) ++ Fy) := rfl
  have nd := S.nd
  have dn : Dl ∉ F ∧ Dl ∉ Fa ∧ Dl ∉ Fy := by
    simp only [List.nodup_append, List.nodup_cons, List.mem_append, List.mem_cons, List.cons_append] at nd
    grind
  have ex : Ex (Fz B H (F ++ ((Dl :: Fa) ++ Fy))) (Fz B (upd H Dl (.lst (acc ++ [v]))) (F ++ (Dl :: (Fa ++ Fy)))) := fz_mk fun b o e m n => by
    have nb : b ≠ Dl := fun z => m (by rw [z]; exact List.mem_append_right _ (List.mem_append_left _ List.mem_cons_self))
    exact ⟨by rw [upd_ne nb]; exact e, m, n⟩
  have kp : ∀ a, a ≠ Dl → ∀ o, H a = some o → (upd H Dl (.lst (acc ++ [v]))) a = some o := fun a n o h => by rw [upd_ne n]; exact h
  refine ⟨S.rel.step ex fun a m o h => kp a (fun z => by subst z; exact dn.1 m) o h, .one (.lst upd_same ?_), by rw [eFF]; exact S.nd, fun a m => ?_, fun b q => ⟨?_, (S.bad b q).2⟩⟩
  · exact (oa.step ex fun a m o h => kp a (fun z => by subst z; exact dn.2.1 m) o h).snoc (oy.step ex fun a m o h => kp a (fun z => by subst z; exact dn.2.2 m) o h)
  · by_cases e : a = Dl
    · subst e; rw [upd_same]; exact ⟨nofun, nofun, nofun⟩
    · rw [upd_ne e]; exact S.liv a m
  · by_cases e : b = Dl
    · subst e; rw [upd_same]; exact ⟨nofun, nofun, nofun⟩
    · rw [upd_ne e]; exact (S.bad b q).1
theorem en_lc {ws : List Nat} {tt : TT} {te : TE} {mt : M Bool} {me : M D} {q1 q2 : Bool} (hi : EvI K mg W p wi mi) (hg : EvG K js g bd) (ht : EvB K mg (fun _ _ _ _ => False) q1 tt mt) (he : EvE K mg (fun _ _ _ _ => False) q2 te me) (hj : ∀ j ∈ js, j ∈ ws) :
    EvN K mg W false (tLc wi g tt te ws) (lcM ws mi bd mt me) := fun B env σ H F Q S h => by
  refine hi B env σ H F _ S ?_
  unfold lcM at h
  cases em : mi env with
  | ex e e2 => rw [em] at h; exact h
  | no => rw [em] at h; exact h
  | ok xs e1 =>
    rw [em] at h
    dsimp only at h
    intro J H1 F1 S1 fd N1 _ Dl hDl
    by_cases hz : xs.length ≤ sizeLine
    · rw [if_pos hz] at h
      -- the start
      obtain ⟨Fw, Sw, sw⟩ := S1.nil.wipe ws
      have S0 := Sw.mkL hDl
      have N0 : Nxt H1 F1 (upd H1 Dl (.lst [])) (Fw ++ [Dl]) := ((Nxt.refl (H := H1) (F := F1)).add (o := .lst []) hDl).weak fun a m => (List.mem_append.mp m).elim (fun m => List.mem_cons_of_mem _ (sw a m)) fun m => by rw [List.mem_singleton.mp m]; exact List.mem_cons_self
      refine ⟨fun i m H2 => m = xs.length - i ∧ i ≤ xs.length ∧ ∃ F2 env2 es acc Fa, StaL K B env2 (L2.wipe σ ws) H2 F2 [.lst es] [.ref Dl] (Dl :: Fa) ∧ H2 Dl = some (.lst acc) ∧ OwnL K H2 (Fz B H2 (F2 ++ (Dl :: Fa))) es acc Fa ∧ Nxt H1 F1 H2 (F2 ++ (Dl :: Fa)) ∧ es.length ≤ i ∧
          ∃ ys e3, compM ws bd mt me (xs.drop i) env2 = .ok ys e3 ∧ compM ws bd mt me xs (wipeE e1 ws) = .ok (es ++ ys) e3, ⟨_, rfl, Nat.zero_le _, ?_⟩, ?_⟩
      · cases ec : compM ws bd mt me xs (wipeE e1 ws) with
        | ok ys e3 => exact ⟨Fw, _, [], [], [], S0, upd_same, .nil, N0, Nat.le_refl _, ys, e3, by rw [List.drop_zero]; exact ec, rfl⟩
        | ex => rw [ec] at h; exact h.elim
        | no => rw [ec] at h; exact h.elim
      · rintro i m H2 ⟨rfl, hle, F2, env2, es, acc, Fa, S2, hD2, oa, N2, hes, ys, e3, ec, ec0⟩
        obtain ⟨fy, fs⟩ := fd H2 i (nxt_exH N2)
        have exZ : Ex (Fz B H1 F1) (Fz (Hid B (Dl :: Fa)) H2 F2) := by
          have := nxt_ex (B := B) N2
          have e : Fz (Hid B (Dl :: Fa)) H2 F2 = Fz B H2 (F2 ++ (Dl :: Fa)) := fz_congr fun b => by
            show b ∈ F2 ∨ (B b ∨ b ∈ Dl :: Fa) ↔ b ∈ F2 ++ (Dl :: Fa) ∨ B b
            rw [List.mem_append, or_assoc, or_comm (a := B b)]
          rw [e]
          exact this
        by_cases hl : i < xs.length
        · refine .inr ?_
          obtain ⟨go, yl⟩ := fy xs[i] (List.getElem?_eq_getElem hl)
          rw [List.drop_eq_getElem_cons hl] at ec
          unfold compM at ec
          cases eb : bd xs[i] env2 with
          | none => rw [eb] at ec; cases ec
          | some e4 =>
            rw [eb] at ec
            dsimp only at ec
            refine ⟨go, _, fun H' n' => n', fun x H3 y => ?_⟩
            obtain ⟨S3, r3, ex3⟩ := yld_sta S2.hide exZ (yl x H3 y)
            refine hg _ env2 _ H3 F2 xs[i] x e4 _ S3 r3 eb fun σ4 F4 S4 sub4 k4 l4 => ?_
            have hw : L2.wipe σ4 ws = L2.wipe σ ws := wipe_eq (l4.trans (wipe_length σ ws)) fun j hj' => k4 j fun z => hj' (hj j z)
            refine ⟨hw, ?_⟩
            refine ht _ e4 σ4 H3 F4 _ S4 ?_
            cases et : mt e4 with
            | ex => rw [et] at ec; cases ec
            | no => rw [et] at ec; cases ec
            | ok b e5 =>
              rw [et] at ec
              intro H5 F5 S5 N5 _
              have N4 : Nxt H2 F2 H3 F4 := ⟨fun b o e _ => ex3 _ _ e, fun a m => .inl (sub4 a m)⟩
              have N25 : Nxt H2 F2 H5 F5 := N4.trans N5 fun a m => m
              have S25 : StaL K B e5 σ4 H5 F5 [.lst es] [.ref Dl] (Dl :: Fa) := by
                have := S2.cons S5.nil (by rw [List.append_nil]; exact N25)
                simpa using this
              have nd2 := List.nodup_append.mp S2.nd
              have hD5 : H5 Dl = some (.lst acc) := N25.fr _ _ hD2 fun z => nd2.2.2 Dl z Dl List.mem_cons_self rfl
              have oa5 : OwnL K H5 (Fz B H5 (F5 ++ (Dl :: Fa))) es acc Fa := by
                refine oa.step ?_ fun a m o ho => N25.fr a o ho fun z => nd2.2.2 a z a (List.mem_cons_of_mem _ m) rfl
                refine fz_mk fun b o e m n => ⟨N25.fr b o e fun z => m (List.mem_append_left _ z), fun z => ?_, n⟩
                rcases List.mem_append.mp z with z | z
                · exact (N25.sub b z).elim (fun z => m (List.mem_append_left _ z)) fun z => by rw [z] at e; cases e
                · exact m (List.mem_append_right _ z)
              have N15 : Nxt H1 F1 H5 (F5 ++ (Dl :: Fa)) := ⟨(N2.trans N25 fun a m => List.mem_append_left _ m).fr, fun a m => (List.mem_append.mp m).elim ((N2.trans N25 fun a m => List.mem_append_left _ m).sub a) fun m => N2.sub a (List.mem_append_right _ m)⟩
              cases b with
              | false =>
                rw [if_neg Bool.false_ne_true]
                dsimp only at ec
                obtain ⟨F6, S6, s6⟩ := S25.wipe ws
                rw [hw] at S6
                have exz : Ex (Fz B H5 (F5 ++ (Dl :: Fa))) (Fz B H5 (F6 ++ (Dl :: Fa))) := fz_mk fun b o e m n => ⟨e, fun z => m ((List.mem_append.mp z).elim (fun z => List.mem_append_left _ (s6 b z)) fun z => List.mem_append_right _ z), n⟩
                exact ⟨_, by omega, rfl, hl, F6, _, es, acc, Fa, S6, hD5, oa5.step exz fun _ _ _ h => h, N15.weak fun a m => (List.mem_append.mp m).elim (fun z => List.mem_append_left _ (s6 a z)) fun z => List.mem_append_right _ z, by omega, ys, e3, ec, ec0⟩
              | true =>
                rw [if_pos rfl]
                dsimp only at ec
                refine he _ e5 σ4 H5 F5 _ S5 ?_
                cases ee : me e5 with
                | ex => rw [ee] at ec; cases ec
                | no => rw [ee] at ec; cases ec
                | ok y e6 =>
                  rw [ee] at ec
                  dsimp only at ec
                  intro v H6 F6 Fy S6 N6 _
                  cases ec6 : compM ws bd mt me (xs.drop (i + 1)) (wipeE e6 ws) with
                  | ex => rw [ec6] at ec; cases ec
                  | no => rw [ec6] at ec; cases ec
                  | ok ys' e7 =>
                    rw [ec6] at ec
                    cases ec
                    have S7 := S25.cons S6 N6
                    have nd5 := List.nodup_append.mp S25.nd
                    have hD6 : H6 Dl = some (.lst acc) := N6.fr _ _ hD5 fun z => nd5.2.2 Dl z Dl List.mem_cons_self rfl
                    have exz : Ex (Fz B H5 (F5 ++ (Dl :: Fa))) (Fz B H6 (F6 ++ ((Dl :: Fa) ++ Fy))) := fz_mk fun b o e m n => by
                      have q : b ∈ F6 ++ Fy → False := fun z => (N6.sub b z).elim (fun z => m (List.mem_append_left _ z)) fun z => by rw [z] at e; cases e
                      refine ⟨N6.fr b o e fun z => m (List.mem_append_left _ z), fun z => ?_, n⟩
                      rcases List.mem_append.mp z with z | z
                      · exact q (List.mem_append_left _ z)
                      · rcases List.mem_append.mp z with z | z
                        · exact m (List.mem_append_right _ z)
                        · exact q (List.mem_append_right _ z)
                    have oa6 : OwnL K H6 (Fz B H6 (F6 ++ ((Dl :: Fa) ++ Fy))) es acc Fa := oa5.step exz fun a m o ho => N6.fr a o ho fun z => nd5.2.2 a z a (List.mem_cons_of_mem _ m) rfl
                    have oy : Own K H6 (Fz B H6 (F6 ++ ((Dl :: Fa) ++ Fy))) y v Fy := by
                      have o := S6.own
                      have e : Fz (Hid B (Dl :: Fa)) H6 (F6 ++ Fy) = Fz B H6 (F6 ++ ((Dl :: Fa) ++ Fy)) := fz_congr fun b => by
                        simp only [List.mem_append, Hid]
                        grind
                      rw [e] at o
                      obtain ⟨v', e', o⟩ := o.one_inv
                      cases e'
                      exact o
                    have S8 := S7.app hD6 oa6 oy
                    obtain ⟨F9, S9, s9⟩ := S8.wipe ws
                    rw [hw] at S9
                    refine ⟨acc, hD6, by rw [← oa6.length]; omega, _, by omega, rfl, hl, F9, _, es ++ [y], acc ++ [v], Fa ++ Fy, S9, upd_same, ?_, ?_, by rw [List.length_append, List.length_singleton]; omega, ys', e3, ec6, by rw [List.append_assoc]; exact ec0⟩
                    · obtain ⟨a, vs', G, e1', e2', e3', o⟩ := (S9.own.one_inv.elim fun v' hv' => by
                        obtain ⟨e, o⟩ := hv'
                        cases e
                        exact o : Own K _ _ (.lst (es ++ [y])) (.ref Dl) _).top (List.cons_ne_nil _ _)
                      cases e1'
                      rw [upd_same] at e2'
                      cases e2'
                      cases e3'
                      exact o
                    · have N16 : Nxt H1 F1 H6 (F6 ++ ((Dl :: Fa) ++ Fy)) := N15.cons N6
                      have N17 := N16.mut (o := .lst (acc ++ [v])) (l := Dl) (by simp) fun a m => m
                      exact N17.weak fun a m => (List.mem_append.mp m).elim (fun z => List.mem_append_left _ (s9 a z)) fun z => List.mem_append_right _ z
        · have hd : xs.drop i = [] := List.drop_eq_nil_of_le (by omega)
          rw [hd] at ec
          cases ec
          rw [List.append_nil] at ec0
          rw [ec0] at h
          dsimp only at h
          refine .inl ⟨fs (by omega), ?_⟩
          obtain ⟨F9, S9, s9⟩ := S2.rest (σ := σ) (e1 := e1) (fun j d ej => by
            obtain ⟨v, hv, r⟩ := S1.rel.fzAt ej
            exact ⟨v, hv, r.mono (nxt_ex N2)⟩) ws
          rw [unw_wipe] at S9
          refine h _ H2 F9 (Dl :: Fa) S9 (List.cons_ne_nil _ _) ?_ (fun z => nomatch z)
          exact (N1.trans N2 fun a m => m).weak fun a m => (List.mem_append.mp m).elim (fun z => List.mem_append_left _ (s9 a z)) fun z => List.mem_append_right _ z
    · rw [if_neg hz] at h
      exact h.elim
end
end MM

set_option Elab.async false
set_option linter.all false
set_option maxRecDepth 100000
set_option maxHeartbeats 4000000
noncomputable section
namespace MM
open PySem PySem.Spec PyProof.Rows L2

/-! ### defs -/
inductive RF where
  | ret (d : D) | ex (e : Exn) | no
inductive RP where
  | ret (d : D) (a : D) | ex (e : Exn) (a : D) | no
section
variable (K : PySem.W.Frag) (mg : Str → Option Value) (ro : Bool)
/-- a def that changes nothing that stood -/
def spF (f : List D → RF) : Sp := fun vs H Q E => ∃ (B : Addr → Prop) (ds : List D), (∀ b, B b → NT (H b)) ∧ RepL K (Fz B H []) ds vs ∧ match f ds with
  | .ret d => ∀ v H' Fd, StaL K B [] [] H' [] [d] [v] Fd → (ro = true → Exl d Fd) → Nxt H [] H' Fd → Q v H'
  | .ex e => ∀ cls dd H', Nxt H [] H' [] → ExnAt mg H' e cls dd → E cls dd H'
  | .no => False
/-- a def that changes its first argument -/
def spP (f : D → List D → RP) : Sp := fun vs H Q E => ∃ (B : Addr → Prop) (a : D) (ds : List D) (x : V) (xs : List V) (F0 : List Addr), vs = x :: xs ∧ Sta K B [some (true, a)] [some x] H F0 ∧ RepL K (Fz B H F0) ds xs ∧ match f a ds with
  | .ret d a' => ∀ v H' F' Fd, StaL K B [some (true, a')] [some x] H' F' [d] [v] Fd → (ro = true → Exl d Fd) → Nxt H F0 H' (F' ++ Fd) → Q v H'
  | .ex e a' => ∀ cls dd H' F', Sta K B [some (true, a')] [some x] H' F' → Nxt H F0 H' F' → ExnAt mg H' e cls dd → E cls dd H'
  | .no => False
end
def envF (n : Nat) (ds : List D) : Env := ds.map (fun d => some (false, d)) ++ List.replicate (n - ds.length) none
def envP (n : Nat) (a : D) (ds : List D) : Env := some (true, a) :: (ds.map (fun d => some (false, d)) ++ List.replicate (n - (ds.length + 1)) none)
/-- np parameters, n slots -/
def callF (np n : Nat) (m : MS) (ds : List D) : RF := if ds.length = np then match m (envF n ds) with
  | .nx _ => .ret .non
  | .rt d _ => .ret d
  | .ex e _ => .ex e
  | _ => .no
  else .no
def ownAt0 : Env → Option D
  | some (true, a) :: _ => some a
  | _ => none
def callP (np n : Nat) (m : MS) (a : D) (ds : List D) : RP := if ds.length + 1 = np then match m (envP n a ds) with
  | .nx e => match ownAt0 e with
    | some a' => .ret .non a'
    | none => .no
  | .rt d e => match ownAt0 e with
    | some a' => .ret d a'
    | none => .no
  | .ex x e => match ownAt0 e with
    | some a' => .ex x a'
    | none => .no
  | _ => .no
  else .no
section
variable {K : PySem.W.Frag} {mg : Str → Option Value} {W : WX} {ps : List Nat} {ro : Bool} {p q : Bool} {t : TS} {m : MS} {i : Nat} {tA : TA} {ms : M (List D)}
  {B : Addr → Prop} {env : Env} {σ : St} {H H0 : Hp} {F F0 Fd : List Addr} {ds : List D} {vs : List V}
theorem relE_nones {Z : Hp} : ∀ n, RelE K H Z (List.replicate n none) (List.replicate n none) []
  | 0 => .nil
  | n + 1 => .non (relE_nones n)
theorem relE_fz {Z : Hp} {env : Env} {σ : St} {F : List Addr} (r : RelE K H Z env σ F) : ∀ {ds : List D} {vs : List V}, RepL K Z ds vs → RelE K H Z (ds.map (fun d => some (false, d)) ++ env) (vs.map some ++ σ) F
  | _, _, .nil => r
  | _, _, .cons h t => .fz h (relE_fz r t)
theorem spF_len {f : MS} {np n : Nat} {vs : List V} {H : Hp} {Q : VK} {E : XK} (h : spF K mg ro (callF np n f) vs H Q E) : vs.length = np := by
  obtain ⟨B, ds, _, r, h⟩ := h
  unfold callF at h
  by_cases hl : ds.length = np
  · rw [← r.length, hl]
  · rw [if_neg hl] at h
    exact h.elim
theorem spP_len {f : MS} {np n : Nat} {vs : List V} {H : Hp} {Q : VK} {E : XK} (h : spP K mg ro (callP np n f) vs H Q E) : vs.length = np := by
  obtain ⟨B, a, ds, x, xs, F0, rfl, _, r, h⟩ := h
  unfold callP at h
  by_cases hl : ds.length + 1 = np
  · rw [List.length_cons, ← r.length, hl]
  · rw [if_neg hl] at h
    exact h.elim
theorem body_F {N : List Str} {np : Nat} {Q : VK} {E : XK} (hb : EvS K mg (fun cls d _ H => E cls d H) [] ro t m) (h : spF K mg ro (callF np N.length m) vs H Q E) : t { nx := fun _ H' => Q .non H', rt := Q } (L2.start N vs) H := by
  obtain ⟨B, ds, hB, r, h⟩ := h
  unfold callF at h
  by_cases hl : ds.length = np
  · rw [if_pos hl] at h
    have S : Sta K B (envF N.length ds) (L2.start N vs) H [] := by
      refine ⟨?_, List.nodup_nil, (fun a m => nomatch m), (fun b q => ⟨hB b q, fun m => nomatch m⟩)⟩
      unfold envF L2.start
      rw [r.length]
      exact relE_fz (relE_nones _) r
    refine hb B _ _ H [] _ S ?_
    have cut : ∀ {env' : Env} {σ' : St} {H' : Hp} {F' Fd : List Addr} {ds : List D} {vs : List V}, StaL K B env' σ' H' F' ds vs Fd → Nxt H [] H' (F' ++ Fd) → StaL K B [] [] H' [] ds vs Fd ∧ Nxt H [] H' Fd := fun {env' σ' H' F' Fd ds vs} S' N' => by
      have nd := List.nodup_append.mp S'.nd
      have ex : Ex (Fz B H' (F' ++ Fd)) (Fz B H' ([] ++ Fd)) := fz_mk fun b o e m n => ⟨e, fun z => m (List.mem_append_right _ z), n⟩
      exact ⟨⟨.nil, S'.own.step ex fun _ _ _ h => h, nd.2.1, fun a m => S'.liv a (List.mem_append_right _ m), fun b q => ⟨(S'.bad b q).1, fun z => (S'.bad b q).2 (List.mem_append_right _ z)⟩⟩, N'.weak fun a m => List.mem_append_right _ m⟩
    cases em : m (envF N.length ds) with
    | nx e =>
      rw [em] at h
      exact fun σ' H' F' S' N' _ => h .non H' [] ((cut (S'.rep (.cons .non .nil)) (by rw [List.append_nil]; exact N')).1) (fun _ => trivial) (N'.weak fun a m => nomatch m)
    | rt d e =>
      rw [em] at h
      exact fun v σ' H' F' Fd S' x N' _ => h v H' Fd (cut S' N').1 x (cut S' N').2
    | ex x e =>
      rw [em] at h
      exact fun cls dd σ' H' F' S' N' _ xx => h cls dd H' (N'.weak fun a m => nomatch m) xx
    | bk e => rw [em] at h; exact h.elim
    | ct e => rw [em] at h; exact h.elim
    | no => rw [em] at h; exact h.elim
  · rw [if_neg hl] at h
    exact h.elim
theorem ownAt0_get {e : Env} {a : D} (h : ownAt0 e = some a) : ∃ r, e = some (true, a) :: r := by
  unfold ownAt0 at h
  split at h
  · cases h; exact ⟨_, rfl⟩
  · cases h
theorem head_only {e : Env} {a : D} {x : V} {σ' : St} {vs : List V} {ds : List D} {H' : Hp} {F' Fd : List Addr} (h : ownAt0 e = some a) (S : StaL K B e σ' H' F' ds vs Fd) (k : σ'[0]? = some (some x)) :
    ∃ F1, StaL K B [some (true, a)] [some x] H' F1 ds vs Fd ∧ ∀ b ∈ F1, b ∈ F' := by
  obtain ⟨r, rfl⟩ := ownAt0_get h
  obtain ⟨rel, own, nd, liv, bad⟩ := S
  cases rel with
  | @ow d v env σ F1 G hx ho hr =>
    have e1 : v = x := by simpa using k
    subst e1
    have sub : ∀ b ∈ F1 ++ Fd, b ∈ (F1 ++ G) ++ Fd := fun b m => (List.mem_append.mp m).elim (fun m => List.mem_append_left _ (List.mem_append_left _ m)) fun m => List.mem_append_right _ m
    have ex : Ex (Fz B H' ((F1 ++ G) ++ Fd)) (Fz B H' (F1 ++ Fd)) := fz_mk fun b o e m n => ⟨e, fun z => m (sub b z), n⟩
    refine ⟨F1, ⟨?_, own.step ex fun _ _ _ h => h, ?_, fun b m => liv b (sub b m), fun b q => ⟨(bad b q).1, fun z => (bad b q).2 (sub b z)⟩⟩, fun b m => List.mem_append_left _ m⟩
    · have := RelE.ow hx (ho.step ex fun _ _ _ h => h) (RelE.nil (K := K) (H := H') (Z := Fz B H' (F1 ++ Fd)))
      rwa [List.append_nil] at this
    · simp only [List.nodup_append, List.mem_append] at nd ⊢
      grind
theorem body_P {N : List Str} {np : Nat} {Q : VK} {E : XK} (hb : EvS K mg (fun cls d _ H => E cls d H) [0] ro t m) (h : spP K mg ro (callP np N.length m) vs H Q E) : t { nx := fun _ H' => Q .non H', rt := Q } (L2.start N vs) H := by
  obtain ⟨B, a, ds, x, xs, F0, rfl, S0, r, h⟩ := h
  unfold callP at h
  by_cases hl : ds.length + 1 = np
  · rw [if_pos hl] at h
    have S : Sta K B (envP N.length a ds) (L2.start N (x :: xs)) H F0 := by
      refine ⟨?_, S0.nd, S0.liv, S0.bad⟩
      have rel := S0.rel
      unfold envP L2.start
      cases rel with
      | @ow d v env σ F1 G hx ho hr =>
        cases hr
        rw [List.append_nil] at *
        have := RelE.ow hx ho (relE_fz (relE_nones (K := K) (H := H) (Z := Fz B H F1) (N.length - (ds.length + 1))) r)
        rw [List.append_nil] at this
        rw [List.length_cons, ← r.length]
        exact this
    refine hb B _ _ H F0 _ S ?_
    have k0 : ∀ {σ' : St}, Kp [0] (L2.start N (x :: xs)) σ' → σ'[0]? = some (some x) := fun k => (k 0 (List.mem_singleton_self _)).trans rfl
    cases em : m (envP N.length a ds) with
    | nx e =>
      rw [em] at h
      intro σ' H' F' S' N' k
      dsimp only at h
      cases eo : ownAt0 e with
      | none => rw [eo] at h; exact h.elim
      | some a' =>
        rw [eo] at h
        obtain ⟨F1, S1, s1⟩ := head_only eo (S'.rep (.cons .non .nil)) (k0 k)
        exact h .non H' F1 [] S1 (fun _ => trivial) (N'.weak fun b m => by rw [List.append_nil] at m; exact s1 b m)
    | rt d e =>
      rw [em] at h
      intro v σ' H' F' Fd S' hx N' k
      dsimp only at h
      cases eo : ownAt0 e with
      | none => rw [eo] at h; exact h.elim
      | some a' =>
        rw [eo] at h
        obtain ⟨F1, S1, s1⟩ := head_only eo S' (k0 k)
        exact h v H' F1 Fd S1 hx (N'.weak fun b m => (List.mem_append.mp m).elim (fun m => List.mem_append_left _ (s1 b m)) fun m => List.mem_append_right _ m)
    | ex y e =>
      rw [em] at h
      intro cls dd σ' H' F' S' N' k xx
      dsimp only at h
      cases eo : ownAt0 e with
      | none => rw [eo] at h; exact h.elim
      | some a' =>
        rw [eo] at h
        obtain ⟨F1, S1, s1⟩ := head_only eo S'.nil (k0 k)
        exact h cls dd H' F1 S1.sta (N'.weak s1) xx
    | bk e => rw [em] at h; exact h.elim
    | ct e => rw [em] at h; exact h.elim
    | no => rw [em] at h; exact h.elim
  · rw [if_neg hl] at h
    exact h.elim
end
section
variable {P : Program} {w : World} {K : PySem.W.Frag} {mg : Str → Option Value} {base : Heap}
end
/-! ### calls -/
def clF (f : List D → RF) (ms : M (List D)) : M D := fun env => match ms env with
  | .ok ds e => match f ds with
    | .ret d => .ok d e
    | .ex x => .ex x e
    | .no => .no
  | .ex e e2 => .ex e e2
  | .no => .no
def clP (i : Nat) (f : D → List D → RP) (ms : M (List D)) : M D := fun env => match rdM i env with
  | some _ => match ms env with
    | .ok ds e => match e[i]? with
      | some (some (true, a)) => match f a ds with
        | .ret d a' => .ok d (e.set i (some (true, a')))
        | .ex x a' => .ex x (e.set i (some (true, a')))
        | .no => .no
      | _ => .no
    | .ex e e2 => .ex e e2
    | .no => .no
  | none => .no
section
variable {K : PySem.W.Frag} {mg : Str → Option Value} {W : WX} {ro : Bool} {p : Bool} {i : Nat} {tA : TA} {ms : M (List D)}
  {B : Addr → Prop} {env : Env} {σ : St} {H H0 : Hp} {F F0 Fd : List Addr} {ds : List D} {vs : List V}
theorem Sta.ext {H' : Hp} (S : Sta K B env σ H F) (e : Ex H H') : Sta K B env σ H' F := by
  have nn : ∀ a, NT (H a) → NT (H' a) := fun a h => by
    cases q : H a with
    | none => exact absurd q h.1
    | some o => rw [e _ _ q, ← q]; exact h
  exact ⟨S.rel.step (fz_mk fun b o h m n => ⟨e _ _ h, m, n⟩) fun a _ o h => e _ _ h, S.nd, fun a m => nn a (S.liv a m), fun b q => ⟨nn b (S.bad b q).1, (S.bad b q).2⟩⟩
theorem call_F {f : List D → RF} (ha : EvA K mg W p tA ms) : (EvE K mg W p (tCallS (spF K mg ro f) (WE W) tA) (clF f ms)) ∧ (ro = true → EvN K mg W p (tCallS (spF K mg ro f) (WE W) tA) (clF f ms)) := by
  have key : ∀ B env σ H F (Q : VK), Sta K B env σ H F → (match clF f ms env with
      | .ok d env' => ∀ v H' F' Fd, StaL K B env' σ H' F' [d] [v] Fd → (ro = true → Exl d Fd) → Nxt H F H' (F' ++ Fd) → PureP p env env' F F' H H' → Q v H'
      | .ex e env' => ExP K mg W B σ H F e env'
      | .no => False) → tCallS (spF K mg ro f) (WE W) tA σ H Q := fun B env σ H F Q S h => by
    refine ha B env σ H F _ S ?_
    unfold clF at h
    cases em : ms env with
    | ex e e2 => rw [em] at h; exact h
    | no => rw [em] at h; exact h
    | ok ds e =>
      rw [em] at h
      intro vs H2 F2 Fa S1 N1 P2
      obtain ⟨S2, r2⟩ := S1.freeze
      have N2 : Nxt H F H2 F2 := N1.weak fun a m => List.mem_append_left _ m
      have ez : Fz (Hid B F2) H2 [] = Fz B H2 F2 := fz_congr fun b => by
        show b ∈ [] ∨ (B b ∨ b ∈ F2) ↔ b ∈ F2 ∨ B b
        simp [or_comm]
      dsimp only at h
      refine ⟨Hid B F2, ds, fun b q => q.elim (fun q => (S2.bad b q).1) fun q => S2.liv b q, by rw [ez]; exact r2, ?_⟩
      cases ef : f ds with
      | no => rw [ef] at h; exact h.elim
      | ret d =>
        rw [ef] at h
        intro v H3 Fd S3 hx N3
        have ex3 : Ex H2 H3 := fun b o e => N3.fr b o e fun z => nomatch z
        have S4 : StaL K B e σ H3 F2 [d] [v] Fd := by
          have := S2.nil.cons (S2 := (?_ : StaL K (Hid B []) e σ H3 F2 [d] [v] Fd)) (N := ⟨fun b o h _ => ex3 _ _ h, fun a m => (List.mem_append.mp m).elim .inl fun m => (N3.sub a m).elim (fun z => nomatch z) .inr⟩)
          · simpa using this
          · have eb : Fz (Hid B []) H3 (F2 ++ Fd) = Fz (Hid B F2) H3 ([] ++ Fd) := fz_congr fun b => by
              simp only [List.mem_append, Hid, List.nil_append]
              grind
            refine ⟨?_, by rw [eb]; exact S3.own, ?_, fun a m => ?_, fun b q => ?_⟩
            · rw [eb]
              refine S2.rel.step ?_ fun a _ o h => ex3 _ _ h
              rw [← ez]
              exact fz_mk fun b o h m n => ⟨ex3 _ _ h, fun z => (N3.sub b (by simpa using z)).elim (fun z => nomatch z) fun z => by (rw [z] at h; cases h), n⟩
            · refine List.nodup_append.mpr ⟨S2.nd, by simpa using S3.nd, fun a m b q z => ?_⟩
              subst z
              exact (S3.bad a (.inr m)).2 (by simpa using q)
            · rcases List.mem_append.mp m with m | m
              · exact (S3.bad a (.inr m)).1
              · exact S3.liv a (by simpa using m)
            · rcases q with q | q
              · refine ⟨(S3.bad b (.inl q)).1, fun z => ?_⟩
                rcases List.mem_append.mp z with z | z
                · exact (S2.bad b q).2 z
                · exact (S3.bad b (.inl q)).2 (by simpa using z)
              · exact nomatch q
        refine h v H3 F2 Fd S4 hx ⟨fun b o h m => ex3 _ _ (N2.fr b o h m), fun a m => ?_⟩ fun hp => ?_
        · rcases List.mem_append.mp m with m | m
          · exact N2.sub a m
          · exact N2.none_of ((N3.sub a m).elim (fun z => nomatch z) id)
        · obtain ⟨a1, a2, a3⟩ := P2 hp
          exact ⟨a1, a2, a3.trans ex3⟩
      | ex x =>
        rw [ef] at h
        intro cls dd H3 N3 xx
        have ex3 : Ex H2 H3 := fun b o e => N3.fr b o e fun z => nomatch z
        have S3 : Sta K B e σ H3 F2 := S2.ext ex3
        exact h cls dd H3 F2 S3 ⟨fun b o h m => ex3 _ _ (N2.fr b o h m), N2.sub⟩ xx
  refine ⟨fun B env σ H F Q S h => key B env σ H F Q S ?_, fun hro B env σ H F Q S h => key B env σ H F Q S ?_⟩
  · cases em : clF f ms env with
    | ok d e => rw [em] at h; exact fun v H' F' Fd s _ n pp => h v H' F' Fd s n pp
    | ex e e2 => rw [em] at h; exact h
    | no => rw [em] at h; exact h
  · cases em : clF f ms env with
    | ok d e => rw [em] at h; exact fun v H' F' Fd s x n pp => h v H' F' Fd s (x hro) n pp
    | ex e e2 => rw [em] at h; exact h
    | no => rw [em] at h; exact h
theorem call_P {f : D → List D → RP} (ha : EvA K mg W p tA ms) : (EvE K mg W false (tCallS (spP K mg ro f) (WE W) (tCons (tVar i) tA)) (clP i f ms)) ∧ (ro = true → EvN K mg W false (tCallS (spP K mg ro f) (WE W) (tCons (tVar i) tA)) (clP i f ms)) := by
  have key : ∀ B env σ H F (Q : VK), Sta K B env σ H F → (match clP i f ms env with
      | .ok d env' => ∀ v H' F' Fd, StaL K B env' σ H' F' [d] [v] Fd → (ro = true → Exl d Fd) → Nxt H F H' (F' ++ Fd) → Q v H'
      | .ex e env' => ExP K mg W B σ H F e env'
      | .no => False) → tCallS (spP K mg ro f) (WE W) (tCons (tVar i) tA) σ H Q := fun B env σ H F Q S h => by
    unfold clP at h
    cases e0 : rdM i env with
    | none => rw [e0] at h; exact h.elim
    | some d0 =>
      rw [e0] at h
      dsimp only at h
      have hv : ∃ v, σ[i]? = some (some v) := by
        unfold rdM at e0
        split at e0
        · rename_i k d' e3
          obtain ⟨v, G, hv, _, _⟩ := S.rel.anyAt e3
          exact ⟨v, hv⟩
        · cases e0
      obtain ⟨v, hv⟩ := hv
      refine ⟨v, hv, ha B env σ H F _ S ?_⟩
      cases em : ms env with
      | ex e e2 => rw [em] at h; exact h
      | no => rw [em] at h; exact h
      | ok ds e =>
        rw [em] at h
        intro vs H2 F2 Fa S1 N1 _
        obtain ⟨S2, r2⟩ := S1.freeze
        have N2 : Nxt H F H2 F2 := N1.weak fun a m => List.mem_append_left _ m
        dsimp only at h
        cases ei : e[i]? with
        | none => rw [ei] at h; exact h.elim
        | some sl =>
          rw [ei] at h
          cases sl with
          | none => exact h.elim
          | some kd =>
            obtain ⟨k, a⟩ := kd
            cases k with
            | false => exact h.elim
            | true =>
              dsimp only at h
              obtain ⟨hl, _⟩ := List.getElem?_eq_some_iff.mp ei
              obtain ⟨F1, Fi, Fr, eF, sl, g⟩ := S2.rel.cut hl
              obtain ⟨v2, hv2, x0, o0⟩ := sl _ ei
              rw [hv] at hv2
              cases hv2
              have nd := S2.nd
              rw [eF] at nd
              have mem : ∀ b, b ∈ F2 ↔ (b ∈ F1 ∨ b ∈ Fi ∨ b ∈ Fr) := fun b => by rw [eF]; simp only [List.mem_append]
              have dis : Fi.Nodup ∧ (∀ b ∈ Fi, b ∉ F1 ∧ b ∉ Fr) ∧ F1.Nodup ∧ Fr.Nodup ∧ (∀ b ∈ F1, b ∉ Fr) := by
                simp only [List.nodup_append, List.mem_append] at nd
                grind
              have ez : Fz (Hid B (F1 ++ Fr)) H2 Fi = Fz B H2 F2 := fz_congr fun b => by
                simp only [mem, Hid, List.mem_append]
                grind
              have S3 : Sta K (Hid B (F1 ++ Fr)) [some (true, a)] [some v] H2 Fi := by
                refine ⟨?_, dis.1, fun b m => S2.liv b ((mem b).mpr (.inr (.inl m))), fun b q => ?_⟩
                · have := RelE.ow x0 o0 (RelE.nil (K := K) (H := H2) (Z := Fz B H2 F2))
                  rw [List.append_nil] at this
                  rw [ez]
                  exact this
                · rcases q with q | q
                  · exact ⟨(S2.bad b q).1, fun m => (S2.bad b q).2 ((mem b).mpr (.inr (.inl m)))⟩
                  · rcases List.mem_append.mp q with q | q
                    · exact ⟨S2.liv b ((mem b).mpr (.inl q)), fun m => (dis.2.1 b m).1 q⟩
                    · exact ⟨S2.liv b ((mem b).mpr (.inr (.inr q))), fun m => (dis.2.1 b m).2 q⟩
              -- behind the call
              have back : ∀ {H3 : Hp} {F3 Fd : List Addr} {a' : D} {ds : List D} {vs : List V}, StaL K (Hid B (F1 ++ Fr)) [some (true, a')] [some v] H3 F3 ds vs Fd → Nxt H2 Fi H3 (F3 ++ Fd) →
                  StaL K B (e.set i (some (true, a'))) σ H3 (F1 ++ (F3 ++ Fr)) ds vs Fd ∧ Nxt H F H3 ((F1 ++ (F3 ++ Fr)) ++ Fd) := fun {H3 F3 Fd a' ds vs} S4 N4 => by
                have ez3 : Fz (Hid B (F1 ++ Fr)) H3 (F3 ++ Fd) = Fz B H3 ((F1 ++ (F3 ++ Fr)) ++ Fd) := fz_congr fun b => by
                  simp only [Hid, List.mem_append]
                  grind
                have keep : ∀ b, b ∈ F1 ∨ b ∈ Fr → ∀ o, H2 b = some o → H3 b = some o := fun b m o ho => N4.fr b o ho fun z => m.elim (dis.2.1 b z).1 (dis.2.1 b z).2
                have ex : Ex (Fz B H2 F2) (Fz B H3 ((F1 ++ (F3 ++ Fr)) ++ Fd)) := by
                  rw [← ez, ← ez3]
                  exact nxt_ex N4
                obtain ⟨g1, _, _⟩ := g H3 _ ex keep
                have rel := S4.rel
                have bad := S4.bad
                have nd4 := S4.nd
                cases rel with
                | @ow d' v' env' σ' F5 G5 hx ho hr =>
                  cases hr
                  rw [List.append_nil] at *
                  have r1 := g1 a' v F5 hx (by rw [← ez3]; exact ho)
                  rw [set_same hv] at r1
                  have nb : ∀ b, b ∈ F1 ∨ b ∈ Fr → b ∉ F5 ++ Fd := fun b m => (bad b (.inr (List.mem_append.mpr m))).2
                  refine ⟨⟨r1, by rw [← ez3]; exact S4.own, ?_, fun b m => ?_, fun b q => ⟨(bad b (.inl q)).1, fun m => ?_⟩⟩, ⟨fun b o ho m => ?_, fun b m => ?_⟩⟩
                  · simp only [List.nodup_append, List.mem_append] at nd4 nb ⊢
                    grind
                  · simp only [List.mem_append] at m
                    rcases m with (m | m | m) | m
                    · exact (bad b (.inr (List.mem_append_left _ m))).1
                    · exact S4.liv b (List.mem_append_left _ m)
                    · exact (bad b (.inr (List.mem_append_right _ m))).1
                    · exact S4.liv b (List.mem_append_right _ m)
                  · simp only [List.mem_append] at m
                    rcases m with (m | m | m) | m
                    · exact (S2.bad b q).2 ((mem b).mpr (.inl m))
                    · exact (bad b (.inl q)).2 (List.mem_append_left _ m)
                    · exact (S2.bad b q).2 ((mem b).mpr (.inr (.inr m)))
                    · exact (bad b (.inl q)).2 (List.mem_append_right _ m)
                  · have h2 := N2.fr b o ho m
                    by_cases mi : b ∈ Fi
                    · exact absurd ((N2.sub b ((mem b).mpr (.inr (.inl mi)))).elim (fun z => m z) fun z => by rw [z] at ho; cases ho) id
                    · exact N4.fr b o h2 mi
                  · simp only [List.mem_append] at m
                    have up : b ∈ F5 ++ Fd → b ∈ F ∨ H b = none := fun m => (N4.sub b m).elim (fun z => N2.sub b ((mem b).mpr (.inr (.inl z)))) N2.none_of
                    rcases m with (m | m | m) | m
                    · exact N2.sub b ((mem b).mpr (.inl m))
                    · exact up (List.mem_append_left _ m)
                    · exact N2.sub b ((mem b).mpr (.inr (.inr m)))
                    · exact up (List.mem_append_right _ m)
              refine ⟨_, a, ds, v, vs, Fi, rfl, S3, by rw [ez]; exact r2, ?_⟩
              cases ef : f a ds with
              | no => rw [ef] at h; exact h.elim
              | ret d a' =>
                rw [ef] at h
                intro v' H3 F3 Fd S4 hx N4
                obtain ⟨S5, N5⟩ := back S4 N4
                exact h v' H3 _ Fd S5 hx N5
              | ex x a' =>
                rw [ef] at h
                intro cls dd H3 F3 S4 N4 xx
                obtain ⟨S5, N5⟩ := back S4.nil (by rw [List.append_nil]; exact N4)
                rw [List.append_nil] at N5
                exact h cls dd H3 _ S5.sta N5 xx
  refine ⟨fun B env σ H F Q S h => key B env σ H F Q S ?_, fun hro B env σ H F Q S h => key B env σ H F Q S ?_⟩
  · cases em : clP i f ms env with
    | ok d e => rw [em] at h; exact fun v H' F' Fd s _ n => h v H' F' Fd s n fun z => nomatch z
    | ex e e2 => rw [em] at h; exact h
    | no => rw [em] at h; exact h
  · cases em : clP i f ms env with
    | ok d e => rw [em] at h; exact fun v H' F' Fd s x n => h v H' F' Fd s (x hro) n fun z => nomatch z
    | ex e e2 => rw [em] at h; exact h
    | no => rw [em] at h; exact h
theorem ev_callP {f : D → List D → RP} (ha : EvA K mg W p tA ms) : EvE K mg W false (tCallS (spP K mg ro f) (WE W) (tCons (tVar i) tA)) (clP i f ms) := (call_P ha).1
theorem en_callP {f : D → List D → RP} (ha : EvA K mg W p tA ms) : EvN K mg W false (tCallS (spP K mg true f) (WE W) (tCons (tVar i) tA)) (clP i f ms) := (call_P ha).2 rfl
theorem en_callF {f : List D → RF} (ha : EvA K mg W p tA ms) : EvN K mg W p (tCallS (spF K mg true f) (WE W) tA) (clF f ms) := (call_F ha).2 rfl
end
end MM

set_option Elab.async false
set_option linter.all false
set_option maxRecDepth 100000
set_option maxHeartbeats 4000000
noncomputable section
namespace MM
open PySem PySem.Spec PyProof.Rows L2

/-- a, b = e and the like -/
def asgG (bd : D → Env → Option Env) (m : M D) : MS := fun env => match m env with
  | .ok d e => match bd d e with
    | some e2 => .nx e2
    | none => .no
  | .ex e e2 => .ex e e2
  | .no => .no
/-- the slot's own value handed on -/
def mvM (i : Nat) : M D := fun env => match env[i]? with
  | some (some (true, d)) => .ok d (env.set i none)
  | _ => .no
def ixT (mt : Env → Option D) (mk : M D) (env : Env) : Option D := match mt env with
  | some d => match mk env with
    | .ok k _ => ixF [d, k]
    | _ => none
  | none => none
/-- x[k] = v: a list, a dict -/
def setF (d k v : D) : Option D := match d with
  | .lst ds => match k with
    | .int j => match ixN ds.length j with
      | some n => some (.lst (ds.set n v))
      | none => none
    | _ => none
  | .dK kvs => match keyD k with
    | some k' => haveI : Decidable (kvs.length < sizeLine) := Classical.propDecidable _; if kvs.length < sizeLine then some (.dK (putG kvs k' v)) else none
    | none => none
  | .dT kvs => match k with
    | .tup ks => match keysD ks with
      | some k' => haveI : Decidable (kvs.length < sizeLine) := Classical.propDecidable _; if kvs.length < sizeLine then some (.dT (putG kvs k' v)) else none
      | none => none
    | _ => none
  | _ => none
def setM (i : Nat) (mv mk : M D) : MS := fun env => match mv env with
  | .ok v e1 => match rdM i e1 with
    | some _ => match mk e1 with
      | .ok k e2 => match e2[i]? with
        | some (some (true, d)) => match setF d k v with
          | some d' => .nx (e2.set i (some (true, d')))
          | none => .no
        | _ => .no
      | .ex e e2 => .ex e e2
      | .no => .no
    | none => .no
  | .ex e e2 => .ex e e2
  | .no => .no
section
variable {K : PySem.W.Frag} {mg : Str → Option Value} {W : WX} {ps : List Nat} {ro : Bool} {p q : Bool} {te t1 t2 tk : TE} {m mk : M D} {i : Nat} {tA : TA} {ms : M (List D)} {g : TG} {js : List Nat} {bd : D → Env → Option Env} {mt : Env → Option D}
  {B : Addr → Prop} {env : Env} {σ : St} {H H0 : Hp} {F F0 Fd : List Addr} {ds : List D} {vs : List V}

theorem en_mv : EvN K mg W false (tVar i) (mvM i) := fun B env σ H F Q S h => by
  unfold mvM at h
  split at h
  · rename_i d env' e1
    split at e1
    · rename_i d' e2
      cases e1
      obtain ⟨hl, _⟩ := List.getElem?_eq_some_iff.mp e2
      obtain ⟨F1, Fi, F2, eF, sl, g⟩ := S.rel.cut hl
      obtain ⟨v, hv, hx, o⟩ := sl d e2
      refine ⟨v, hv, ?_⟩
      have sub : ∀ b, b ∈ (F1 ++ F2) ++ Fi ↔ b ∈ F := fun b => by rw [eF]; simp only [List.mem_append]; grind
      have ez : Fz B H ((F1 ++ F2) ++ Fi) = Fz B H F := fz_congr fun b => by rw [sub b]
      obtain ⟨_, _, g3⟩ := g H (Fz B H F) (fun _ _ h => h) fun _ _ _ h => h
      have r3 := g3 (some v)
      rw [set_same hv] at r3
      have nd := S.nd
      rw [eF] at nd
      refine h v H (F1 ++ F2) Fi ⟨by rw [ez]; exact r3, by rw [ez]; exact .one o, ?_, fun b m => S.liv b ((sub b).mp m), fun b q => ⟨(S.bad b q).1, fun z => (S.bad b q).2 ((sub b).mp z)⟩⟩ hx ⟨fun b o h _ => h, fun b m => .inl ((sub b).mp m)⟩ fun z => nomatch z
      simp only [List.nodup_append, List.mem_append] at nd ⊢
      grind
    · cases e1
  · rename_i e1
    split at e1 <;> cases e1
  · exact h.elim
/-- a dict of one's own, or a frozen one, asked -/
theorem Own.dict {Z H : Hp} {F : List Addr} (ez : Ex Z H) {d k : D} {x y : V} {r : Option D} (o : Own K H Z d x F) (ry : Rep K Z k y) (e : getD2 d k = some r) :
    ∃ a o, x = .ref a ∧ DGet H a y o ∧ ((r = none ∧ o = none) ∨ ∃ d v, r = some d ∧ o = some v ∧ Rep K Z d v) := by
  cases o with
  | frz rx =>
    obtain ⟨a, o, e1, g, h⟩ := getD2_get rx ry e
    exact ⟨a, o, e1, dget_mono ez g, h⟩
  | lst _ _ => simp [getD2] at e
  | tup _ _ => simp [getD2] at e
  | deep _ => simp [getD2] at e
  | dK h rk =>
    unfold getD2 at e
    dsimp only at e
    split at e
    · rename_i k2 ek
      cases e
      rw [keyD_rep ry ek]
      refine ⟨_, _, rfl, .inl ⟨_, _, .inl h, rfl, rfl⟩, ?_⟩
      rcases rk.val (k := k2) with ⟨e1, e2⟩ | ⟨d, v, e1, e2, r⟩
      · exact .inl ⟨e1, e2⟩
      · exact .inr ⟨d, v, e1, e2, r⟩
    · cases e
  | dT h rk =>
    unfold getD2 at e
    dsimp only at e
    split at e
    · rename_i ks
      split at e
      · rename_i k2 ek
        cases e
        cases ry with
        | tup hb rb =>
          rw [keysD_rep rb ek] at hb
          refine ⟨_, _, rfl, .inr ⟨_, _, _, .inl h, rfl, ez _ _ hb, rfl⟩, ?_⟩
          rcases rk.val (k := k2) with ⟨e1, e2⟩ | ⟨d, v, e1, e2, r⟩
          · exact .inl ⟨e1, e2⟩
          · exact .inr ⟨d, v, e1, e2, r⟩
      · cases e
    · cases e
theorem Own.itemsT {Z H : Hp} {ds : List D} {v : V} {F : List Addr} (ez : Ex Z H) (o : Own K H Z (.tup ds) v F) : ∃ a vs G, v = .ref a ∧ H a = some (.tup vs) ∧ OwnL K H Z ds vs G ∧ ∀ b ∈ G, b ∈ F := by
  cases o with
  | frz r =>
    cases r with
    | tup h r => exact ⟨_, _, [], rfl, ez _ _ h, .of_rep r, fun b m => nomatch m⟩
  | tup h r => exact ⟨_, _, _, rfl, ez _ _ h, r, fun b m => m⟩
theorem atI_ownL {Z H : Hp} {ds : List D} {vs : List V} {F : List Addr} {i : Int} {d : D} (r : OwnL K H Z ds vs F) (e : atI ds i = some d) : ∃ v G, atI vs i = some v ∧ Own K H Z d v G ∧ ∀ a ∈ G, a ∈ F := by
  unfold atI at e ⊢
  rw [← r.length]
  cases ej : ixN ds.length i with
  | none => rw [ej] at e; cases e
  | some j =>
    rw [ej] at e
    exact r.get (i := j) e
/-- an item, by its place or key -/
theorem Own.ix {Z H : Hp} {F : List Addr} (ez : Ex Z H) {d k r : D} {x y : V} (o : Own K H Z d x F) (ry : Rep K Z k y) (e : ixF [d, k] = some r) : ∃ v G, Own K H Z r v G ∧ (∀ a ∈ G, a ∈ F) ∧ ∀ Q : VK, Q v H → rIxAny K x y H Q := by
  unfold ixF at e
  split at e
  · rename_i eq
    cases eq
    cases ry
    obtain ⟨a, vs, G, rfl, h, r, sl⟩ := o.items ez
    obtain ⟨v, G', ev, o', s⟩ := atI_ownL r e
    exact ⟨v, G', o', fun b m => sl.subset (s b m), fun Q q => .inl (.inl ⟨_, _, _, v, rfl, rfl, .of h, ev, q⟩)⟩
  · rename_i eq
    cases eq
    cases ry
    obtain ⟨a, vs, G, rfl, h, r, sl⟩ := o.itemsT ez
    obtain ⟨v, G', ev, o', s⟩ := atI_ownL r e
    exact ⟨v, G', o', fun b m => sl b (s b m), fun Q q => .inl (.inr (.inl ⟨_, _, _, v, rfl, rfl, .of h, ev, q⟩))⟩
  · rename_i eq
    cases eq
    cases ry
    have rx := o.imm rfl
    cases rx with
    | tz h _ r =>
      obtain ⟨v, ev, rv⟩ := atI_repL r e
      exact ⟨v, [], .frz rv, (fun a m => nomatch m), fun Q q => .inl (.inr (.inl ⟨_, _, _, v, rfl, rfl, .inl (.inr ⟨_, ez _ _ h⟩), ev, q⟩))⟩
  · rename_i ns i eq
    cases eq
    cases ry
    have rx := o.imm rfl
    cases rx with
    | scr h =>
      cases en : atI ns i with
      | none => rw [en] at e; cases e
      | some n =>
        rw [en] at e
        cases e
        refine ⟨.int n, [], .frz (.int n), (fun a m => nomatch m), fun Q q => .inl (.inl ⟨_, _, i, .int n, rfl, rfl, sql_mono ez h, ?_, q⟩)⟩
        unfold atI at en ⊢
        rw [List.length_map]
        cases ej : ixN ns.length i with
        | none => rw [ej] at en; cases en
        | some j =>
          rw [ej] at en
          have en' : ns[j]? = some n := en
          show (ns.map V.int)[j]? = _
          rw [List.getElem?_map, en']
          rfl
  · rename_i z i eq
    cases eq
    cases ry
    have rx := o.imm rfl
    cases rx
    split at e
    · rename_i hz
      cases ec : atI z.cps.toList i with
      | none => rw [ec] at e; cases e
      | some c =>
        rw [ec] at e
        cases e
        exact ⟨_, [], .frz (.str _), (fun a m => nomatch m), fun Q q => .inl (.inr (.inr ⟨z, i, c, rfl, rfl, hz, ec, q⟩))⟩
    · cases e
  · rename_i d1 k1 _ _ _ _ _ eq
    cases eq
    cases eg : getD2 d k with
    | none => rw [eg] at e; cases e
    | some r' =>
      rw [eg] at e
      dsimp only at e
      subst e
      obtain ⟨a, o', rfl, g, h⟩ := o.dict ez ry eg
      rcases h with ⟨h, _⟩ | ⟨d', v, e1, e2, rv⟩
      · cases h
      · cases e1
        subst e2
        exact ⟨v, [], .frz rv, (fun a m => nomatch m), fun Q q => .inr ⟨a, v, rfl, g, q⟩⟩
  · cases e
/-- a place within a place -/
theorem evt_ix (h1 : EvT K t1 mt) (h2 : EvE K mg W true t2 mk) : EvT K (tOp (rIxAny K) t1 t2) (ixT mt mk) := fun B env σ H F Q d S e h => by
  unfold ixT at e
  split at e
  · rename_i d0 e0
    split at e
    · rename_i k e1 ek
      refine h1 B env σ H F _ d0 S e0 fun x H1 Fs ex1 S1 o sb => ?_
      refine h2 B env σ H1 F _ S1 ?_
      rw [ek]
      intro y H2 F2 Fd S2 N2 P2
      obtain ⟨a1, a2, a3⟩ := P2 rfl
      subst a1 a2
      obtain ⟨S3, r3⟩ := S2.freeze
      obtain ⟨y', e', r3⟩ := r3.one_inv
      cases e'
      have o2 : Own K H2 (Fz B H2 F2) d0 x Fs := o.step (fz_mk fun b o e m n => ⟨a3 _ _ e, m, n⟩) fun a _ o h => a3 _ _ h
      obtain ⟨v, G, og, sg, go⟩ := o2.ix (fz_ex _ _ _) r3 e
      exact go Q (h v H2 G (ex1.trans a3) S3 og fun a m => sb a (sg a m))
    · cases e
  · cases e
theorem OwnL.setF {Z H : Hp} {d : D} {v : V} (r : Rep K Z d v) : ∀ {ds : List D} {vs : List V} {F : List Addr} (n : Nat), OwnL K H Z ds vs F → ∃ F', OwnL K H Z (ds.set n d) (vs.set n v) F' ∧ F'.Sublist F
  | _, _, _, n, .nil => ⟨[], .nil, List.Sublist.refl _⟩
  | _, _, _, 0, .cons (F := Fa) (G := Ga) h t => ⟨Ga, .cons (F := []) (.frz r) t, List.sublist_append_right _ _⟩
  | _, _, _, n + 1, .cons (F := Fa) (G := Ga) h t => by
    obtain ⟨F', o, s⟩ := OwnL.setF r n t
    exact ⟨Fa ++ F', .cons h o, s.append_left Fa⟩
/-- a mutable dict in a slot -/
theorem Sta.mutC (S : Sta K B env σ H F) {d : D} {l : Addr} (hi : env[i]? = some (some (true, d))) (hv : σ[i]? = some (some (.ref l))) (hd : ∀ Fi, Exl d Fi → Own K H (Fz B H F) d (.ref l) Fi → Fi = [l]) :
    l ∈ F ∧ ∀ d' o', ((∀ ys, o' ≠ HO.tup ys) ∧ ∀ fs, o' ≠ HO.xd fs) → Exl d' [l] → (∀ H' Z', H' l = some o' → Ex (Fz B H F) Z' → Own K H' Z' d' (.ref l) [l]) → Sta K B (env.set i (some (true, d'))) σ (upd H l o') F := by
  obtain ⟨hl, _⟩ := List.getElem?_eq_some_iff.mp hi
  obtain ⟨F1, Fi, F2, eF, sl, g⟩ := S.rel.cut hl
  obtain ⟨v0, hv0, x0, o0⟩ := sl _ hi
  rw [hv] at hv0
  cases hv0
  have e1 := hd Fi x0 o0
  subst e1
  have lF : l ∈ F := by rw [eF]; simp
  have nd := S.nd
  rw [eF] at nd
  have nl : l ∉ F1 ∧ l ∉ F2 := by
    simp only [List.nodup_append, List.mem_append] at nd
    grind
  refine ⟨lF, fun d' o' nt hx go => ?_⟩
  have ex : Ex (Fz B H F) (Fz B (upd H l o') F) := fz_mk fun b o e m n => by
    have nb : b ≠ l := fun z => m (by rw [z]; exact lF)
    exact ⟨by rw [upd_ne nb]; exact e, m, n⟩
  obtain ⟨g1, _, _⟩ := g (upd H l o') _ ex fun a m o h => by
    have na : a ≠ l := fun z => by subst z; exact m.elim nl.1 nl.2
    rw [upd_ne na]
    exact h
  have r1 := g1 d' (.ref l) [l] hx (go _ _ upd_same ex)
  rw [set_same hv, ← eF] at r1
  refine ⟨r1, S.nd, fun a m => ?_, fun b q => ⟨?_, (S.bad b q).2⟩⟩
  · by_cases e : a = l
    · subst e; rw [upd_same]; exact ⟨nofun, fun ys z => nt.1 ys (Option.some.inj z), fun fs z => nt.2 fs (Option.some.inj z)⟩
    · rw [upd_ne e]; exact S.liv a m
  · by_cases e : b = l
    · subst e; rw [upd_same]; exact ⟨nofun, fun ys z => nt.1 ys (Option.some.inj z), fun fs z => nt.2 fs (Option.some.inj z)⟩
    · rw [upd_ne e]; exact (S.bad b q).1
/-- x[k] = v, on values -/
theorem set_go {Q : Hp → Prop} (S : Sta K B env σ H F) {d d' k0 v0 : D} {k v o : V} (hi : env[i]? = some (some (true, d))) (ho : σ[i]? = some (some o)) (rk : Rep K (Fz B H F) k0 k) (rv : Rep K (Fz B H F) v0 v) (es : setF d k0 v0 = some d')
    (go : ∀ l o' F', o = .ref l → l ∈ F → Sta K B (env.set i (some (true, d'))) σ (upd H l o') F' → (∀ a ∈ F', a ∈ F) → Q (upd H l o')) : rSetAny o k v H Q := by
  obtain ⟨v1, G, hv1, o1, _⟩ := S.rel.anyAt hi
  rw [ho] at hv1
  cases hv1
  cases d with
  | lst ds =>
    cases k0 with
    | int j =>
      simp only [setF] at es
      cases rk
      cases en : ixN ds.length j with
      | none => rw [en] at es; cases es
      | some n =>
        rw [en] at es
        cases es
        have e0 : F ++ [] = F := List.append_nil _
        obtain ⟨l, vs, Fc, hv2, hH2, oc, ndc, nl, lF2, gg⟩ := (S.rep (.cons rv .nil)).mutL hi
        rw [ho] at hv2
        cases hv2
        obtain ⟨F', o2, sl⟩ := oc.setF (v := v) (by rw [e0]; exact rv) n
        obtain ⟨F3, S3, s3⟩ := gg _ _ .non .non F' [] o2 (.frz .non) (by rw [List.append_nil] at ndc ⊢; exact ndc.sublist sl) fun a m => by rw [List.append_nil] at m; exact List.mem_append_left _ (sl.subset m)
        exact .inl ⟨l, vs, j, n, rfl, rfl, hH2, by rw [← oc.length]; exact en, go l _ F3 rfl lF2 S3.sta fun a m => by
          have := s3 a (List.mem_append_left _ m)
          rwa [e0] at this⟩
    | _ => simp [setF] at es
  | dK kvs =>
    simp only [setF] at es
    cases ek : keyD k0 with
    | none => rw [ek] at es; cases es
    | some k' =>
      rw [ek] at es
      dsimp only at es
      by_cases hz : kvs.length < sizeLine
      · rw [if_pos hz] at es
        cases es
        obtain ⟨hl, _⟩ := List.getElem?_eq_some_iff.mp hi
        obtain ⟨F1, Fi, F2, eF, sl, g⟩ := S.rel.cut hl
        obtain ⟨v2, hv2, x2, o2⟩ := sl _ hi
        rw [ho] at hv2
        cases hv2
        obtain ⟨l, kws, rfl, hH, _, rr⟩ := o2.topK x2
        obtain ⟨lF, gg⟩ := S.mutC hi ho fun Fi x o => by
          obtain ⟨l', kws', e1, _, e2, _⟩ := o.topK x
          cases e1
          exact e2
        rw [keyD_rep rk ek]
        exact .inr ⟨l, _, rfl, .inl ⟨kws, k', hH, rfl, by rw [← rr.length]; exact hz, rfl⟩, go l _ F rfl lF (gg _ _ ⟨nofun, nofun⟩ (List.cons_ne_nil _ _) fun H' Z' h e => .dK h ((rr.put rv).mono e)) fun a m => m⟩
      · rw [if_neg hz] at es; cases es
  | dT kvs =>
    cases k0 with
    | tup ks =>
      simp only [setF] at es
      cases ek : keysD ks with
      | none => rw [ek] at es; cases es
      | some k' =>
        rw [ek] at es
        dsimp only at es
        by_cases hz : kvs.length < sizeLine
        · rw [if_pos hz] at es
          cases es
          obtain ⟨hl, _⟩ := List.getElem?_eq_some_iff.mp hi
          obtain ⟨F1, Fi, F2, eF, sl, g⟩ := S.rel.cut hl
          obtain ⟨v2, hv2, x2, o2⟩ := sl _ hi
          rw [ho] at hv2
          cases hv2
          obtain ⟨l, kws, rfl, hH, _, rr⟩ := o2.topT x2
          obtain ⟨lF, gg⟩ := S.mutC hi ho fun Fi x o => by
            obtain ⟨l', kws', e1, _, e2, _⟩ := o.topT x
            cases e1
            exact e2
          cases rk with
          | tup hb rb =>
            rw [keysD_rep rb ek] at hb
            exact .inr ⟨l, _, rfl, .inr ⟨kws, k', _, hH, rfl, fz_ex _ _ _ _ _ hb, by rw [← rr.length]; exact hz, rfl⟩, go l _ F rfl lF (gg _ _ ⟨nofun, nofun⟩ (List.cons_ne_nil _ _) fun H' Z' h e => .dT h ((rr.put rv).mono e)) fun a m => m⟩
        · rw [if_neg hz] at es; cases es
    | _ => simp [setF] at es
  | _ => simp [setF] at es
/-- x[k] = v -/
theorem es_set (h1 : EvE K mg W p te m) (h2 : EvE K mg W q tk mk) : EvS K mg W ps ro (tAsg te (gSub (tVar i) tk rSetAny)) (setM i m mk) := fun B env σ H F D S h => by
  refine h1 B env σ H F _ S ?_
  unfold setM at h
  cases em : m env with
  | ex e e2 => rw [em] at h; exact .xs h
  | no => rw [em] at h; exact h
  | ok v0 e1 =>
    rw [em] at h
    dsimp only at h
    intro v H1 F1 Fd S1 N1 _
    cases e0 : rdM i e1 with
    | none => rw [e0] at h; exact h.elim
    | some d0 =>
      rw [e0] at h
      dsimp only at h
      have hv : ∃ o, σ[i]? = some (some o) := by
        unfold rdM at e0
        split at e0
        · rename_i k d' e3
          obtain ⟨v, G, hv, _, _⟩ := S1.rel.anyAt e3
          exact ⟨v, hv⟩
        · cases e0
      obtain ⟨o, ho⟩ := hv
      refine ⟨o, ho, h2 (Hid B Fd) e1 σ H1 F1 _ S1.hide ?_⟩
      cases ek : mk e1 with
      | ex e e2 =>
        rw [ek] at h
        exact fun c d H' F' S' N' x => h c d σ H' F' (S'.imp fun b z => .inl z) (N1.trans N' fun a m => List.mem_append_left _ m) .refl x
      | no => rw [ek] at h; exact h
      | ok k0 e2 =>
        rw [ek] at h
        dsimp only at h
        intro k H2 F2 Fk S2 N2 _
        have S3 := S1.cons S2 N2
        have N3 := N1.cons N2
        obtain ⟨S4, r4⟩ := S3.freeze
        obtain ⟨x, y, e', rv, rk⟩ := r4.two_inv
        cases e'
        have N4 : Nxt H F H2 F2 := N3.weak fun a m => List.mem_append_left _ m
        cases ei : e2[i]? with
        | none => rw [ei] at h; exact h.elim
        | some sl =>
          rw [ei] at h
          cases sl with
          | none => exact h.elim
          | some kd =>
            obtain ⟨kk, d⟩ := kd
            cases kk with
            | false => exact h.elim
            | true =>
              dsimp only at h
              cases es : setF d k0 v0 with
              | none => rw [es] at h; exact h.elim
              | some d' =>
                rw [es] at h
                exact set_go S4 ei ho rk rv es fun l o' F' e1 lF S5 s5 => h σ _ F' S5 (N4.mut lF s5) .refl
/-! ### displays of dicts -/
theorem en_dnewK : EvN K mg W true tDNewK (cM (.dK [])) := fun B env σ H F Q S h p hp => by
  have S1 : StaL K B env σ (upd H p (.dK [])) F [.dK []] [.ref p] [p] := by
    have S0 := (S.nil.mkL hp)
    have e0 : upd H p (.dK []) = upd (upd H p (.lst [])) p (.dK []) := by rw [upd_upd]
    have hn := S.nil.sub0 hp
    rw [List.append_nil] at hn
    have ex : Ex (Fz B H F) (Fz B (upd H p (.dK [])) (F ++ [p])) := fz_mk fun b o e m n => by
      have np : b ≠ p := fun z => by subst z; rw [hp] at e; cases e
      exact ⟨by rw [upd_ne np]; exact e, by simp [m, np], n⟩
    refine ⟨S.rel.step ex fun a _ o h => ex_new hp _ _ h, .one (.dK upd_same .nil), S0.nd, fun a m => ?_, fun b q => ⟨?_, (S0.bad b q).2⟩⟩
    · by_cases e : a = p
      · subst e; rw [upd_same]; exact ⟨nofun, nofun, nofun⟩
      · rw [upd_ne e]
        have := S0.liv a m
        rwa [upd_ne e] at this
    · have := S0.bad b q
      by_cases e : b = p
      · subst e; rw [upd_same]; exact ⟨nofun, nofun, nofun⟩
      · rw [upd_ne e]
        have := this.1
        rwa [upd_ne e] at this
  exact h _ _ F [p] S1 (List.cons_ne_nil _ _) (Nxt.mkL (F1 := F) (Fd := []) (by rw [List.append_nil]; exact .refl) hp) fun _ => ⟨rfl, rfl, ex_new hp⟩
end
end MM

set_option Elab.async false
set_option linter.all false
set_option maxRecDepth 100000
set_option maxHeartbeats 4000000
noncomputable section
namespace MM
open PySem PySem.Spec PyProof.Rows L2

/-! ### isinstance of built-in classes -/
inductive Ty6 where
  | int | bool | list | tuple | str | dict
def Ty6.nm : Ty6 → String
  | .int => "int" | .bool => "bool" | .list => "list" | .tuple => "tuple" | .str => "str" | .dict => "dict"
def isiB : Ty6 → D → Option Bool
  | .int, .bl _ => some true | .int, .int _ => some true
  | .bool, .bl _ => some true
  | .list, .lst _ => some true
  | .tuple, .tup _ => some true
  | .tuple, .tz _ => some true
  | .str, .str _ => some true
  | .dict, .dK _ => some true | .dict, .dT _ => some true
  | _, .opq _ => none | _, .scr _ => none | _, .deep _ => none | _, .dTf _ => none | _, .nam _ _ => none | _, .xn _ _ _ => none | _, .fz _ => none
  | _, _ => some false
def isiF (T : Ty6) : List D → Option D
  | [d, .opq (.ty n)] => if n = T.nm then (isiB T d).map .bl else none
  | _ => none
section
variable {K : PySem.W.Frag} {mg : Str → Option Value} {W : WX} {p q : Bool} {te ta tb tc : TE} {m ma mb mc : M D} {i : Nat} {tA : TA} {ms : M (List D)}
theorem kb_int : kitB "NoneType" "int" = some false ∧ kitB "bool" "int" = some true ∧ kitB "int" "int" = some true ∧ kitB "str" "int" = some false ∧ kitB "list" "int" = some false ∧ kitB "tuple" "int" = some false ∧ kitB "dict" "int" = some false := by decide +kernel
theorem kb_bool : kitB "NoneType" "bool" = some false ∧ kitB "bool" "bool" = some true ∧ kitB "int" "bool" = some false ∧ kitB "str" "bool" = some false ∧ kitB "list" "bool" = some false ∧ kitB "tuple" "bool" = some false ∧ kitB "dict" "bool" = some false := by decide +kernel
theorem kb_list : kitB "NoneType" "list" = some false ∧ kitB "bool" "list" = some false ∧ kitB "int" "list" = some false ∧ kitB "str" "list" = some false ∧ kitB "list" "list" = some true ∧ kitB "tuple" "list" = some false ∧ kitB "dict" "list" = some false := by decide +kernel
theorem kb_tuple : kitB "NoneType" "tuple" = some false ∧ kitB "bool" "tuple" = some false ∧ kitB "int" "tuple" = some false ∧ kitB "str" "tuple" = some false ∧ kitB "list" "tuple" = some false ∧ kitB "tuple" "tuple" = some true ∧ kitB "dict" "tuple" = some false := by decide +kernel
theorem kb_str : kitB "NoneType" "str" = some false ∧ kitB "bool" "str" = some false ∧ kitB "int" "str" = some false ∧ kitB "str" "str" = some true ∧ kitB "list" "str" = some false ∧ kitB "tuple" "str" = some false ∧ kitB "dict" "str" = some false := by decide +kernel
theorem kb_dict : kitB "NoneType" "dict" = some false ∧ kitB "bool" "dict" = some false ∧ kitB "int" "dict" = some false ∧ kitB "str" "dict" = some false ∧ kitB "list" "dict" = some false ∧ kitB "tuple" "dict" = some false ∧ kitB "dict" "dict" = some true := by decide +kernel
theorem isiB_kit {H : Hp} {T : Ty6} {d : D} {x : V} {b : Bool} (r : Rep K H d x) (e : isiB T d = some b) : ∃ t, TyX K H x t ∧ PySem.W.kitOne K t (.type T.nm) = some b := by
  have a1 := kb_int; have a2 := kb_bool; have a3 := kb_list; have a4 := kb_tuple; have a5 := kb_str; have a6 := kb_dict
  cases r with
  | non => refine ⟨_, .base .non, kit_ty ?_⟩; cases T <;> cases e <;> simp only [Ty6.nm, a1, a2, a3, a4, a5, a6]
  | bl => refine ⟨_, .base (.bl _), kit_ty ?_⟩; cases T <;> cases e <;> simp only [Ty6.nm, a1, a2, a3, a4, a5, a6]
  | int => refine ⟨_, .base (.int _), kit_ty ?_⟩; cases T <;> cases e <;> simp only [Ty6.nm, a1, a2, a3, a4, a5, a6]
  | str => refine ⟨_, .base (.str _), kit_ty ?_⟩; cases T <;> cases e <;> simp only [Ty6.nm, a1, a2, a3, a4, a5, a6]
  | lst h _ => refine ⟨_, .base (.lst h), kit_ty ?_⟩; cases T <;> cases e <;> simp only [Ty6.nm, a1, a2, a3, a4, a5, a6]
  | tup h _ => refine ⟨_, .base (.tup h), kit_ty ?_⟩; cases T <;> cases e <;> simp only [Ty6.nm, a1, a2, a3, a4, a5, a6]
  | dK h _ => refine ⟨_, .base (.dK h), kit_ty ?_⟩; cases T <;> cases e <;> simp only [Ty6.nm, a1, a2, a3, a4, a5, a6]
  | dT h _ => refine ⟨_, .base (.dT h), kit_ty ?_⟩; cases T <;> cases e <;> simp only [Ty6.nm, a1, a2, a3, a4, a5, a6]
  | scr => cases T <;> cases e
  | opq => cases T <;> cases e
  | deep _ => cases T <;> cases e
  | frzn _ => cases T <;> cases e
  | tz h _ _ => refine ⟨_, .fTuple h, kit_ty ?_⟩; cases T <;> cases e <;> simp only [Ty6.nm, a1, a2, a3, a4, a5, a6]
  | dTf _ _ => cases T <;> cases e
  | cls _ => cases T <;> cases e
  | exn _ _ => cases T <;> cases e
  | xn _ _ _ => cases T <;> cases e
theorem s_isi {T : Ty6} : OpS K (rIsi K) (isiF T) := fun H ds vs Q d R ef q => by
  unfold isiF at ef
  split at ef
  · rename_i d0 n
    obtain ⟨x, y, rfl, rx, ry⟩ := R.two_inv
    cases ry
    split at ef
    · rename_i hn
      subst hn
      cases eb : isiB T d0 with
      | none => rw [eb] at ef; cases ef
      | some b =>
        rw [eb] at ef
        cases ef
        obtain ⟨t, ty, k⟩ := isiB_kit rx eb
        exact ⟨x, _, t, _, b, rfl, .ty _, ty, k, q _ (.bl _)⟩
    · cases ef
  · cases ef
theorem ev_ty {n : String} : EvE K mg W true (tC (.ty n)) (cM (.opq (.ty n))) := ev_c fun _ => .opq _

/-! ### ints put in order -/
def intsOf : List D → Option (List Int)
  | [] => some []
  | .int i :: ds => match intsOf ds with
    | some ns => some (i :: ns)
    | none => none
  | _ :: _ => none
theorem intsOf_rep {Z : Hp} : ∀ {ds : List D} {vs : List V} {ns : List Int}, RepL K Z ds vs → intsOf ds = some ns → vs = ns.map V.int
  | _, _, _, .nil, e => by cases e; rfl
  | _, _, _, .cons h t, e => by
    cases h <;> first | (simp [intsOf] at e; done) | skip
    rename_i i
    simp only [intsOf] at e
    split at e
    · rename_i ns en
      cases e
      rw [intsOf_rep t en]
      rfl
    · cases e
def isort (ns : List Int) : List Int := ns.mergeSort
theorem isort_of {ns ns' : List Int} (hp : ns'.Perm ns) (hs : ns'.Pairwise (· ≤ ·)) : ns' = isort ns := by
  have h1 : (isort ns).Perm ns := List.mergeSort_perm _ _
  have h2 : (isort ns).Pairwise (· ≤ ·) := by
    have := List.pairwise_mergeSort (le := fun a b : Int => decide (a ≤ b)) (fun a b c h1 h2 => by simp at *; omega) (fun a b => by simp; omega) ns
    simpa [isort] using this
  exact List.Perm.eq_of_pairwise (fun a b _ _ h1 h2 => Int.le_antisymm h1 h2) hs h2 (hp.trans h1.symm)
theorem repL_isort {Z : Hp} (ns : List Int) : RepL K Z ((isort ns).map D.int) ((isort ns).map V.int) := repL_ints _
/-! ### a < b < c -/
def chM (f g : Int → Int → Bool) (ms : M (List D)) (mc : M D) : M D := fun env => match ms env with
  | .ok [.int i, .int j] e => if f i j then match mc e with
      | .ok (.int k) e2 => .ok (.bl (g j k)) e2
      | .ok _ _ => .no
      | .ex x e2 => .ex x e2
      | .no => .no
    else .ok (.bl false) e
  | .ok _ _ => .no
  | .ex e e2 => .ex e e2
  | .no => .no
theorem ev_chain {f g : Int → Int → Bool} (hab : EvR K mg W p (tCons ta (tCons tb tNil)) ms) (hc : EvE K mg W q tc mc) : EvE K mg W (p && q) (tChain (rI0 fun i j => .bl (f i j)) (rI0 fun i j => .bl (g i j)) ta tb tc) (chM f g ms mc) := fun B env σ H F Q S h => by
  have ht : ∀ (Q' : List V → Hp → Prop), (tCons ta (tCons tb tNil)) σ H Q' → (∀ vs H', Q' vs H' = (match vs with | [x, y] => (rI0 fun i j => .bl (f i j)) x y H' fun z H3 => ∃ k, z = .bl k ∧ (if k = true then tc σ H3 fun w' H4 => (rI0 fun i j => .bl (g i j)) y w' H4 Q else Q (.bl false) H3) | _ => False)) → tChain (rI0 fun i j => .bl (f i j)) (rI0 fun i j => .bl (g i j)) ta tb tc σ H Q := fun Q' h1 h2 => by
    have e : Q' = fun vs H' => (match vs with | [x, y] => (rI0 fun i j => .bl (f i j)) x y H' fun z H3 => ∃ k, z = .bl k ∧ (if k = true then tc σ H3 fun w' H4 => (rI0 fun i j => .bl (g i j)) y w' H4 Q else Q (.bl false) H3) | _ => False) := by
      funext vs H'
      exact h2 vs H'
    subst e
    exact h1
  refine ht _ (hab B env σ H F (fun vs H' => (match vs with | [x, y] => (rI0 fun i j => .bl (f i j)) x y H' fun z H3 => ∃ k, z = .bl k ∧ (if k = true then tc σ H3 fun w' H4 => (rI0 fun i j => .bl (g i j)) y w' H4 Q else Q (.bl false) H3) | _ => False)) S ?_) fun _ _ => rfl
  unfold chM at h
  cases em : ms env with
  | ex e e2 => rw [em] at h; exact h
  | no => rw [em] at h; exact h
  | ok ds e =>
    rw [em] at h
    intro vs H2 F2 S2 r2 N2 P2
    split at h
    · rename_i d env' eq
      split at eq
      · rename_i i j e' eq2
        cases eq2
        obtain ⟨x, y, rfl, rx, ry⟩ := r2.two_inv
        cases rx
        cases ry
        refine ⟨i, j, rfl, rfl, f i j, rfl, ?_⟩
        split at eq
        · rename_i hf
          rw [if_pos hf]
          refine hc B e σ H2 F2 _ S2 ?_
          split at eq
          · rename_i k e2 ek
            cases eq
            rw [ek]
            intro v H3 F3 Fd S3 N3 P3
            obtain ⟨S4, r4⟩ := S3.freeze
            obtain ⟨v', e', r4⟩ := r4.one_inv
            cases e'
            cases r4
            refine ⟨j, k, rfl, rfl, h _ H3 F3 [] (S4.rep (.cons (.bl _) .nil)) (by rw [List.append_nil]; exact N2.trans (N3.weak fun a m => List.mem_append_left _ m) fun a m => m) fun hp => ?_⟩
            obtain ⟨a1, a2, a3⟩ := P2 (by simp at hp; exact hp.1)
            obtain ⟨b1, b2, b3⟩ := P3 (by simp at hp; exact hp.2)
            exact ⟨b1.trans a1, b2.trans a2, a3.trans b3⟩
          · cases eq
          · cases eq
          · cases eq
        · rename_i hf
          rw [if_neg hf]
          cases eq
          exact h _ H2 F2 [] (S2.rep (.cons (.bl _) .nil)) (by rw [List.append_nil]; exact N2) fun hp => P2 (by simp at hp; exact hp.1)
      · cases eq
      · cases eq
      · cases eq
    · rename_i x env' eq
      split at eq
      · rename_i i j e' eq2
        cases eq2
        obtain ⟨x, y, rfl, rx, ry⟩ := r2.two_inv
        cases rx
        cases ry
        refine ⟨i, j, rfl, rfl, f i j, rfl, ?_⟩
        split at eq
        · rename_i hf
          rw [if_pos hf]
          refine hc B e σ H2 F2 _ S2 ?_
          split at eq
          · cases eq
          · cases eq
          · rename_i x2 e2 ek
            cases eq
            rw [ek]
            exact ExP.mono h (fun H' F' n => N2.trans n fun a m => m) fun b z => z
          · cases eq
        · cases eq
      · cases eq
      · rename_i eq2; cases eq2
      · cases eq
    · exact h.elim

/-! ### slices -/
def EvO (K : PySem.W.Frag) (mg : Str → Option Value) (W : WX) (p : Bool) (t : TO) (m : M (Option Int)) : Prop := ∀ B env σ H F (Q : Option Int → Hp → Prop), Sta K B env σ H F → (match m env with
  | .ok o env' => ∀ H' F', Sta K B env' σ H' F' → Nxt H F H' F' → PureP p env env' F F' H H' → Q o H'
  | .ex e env' => ExP K mg W B σ H F e env'
  | .no => False) → t σ H Q
def noM : M (Option Int) := fun env => .ok none env
def partM (m : M D) : M (Option Int) := fun env => match m env with
  | .ok (.int i) e => .ok (some i) e
  | .ok _ _ => .no
  | .ex e e2 => .ex e e2
  | .no => .no
theorem eo_no : EvO K mg W true tNoPart noM := fun B env σ H F Q S h => h H F S .refl fun _ => ⟨rfl, rfl, .refl _⟩
theorem eo_part (h1 : EvE K mg W p te m) : EvO K mg W p (tPart te) (partM m) := fun B env σ H F Q S h => by
  refine h1 B env σ H F _ S ?_
  unfold partM at h
  cases em : m env with
  | ex e e2 => rw [em] at h; exact h
  | no => rw [em] at h; exact h
  | ok d e =>
    rw [em] at h
    intro v H2 F2 Fd S1 N1 P1
    obtain ⟨S2, r⟩ := S1.freeze
    obtain ⟨v', e', r⟩ := r.one_inv
    cases e'
    cases d <;> first | exact h.elim | skip
    cases r
    exact ⟨_, rfl, h H2 F2 S2 (N1.weak fun a m => List.mem_append_left _ m) P1⟩
def cutG {α : Type} (xs : List α) (lo hi : Option Int) : List α := (xs.drop (HT.sIx xs.length 0 lo)).take (HT.sIx xs.length xs.length hi - HT.sIx xs.length 0 lo)
theorem RepL.drop {Z : Hp} : ∀ {ds : List D} {vs : List V} (n : Nat), RepL K Z ds vs → RepL K Z (ds.drop n) (vs.drop n)
  | _, _, 0, r => r
  | _, _, _ + 1, .nil => .nil
  | _, _, n + 1, .cons _ t => RepL.drop n t
theorem RepL.take {Z : Hp} : ∀ {ds : List D} {vs : List V} (n : Nat), RepL K Z ds vs → RepL K Z (ds.take n) (vs.take n)
  | _, _, 0, r => .nil
  | _, _, _ + 1, .nil => .nil
  | _, _, n + 1, .cons h t => .cons h (RepL.take n t)
theorem RepL.cut {Z : Hp} {ds : List D} {vs : List V} (r : RepL K Z ds vs) (lo hi : Option Int) : RepL K Z (cutG ds lo hi) (cutV vs lo hi) := by
  unfold cutG cutV
  rw [r.length]
  exact (r.drop _).take _
def slF (d : D) (lo hi : Option Int) : Option D := match d with
  | .lst ds => some (.lst (cutG ds lo hi))
  | .tup ds => some (.tup (cutG ds lo hi))
  | .str z => haveI : Decidable (z.length ≤ sizeLine) := Classical.propDecidable _; if z.length ≤ sizeLine then some (.str (cutS z lo hi)) else none
  | .scr ns => some (.lst (cutG (ns.map .int) lo hi))
  | _ => none
def slM (m : M D) (ml mh : M (Option Int)) : M D := fun env => match m env with
  | .ok d e1 => match ml e1 with
    | .ok lo e2 => match mh e2 with
      | .ok hi e3 => match slF d lo hi with
        | some r => .ok r e3
        | none => .no
      | .ex x e3 => .ex x e3
      | .no => .no
    | .ex x e2 => .ex x e2
    | .no => .no
  | .ex x e1 => .ex x e1
  | .no => .no
theorem cut_whole {α : Type} {xs : List α} {lo hi : Option Int} (h : HT.sIx xs.length 0 lo = 0 ∧ HT.sIx xs.length xs.length hi = xs.length) : cutG xs lo hi = xs := by
  unfold cutG
  rw [h.1, h.2, List.drop_zero, Nat.sub_zero, List.take_length]
/-! ### {'a': e, ..} -/
def pairsM : List (Key × M D) → M (List (Key × D))
  | [], env => .ok [] env
  | (k, m) :: r, env => match m env with
    | .ok d e => match pairsM r e with
      | .ok kvs e2 => .ok ((k, d) :: kvs) e2
      | .ex x e2 => .ex x e2
      | .no => .no
    | .ex x e => .ex x e
    | .no => .no
def mergeD (kvs more : List (Key × D)) : List (Key × D) := more.foldl (fun acc kv => putG acc kv.1 kv.2) kvs
theorem RepK.merge {Z : Hp} : ∀ {more : List (Key × D)} {ws : List (Key × V)} {kvs : List (Key × D)} {kws : List (Key × V)}, RepK K Z more ws → RepK K Z kvs kws → RepK K Z (mergeD kvs more) (mergeK kws ws)
  | _, _, _, _, .nil, r => r
  | _, _, kvs, kws, .cons (k := k) (d := d) (v := v) (ds := ds) (vs := vs) h t, r => by
    show RepK K Z (mergeD (putG kvs k d) ds) (mergeK (putK kws k v) vs)
    exact RepK.merge t (r.put h)
def dispM (ps : List (Key × M D)) : M D := fun env => match pairsM ps env with
  | .ok kvs e => if kvs.length ≤ 15 then .ok (.dK (mergeD [] kvs)) e else .no
  | .ex x e => .ex x e
  | .no => .no
def EvPs (K : PySem.W.Frag) (mg : Str → Option Value) (W : WX) (p : Bool) (trs : List (TE × TE)) (m : List (Key × M D)) : Prop := ∀ B env σ H F (Q : List (V × V) → Hp → Prop), Sta K B env σ H F → (match pairsM m env with
  | .ok kvs env' => ∀ kws H' F', Sta K B env' σ H' F' → RepK K (Fz B H' F') kvs kws → Nxt H F H' F' → PureP p env env' F F' H H' → Q (kws.map fun kv => (kV kv.1, kv.2)) H'
  | .ex e env' => ExP K mg W B σ H F e env'
  | .no => False) → tPairs trs σ H Q
theorem eps_nil : EvPs K mg W true [] [] := fun B env σ H F Q S h => h [] H F S .nil .refl fun _ => ⟨rfl, rfl, .refl _⟩
theorem eps_cons {k : Key} {trs : List (TE × TE)} {r : List (Key × M D)} (h1 : EvE K mg W p te m) (h2 : EvPs K mg W q trs r) : EvPs K mg W (p && q) ((tC (kV k), te) :: trs) ((k, m) :: r) := fun B env σ H F Q S h => by
  unfold pairsM at h
  show te σ H fun y H2 => tPairs trs σ H2 fun ps H3 => Q ((kV k, y) :: ps) H3
  refine h1 B env σ H F _ S ?_
  cases em : m env with
  | ex e e2 => rw [em] at h; exact h
  | no => rw [em] at h; exact h
  | ok d e1 =>
    rw [em] at h
    dsimp only at h
    intro v H1 F1 Fd S1 N1 P1
    obtain ⟨S1', r1⟩ := S1.freeze
    obtain ⟨v', e', r1⟩ := r1.one_inv
    cases e'
    have N1' : Nxt H F H1 F1 := N1.weak fun a m => List.mem_append_left _ m
    refine h2 B e1 σ H1 F1 _ S1' ?_
    cases er : pairsM r e1 with
    | ex e e2 => rw [er] at h; exact ExP.mono h (fun H' F' n => N1'.trans n fun a m => m) fun b z => z
    | no => rw [er] at h; exact h
    | ok kvs e2 =>
      rw [er] at h
      intro kws H2 F2 S2 r2 N2 P2
      refine h ((k, v) :: kws) H2 F2 S2 (.cons (r1.mono (nxt_ex N2)) r2) (N1'.trans N2 fun a m => m) fun hp => ?_
      obtain ⟨a1, a2, a3⟩ := P1 (by simp at hp; exact hp.1)
      obtain ⟨b1, b2, b3⟩ := P2 (by simp at hp; exact hp.2)
      exact ⟨b1.trans a1, b2.trans a2, a3.trans b3⟩
theorem en_disp {trs : List (TE × TE)} {r : List (Key × M D)} (h1 : EvPs K mg W p trs r) : EvN K mg W p (tDisp trs) (dispM r) := fun B env σ H F Q S h pp hp => by
  have S0 := S.nil.mkL hp
  -- the empty dict, hidden
  have hn := S.nil.sub0 hp
  rw [List.append_nil] at hn
  have S1 : StaL K B env σ (upd H pp (.dK [])) F [.dK []] [.ref pp] [pp] := by
    have ex : Ex (Fz B H F) (Fz B (upd H pp (.dK [])) (F ++ [pp])) := fz_mk fun b o e m n => by
      have np : b ≠ pp := fun z => by subst z; rw [hp] at e; cases e
      exact ⟨by rw [upd_ne np]; exact e, by simp [m, np], n⟩
    refine ⟨S.rel.step ex fun a _ o h => ex_new hp _ _ h, .one (.dK upd_same .nil), S0.nd, fun a m => ?_, fun b q => ⟨?_, (S0.bad b q).2⟩⟩
    · by_cases e : a = pp
      · subst e; rw [upd_same]; exact ⟨nofun, nofun, nofun⟩
      · rw [upd_ne e]
        have := S0.liv a m
        rwa [upd_ne e] at this
    · have := S0.bad b q
      by_cases e : b = pp
      · subst e; rw [upd_same]; exact ⟨nofun, nofun, nofun⟩
      · rw [upd_ne e]
        have := this.1
        rwa [upd_ne e] at this
  have N1 : Nxt H F (upd H pp (.dK [])) (F ++ [pp]) := Nxt.mkL (F1 := F) (Fd := []) (by rw [List.append_nil]; exact .refl) hp
  refine h1 _ env σ _ F _ S1.hide ?_
  unfold dispM at h
  cases em : pairsM r env with
  | ex e e2 => rw [em] at h; exact ExP.mono h (fun H' F' n => N1.trans n fun a m => List.mem_append_left _ m) fun b z => .inl z
  | no => rw [em] at h; exact h
  | ok kvs e1 =>
    rw [em] at h
    intro kws H2 F2 S2 r2 N2 P2
    dsimp only at h
    by_cases hz : kvs.length ≤ 15
    · rw [if_pos hz] at h
      have npF : pp ∉ F := hn.1
      have hp2 : H2 pp = some (.dK []) := N2.fr _ _ upd_same npF
      have npF2 : pp ∉ F2 := (S2.bad pp (.inr (List.mem_singleton_self _))).2
      refine ⟨hp2, kws, rfl, by rw [← r2.length]; exact hz, ?_⟩
      -- the dict filled
      have ez : Fz (Hid B [pp]) H2 F2 = Fz B H2 (F2 ++ [pp]) := fz_congr fun b => by
        simp only [Hid, List.mem_append]
        grind
      have ex : Ex (Fz (Hid B [pp]) H2 F2) (Fz B (upd H2 pp (.dK (mergeK [] kws))) (F2 ++ [pp])) := by
        rw [ez]
        exact fz_mk fun b o e m n => by
          have np : b ≠ pp := fun z => m (by rw [z]; simp)
          exact ⟨by rw [upd_ne np]; exact e, m, n⟩
      have kp : ∀ a, a ≠ pp → ∀ o, H2 a = some o → (upd H2 pp (.dK (mergeK [] kws))) a = some o := fun a n o h => by rw [upd_ne n]; exact h
      have S3 : StaL K B e1 σ (upd H2 pp (.dK (mergeK [] kws))) F2 [.dK (mergeD [] kvs)] [.ref pp] [pp] := by
        refine ⟨S2.rel.step ex fun a m o h => kp a (fun z => by subst z; exact npF2 m) o h, .one (.dK upd_same ((r2.mono ex).merge .nil)), ?_, fun a m => ?_, fun b q => ⟨?_, ?_⟩⟩
        · refine List.nodup_append.mpr ⟨S2.nd, by simp, fun a m b q z => ?_⟩
          subst z
          rw [List.mem_singleton.mp q] at m
          exact npF2 m
        · by_cases e : a = pp
          · subst e; rw [upd_same]; exact ⟨nofun, nofun, nofun⟩
          · rw [upd_ne e]
            rcases List.mem_append.mp m with m | m
            · exact S2.liv a m
            · exact absurd (List.mem_singleton.mp m) e
        · by_cases e : b = pp
          · subst e; rw [upd_same]; exact ⟨nofun, nofun, nofun⟩
          · rw [upd_ne e]; exact (S2.bad b (.inl q)).1
        · intro m
          rcases List.mem_append.mp m with m | m
          · exact (S2.bad b (.inl q)).2 m
          · rw [List.mem_singleton.mp m] at q
            exact hn.2 q
      refine h _ _ F2 [pp] S3 (List.cons_ne_nil _ _) ?_ fun hq => ?_
      · have N3 : Nxt H F H2 (F2 ++ [pp]) := ⟨(N1.trans N2 fun a m => List.mem_append_left _ m).fr, fun a m => (List.mem_append.mp m).elim ((N1.trans N2 fun a m => List.mem_append_left _ m).sub a) fun m => by rw [List.mem_singleton.mp m]; exact .inr hp⟩
        exact N3.mut (l := pp) (by simp) fun a m => m
      · obtain ⟨a1, a2, a3⟩ := P2 hq
        refine ⟨a1, a2, fun b o e => ?_⟩
        have np : b ≠ pp := fun z => by subst z; rw [hp] at e; cases e
        rw [upd_ne np]
        exact a3 _ _ (ex_new hp _ _ e)
    · rw [if_neg hz] at h
      exact h.elim
end
end MM

set_option Elab.async false
set_option linter.all false
set_option maxRecDepth 100000
set_option maxHeartbeats 4000000
noncomputable section
namespace MM
open PySem PySem.Spec PyProof.Rows L2
section
variable {K : PySem.W.Frag} {mg : Str → Option Value} {W : WX} {p q : Bool} {te ta tb tc : TE} {m ma mb mc : M D} {i : Nat} {tA : TA} {ms : M (List D)} {Z : Hp}
/-! ### list(range(..)), tuple(range(..)) -/
instance (a b : Int) : Decidable (RgOk a b) := by unfold RgOk; exact inferInstance
theorem repL_rg (lo : Int) (n : Nat) : RepL K Z (rangeL lo n) ((List.range n).map fun i => V.int (lo + (i : Nat))) := by
  unfold rangeL
  generalize List.range n = xs
  induction xs with
  | nil => exact .nil
  | cons x xs ih => exact .cons (.int _) ih
def lstRg1F : List D → Option D
  | [.int n] => haveI : Decidable (RgOk 0 n) := Classical.propDecidable _; if RgOk 0 n then some (.lst (rangeL 0 n.toNat)) else none
  | _ => none
def tupRg1F : List D → Option D
  | [.int n] => haveI : Decidable (RgOk 0 n) := Classical.propDecidable _; if RgOk 0 n then some (.tup (rangeL 0 n.toNat)) else none
  | _ => none
def lstRg2F : List D → Option D
  | [.int a, .int n] => haveI : Decidable (RgOk a n) := Classical.propDecidable _; if RgOk a n then some (.lst (rangeL a (n - a).toNat)) else none
  | _ => none
def rLstRg1 : List V → Hp → VK → Prop := fun vs H Q => match vs with
  | [x] => ∃ n, x = .int n ∧ (RgOk 0 n ∧ ∀ q, H q = none → Q (.ref q) (upd H q (.lst (rgV 0 n))))
  | _ => False
def rTupRg1 : List V → Hp → VK → Prop := fun vs H Q => match vs with
  | [x] => ∃ n, x = .int n ∧ (RgOk 0 n ∧ ∀ q, H q = none → Q (.ref q) (upd H q (.tup (rgV 0 n))))
  | _ => False
def rLstRg2 : List V → Hp → VK → Prop := fun vs H Q => match vs with
  | [x, y] => ∃ i j, x = .int i ∧ y = .int j ∧ (RgOk i j ∧ ∀ q, H q = none → Q (.ref q) (upd H q (.lst (rgV i j))))
  | _ => False
theorem n_lstRg1 : OpN K rLstRg1 lstRg1F := fun Z H ds vs Q d ez R ef q ql qt => by
  unfold lstRg1F at ef
  split at ef
  · rename_i n
    obtain ⟨x, rfl, rx⟩ := R.one_inv
    cases rx
    split at ef
    · rename_i hb
      cases ef
      refine ⟨n, rfl, hb, fun p hp => ?_⟩
      have := ql _ p _ rfl hp (repL_rg (K := K) (Z := Z) 0 n.toNat)
      unfold rgV
      rw [Int.sub_zero]
      exact this
    · cases ef
  · cases ef
theorem n_tupRg1 : OpN K rTupRg1 tupRg1F := fun Z H ds vs Q d ez R ef q ql qt => by
  unfold tupRg1F at ef
  split at ef
  · rename_i n
    obtain ⟨x, rfl, rx⟩ := R.one_inv
    cases rx
    split at ef
    · rename_i hb
      cases ef
      refine ⟨n, rfl, hb, fun p hp => ?_⟩
      have := qt _ p _ rfl hp (repL_rg (K := K) (Z := Z) 0 n.toNat)
      unfold rgV
      rw [Int.sub_zero]
      exact this
    · cases ef
  · cases ef
theorem n_lstRg2 : OpN K rLstRg2 lstRg2F := fun Z H ds vs Q d ez R ef q ql qt => by
  unfold lstRg2F at ef
  split at ef
  · rename_i a n
    obtain ⟨x, y, rfl, rx, ry⟩ := R.two_inv
    cases rx
    cases ry
    split at ef
    · rename_i hb
      cases ef
      exact ⟨a, n, rfl, rfl, hb, fun p hp => ql _ p _ rfl hp (repL_rg (K := K) (Z := Z) a (n - a).toNat)⟩
    · cases ef
  · cases ef
/-! ### all, any -/
def blsOf : List D → Option (List Bool)
  | [] => some []
  | .bl b :: ds => match blsOf ds with
    | some bs => some (b :: bs)
    | none => none
  | _ :: _ => none
theorem blsOf_rep {H : Hp} : ∀ {ds : List D} {vs : List V} {bs : List Bool}, RepL K H ds vs → blsOf ds = some bs → vs = bs.map V.bl
  | _, _, _, .nil, e => by cases e; rfl
  | _, _, _, .cons h t, e => by
    cases h <;> first | (simp [blsOf] at e; done) | skip
    simp only [blsOf] at e
    split at e
    · rename_i bs en
      cases e
      rw [blsOf_rep t en]
      rfl
    · cases e
def allF : List D → Option D
  | [.lst ds] => match blsOf ds with
    | some bs => some (.bl (bs.all id))
    | none => none
  | _ => none
theorem s_all : OpS K (rAll K) allF := fun H ds vs Q d R ef q => by
  unfold allF at ef
  split at ef
  · obtain ⟨x, rfl, rx⟩ := R.one_inv
    split at ef
    · rename_i bs en
      cases ef
      cases rx with
      | lst h r => exact ⟨_, bs, rfl, .of (by rw [← blsOf_rep r en]; exact h), q _ (.bl _)⟩
    · cases ef
  · cases ef
/-! ### sorted: a list of ints, a dict of ints -/
/-! ### zip, enumerate -/
def zipD (xs ys : List D) : List D := (xs.zip ys).map fun p => .tup [p.1, p.2]
def zipM (ms : M (List D)) : M (List D) := fun env => match ms env with
  | .ok [.lst xs, .lst ys] e => .ok (zipD xs ys) e
  | .ok [.tup xs, .tup ys] e => .ok (zipD xs ys) e
  | .ok _ _ => .no
  | .ex e e2 => .ex e e2
  | .no => .no
theorem eb_yes : EvB K mg W true tYes yesM := fun B env σ H F Q S h => h H F S .refl fun _ => ⟨rfl, rfl, .refl _⟩
end
end MM

set_option Elab.async false
set_option linter.all false
set_option maxRecDepth 100000
set_option maxHeartbeats 4000000
noncomputable section
namespace MM
open PySem PySem.Spec PyProof.Rows L2

/-! ### tuples of ints: their order -/
section
variable {prog : Program} {w : World} {A : Around} {E : Value → Shared → Prop} {s : Shared}
end
section
variable {prog : Program} {w : World} {A : Around} {E : Value → Shared → Prop} {s : Shared}
end
end MM

set_option Elab.async false
set_option linter.all false
set_option maxRecDepth 100000
set_option maxHeartbeats 4000000
noncomputable section
namespace MM
open PySem PySem.Spec PyProof.Rows L2

/-! ### data without mutable cells stays wherever it is seen -/
mutual
def imt : D → Bool
  | .non | .bl _ | .int _ | .str _ | .opq _ => true
  | .tup xs => imtL xs
  | .scr _ | .lst _ | .dK _ | .dT _ | .dTf _ | .deep _ | .nam _ _ | .xn _ _ _ | .fz _ | .tz _ => false
def imtL : List D → Bool
  | [] => true
  | d :: ds => imt d && imtL ds
end
section
variable {K : PySem.W.Frag} {H H' : Hp} {B : Addr → Prop} {F : List Addr}
mutual
theorem Rep.fz (hF : ∀ a ∈ F, NT (H a)) (hB : ∀ b, B b → NT (H b)) : ∀ {d : D} {v : V}, Rep K H d v → imt d = true → Rep K (Fz B H F) d v
  | _, _, .non, _ => .non
  | _, _, .bl b, _ => .bl b
  | _, _, .int b, _ => .int b
  | _, _, .str b, _ => .str b
  | _, _, .lst h r, k => by simp [imt] at k
  | _, _, .tup (a := a) h r, k => .tup (by
      rw [fz_in (fun z => (hF a z).2.1 _ h) fun z => (hB a z).2.1 _ h]; exact h) (RepL.fz hF hB r (by simpa [imt] using k))
  | _, _, .dK h r, k => by simp [imt] at k
  | _, _, .dT h r, k => by simp [imt] at k
  | _, _, .dTf h r, k => by simp [imt] at k
  | _, _, .scr h, k => by simp [imt] at k
  | _, _, .deep h, k => by simp [imt] at k
  | _, _, .frzn h, k => by simp [imt] at k
  | _, _, .tz _ _ _, k => by simp [imt] at k
  | _, _, .cls h, k => by simp [imt] at k
  | _, _, .exn h _, k => by simp [imt] at k
  | _, _, .xn _ _ _, k => by simp [imt] at k
  | _, _, .opq v, _ => .opq v
theorem RepL.fz (hF : ∀ a ∈ F, NT (H a)) (hB : ∀ b, B b → NT (H b)) : ∀ {ds : List D} {vs : List V}, RepL K H ds vs → imtL ds = true → RepL K (Fz B H F) ds vs
  | _, _, .nil, _ => .nil
  | _, _, .cons h r, k => by
    simp only [imtL, Bool.and_eq_true] at k
    exact .cons (Rep.fz hF hB h k.1) (RepL.fz hF hB r k.2)
end
end

/-! ### operations whose answer is immutable, or a new list of immutable things; a def so called -/
def clT (f : List D → RF) (ms : M (List D)) : M D := fun env => match ms env with
  | .ok ds e => match f ds with
    | .ret d => if imt d then .ok d e else .no
    | .ex x => .ex x e
    | .no => .no
  | .ex e e2 => .ex e e2
  | .no => .no
section
variable {K : PySem.W.Frag} {mg : Str → Option Value} {W : WX} {p : Bool} {t : TE} {tA : TA} {ms : M (List D)} {r : List V → Hp → VK → Prop} {f : List D → Option D} {ro : Bool}
  {B : Addr → Prop} {env : Env} {σ : St} {H : Hp} {F : List Addr}
theorem Sta.after {H' : Hp} {Fd : List Addr} (S : Sta K B env σ H F) (N : Nxt H [] H' Fd) : Sta K B env σ H' F := S.ext fun b o e => N.fr b o e fun z => nomatch z
end
end MM

set_option Elab.async false
set_option linter.all false
set_option maxRecDepth 100000
set_option maxHeartbeats 4000000
noncomputable section
namespace MM
open PySem PySem.Spec PyProof.Rows L2

/-! ### sorted, of lists and dicts of tuples of ints -/
section
variable {X : Cx}
end

/-! ### the mirror's sorted -/
/-! ### isinstance with a tuple of built-in classes -/
end MM

set_option Elab.async false
set_option linter.all false
set_option maxRecDepth 100000
set_option maxHeartbeats 4000000
noncomputable section
namespace MM
open PySem PySem.Spec PyProof.Rows L2

/-! ### lists of lists of one's own -/
def EvD (K : PySem.W.Frag) (mg : Str → Option Value) (W : WX) (p : Bool) (t : TE) (m : M D) : Prop := ∀ B env σ H F (Q : VK), Sta K B env σ H F → (match m env with
  | .ok d env' => ∀ v H' F' Fd, StaL K B env' σ H' F' [d] [v] Fd → Exl (.deep d) Fd → Nxt H F H' (F' ++ Fd) → PureP p env env' F F' H H' → Q v H'
  | .ex e env' => ExP K mg W B σ H F e env'
  | .no => False) → t σ H Q
section
variable {K : PySem.W.Frag} {mg : Str → Option Value} {W : WX} {ps : List Nat} {ro : Bool} {p q : Bool} {t : TS} {a : MS} {wi : TI} {mi : M (List D)} {g : TG} {js : List Nat} {bd : D → Env → Option Env} {i : Nat}
  {B : Addr → Prop} {env : Env} {σ : St} {H H0 : Hp} {F F0 Fd : List Addr} {ds : List D} {vs : List V}

theorem OwnL.one_own {Z : Hp} {d : D} {v : V} {Fd : List Addr} (o : OwnL K H Z [d] [v] Fd) : Own K H Z d v Fd := by
  obtain ⟨v', e, o⟩ := o.one_inv
  cases e
  exact o
end
end MM

set_option Elab.async false
set_option linter.all false
set_option maxRecDepth 100000
set_option maxHeartbeats 4000000
noncomputable section
namespace MM
open PySem PySem.Spec PyProof.Rows L2

def asgD (i : Nat) (m : M D) : MS := fun env => match m env with
  | .ok d e => .nx (e.set i (some (true, .deep d)))
  | .ex e e2 => .ex e e2
  | .no => .no
def udE (i : Nat) (env : Env) : Env := match env[i]? with
  | some (some (true, .deep (.lst ds))) => env.set i (some (true, .lst ds))
  | _ => env
/-- the slot's list is no longer looked into -/
def udM (i : Nat) (a : MS) : MS := fun env => match a env with
  | .nx e => .nx (udE i e)
  | r => r
section
variable {K : PySem.W.Frag} {mg : Str → Option Value} {W : WX} {ps : List Nat} {ro : Bool} {p q : Bool} {te t1 t2 ta tb : TE} {t : TS} {m ma mb mv : M D} {a : MS} {i : Nat}
  {B : Addr → Prop} {env : Env} {σ : St} {H H0 : Hp} {F F0 Fd : List Addr} {ds : List D} {vs : List V}
theorem StaL.deep {d : D} {v : V} (S : StaL K B env σ H F [d] [v] Fd) : StaL K B env σ H F [.deep d] [v] Fd :=
  ⟨S.rel, .one (.deep S.own.one_own), S.nd, S.liv, S.bad⟩
theorem OwnL.cut {Z : Hp} : ∀ {ds : List D} {vs : List V} {F : List Addr} {n : Nat} {d : D}, OwnL K H Z ds vs F → ds[n]? = some d → ∃ F1 Fi F2 v, F = F1 ++ (Fi ++ F2) ∧ vs[n]? = some v ∧ Own K H Z d v Fi ∧ F1.length + F2.length + mct d ≤ mctL ds ∧
    ∀ H' Z', Ex Z Z' → (∀ a, a ∈ F1 ∨ a ∈ F2 → ∀ o, H a = some o → H' a = some o) → ∀ d' Fi', Own K H' Z' d' v Fi' → OwnL K H' Z' (ds.set n d') vs (F1 ++ (Fi' ++ F2))
  | _, _, _, 0, _, .cons (F := Fa) (G := Ga) h t, e => by
    cases e
    refine ⟨[], Fa, Ga, _, rfl, rfl, h, ?_, fun H' Z' ez k d' Fi' o => .cons (F := Fi') o (t.step ez fun a m => k a (.inr m))⟩
    have := t.len
    simp only [mctL, List.length_nil]
    omega
  | _, _, _, n + 1, _, .cons (F := Fa) (G := Ga) h t, e => by
    obtain ⟨F1, Fi, F2, v, eF, ev, o, l, g⟩ := OwnL.cut (n := n) t e
    refine ⟨Fa ++ F1, Fi, F2, v, by rw [eF, List.append_assoc], ev, o, ?_, fun H' Z' ez k d' Fi' o' => ?_⟩
    · have := h.len
      simp only [mctL, List.length_append]
      omega
    · rw [List.append_assoc]
      exact .cons (h.step ez fun a m => k a (.inl (List.mem_append_left _ m))) (g H' Z' ez (fun a m => k a (m.elim (fun m => .inl (List.mem_append_right _ m)) .inr)) d' Fi' o')
  | _, _, _, _, _, .nil, e => nomatch e
theorem RepL.set {Z : Hp} {d : D} {v : V} (r : Rep K Z d v) : ∀ {ds : List D} {vs : List V} (n : Nat), RepL K Z ds vs → RepL K Z (ds.set n d) (vs.set n v)
  | _, _, _, .nil => .nil
  | _, _, 0, .cons _ t => .cons r t
  | _, _, n + 1, .cons h t => .cons h (RepL.set r n t)
end
/-! ### {k: v} with a tuple for a key -/
def dT1M (mk mv : M D) : M D := fun env => match mk env with
  | .ok (.tup ks) e1 => match mv e1 with
    | .ok v e2 => match keysD ks with
      | some k => .ok (.dT [(k, v)]) e2
      | none => .no
    | .ex e e2 => .ex e e2
    | .no => .no
  | .ok _ _ => .no
  | .ex e e2 => .ex e e2
  | .no => .no
section
variable {K : PySem.W.Frag} {mg : Str → Option Value} {W : WX} {p q : Bool} {tk tv : TE} {mk mv : M D}
end
/-! ### a def that calls itself: no fuel left -/
end MM

set_option Elab.async false
set_option linter.all false
set_option maxRecDepth 100000
set_option maxHeartbeats 4000000
noncomputable section
namespace MM
open PySem PySem.Spec PyProof.Rows L2

/-! ### the kit's rules with the written part named: in a block's context too -/
section
variable {X : Cx} {K : PySem.W.Frag}
theorem op_addAny_ (hK : X.K = K) : OpR X (binaryOp .Add) (rAddAny K) := hK ▸ op_addAny
theorem op_mulAny_ (hK : X.K = K) : OpR X (binaryOp .Mult) (rMulAny K) := hK ▸ op_mulAny
theorem ix_any_ (hK : X.K = K) (hu : X.A.units + 1 < cLine) : IxR X (rIxAny K) := hK ▸ ix_any hu
theorem op_eqD_ (hK : X.K = K) (hu : X.A.units + 64 < cLine) : OpR X (compareOp .Eq) (rEqD K) := hK ▸ op_eqD hu
theorem op_neD_ (hK : X.K = K) (hu : X.A.units + 64 < cLine) : OpR X (compareOp .NotEq) (rNeD K) := hK ▸ op_neD hu
theorem call_lenAny_ (hK : X.K = K) : CallR X (.builtin "len") (rLenAny K) := hK ▸ call_lenAny
theorem cr_all_ (hK : X.K = K) (hc : X.calm = true) : CallR X (.builtin "all") (rAll K) := hK ▸ cr_all hc
theorem call_isi_ (hK : X.K = K) : CallR X (.builtin "isinstance") (rIsi K) := hK ▸ call_isi
theorem call_list_of_ (hK : X.K = K) : CallR X (.type "list") (fun xs H Q => ∃ p ys, xs = [.ref p] ∧ (SqL K H p ys ∨ SqT K H p ys) ∧ ∀ l, H l = none → Q (.ref l) (upd H l (.lst ys))) := by
  subst hK; exact call_list_of
theorem pi_seq_ {tg l : Expr} {tl : TE} (hK : X.K = K) (hl : PE X l tl) : PI X tg l (iSeq K tl) := hK ▸ pi_seq hl
end
/-! ### an item, immutable, of what is only read -/
end MM

set_option Elab.async false
set_option linter.all false
set_option maxRecDepth 100000
set_option maxHeartbeats 4000000
noncomputable section
namespace MM
open PySem PySem.Spec PyProof.Rows L2

/-! ### the mirrors evaluated -/
section
variable {a b : MS} {m mk mv ma mb : M D} {ms : M (List D)} {env : Env} {i j : Nat} {c : M Bool} {d : D} {f : List D → Option D}
@[simp] theorem seqM_ap : seqM a b env = match a env with | .nx e => b e | r => r := id rfl
@[simp] theorem nxM_ap : nxM env = .nx env := id rfl
@[simp] theorem brM_ap : brM env = .bk env := id rfl
@[simp] theorem ctM_ap : ctM env = .ct env := id rfl
@[simp] theorem retM_ap : retM m env = match m env with | .ok d e => .rt d e | .ex e e2 => .ex e e2 | .no => .no := id rfl
@[simp] theorem retNM_ap : retNM env = .rt .non env := id rfl
@[simp] theorem ifS_ap : ifS c a b env = match c env with | .ok true e => a e | .ok false e => b e | .ex e e2 => .ex e e2 | .no => .no := id rfl
@[simp] theorem asgF_ap : asgF i m env = match m env with | .ok d e => .nx (e.set i (some (false, d))) | .ex e e2 => .ex e e2 | .no => .no := id rfl
@[simp] theorem asgO_ap : asgO i m env = match m env with | .ok d e => .nx (e.set i (some (true, d))) | .ex e e2 => .ex e e2 | .no => .no := id rfl
@[simp] theorem dropM_ap : dropM m env = match m env with | .ok _ e => .nx e | .ex e e2 => .ex e e2 | .no => .no := id rfl
@[simp] theorem frzE_ap : frzE i env = match env[i]? with | some (some (_, d)) => env.set i (some (false, d)) | _ => env := id rfl
@[simp] theorem frzM_ap : frzM i a env = a (frzE i env) := id rfl
@[simp] theorem rdM_ap : rdM i env = match env[i]? with | some (some (_, d)) => some d | _ => none := id rfl
@[simp] theorem vrM_ap : vrM i env = match env[i]? with | some (some (false, d)) => .ok d env | _ => .no := id rfl
@[simp] theorem cM_ap : cM d env = .ok d env := id rfl
@[simp] theorem nilM_ap : nilM env = .ok [] env := id rfl
@[simp] theorem consM_ap : consM m ms env = match m env with | .ok d e1 => (match ms e1 with | .ok ds e2 => .ok (d :: ds) e2 | .ex e e2 => .ex e e2 | .no => .no) | .ex e e1 => .ex e e1 | .no => .no := id rfl
@[simp] theorem consTM_ap {m : Env → Option D} : consTM m ms env = match m env with | some d => (match ms env with | .ok ds e2 => .ok (d :: ds) e2 | .ex e e2 => .ex e e2 | .no => .no) | none => .no := id rfl
@[simp] theorem consNM_ap : consNM i ms env = match rdM i env with | some _ => (match ms env with | .ok ds e2 => (match rdM i e2 with | some d => .ok (d :: ds) e2 | none => .no) | .ex e e2 => .ex e e2 | .no => .no) | none => .no := id rfl
@[simp] theorem opM_ap : opM f ms env = match ms env with | .ok ds e2 => (match f ds with | some d => .ok d e2 | none => .no) | .ex e e2 => .ex e e2 | .no => .no := id rfl
@[simp] theorem tstM_ap : tstM m env = match m env with | .ok (.bl b) e => .ok b e | .ok _ _ => .no | .ex e e2 => .ex e e2 | .no => .no := id rfl
@[simp] theorem andM_ap {a b : M Bool} : andM a b env = match a env with | .ok true e => b e | r => r := id rfl
@[simp] theorem orM_ap {a b : M Bool} : orM a b env = match a env with | .ok false e => b e | r => r := id rfl
@[simp] theorem notM_ap {a : M Bool} : notM a env = match a env with | .ok b e => .ok (!b) e | r => r := id rfl
@[simp] theorem ifM_ap {α : Type} {a b : M α} : ifM c a b env = match c env with | .ok true e => a e | .ok false e => b e | .ex e e2 => .ex e e2 | .no => .no := id rfl
@[simp] theorem andVM_ap {a b : M D} : andVM a b env = match a env with | .ok (.bl true) e => b e | .ok (.bl false) e => .ok (.bl false) e | .ok _ _ => .no | r => r := id rfl
@[simp] theorem orVM_ap {a b : M D} : orVM a b env = match a env with | .ok (.bl false) e => b e | .ok (.bl true) e => .ok (.bl true) e | .ok _ _ => .no | r => r := id rfl
@[simp] theorem notVM_ap {a : M D} : notVM a env = match a env with | .ok (.bl b) e => .ok (.bl (!b)) e | .ok _ _ => .no | r => r := id rfl
@[simp] theorem immM_ap {m : Env → Option D} : immM m env = match m env with | some d => if imm d then .ok d env else .no | none => .no := id rfl
@[simp] theorem imM_ap : imM m env = match m env with | .ok d e => if imm d then .ok d e else .no | r => r := id rfl
@[simp] theorem ixT_ap {mt : Env → Option D} : ixT mt mk env = match mt env with | some d => (match mk env with | .ok k _ => ixF [d, k] | _ => none) | none => none := id rfl
@[simp] theorem yesM_ap : yesM env = .ok true env := id rfl
@[simp] theorem setM_ap : setM i mv mk env = match mv env with | .ok v e1 => (match rdM i e1 with | some _ => (match mk e1 with | .ok k e2 => (match e2[i]? with | some (some (true, d)) => (match setF d k v with | some d' => .nx (e2.set i (some (true, d'))) | none => .no) | _ => .no) | .ex e e2 => .ex e e2 | .no => .no) | none => .no) | .ex e e2 => .ex e e2 | .no => .no := id rfl
@[simp] theorem mutM_ap {f : List D → List D → Option (List D × D)} : mutM i f ms env = match env[i]? with | some (some (true, .lst _)) => (match ms env with | .ok as e2 => (match e2[i]? with | some (some (true, .lst ds)) => (match f ds as with | some (es, d) => .ok d (e2.set i (some (true, .lst es))) | none => .no) | _ => .no) | .ex e e2 => .ex e e2 | .no => .no) | _ => .no := id rfl
@[simp] theorem mvM_ap : mvM i env = match env[i]? with | some (some (true, d)) => .ok d (env.set i none) | _ => .no := id rfl
@[simp] theorem clF_ap {f : List D → RF} : clF f ms env = match ms env with | .ok ds e => (match f ds with | .ret d => .ok d e | .ex x => .ex x e | .no => .no) | .ex e e2 => .ex e e2 | .no => .no := id rfl
@[simp] theorem clT_ap {f : List D → RF} : clT f ms env = match ms env with | .ok ds e => (match f ds with | .ret d => (if imt d then .ok d e else .no) | .ex x => .ex x e | .no => .no) | .ex e e2 => .ex e e2 | .no => .no := id rfl
@[simp] theorem bdName_ap : bdName i d env = if i < env.length then some (env.set i (some (false, d))) else none := id rfl
@[simp] theorem itemsM_ap : itemsM m env = match m env with | .ok d e => (match itemsD d with | some ds => .ok ds e | none => .no) | .ex e e2 => .ex e e2 | .no => .no := id rfl
@[simp] theorem range1M_ap : range1M ms env = match ms env with | .ok [.int j] e => (haveI : Decidable (-(2 ^ 62) ≤ j ∧ j < 2 ^ 62) := Classical.propDecidable _; if -(2 ^ 62) ≤ j ∧ j < 2 ^ 62 then .ok (rangeL 0 j.toNat) e else .no) | .ok _ _ => .no | .ex e e2 => .ex e e2 | .no => .no := id rfl
@[simp] theorem asgG_ap {bd : D → Env → Option Env} : asgG bd m env = match m env with | .ok d e => (match bd d e with | some e2 => .nx e2 | none => .no) | .ex e e2 => .ex e e2 | .no => .no := id rfl
@[simp] theorem envF_ap {n : Nat} {ds : List D} : envF n ds = ds.map (fun d => some (false, d)) ++ List.replicate (n - ds.length) none := id rfl
@[simp] theorem envP_ap {n : Nat} {a : D} {ds : List D} : envP n a ds = some (true, a) :: (ds.map (fun d => some (false, d)) ++ List.replicate (n - (ds.length + 1)) none) := id rfl
@[simp] theorem callF_ap {np n : Nat} {ds : List D} : callF np n a ds = if ds.length = np then (match a (envF n ds) with | .nx _ => .ret .non | .rt d _ => .ret d | .ex e _ => .ex e | _ => .no) else .no := id rfl
@[simp] theorem callP_ap {np n : Nat} {d : D} {ds : List D} : callP np n a d ds = if ds.length + 1 = np then (match a (envP n d ds) with
  | .nx e => (match ownAt0 e with | some a' => .ret .non a' | none => .no)
  | .rt d e => (match ownAt0 e with | some a' => .ret d a' | none => .no)
  | .ex x e => (match ownAt0 e with | some a' => .ex x a' | none => .no)
  | _ => .no) else .no := id rfl
@[simp] theorem ownAt0_ap {r : Env} : ownAt0 (some (true, d) :: r) = some d := id rfl
@[simp] theorem itemsD_lst {ds : List D} : itemsD (.lst ds) = some ds := rfl
@[simp] theorem itemsD_tup {ds : List D} : itemsD (.tup ds) = some ds := rfl
end
theorem clP_eq {i : Nat} {f : D → List D → RP} {ms : M (List D)} {env : Env} : clP i f ms env = match rdM i env with
  | some _ => (match ms env with
    | .ok ds e => (match e[i]? with
      | some (some (true, a)) => (match f a ds with
        | .ret d a' => .ok d (e.set i (some (true, a')))
        | .ex x a' => .ex x (e.set i (some (true, a')))
        | .no => .no)
      | _ => .no)
    | .ex e e2 => .ex e e2
    | .no => .no)
  | none => .no := rfl
/-- what a def hands back -/
def RetP (r : RP) (Q : D → D → Prop) : Prop := match r with | .ret d a => Q d a | _ => False
def RetF (r : RF) (Q : D → Prop) : Prop := match r with | .ret d => Q d | _ => False
@[simp] theorem RetP_ret {d a : D} {Q : D → D → Prop} : RetP (.ret d a) Q = Q d a := rfl
@[simp] theorem RetF_ret {d : D} {Q : D → Prop} : RetF (.ret d) Q = Q d := rfl
theorem RetP.get {r : RP} {Q : D → D → Prop} (h : RetP r Q) : ∃ d a, r = .ret d a ∧ Q d a := by
  cases r with
  | ret d a => exact ⟨d, a, rfl, h⟩
  | _ => exact h.elim
theorem RetF.get {r : RF} {Q : D → Prop} (h : RetF r Q) : ∃ d, r = .ret d ∧ Q d := by
  cases r with
  | ret d => exact ⟨d, rfl, h⟩
  | _ => exact h.elim
/-! ### ints -/
theorem cmul_l {i j : Int} (h1 : -18446744073709551616 < i) (h2 : i < 18446744073709551616) : CMulA i j := .inl (.inl ⟨by simpa using h1, by simpa using h2⟩)
theorem cmul_r {i j : Int} (h1 : -18446744073709551616 < j) (h2 : j < 18446744073709551616) : CMulA i j := .inl (.inr ⟨by simpa using h1, by simpa using h2⟩)
theorem fmod_pos {x c : Int} (h : 0 < c) : 0 ≤ x.fmod c ∧ x.fmod c < c := ⟨Int.fmod_nonneg_of_pos _ h, Int.fmod_lt_of_pos _ h⟩
theorem cmul_fmod {x c j : Int} (h : 0 < c) (h2 : c < 18446744073709551616) : CMulA (x.fmod c) j := by
  obtain ⟨a, b⟩ := fmod_pos (x := x) h
  exact cmul_l (by omega) (by omega)
theorem addF_int {i j : Int} : addF [.int i, .int j] = some (.int (i + j)) := rfl
theorem mulF_l {i j : Int} (h1 : -18446744073709551616 < i) (h2 : i < 18446744073709551616) : mulF [.int i, .int j] = some (.int (i * j)) := if_pos (cmul_l h1 h2)
theorem mulF_r {i j : Int} (h1 : -18446744073709551616 < j) (h2 : j < 18446744073709551616) : mulF [.int i, .int j] = some (.int (i * j)) := if_pos (cmul_r h1 h2)
theorem mulF_fmod {x c j : Int} (h : 0 < c) (h2 : c < 18446744073709551616) : mulF [.int (x.fmod c), .int j] = some (.int (x.fmod c * j)) := if_pos (cmul_fmod h h2)
theorem modF_int {i j : Int} (h : 0 < j) : modF [.int i, .int j] = some (.int (i.fmod j)) := if_pos (by omega)
theorem fdivF_int {i j : Int} (h : 0 < j) (h2 : j < 1073741824) : fdivF [.int i, .int j] = some (.int (i.fdiv j)) := if_pos (by omega)
theorem cmpF_int {f : Int → Int → Bool} {i j : Int} : cmpF f [.int i, .int j] = some (.bl (f i j)) := rfl
theorem lenF_lst {ds : List D} : lenF [.lst ds] = some (.int ds.length) := rfl
theorem lenF_scr {ds : List Int} : lenF [.scr ds] = some (.int ds.length) := rfl
theorem atI_nat {α : Type} {xs : List α} {i : Int} (h0 : 0 ≤ i) (h : i < xs.length) : atI xs i = xs[i.toNat]? := by
  unfold atI ixN
  rw [if_pos h0, if_pos h]
  rfl
theorem ixF_scr {ns : List Int} {i : Int} (h0 : 0 ≤ i) (h : i < ns.length) : ixF [.scr ns, .int i] = some (.int (ns.getD i.toNat 0)) := by
  show (atI ns i).map D.int = _
  rw [atI_nat h0 h]
  have : i.toNat < ns.length := by omega
  simp [List.getElem?_eq_getElem this, List.getD_eq_getElem?_getD]
theorem ixF_tup {ds : List D} {i : Int} (h0 : 0 ≤ i) (h : i < ds.length) : ixF [.tup ds, .int i] = ds[i.toNat]? := atI_nat h0 h
end MM

set_option Elab.async false
set_option linter.all false
set_option maxRecDepth 100000
set_option maxHeartbeats 4000000
noncomputable section
namespace MM
open PySem PySem.Spec PyProof.Rows L2

/-! ### data of numbers -/
def ofN (l : List Nat) : List D := l.map fun (n : Nat) => D.int (n : Int)
abbrev tupN (l : List Nat) : D := .tup (ofN l)
abbrev lstN (l : List Nat) : D := .lst (ofN l)
@[simp] theorem ofN_length (l : List Nat) : (ofN l).length = l.length := List.length_map ..
@[simp] theorem ofN_nil : ofN [] = [] := rfl
@[simp] theorem ofN_cons (n : Nat) (l : List Nat) : ofN (n :: l) = .int n :: ofN l := rfl
@[simp] theorem ofN_append (l m : List Nat) : ofN (l ++ m) = ofN l ++ ofN m := List.map_append ..
theorem ofN_get (l : List Nat) (i : Nat) : (ofN l)[i]? = (l[i]?).map fun (n : Nat) => D.int (n : Int) := List.getElem?_map ..
theorem rangeL_get? {lo : Int} {n i : Nat} (h : i < n) : (rangeL lo n)[i]? = some (.int (lo + i)) := by
  unfold rangeL
  rw [List.getElem?_map, List.getElem?_range h]
  rfl
@[simp] theorem rangeL_length {lo : Int} {n : Nat} : (rangeL lo n).length = n := by unfold rangeL; rw [List.length_map, List.length_range]
theorem rangeL_get {lo : Int} {n i : Nat} (h : i < (rangeL lo n).length) : (rangeL lo n)[i] = .int (lo + i) :=
  Option.some.inj ((List.getElem?_eq_getElem h).symm.trans (rangeL_get? (by rwa [rangeL_length] at h)))
theorem rangeL_ofN (n : Nat) : rangeL 0 n = ofN (List.range n) := by
  unfold rangeL ofN
  exact List.map_congr_left fun i _ => by simp
/-! ### loops -/
theorem forM_ind {bd : D → Env → Option Env} {body : MS} (P : Nat → Env → Prop) : ∀ (xs : List D) (s : Nat) (e : Env), P s e →
    (∀ i (h : i < xs.length) e, P (s + i) e → ∃ e1 e2, bd xs[i] e = some e1 ∧ (body e1 = .nx e2 ∨ body e1 = .ct e2) ∧ P (s + i + 1) e2) → ∃ e', forM bd body xs e = .nx e' ∧ P (s + xs.length) e'
  | [], s, e, h0, _ => ⟨e, rfl, h0⟩
  | x :: xs, s, e, h0, hs => by
    obtain ⟨e1, e2, h1, h2, h3⟩ := hs 0 (Nat.zero_lt_succ _) e h0
    obtain ⟨e', g1, g2⟩ := forM_ind P xs (s + 1) e2 h3 fun i h e hp => by
      have := hs (i + 1) (Nat.succ_lt_succ h) e (by rw [← Nat.add_assoc, Nat.add_right_comm]; exact hp)
      simpa [Nat.add_assoc, Nat.add_comm 1] using this
    refine ⟨e', ?_, by rw [List.length_cons, Nat.add_comm xs.length, ← Nat.add_assoc]; exact g2⟩
    unfold forM
    have h1' : bd x e = some e1 := h1
    rw [h1']
    rcases h2 with h2 | h2 <;> (dsimp only; rw [h2]; exact g1)
theorem loop_ind {mi : M (List D)} {bd : D → Env → Option Env} {body : MS} {e e0 : Env} {xs : List D} (P : Nat → Env → Prop) (hm : mi e = .ok xs e0) (h0 : P 0 e0)
    (hs : ∀ i (h : i < xs.length) e, P i e → ∃ e1 e2, bd xs[i] e = some e1 ∧ (body e1 = .nx e2 ∨ body e1 = .ct e2) ∧ P (i + 1) e2) : ∃ e', loopM mi bd body e = .nx e' ∧ P xs.length e' := by
  obtain ⟨e', g1, g2⟩ := forM_ind P xs 0 e0 h0 fun i h e hp => by
    have := hs i h e (by rwa [Nat.zero_add] at hp)
    rwa [Nat.zero_add]
  refine ⟨e', ?_, by rwa [Nat.zero_add] at g2⟩
  unfold loopM
  rw [hm]
  exact g1
theorem loop_on {mi : M (List D)} {bd : D → Env → Option Env} {body : MS} {e : Env} {r : RS} (hL : loopM mi bd body e = r) (xs : List D) (P : Nat → Env → Prop) (hm : mi e = .ok xs e) (h0 : P 0 e)
    (hs : ∀ i (h : i < xs.length) e, P i e → ∃ e1 e2, bd xs[i] e = some e1 ∧ (body e1 = .nx e2 ∨ body e1 = .ct e2) ∧ P (i + 1) e2) : ∃ e', r = .nx e' ∧ P xs.length e' := by
  rw [← hL]
  exact loop_ind P hm h0 hs
/-- .. over range(n) -/
theorem loop_rg {n : Nat} {ms : M (List D)} {bd : D → Env → Option Env} {body : MS} {e : Env} {r : RS} (hL : loopM (range1M ms) bd body e = r) (P : Nat → Env → Prop) (hm : ms e = .ok [.int n] e) (hn : n < 1000000000) (h0 : P 0 e)
    (hs : ∀ i (h : i < n) e, P i e → ∃ e1 e2, bd (.int i) e = some e1 ∧ (body e1 = .nx e2 ∨ body e1 = .ct e2) ∧ P (i + 1) e2) : ∃ e', r = .nx e' ∧ P n e' := by
  have := loop_on hL (rangeL 0 n) P (by rw [range1M_ap, hm]; dsimp only; rw [if_pos (by omega)]; simp) h0 fun i h e hp => by
    rw [rangeL_length] at h
    have := hs i h e hp
    rw [rangeL_get, Int.zero_add]
    exact this
  rwa [rangeL_length] at this
end MM

set_option Elab.async false
set_option linter.all false
set_option maxRecDepth 100000
set_option maxHeartbeats 4000000
noncomputable section
namespace MM
open PySem PySem.Spec PyProof.Rows L2

/-- a statement that goes on -/
def NxS (r : RS) (Q : Env → Prop) : Prop := match r with
  | .nx e => Q e
  | .ct e => Q e
  | _ => False
@[simp] theorem NxS_nx {e : Env} {Q : Env → Prop} : NxS (.nx e) Q = Q e := rfl
@[simp] theorem NxS_ct {e : Env} {Q : Env → Prop} : NxS (.ct e) Q = Q e := rfl
def bdB (bd : D → Env → Option Env) (body : MS) (d : D) (e : Env) : RS := match bd d e with
  | some e1 => body e1
  | none => .no
@[simp] theorem bdB_ap {bd : D → Env → Option Env} {body : MS} {d : D} {e : Env} : bdB bd body d e = match bd d e with | some e1 => body e1 | none => .no := id rfl
theorem NxS.get {bd : D → Env → Option Env} {body : MS} {d : D} {e : Env} {Q : Env → Prop} (h : NxS (bdB bd body d e) Q) : ∃ e1 e2, bd d e = some e1 ∧ (body e1 = .nx e2 ∨ body e1 = .ct e2) ∧ Q e2 := by
  unfold bdB at h
  cases eb : bd d e with
  | none => rw [eb] at h; exact h.elim
  | some e1 =>
    rw [eb] at h
    dsimp only at h
    cases er : body e1 with
    | nx e2 => rw [er] at h; exact ⟨e1, e2, rfl, .inl er, h⟩
    | ct e2 => rw [er] at h; exact ⟨e1, e2, rfl, .inr er, h⟩
    | _ => rw [er] at h; exact h.elim
theorem for_rg {n : Nat} {ms : M (List D)} {bd : D → Env → Option Env} {body : MS} {e : Env} {r : RS} (hL : loopM (range1M ms) bd body e = r) (P : Nat → Env → Prop) (hm : ms e = .ok [.int n] e) (hn : n < 1000000000) (h0 : P 0 e)
    (hs : ∀ i (h : i < n) e, P i e → NxS (bdB bd body (.int i) e) (P (i + 1))) : ∃ e', r = .nx e' ∧ P n e' :=
  loop_rg hL P hm hn h0 fun i h e hp => (hs i h e hp).get
end MM

set_option linter.all false
set_option maxRecDepth 100000
namespace MM
/-! ### lists without repeats -/
theorem nodup_map {α β : Type} {f : α → β} : ∀ {l : List α}, l.Nodup → (∀ x ∈ l, ∀ y ∈ l, f x = f y → x = y) → (l.map f).Nodup
  | [], _, _ => List.nodup_nil
  | a :: l, hn, hi => by
    have hn' := List.nodup_cons.mp hn
    refine List.nodup_cons.mpr ⟨fun m => ?_, nodup_map hn'.2 fun x hx y hy => hi x (List.mem_cons_of_mem _ hx) y (List.mem_cons_of_mem _ hy)⟩
    obtain ⟨y, hy, e⟩ := List.mem_map.mp m
    exact hn'.1 (hi y (List.mem_cons_of_mem _ hy) a List.mem_cons_self e ▸ hy)
/-! ### turns -/
def Turn (n : Nat) (l : List Nat) : Prop := l.Perm (List.range n)
def comp (a b : List Nat) : List Nat := a.map fun k => b.getD k 0
theorem Turn.len {n : Nat} {l : List Nat} (h : Turn n l) : l.length = n := by
  have := h.length_eq
  simpa using this
theorem Turn.nodup {n : Nat} {l : List Nat} (h : Turn n l) : l.Nodup := h.nodup_iff.mpr List.nodup_range
theorem Turn.mem {n : Nat} {l : List Nat} (h : Turn n l) {x : Nat} : x ∈ l ↔ x < n := by
  rw [h.mem_iff, List.mem_range]
theorem getD_lt {l : List Nat} {i : Nat} (h : i < l.length) : l.getD i 0 = l[i] := by
  rw [List.getD_eq_getElem?_getD, List.getElem?_eq_getElem h]; rfl
theorem Turn.lt {n : Nat} {l : List Nat} (h : Turn n l) {i : Nat} (hi : i < n) : l.getD i 0 < n := by
  rw [getD_lt (by rw [h.len]; exact hi)]
  exact h.mem.mp (List.getElem_mem _)
theorem Turn.inj {n : Nat} {l : List Nat} (h : Turn n l) {i j : Nat} (hi : i < n) (hj : j < n) (e : l.getD i 0 = l.getD j 0) : i = j := by
  have hi' : i < l.length := by rw [h.len]; exact hi
  have hj' : j < l.length := by rw [h.len]; exact hj
  rw [getD_lt hi', getD_lt hj'] at e
  have pw := List.pairwise_iff_getElem.mp h.nodup
  rcases Nat.lt_trichotomy i j with c | c | c
  · exact absurd e (pw i j hi' hj' c)
  · exact c
  · exact absurd e.symm (pw j i hj' hi' c)
@[simp] theorem comp_length {a b : List Nat} : (comp a b).length = a.length := by simp [comp]
theorem comp_getD {n : Nat} {a b : List Nat} (ha : Turn n a) {i : Nat} (hi : i < n) : (comp a b).getD i 0 = b.getD (a.getD i 0) 0 := by
  have hi' : i < a.length := by rw [ha.len]; exact hi
  rw [getD_lt (by simpa using hi'), getD_lt hi']
  simp [comp]
theorem turn_ext {n : Nat} {a b : List Nat} (ha : a.length = n) (hb : b.length = n) (h : ∀ i, i < n → a.getD i 0 = b.getD i 0) : a = b := by
  refine List.ext_getElem (by rw [ha, hb]) fun i h1 h2 => ?_
  have := h i (by omega)
  rwa [getD_lt h1, getD_lt h2] at this
theorem range_turn (n : Nat) : Turn n (List.range n) := .refl _
theorem range_getD {n i : Nat} (h : i < n) : (List.range n).getD i 0 = i := by
  rw [getD_lt (by simpa using h)]; simp
theorem id_comp {n : Nat} {a : List Nat} (ha : Turn n a) : comp (List.range n) a = a := by
  refine turn_ext (n := n) (by simp) ha.len fun i hi => ?_
  rw [comp_getD (range_turn n) hi, range_getD hi]
/-! ### houses -/
end MM

set_option linter.all false
set_option maxRecDepth 100000
namespace MM
/-! ### the order of a turn of at most seven things -/
/-- its powers -/
def pw (n : Nat) (g : List Nat) : Nat → List Nat
  | 0 => List.range n
  | k + 1 => comp (pw n g k) g
end MM

set_option linter.all false
set_option maxRecDepth 100000
namespace MM
/-! ### what comes of some, one step after another -/
section
variable {α β : Type} [DecidableEq α] (step : α → β → α)
def addAll (one : α) : List β → List α × List α → List α × List α
  | [], s => s
  | g :: gs, s => addAll one gs (if step one g ∈ s.1 then s else (s.1 ++ [step one g], s.2 ++ [step one g]))
inductive Reach (e : α) (gs : List β) : α → Prop
  | base : Reach e gs e
  | step {x : α} {g : β} : Reach e gs x → g ∈ gs → Reach e gs (step x g)
structure Wk (e : α) (gs : List β) (f w : List α) : Prop where
  nd : f.Nodup
  wn : w.Nodup
  sub : ∀ x ∈ w, x ∈ f
  base : e ∈ f
  rc : ∀ x ∈ f, Reach step e gs x
  dn : ∀ x ∈ f, x ∉ w → ∀ g ∈ gs, step x g ∈ f
variable {step}
theorem Wk.start (e : α) (gs : List β) : Wk step e gs [e] [e] where
  nd := by simp
  wn := by simp
  sub := fun x h => h
  base := List.mem_cons_self
  rc := fun x h => by
    rw [List.mem_singleton] at h
    subst h
    exact .base
  dn := fun x h n => absurd h n
theorem addAll_spec (one : α) : ∀ (gs : List β) (f w : List α), ∃ new, addAll step one gs (f, w) = (f ++ new, w ++ new) ∧ (f.Nodup → (f ++ new).Nodup) ∧ (∀ x ∈ new, ∃ g ∈ gs, x = step one g) ∧ ∀ g ∈ gs, step one g ∈ f ++ new
  | [], f, w => ⟨[], by simp [addAll], by simp, by simp, by simp⟩
  | g :: gs, f, w => by
    by_cases h : step one g ∈ f
    · obtain ⟨new, h1, h2, h3, h4⟩ := addAll_spec one gs f w
      refine ⟨new, by rw [addAll, if_pos h, h1], h2, fun x hx => ?_, fun x hx => ?_⟩
      · obtain ⟨g', hg, e⟩ := h3 x hx
        exact ⟨g', List.mem_cons_of_mem _ hg, e⟩
      · rcases List.mem_cons.mp hx with z | z
        · rw [z]; exact List.mem_append_left _ h
        · exact h4 x z
    · obtain ⟨new, h1, h2, h3, h4⟩ := addAll_spec one gs (f ++ [step one g]) (w ++ [step one g])
      refine ⟨step one g :: new, by rw [addAll, if_neg h, h1]; simp, fun hn => ?_, fun x hx => ?_, fun x hx => ?_⟩
      · have : (f ++ [step one g]).Nodup := by
          refine List.nodup_append.mpr ⟨hn, by simp, fun a ha b hb e => ?_⟩
          rw [List.mem_singleton] at hb
          subst hb
          subst e
          exact h ha
        have := h2 this
        simpa using this
      · rcases List.mem_cons.mp hx with z | z
        · exact ⟨g, List.mem_cons_self, z⟩
        · obtain ⟨g', hg, e⟩ := h3 x z
          exact ⟨g', List.mem_cons_of_mem _ hg, e⟩
      · rcases List.mem_cons.mp hx with z | z
        · rw [z]; simp
        · have := h4 x z
          simpa using this
theorem Wk.next {e : α} {gs : List β} {f w : List α} {one : α} (W : Wk step e gs f (w ++ [one])) : ∃ new, addAll step one gs (f, w) = (f ++ new, w ++ new) ∧ Wk step e gs (f ++ new) (w ++ new) := by
  obtain ⟨new, h1, h2, h3, h4⟩ := addAll_spec (step := step) one gs f w
  have ho : one ∈ f := W.sub one (by simp)
  have hnn := List.nodup_append.mp (h2 W.nd)
  refine ⟨new, h1, h2 W.nd, List.nodup_append.mpr ⟨(List.nodup_append.mp W.wn).1, hnn.2.1, fun a ha b hb e => hnn.2.2 a (W.sub a (List.mem_append_left _ ha)) b hb e⟩, fun x hx => ?_, List.mem_append_left _ W.base, fun x hx => ?_, fun x hx hn g hg => ?_⟩
  · rcases List.mem_append.mp hx with z | z
    · exact List.mem_append_left _ (W.sub x (List.mem_append_left _ z))
    · exact List.mem_append_right _ z
  · rcases List.mem_append.mp hx with z | z
    · exact W.rc x z
    · obtain ⟨g, hg, rfl⟩ := h3 x z
      exact .step (W.rc one ho) hg
  · by_cases e : x = one
    · subst e; exact h4 g hg
    · have hw : x ∉ w := fun z => hn (List.mem_append_left _ z)
      have hnew : x ∉ new := fun z => hn (List.mem_append_right _ z)
      have hf : x ∈ f := by
        rcases List.mem_append.mp hx with z | z
        · exact z
        · exact absurd z hnew
      exact List.mem_append_left _ (W.dn x hf (fun z => by
        rcases List.mem_append.mp z with z | z
        · exact hw z
        · exact e (List.mem_singleton.mp z)) g hg)
/-- at the end: all that can be reached -/
theorem Wk.done {e : α} {gs : List β} {f : List α} (W : Wk step e gs f []) (x : α) : x ∈ f ↔ Reach step e gs x :=
  ⟨W.rc x, fun h => by
    induction h with
    | base => exact W.base
    | step _ hg ih => exact W.dn _ ih (by simp) _ hg⟩
theorem Reach.mono {e : α} {gs hs : List β} (h : ∀ g ∈ gs, g ∈ hs) {x : α} (r : Reach step e gs x) : Reach step e hs x := by
  induction r with
  | base => exact .base
  | step _ hg ih => exact .step ih (h _ hg)
end
/-! ### turns that come of some -/
/-! ### numbers of a house that come of some -/
end MM

set_option linter.all false
set_option maxRecDepth 100000
namespace MM
/-! ### pairs -/
structure PwOk (M o : Nat) (p : Nat → Nat) : Prop where
  hM : 0 < M
  ho : 0 < o
  zero : p 0 % M = 1 % M
  mul : ∀ j v, j < o → v < o → p ((j + v) % o) % M = (p j * p v) % M
section
variable {M o : Nat} {p : Nat → Nat} (P : PwOk M o p)
include P
end
end MM

set_option Elab.async false
set_option linter.all false
set_option maxRecDepth 100000
set_option maxHeartbeats 4000000
noncomputable section
namespace MM
open PySem PySem.Spec PyProof.Rows L2

/-! ### equality -/
structure Py (k : Nat) (d : D) (p : PyData) : Prop where
  to : toPy d = some p
  can : p.canLay0 = true
  dep : p.depth ≤ k
structure PyL (k : Nat) (d : List D) (p : List PyData) : Prop where
  to : toPyL d = some p
  can : PyData.canLayAll0 p = true
  dep : PyData.depthAll p ≤ k
theorem Py.shaped {k : Nat} {d : D} {p : PyData} (h : Py k d p) (hk : k ≤ 64) : SeqAt.shaped p = true := by
  unfold SeqAt.shaped
  have := h.dep
  rw [h.can, decide_eq_true (by omega)]
  rfl
theorem Py.int (i : Int) : Py 0 (.int i) (.int i) := ⟨by simp only [toPy], by simp only [PyData.canLay0], by simp only [PyData.depth]; omega⟩
theorem Py.bl (i : Bool) : Py 0 (.bl i) (.bool i) := ⟨by simp only [toPy], by simp only [PyData.canLay0], by simp only [PyData.depth]; omega⟩
theorem Py.non : Py 0 .non .none := ⟨by simp only [toPy], by simp only [PyData.canLay0], by simp only [PyData.depth]; omega⟩
theorem PyL.nil {k : Nat} : PyL k [] [] := ⟨by simp only [toPyL], by simp only [PyData.canLayAll0], by simp only [PyData.depthAll]; omega⟩
theorem PyL.cons {k : Nat} {d : D} {p : PyData} {ds : List D} {ps : List PyData} (h : Py k d p) (t : PyL k ds ps) : PyL k (d :: ds) (p :: ps) :=
  ⟨by simp only [toPyL, h.to, t.to], by simp only [PyData.canLayAll0, h.can, t.can, Bool.and_self], by simp only [PyData.depthAll]; have := h.dep; have := t.dep; omega⟩
theorem Py.lst {k : Nat} {ds : List D} {ps : List PyData} (t : PyL k ds ps) : Py (k + 1) (.lst ds) (.list ps) :=
  ⟨by simp only [toPy, t.to], by simp only [PyData.canLay0, t.can], by simp only [PyData.depth]; have := t.dep; omega⟩
theorem Py.tup {k : Nat} {ds : List D} {ps : List PyData} (t : PyL k ds ps) : Py (k + 1) (.tup ds) (.tuple ps) :=
  ⟨by simp only [toPy, t.to], by simp only [PyData.canLay0, t.can], by simp only [PyData.depth]; have := t.dep; omega⟩
theorem Py.mono {k k' : Nat} {d : D} {p : PyData} (h : Py k d p) (hk : k ≤ k') : Py k' d p := ⟨h.to, h.can, Nat.le_trans h.dep hk⟩
def pyN (l : List Nat) : List PyData := l.map fun (n : Nat) => PyData.int (n : Int)
theorem PyL.ofN : ∀ l : List Nat, PyL 0 (ofN l) (pyN l)
  | [] => .nil
  | n :: l => .cons (.int n) (PyL.ofN l)
theorem PyL.map {α : Type} {k : Nat} {f : α → D} {g : α → PyData} : ∀ {l : List α}, (∀ x ∈ l, Py k (f x) (g x)) → PyL k (l.map f) (l.map g)
  | [], _ => .nil
  | x :: l, h => .cons (h x List.mem_cons_self) (PyL.map fun y hy => h y (List.mem_cons_of_mem _ hy))
theorem eqP_of {k k' : Nat} {a b : D} {p q : PyData} (ha : Py k a p) (hb : Py k' b q) (h1 : k ≤ 64 := by decide) (h2 : k' ≤ 64 := by decide) : eqP a b = some (PyData.eqv p q) := by
  unfold eqP
  rw [ha.to, hb.to]
  dsimp only
  rw [if_pos ⟨ha.shaped h1, hb.shaped h2⟩]
mutual
theorem eqv_refl : ∀ p : PyData, p.canLay0 = true → PyData.eqv p p = true
  | .none, _ => by simp only [PyData.eqv]
  | .bool b, _ => by simp only [PyData.eqv, beq_self_eq_true]
  | .int b, _ => by simp only [PyData.eqv, beq_self_eq_true]
  | .str b, _ => by simp only [PyData.eqv, beq_self_eq_true]
  | .list xs, h => by
    simp only [PyData.eqv]
    exact eqvAll_refl xs (by simpa only [PyData.canLay0] using h)
  | .tuple xs, h => by
    simp only [PyData.eqv]
    exact eqvAll_refl xs (by simpa only [PyData.canLay0] using h)
  | .dict _, h => by simp [PyData.canLay0] at h
theorem eqvAll_refl : ∀ p : List PyData, PyData.canLayAll0 p = true → PyData.eqvAll p p = true
  | [], _ => by simp only [PyData.eqvAll]
  | x :: xs, h => by
    simp only [PyData.canLayAll0, Bool.and_eq_true] at h
    simp only [PyData.eqvAll, eqv_refl x h.1, eqvAll_refl xs h.2, Bool.and_self]
end
theorem eqP_refl {k : Nat} {a : D} {p : PyData} (ha : Py k a p) (h1 : k ≤ 64 := by decide) : eqP a a = some true := by
  rw [eqP_of ha ha h1 h1, eqv_refl p ha.can]
theorem eqvAll_nats : ∀ l m : List Nat, PyData.eqvAll (pyN l) (pyN m) = decide (l = m)
  | [], [] => by simp [pyN, PyData.eqvAll]
  | [], _ :: _ => by simp [pyN, PyData.eqvAll]
  | _ :: _, [] => by simp [pyN, PyData.eqvAll]
  | x :: l, y :: m => by
    have ih := eqvAll_nats l m
    show PyData.eqvAll (.int x :: pyN l) (.int y :: pyN m) = _
    simp only [PyData.eqvAll, PyData.eqv, ih]
    by_cases e : x = y
    · subst e; simp
    · have : (x : Int) ≠ y := by omega
      simp [e, this]
theorem eqP_int (a b : Int) : eqP (.int a) (.int b) = some (decide (a = b)) := by
  rw [eqP_of (.int a) (.int b)]
  simp only [PyData.eqv]
  by_cases e : a = b <;> simp [e]
theorem eqF_ap {a b : D} : eqF [a, b] = (eqP a b).map .bl := rfl
theorem neF_ap {a b : D} : neF [a, b] = (eqP a b).map fun c => .bl (!c) := rfl
theorem eqF_int (a b : Int) : eqF [.int a, .int b] = some (.bl (decide (a = b))) := by rw [eqF_ap, eqP_int]; rfl
theorem neF_int (a b : Int) : neF [.int a, .int b] = some (.bl (!decide (a = b))) := by rw [neF_ap, eqP_int]; rfl
theorem eqP_lstN (l m : List Nat) : eqP (lstN l) (lstN m) = some (decide (l = m)) := by
  rw [eqP_of (.lst (.ofN l)) (.lst (.ofN m))]
  simp only [PyData.eqv, eqvAll_nats]
theorem eqF_lstN (l m : List Nat) : eqF [lstN l, lstN m] = some (.bl (decide (l = m))) := by rw [eqF_ap, eqP_lstN]; rfl
/-! ### dicts as sets of numbers -/
/-! ### sorted -/
def zi (l : List Nat) : List Int := l.map fun (n : Nat) => (n : Int)
/-! ### comprehensions, by their items -/
def OkSlot (e : Env) (k : Nat) : Prop := match e[k]? with
  | some none => True
  | some (some (false, _)) => True
  | _ => False
theorem OkSlot.lt {e : Env} {k : Nat} (h : OkSlot e k) : k < e.length := by
  unfold OkSlot at h
  cases q : e[k]? with
  | none => rw [q] at h; exact h.elim
  | some o => exact (List.getElem?_eq_some_iff.mp q).1
theorem OkSlot.rest {e : Env} {k : Nat} (h : OkSlot e k) (v : Option (Bool × D)) : restE e [k] (e.set k v) = e := by
  unfold restE restE
  unfold OkSlot at h
  cases q : e[k]? with
  | none => rw [q] at h; exact h.elim
  | some o =>
    rw [q] at h
    obtain ⟨hl, e1⟩ := List.getElem?_eq_some_iff.mp q
    cases o with
    | none =>
      dsimp only
      rw [List.set_set, ← e1]
      exact List.set_getElem_self hl
    | some o =>
      obtain ⟨b, d⟩ := o
      cases b with
      | true => exact h.elim
      | false =>
        dsimp only
        rw [List.set_set, ← e1]
        exact List.set_getElem_self hl
theorem comp_mp {α : Type} {vs : List Nat} {bd : D → Env → Option Env} {tt : M Bool} {el : M D} {E : Env} (g : α → D) (c : α → Bool) (f : α → D) : ∀ l : List α,
    (∀ x ∈ l, ∃ e1, bd (g x) E = some e1 ∧ tt e1 = .ok (c x) e1 ∧ (c x = true → el e1 = .ok (f x) e1) ∧ wipeE e1 vs = E) → compM vs bd tt el (l.map g) E = .ok ((l.filter c).map f) E
  | [], _ => rfl
  | x :: l, h => by
    obtain ⟨e1, h1, h2, h3, h4⟩ := h x List.mem_cons_self
    have ih := comp_mp (vs := vs) (bd := bd) (tt := tt) (el := el) g c f l fun y hy => h y (List.mem_cons_of_mem _ hy)
    rw [List.map_cons]
    unfold compM
    rw [h1]
    dsimp only
    rw [h2]
    cases hc : c x with
    | true =>
      dsimp only
      rw [h3 hc]
      dsimp only
      rw [h4, ih, List.filter_cons_of_pos hc]
      rfl
    | false =>
      dsimp only
      rw [h4, ih, List.filter_cons_of_neg (by rw [hc]; exact nofun)]
/-- [el for k in xs if tt], that changes nothing -/
theorem lc_mp {α : Type} {k : Nat} {mi : M (List D)} {tt : M Bool} {el : M D} {e : Env} (l : List α) (g : α → D) (c : α → Bool) (f : α → D) (hm : mi e = .ok (l.map g) e) (hk : OkSlot e k) (hz : l.length < 1000000)
    (h : ∀ x ∈ l, tt (e.set k (some (false, g x))) = .ok (c x) (e.set k (some (false, g x))) ∧ (c x = true → el (e.set k (some (false, g x))) = .ok (f x) (e.set k (some (false, g x))))) :
    lcM [k] mi (bdName k) tt el e = .ok (.lst ((l.filter c).map f)) e := by
  have := comp_mp (vs := [k]) (bd := bdName k) (tt := tt) (el := el) (E := e.set k none) g c f l fun x hx => ⟨e.set k (some (false, g x)), by
    unfold bdName
    rw [if_pos (by rw [List.length_set]; exact hk.lt), List.set_set], (h x hx).1, (h x hx).2, by
    unfold wipeE wipeE
    rw [List.set_set]⟩
  unfold lcM
  rw [hm]
  dsimp only
  rw [if_pos (by rw [List.length_map, sizeLine_eq]; omega)]
  have e0 : wipeE e [k] = e.set k none := rfl
  rw [e0, this]
  dsimp only
  rw [hk.rest]
/-- .. without an if -/
theorem lc_mp' {α : Type} {k : Nat} {mi : M (List D)} {el : M D} {e : Env} (l : List α) (g : α → D) (f : α → D) (hm : mi e = .ok (l.map g) e) (hk : OkSlot e k) (hz : l.length < 1000000)
    (h : ∀ x ∈ l, el (e.set k (some (false, g x))) = .ok (f x) (e.set k (some (false, g x)))) :
    lcM [k] mi (bdName k) yesM el e = .ok (.lst (l.map f)) e := by
  have := lc_mp (k := k) (mi := mi) (tt := yesM) (el := el) (e := e) l g (fun _ => true) f hm hk hz fun x hx => ⟨rfl, fun _ => h x hx⟩
  rwa [List.filter_eq_self.mpr (fun _ _ => rfl)] at this
/-- .. over range(n) -/
theorem range1_ok {n : Nat} {ms : M (List D)} {e e0 : Env} (hm : ms e = .ok [.int n] e0) (hn : n < 1000000000) : range1M ms e = .ok ((List.range n).map fun (i : Nat) => D.int (i : Int)) e0 := by
  rw [range1M_ap, hm]
  dsimp only
  rw [if_pos (by omega), Int.toNat_natCast, rangeL_ofN]
  rfl
theorem lc_rgf {k n : Nat} {ms : M (List D)} {tt : M Bool} {el : M D} {e : Env} (c : Nat → Bool) (f : Nat → D) (hm : ms e = .ok [.int n] e) (hk : OkSlot e k) (hn : n < 1000000)
    (h : ∀ i, i < n → tt (e.set k (some (false, .int i))) = .ok (c i) (e.set k (some (false, .int i))) ∧ (c i = true → el (e.set k (some (false, .int i))) = .ok (f i) (e.set k (some (false, .int i))))) :
    lcM [k] (range1M ms) (bdName k) tt el e = .ok (.lst (((List.range n).filter c).map f)) e :=
  lc_mp (List.range n) (fun (i : Nat) => D.int (i : Int)) c f (range1_ok hm (by omega)) hk (by simpa using hn) fun x hx => h x (List.mem_range.mp hx)
theorem lc_on' {α : Type} {k : Nat} {mi : M (List D)} {el : M D} {e : Env} {rc : R D} (hC : lcM [k] mi (bdName k) yesM el e = rc) (l : List α) (g : α → D) (f : α → D) (hm : mi e = .ok (l.map g) e) (hk : OkSlot e k) (hz : l.length < 1000000)
    (h : ∀ x ∈ l, el (e.set k (some (false, g x))) = .ok (f x) (e.set k (some (false, g x)))) : rc = .ok (.lst (l.map f)) e := hC ▸ lc_mp' l g f hm hk hz h
theorem lc_rgfo {k n : Nat} {ms : M (List D)} {tt : M Bool} {el : M D} {e : Env} {rc : R D} (hC : lcM [k] (range1M ms) (bdName k) tt el e = rc) (c : Nat → Bool) (f : Nat → D) (hm : ms e = .ok [.int n] e) (hk : OkSlot e k) (hn : n < 1000000)
    (h : ∀ i, i < n → tt (e.set k (some (false, .int i))) = .ok (c i) (e.set k (some (false, .int i))) ∧ (c i = true → el (e.set k (some (false, .int i))) = .ok (f i) (e.set k (some (false, .int i))))) :
    rc = .ok (.lst (((List.range n).filter c).map f)) e := hC ▸ lc_rgf c f hm hk hn h
/-- a for, by the items that were walked -/
theorem for_ls {α : Type} {bd : D → Env → Option Env} {body : MS} (g : α → D) (P : List α → Env → Prop) (L : List α) : ∀ (l done : List α) (e : Env), L = done ++ l → P done e →
    (∀ done x rest e, L = done ++ x :: rest → P done e → NxS (bdB bd body (g x) e) (P (done ++ [x]))) → ∃ e', forM bd body (l.map g) e = .nx e' ∧ P L e'
  | [], done, e, hL, h0, _ => ⟨e, rfl, by rw [hL, List.append_nil]; exact h0⟩
  | x :: l, done, e, hL, h0, hs => by
    obtain ⟨e1, e2, h1, h2, h3⟩ := (hs done x l e hL h0).get
    obtain ⟨e', g1, g2⟩ := for_ls g P L l (done ++ [x]) e2 (by rw [hL, List.append_assoc]; rfl) h3 hs
    refine ⟨e', ?_, g2⟩
    rw [List.map_cons]
    unfold forM
    rw [h1]
    rcases h2 with h2 | h2 <;> (dsimp only; rw [h2]; exact g1)
theorem for_items {α : Type} {mi : M (List D)} {bd : D → Env → Option Env} {body : MS} {e : Env} {r : RS} (hL : loopM mi bd body e = r) (l : List α) (g : α → D) (P : List α → Env → Prop) (hm : mi e = .ok (l.map g) e) (h0 : P [] e)
    (hs : ∀ done x rest e, l = done ++ x :: rest → P done e → NxS (bdB bd body (g x) e) (P (done ++ [x]))) : ∃ e', r = .nx e' ∧ P l e' := by
  obtain ⟨e', h1, h2⟩ := for_ls (bd := bd) (body := body) g P l l [] e rfl h0 hs
  refine ⟨e', ?_, h2⟩
  rw [← hL]
  unfold loopM
  rw [hm]
  exact h1
@[simp] theorem dT1M_ap {mk mv : M D} {env : Env} : dT1M mk mv env = match mk env with
  | .ok (.tup ks) e1 => (match mv e1 with
    | .ok v e2 => (match keysD ks with
      | some k => .ok (.dT [(k, v)]) e2
      | none => .no)
    | .ex e e2 => .ex e e2
    | .no => .no)
  | .ok _ _ => .no
  | .ex e e2 => .ex e e2
  | .no => .no := id rfl
@[simp] theorem slM_ap {m : M D} {ml mh : M (Option Int)} {env : Env} : slM m ml mh env = match m env with
  | .ok d e1 => (match ml e1 with
    | .ok lo e2 => (match mh e2 with
      | .ok hi e3 => (match slF d lo hi with
          | some r => .ok r e3
          | none => .no)
      | .ex x e3 => .ex x e3
      | .no => .no)
    | .ex x e2 => .ex x e2
    | .no => .no)
  | .ex x e1 => .ex x e1
  | .no => .no := id rfl
@[simp] theorem noM_ap {env : Env} : noM env = .ok none env := id rfl
@[simp] theorem partM_ap {m : M D} {env : Env} : partM m env = match m env with
  | .ok (.int i) e => .ok (some i) e
  | .ok _ _ => .no
  | .ex e e2 => .ex e e2
  | .no => .no := id rfl
@[simp] theorem lstM_ap {ms : M (List D)} {env : Env} : lstM ms env = match ms env with
  | .ok ds e2 => (haveI : Decidable (ds.length ≤ sizeLine) := Classical.propDecidable _; if ds.length ≤ sizeLine then R.ok (D.lst ds) e2 else .no)
  | .ex e e2 => .ex e e2
  | .no => .no := by
  unfold lstM opM
  cases ms env with
  | ok ds e2 => dsimp only; by_cases h : ds.length ≤ sizeLine <;> simp only [h, if_true, if_false]
  | _ => rfl
@[simp] theorem tupM_ap {ms : M (List D)} {env : Env} : tupM ms env = match ms env with
  | .ok ds e2 => (haveI : Decidable (ds.length ≤ sizeLine) := Classical.propDecidable _; if ds.length ≤ sizeLine then R.ok (D.tup ds) e2 else .no)
  | .ex e e2 => .ex e e2
  | .no => .no := by
  unfold tupM opM
  cases ms env with
  | ok ds e2 => dsimp only; by_cases h : ds.length ≤ sizeLine <;> simp only [h, if_true, if_false]
  | _ => rfl
theorem le_size {n : Nat} (h : n < 1000000) : (n ≤ sizeLine) = True := eq_true (by rw [sizeLine_eq]; omega)
/-! ### pop, cuts -/
/-! ### comprehensions that draw: the state goes through F -/
theorem OkSlot.rest2 {e e' : Env} {k : Nat} (h : OkSlot e k) (he : e'[k]? = e[k]?) (v : Option (Bool × D)) : restE e [k] (e'.set k v) = e' := by
  have h' : OkSlot e' k := by unfold OkSlot at h ⊢; rw [he]; exact h
  have := h'.rest v
  unfold restE at this ⊢
  rw [← he]
  exact this
@[simp] theorem chM_ap {f g : Int → Int → Bool} {ms : M (List D)} {mc : M D} {env : Env} : chM f g ms mc env = match ms env with
  | .ok [.int i, .int j] e => (if f i j then (match mc e with
      | .ok (.int k) e2 => .ok (.bl (g j k)) e2
      | .ok _ _ => .no
      | .ex x e2 => .ex x e2
      | .no => .no)
    else .ok (.bl false) e)
  | .ok _ _ => .no
  | .ex e e2 => .ex e e2
  | .no => .no := id rfl
theorem blsOf_map {α : Type} (p : α → Bool) : ∀ l : List α, blsOf (l.map fun x => D.bl (p x)) = some (l.map p)
  | [] => rfl
  | x :: l => by rw [List.map_cons, blsOf, blsOf_map p l]; rfl
theorem allF_map {α : Type} (p : α → Bool) (l : List α) : allF [.lst (l.map fun x => D.bl (p x))] = some (.bl (l.all p)) := by
  unfold allF
  simp only [blsOf_map, List.all_map, Function.id_comp]
@[simp] theorem zipM_ap {ms : M (List D)} {env : Env} : zipM ms env = match ms env with
  | .ok [.lst xs, .lst ys] e => .ok (zipD xs ys) e
  | .ok [.tup xs, .tup ys] e => .ok (zipD xs ys) e
  | .ok _ _ => .no
  | .ex e e2 => .ex e e2
  | .no => .no := id rfl
end MM

set_option Elab.async false
set_option linter.all false
set_option maxRecDepth 100000
set_option maxHeartbeats 4000000
noncomputable section
namespace MM
open PySem PySem.Spec PyProof.Rows L2

/-! ### is, of truths -/
section
variable {K : PySem.W.Frag} {mg : Str → Option Value} {W : WX} {p q : Bool} {te to ta tb tc : TE} {m ma mb mc : M D} {i : Nat} {tA : TA} {ms : M (List D)} {Z : Hp}
/-! ### sum, min, max of a list of numbers -/
/-! ### methods of lists that are read -/
/-- a method's word, on a list and what is handed -/
def OpMt (K : PySem.W.Frag) (r : V → List V → Hp → VK → Prop) (f : List D → Option D) : Prop :=
  ∀ H d ds x vs (Q : VK) y, Rep K H d x → RepL K H ds vs → f (d :: ds) = some y → (∀ v, Sc y v → Q v H) → r x vs H Q
def bmM (f : List D → Option D) (m : M D) (ms : M (List D)) : M D := fun env => match m env with
  | .ok (.lst ds) e1 => match ms e1 with
    | .ok as e2 => match f (.lst ds :: as) with
      | some d => .ok d e2
      | none => .no
    | .ex e e2 => .ex e e2
    | .no => .no
  | .ok _ _ => .no
  | .ex e e2 => .ex e e2
  | .no => .no
end
section
variable {X : Cx} {K : PySem.W.Frag}
theorem pe_bm_ {o e : Expr} {es : List Expr} {to : TE} {t : TA} {name : Str} {apos cpos : Pos} {T id : String} {r : V → List V → Hp → VK → Prop} (hK : X.K = K) (pa : PlainAttrs T) (slot : Slot T name id) (hty : typeOf (.builtin id) = pure (.type "method_descriptor")) (hm : MtR X id r) (ho : PE X o to) (ha : PA X (e :: es) t)
    (hbase : attributeBase o name X.env (eval o X.env) = eval o X.env := by rfl)
    (hfew : ((backTo cpos (starEach (e :: es) X.env)).all (fun x => !x.1) && (backToKw cpos (keywordEach [] X.env)).all (fun x => x.1.isSome)
      && decide ((e :: es).length + ([] : List Keyword).length + (if ([] : List Keyword).isEmpty then 0 else 1) < 30)) = true := by rfl)
    (hline : (apos.endLine == cpos.line) = true := by rfl) (hs : starEach (e :: es) X.env = (false, eval e X.env) :: starEach es X.env := by rfl) (hplain : (backTo cpos (starEach es X.env)).any (·.1) = false := by rfl) :
    PE X (.Call (.Attribute o name apos) (e :: es) [] cpos) (tBM K T r to t) := hK ▸ pe_bm pa slot hty hm ho ha hbase hfew hline hs hplain
end
@[simp] theorem bmM_ap {f : List D → Option D} {m : M D} {ms : M (List D)} {env : Env} : bmM f m ms env = match m env with
  | .ok (.lst ds) e1 => (match ms e1 with
    | .ok as e2 => (match f (.lst ds :: as) with
      | some d => .ok d e2
      | none => .no)
    | .ex e e2 => .ex e e2
    | .no => .no)
  | .ok _ _ => .no
  | .ex e e2 => .ex e e2
  | .no => .no := id rfl
end MM

set_option Elab.async false
set_option linter.all false
set_option maxRecDepth 100000
set_option maxHeartbeats 4000000
noncomputable section
namespace MM
open PySem PySem.Spec PyProof.Rows L2

/-! ### defs that are run where nothing is being shown: the guards are empty -/
structure FnG (P : Program) (w : World) (K : PySem.W.Frag) (mg : Str → Option Value) (base : Heap) (k : Nat) (f : Addr) (fd : FuncData) (ps : List Str) (sp : Sp) : Prop where
  len : ∀ {vs H Q E}, sp vs H Q E → vs.length = ps.length
  run : ∀ {A outer s H args us vs Q E}, Room k A → A.guards = some [] → Env0 P w K mg base A outer s H → BindsTo s fd args (List.zip ps us) → Vals vs us → sp vs H Q E →
    codeAny (model P w) A (Code.call (Value.ref f) args) (CR (L2.CX P w) outer P w H s Q E) s
section
variable {P : Program} {w : World} {K : PySem.W.Frag} {mg : Str → Option Value} {base : Heap}
theorem FnG.mono {j k : Nat} {f : Addr} {fd : FuncData} {ps : List Str} {sp : Sp} (F : FnG P w K mg base j f fd ps sp) (h : j ≤ k) : FnG P w K mg base k f fd ps sp where
  len := F.len
  run := fun r g e b v x => F.run (r.mono h) g e b v x
theorem FnG.imp {k : Nat} {f : Addr} {fd : FuncData} {ps : List Str} {sp sp' : Sp} (F : FnG P w K mg base k f fd ps sp) (h : ∀ {vs H Q E}, sp' vs H Q E → sp vs H Q E) : FnG P w K mg base k f fd ps sp' where
  len := fun x => F.len (h x)
  run := fun r g e b v x => F.run r g e b v (h x)
/-- the end of a body is the end of its call -/
theorem end_of_body {CX : CXT} {N : List Str} {qual : Str} {scope : Scope} {f : Addr} {cdv : Value} {A : Around} {outer : List PySem.Env} {s s2 : Shared} {H H2 : Hp} {E : XK} {σ2 : St} {Q : VK} {v : V} {u : Value}
    (J : Inv (cxOf CX P w K mg base N qual scope f cdv A outer s H E) [] σ2 H2 s2) (rv : RelV v u) (q : Q v H2) : CE outer P w H s Q u s2 := by
  refine ⟨v, H2, ?_⟩
  exact ⟨J.os, J.bare, J.base, J.hok, rv, q⟩
theorem fnG_body {x qual : Str} {st : Stmt} {f : Addr} {fd : FuncData} {N ps : List Str} {k : Nat} {sp : Sp} (F : Fun K x qual st f fd) (S : FnScope N ps (defScope st)) (len : ∀ {vs H Q E}, sp vs H Q E → vs.length = ps.length)
    (hb : ∀ (cdv : Value) (A : Around) (outer : List PySem.Env) (s : Shared) (H : Hp) (vs : List V) (Q : VK) (E : XK), Room k (A.deeper (envOfC qual (defScope st) s.heap.objs.size f cdv)) → A.guards = some [] → sp vs H Q E →
      ∃ t, PSs (cxOf (L2.CX P w) P w K mg base N qual (defScope st) f cdv A outer s H E) (defBody st) t ∧ t { nx := fun _ H' => Q .non H', rt := Q } (L2.start N vs) H) : FnG P w K mg base (k + 1) f fd ps sp where
  len := len
  run := by
    intro A outer s H args us vs Q E room hg e0 hbind r hsp
    obtain ⟨oc, od, kV, doc, pm, an, cdv, ct, osl, rfl, lk, hcd⟩ := F.ex
    have old : ∀ b o, base.get? b = some o → s.heap.get? b = some o := fun b o e => (e0.bs b o e).1
    have KX := e0.mod.kin.keeps old
    have lim := e0.mod.nolimit.keeps old
    have lens := len hsp
    refine codeAny_call_function room.depth (KX _ _ lk) rfl S.co S.gen rfl (PySem.W.codeRec_of KX hcd) (hbind _ _ _ _ ?_)
    have kinds : ∀ y ∈ ps.zip us, (defScope st).names.lookup y.1 = some NameKind.local ∨ ((defScope st).names.lookup y.1 = some NameKind.cell ∧ ((cellsFrom (s.heap.objs.size + 1) (defScope st).names []).lookup y.1).isSome = true) := by
      rintro ⟨n, v⟩ hy
      have hn := S.par n (List.of_mem_zip hy).1
      cases hn with
      | inl q => exact Or.inl q
      | inr q => exact Or.inr ⟨q, PySem.W.cellsFrom_some _ _ _ (.inl q)⟩
    refine wpAny_newFunctionEnv_cells S.kind kinds ?_
    intro env he s1 entered
    subst he
    refine ⟨lim.keeps entered.toInCall.keep, codeAny_func ?_⟩
    obtain ⟨t, ht, hq⟩ := hb cdv A outer s H vs Q E (room.deeper _) hg hsp
    have I := inv_start (CX := L2.CX P w) (E := E) S room.hd e0 lens r entered
    refine wpAny_mono (ht.run [] s1 (L2.start N vs) H _ I hq) ?_ (fun _ _ z => z)
    intro fl s2 hs
    match fl, hs with
    | .ret u, ⟨v, σ2, H2, J, rv, q⟩ => exact end_of_body J rv q
    | .next, ⟨σ2, H2, J, q⟩ => exact end_of_body (v := V.non) (u := .none) J rfl q
    | .brk, ⟨_, _, _, q⟩ => exact q.elim
    | .cont, ⟨_, _, _, q⟩ => exact q.elim
/-- what a def of the layer promises, from its mirror -/
theorem fnF_G {x qual : Str} {st : Stmt} {f : Addr} {fd : FuncData} {N ps : List Str} {k : Nat} {ro : Bool} {m : MS} {g : List D → RF} {np nn : Nat} (hp : ps.length = np) (hn : N.length = nn) (hf : callF np nn m = g) (F : Fun K x qual st f fd) (S : FnScope N ps (defScope st))
    (hbody : ∀ (cdv : Value) (A : Around) (outer : List PySem.Env) (s : Shared) (H : Hp) (E : XK), Room k (A.deeper (envOfC qual (defScope st) s.heap.objs.size f cdv)) → A.guards = some [] →
      ∃ t, PSs (cxOf (L2.CX P w) P w K mg base N qual (defScope st) f cdv A outer s H E) (defBody st) t ∧ EvS K mg (fun cls d _ H => E cls d H) [] ro t m) :
    FnG P w K mg base (k + 1) f fd ps (spF K mg ro g) := by
  subst hf hp hn
  exact fnG_body F S (fun h => spF_len h) fun cdv A outer s H vs Q E hr hg h => by
    obtain ⟨t, h1, h2⟩ := hbody cdv A outer s H E hr hg
    exact ⟨t, h1, body_F h2 h⟩
theorem fnP_G {x qual : Str} {st : Stmt} {f : Addr} {fd : FuncData} {N ps : List Str} {k : Nat} {ro : Bool} {m : MS} {g : D → List D → RP} {np nn : Nat} (hp : ps.length = np) (hn : N.length = nn) (hf : callP np nn m = g) (F : Fun K x qual st f fd) (S : FnScope N ps (defScope st))
    (hbody : ∀ (cdv : Value) (A : Around) (outer : List PySem.Env) (s : Shared) (H : Hp) (E : XK), Room k (A.deeper (envOfC qual (defScope st) s.heap.objs.size f cdv)) → A.guards = some [] →
      ∃ t, PSs (cxOf (L2.CX P w) P w K mg base N qual (defScope st) f cdv A outer s H E) (defBody st) t ∧ EvS K mg (fun cls d _ H => E cls d H) [0] ro t m) :
    FnG P w K mg base (k + 1) f fd ps (spP K mg ro g) := by
  subst hf hp hn
  exact fnG_body F S (fun h => spP_len h) fun cdv A outer s H vs Q E hr hg h => by
    obtain ⟨t, h1, h2⟩ := hbody cdv A outer s H E hr hg
    exact ⟨t, h1, body_P h2 h⟩
end
section
variable {X : Cx} {k : Nat} {f : Addr} {fd : FuncData} {ps : List Str} {sp : Sp} {E : St → XK} {x : Str} {p pos : Pos} {e : Expr} {es : List Expr} {t : TA}
theorem runG {pins : List (Addr × Obj)} {σ : St} {H : Hp} {s : Shared} {Q : VK} {us : List Value} {vs : List V} (F : FnG X.prog X.w X.K X.mg X.base k f fd ps sp) (room : Room k X.A) (hg : X.A.guards = some []) (hb : Binds X.K fd ps []) (hx : PassesAt (L2.CX X.prog X.w) X σ (E σ))
    (I : Inv X pins σ H s) (r : Vals vs us) (h : sp vs H Q (E σ)) : wpAny (model X.prog X.w) X.A (call (.ref f) us) (EP X pins σ Q) X.xe s := by
  have lens : (us ++ []).length = ps.length := by simpa [← r.length] using F.len h
  have b := hb s us I.kIn lens
  simp only [List.append_nil] at b
  refine wpAny_call (codeAny_mono (F.run room hg I.env0 b r h) ?_)
  intro res s2 hq
  match res, hq with
  | .error u, hq => exact hx pins H s u s2 I hq
  | .ok (.ret u), hq => exact I.after hq
  | .ok .next, hq => exact hq.elim
  | .ok .brk, hq => exact hq.elim
  | .ok .cont, hq => exact hq.elim
theorem pe_callG (F : FnG X.prog X.w X.K X.mg X.base k f fd ps sp) (room : Room k X.A) (hgd : X.A.guards = some []) (hg : Gl X x) (hm : X.mg x = some (.ref f)) (hk : PySem.W.keepIn X.K (.ref f) = true) (hb : Binds X.K fd ps []) (hx : ∀ σ, PassesAt (L2.CX X.prog X.w) X σ (E σ))
    (ha : PA X (e :: es) t) (hdb : (x == ("__debug__" : Str)) = false := by decide) (he : starEach (e :: es) X.env = (false, eval e X.env) :: starEach es X.env := by rfl) (hpl : (backTo pos (starEach es X.env)).any (·.1) = false := by rfl) :
    PE X (.Call (.Name x p) (e :: es) [] pos) (tCallS sp E t) where
  run := by
    intro pins s σ H Q I h
    have args := ha.run pos pins s σ H _ I h
    refine wpAny_Call_Name_kw (ld_glob I hg hm (PySem.W.callWith_K (h₀ := X.base) I.ok.mod.kin hk (thn args ?_) he hpl) hdb)
    rintro us s1 ⟨vs, H1, I1, r, q⟩
    exact ⟨I1.kIn, runG F room hgd hb (hx σ) I1 r q⟩
end
/-! ### the head: the law is called where nothing is being shown -/
section
variable {P : Program} {w : World} {K : PySem.W.Frag} {mg mb : Str → Option Value} {k : Nat} {fa a : Addr} {fd : FuncData} {x : Str} {sp : Sp} {s1 : Shared} {vs : List Value} {ns : List Int}
/-- one list at most is tracked: the script -/
structure OneTr (K : PySem.W.Frag) (s1 : Shared) (a : Addr) (H : Hp) : Prop where
  only : Only H
  at_ : ∀ {b}, H b ≠ none → b = a
  own : H a ≠ none → K.lookup a = none
theorem OneTr.free {H : Hp} (O : OneTr K s1 a H) (ha : s1.heap.get? a = some { cls := .type "list", data := .seq vs.toArray }) {b : Addr} {o : Obj} {es : Array DictEntry} {ep : Nat} (e : s1.heap.get? b = some o) (d : o.data = .dict es ep) : H b = none := by
  refine Classical.byContradiction fun n => ?_
  obtain rfl := O.at_ n
  rw [ha] at e
  injection e with e
  subst e
  cases d
theorem OneTr.nsp {H : Hp} (O : OneTr K s1 a H) (ha : s1.heap.get? a = some { cls := .type "list", data := .seq vs.toArray }) {b : Addr} {m : Str → Option Value} (h : s1.heap.Ns b m) : (hidT s1.heap H).Ns b m := by
  obtain ⟨o, es, ep, e, d, r⟩ := h
  exact ⟨o, es, ep, hidT_get e (O.free ha e d), d, r⟩
theorem OneTr.kin {H : Hp} (O : OneTr K s1 a H) (KX : K.In s1.heap) : K.In (hidT s1.heap H) := by
  intro b o e
  refine hidT_get (KX b o e) (Classical.byContradiction fun n => ?_)
  obtain rfl := O.at_ n
  rw [O.own n] at e
  cases e
theorem head_from {H : Hp} (O : OneTr K s1 a H) (hS : SqL K H a (ns.map V.int)) (hok : HOk P w H s1.heap) (KX : K.In s1.heap) (hns : s1.heap.Ns mainGlobals mg) (hb : s1.heap.Ns builtinsNs mb) (hbb : ∀ y : Str, y ≠ "__name__" → mb y = bootBuiltins y) (hlim : s1.heap.NoLimit) (hg : s1.gens = #[])
    (ha : s1.heap.get? a = some { cls := .type "list", data := .seq vs.toArray }) (room : Room k callerA)
    (F : ∀ base : Heap, K.In base → base.Ns mainGlobals mg → FnG P w K mg base k fa fd [x] sp) (hbind : ∀ (s : Shared) (u : Value), BindsTo s fd ⟨[u], []⟩ [(x, u)])
    (hsp : sp [.ref a] H (fun v _ => v = .bl true) fun _ _ _ => False) :
    codeAny (model P w) callerA (Code.call (Value.ref fa) ⟨[.ref a], []⟩) (fun r s' => r = .ok (.ret (.bool true)) ∧ OldK s1.heap s'.heap ∧ s'.os = s1.os ∧ AllBare s'.gens) s1 := by
  have K2 := O.kin KX
  have ns2 := O.nsp ha hns
  obtain ⟨mc, c1, c2⟩ := hlim
  have M : Mod K mg (hidT s1.heap H) := ⟨K2, ns2, ⟨mb, O.nsp ha hb, hbb⟩, mc, O.nsp ha c1, c2⟩
  have e0 : Env0 P w K mg (hidT s1.heap H) callerA [] s1 H := by
    refine ⟨rfl, M, ?_, ?_, trivial, ?_, hok, .of_eq hg⟩
    · exact fun b o e => of_hidT e
    · exact Nat.le_of_eq (hidT_size _ _)
    · exact fun b z => (List.not_mem_nil z).elim
  have r1 : Vals [V.ref a] [Value.ref a] := .cons rfl .nil
  have go := (F _ K2 ns2).run room rfl e0 (hbind s1 (.ref a)) r1 hsp
  refine codeAny_mono go ?_
  intro res s2 hq
  match res, hq with
  | .error e, hq =>
    obtain ⟨_, _, _, _, _, _, _, _, _, _, _, _, z⟩ := hq
    exact z.elim
  | .ok .next, hq => exact hq.elim
  | .ok .brk, hq => exact hq.elim
  | .ok .cont, hq => exact hq.elim
  | .ok (.ret u), ⟨v, H2, os, bare, un, hok2, rv, q⟩ =>
    subst q
    cases (show u = Value.bool true from rv)
    refine ⟨rfl, OldK.of_keep fun b o e => ?_, os, bare⟩
    rcases O.only b with z | ⟨ob, xs, z⟩
    · exact un.keep b o e z (List.not_mem_nil) (by simp)
    · have f1 := (hok b _ z).1
      have f2 := (hok2 b _ (un.frzs b ob _ z)).1
      rw [f1] at e
      rw [f2, ← e]
theorem law_G (KX : K.In s1.heap) (hns : s1.heap.Ns mainGlobals mg) (hb : s1.heap.Ns builtinsNs mb) (hbb : ∀ y : Str, y ≠ "__name__" → mb y = bootBuiltins y) (hlim : s1.heap.NoLimit) (hg : s1.gens = #[])
    (ha : s1.heap.get? a = some { cls := .type "list", data := .seq vs.toArray }) (hi : IntsAre vs ns) (hl : ns.length ≤ sizeLine) (room : Room k callerA)
    (F : ∀ base : Heap, K.In base → base.Ns mainGlobals mg → FnG P w K mg base k fa fd [x] sp) (hbind : ∀ (s : Shared) (u : Value), BindsTo s fd ⟨[u], []⟩ [(x, u)])
    (hsp : ∀ H : Hp, SqL K H a (ns.map V.int) → sp [.ref a] H (fun v _ => v = .bl true) fun _ _ _ => False) :
    codeAny (model P w) callerA (Code.call (Value.ref fa) ⟨[.ref a], []⟩) (fun r s' => r = .ok (.ret (.bool true)) ∧ OldK s1.heap s'.heap ∧ s'.os = s1.os ∧ AllBare s'.gens) s1 := by
  have rv := vals_ints hi
  have lenV := hi.length
  cases hk : K.lookup a with
  | some o =>
    have e := KX a o hk
    rw [ha] at e
    injection e with e
    subst e
    have S : SqL K (fun _ => none) a (ns.map V.int) := .inr ⟨_, vs.toArray, _, hk, rfl, rfl, rfl, by simpa [lenV] using hl, by simpa using rv⟩
    refine head_from ⟨fun _ => .inl rfl, fun n => (n rfl).elim, fun n => (n rfl).elim⟩ S (fun b u z => nomatch z) KX hns hb hbb hlim hg ha room F hbind (hsp _ S)
  | none =>
    let H : Hp := fun b => if b = a then some (.frz { cls := .type "list", data := .seq vs.toArray } (.lst (ns.map V.int))) else none
    have Ha : H a = some (.frz { cls := .type "list", data := .seq vs.toArray } (.lst (ns.map V.int))) := if_pos rfl
    have Hn : ∀ b, b ≠ a → H b = none := fun b n => if_neg n
    have S : SqL K H a (ns.map V.int) := .inl (.inr ⟨_, Ha⟩)
    refine head_from (H := H) ⟨fun b => ?_, fun {b} n => Classical.byContradiction fun z => n (Hn b z), fun _ => hk⟩ S (fun b u z => ?_) KX hns hb hbb hlim hg ha room F hbind (hsp _ S)
    · by_cases e : b = a
      · subst e; exact .inr ⟨_, _, Ha⟩
      · exact .inl (Hn b e)
    · by_cases e : b = a
      · subst e
        rw [Ha] at z
        injection z with z
        subst z
        exact ⟨ha, by rw [List.length_map]; exact hl, vs, _, rv, ha⟩
      · rw [Hn b e] at z
        cases z
end
theorem walk_G {l : PySem.W.OpenLaw} {n k : Nat} {q : Program} {loose : List Str} {XP : (Str → Option Value) → Heap → Prop} {YP : World → Heap → Prop} {d : DefRec} {K : Params → PySem.W.Frag} {sp : World → Sp} {x : Str}
    (hn : l.most = some n) (hn2 : n ≤ sizeLine) (hdf : d.params.defaults = []) (room : Room k callerA) (hY : ∀ (w : World) (h : Heap), YP w h → (K w.params).In h)
    (F : ∀ (w : World) (mg : Str → Option Value) (fa : Addr) (h : Heap), (K w.params).In h → h.Ns mainGlobals mg → mg d.name = some (.ref fa) →
      ∃ fd : FuncData, (∀ (s : Shared) (u : Value), BindsTo s fd ⟨[u], []⟩ [(x, u)]) ∧ ∀ base : Heap, (K w.params).In base → base.Ns mainGlobals mg → FnG l.prog w (K w.params) mg base k fa fd [x] (sp w))
    (hsp : ∀ (w : World) (H : Hp) (a : Addr) (ns : List Int), ns.length ≤ n → (∀ z ∈ ns, Builtin.Int.intBits z ≤ 1048576) → SqL (K w.params) H a (ns.map V.int) → sp w [.ref a] H (fun v _ => v = .bl true) fun _ _ _ => False) :
    PySem.W.WalkO q loose XP YP l.row.toRowW d [] (fun f vs => PySem.call f vs) := by
  refine Att.attach_callB hn hdf ?_
  intro w s0 s1 mg mb fa o pm cd doc a vs ns G Y ho hd hcd hmg hobj hints hlen hbits hg
  have KX := hY w _ Y
  obtain ⟨fd, hb, hF⟩ := F w mg fa _ KX G.T.g hmg
  exact law_G KX G.T.g G.T.b G.T.builtins G.T.nolimit hg hobj hints (Nat.le_trans hlen hn2) room hF hb fun H hS => hsp w H a ns hlen hbits hS
end MM

set_option Elab.async false
set_option linter.all false
set_option maxRecDepth 100000
set_option maxHeartbeats 4000000
noncomputable section
namespace MM
open PySem PySem.Spec PyProof.Rows L2

/-! ### for k in d: d a dict of tuples that is not used behind -/
def kD : Key → D
  | .inl i => .int i
  | .inr x => .str x
def keysTM (i : Nat) : M (List D) := fun env => match env[i]? with
  | some (some (true, .dT kvs)) => .ok (kvs.map fun p => .tup (p.1.map kD)) (env.set i (some (false, .dTf kvs)))
  | some (some (false, .dTf kvs)) => .ok (kvs.map fun p => .tup (p.1.map kD)) env
  | _ => .no
section
variable {K : PySem.W.Frag} {mg : Str → Option Value} {W : WX} {i : Nat} {Z : Hp}
end
@[simp] theorem keysTM_ap {i : Nat} {env : Env} : keysTM i env = match env[i]? with
  | some (some (true, .dT kvs)) => .ok (kvs.map fun p => .tup (p.1.map kD)) (env.set i (some (false, .dTf kvs)))
  | some (some (false, .dTf kvs)) => .ok (kvs.map fun p => .tup (p.1.map kD)) env
  | _ => .no := id rfl
end MM

set_option Elab.async false
set_option linter.all false
set_option maxRecDepth 100000
set_option maxHeartbeats 4000000
noncomputable section
namespace MM
open PySem PySem.Spec PyProof.Rows L2

/-! ### a slot hidden while an expression is evaluated -/
def hideM (j : Nat) (m : M D) : M D := fun env => match env[j]? with
  | some (some (true, d)) => match m (env.set j none) with
    | .ok v e => match e[j]? with
      | some none => .ok v (e.set j (some (true, d)))
      | _ => .no
    | .ex x e => match e[j]? with
      | some none => .ex x (e.set j (some (true, d)))
      | _ => .no
    | .no => .no
  | _ => m env
section
variable {K : PySem.W.Frag} {mg : Str → Option Value} {W : WX} {p : Bool} {t : TE} {m : M D} {i j : Nat} {B : Addr → Prop} {env : Env} {σ : St} {H : Hp} {F : List Addr}
theorem EvN.imp (h0 : EvN K mg W p t m) : EvN K mg W false t m := fun B env σ H F Q S h => by
  refine h0 B env σ H F Q S ?_
  cases em : m env with
  | ok d e => rw [em] at h; exact fun v H' F' Fd s x n _ => h v H' F' Fd s x n nofun
  | ex e e2 => rw [em] at h; exact h
  | no => rw [em] at h; exact h
/-! ### data of lists of immutable things, wholly owned, need nothing that is frozen -/
end
mutual
def flat : D → Bool
  | .lst xs | .tup xs => flatL xs
  | .non | .bl _ | .int _ | .str _ | .opq _ => true
  | .dK _ | .dT _ | .dTf _ | .scr _ | .deep _ | .nam _ _ | .xn _ _ _ | .fz _ | .tz _ => false
def flatL : List D → Bool
  | [] => true
  | d :: ds => flat d && flatL ds
end
section
variable {K : PySem.W.Frag} {mg : Str → Option Value} {W : WX} {p : Bool} {t : TE} {m : M D} {i j : Nat} {B : Addr → Prop} {env : Env} {σ : St} {H Z : Hp} {F G : List Addr}
def isOwn : Option (Bool × D) → Bool
  | some (true, _) => true
  | _ => false
/-! ### a slot lent: frozen while an expression is evaluated whose answer keeps nothing -/
end
def sole (i : Nat) (env : Env) : Bool := !((env.set i none).any isOwn)
def lendOk : D → Bool
  | .deep d => flat d
  | .lst es => imtL es
  | d => imt d
/-- what is lent is looked into -/
def unD : D → D
  | .deep d => d
  | d => d
theorem Rep.un {K : PySem.W.Frag} {Z : Hp} {d : D} {v : V} (r : Rep K Z d v) : Rep K Z (unD d) v := by
  cases r with
  | deep r => exact r
  | _ => first | assumption | (constructor <;> assumption)
def lendM (i : Nat) (m : M D) : M D := fun env => match env[i]? with
  | some (some (true, d)) => if sole i env then match m (env.set i (some (false, unD d))) with
      | .ok v _ => if lendOk v then .ok v env else .no
      | .ex x _ => .ex x env
      | .no => .no
    else .no
  | _ => .no
section
variable {K : PySem.W.Frag} {mg : Str → Option Value} {W : WX} {p : Bool} {t : TE} {m : M D} {i j : Nat} {B : Addr → Prop} {env : Env} {σ : St} {H Z : Hp} {F G : List Addr}
end
@[simp] theorem hideM_ap {j : Nat} {m : M D} {env : Env} : hideM j m env = match env[j]? with
  | some (some (true, d)) => match m (env.set j none) with
    | .ok v e => match e[j]? with
      | some none => .ok v (e.set j (some (true, d)))
      | _ => .no
    | .ex x e => match e[j]? with
      | some none => .ex x (e.set j (some (true, d)))
      | _ => .no
    | .no => .no
  | _ => m env := id rfl
@[simp] theorem lendM_ap {i : Nat} {m : M D} {env : Env} : lendM i m env = match env[i]? with
  | some (some (true, d)) => if sole i env then match m (env.set i (some (false, unD d))) with
      | .ok v _ => if lendOk v then .ok v env else .no
      | .ex x _ => .ex x env
      | .no => .no
    else .no
  | _ => .no := id rfl
end MM

set_option Elab.async false
set_option linter.all false
set_option maxRecDepth 100000
set_option maxHeartbeats 4000000
noncomputable section
namespace MM
open PySem PySem.Spec PyProof.Rows L2

/-! ### a slot that is wholly owned, read -/
def rdDM (i : Nat) (env : Env) : Option D := match env[i]? with
  | some (some (_, .deep d)) => some d
  | _ => none
/-- an answer wholly owned: taken, given -/
def undM (m : M D) : M D := fun env => match m env with
  | .ok (.deep d) e => .ok d e
  | .ok _ _ => .no
  | .ex e e2 => .ex e e2
  | .no => .no
def reM (m : M D) : M D := fun env => match m env with
  | .ok d e => .ok (.deep d) e
  | .ex e e2 => .ex e e2
  | .no => .no
def flM (m : M D) : M D := fun env => match m env with
  | .ok d e => if flat d then .ok d e else .no
  | .ex e e2 => .ex e e2
  | .no => .no
section
variable {K : PySem.W.Frag} {mg : Str → Option Value} {W : WX} {ps : List Nat} {ro : Bool} {p q : Bool} {te t1 t2 ta tb : TE} {t : TE} {m m1 m2 ma mb mv : M D} {a : MS} {i : Nat} {tA : TA} {ms : M (List D)}
  {B : Addr → Prop} {env : Env} {σ : St} {H H0 Z : Hp} {F F0 Fd Fa : List Addr} {ds : List D} {vs : List V}
theorem EvD.e (h0 : EvD K mg W p t m) : EvE K mg W p t m := fun B env σ H F Q S h => by
  refine h0 B env σ H F Q S ?_
  cases em : m env with
  | ex e e2 => rw [em] at h; exact h
  | no => rw [em] at h; exact h
  | ok d e =>
    rw [em] at h
    exact fun v H' F' Fd S' x N P => h v H' F' Fd S' N P
theorem EvD.n (h0 : EvD K mg W p t m) : EvN K mg W p t (flM m) := fun B env σ H F Q S h => by
  refine h0 B env σ H F Q S ?_
  unfold flM at h
  cases em : m env with
  | ex e e2 => rw [em] at h; exact h
  | no => rw [em] at h; exact h
  | ok d e =>
    rw [em] at h
    dsimp only at h
    cases ef : flat d with
    | false => rw [ef] at h; exact h.elim
    | true =>
      rw [ef, if_pos rfl] at h
      refine fun v H' F' Fd S' x N P => h v H' F' Fd S' ?_ N P
      cases d with
      | lst es => exact x.2
      | dK _ => cases ef
      | dT _ => cases ef
      | deep _ => cases ef
      | _ => trivial
/-! ### arguments that are new, wholly owned -/
/-- an immutable one, held by nobody's cells -/
def imtM (m : M D) : M D := fun env => match m env with
  | .ok d e => if imt d then .ok d e else .no
  | .ex e e2 => .ex e e2
  | .no => .no
def newM (m : M D) : M D := fun env => match m env with
  | .ok d e => if mct d = 0 then .no else .ok d e
  | .ex e e2 => .ex e e2
  | .no => .no
end
end MM

set_option Elab.async false
set_option linter.all false
set_option maxRecDepth 100000
set_option maxHeartbeats 4000000
noncomputable section
namespace MM
open PySem PySem.Spec PyProof.Rows L2

section
variable {K : PySem.W.Frag} {mg : Str → Option Value} {W : WX} {ps : List Nat} {ro : Bool} {p q : Bool} {te t1 t2 ta tb : TE} {t : TE} {m m1 m2 ma mb mv : M D} {a : MS} {i n : Nat} {tA : TA} {ms : M (List D)}
  {B : Addr → Prop} {env : Env} {σ : St} {H H0 Z : Hp} {F F0 Fd Fa : List Addr} {ds es as : List D} {vs us : List V}
/-- x.append(e), all new -/
def deepL (i : Nat) (env : Env) : Option (List D) := match env[i]? with
  | some (some (true, .deep (.lst ds))) => some ds
  | _ => none
def appDM (i : Nat) (ms : M (List D)) : M D := fun env => match deepL i env with
  | some _ => match ms env with
    | .ok [d] e2 => match deepL i e2 with
      | some ds => haveI : Decidable (ds.length < sizeLine) := Classical.propDecidable _; if ds.length < sizeLine then .ok .non (e2.set i (some (true, .deep (.lst (ds ++ [d]))))) else .no
      | none => .no
    | .ok _ _ => .no
    | .ex e e2 => .ex e e2
    | .no => .no
  | none => .no
/-! ### a list within a wholly owned one, changed -/
/-- the list at a place of the slot's list or tuple -/
def inL (i : Nat) (n : Nat) (env : Env) : Option (List D) := match env[i]? with
  | some (some (true, .deep (.lst ds))) => match ds[n]? with
    | some (.lst es) => some es
    | _ => none
  | some (some (true, .deep (.tup ds))) => match ds[n]? with
    | some (.lst es) => some es
    | _ => none
  | _ => none
def inLen (i : Nat) (env : Env) : Nat := match env[i]? with
  | some (some (true, .deep (.lst ds))) => ds.length
  | some (some (true, .deep (.tup ds))) => ds.length
  | _ => 0
def inSet (i : Nat) (n : Nat) (es : List D) (env : Env) : Env := match env[i]? with
  | some (some (true, .deep (.lst ds))) => env.set i (some (true, .deep (.lst (ds.set n (.lst es)))))
  | some (some (true, .deep (.tup ds))) => env.set i (some (true, .deep (.tup (ds.set n (.lst es)))))
  | _ => env
end
end MM

set_option Elab.async false
set_option linter.all false
set_option maxRecDepth 100000
set_option maxHeartbeats 4000000
noncomputable section
namespace MM
open PySem PySem.Spec PyProof.Rows L2

/-- x[k].m(..), x wholly owned -/
def mutInM (i : Nat) (mk : M D) (f : List D → List D → Option (List D × D)) (ms : M (List D)) : M D := fun env => match mk env with
  | .ok (.int k) _ => match ixN (inLen i env) k with
    | some n => match inL i n env with
      | some es => match ms env with
        | .ok as _ => match f es as with
          | some (es', d) => if mctL es = 0 ∧ mctL es' = 0 ∧ imt d = true then .ok d (inSet i n es' env) else .no
          | none => .no
        | _ => .no
      | none => .no
    | none => .no
  | _ => .no
/-- x[a][b] = v, x wholly owned -/
def setInM (i : Nat) (mv ma mb : M D) : MS := fun env => match mv env with
  | .ok v env => match ma env with
    | .ok (.int a) _ => match mb env with
      | .ok (.int b) _ => match ixN (inLen i env) a with
        | some n => match inL i n env with
          | some es => match ixN es.length b with
            | some k => if mctL es = 0 ∧ mct v = 0 then .nx (inSet i n (es.set k v) env) else .no
            | none => .no
          | none => .no
        | none => .no
      | _ => .no
    | _ => .no
  | .ex e e2 => .ex e e2
  | .no => .no
/-- x.m(..), read -/
def bmTM (f : List D → Option D) (m : Env → Option D) (ms : M (List D)) : M D := fun env => match m env with
  | some (.lst ds) => match ms env with
    | .ok as e2 => match f (.lst ds :: as) with
      | some d => .ok d e2
      | none => .no
    | .ex e e2 => .ex e e2
    | .no => .no
  | _ => .no
section
variable {K : PySem.W.Frag} {mg : Str → Option Value} {W : WX} {ps : List Nat} {ro : Bool} {p q : Bool} {te to t1 t2 ta tb : TE} {t : TE} {m m1 m2 ma mb mv : M D} {a : MS} {i n : Nat} {tA : TA} {ms : M (List D)} {mt : Env → Option D}
  {B : Addr → Prop} {env : Env} {σ : St} {H H0 Z : Hp} {F F0 Fd Fa : List Addr} {ds es as : List D} {vs us : List V}
end
/-! ### evaluation -/
section
variable {i n : Nat} {m ma mb mv mk : M D} {ms : M (List D)} {env : Env} {f : List D → List D → Option (List D × D)} {g : List D → Option D} {mt : Env → Option D}
@[simp] theorem rdDM_ap : rdDM i env = match env[i]? with
  | some (some (_, .deep d)) => some d
  | _ => none := id rfl
@[simp] theorem undM_ap : undM m env = match m env with
  | .ok (.deep d) e => .ok d e
  | .ok _ _ => .no
  | .ex e e2 => .ex e e2
  | .no => .no := id rfl
@[simp] theorem reM_ap : reM m env = match m env with
  | .ok d e => .ok (.deep d) e
  | .ex e e2 => .ex e e2
  | .no => .no := id rfl
@[simp] theorem imtM_ap : imtM m env = match m env with
  | .ok d e => if imt d then .ok d e else .no
  | .ex e e2 => .ex e e2
  | .no => .no := id rfl
@[simp] theorem flM_ap : flM m env = match m env with
  | .ok d e => if flat d then .ok d e else .no
  | .ex e e2 => .ex e e2
  | .no => .no := id rfl
@[simp] theorem newM_ap : newM m env = match m env with
  | .ok d e => if mct d = 0 then .no else .ok d e
  | .ex e e2 => .ex e e2
  | .no => .no := id rfl
@[simp] theorem deepL_ap : deepL i env = match env[i]? with
  | some (some (true, .deep (.lst ds))) => some ds
  | _ => none := id rfl
@[simp] theorem appDM_ap : appDM i ms env = match deepL i env with
  | some _ => match ms env with
    | .ok [d] e2 => match deepL i e2 with
      | some ds => haveI : Decidable (ds.length < sizeLine) := Classical.propDecidable _; if ds.length < sizeLine then .ok .non (e2.set i (some (true, .deep (.lst (ds ++ [d]))))) else .no
      | none => .no
    | .ok _ _ => .no
    | .ex e e2 => .ex e e2
    | .no => .no
  | none => .no := id rfl
@[simp] theorem mutInM_ap : mutInM i mk f ms env = match mk env with
  | .ok (.int k) _ => match ixN (inLen i env) k with
    | some n => match inL i n env with
      | some es => match ms env with
        | .ok as _ => match f es as with
          | some (es', d) => if mctL es = 0 ∧ mctL es' = 0 ∧ imt d = true then .ok d (inSet i n es' env) else .no
          | none => .no
        | _ => .no
      | none => .no
    | none => .no
  | _ => .no := id rfl
@[simp] theorem setInM_ap : setInM i mv ma mb env = match mv env with
  | .ok v env => match ma env with
    | .ok (.int a) _ => match mb env with
      | .ok (.int b) _ => match ixN (inLen i env) a with
        | some n => match inL i n env with
          | some es => match ixN es.length b with
            | some k => if mctL es = 0 ∧ mct v = 0 then .nx (inSet i n (es.set k v) env) else .no
            | none => .no
          | none => .no
        | none => .no
      | _ => .no
    | _ => .no
  | .ex e e2 => .ex e e2
  | .no => .no := id rfl
@[simp] theorem bmTM_ap : bmTM g mt ms env = match mt env with
  | some (.lst ds) => match ms env with
    | .ok as e2 => match g (.lst ds :: as) with
      | some d => .ok d e2
      | none => .no
    | .ex e e2 => .ex e e2
    | .no => .no
  | _ => .no := id rfl
end
end MM

set_option Elab.async false
set_option linter.all false
set_option maxRecDepth 100000
set_option maxHeartbeats 4000000
noncomputable section
namespace MM
open PySem PySem.Spec PyProof.Rows L2

/-! ### dict(xs), xs a list of pairs whose keys are tuples of ints -/
end MM

set_option Elab.async false
set_option linter.all false
set_option maxRecDepth 100000
set_option maxHeartbeats 4000000
noncomputable section
namespace MM
open PySem PySem.Spec PyProof.Rows L2

/-! ### dict(xs) of pairs: the mirror -/
section
variable {K : PySem.W.Frag} {mg : Str → Option Value} {W : WX} {p : Bool} {t : TE} {tA : TA} {ms : M (List D)} {B : Addr → Prop} {env : Env} {σ : St} {H Z : Hp} {F : List Addr} {pp : Addr}
theorem Sta.mkO (S : Sta K B env σ H F) (hp : H pp = none) {d : D} {o : HO} (nt : (∀ ys, o ≠ .tup ys) ∧ ∀ fs, o ≠ .xd fs) (ow : ∀ H' Z', H' pp = some o → Ex (Fz B H F) Z' → Own K H' Z' d (.ref pp) [pp]) : StaL K B env σ (upd H pp o) F [d] [.ref pp] [pp] := by
  have S0 := S.nil.mkL hp
  have ex : Ex (Fz B H F) (Fz B (upd H pp o) (F ++ [pp])) := fz_mk fun b u e m n => by
    have np : b ≠ pp := fun z => by subst z; rw [hp] at e; cases e
    exact ⟨by rw [upd_ne np]; exact e, by simp [m, np], n⟩
  refine ⟨S.rel.step ex fun a _ o h => ex_new hp _ _ h, .one (ow _ _ upd_same ex), S0.nd, fun a m => ?_, fun b q => ⟨?_, (S0.bad b q).2⟩⟩
  · by_cases e : a = pp
    · subst e; rw [upd_same]; exact ⟨nofun, fun ys z => nt.1 ys (Option.some.inj z), fun fs z => nt.2 fs (Option.some.inj z)⟩
    · rw [upd_ne e]
      have := S0.liv a m
      rwa [upd_ne e] at this
  · by_cases e : b = pp
    · subst e; rw [upd_same]; exact ⟨nofun, fun ys z => nt.1 ys (Option.some.inj z), fun fs z => nt.2 fs (Option.some.inj z)⟩
    · rw [upd_ne e]
      have := (S0.bad b q).1
      rwa [upd_ne e] at this
end
/-! ### x.insert(i, e) -/
/-! ### a wholly owned slot, changed as a plain one -/
def preudM (i : Nat) (a : MS) : MS := fun env => a (udE i env)
@[simp] theorem preudM_ap {i : Nat} {a : MS} {env : Env} : preudM i a env = a (udE i env) := id rfl
/-! ### f() -/
section
variable {X : Cx} {k : Nat} {f : Addr} {fd : FuncData} {ps : List Str} {sp : Sp} {E : St → XK} {x : Str} {p pos : Pos}
end
end MM

set_option Elab.async false
set_option linter.all false
set_option maxRecDepth 100000
set_option maxHeartbeats 4000000
noncomputable section
namespace MM
open PySem PySem.Spec PyProof.Rows L2

/-! ### min and max of two, xor -/
section
variable {K : PySem.W.Frag} {mg : Str → Option Value} {W : WX} {p q : Bool} {te to ta tb tc : TE} {m ma mb mc : M D} {i : Nat} {tA : TA} {ms : M (List D)} {Z : Hp}
theorem repL_rev {Z : Hp} : ∀ {ds : List D} {vs : List V}, RepL K Z ds vs → RepL K Z ds.reverse vs.reverse
  | _, _, .nil => .nil
  | _, _, .cons h t => by
    rw [List.reverse_cons, List.reverse_cons]
    exact (repL_rev t).append (.cons h .nil)
end
/-! ### range(a, b, -1) -/
section
variable {K : PySem.W.Frag} {mg : Str → Option Value} {W : WX} {p : Bool} {tA : TA} {ms : M (List D)} {Z : Hp}
end
end MM

set_option Elab.async false
set_option linter.all false
set_option maxRecDepth 100000
set_option maxHeartbeats 4000000
noncomputable section
namespace MM
open PySem PySem.Spec PyProof.Rows L2

/-! ### enumerate(tuple) -/
theorem meets_enumB1 {v : Value} {o : Obj} {H : Heap → Prop} (B : Begins v o H) :
    Meets (Builtin.«enumerate.__new__» ⟨[.type "enumerate", v], []⟩) (fun _ R s => H s.heap ∧
      R (.ok (.ret (.ref (s.heap.push o).objs.size))) { s with heap := (s.heap.push o).push { cls := .type "enumerate", data := .fields #[.none, .bool false, .ref s.heap.objs.size, rawInt 0, .none, .none] } }) :=
  .of_wp fun prog w A R s h => by
    obtain ⟨hp, g, d, tk, os⟩ := s; obtain ⟨h1, h⟩ := h
    have hsub := sub_enumerate
    have q1 : ∀ {A' : Around} {E : Value → Shared → Prop} {Q : Value → Shared → Prop}, Q (.ref hp.objs.size) ⟨hp.push o, g, d, tk, os⟩ → wpAny (model prog w) A' (pyIter v) Q E ⟨hp, g, d, tk, os⟩ :=
      fun q => B.iter prog w _ _ ⟨hp, g, d, tk, os⟩ _ h1 q
    wp_walk using q1
    refine wpAny_stack_any fun st => wpAny_pure ?_
    split
    · rename_i c _ _ _ _ _
      cases (c == Value.type "enumerate")
      · wp_walk using q1
        exact ⟨_, rfl, h⟩
      · wp_walk using q1
        exact ⟨_, rfl, h⟩
    · wp_walk using q1
      exact ⟨_, rfl, h⟩
theorem call_enumerate_tup {prog : Program} {w : World} {A : Around} {E : Value → Shared → Prop} {s : Shared} {l : Addr} {items : Array Value} {Q : Value → Shared → Prop} (hL : s.heap.IsTuple l items)
    (h : ∀ h', IsEnum h' (s.heap.objs.size + 1) s.heap.objs.size 0 .none → h'.IsTupleIter s.heap.objs.size l 0 → h'.objs.size = s.heap.objs.size + 2 →
      (∀ b o, s.heap.get? b = some o → h'.get? b = some o) → Q (.ref (s.heap.objs.size + 1)) { s with heap := h' }) :
    wpAny (model prog w) A (call (.type "enumerate") [.ref l]) Q E s := by
  refine callType_new F.called_enumerate (by decide) (F.typeCall_enumerate_1 _) (F.newCall_enumerate_1 _) (fun obj => F.args_object_init_2 obj _) F.entry_enumerate_new
    (meets_enumB1 (begins_tuple l items)) ⟨hL, ?_⟩
  have hz : (s.heap.push { cls := .type "tuple_iterator", data := .fields #[.ref l, .int 0 0] }).objs.size = s.heap.objs.size + 1 := Heap.size_push ..
  show _ ∧ _
  rw [hz]
  have he : IsEnum ((s.heap.push { cls := .type "tuple_iterator", data := .fields #[.ref l, .int 0 0] }).push
      { cls := .type "enumerate", data := .fields #[.none, .bool false, .ref s.heap.objs.size, rawInt 0, .none, .none] }) (s.heap.objs.size + 1) s.heap.objs.size 0 .none := by
    have := Heap.get?_push_size (s.heap.push { cls := .type "tuple_iterator", data := .fields #[.ref l, .int 0 0] })
      (o := { cls := .type "enumerate", data := .fields #[.none, .bool false, .ref s.heap.objs.size, rawInt 0, .none, .none] }) rfl
    rw [hz] at this; exact this
  refine ⟨⟨_, he, rfl⟩, h _ he ⟨_, Heap.get?_push_of_some _ (Heap.get?_push_size _ rfl), rfl, rfl⟩ (by rw [Heap.size_push, hz]) fun b o x => Heap.get?_push_of_some _ (Heap.get?_push_of_some _ x)⟩
section
variable {K : PySem.W.Frag} {mg : Str → Option Value} {W : WX} {p : Bool} {tA : TA} {ms : M (List D)}
end
end MM

set_option Elab.async false
set_option linter.all false
set_option maxRecDepth 100000
set_option maxHeartbeats 8000000
noncomputable section
namespace MM
open PySem PySem.Spec PyProof.Rows L2

/-! ### try: .. except x as n: .., the exception kept beyond -/
section
variable {X : Cx} {pins : List (Addr × Obj)} {σ : St} {H : Hp} {s : Shared}
end

section
variable {X : Cx} {x n : Str} {c : Value} {i : Nat} {body suite : List Stmt} {b₀ : Stmt} {np pos pos' : Pos} {tb : WX → TS} {ts : Addr → Value → Option Addr → TS} {Wout : WX}
end

/-! ### the mirror's words: raise X("m"), try .. except M as e: c = e -/
/-- what the classes xs are, by the clause's class at c -/
structure Takers (K : PySem.W.Frag) (mg : Str → Option Value) (c : Value) (xs : List Str) : Prop where
  at_ : ∀ x ∈ xs, ∃ C : Addr, mg x = some (.ref C) ∧ PySem.W.nsIn K mainGlobals x = some (some (.ref C)) ∧ PySem.W.exmOne K (.ref C) c = some true
theorem Takers.one {K : PySem.W.Frag} {mg : Str → Option Value} {c : Value} {x : Str} {C : Addr} (h1 : mg x = some (.ref C)) (h2 : PySem.W.nsIn K mainGlobals x = some (some (.ref C))) (h3 : PySem.W.exmOne K (.ref C) c = some true) : Takers K mg c [x] where
  at_ := fun y m => by
    rw [List.mem_singleton.mp m]
    exact ⟨C, h1, h2, h3⟩
section
variable {K : PySem.W.Frag} {mg : Str → Option Value} {W : WX} {ps : List Nat} {ro : Bool} {i j : Nat} {xs : List Str} {m : MS} {tb : WX → TS} {c : Value}
end

/-! ### isinstance of a kept exception -/
/-- what the written part says of the class x0 at C -/
structure XT (K : PySem.W.Frag) (x0 : Str) (ys : List Str) : Prop where
  exc : ∀ C, PySem.W.nsIn K mainGlobals x0 = some (some (.ref C)) → ExcC K C
  val : ∀ C, PySem.W.nsIn K mainGlobals x0 = some (some (.ref C)) → PySem.W.kitOne K (.ref C) (.type "ValueError") = some true
  oth : ∀ C, PySem.W.nsIn K mainGlobals x0 = some (some (.ref C)) → ∀ y ∈ ys, ∀ D, PySem.W.nsIn K mainGlobals y = some (some (.ref D)) → PySem.W.kitOne K (.ref C) (.ref D) = some false
section
variable {K : PySem.W.Frag} {x0 : Str} {ys : List Str} {H : Hp}
end
end MM

set_option Elab.async false
set_option linter.all false
set_option maxRecDepth 100000
set_option maxHeartbeats 8000000
noncomputable section
namespace MM
open PySem PySem.Spec PyProof.Rows L2

/-! ### repr of lists that hold dicts of plain things -/
def keyP : Key → PyData
  | .inl i => .int i
  | .inr x => .str x
theorem key_reads {h : Heap} : ∀ {k : Key} {v : Value}, keyIs k v = true → Reads h v (keyP k) [] := fun {k v} e => by
  rcases keyIs_shape e with ⟨i, t, rfl, rfl⟩ | ⟨x, t, rfl, rfl⟩
  · exact Reads.int i t
  · exact Reads.str x t
def scP : D → Option PyData
  | .non => some .none
  | .bl b => some (.bool b)
  | .int i => some (.int i)
  | .str x => some (.str x)
  | _ => none
def scK : List (Key × D) → Option (List (PyData × PyData))
  | [] => some []
  | (k, d) :: ds => match scP d with
    | some y => match scK ds with
      | some ys => some ((keyP k, y) :: ys)
      | none => none
    | none => none
/-- what can be shown: without a dict, or a dict of plain things -/
def elP : D → Option PyData
  | .dK kvs => match scK kvs with
    | some ys => some (.dict ys)
    | none => none
  | d => match toPy d with
    | some p => if p.hasDict = false then some p else none
    | none => none
section
variable {X : Cx} {pins : List (Addr × Obj)} {σ : St} {H : Hp} {s : Shared}
theorem sc_reads {h : Heap} {K : PySem.W.Frag} {d : D} {v : V} {p : PyData} {u : Value} (r : Rep K H d v) (e : scP d = some p) (rv : RelV v u) : Reads h u p [] := by
  cases r with
  | non => cases e; cases rv; exact Reads.none
  | bl b => cases e; cases rv; exact Reads.bool b
  | int i => cases e; obtain ⟨t, rfl⟩ := rv; exact Reads.int i t
  | str x => cases e; obtain ⟨t, rfl⟩ := rv; exact Reads.str x t
  | _ => cases e
theorem pairs_keys {P : Program} {w : World} : ∀ {es : List DictEntry} {vs : List (Key × Value)}, Pairs (mixKind P w) es vs → Paired (fun (e : DictEntry) (q : Key × Value) => keyIs q.1 e.key = true ∧ e.val = q.2) es vs
  | _, _, .nil => .nil
  | _, _, .cons h1 h2 r => .cons ⟨h1, h2⟩ (pairs_keys r)
theorem scK_reads {h : Heap} {K : PySem.W.Frag} : ∀ {ds : List (Key × D)} {kws : List (Key × V)} {ps : List (PyData × PyData)} {vs : List (Key × Value)} {es : List DictEntry}, RepK K H ds kws → scK ds = some ps → KV kws vs →
    Paired (fun (e : DictEntry) (q : Key × Value) => keyIs q.1 e.key = true ∧ e.val = q.2) es vs →
    ReadsAll h (es.map (·.key)) (ps.map (·.1)) [] ∧ ReadsAll h (es.map (·.val)) (ps.map (·.2)) []
  | _, _, _, _, _, .nil, e, kv, pr => by
    simp only [scK] at e
    cases e
    cases kv
    cases pr
    exact ⟨ReadsAll.nil, ReadsAll.nil⟩
  | _, _, _, _, _, .cons (k := k) hh t, e, kv, pr => by
    simp only [scK] at e
    split at e
    · rename_i y e1
      split at e
      · rename_i ys e2
        cases e
        cases kv with
        | cons r1 r2 =>
          cases pr with
          | cons p1 p2 =>
            obtain ⟨k1, v1⟩ := r1
            obtain ⟨k2, v2⟩ := p1
            dsimp only at k1 v1
            rw [← k1] at k2
            rw [← v2] at v1
            obtain ⟨q1, q2⟩ := scK_reads (h := h) t e2 r2 p2
            exact ⟨ReadsAll.cons (as := []) (key_reads k2) q1, ReadsAll.cons (as := []) (sc_reads hh e1 v1) q2⟩
      · cases e
    · cases e
theorem el_reads (I : Inv X pins σ H s) {d : D} {v : V} {p : PyData} {u : Value} (r : Rep X.K H d v) (e : elP d = some p) (rv : RelV v u) : ∃ as, Reads s.heap u p as ∧ (p.hasDict = true → sysModules ∉ as) := by
  by_cases hd : ∃ kvs, d = .dK kvs
  · obtain ⟨kvs, rfl⟩ := hd
    unfold elP at e
    dsimp only at e
    split at e
    · rename_i ys e1
      cases e
      cases r with
      | dK h rk =>
        cases rv
        obtain ⟨_, hns, vs, kv, o, es, ep, ho, hx, hd, _, pr, _⟩ := (show ObjOk X.prog X.w H s.heap _ (.dK _) from I.hok _ _ h)
        obtain ⟨q1, q2⟩ := scK_reads (h := s.heap) rk e1 kv (pairs_keys pr)
        refine ⟨_, Reads.dict ho hx.1 hd q1 q2, fun _ m => ?_⟩
        rw [List.append_nil, List.mem_singleton] at m
        rw [← m] at hns
        simp at hns
    · cases e
  · have e' : (match toPy d with | some p => if p.hasDict = false then some p else none | none => none) = some p := by
      unfold elP at e
      split at e
      · exact absurd ⟨_, rfl⟩ hd
      · exact e
    split at e'
    · rename_i p' e1
      split at e'
      · rename_i hn
        cases e'
        obtain ⟨as, q⟩ := Dp.reads I p v u (r.dp e1) rv
        exact ⟨as, q, fun z => by rw [hn] at z; cases z⟩
      · cases e'
    · cases e'
/-- things read one by one -/
inductive RdE (h : Heap) : List Value → List PyData → Prop
  | nil : RdE h [] []
  | cons {v : Value} {vs : List Value} {d : PyData} {ds : List PyData} {as : List Addr} : Reads h v d as → (d.hasDict = true → sysModules ∉ as) → RdE h vs ds → RdE h (v :: vs) (d :: ds)
end
section
variable {prog : Program} {w : World} {h₀ : Heap}
theorem RdE.all : ∀ {vs : List Value} {ds : List PyData}, RdE h₀ vs ds → ∃ as, ReadsAll h₀ vs ds as
  | _, _, .nil => ⟨_, .nil⟩
  | _, _, .cons r _ t => by
    obtain ⟨as, q⟩ := RdE.all t
    exact ⟨_, .cons r q⟩
end
def ShowX (p : PyData) : Prop := p.showable = true ∧ p.depth ≤ 60 ∧ p.shown.length ≤ sizeLine
end MM

set_option Elab.async false
set_option linter.all false
set_option maxRecDepth 100000
set_option maxHeartbeats 8000000
noncomputable section
namespace MM
open PySem PySem.Spec PyProof.Rows L2

/-! ### repr of anything that can be shown; str of a tuple -/
def rReprA (K : PySem.W.Frag) : List V → Hp → VK → Prop := fun xs H Q => ∃ (x : V) (d : D) (p : PyData), xs = [x] ∧ Rep K H d x ∧ elP d = some p ∧ ShowX p ∧ Q (.str p.shown) H
section
variable {X : Cx} {K : PySem.W.Frag}
theorem call_reprA (hK : X.K = K) (hg : X.A.guards = some []) (hu : X.A.units + 65 < cLine) : CallR X (.builtin "repr") (rReprA K) := by
  subst hK
  intro pins s σ H xs us Q I r q
  obtain ⟨x, d, p, rfl, hd, hp, hsx, q⟩ := q
  obtain ⟨u, eu, rx⟩ := vals1 r
  subst eu
  have ref : ∀ {a : Addr}, x = .ref a → wpAny (model X.prog X.w) X.A (call (.builtin "repr") [u]) (EP X pins σ Q) X.xe s := fun {a} e => by
    subst e
    obtain ⟨as, rr, ns⟩ := el_reads I hd hp rx
    cases rx
    exact repr_of_reads' rr hsx.1 ns hg (by have := hsx.2.1; omega) (fun _ _ e => e) (fun h' u tk hk => ⟨.str p.shown, H, I.kept (t' := tk) hk, ⟨_, rfl⟩, q⟩) hsx.2.2
  cases hd with
  | non =>
    simp [elP, toPy, PyData.hasDict] at hp
    cases hp
    cases rx
    exact P.repr_of_none ⟨.str _, H, I.tok _, ⟨_, rfl⟩, q⟩
  | bl b =>
    simp [elP, toPy, PyData.hasDict] at hp
    cases hp
    cases rx
    refine P.repr_of_bool ⟨.str _, H, I.tok _, ⟨_, rfl⟩, ?_⟩
    simp only [PyData.shown] at q
    exact q
  | int i =>
    simp [elP, toPy, PyData.hasDict] at hp
    cases hp
    obtain ⟨t, rfl⟩ := rx
    refine P.repr_of_int (by have := hsx.1; rw [PyData.showable] at this; exact of_decide_eq_true this) ⟨.str _, H, I.tok _, ⟨_, rfl⟩, ?_⟩
    simp only [PyData.shown] at q
    exact q
  | str y =>
    simp [elP, toPy, PyData.hasDict] at hp
    cases hp
    obtain ⟨t, rfl⟩ := rx
    have hz := hsx.2.2
    simp only [PyData.shown] at q hz
    exact P.repr_of_str ⟨.str _, H, I.tok _, ⟨_, rfl⟩, q⟩ hz
  | lst h r => exact ref rfl
  | tup h r => exact ref rfl
  | dK h r => exact ref rfl
  | dT _ _ => simp [elP, toPy] at hp
  | dTf _ _ => simp [elP, toPy] at hp
  | scr _ => exact ref rfl
  | opq _ => simp [elP, toPy] at hp
  | cls _ => simp [elP, toPy] at hp
  | exn _ _ => simp [elP, toPy] at hp
  | xn _ _ _ => simp [elP, toPy] at hp
  | deep _ => simp [elP, toPy] at hp
  | frzn _ => simp [elP, toPy] at hp
  | tz _ _ _ => exact ref rfl
end
open Classical in
def reprAF : List D → Option D
  | [d] => match elP d with
    | some p => if ShowX p then some (.str p.shown) else none
    | none => none
  | _ => none
theorem s_reprA {K : PySem.W.Frag} : OpS K (rReprA K) reprAF := fun H ds vs Q d R ef q => by
  unfold reprAF at ef
  split at ef
  · rename_i d0
    obtain ⟨x, rfl, rx⟩ := R.one_inv
    split at ef
    · rename_i p ep
      split at ef
      · rename_i hs
        cases ef
        exact ⟨x, d0, p, rfl, rx, ep, hs, q _ (.str _)⟩
      · cases ef
    · cases ef
  · cases ef
/-! ### str of a number or a tuple -/
end MM

set_option Elab.async false
set_option linter.all false
set_option maxRecDepth 100000
set_option maxHeartbeats 8000000
noncomputable section
namespace MM
open PySem PySem.Spec PyProof.Rows L2

/-! ### sorted(t), t a tuple of ints -/
section
variable {P : Program} {w : World} {A : Around} {E : Value → Shared → Prop} {s : Shared}
theorem sorted_tupI {a : Addr} {o : Obj} {items : Array Value} {n : Nat} {ns : List Int} {Q : Value → Shared → Prop} (ho : s.heap.get? a = some o) (hc : o.cls = .type "tuple") (hd : o.data = .seq items n) (hI : IntsAre items.toList ns) (h64 : items.size < 64)
    (hQ : ∀ (h1 h' : Heap) (p : Addr) (out : Array Value) (c : Nat) (ns' : List Int), (∀ b u, s.heap.get? b = some u → h1.get? b = some u) → (∀ b u, h1.get? b = some u → h'.get? b = some u) → h1.objs.size ≤ p →
      h'.get? p = some (seqObj "list" out c) → IntsAre out.toList ns' → ns'.Perm ns → ns'.Pairwise (· ≤ ·) → Q (.ref p) { s with heap := h' }) :
    wpAny (model P w) A (call (.builtin "sorted") [.ref a]) Q E s := by
  refine Calls.call_function_entry (kind_sorted) plain_sorted (entry_sorted) (args_sorted1 _) ?_
  unfold Builtin.«sorted»
  refine wpAny_bind (m := checkCount ("sorted") 1 1 _) (wpAny_pure ?_)
  refine wpAny_bind (wpAny_collect_seq a (.inr rfl) ho hc hd (fun h1 k1 => ?_) (by rw [sizeLine_eq]; omega))
  refine wpAny_bind (wpAny_newList ?_ (by rw [Array.length_toList, sizeLine_eq]; omega))
  have hoL : (h1.push (seqObj "list" items 0)).get? h1.objs.size = some (seqObj "list" items 0) := Heap.get?_push_size _ rfl
  have hit : items.toList.toArray = items := by simp
  refine wpAny_bind (wpAny_holding (wpAny_call_entry (slot_list_sort) ⟨_, hoL, rfl⟩ (entry_list_sort) (list_sort_tree (vs := items.toList) (by rw [hit]; exact hoL) hI (by rw [Array.length_toList]; exact h64) fun out ns' a1 a2 a3 => ⟨_, rfl, ?_⟩) (args_list_sort _)))
  obtain ⟨c, hcc⟩ := sortedHeap_at (vs := items.toList) (out := out) (by rw [hit]; exact hoL)
  refine wpAny_pure ⟨_, rfl, hQ h1 _ h1.objs.size out c ns' k1 (fun b u q => ?_) (Nat.le_refl _) hcc a1 a2 a3⟩
  have hlt := Heap.lt_size q
  rw [sortedHeap_old (Nat.ne_of_lt hlt) (by rw [size_push']; exact Nat.lt_succ_of_lt hlt)]
  exact Heap.get?_push_of_some _ q
end
def rSortT (K : PySem.W.Frag) : List V → Hp → VK → Prop := fun vs H Q => ∃ (l : Addr) (ns : List Int), vs = [.ref l] ∧ SqT K H l (ns.map V.int) ∧ ns.length < 64 ∧
  ∀ (ns' : List Int) (p : Addr), ns'.Perm ns → ns'.Pairwise (· ≤ ·) → H p = none → Q (.ref p) (upd H p (.lst (ns'.map V.int)))
theorem cr_sortT {X : Cx} {K : PySem.W.Frag} (hK : X.K = K) : CallR X (.builtin "sorted") (rSortT K) := by
  subst hK
  intro pins s σ H vs us Q I r h
  obtain ⟨l, ns, rfl, hq, hl, q⟩ := h
  obtain ⟨u, eu, rx⟩ := vals1 r
  subst eu
  cases rx
  obtain ⟨its, rv, hit, hz⟩ := I.tuple hq
  have hln : its.toArray.size = ns.length := by rw [List.size_toArray, ← rv.length, List.length_map]
  obtain ⟨o, ho, hc, n, hd⟩ : s.heap.IsTuple l its.toArray := hit
  refine sorted_tupI ho hc hd (by simpa using rv.ints) (by omega) fun h1 h' p out c ns' k1 k2 hp hcc a1 a2 a3 => ?_
  have I1 : Inv X pins σ H { s with heap := h1, toks := s.toks } := I.kept k1
  have hlen : (ns'.map V.int).length ≤ sizeLine := by rw [List.length_map, a2.length_eq, sizeLine_eq]; omega
  exact ⟨.ref p, upd H p (.lst (ns'.map V.int)), I1.laid (t' := s.toks) k2 hp ⟨hlen, out.toList, c, vals_of_ints a1, hcc⟩, rfl, q _ _ a2 a3 (I1.hok.fresh hp)⟩
/-! ### t[::-1], t a tuple -/
section
variable {prog : Program} {w : World} {A : Around} {E : Value → Shared → Prop} {s : Shared}
theorem sliceApplied_rev {sl : Addr} {vs : Value} {n : Nat} {Q : Int × Int × Nat → Shared → Prop} (hs : s.heap.IsSliceOf sl .none .none vs) (ps : IsPart vs (some (-1)))
    (h : Q ((n : Int) - 1, -1, n) s) : wpAny (model prog w) A (Builtin.Slice.sliceApplied (.ref sl) (pure (n : Int))) Q E s := by
  obtain ⟨os, hos, hcs, hds⟩ := (hs)
  unfold Builtin.Slice.sliceApplied Builtin.Slice.sliceFields
  refine wpAny_bind (wpAny_bind (wpAny_field hos hds (x := .none) rfl (wpAny_bind (wpAny_field hos hds (x := .none) rfl (wpAny_bind (wpAny_field hos hds (x := vs) rfl (wpAny_pure ?_)))))))
  refine wpAny_bind (HT.slicePart_ ps ?_)
  show wpAny _ _ (if ((-1 : Int) == 0) = true then _ else _) _ _ s
  rw [if_neg (by decide)]
  refine wpAny_bind (HT.slicePart_ .none (wpAny_bind (HT.slicePart_ .none (wpAny_bind (wpAny_pure ?_)))))
  have e1 : Builtin.Slice.sliceAdjust none none (-1) (n : Int) = ((n : Int) - 1, -1) := by
    unfold Builtin.Slice.sliceAdjust
    simp
  have e2 : Builtin.Slice.slicePlaces ((n : Int) - 1) (-1) (-1) = n := by
    unfold Builtin.Slice.slicePlaces
    have h1 : ¬ (-1 : Int) > 0 := by omega
    simp only [h1, if_false]
    by_cases z : n = 0
    · subst z; simp
    · have h2 : (-1 : Int) < (n : Int) - 1 := by omega
      simp
      omega
  show wpAny _ _ (match Builtin.Slice.sliceAdjust none none (-1) (n : Int) with | (lo, hi) => pure (lo, (-1 : Int), Builtin.Slice.slicePlaces lo hi (-1))) _ _ s
  rw [e1]
  show wpAny _ _ (pure ((n : Int) - 1, (-1 : Int), Builtin.Slice.slicePlaces ((n : Int) - 1) (-1) (-1))) _ _ s
  rw [e2]
  exact wpAny_pure h
theorem fm_congr {α β : Type} {f g : α → Option β} : ∀ {l : List α}, (∀ x ∈ l, f x = g x) → l.filterMap f = l.filterMap g
  | [], _ => rfl
  | x :: l, h => by
    have ih := fm_congr (l := l) fun y hy => h y (List.mem_cons_of_mem _ hy)
    rw [List.filterMap_cons, List.filterMap_cons, h x List.mem_cons_self, ih]
theorem pick_rev (xs : Array Value) : ((List.range xs.size).filterMap fun (k : Nat) => xs[((xs.size : Int) - 1 + (k : Int) * -1).toNat]?).toArray = xs.toList.reverse.toArray := by
  have e : (List.range xs.size).filterMap (fun (k : Nat) => xs[((xs.size : Int) - 1 + (k : Int) * -1).toNat]?) = (List.range xs.size).filterMap fun k => xs[xs.size - 1 - k]? := by
    refine fm_congr fun k hk => ?_
    have := List.mem_range.mp hk
    rw [show ((xs.size : Int) - 1 + (k : Int) * -1).toNat = xs.size - 1 - k by omega]
  have e2 : (List.range xs.size).filterMap (fun k => xs[xs.size - 1 - k]?) = ((List.range xs.size).map fun k => xs.size - 1 - k).filterMap (xs[·]?) := by
    rw [List.filterMap_map]
    rfl
  rw [e, e2, PySem.W.krv_range, List.filterMap_reverse, PySem.W.krv_all]
theorem getItem_tuple_rev {t sl : Addr} {items : Array Value} {vs : Value} {Q : Value → Shared → Prop} (ht : IsTup s.heap t items) (hs : s.heap.IsSliceOf sl .none .none vs) (ps : IsPart vs (some (-1)))
    (h : Q (.ref s.heap.objs.size) { s with heap := s.heap.push { cls := .type "tuple", data := .seq items.toList.reverse.toArray } })
    (hsz : items.size ≤ sizeLine) : wpAny (model prog w) A (getItem (.ref t) (.ref sl)) Q E s := by
  have hz : sizeOk (.seq items.toList.reverse.toArray) := by
    show items.toList.reverse.toArray.size ≤ sizeLine
    rw [List.size_toArray, List.length_reverse, Array.length_toList]
    exact hsz
  obtain ⟨os, hos, hcs, hds⟩ := (id hs)
  have hTs : s.TypeIs (.ref sl) "slice" := (⟨os, hos, hcs⟩)
  unfold getItem
  try with_reducible refine (wpAny_holding ?_)
  first | refine (wpAny_bind (wpAny_pure ?_)) | skip
  refine (wpAny_bind (wpAny_sequenceKey ht.typeIs (by decide) ?_))
  refine wpAny_bind (wpAny_callSpecial?_slot (name := Str.ofString ("__getitem__")) ht.typeIs (PyProof.Rows.slot_tuple_getitem)
    (wpAny_call_entry (PyProof.Rows.slot_tuple_getitem) ht.typeIs (entry_tuple_getitem) ?_ (args_tuple_getitem _ _)))
  show wpAny _ _ (Builtin.Tuple.tupleItemsOf (.ref t) >>= (_)) _ _ s
  refine (wpAny_bind (tupleItemsOf_ ht ?_))
  refine (wpAny_bind (wpAny_typeOf hTs ?_))
  rw [if_pos (by decide)]
  refine wpAny_bind (sliceApplied_rev hs ps ?_)
  have hno : ¬ ((((items.size : Int) - 1) == 0 && (-1 : Int) == 1 && items.size == items.size) = true) := by simp
  show wpAny _ _ (if (((items.size : Int) - 1) == 0 && (-1 : Int) == 1 && items.size == items.size) = true then _ else _) _ _ s
  rw [if_neg hno, pick_rev]
  first
    | exact (wpAny_bind (m := Builtin.Tuple.tupleExact _) (wpAny_newObj_type (wpAny_pure ⟨_, rfl, wpAny_pure h⟩) hz))
    | exact (wpAny_bind (m := Builtin.Tuple.tupleExact _) (wpAny_newObj_type (wpAny_bind (wpAny_pure (wpAny_pure ⟨_, rfl, wpAny_pure h⟩))) hz))
    | exact (wpAny_bind (wpAny_bind (m := Builtin.Tuple.tupleExact _) (wpAny_newObj_type (wpAny_pure (wpAny_pure ⟨_, rfl, wpAny_pure h⟩)) hz)))
    | exact (wpAny_bind (wpAny_bind (m := Builtin.Tuple.tupleExact _) (wpAny_newObj_type (wpAny_pure ⟨_, rfl, wpAny_pure h⟩) hz)))
end
end MM

set_option Elab.async false
set_option linter.all false
set_option maxRecDepth 100000
set_option maxHeartbeats 8000000
noncomputable section
namespace MM
open PySem PySem.Spec PyProof.Rows L2

/-! ### repr of lists that hold dicts, or tuples of plain things and dicts -/
section
variable {X : Cx} {pins : List (Addr × Obj)} {σ : St} {H : Hp} {s : Shared}
end
end MM

set_option Elab.async false
set_option linter.all false
set_option maxRecDepth 100000
set_option maxHeartbeats 4000000
noncomputable section
namespace MM
open PySem PySem.Spec PyProof.Rows L2

/-! ### two rows of a wholly owned list exchanged -/
def swpDM (i a b : Nat) : MS := fun env => match deepL i env, env[a]?, env[b]? with
  | some ds, some (some (_, .int x)), some (some (_, .int y)) => match ixN ds.length x, ixN ds.length y with
    | some n, some m => match ds[n]?, ds[m]? with
      | some dn, some dm => .nx (env.set i (some (true, .deep (.lst ((ds.set n dm).set m dn)))))
      | _, _ => .no
    | _, _ => .no
  | _, _, _ => .no
section
variable {K : PySem.W.Frag} {mg : Str → Option Value} {W : WX} {ps : List Nat} {ro : Bool} {H Z : Hp}
theorem OwnL.part {d : D} : ∀ {ds : List D} {vs : List V} {F : List Addr} {n : Nat}, OwnL K H Z ds vs F → ds[n]? = some d → ∃ F1 Fi F2 v, F = F1 ++ (Fi ++ F2) ∧ vs[n]? = some v ∧ Own K H Z d v Fi ∧
    ∀ d' v' Fi', Own K H Z d' v' Fi' → OwnL K H Z (ds.set n d') (vs.set n v') (F1 ++ (Fi' ++ F2))
  | _, _, _, 0, .cons (F := Fa) (G := Ga) h t, e => by
    cases e
    exact ⟨[], Fa, Ga, _, rfl, rfl, h, fun d' v' Fi' o => .cons (F := Fi') o t⟩
  | _, _, _, n + 1, .cons (F := Fa) (G := Ga) h t, e => by
    obtain ⟨F1, Fi, F2, v, eF, ev, o, g⟩ := OwnL.part (n := n) t e
    refine ⟨Fa ++ F1, Fi, F2, v, by rw [eF, List.append_assoc], ev, o, fun d' v' Fi' o' => ?_⟩
    rw [List.append_assoc]
    exact .cons h (g d' v' Fi' o')
  | _, _, _, _, .nil, e => nomatch e
theorem OwnL.swap {ds : List D} {vs : List V} {F : List Addr} {n m : Nat} {dn dm : D} (o : OwnL K H Z ds vs F) (hn : ds[n]? = some dn) (hm : ds[m]? = some dm) :
    ∃ vn vm F', vs[n]? = some vn ∧ vs[m]? = some vm ∧ OwnL K H Z ((ds.set n dm).set m dn) ((vs.set n vm).set m vn) F' ∧ F'.Perm F := by
  obtain ⟨F1, Fn, F2, vn, eF, en, on, gn⟩ := o.part hn
  by_cases q : n = m
  · subst q
    rw [hn] at hm
    cases hm
    exact ⟨vn, vn, _, en, en, by rw [List.set_set, List.set_set]; exact gn dn vn Fn on, by rw [eF]⟩
  · obtain ⟨G1, Fm, G2, vm, eG, em, om, gm⟩ := (gn .non .non [] (.frz .non)).part (d := dm) (n := m) (by rw [List.getElem?_set_ne q]; exact hm)
    rw [List.getElem?_set_ne q] at em
    have o3 := gm dn vn Fn on
    obtain ⟨hl, _⟩ := List.getElem?_eq_some_iff.mp hn
    obtain ⟨L1, Fz0, L2, v0, eL, ev0, o0, g0⟩ := o3.part (d := .non) (n := n) (by rw [List.getElem?_set_ne (Ne.symm q), List.getElem?_set_self hl])
    have e0 : Fz0 = [] := by cases o0; rfl
    subst e0
    have r := g0 dm vm Fm om
    have e9 : ∀ {α : Type} (l : List α) (x y z : α), ((l.set n x).set m y).set n z = (l.set n z).set m y := fun l x y z => by rw [List.set_comm _ _ (Ne.symm q), List.set_set]
    rw [e9, e9] at r
    refine ⟨vn, vm, _, en, em, r, ?_⟩
    rw [eF]
    rw [List.nil_append] at eG eL
    have p1 : (F1 ++ (Fn ++ F2)).Perm (Fn ++ (F1 ++ F2)) := List.perm_append_comm_assoc ..
    have p2 : (L1 ++ (Fm ++ L2)).Perm (Fm ++ (L1 ++ L2)) := List.perm_append_comm_assoc ..
    refine p2.trans (.trans ?_ p1.symm)
    rw [← eL, eG]
    have p3 : (G1 ++ (Fn ++ G2)).Perm (Fn ++ (G1 ++ G2)) := List.perm_append_comm_assoc ..
    have p4 : (G1 ++ (Fm ++ G2)).Perm (Fm ++ (G1 ++ G2)) := List.perm_append_comm_assoc ..
    refine (p3.append_left Fm).trans (.trans ?_ (p4.append_left Fn).symm)
    exact List.perm_append_comm_assoc ..
end
@[simp] theorem swpDM_ap {i a b : Nat} {env : Env} : swpDM i a b env = match deepL i env, env[a]?, env[b]? with
  | some ds, some (some (_, .int x)), some (some (_, .int y)) => match ixN ds.length x, ixN ds.length y with
    | some n, some m => match ds[n]?, ds[m]? with
      | some dn, some dm => .nx (env.set i (some (true, .deep (.lst ((ds.set n dm).set m dn)))))
      | _, _ => .no
    | _, _ => .no
  | _, _, _ => .no := id rfl
/-! ### a slot read, wholly owned or not -/
def rdXM (i : Nat) (env : Env) : Option D := match env[i]? with
  | some (some (_, d)) => some (unD d)
  | _ => none
@[simp] theorem rdXM_ap {i : Nat} {env : Env} : rdXM i env = match env[i]? with | some (some (_, d)) => some (unD d) | _ => none := id rfl
/-! ### repr of any thing, of a list of odd things -/
end MM

set_option Elab.async false
set_option linter.all false
set_option maxRecDepth 100000
set_option maxHeartbeats 8000000
noncomputable section
namespace MM
open PySem PySem.Spec PyProof.Rows L2

/-! ### what the written part must say -/
section
variable {X : Cx} {K : PySem.W.Frag} {mg : Str → Option Value} {x : Str} {ys : List Str}
end

/-! ### own exceptions whose __init__ asks the base's and keeps one whole number -/
/-- what the written part says of an own exception class with its own __init__ -/
structure IniT (K : PySem.W.Frag) (mg : Str → Option Value) (x f : Str) (st : Stmt) (qual : Str) where
  C : Addr
  fI : Addr
  fd : FuncData
  oC : OexC K C
  no : PySem.W.findIn K (.ref C) f = some none
  ini : PySem.W.findIn K (.ref C) "__init__" = some (some (.ref fI))
  tI : PySem.W.typeIn K (.ref fI) = some (.type "function")
  mgx : mg x = some (.ref C)
  nsx : PySem.W.nsIn K mainGlobals x = some (some (.ref C))
  F : Fun K "__init__" qual st fI fd
  b : Binds K fd ["self", f] []
section
variable {P : Program} {w : World} {K : PySem.W.Frag} {mg : Str → Option Value} {base : Heap}
/-- raise x(e) -/
def raiseIM (x f : Str) (m : M D) : MS := fun env => match m env with
  | .ok (.int i) e => .ex ⟨x, some (f, i)⟩ e
  | .ex e e2 => .ex e e2
  | _ => .no
@[simp] theorem raiseIM_ap {x f : Str} {m : M D} {env : Env} : raiseIM x f m env = match m env with
  | .ok (.int i) e => .ex ⟨x, some (f, i)⟩ e
  | .ex e e2 => .ex e e2
  | _ => .no := rfl
end
/-! ### raise, and try .. except x: without a name -/
section
variable {X : Cx} {K : PySem.W.Frag} {mg : Str → Option Value} {x f qual : Str} {st : Stmt}
end
section
variable {K : PySem.W.Frag} {mg : Str → Option Value} {W : WX} {ps : List Nat} {ro : Bool} {xs : List Str} {m mh : MS} {tb : WX → TS} {ts : Addr → Value → Option Addr → TS} {c : Value}
end
end MM

set_option Elab.async false
set_option linter.all false
set_option maxRecDepth 100000
set_option maxHeartbeats 8000000
noncomputable section
namespace MM
section
open PySem PySem.Spec PySem.Calls PyProof.Rows PySem.W
variable {prog : Program} {w : World} {A : Around} {E : Value → Shared → Prop} {s : Shared} {K : Frag} {x D : Addr} {ox : Obj} {od : Option Obj}
/-! ### isinstance of an exception that holds fields -/
end
open PySem PySem.Spec PyProof.Rows L2
def lookX : List (Str × List Str) → Str → Option (List Str)
  | [], _ => none
  | (y, ys) :: t, x => if x = y then some ys else lookX t x
def XTs (K : PySem.W.Frag) (tb : List (Str × List Str)) : Prop := ∀ x ys, lookX tb x = some ys → XT K x ys
theorem XTs.nil {K : PySem.W.Frag} : XTs K [] := fun _ _ h => by cases h
theorem XTs.cons {K : PySem.W.Frag} {tb : List (Str × List Str)} {x : Str} {ys : List Str} (h : XT K x ys) (t : XTs K tb) : XTs K ((x, ys) :: tb) := fun y zs e => by
  unfold lookX at e
  split at e
  · rename_i hy
    cases e
    rw [hy]
    exact h
  · exact t y zs e
section
variable {K : PySem.W.Frag} {tb : List (Str × List Str)}
end
/-! ### the field of a kept exception -/
def FX (K : PySem.W.Frag) (f : Str) (xs : List Str) : Prop := ∀ x ∈ xs, ∀ C, PySem.W.nsIn K mainGlobals x = some (some (.ref C)) → XfC K C ∧ PySem.W.findIn K (.ref C) f = some none
theorem FX.nil {K : PySem.W.Frag} {f : Str} : FX K f [] := fun _ h => nomatch h
theorem FX.cons {K : PySem.W.Frag} {mg : Str → Option Value} {f x qual : Str} {st : Stmt} {xs : List Str} (T : IniT K mg x f st qual) (Z : XfC K T.C) (h : FX K f xs) : FX K f (x :: xs) := fun y m C hC => by
  rcases List.mem_cons.mp m with e | m
  · subst e
    have := T.nsx
    rw [hC] at this
    cases this
    exact ⟨Z, T.no⟩
  · exact h y m C hC
def xatM (xs : List Str) (f : Str) (m : M D) : M D := fun env => match m env with
  | .ok (.xn x g i) e => if x ∈ xs ∧ g = f then .ok (.int i) e else .no
  | .ex e e2 => .ex e e2
  | _ => .no
@[simp] theorem xatM_ap {xs : List Str} {f : Str} {m : M D} {env : Env} : xatM xs f m env = match m env with
  | .ok (.xn x g i) e => if x ∈ xs ∧ g = f then .ok (.int i) e else .no
  | .ex e e2 => .ex e e2
  | _ => .no := rfl
section
variable {K : PySem.W.Frag} {mg : Str → Option Value} {W : WX} {p : Bool} {xs : List Str} {f : Str} {te : TE} {m : M D}
end
/-! ### try .. except M as e: c = e, of exceptions that hold a field -/
theorem Takers.nil {K : PySem.W.Frag} {mg : Str → Option Value} {c : Value} : Takers K mg c [] := ⟨fun _ h => nomatch h⟩
theorem Takers.cons {K : PySem.W.Frag} {mg : Str → Option Value} {c : Value} {x : Str} {xs : List Str} {C : Addr} (h1 : mg x = some (.ref C)) (h2 : PySem.W.nsIn K mainGlobals x = some (some (.ref C))) (h3 : PySem.W.exmOne K (.ref C) c = some true) (t : Takers K mg c xs) : Takers K mg c (x :: xs) where
  at_ := fun y m => by
    rcases List.mem_cons.mp m with e | m
    · rw [e]
      exact ⟨C, h1, h2, h3⟩
    · exact t.at_ y m
section
variable {K : PySem.W.Frag} {mg : Str → Option Value} {W : WX} {ps : List Nat} {ro : Bool} {i j : Nat} {xs : List Str} {m : MS} {tb : WX → TS} {c : Value}
end
/-! ### X(e).f -/
def mkatM (x f : Str) (m : M D) : M D := fun env => match m env with
  | .ok (.int i) e => .ok (.int i) e
  | .ex e e2 => .ex e e2
  | _ => .no
@[simp] theorem mkatM_ap {x f : Str} {m : M D} {env : Env} : mkatM x f m env = match m env with
  | .ok (.int i) e => .ok (.int i) e
  | .ex e e2 => .ex e e2
  | _ => .no := rfl
section
variable {K : PySem.W.Frag} {mg : Str → Option Value} {W : WX} {x f qual : Str} {st : Stmt} {te : TE} {m : M D}
end
end MM

set_option Elab.async false
set_option linter.all false
set_option maxRecDepth 100000
set_option maxHeartbeats 8000000
noncomputable section
namespace MM
open PySem PySem.Spec PyProof.Rows L2

/-! ### a list at the end of a path into a wholly owned thing -/
def lenD : D → Nat
  | .lst ds => ds.length
  | .tup ds => ds.length
  | _ => 0
def chD : D → Nat → Option D
  | .lst ds, n => ds[n]?
  | .tup ds, n => ds[n]?
  | _, _ => none
/-- the cells that lead there -/
def Chain (H : Hp) : D → V → List Nat → Addr → Prop
  | _, v, [], l => v = .ref l
  | d, v, n :: p, l => ∃ (a : Addr) (vs : List V) (u : V) (d1 : D), v = .ref a ∧ (H a = some (.lst vs) ∨ H a = some (.tup vs)) ∧ vs.length = lenD d ∧ vs[n]? = some u ∧ chD d n = some d1 ∧ Chain H d1 u p l
theorem Chain.mono {H H' : Hp} : ∀ {p : List Nat} {d : D} {v : V} {l : Addr}, Chain H d v p l → (∀ a o, H a = some o → H' a = some o) → Chain H' d v p l
  | [], _, _, _, h, _ => h
  | n :: p, _, _, _, ⟨a, vs, u, d1, e, h, hl, hu, hd, c⟩, k => ⟨a, vs, u, d1, e, h.imp (k _ _) (k _ _), hl, hu, hd, c.mono k⟩
theorem Chain.inj {H : Hp} : ∀ {p : List Nat} {d : D} {v : V} {l l' : Addr}, Chain H d v p l → Chain H d v p l' → l = l'
  | [], _, _, _, _, h, h' => by
    have e := h.symm.trans h'
    exact V.ref.inj e
  | n :: p, _, _, _, _, ⟨a, vs, u, d1, e, h, _, hu, hd, c⟩, ⟨a', vs', u', d1', e', h', _, hu', hd', c'⟩ => by
    subst e
    cases e'
    have ev : vs = vs' := by
      rcases h with h | h <;> rcases h' with h' | h' <;> (rw [h] at h'; cases h') <;> rfl
    subst ev
    rw [hu] at hu'
    cases hu'
    rw [hd] at hd'
    cases hd'
    exact c.inj c'
section
variable {K : PySem.W.Frag}
variable {B : Addr → Prop} {env : Env} {σ : St} {H : Hp} {F : List Addr} {i : Nat} {d : D} {p : List Nat} {es : List D}
end
/-! ### x[a][b][c] = v, x wholly owned, the indices read alone -/
section
variable {K : PySem.W.Frag} {mg : Str → Option Value} {W : WX} {ps : List Nat} {ro : Bool} {q : Bool} {te ta tb tc : TE} {mv ma mb mc : M D} {i : Nat}
end
end MM

set_option Elab.async false
set_option linter.all false
set_option maxRecDepth 100000
set_option maxHeartbeats 4000000
noncomputable section
namespace MM
open PySem PySem.Spec PyProof.Rows L2

/-! ### dict(enumerate(x)), x a list or a tuple -/
section
variable {prog : Program} {w : World} {A : Around} {E : Value → Shared → Prop} {s : Shared}
theorem enum_item_heldD {e it T : Addr} {fp : List Addr} {n i : Nat} {P : Nat → Value → Prop} {St : Nat → Heap → Prop} {old : Value} {f : Bool} {oT : Obj} {Q : Value → Shared → Prop}
    (D : Draws prog w A it fp n P St) (he : IsEnumHeld s.heap e it i old T f) (hT : s.heap.get? T = some oT) (hTe : T ≠ e) (hTi : T ≠ it) (hst : St i s.heap) (hlt : i < n) (hne : e ≠ it) (hef : e ∉ fp)
    (hQ : ∀ x h' tk, P i x → IsEnumHeld h' e it ((i : Int) + 1) old T true → St (i + 1) h' →
      h'.get? s.heap.objs.size = some { cls := .type "tuple", data := .seq #[.int i tk, x] } → h'.objs.size = s.heap.objs.size + 1 →
      (∀ b o, b ≠ e → b ≠ it → s.heap.get? b = some o → h'.get? b = some o) → Q (.ref s.heap.objs.size) { s with heap := h', toks := tk + 1 }) :
    wpAny (model prog w) A (Builtin.«enumerate.__next__» ⟨[.ref e], []⟩) (fun fin s' => ∃ v, fin = .done (.ret v) ∧ Q v s') E s := by
  obtain ⟨hp, g, d, tk₀, os⟩ := s
  show wpAny _ _ (field (.ref e) 2 >>= _) _ _ _
  refine wpAny_bind (wpAny_field he rfl (x := .ref it) rfl ?_)
  refine wpAny_bind (D.item i _ _ _ hlt hst fun x h₁ tk hPx hit₁ hs₁ => ?_)
  replace hs₁ : Heap.SameBut it hp h₁ := hs₁
  have he₁ : IsEnumHeld h₁ e it i old T f := (hs₁.2 e hne).trans he
  show wpAny _ _ (field (.ref e) 3 >>= _) _ _ ⟨h₁, g, d, tk, os⟩
  refine wpAny_bind (wpAny_field he₁ rfl (x := rawInt i) rfl ?_)
  show wpAny _ _ (field (.ref e) 4 >>= _) _ _ ⟨h₁, g, d, tk, os⟩
  refine wpAny_bind (wpAny_field he₁ rfl (x := .none) rfl ?_)
  show wpAny _ _ (mkInt i >>= _) _ _ ⟨h₁, g, d, tk, os⟩
  refine wpAny_bind (wpAny_mkInt ?_)
  show wpAny _ _ (setField (.ref e) 3 (rawInt ((i : Int) + 1)) >>= _) _ _ ⟨h₁, g, d, tk + 1, os⟩
  refine wpAny_bind (wpAny_setField_rec he₁ (by simp) fun h₂ he₂ hs₂ => ?_)
  replace hs₂ : Heap.SameBut e h₁ h₂ := hs₂
  replace he₂ : IsEnumHeld h₂ e it ((i : Int) + 1) old T f := he₂
  show wpAny _ _ (setField (.ref e) 4 .none >>= _) _ _ ⟨h₂, g, d, tk + 1, os⟩
  refine wpAny_bind (wpAny_setField_rec he₂ (by simp) fun h₃ he₃ hs₃ => ?_)
  replace hs₃ : Heap.SameBut e h₂ h₃ := hs₃
  replace he₃ : IsEnumHeld h₃ e it ((i : Int) + 1) old T f := he₃
  show wpAny _ _ (newTuple [.int i tk, x] >>= _) _ _ ⟨h₃, g, d, tk + 1, os⟩
  refine wpAny_bind (wpAny_newTuple ?_)
  have he₄ : IsEnumHeld (h₃.push { cls := .type "tuple", data := .seq #[.int i tk, x] }) e it ((i : Int) + 1) old T f := Heap.get?_push_of_some _ he₃
  generalize hh₄ : h₃.push { cls := .type "tuple", data := .seq #[.int i tk, x] } = h₄ at he₄
  have hsz : h₃.objs.size = hp.objs.size := by rw [hs₃.1, hs₂.1, hs₁.1]
  have hel : e < hp.objs.size := Heap.lt_size he
  have ht₄ : h₄.get? hp.objs.size = some { cls := .type "tuple", data := .seq #[.int i tk, x] } := by rw [← hh₄, ← hsz]; exact Heap.get?_push_size _ rfl
  have hz₄ : h₄.objs.size = hp.objs.size + 1 := by rw [← hh₄, Heap.size_push, hsz]
  have hk₄ : ∀ b o, b ≠ e → b ≠ it → hp.get? b = some o → h₄.get? b = some o := fun b o hbe hbi hb => by
    rw [← hh₄]; exact Heap.get?_push_of_some _ (hs₃.extBut b o hbe (hs₂.extBut b o hbe (hs₁.extBut b o hbi hb)))
  have hit₄ : St (i + 1) h₄ := D.frame _ _ _ hit₁ fun b hb o y => by
    have hbe : b ≠ e := fun q => hef (q ▸ hb)
    rw [← hh₄]; exact Heap.get?_push_of_some _ (hs₃.extBut b o hbe (hs₂.extBut b o hbe y))
  show wpAny _ _ (Builtin.SmallTypes.ownedTupleIsFree (.ref e) >>= _) _ _ ⟨h₄, g, d, tk + 1, os⟩
  rw [hsz]
  clear hh₄ he₃ hs₃ he₂ hs₂ he₁ hs₁ hit₁ hsz h₃ h₂ h₁
  refine wpAny_bind (wpAny_tupleHeld_enum (s := ⟨h₄, g, d, tk + 1, os⟩) he₄ (hk₄ T oT hTe hTi hT) fun h₅ he₅ hs₅ => ?_)
  replace hs₅ : Heap.SameBut e h₄ h₅ := hs₅
  simp only [Bool.false_eq_true, if_false]
  refine wpAny_pure ⟨_, rfl, hQ x h₅ tk hPx he₅ (D.frame _ _ _ hit₄ fun b hb o y => hs₅.extBut b o (fun q => hef (q ▸ hb)) y) (hs₅.extBut _ _ (Nat.ne_of_gt hel) ht₄) ?_ fun b o hbe hbi hb => hs₅.extBut b o hbe (hk₄ b o hbe hbi hb)⟩
  show h₅.objs.size = hp.objs.size + 1
  rw [hs₅.1, hz₄]
theorem next_item_heldD {e it T : Addr} {fp : List Addr} {n i : Nat} {P : Nat → Value → Prop} {St : Nat → Heap → Prop} {old : Value} {f : Bool} {oT : Obj} {Q : Option Value → Shared → Prop}
    (D : Draws prog w A.in1 it fp n P St) (he : IsEnumHeld s.heap e it i old T f) (hT : s.heap.get? T = some oT) (hTe : T ≠ e) (hTi : T ≠ it) (hst : St i s.heap) (hlt : i < n) (hne : e ≠ it) (hef : e ∉ fp)
    (hQ : ∀ x h' tk, P i x → IsEnumHeld h' e it ((i : Int) + 1) old T true → St (i + 1) h' →
      h'.get? s.heap.objs.size = some { cls := .type "tuple", data := .seq #[.int i tk, x] } → h'.objs.size = s.heap.objs.size + 1 →
      (∀ b o, b ≠ e → b ≠ it → s.heap.get? b = some o → h'.get? b = some o) → Q (some (.ref s.heap.objs.size)) { s with heap := h', toks := tk + 1 }) :
    wpAny (model prog w) A (pyNext (.ref e)) Q E s := by
  have hTy : s.TypeIs (.ref e) "enumerate" := ⟨_, he, rfl⟩
  unfold pyNext
  exact wpAny_bind (wpAny_attempt (wpAny_callSpecial?_slot (name := Str.ofString "__next__") hTy F.slot_enumerate_next
    (wpAny_call_entry F.slot_enumerate_next hTy F.entry_enumerate_next
      (enum_item_heldD D he hT hTe hTi hst hlt hne hef fun x h' tk a1 a2 a3 a4 a5 a6 => wpAny_pure (hQ x h' tk a1 a2 a3 a4 a5 a6)) (F.args_enumerate_next_1 _))))
theorem next_end_heldD {e it T : Addr} {fp : List Addr} {n : Nat} {P : Nat → Value → Prop} {St : Nat → Heap → Prop} {i : Int} {old : Value} {f : Bool} {Q : Option Value → Shared → Prop}
    (D : Draws prog w A.in1 it fp n P St) (he : IsEnumHeld s.heap e it i old T f) (hst : St n s.heap)
    (hQ : ∀ h', Heap.ExtBut it s.heap h' → Q none { s with heap := h' }) : wpAny (model prog w) A (pyNext (.ref e)) Q E s := by
  have hTy : s.TypeIs (.ref e) "enumerate" := ⟨_, he, rfl⟩
  unfold pyNext
  refine wpAny_bind (wpAny_attempt (wpAny_callSpecial?_slot (name := Str.ofString "__next__") hTy F.slot_enumerate_next
    (wpAny_call_entry F.slot_enumerate_next hTy F.entry_enumerate_next ?_ (F.args_enumerate_next_1 _))))
  show wpAny _ _ (field (.ref e) 2 >>= _) _ _ _
  refine wpAny_bind (wpAny_field he rfl (x := .ref it) rfl ?_)
  refine wpAny_bind (D.done _ _ _ hst fun h' x he' hx' => ?_)
  obtain ⟨o, ho, hc⟩ := hx'
  refine wpAny_bind (wpAny_isInstance (T := "StopIteration") (b := true) ⟨o, ho, hc⟩ isSubtype_stop ?_)
  exact wpAny_pure (hQ _ he')
end
theorem enumArg {prog : Program} {w : World} {it : Addr} {fp : List Addr} {n : Nat} {P : Nat → Value → Prop} {St : Nat → Heap → Prop} (D : ∀ A : Around, A.handled = none → Draws prog w A it fp n P St)
    (hfr : ∀ i h h', St i h → (∀ b ∈ fp, ∀ o, h.get? b = some o → h'.get? b = some o) → St i h') (e : Addr) (hei : e ≠ it) (hef : e ∉ fp) (hif : it ∈ fp) :
    PairArg prog w "enumerate" e (e :: fp) [e, it] n (fun i k v => (∃ t, k = .int i t) ∧ P i v) (fun h => (∃ old, IsEnum h e it 0 old) ∧ St 0 h ∧ ∀ b ∈ fp, ∃ o, h.get? b = some o) where
  type := fun s ok => let ⟨⟨_, he⟩, _⟩ := ok; ⟨_, he, rfl⟩
  notDict := by decide
  keep := fun h h' ok hk => by
    obtain ⟨⟨old, he⟩, st, th⟩ := ok
    exact ⟨⟨old, hk _ _ he⟩, hfr _ _ _ st fun b _ o x => hk b o x, fun b hb => let ⟨o, x⟩ := th b hb; ⟨o, hk _ _ x⟩⟩
  there := fun h ok b hb => by
    obtain ⟨⟨old, he⟩, st, th⟩ := ok
    rcases List.mem_cons.mp hb with rfl | hb
    · exact ⟨_, he⟩
    · exact th b hb
  sub := fun b hb => by
    rcases List.mem_cons.mp hb with rfl | hb
    · exact List.mem_cons_self
    · rw [List.mem_singleton.mp hb]; exact List.mem_cons_of_mem _ hif
  noKeys := fun A s Q E hA ok h => let ⟨⟨_, he⟩, _⟩ := ok; getAttrOr_miss_enumerate he rfl rfl rfl enumerate_no_keys (by decide +kernel) hA h
  iter := fun A s d Q E hA ok hd hdf h => by
    obtain ⟨⟨old, he⟩, hst, th⟩ := ok
    have de : d ≠ e := fun z => hdf (z ▸ List.mem_cons_self)
    have df : d ∉ fp := fun z => hdf (List.mem_cons_of_mem _ z)
    have dit : d ≠ it := fun z => df (z ▸ hif)
    have D1 := D A.in1 (show A.in1.handled = none from hA)
    refine wpAny_pyIter_enum he (h e [e, it] (fun i h => St i h ∧ (∃ o, h.get? it = some o) ∧ ((∃ old, IsEnum h e it i old) ∨ ∃ old T f oT, IsEnumHeld h e it i old T f ∧ h.get? T = some oT ∧ T ≠ e ∧ T ≠ it ∧ T ≠ d)) s.heap s.toks ?_
      ⟨hst, th it hif, .inl ⟨old, he⟩⟩ (fun _ _ e => e) fun b hb => .inl hb)
    exact {
      off := fun hm => by
        simp only [List.mem_cons, List.not_mem_nil, or_false] at hm
        rcases hm with x | x
        · exact de x
        · exact dit x
      frame := fun i h₁ h₂ st hk => by
        obtain ⟨hit, ⟨oi, hoi⟩, he⟩ := st
        refine ⟨hfr _ _ _ hit fun b hb o x => hk b o (fun z => df (z ▸ hb)) x, ⟨oi, hk _ _ (Ne.symm dit) hoi⟩, ?_⟩
        rcases he with ⟨old, he⟩ | ⟨old, T, f, oT, he, hT, r1, r2, r3⟩
        · exact .inl ⟨old, hk _ _ (Ne.symm de) he⟩
        · exact .inr ⟨old, T, f, oT, hk _ _ (Ne.symm de) he, hk _ _ r3 hT, r1, r2, r3⟩
      item := fun i s₁ Q₁ E₁ hi st hds hQ => by
        obtain ⟨hit, ⟨oi, hoi⟩, he⟩ := st
        have ec : ((i + 1 : Nat) : Int) = (i : Int) + 1 := by omega
        have nit : s₁.heap.objs.size ≠ it := Nat.ne_of_gt (Heap.lt_size hoi)
        rcases he with ⟨old, he⟩ | ⟨old, T, f, oT, he, hT, r1, r2, r3⟩
        · refine wpAny_pyNext_enum_itemD D1 he hit hi hei hef fun x h' tk hP ho hst' hT hsz hk => ?_
          have hli := D1.live _ _ hst'
          exact hQ s₁.heap.objs.size _ _ h' (tk + 1) ⟨⟨_, rfl⟩, hP⟩ (.inl ⟨_, hT, rfl, _, rfl⟩)
            ⟨hst', hli, .inr ⟨_, s₁.heap.objs.size, false, _, (by rw [ec]; exact ho), hT, Nat.ne_of_gt (Heap.lt_size he), nit, Nat.ne_of_gt hds⟩⟩
            fun b o hb x => hk b o (fun y => hb (by simp [y])) (fun y => hb (by simp [y])) x
        · refine next_item_heldD D1 he hT r1 r2 hit hi hei hef fun x h' tk hP ho hst' hT' hsz hk => ?_
          have hli := D1.live _ _ hst'
          exact hQ s₁.heap.objs.size _ _ h' (tk + 1) ⟨⟨_, rfl⟩, hP⟩ (.inl ⟨_, hT', rfl, _, rfl⟩)
            ⟨hst', hli, .inr ⟨old, T, true, oT, (by rw [ec]; exact ho), hk _ _ r1 r2 hT, r1, r2, r3⟩⟩
            fun b o hb x => hk b o (fun y => hb (by simp [y])) (fun y => hb (by simp [y])) x
      done := fun s₁ Q₁ E₁ st hQ => by
        obtain ⟨hit, _, he⟩ := st
        rcases he with ⟨old, he⟩ | ⟨old, T, f, oT, he, hT, r1, r2, r3⟩
        · exact wpAny_pyNext_enum_endD D1 he hit fun h' hk => hQ h' s₁.toks fun b o hb x => hk b o (fun y => hb (by simp [y])) x
        · exact next_end_heldD D1 he hit fun h' hk => hQ h' s₁.toks fun b o hb x => hk b o (fun y => hb (by simp [y])) x }
/-! the rule -/
def enumK {α : Type} : Nat → List α → List (Key × α)
  | _, [] => []
  | i, x :: xs => (.inl (i : Int), x) :: enumK (i + 1) xs
theorem enumK_len {α : Type} : ∀ (i : Nat) (xs : List α), (enumK i xs).length = xs.length
  | _, [] => rfl
  | i, x :: xs => by rw [enumK, List.length_cons, List.length_cons, enumK_len]
theorem enumK_get {α : Type} : ∀ (i : Nat) (xs : List α) (j : Nat), (enumK i xs)[j]? = (xs[j]?).map fun x => ((.inl ((i + j : Nat) : Int) : Key), x)
  | _, [], _ => rfl
  | i, x :: xs, 0 => rfl
  | i, x :: xs, j + 1 => by
    rw [enumK, List.getElem?_cons_succ, List.getElem?_cons_succ, enumK_get (i + 1) xs j, show i + 1 + j = i + (j + 1) by omega]
theorem enumK_kv : ∀ (i : Nat) {xs : List V} {us : List Value}, Vals xs us → KV (enumK i xs) (enumK i us)
  | _, _, _, .nil => .nil
  | i, _, _, .cons r t => .cons ⟨rfl, r⟩ (enumK_kv (i + 1) t)
/-- dict(enumerate(x)) of a list or tuple -/
def kEnum (K : PySem.W.Frag) (x : V) (H : Hp) (Q : VK) : Prop := ∃ a xs, x = .ref a ∧ (SqL K H a xs ∨ SqT K H a xs) ∧ ∀ p, H p = none → Q (.ref p) (upd H p (.dK (mergeK [] (enumK 0 xs))))
theorem pe_dictEnum {X : Cx} {K : PySem.W.Frag} {a : Expr} {ta : TE} {p p2 pos pos2 : Pos} (hK : X.K = K) (hcalm : X.calm = true) (hgd : Gl X "dict") (hmd : X.mg "dict" = none) (hge : Gl X "enumerate") (hme : X.mg "enumerate" = none) (ha : PE X a ta)
    (na : starEach [a] X.env = (false, eval a X.env) :: starEach [] X.env := by rfl) (nb : starEach [.Call (.Name "enumerate" p2) [a] [] pos2] X.env = (false, eval (.Call (.Name "enumerate" p2) [a] [] pos2) X.env) :: starEach [] X.env := by rfl) :
    PE X (.Call (.Name "dict" p) [.Call (.Name "enumerate" p2) [a] [] pos2] [] pos) (tThen ta (kEnum K)) := by
  subst hK
  refine ⟨fun pins s σ H Q I h => ?_⟩
  refine Call_ (ld_blt I hgd hmd boot_dict (PyProof.Rows.callWith_type1 (args_cons (thn (Q := fun v s3 => ∃ (s2 : Shared) (H2 : Hp) (h1 : Heap) (a e it : Addr) (xs : List V) (its : List Value) (fp : List Addr) (St : Nat → Heap → Prop), Inv X pins σ H2 s2 ∧ v = .ref e ∧ s3 = { s2 with heap := h1 } ∧ Vals xs its ∧ its.length ≤ sizeLine ∧ (∀ b o, s2.heap.get? b = some o → h1.get? b = some o) ∧ s2.heap.objs.size ≤ e ∧ s2.heap.objs.size ≤ it ∧ (∀ A : Around, A.handled = none → Draws X.prog X.w A it fp its.toArray.size (fun i v => its.toArray[i]? = some v) St) ∧ (∀ i h h', St i h → (∀ b ∈ fp, ∀ o, h.get? b = some o → h'.get? b = some o) → St i h') ∧ e ≠ it ∧ e ∉ fp ∧ it ∈ fp ∧ ((∃ old, IsEnum h1 e it 0 old) ∧ St 0 h1 ∧ ∀ b ∈ fp, ∃ o, h1.get? b = some o) ∧ ∀ p, H2 p = none → Q (.ref p) (upd H2 p (.dK (mergeK [] (enumK 0 xs)))))
    (Call_ (ld_blt I hge hme boot_enumerate (PyProof.Rows.callWith_type1 (one_arg ha I h (fun v s2 x H2 I2 r q => ?_) na) na rfl))) fun v s3 q => args_nil ?_) nb) nb rfl))
  · obtain ⟨a, xs, rfl, hq, q⟩ := q
    obtain rfl : v = .ref a := r
    rcases hq with hq | hq
    · obtain ⟨its, rv, pl, hz⟩ := I2.list hq
      have hal : a < s2.heap.objs.size := by obtain ⟨o, ho, _⟩ := pl.isList; exact Heap.lt_size ho
      refine call_enumerate_list pl.isList fun h' he hit hsz hk => ?_
      have nf : a ≠ s2.heap.objs.size := Nat.ne_of_lt hal
      have pl' : h'.IsList a its.toArray := pl.isList.at fun o x => hk _ o x
      have hio := hit
      obtain ⟨oi, hoi, _⟩ := hio
      obtain ⟨oa, hoa, _⟩ := id pl'
      refine ⟨s2, H2, h', a, s2.heap.objs.size + 1, s2.heap.objs.size, xs, its, [s2.heap.objs.size, a], _, I2, rfl, rfl, rv, by rw [← rv.length]; exact hz, hk, Nat.le_succ _, Nat.le_refl _, fun A hA => Draws.list hA s2.heap.objs.size a nf its.toArray, fun i h h' st k => ⟨st.1.at fun o x => k _ (by simp) o x, st.2.at fun o x => k _ (by simp) o x⟩, Nat.succ_ne_self _, fun z => ?_, List.mem_cons_self, ⟨⟨_, he⟩, ⟨hit, pl'⟩, fun b hb => ?_⟩, q⟩
      · simp only [List.mem_cons, List.not_mem_nil, or_false] at z
        rcases z with z | z
        · exact Nat.succ_ne_self _ z
        · exact absurd hal (by rw [← z]; exact Nat.not_lt_of_le (Nat.le_succ _))
      · simp only [List.mem_cons, List.not_mem_nil, or_false] at hb
        rcases hb with rfl | rfl
        · exact ⟨_, hoi⟩
        · exact ⟨_, hoa⟩
    · obtain ⟨its, rv, pl, hz⟩ := I2.tuple hq
      have pt : s2.heap.IsTuple a its.toArray := pl
      have hal : a < s2.heap.objs.size := by obtain ⟨o, ho, _⟩ := id pt; exact Heap.lt_size ho
      refine call_enumerate_tup pt fun h' he hit hsz hk => ?_
      have nf : a ≠ s2.heap.objs.size := Nat.ne_of_lt hal
      have pl' : h'.IsTuple a its.toArray := pt.at fun o x => hk _ o x
      have hio := hit
      obtain ⟨oi, hoi, _⟩ := hio
      obtain ⟨oa, hoa, _⟩ := id pl'
      refine ⟨s2, H2, h', a, s2.heap.objs.size + 1, s2.heap.objs.size, xs, its, [s2.heap.objs.size, a], _, I2, rfl, rfl, rv, by rw [← rv.length]; exact hz, hk, Nat.le_succ _, Nat.le_refl _, fun A hA => Draws.tuple hA s2.heap.objs.size a nf its.toArray, fun i h h' st k => ⟨st.1.at fun o x => k _ (by simp) o x, st.2.at fun o x => k _ (by simp) o x⟩, Nat.succ_ne_self _, fun z => ?_, List.mem_cons_self, ⟨⟨_, he⟩, ⟨hit, pl'⟩, fun b hb => ?_⟩, q⟩
      · simp only [List.mem_cons, List.not_mem_nil, or_false] at z
        rcases z with z | z
        · exact Nat.succ_ne_self _ z
        · exact absurd hal (by rw [← z]; exact Nat.not_lt_of_le (Nat.le_succ _))
      · simp only [List.mem_cons, List.not_mem_nil, or_false] at hb
        rcases hb with rfl | rfl
        · exact ⟨_, hoi⟩
        · exact ⟨_, hoa⟩
  · obtain ⟨s2, H2, h1, a, e, it, xs, its, fp, St, I2, rfl, rfl, rv, hz, hk, le, li, D, hfr, hei, hef, hif, ok, q⟩ := q
    have P := enumArg D hfr e hei hef hif
    refine PySem.call_dict_pairs (knd := mixKind X.prog X.w) (kvs := enumK 0 its) P (I2.ok.hd hcalm) ok ⟨by rw [enumK_len]; simp, fun i key v hr => ?_⟩ (by simpa using hz) fun h' tk hd' hk' => ?_
    · obtain ⟨⟨t, rfl⟩, hv⟩ := hr
      have hv : its[i]? = some v := by simpa using hv
      refine ⟨.inl (i : Int), by rw [enumK_get, hv, Nat.zero_add]; rfl, ?_⟩
      show keyIs (.inl (i : Int)) (.int (i : Nat) t) = true
      unfold keyIs
      simp [Value.isInt]
    · have kept : ∀ b o, s2.heap.get? b = some o → h'.get? b = some o := fun b o x => hk' b o (fun z => by
        have := Heap.lt_size x
        simp only [List.mem_cons, List.not_mem_nil, or_false] at z
        rcases z with z | z
        · exact Nat.not_lt_of_le le (z ▸ this)
        · exact Nat.not_lt_of_le li (z ▸ this)) (hk b o x)
      have big : s2.heap.objs.size ≤ h1.objs.size := by
        obtain ⟨⟨old, he⟩, _⟩ := ok
        have := Heap.lt_size he
        exact Nat.le_of_lt (Nat.lt_of_le_of_lt le this)
      have hm : (h1.objs.size == sysModules) = false := beq_eq_false_iff_ne.mpr (Nat.ne_of_gt (Nat.lt_of_lt_of_le I2.big big))
      have hlen : (mergeK [] (enumK 0 xs)).length ≤ sizeLine := by
        refine Nat.le_trans (length_mergeK (enumK 0 xs) []) ?_
        rw [List.length_nil, Nat.zero_add, enumK_len, rv.length]
        exact hz
      exact ⟨.ref h1.objs.size, upd H2 h1.objs.size (.dK (mergeK [] (enumK 0 xs))), I2.laid (t' := tk) kept big (show ObjOk X.prog X.w _ _ _ (.dK (mergeK [] (enumK 0 xs))) from ⟨hlen, hm, merged [] (enumK 0 its), KV.merge (enumK_kv 0 rv) .nil, hd'⟩), rfl, q _ (I2.hok.fresh big)⟩

section
variable {K : PySem.W.Frag} {mg : Str → Option Value} {W : WX} {p : Bool} {tA : TA} {ms : M (List D)} {Z : Hp}
theorem enumK_rep : ∀ (i : Nat) {xs : List D} {vs : List V}, RepL K Z xs vs → RepK K Z (enumK i xs) (enumK i vs)
  | _, _, _, .nil => .nil
  | i, _, _, .cons r t => .cons r (enumK_rep (i + 1) t)
end
end MM

set_option Elab.async false
set_option linter.all false
set_option maxRecDepth 100000
set_option maxHeartbeats 8000000
noncomputable section
namespace MM
open PySem PySem.Spec PyProof.Rows L2

/-! ### repr of a list of any things, dicts at any depth -/
mutual
inductive RdZ (h : Heap) : Value → PyData → Prop
  | none : RdZ h .none .none
  | bool (b) : RdZ h (.bool b) (.bool b)
  | int (i t) : RdZ h (.int i t) (.int i)
  | str (x t) : RdZ h (.str x t) (.str x)
  | list {a o vs n xs} : h.get? a = some o → o.cls = .type "list" → o.data = .seq vs n → RdZs h vs.toList xs → RdZ h (.ref a) (.list xs)
  | tuple {a o vs n xs} : h.get? a = some o → o.cls = .type "tuple" → o.data = .seq vs n → RdZs h vs.toList xs → RdZ h (.ref a) (.tuple xs)
  | dict {a o es n kvs} : h.get? a = some o → o.cls = .type "dict" → o.data = .dict es n → (a == sysModules) = false → RdZs h (es.toList.map (·.key)) (kvs.map (·.1)) →
      RdZs h (es.toList.map (·.val)) (kvs.map (·.2)) → RdZ h (.ref a) (.dict kvs)
inductive RdZs (h : Heap) : List Value → List PyData → Prop
  | nil : RdZs h [] []
  | cons {v vs d ds} : RdZ h v d → RdZs h vs ds → RdZs h (v :: vs) (d :: ds)
end
section
variable {prog : Program} {w : World} {h₀ : Heap}
mutual
theorem RdZ.reads : ∀ {v : Value} {d : PyData}, RdZ h₀ v d → ∃ as, Reads h₀ v d as
  | _, _, .none => ⟨_, .none⟩
  | _, _, .bool b => ⟨_, .bool b⟩
  | _, _, .int i t => ⟨_, .int i t⟩
  | _, _, .str x t => ⟨_, .str x t⟩
  | _, _, .list h1 h2 h3 h4 => let ⟨_, r⟩ := RdZs.reads h4; ⟨_, .list h1 h2 h3 r⟩
  | _, _, .tuple h1 h2 h3 h4 => let ⟨_, r⟩ := RdZs.reads h4; ⟨_, .tuple h1 h2 h3 r⟩
  | _, _, .dict h1 h2 h3 _ h4 h5 => let ⟨_, r⟩ := RdZs.reads h4; let ⟨_, r2⟩ := RdZs.reads h5; ⟨_, .dict h1 h2 h3 r r2⟩
theorem RdZs.reads : ∀ {vs : List Value} {ds : List PyData}, RdZs h₀ vs ds → ∃ as, ReadsAll h₀ vs ds as
  | _, _, .nil => ⟨_, .nil⟩
  | _, _, .cons r rs => let ⟨_, q⟩ := RdZ.reads r; let ⟨_, q2⟩ := RdZs.reads rs; ⟨_, .cons q q2⟩
end
end
/-! told things as data -/
section
variable {X : Cx} {pins : List (Addr × Obj)} {σ : St} {H : Hp} {s : Shared}
end
/-! ### one letter, repeated -/
end MM

set_option Elab.async false
set_option linter.all false
set_option maxRecDepth 100000
set_option maxHeartbeats 4000000
noncomputable section
namespace MM
open PySem PySem.Spec PyProof.Rows L2

/-! ### tuples of which it is known that they have no dict: made -/
section
variable {K : PySem.W.Frag} {mg : Str → Option Value} {W : WX} {p q : Bool} {B : Addr → Prop} {env : Env} {σ : St} {H : Hp} {F : List Addr} {ds : List D} {vs : List V} {pp : Addr} {o : Obj} {tA : TA} {ms : M (List D)} {t to : TE} {m : M D}
theorem Sta.mkZ (S : Sta K B env σ H F) (ru : RepL K (Fz B H F) ds vs) (h : H pp = none) (hd : o.dict = none) : StaL K B env σ (upd H pp (.frz o (.tup vs))) F [.tz ds] [.ref pp] [] := by
  have S1 := S.new (o := .frz o (.tup vs)) h
  obtain ⟨hp, hb⟩ := S.nil.sub0 h
  rw [List.append_nil] at hp
  exact S1.rep (.cons (.tz (by rw [fz_in hp hb]; exact upd_same) hd (ru.mono (fz_mk fun b u q m n => ⟨ex_new h _ _ q, m, n⟩))) .nil)
/-- an answer that stands, or a new tuple -/
def OpZ (K : PySem.W.Frag) (r : List V → Hp → VK → Prop) (f : List D → Option D) : Prop :=
  ∀ Z H ds vs (Q : VK) d, Ex Z H → RepL K Z ds vs → f ds = some d → (∀ v, Rep K Z d v → Exl d [] → Q v H) →
    (∀ es p (o : Obj) us, d = .tz es → H p = none → o.dict = none → RepL K Z es us → Q (.ref p) (upd H p (.frz o (.tup us)))) → r vs H Q
theorem en_z {r : List V → Hp → VK → Prop} {f : List D → Option D} (hr : OpZ K r f) (ha : EvA K mg W p tA ms) (ht : ∀ σ H Q, tA σ H (fun vs H' => r vs H' Q) → t σ H Q := by exact fun _ _ _ h => h) : EvN K mg W p t (opM f ms) := fun B env σ H F Q S h => by
  refine ht σ H Q (ha B env σ H F _ S ?_)
  unfold opM at h
  split
  · rename_i ds e2 em
    rw [em] at h
    dsimp only at h
    intro vs H2 F2 Fd S1 N1 P2
    obtain ⟨S2, r2⟩ := S1.freeze
    have N2 : Nxt H F H2 F2 := N1.weak fun a m => List.mem_append_left _ m
    cases ef : f ds with
    | none => rw [ef] at h; exact h.elim
    | some d =>
      rw [ef] at h
      dsimp only at h
      refine hr _ H2 ds vs Q d (fz_ex B H2 F2) r2 ef (fun v rv x => ?_) (fun es pp o us e hp hd ru => ?_)
      · exact h v H2 F2 [] (S2.rep (.cons rv .nil)) x (by rw [List.append_nil]; exact N2) P2
      · subst e
        refine h _ _ F2 [] (S2.mkZ ru hp hd) trivial (by rw [List.append_nil]; exact N2.grow (ex_new hp)) fun q => ?_
        obtain ⟨a1, a2, a3⟩ := P2 q
        exact ⟨a1, a2, a3.trans (ex_new hp)⟩
  · rename_i e e2 em
    rw [em] at h
    exact h
  · rename_i em
    rw [em] at h
    exact h
/-! tuple(xs) -/
def rTupZ (K : PySem.W.Frag) : List V → Hp → VK → Prop := fun xs H Q => ∃ p ys, xs = [.ref p] ∧ ((SqL K H p ys ∧ ∀ l (o : Obj), H l = none → o.dict = none → Q (.ref l) (upd H l (.frz o (.tup ys)))) ∨ (SqT K H p ys ∧ Q (.ref p) H))
theorem call_tupZ {X : Cx} : CallR X (.type "tuple") (rTupZ X.K) := by
  intro pins s σ H xs us Q I r h
  obtain ⟨p, ys, rfl, h⟩ := h
  obtain ⟨u, rfl, rx⟩ := vals1 r
  cases rx
  rcases h with ⟨hq, q⟩ | ⟨hq, q⟩
  · obtain ⟨its, r', pl, hz⟩ := I.list hq
    have hlen := r'.length
    refine call_tuple_list pl.isList (fun h' kp => ?_) (by simp only [List.size_toArray] <;> omega)
    have I1 : Inv X pins σ H { s with heap := h' } := I.kept (t' := s.toks) kp
    have I2 : Inv X pins σ (upd H h'.objs.size (.frz { cls := .type "tuple", data := .seq its.toArray } (.tup ys))) { s with heap := h'.push { cls := .type "tuple", data := .seq its.toArray } } :=
      I1.laid (t' := s.toks) (fun b o e => Heap.get?_push_of_some _ e) (Nat.le_refl _) (show ObjOk X.prog X.w _ _ _ (.frz _ (.tup ys)) from ⟨Heap.get?_push_size _ rfl, hz, its, r', IsTup.new _ _⟩)
    exact ⟨.ref h'.objs.size, _, I2, rfl, q _ _ (I1.hok.fresh (Nat.le_refl _)) rfl⟩
  · obtain ⟨its, r', pl, hz⟩ := I.tuple hq
    exact call_tuple_same pl ⟨.ref p, H, I, rfl, q⟩
theorem call_tupZ_ {X : Cx} (hK : X.K = K) : CallR X (.type "tuple") (rTupZ K) := hK ▸ call_tupZ
def tupleZF : List D → Option D
  | [.lst ds] => some (.tz ds)
  | [.tz ds] => some (.tz ds)
  | _ => none
theorem z_tuple : OpZ K (rTupZ K) tupleZF := fun Z H ds vs Q d ez R ef q qz => by
  unfold tupleZF at ef
  split at ef
  · obtain ⟨x, rfl, rx⟩ := R.one_inv
    cases ef
    cases rx with
    | lst h r => exact ⟨_, _, rfl, .inl ⟨.of (ez _ _ h), fun l o hl hd => qz _ l o _ rfl hl hd r⟩⟩
  · obtain ⟨x, rfl, rx⟩ := R.one_inv
    cases ef
    cases rx with
    | tz h d r => exact ⟨_, _, rfl, .inr ⟨.inl (.inr ⟨_, ez _ _ h⟩), q _ (.tz h d r) trivial⟩⟩
  · cases ef
/-! tuple(range(n)) -/
def tTupRgZ (te : St → Hp → (Int → Int → Hp → Prop) → Prop) : TE := fun σ H Q => te σ H fun a b H1 => RgOk a b ∧ ∀ q (o : Obj), H1 q = none → o.dict = none → Q (.ref q) (upd H1 q (.frz o (.tup (rgV a b))))
theorem pe_tupRgZ {X : Cx} {e : Expr} {te : St → Hp → (Int → Int → Hp → Prop) → Prop} {p pos : Pos} (hc : X.calm = true) (hg : Gl X "tuple") (hm : X.mg "tuple" = none) (he : PRg X e te) (na : starEach [e] X.env = (false, eval e X.env) :: starEach [] X.env := by rfl) : PE X (.Call (.Name "tuple" p) [e] [] pos) (tTupRgZ te) := by
  refine ⟨fun pins s σ H Q I h => ?_⟩
  refine Call_ (ld_blt I hg hm boot_tuple (PyProof.Rows.callWith_type1 (args_cons (thn (he pins s σ H _ I h) fun x s1 ⟨r, a, b, t, u, v, H1, ex, hr, I1, ok, q⟩ => args_nil ?_) na) na))
  subst ex
  obtain ⟨b1, b2, b3, b4, b5⟩ := ok
  refine call_tuple_range (n := (b - a).toNat) (I1.ok.hd hc) hr (small_one b1 b2 b3 b4) (rangeSize_nat a b) b5 fun h' tk acc hk hi => ?_
  have I2 : Inv X pins σ H1 { s1 with heap := h', toks := tk } := I1.kept hk
  refine ⟨.ref h'.objs.size, upd H1 h'.objs.size (.frz { cls := .type "tuple", data := .seq acc } (.tup (rgV a b))), I2.laid (t' := tk) (fun c o e => Heap.get?_push_of_some _ e) (Nat.le_refl _) (show ObjOk X.prog X.w _ _ _ (.frz _ (.tup (rgV a b))) from ⟨Heap.get?_push_size _ rfl, ?_, acc.toList, vals_rg hi, ?_⟩), rfl, q _ _ (I2.hok.fresh (Nat.le_refl _)) rfl⟩
  · rw [rgV_length, sizeLine_eq]; omega
  · rw [Array.toArray_toList]; exact IsTup.new _ _
def tupRgZF : List D → Option D
  | [.int n] => haveI : Decidable (RgOk 0 n) := Classical.propDecidable _; if RgOk 0 n then some (.tz (rangeL 0 n.toNat)) else none
  | _ => none
def rTupRgZ : List V → Hp → VK → Prop := fun vs H Q => match vs with
  | [x] => ∃ n, x = .int n ∧ (RgOk 0 n ∧ ∀ q (o : Obj), H q = none → o.dict = none → Q (.ref q) (upd H q (.frz o (.tup (rgV 0 n)))))
  | _ => False
theorem z_tupRg : OpZ K rTupRgZ tupRgZF := fun Z H ds vs Q d ez R ef q qz => by
  unfold tupRgZF at ef
  split at ef
  · rename_i n
    obtain ⟨x, rfl, rx⟩ := R.one_inv
    cases rx
    split at ef
    · rename_i hb
      cases ef
      refine ⟨n, rfl, hb, fun p o hp hd => ?_⟩
      have := qz _ p o _ rfl hp hd (repL_rg (K := K) (Z := Z) 0 n.toNat)
      unfold rgV
      rw [Int.sub_zero]
      exact this
    · cases ef
  · cases ef
/-! a display -/
def tTupZ (t : TA) : TE := fun σ H Q => t σ H fun xs H1 => xs.length ≤ sizeLine ∧ ∀ p (o : Obj), H1 p = none → o.dict = none → Q (.ref p) (upd H1 p (.frz o (.tup xs)))
theorem pe_tupZ {X : Cx} {es : List Expr} {t : TA} {pos : Pos} {x1} (h : PA X es t) : PE X (.Tuple es x1 pos) (tTupZ t) := by
  refine ⟨fun pins s σ H Q I hq => ?_⟩
  refine wpAny_Tuple_spliced (thn (h.run pos pins s σ H _ I hq) fun us s1 ⟨xs, H1, I1, r, z, q⟩ => ⟨by rw [← r.length]; exact z, ?_⟩)
  have hf : H1 s1.heap.objs.size = none := I1.hok.fresh (Nat.le_refl _)
  refine ⟨.ref s1.heap.objs.size, _, I1.laid (t' := s1.toks) (fun b u e => Heap.get?_push_of_some _ e) (Nat.le_refl _) (show ObjOk X.prog X.w _ _ _ (.frz { cls := .type "tuple", data := .seq us.toArray } (.tup xs)) from ?_), rfl, q _ _ hf rfl⟩
  exact ⟨Heap.get?_push_size _ rfl, z, us, r, ⟨_, Heap.get?_push_size _ rfl, rfl, _, rfl⟩⟩
open Classical in
def tupZF : List D → Option D := fun ds => if ds.length ≤ sizeLine then some (.tz ds) else none
theorem z_tup : OpZ K (fun xs H1 Q => xs.length ≤ sizeLine ∧ ∀ p (o : Obj), H1 p = none → o.dict = none → Q (.ref p) (upd H1 p (.frz o (.tup xs)))) tupZF := fun Z H ds vs Q d ez R ef q qz => by
  unfold tupZF at ef
  split at ef
  · rename_i hz
    cases ef
    exact ⟨by rw [← R.length]; exact hz, fun p o hp hd => qz _ p o _ rfl hp hd R⟩
  · cases ef
end
/-! ### methods: t.index(x), t.count(x) -/
def tyZ (x : V) (H : Hp) : Prop := ∃ (p : Addr) (o : Obj) (vs : List V), x = .ref p ∧ H p = some (.frz o (.tup vs)) ∧ o.dict = none
theorem tyZ_is {X : Cx} {pins : List (Addr × Obj)} {σ : St} {H : Hp} {s : Shared} {x : V} {v : Value} (I : Inv X pins σ H s) (r : RelV x v) (ty : tyZ x H) :
    s.TypeIs v "tuple" ∧ ∀ a, v = .ref a → ∃ ob, s.heap.get? a = some ob ∧ ob.dict = none := by
  obtain ⟨p, o, vs, rfl, h, hd⟩ := ty
  cases r
  obtain ⟨e, _, its, _, ob, e2, hc, _⟩ := I.hok p _ h
  refine ⟨⟨ob, e2, hc⟩, fun a z => ?_⟩
  cases z
  exact ⟨o, e, hd⟩
def tBZ (r : V → List V → Hp → VK → Prop) (to : TE) (t : TA) : TE := fun σ H Q => to σ H fun x H1 => tyZ x H1 ∧ t σ H1 fun xs H2 => r x xs H2 Q
theorem pe_bmZ {X : Cx} {o e : Expr} {es : List Expr} {to : TE} {t : TA} {name : Str} {apos cpos : Pos} {id : String} {r : V → List V → Hp → VK → Prop} (slot : Slot "tuple" name id) (hty : typeOf (.builtin id) = pure (.type "method_descriptor")) (hm : MtR X id r) (ho : PE X o to) (ha : PA X (e :: es) t)
    (hbase : attributeBase o name X.env (eval o X.env) = eval o X.env := by rfl)
    (hfew : ((backTo cpos (starEach (e :: es) X.env)).all (fun x => !x.1) && (backToKw cpos (keywordEach [] X.env)).all (fun x => x.1.isSome)
      && decide ((e :: es).length + ([] : List Keyword).length + (if ([] : List Keyword).isEmpty then 0 else 1) < 30)) = true := by rfl)
    (hline : (apos.endLine == cpos.line) = true := by rfl) (hs : starEach (e :: es) X.env = (false, eval e X.env) :: starEach es X.env := by rfl) (hplain : (backTo cpos (starEach es X.env)).any (·.1) = false := by rfl) :
    PE X (.Call (.Attribute o name apos) (e :: es) [] cpos) (tBZ r to t) := by
  refine ⟨fun pins s σ H Q I h => ?_⟩
  refine wpAny_Call_method_late hbase hfew hline rfl (thn (ho.run pins s σ H _ I h) fun v s1 ⟨x, H1, I1, r1, ty, q1⟩ => ?_)
  obtain ⟨h1, h2⟩ := tyZ_is I1 r1 ty
  refine ⟨"tuple", id, PySem.F.plainAttrs_tuple, slot, hty, h1, h2, ?_⟩
  have hA := ha.run cpos pins s1 σ H1 _ I1 q1
  rw [hs] at hA ⊢
  refine Calls.callWith_builtin (by show (false || (backTo cpos (starEach es X.env)).any (·.1)) = false; rw [hplain] <;> rfl) (Calls.evalArgs_plain ?_)
  exact thn hA fun us s2 ⟨vs, H2, I2, r2, q2⟩ => hm pins s2 σ H2 x vs v us Q I2 r1 r2 q2
def rCountT (K : PySem.W.Frag) : V → List V → Hp → VK → Prop := fun x xs H Q => ∃ (a : Addr) (y : V) (d : PyData) (ds : List PyData), x = V.ref a ∧ xs = [y] ∧ Dp K H (V.ref a) (.tuple ds) ∧ Dp K H y d ∧
  SeqAt.shaped (.tuple ds) = true ∧ SeqAt.shaped d = true ∧ Q (.int (ds.countP fun z => PyData.eqv z d : Nat)) H
theorem mt_countT {X : Cx} (hu : X.A.units + 65 < cLine) : MtR X "tuple.count" (rCountT X.K) := by
  intro pins s σ H x xs v us Q I rx rxs h
  obtain ⟨a, y, d, ds, rfl, rfl, hl, hy, sl, sd, q⟩ := h
  cases rx
  cases rxs with
  | cons ry rt =>
    rename_i uy ut
    cases rt
    obtain ⟨bs, r1⟩ := Dp.reads I d y uy hy ry
    have hxs : PyData.canLayAll0 ds = true := SeqAt.canLay_of_shaped sl
    have hroom : X.A.units + 1 + min (PyData.depthAll ds) d.depth < cLine := room_in_shaped sd hu
    cases hl with
    | tup hs ha =>
      obtain ⟨its, rv, ⟨⟨cls, dd, data, sls⟩, ho, hc, n, hdt⟩, hlen⟩ := I.tuple hs
      simp only at hc hdt
      subst hc hdt
      obtain ⟨as, h4⟩ := Dp.readsAll I ds _ its ha rv
      have hmap : its.map (SeqAt.readOf s.heap) = ds := SeqAt.readsAll_map ds its as hxs h4
      refine call_meets PySem.F.slot_tuple_count ⟨_, ho, rfl⟩ PySem.F.entry_tuple_count (PySem.F.args_tuple_count_2 _ _)
        (SeqAt.tuple_countAt a its.toArray n dd sls uy (fun u => PyData.eqv (SeqAt.readOf s.heap u) d)) ⟨ho, SeqAt.items_eqAt (vs := its.toArray) (show ReadsAll s.heap its.toArray.toList ds as from h4) r1 hxs (SeqAt.canLay_of_shaped sd) hroom, ?_⟩
      have ec : its.toArray.toList.countP (fun u => PyData.eqv (SeqAt.readOf s.heap u) d) = ds.countP fun z => PyData.eqv z d := by
        rw [← hmap, List.countP_map]
        rfl
      rw [ec]
      exact ⟨.int (ds.countP fun z => PyData.eqv z d : Nat), H, I.tok _, ⟨_, rfl⟩, q⟩
section
variable {X : Cx} {K : PySem.W.Frag} {mg : Str → Option Value} {W : WX} {p q : Bool} {to : TE} {m : M D} {tA : TA} {ms : M (List D)}
theorem mt_countT_ (hK : X.K = K) (hu : X.A.units + 65 < cLine) : MtR X "tuple.count" (rCountT K) := hK ▸ mt_countT hu
def bmZM (f : List D → Option D) (m : M D) (ms : M (List D)) : M D := fun env => match m env with
  | .ok (.tz ds) e1 => match ms e1 with
    | .ok as e2 => match f (.tz ds :: as) with
      | some d => .ok d e2
      | none => .no
    | .ex e e2 => .ex e e2
    | .no => .no
  | .ok _ _ => .no
  | .ex e e2 => .ex e e2
  | .no => .no
@[simp] theorem bmZM_ap {f : List D → Option D} {m : M D} {ms : M (List D)} {env : Env} : bmZM f m ms env = match m env with
  | .ok (.tz ds) e1 => (match ms e1 with
    | .ok as e2 => (match f (.tz ds :: as) with
      | some d => .ok d e2
      | none => .no)
    | .ex e e2 => .ex e e2
    | .no => .no)
  | .ok _ _ => .no
  | .ex e e2 => .ex e e2
  | .no => .no := id rfl
theorem ev_bmZ {r : V → List V → Hp → VK → Prop} {f : List D → Option D} (hr : OpMt K r f) (h1 : EvE K mg W p to m) (h2 : EvR K mg W q tA ms) : EvE K mg W (p && q) (tBZ r to tA) (bmZM f m ms) := fun B env σ H F Q S h => by
  unfold bmZM at h
  refine h1 B env σ H F _ S ?_
  split
  · rename_i d e1 em
    rw [em] at h
    intro v H1 F1 Fd S1 N1 P1
    cases d with
    | tz ds =>
      dsimp only at h
      refine ⟨?_, ?_⟩
      · cases S1.repH with
        | cons rx _ =>
          cases rx with
          | tz hh hd rr => exact ⟨_, _, _, rfl, hh, hd⟩
      refine h2 (Hid B Fd) e1 σ H1 F1 _ S1.hide ?_
      split
      · rename_i as e2 em2
        rw [em2] at h
        dsimp only at h
        intro vs H2 F2 S2 r2 N2 P2
        have hN : Nxt H1 F1 H2 (F2 ++ []) := by rw [List.append_nil]; exact N2
        have S3 := S1.cons S2.nil hN
        have N3 := N1.cons hN
        have hv : Rep K H2 (.tz ds) v := by
          cases S3.repH with
          | cons r _ => exact r
        cases ef : f (.tz ds :: as) with
        | none => rw [ef] at h; exact h.elim
        | some y =>
          rw [ef] at h
          dsimp only at h
          refine hr H2 _ _ v vs Q y hv r2 ef fun w sc => h w H2 F2 [] (S3.sta.rep (.cons sc.rep .nil)) (by rw [List.append_nil]; exact N3.weak fun a m => List.mem_append_left _ m) fun hp => ?_
          obtain ⟨a1, a2, a3⟩ := P1 (by simp at hp; exact hp.1)
          obtain ⟨b1, b2, b3⟩ := P2 (by simp at hp; exact hp.2)
          exact ⟨b1.trans a1, b2.trans a2, a3.trans b3⟩
      · rename_i e e2 em2
        rw [em2] at h
        exact h.mono (fun H' F' n => N1.trans n fun a m => List.mem_append_left _ m) fun b z => .inl z
      · rename_i em2
        rw [em2] at h
        exact h
    | _ => exact h.elim
  · rename_i e e1 em
    rw [em] at h
    exact h
  · rename_i em
    rw [em] at h
    exact h
open Classical in
def countZF : List D → Option D
  | [.tz ds, y] => match toPyL ds with
    | some ps => match toPy y with
      | some p => if SeqAt.shaped (.tuple ps) = true ∧ SeqAt.shaped p = true then some (.int (ps.countP fun z => PyData.eqv z p : Nat)) else none
      | none => none
    | none => none
  | _ => none
theorem m_countZ : OpMt K (rCountT K) countZF := fun H d ds x vs Q y rx R ef q => by
  unfold countZF at ef
  split at ef
  · rename_i ds' y' e
    injection e with e1 e2
    subst e1 e2
    obtain ⟨v, rfl, rv⟩ := R.one_inv
    split at ef
    · rename_i ps e3
      split at ef
      · rename_i pp e4
        split at ef
        · rename_i hs
          cases ef
          have hl : toPy (.tz ds') = some (.tuple ps) := by simp only [toPy, e3]
          have hd := rx.dp hl
          cases rx with
          | tz hh _ rr => exact ⟨_, v, pp, ps, rfl, rfl, hd, rv.dp e4, hs.1, hs.2, q _ (.int _)⟩
        · cases ef
      · cases ef
    · cases ef
  · cases ef
end
/-! ### evaluation -/
@[simp] theorem itemsD_tz {ds : List D} : itemsD (.tz ds) = some ds := rfl
/-- a tuple, known to have no dict or not -/
def IsTp (x : D) (ds : List D) : Prop := x = .tup ds ∨ x = .tz ds
theorem IsTp.items {x : D} {ds : List D} (h : IsTp x ds) : itemsD x = some ds := by rcases h with rfl | rfl <;> rfl
theorem IsTp.ix {x : D} {ds : List D} (h : IsTp x ds) (i : Int) : ixF [x, .int i] = atI ds i := by rcases h with rfl | rfl <;> rfl
theorem IsTp.len {x : D} {ds : List D} (h : IsTp x ds) : lenF [x] = some (.int ds.length) := by rcases h with rfl | rfl <;> rfl
theorem IsTp.imm {x : D} {ds : List D} (h : IsTp x ds) (k : immL ds = true) : imm x = true := by rcases h with rfl | rfl <;> simp [MM.imm, k]
theorem IsTp.list {x : D} {ds : List D} (h : IsTp x ds) : listF [x] = some (.lst ds) := by rcases h with rfl | rfl <;> rfl
/-! ### tuples of numbers -/
def tupZN (l : List Nat) : D := .tz (ofN l)
theorem isTp_Z (l : List Nat) : IsTp (tupZN l) (ofN l) := .inr rfl
theorem Py.tz {k : Nat} {ds : List D} {ps : List PyData} (t : PyL k ds ps) : Py (k + 1) (.tz ds) (.tuple ps) := ⟨by
  have h := (Py.tup t).to
  simp only [toPy] at h ⊢
  exact h, (Py.tup t).can, (Py.tup t).dep⟩
theorem countZ_ap {ds : List D} {y : D} {ps : List PyData} {p : PyData} (h1 : toPyL ds = some ps) (h2 : toPy y = some p) (h3 : SeqAt.shaped (.tuple ps) = true) (h4 : SeqAt.shaped p = true) : countZF [.tz ds, y] = some (.int (ps.countP fun z => PyData.eqv z p : Nat)) := by
  unfold countZF
  dsimp only
  rw [h1, h2]
  dsimp only
  rw [if_pos ⟨h3, h4⟩]
end MM

set_option Elab.async false
set_option linter.all false
set_option maxRecDepth 100000
set_option maxHeartbeats 4000000
noncomputable section
namespace MM
open PySem PySem.Spec PyProof.Rows L2

/-! ### tuples known to have no dict: t + u -/
def rCatZ (K : PySem.W.Frag) : R2 := fun x y H Q => ∃ a b xs ys, x = .ref a ∧ y = .ref b ∧ SqT K H a xs ∧ SqT K H b ys ∧ xs.length + ys.length ≤ sizeLine ∧
  (xs = [] → Q (.ref b) H) ∧ (xs ≠ [] → ys = [] → Q (.ref a) H) ∧ (xs ≠ [] → ys ≠ [] → ∀ p (o : Obj), H p = none → o.dict = none → Q (.ref p) (upd H p (.frz o (.tup (xs ++ ys)))))
theorem op_catZ {X : Cx} : OpR X (binaryOp .Add) (rCatZ X.K) := by
  intro pins s σ H x y v u Q I rx ry h
  obtain ⟨a, b, xs, ys, rfl, rfl, ha, hb, hz, q0, q1, q2⟩ := h
  cases rx
  cases ry
  obtain ⟨its, r1, p1, _⟩ := I.tuple ha
  obtain ⟨its2, r2, p2, _⟩ := I.tuple hb
  by_cases hx : xs = []
  · subst hx
    cases r1
    exact cat_tup0 p1 p2 ⟨.ref b, H, I, rfl, q0 rfl⟩
  · refine HT.cat_tup p1 p2 (fun z => hx (r1.nil_iff.mp z)) (fun z => ⟨.ref a, H, I, rfl, q1 hx (r2.nil_iff.mp z)⟩) (fun z => ?_) (by rw [← r1.length, ← r2.length]; exact hz)
    refine ⟨.ref s.heap.objs.size, upd H s.heap.objs.size (.frz { cls := .type "tuple", data := .seq (its ++ its2).toArray } (.tup (xs ++ ys))), I.laid (t' := s.toks) (fun b ob q => Heap.get?_push_of_some _ q) (Nat.le_refl _) ?_, rfl, q2 hx (fun w => z (r2.nil_iff.mpr w)) _ _ (I.hok.fresh (Nat.le_refl _)) rfl⟩
    exact (show ObjOk X.prog X.w _ _ _ (.frz _ (.tup (xs ++ ys))) from ⟨Heap.get?_push_size _ rfl, by rw [List.length_append]; exact hz, _, r1.append r2, IsTup.new _ _⟩)
theorem op_catZ_ {X : Cx} {K : PySem.W.Frag} (hK : X.K = K) : OpR X (binaryOp .Add) (rCatZ K) := hK ▸ op_catZ
open Classical in
def catZF : List D → Option D
  | [.tz i, .tz j] => if i.length + j.length ≤ sizeLine then some (.tz (i ++ j)) else none
  | _ => none
section
variable {K : PySem.W.Frag} {mg : Str → Option Value} {W : WX} {p : Bool} {te : TE} {tA : TA} {m : M D} {ms : M (List D)} {Z : Hp}
theorem repL_app : ∀ {a b : List D} {x y : List V}, RepL K Z a x → RepL K Z b y → RepL K Z (a ++ b) (x ++ y)
  | _, _, _, _, .nil, r => r
  | _, _, _, _, .cons h t, r => .cons h (repL_app t r)
theorem z_cat : OpZ K (two (rCatZ K)) catZF := fun Z H ds vs Q d ez R ef q qz => by
  unfold catZF at ef
  split at ef
  · obtain ⟨x, y, rfl, rx, ry⟩ := R.two_inv
    split at ef
    · rename_i hc
      cases ef
      cases rx with
      | tz h1 d1 r1 =>
        cases ry with
        | tz h2 d2 r2 =>
          refine ⟨_, _, _, _, rfl, rfl, .inl (.inr ⟨_, ez _ _ h1⟩), .inl (.inr ⟨_, ez _ _ h2⟩), by rw [← r1.length, ← r2.length]; exact hc, fun e => ?_, fun _ e => ?_, fun _ _ p o hp ho => qz _ p o _ rfl hp ho (repL_app r1 r2)⟩
          · subst e
            cases r1
            exact q _ (.tz h2 d2 r2) trivial
          · subst e
            cases r2
            exact q _ (by rw [List.append_nil]; exact .tz h1 d1 r1) trivial
    · cases ef
  · cases ef
/-! ### t[lo:hi] -/
def rSlZ (K : PySem.W.Frag) : V → Option Int → Option Int → Hp → VK → Prop := fun x lo hi H Q => ∃ a xs, x = .ref a ∧ SqT K H a xs ∧
  (HT.sIx xs.length 0 lo = 0 ∧ HT.sIx xs.length xs.length hi = xs.length → Q (.ref a) H) ∧ (¬ (HT.sIx xs.length 0 lo = 0 ∧ HT.sIx xs.length xs.length hi = xs.length) → ∀ p (o : Obj), H p = none → o.dict = none → Q (.ref p) (upd H p (.frz o (.tup (cutV xs lo hi)))))
theorem sl_tupZ {X : Cx} : SlR X (rSlZ X.K) := by
  intro pins s σ H x v vl vu lo hi sl Q I rx hs pl pu h
  obtain ⟨a, xs, rfl, hx, q1, q2⟩ := h
  cases rx
  obtain ⟨its, r, ht, hz⟩ := I.tuple hx
  have hlen : its.toArray.size = xs.length := by rw [List.size_toArray]; exact r.length.symm
  by_cases hw : HT.sIx xs.length 0 lo = 0 ∧ HT.sIx xs.length xs.length hi = xs.length
  · refine ⟨"tuple", _, PyProof.Rows.slot_tuple_getitem.lookup, ht.typeIs, ?_⟩
    exact getItem_tuple_whole ht hs pl pu (by rw [hlen]; exact hw) ⟨.ref a, H, I, rfl, q1 hw⟩
  · refine ⟨"tuple", _, PyProof.Rows.slot_tuple_getitem.lookup, ht.typeIs, ?_⟩
    refine HT.getItem_tuple_cut ht hs pl pu (by rw [hlen]; exact hw) ?_ (by rw [hlen]; exact hz)
    rw [hlen]
    refine ⟨.ref s.heap.objs.size, upd H s.heap.objs.size (.frz { cls := .type "tuple", data := .seq ((its.toArray.toList.drop (HT.sIx xs.length 0 lo)).take (HT.sIx xs.length xs.length hi - HT.sIx xs.length 0 lo)).toArray } (.tup (cutV xs lo hi))), I.laid (t' := s.toks) (fun b ob q => Heap.get?_push_of_some _ q) (Nat.le_refl _) ?_, rfl, q2 hw _ _ (I.hok.fresh (Nat.le_refl _)) rfl⟩
    exact (show ObjOk X.prog X.w _ _ _ (.frz _ (.tup (cutV xs lo hi))) from ⟨Heap.get?_push_size _ rfl, Nat.le_trans (cutV_length xs lo hi) hz, _, (r.drop (HT.sIx xs.length 0 lo)).take (HT.sIx xs.length xs.length hi - HT.sIx xs.length 0 lo), IsTup.new _ _⟩)
theorem sl_tupZ_ {X : Cx} (hK : X.K = K) : SlR X (rSlZ K) := hK ▸ sl_tupZ
def slZM (m : M D) (ml mh : M (Option Int)) : M D := fun env => match m env with
  | .ok (.tz ds) e1 => match ml e1 with
    | .ok lo e2 => match mh e2 with
      | .ok hi e3 => .ok (.tz (cutG ds lo hi)) e3
      | .ex x e3 => .ex x e3
      | .no => .no
    | .ex x e2 => .ex x e2
    | .no => .no
  | .ex x e1 => .ex x e1
  | _ => .no
theorem slZM_ap {m : M D} {ml mh : M (Option Int)} {env : Env} : slZM m ml mh env = match m env with
  | .ok (.tz ds) e1 => match ml e1 with
    | .ok lo e2 => match mh e2 with
      | .ok hi e3 => .ok (.tz (cutG ds lo hi)) e3
      | .ex x e3 => .ex x e3
      | .no => .no
    | .ex x e2 => .ex x e2
    | .no => .no
  | .ex x e1 => .ex x e1
  | _ => .no := id rfl
theorem en_sliceZ {tl th : TO} {ml mh : M (Option Int)} {pl ph : Bool} (h1 : EvE K mg W p te m) (h2 : EvO K mg W pl tl ml) (h3 : EvO K mg W ph th mh) : EvN K mg W (p && (pl && ph)) (tSl (rSlZ K) te tl th) (slZM m ml mh) := fun B env σ H F Q S h => by
  refine h1 B env σ H F _ S ?_
  unfold slZM at h
  cases em : m env with
  | ex e e2 => rw [em] at h; exact h
  | no => rw [em] at h; exact h
  | ok d0 e1 =>
    rw [em] at h
    have hd0 : ∃ ds, d0 = .tz ds := by
      cases d0 <;> first | exact ⟨_, rfl⟩ | exact h.elim
    obtain ⟨ds, rfl⟩ := hd0
    dsimp only at h
    intro v H1 F1 Fd S1 N1 P1
    obtain ⟨S1', r1⟩ := S1.freeze
    have N1' : Nxt H F H1 F1 := N1.weak fun a m => List.mem_append_left _ m
    refine h2 B e1 σ H1 F1 _ S1' ?_
    cases el : ml e1 with
    | ex e e2 => rw [el] at h; exact ExP.mono h (fun H' F' n => N1'.trans n fun a m => m) fun b z => z
    | no => rw [el] at h; exact h
    | ok lo e2 =>
      rw [el] at h
      dsimp only at h
      intro H2 F2 S2 N2 P2
      refine h3 B e2 σ H2 F2 _ S2 ?_
      have N2' := N1'.trans N2 fun a m => m
      cases eh : mh e2 with
      | ex e e2 => rw [eh] at h; exact ExP.mono h (fun H' F' n => N2'.trans n fun a m => m) fun b z => z
      | no => rw [eh] at h; exact h
      | ok hi e3 =>
        rw [eh] at h
        dsimp only at h
        intro H3 F3 S3 N3 P3
        have N3' := N2'.trans N3 fun a m => m
        obtain ⟨v', e', r1⟩ := r1.one_inv
        cases e'
        have r3 : Rep K (Fz B H3 F3) (.tz ds) v := (r1.mono (nxt_ex N2)).mono (nxt_ex N3)
        have ez := fz_ex B H3 F3
        have pur : PureP (p && (pl && ph)) env e3 F F3 H H3 := fun hp => by
          simp only [Bool.and_eq_true] at hp
          obtain ⟨a1, a2, a3⟩ := P1 hp.1
          obtain ⟨b1, b2, b3⟩ := P2 hp.2.1
          obtain ⟨c1, c2, c3⟩ := P3 hp.2.2
          exact ⟨c1.trans (b1.trans a1), c2.trans (b2.trans a2), (a3.trans b3).trans c3⟩
        have purN : ∀ {pp : Addr} {o : HO}, H3 pp = none → PureP (p && (pl && ph)) env e3 F F3 H (upd H3 pp o) := fun hp q => by
          obtain ⟨a1, a2, a3⟩ := pur q
          exact ⟨a1, a2, a3.trans (ex_new hp)⟩
        cases r3 with
        | tz hz hd rl =>
          refine ⟨_, _, rfl, .inl (.inr ⟨_, ez _ _ hz⟩), fun hw => ?_, fun _ pp o hp ho => h _ _ F3 [] (S3.mkZ (rl.cut lo hi) hp ho) trivial (by rw [List.append_nil]; exact N3'.grow (ex_new hp)) (purN hp)⟩
          rw [cut_whole (by rw [rl.length]; exact hw)] at h
          exact h _ H3 F3 [] (S3.rep (.cons (.tz hz hd rl) .nil)) trivial (by rw [List.append_nil]; exact N3') pur
/-! ### t[::-1] -/
def tRevZ (K : PySem.W.Frag) (te : TE) : TE := fun σ H Q => te σ H fun x H1 => ∃ a xs, x = .ref a ∧ SqT K H1 a xs ∧ ∀ p (o : Obj), H1 p = none → o.dict = none → Q (.ref p) (upd H1 p (.frz o (.tup xs.reverse)))
theorem pe_revZ {X : Cx} {e : Expr} {te : TE} {k : Nat} {p1 p2 p3 pos : Pos} (he : PE X e te) : PE X (.Subscript e (.Slice none none (some (.UnaryOp .USub (.Constant (.int 1) k p1) p2)) p3) pos) (tRevZ X.K te) := by
  refine ⟨fun pins s σ H Q I h => ?_⟩
  refine Subscript_ (thn (he.run pins s σ H _ I h) fun v s1 ⟨x, H1, I1, r1, q1⟩ => ?_)
  obtain ⟨a, xs, ex, hx, q⟩ := q1
  subst ex
  cases r1
  have hst : PO X (some (.UnaryOp .USub (.Constant (.int 1) k p1) p2)) (tPart (tUn (rU fun i => .int (-i)) (tC (.int 1)))) := (po_some (pe_un un_neg pe_int))
  refine wpAny_Slice (thn (po_none.run pins s1 σ H1 (fun o H2 => o = none ∧ H2 = H1) I1 ⟨rfl, rfl⟩) fun vl s2 ⟨l, H2, I2, pl, el, e2⟩ => ?_)
  subst el e2
  refine thn (po_none.run pins s2 σ H2 (fun o H3 => o = none ∧ H3 = H2) I2 ⟨rfl, rfl⟩) fun vu s3 ⟨u, H3, I3, pu, eu, e3⟩ => ?_
  subst eu e3
  refine thn (hst.run pins s3 σ H3 (fun o H4 => o = some (-1) ∧ H4 = H3) I3 ⟨1, rfl, -1, rfl, rfl, rfl⟩) fun vs s4 ⟨o, H4, I4, ps, eo, e4⟩ => ?_
  subst eo e4
  have I5 : Inv X pins σ H4 { s4 with heap := s4.heap.push { cls := .type "slice", data := .fields #[vl, vu, vs] } } := I4.kept (t' := s4.toks) fun b ob q => (Heap.get?_push_of_some _ q)
  obtain ⟨its, r, ht, hz⟩ := I5.tuple hx
  have hlen := r.length
  cases pl
  cases pu
  show wpAny (model X.prog X.w) X.A (subscriptTail e (.Slice none none (some (.UnaryOp .USub (.Constant (.int 1) k p1) p2)) p3) (.ref a) (.ref s4.heap.objs.size)) (EP X pins σ Q) X.xe { s4 with heap := s4.heap.push { cls := .type "slice", data := .fields #[.none, .none, vs] } }
  refine tail_any (ops := [.ref a, .ref s4.heap.objs.size]) ht.typeIs (PyProof.Rows.slot_tuple_getitem.lookup) ?_ (by with_unfolding_all rfl)
  refine getItem_tuple_rev ht (Heap.IsSliceOf.new _ _ _ vs) ps ?_ (by rw [List.size_toArray]; omega)
  refine ⟨.ref _, upd H4 _ (.frz { cls := .type "tuple", data := .seq its.toArray.toList.reverse.toArray } (.tup xs.reverse)), I5.laid (t' := s4.toks) (fun b ob q => (Heap.get?_push_of_some _ q)) (Nat.le_refl _) ?_, rfl, q _ _ (I5.hok.fresh (Nat.le_refl _)) rfl⟩
  exact (show ObjOk X.prog X.w _ _ _ (.frz _ (.tup xs.reverse)) from ⟨Heap.get?_push_size _ rfl, by rw [List.length_reverse]; exact hz, _, r.reverse, IsTup.new _ _⟩)
theorem pe_revZ_ {X : Cx} {e : Expr} {te : TE} {k : Nat} {p1 p2 p3 pos : Pos} (hK : X.K = K) (he : PE X e te) : PE X (.Subscript e (.Slice none none (some (.UnaryOp .USub (.Constant (.int 1) k p1) p2)) p3) pos) (tRevZ K te) := hK ▸ pe_revZ he
def revZF : List D → Option D
  | [.tz ds] => some (.tz ds.reverse)
  | _ => none
def rRevZ1 (K : PySem.W.Frag) : List V → Hp → VK → Prop := fun vs H Q => match vs with
  | [x] => ∃ a xs, x = .ref a ∧ SqT K H a xs ∧ ∀ p (o : Obj), H p = none → o.dict = none → Q (.ref p) (upd H p (.frz o (.tup xs.reverse)))
  | _ => False
theorem z_rev : OpZ K (rRevZ1 K) revZF := fun Z H ds vs Q d ez R ef q qz => by
  unfold revZF at ef
  split at ef
  · obtain ⟨x, rfl, rx⟩ := R.one_inv
    cases ef
    cases rx with
    | tz h d r => exact ⟨_, _, rfl, .inl (.inr ⟨_, ez _ _ h⟩), fun l o hl ho => qz _ l o _ rfl hl ho (repL_rev r)⟩
  · cases ef
theorem en_revZ (ha : EvE K mg W p te m) : EvN K mg W p (tRevZ K te) (opM revZF (consM m nilM)) := by
  have h1 : EvA K mg W p (tCons te tNil) (consM m nilM) := by
    have := ea_cons ha (ea_nil (K := K) (mg := mg) (W := W))
    rwa [Bool.and_true] at this
  exact en_z (tA := tCons te tNil) z_rev h1 fun σ H Q h => h
/-! ### sorted(t) -/
def sortTZF : List D → Option D
  | [.tz ds] => match intsOf ds with
    | some ns => if ns.length < 64 then some (.lst ((isort ns).map .int)) else none
    | none => none
  | _ => none
theorem n_sortTZ : OpN K (rSortT K) sortTZF := fun Z H ds vs Q d ez R ef q ql qt => by
  unfold sortTZF at ef
  split at ef
  · obtain ⟨x, rfl, rx⟩ := R.one_inv
    split at ef
    · rename_i ns en
      split at ef
      · rename_i hz
        cases ef
        cases rx with
        | tz h d r =>
          refine ⟨_, ns, rfl, .inl (.inr ⟨_, by rw [← intsOf_rep r en]; exact ez _ _ h⟩), hz, fun out p hp hs new => ?_⟩
          rw [isort_of hp hs]
          exact ql _ p _ rfl new (repL_isort _)
      · cases ef
    · cases ef
  · cases ef
/-! ### dict(enumerate(t)) -/
def dictEnZF : List D → Option D
  | [.tz xs] => some (.dK (mergeD [] (enumK 0 xs)))
  | _ => none
theorem en_dictEnZ (ha : EvA K mg W p tA ms) : EvN K mg W p (tCB (r1 (kEnum K)) tA) (opM dictEnZF ms) := fun B env σ H F Q S h => by
  refine ha B env σ H F _ S ?_
  unfold opM at h
  cases em : ms env with
  | ex e e2 => rw [em] at h; exact h
  | no => rw [em] at h; exact h
  | ok ds e =>
    rw [em] at h
    dsimp only at h
    intro vs H1 F1 Fd S1 N1 P1
    obtain ⟨S2, r2⟩ := S1.freeze
    have N2 : Nxt H F H1 F1 := N1.weak fun a m => List.mem_append_left _ m
    cases ef : dictEnZF ds with
    | none => rw [ef] at h; exact h.elim
    | some d =>
      rw [ef] at h
      dsimp only at h
      unfold dictEnZF at ef
      split at ef
      · cases ef
        obtain ⟨x, rfl, rx⟩ := r2.one_inv
        cases rx with
        | tz hz hd rl =>
          refine ⟨_, _, rfl, .inr (.inl (.inr ⟨_, fz_ex _ _ _ _ _ hz⟩)), fun q hq => ?_⟩
          have S3 := S2.mkO hq (d := .dK (mergeD [] (enumK 0 _))) (o := .dK (mergeK [] (enumK 0 _))) ⟨nofun, nofun⟩ fun H' Z' e ez => .dK e (((enumK_rep 0 rl).merge .nil).mono ez)
          refine h _ _ F1 [q] S3 (List.cons_ne_nil _ _) (Nxt.mkL (Fd := []) (by rw [List.append_nil]; exact N2) hq) fun z => ?_
          obtain ⟨a1, a2, a3⟩ := P1 z
          exact ⟨a1, a2, a3.trans (ex_new hq)⟩
      · cases ef
end
/-! ### str(t) -/
def rStrZ (K : PySem.W.Frag) : List V → Hp → VK → Prop := fun xs H Q => ∃ (x : V) (ds : List D) (p : PyData), xs = [x] ∧ Rep K H (.tz ds) x ∧ elP (.tz ds) = some p ∧ ShowX p ∧ Q (.str p.shown) H
theorem call_strZ {X : Cx} {K : PySem.W.Frag} (hK : X.K = K) (hg : X.A.guards = some []) (hu : X.A.units + 65 < cLine) : CallR X (.type "str") (rStrZ K) := by
  subst hK
  intro pins s σ H xs us Q I r q
  obtain ⟨x, ds, p, rfl, hd, hp, hsx, q⟩ := q
  obtain ⟨u, eu, rx⟩ := vals1 r
  subst eu
  obtain ⟨as, rr, ns⟩ := el_reads I hd hp rx
  cases hd
  cases rx
  exact str_of_reads rr hsx.1 ns hg (by have := hsx.2.1; omega) (fun _ _ e => e) (fun h' u tk hk => ⟨.str p.shown, H, I.kept (t' := tk) hk, ⟨_, rfl⟩, q⟩) hsx.2.2
open Classical in
def strZF : List D → Option D
  | [.tz ds] => match elP (.tz ds) with
    | some p => if ShowX p then some (.str p.shown) else none
    | none => none
  | _ => none
theorem s_strZ {K : PySem.W.Frag} : OpS K (rStrZ K) strZF := fun H ds vs Q d R ef q => by
  unfold strZF at ef
  split at ef
  · rename_i d0
    obtain ⟨x, rfl, rx⟩ := R.one_inv
    split at ef
    · rename_i p ep
      split at ef
      · rename_i hs
        cases ef
        exact ⟨x, d0, p, rfl, rx, ep, hs, q _ (.str _)⟩
      · cases ef
    · cases ef
  · cases ef
end MM

set_option Elab.async false
set_option linter.all false
set_option maxRecDepth 100000
set_option maxHeartbeats 4000000
noncomputable section
namespace MM
open PySem PySem.Spec PyProof.Rows L2
def m__law_pen : MS :=
  retM (dispM [(.inr "script", vrM 0), (.inr "at", cM (.int 0)), (.inr "left", cM (.int 0))])
def f__law_pen : List D → RF := callF 1 1 m__law_pen
def m__law_draw_12 : MS :=
  setM 0 (opM absF (consM (vrM 4) (nilM))) (cM (.str "left"))
def m__law_draw_8 : MS :=
  seqM (ifS (orM (tstM (opM geF (consM (vrM 3) (consM (opM lenF (consM (vrM 2) (nilM))) (nilM))))) (tstM (opM ltF (consM (opM absF (consM (vrM 4) (nilM))) (consM (opM powF (consM (cM (.int 10)) (consM (cM (.int 18)) (nilM)))) (nilM)))))) (seqM (asgF 5 (opM modF (consM (opM mulF (consM (opM addF (consM (opM addF (consM (opM modF (consM (vrM 4) (consM (cM (.int 2147483629)) (nilM)))) (consM (opM mulF (consM (cM (.int 7907)) (consM (vrM 3) nilM))) nilM))) (consM (cM (.int 17)) nilM))) (consM (cM (.int 48271)) nilM))) (consM (cM (.int 2147483647)) (nilM)))))
  (seqM (asgF 5 (opM modF (consM (opM addF (consM (opM addF (consM (opM mulF (consM (vrM 5) (consM (vrM 5) nilM))) (consM (opM mulF (consM (cM (.int 40692)) (consM (vrM 5) nilM))) nilM))) (consM (vrM 3) nilM))) (consM (cM (.int 2147483579)) (nilM)))))
  (retM (opM modF (consM (opM fdivF (consM (vrM 5) (consM (cM (.int 32)) (nilM)))) (consM (vrM 1) (nilM))))))) (nxM))
  (m__law_draw_12)
def m__law_draw_13 : MS :=
  seqM (asgF 6 (opM modF (consTM (ixT (rdM 0) (cM (.str "left"))) (consM (vrM 1) (nilM)))))
  (seqM (setM 0 (opM fdivF (consTM (ixT (rdM 0) (cM (.str "left"))) (consM (vrM 1) (nilM)))) (cM (.str "left")))
  (retM (vrM 6)))
def m__law_draw : MS :=
  seqM (asgF 2 (immM (ixT (rdM 0) (cM (.str "script")))))
  (seqM (asgF 3 (immM (ixT (rdM 0) (cM (.str "at")))))
  (seqM (ifS (tstM (opM eqF (consTM (ixT (rdM 0) (cM (.str "left"))) (consM (cM (.int 0)) (nilM))))) (seqM (setM 0 (opM addF (consM (vrM 3) (consM (cM (.int 1)) nilM))) (cM (.str "at")))
  (seqM (asgF 4 (cM (.int 7)))
  (seqM (ifS (tstM (opM gtF (consM (opM lenF (consM (vrM 2) (nilM))) (consM (cM (.int 0)) (nilM))))) (asgF 4 (opM ixF (consM (vrM 2) (consM (opM modF (consM (vrM 3) (consM (opM lenF (consM (vrM 2) (nilM))) (nilM)))) nilM)))) (nxM))
  (m__law_draw_8)))) (nxM))
  (m__law_draw_13)))
def p__law_draw : D → List D → RP := callP 2 7 m__law_draw
def m__law_any_turn : MS :=
  seqM (asgO 2 (opM lstRg1F (consM (vrM 1) (nilM))))
  (retM (opM tupleZF (consM (lcM [3] (range1M (consM (vrM 1) (nilM))) (bdName 3) (yesM) (mutM 2 popAtF (consM (clP 0 p__law_draw (consM (opM lenF (consTM (rdM 2) (nilM))) (nilM))) (nilM)))) (nilM))))
def p__law_any_turn : D → List D → RP := callP 2 4 m__law_any_turn
def m__law_near_3 : MS :=
  seqM (asgF 3 (opM addF (consM (opM lstRg2F (consM (opM negF (consM (cM (.int 1)) (nilM))) (consM (cM (.int 9)) (nilM)))) (consM (lstM (consM (cM (.bl true)) (consM (cM (.bl false)) (consM (cM (.str "0")) (consM (cM .non) (consM (tupM (consM (opM ixF (consM (vrM 0) (consM (vrM 2) nilM))) (nilM))) (consM (lstM (consM (opM ixF (consM (vrM 0) (consM (vrM 2) nilM))) (nilM))) (consM (opM powF (consM (cM (.int 10)) (consM (cM (.int 29)) (nilM)))) (consM (opM negF (consM (opM powF (consM (cM (.int 10)) (consM (cM (.int 29)) (nilM)))) (nilM))) (nilM)))))))))) nilM))))
  (seqM (dropM (mutM 1 extendF (consM (lcM [4] (itemsM (vrM 3)) (bdName 4) (yesM) (opM catZF (consM (opM catZF (consM (slZM (vrM 0) (noM) (partM (vrM 2))) (consM (opM tupZF (consM (vrM 4) (nilM))) nilM))) (consM (slZM (vrM 0) (partM (opM addF (consM (vrM 2) (consM (cM (.int 1)) nilM)))) (noM)) nilM)))) (nilM))))
  (seqM (dropM (mutM 1 appendF (consM (opM catZF (consM (slZM (vrM 0) (noM) (partM (vrM 2))) (consM (slZM (vrM 0) (partM (opM addF (consM (vrM 2) (consM (cM (.int 1)) nilM)))) (noM)) nilM))) (nilM))))
  (dropM (mutM 1 extendF (consM (lcM [4] (itemsM (lstM (consM (cM (.int 0)) (consM (vrM 2) (consM (opM lenF (consM (vrM 0) (nilM))) (nilM)))))) (bdName 4) (yesM) (opM catZF (consM (opM catZF (consM (slZM (vrM 0) (noM) (partM (vrM 2))) (consM (opM tupZF (consM (vrM 4) (nilM))) nilM))) (consM (slZM (vrM 0) (partM (vrM 2)) (noM)) nilM)))) (nilM))))))
def m__law_near : MS :=
  seqM (asgO 1 (lstM (nilM)))
  (seqM (loopM (range1M (consM (opM lenF (consM (vrM 0) (nilM))) (nilM))) (bdName 2) (m__law_near_3))
  (retM (mvM 1)))
def f__law_near : List D → RF := callF 1 5 m__law_near
def m_is_whole : MS :=
  retM (imM (andVM (opM (isiF .int) (consM (vrM 0) (consM (cM (.opq (.ty "int"))) (nilM)))) (notVM (opM (isiF .bool) (consM (vrM 0) (consM (cM (.opq (.ty "bool"))) (nilM)))))))
def f_is_whole : List D → RF := callF 1 1 m_is_whole
def m_is_turn_of_3 : MS :=
  retM (imM (opM eqF (consM (opM sortTZF (consM (vrM 1) (nilM))) (consM (opM lstRg1F (consM (vrM 0) (nilM))) (nilM)))))
def m_is_turn_of : MS :=
  seqM (ifS (orM (notM (tstM (opM (isiF .tuple) (consM (vrM 1) (consM (cM (.opq (.ty "tuple"))) (nilM)))))) (orM (tstM (opM neF (consM (opM lenF (consM (vrM 1) (nilM))) (consM (vrM 0) (nilM))))) (notM (tstM (opM allF (consM (lcM [2] (itemsM (vrM 1)) (bdName 2) (yesM) (clF f_is_whole (consM (vrM 2) (nilM)))) (nilM))))))) (retM (imM (cM (.bl false)))) (nxM))
  (m_is_turn_of_3)
def f_is_turn_of : List D → RF := callF 2 3 m_is_turn_of
def m_is_turn : MS :=
  retM (imM (andVM (opM (isiF .tuple) (consM (vrM 0) (consM (cM (.opq (.ty "tuple"))) (nilM)))) (andVM (chM (fun i j => decide (i ≤ j)) (fun i j => decide (i ≤ j)) (consM (cM (.int 1)) (consM (opM lenF (consM (vrM 0) (nilM))) (nilM))) (cM (.int 7))) (clF f_is_turn_of (consM (opM lenF (consM (vrM 0) (nilM))) (consM (vrM 0) (nilM)))))))
def f_is_turn : List D → RF := callF 1 1 m_is_turn
def m__law_due_4 : MS :=
  ifS (orM (notM (tstM (opM (isiF .int) (consM (vrM 1) (consM (cM (.opq (.ty "int"))) (nilM)))))) (tstM (opM (isiF .bool) (consM (vrM 1) (consM (cM (.opq (.ty "bool"))) (nilM)))))) (retM (imM (cM (.bl false)))) (nxM)
def m__law_due_6 : MS :=
  retM (imM (opM eqF (consM (lcM [2] (range1M (consM (opM lenF (consM (vrM 0) (nilM))) (nilM))) (bdName 2) (tstM (opM neF (consM (bmZM countZF (vrM 0) (consM (vrM 2) (nilM))) (consM (cM (.int 1)) (nilM))))) (vrM 2)) (consM (lstM (nilM)) (nilM)))))
def m__law_due_3 : MS :=
  seqM (loopM (itemsM (vrM 0)) (bdName 1) (m__law_due_4))
  (m__law_due_6)
def m__law_due : MS :=
  seqM (ifS (orM (notM (tstM (opM (isiF .tuple) (consM (vrM 0) (consM (cM (.opq (.ty "tuple"))) (nilM)))))) (orM (tstM (opM eqF (consM (opM lenF (consM (vrM 0) (nilM))) (consM (cM (.int 0)) (nilM))))) (tstM (opM gtF (consM (opM lenF (consM (vrM 0) (nilM))) (consM (cM (.int 7)) (nilM))))))) (retM (imM (cM (.bl false)))) (nxM))
  (m__law_due_3)
def f__law_due : List D → RF := callF 1 3 m__law_due
def m_law_6 : MS :=
  seqM (asgF 5 (opM reprAF (consM (vrM 4) (nilM))))
  (seqM (asgF 6 (clF f_is_turn (consM (vrM 4) (nilM))))
  (ifS (orM (notM (tstM (opM (isiF .bool) (consM (vrM 6) (consM (cM (.opq (.ty "bool"))) (nilM)))))) (orM (tstM (opM neF (consM (vrM 6) (consM (clF f__law_due (consM (vrM 4) (nilM))) (nilM))))) (tstM (opM neF (consM (opM reprAF (consM (vrM 4) (nilM))) (consM (vrM 5) (nilM))))))) (retM (imM (cM (.bl false)))) (nxM)))
def m_law_10 : MS :=
  retM (imM (cM (.bl true)))
def m_law : MS :=
  seqM (asgO 1 (clF f__law_pen (consM (vrM 0) (nilM))))
  (seqM (asgF 2 (clP 1 p__law_any_turn (consM (opM addF (consM (cM (.int 1)) (consM (clP 1 p__law_draw (consM (cM (.int 7)) (nilM))) nilM))) (nilM))))
  (seqM (asgF 3 (lstM (consM (vrM 2) (consM (opM revZF (consM (vrM 2) nilM)) (consM (opM catZF (consM (vrM 2) (consM (vrM 2) nilM))) (consM (opM listF (consM (vrM 2) (nilM))) (consM (tupM (consM (vrM 2) (nilM))) (consM (lstM (consM (vrM 2) (nilM))) (consM (opM dictEnZF (consM (vrM 2) nilM)) (consM (opM strZF (consM (vrM 2) (nilM))) (nilM)))))))))))
  (seqM (asgF 3 (opM addF (consM (vrM 3) (consM (lstM (consM (tupM (nilM)) (consM (opM tupRgZF (consM (cM (.int 7)) nilM)) (consM (opM tupRg1F (consM (cM (.int 8)) (nilM))) (consM (opM tupZF (consM (cM (.int 0)) (nilM))) (consM (opM tupZF (consM (cM (.int 1)) (nilM))) (consM (tupM (consM (cM (.bl false)) (nilM))) (consM (tupM (consM (cM (.int 0)) (consM (cM (.bl true)) (nilM)))) (consM (cM .non) (consM (cM (.int 0)) (consM (cM (.bl true)) (consM (cM (.str "01")) (consM (cM (.dK [])) (consM (lstM (nilM)) (nilM))))))))))))))) nilM))))
  (seqM (loopM (itemsM (opM addF (consM (vrM 3) (consM (clF f__law_near (consM (vrM 2) (nilM))) nilM)))) (bdName 4) (m_law_6))
  (m_law_10)))))
def f_law : List D → RF := callF 1 7 m_law
end MM

set_option Elab.async false
set_option linter.all false
set_option maxRecDepth 100000
set_option maxHeartbeats 4000000
noncomputable section
namespace MM
open PySem PySem.Spec PyProof.Rows L2

theorem lstRg1_ok {n : Nat} (h : n < 1000000) : lstRg1F [.int n] = some (lstN (List.range n)) := by
  have hr : RgOk 0 (n : Int) := by unfold RgOk; omega
  have e : lstRg1F [.int n] = some (.lst (rangeL 0 (n : Int).toNat)) := if_pos hr
  rw [e, Int.toNat_natCast, rangeL_ofN]
theorem lt_size {n : Nat} (h : n < 1000000) : n < sizeLine := by rw [sizeLine_eq]; omega
theorem appendF_ok {ds : List D} {d : D} (h : ds.length < 1000000) : appendF ds [d] = some (ds ++ [d], .non) := if_pos (lt_size h)
theorem seqIx {i n : Nat} (h : i < n) : seqIndex? (i : Int) n = some i := by
  unfold seqIndex?
  have h1 : ¬ (i : Int) < 0 := by omega
  have h2 : (i : Int) < n := by omega
  simp [h1, h2]
theorem erase_map (l : List Nat) (i : Nat) : (ofN l).eraseIdx i = ofN (l.eraseIdx i) := by
  induction l generalizing i with
  | nil => rfl
  | cons x l ih => cases i with
    | zero => rfl
    | succ i => simp [List.eraseIdx, ih]
theorem cons_erase {α : Type} : ∀ {l : List α} {i : Nat} (h : i < l.length), (l[i] :: l.eraseIdx i).Perm l
  | x :: l, 0, _ => .refl _
  | x :: l, i + 1, h => by
    have := cons_erase (l := l) (i := i) (Nat.lt_of_succ_lt_succ h)
    exact (List.Perm.swap _ _ _).trans (this.cons x)
theorem popAtF_ok {l : List Nat} {i : Nat} (h : i < l.length) (hl : l.length < 1000000) : popAtF (ofN l) [.int i] = some (ofN (l.eraseIdx i), .int (l[i] : Nat)) := by
  have e : seqIndex? (i : Int) (ofN l).length = some i := seqIx (by simpa using h)
  have hb : -(2 ^ 63) ≤ (i : Int) ∧ (i : Int) < 2 ^ 63 := by omega
  have e2 : (ofN l)[i]? = some (.int (l[i] : Nat)) := by rw [ofN_get, List.getElem?_eq_getElem h]; rfl
  unfold popAtF
  simp only [e, hb, e2, and_self, if_true]
  rw [erase_map]
theorem perm_pop {found left : List Nat} {i : Nat} (h : i < left.length) {R : List Nat} (p : (found ++ left).Perm R) : ((found ++ [left[i]]) ++ left.eraseIdx i).Perm R := by
  refine List.Perm.trans ?_ p
  rw [List.append_assoc]
  refine List.Perm.append_left _ ?_
  show (left[i] :: left.eraseIdx i).Perm left
  exact cons_erase h


/-! ### houses -/
def rowD (n : Nat) (f : Nat → Nat) : D := lstN ((List.range n).map f)
def rowsD (k n : Nat) (m : Nat → Nat → Nat) : List D := (List.range k).map fun a => rowD n (m a)
def dH (n : Nat) (m : Nat → Nat → Nat) : D := .lst (rowsD n n m)
@[simp] theorem rowsD_length {k n : Nat} {m : Nat → Nat → Nat} : (rowsD k n m).length = k := by simp [rowsD]
theorem rowsD_get {k n : Nat} {m : Nat → Nat → Nat} {a : Nat} (h : a < k) : (rowsD k n m)[a]? = some (rowD n (m a)) := by
  unfold rowsD
  rw [List.getElem?_map, List.getElem?_range h]
  rfl
@[simp] theorem len_house {n : Nat} {m : Nat → Nat → Nat} : lenF [dH n m] = some (.int n) := by
  unfold dH; rw [lenF_lst, rowsD_length]
@[simp] theorem items_house {n : Nat} {m : Nat → Nat → Nat} : itemsD (dH n m) = some (rowsD n n m) := rfl
/-! ### numbered anew -/
@[simp] theorem asgD_ap {i : Nat} {m : M D} {env : Env} : asgD i m env = match m env with | .ok d e => .nx (e.set i (some (true, .deep d))) | .ex e e2 => .ex e e2 | .no => .no := id rfl
@[simp] theorem udM_ap {i : Nat} {a : MS} {env : Env} : udM i a env = match a env with | .nx e => .nx (udE i e) | r => r := id rfl
/-- the order's places -/
def ordO (ord : List Nat) (k : Nat) : Nat := ord.getD k 0
structure Ord (n : Nat) (ord : List Nat) : Prop where
  len : ord.length = n
  perm : ord.Perm (List.range n)
  zero : ordO ord 0 = 0
theorem Ord.lt {n : Nat} {ord : List Nat} (O : Ord n ord) {k : Nat} (h : k < n) : ordO ord k < n := by
  have h' : k < ord.length := by rw [O.len]; exact h
  have : ordO ord k ∈ ord := by
    unfold ordO
    rw [List.getD_eq_getElem?_getD, List.getElem?_eq_getElem h']
    exact List.getElem_mem h'
  exact List.mem_range.mp (O.perm.mem_iff.mp this)
theorem Ord.inj {n : Nat} {ord : List Nat} (O : Ord n ord) {a b : Nat} (ha : a < n) (hb : b < n) (h : ordO ord a = ordO ord b) : a = b := by
  have ha' : a < ord.length := by rw [O.len]; exact ha
  have hb' : b < ord.length := by rw [O.len]; exact hb
  unfold ordO at h
  rw [List.getD_eq_getElem?_getD, List.getElem?_eq_getElem ha', List.getD_eq_getElem?_getD, List.getElem?_eq_getElem hb'] at h
  have nd : ord.Nodup := O.perm.nodup_iff.mpr List.nodup_range
  have pw := List.pairwise_iff_getElem.mp nd
  have h' : ord[a] = ord[b] := h
  rcases Nat.lt_trichotomy a b with c | c | c
  · exact absurd h' (pw a b ha' hb' c)
  · exact c
  · exact absurd h'.symm (pw b a hb' ha' c)
def pairD (R k : Nat) : D := .tup [.int (k % R : Nat), .int (k / R : Nat)]
def pairsD (R n : Nat) : List D := (List.range n).map (pairD R)
@[simp] theorem pairsD_length {R n : Nat} : (pairsD R n).length = n := by simp [pairsD]
theorem pairsD_get {R n k : Nat} (h : k < (pairsD R n).length) : (pairsD R n)[k] = pairD R k := by
  have h' : k < n := by simpa using h
  have e : (pairsD R n)[k]? = some (pairD R k) := by
    unfold pairsD
    rw [List.getElem?_map, List.getElem?_range h']
    rfl
  exact Option.some.inj ((List.getElem?_eq_getElem h).symm.trans e)
@[simp] theorem bdTup_ap {bs : List (D → Env → Option Env)} {ds : List D} {e : Env} : bdTup bs (.tup ds) e = bdList bs ds e := rfl
@[simp] theorem bdList_nil {e : Env} : bdList [] [] e = some e := rfl
@[simp] theorem bdList_cons {b : D → Env → Option Env} {bs : List (D → Env → Option Env)} {d : D} {ds : List D} {e : Env} : bdList (b :: bs) (d :: ds) e = match b d e with | some e => bdList bs ds e | none => none := id rfl
theorem ix_tupN {l : List Nat} {k : Nat} (h : k < l.length) : ixF [tupN l, .int k] = some (.int (l.getD k 0 : Nat)) := by
  unfold tupN
  rw [ixF_tup (by omega) (by simp; omega), Int.toNat_natCast, ofN_get, List.getElem?_eq_getElem h, List.getD_eq_getElem?_getD, List.getElem?_eq_getElem h]
  rfl
theorem lenF_lstN {l : List Nat} : lenF [lstN l] = some (.int l.length) := by rw [lenF_lst, ofN_length]
/-! ### the known groups -/
theorem tupRg1_ok {n : Nat} (h : n < 1000000) : tupRg1F [.int n] = some (tupN (List.range n)) := by
  have hr : RgOk 0 (n : Int) := by unfold RgOk; omega
  have e : tupRg1F [.int n] = some (.tup (rangeL 0 (n : Int).toNat)) := if_pos hr
  rw [e, Int.toNat_natCast, rangeL_ofN]
end MM

set_option Elab.async false
set_option linter.all false
set_option maxRecDepth 100000
set_option maxHeartbeats 8000000
noncomputable section
namespace MM
open PySem PySem.Spec PyProof.Rows L2

/-! ### what can be shown: texts and dicts too -/
def Od (k : Nat) : Prop := k < 32 ∨ 126 < k
def LowT (x : Str) : Prop := ∀ k, Od k → k ∉ x.cps.toList
def LowS (p : PyData) : Prop := LowT p.shown
theorem lowS_int (i : Int) : LowS (.int i) := fun k hk => PyProof.Rows.shown_int_free' (by unfold Od at hk; omega) i
theorem lowT_join {ts : List Str} (h : ∀ t ∈ ts, LowT t) {k : Nat} (hk : Od k) : k ∉ (Str.join ", " ts).cps.toList := by
  rw [PyProof.Rows.mem_join, PyProof.Rows.signs_sep]
  rintro (⟨t, ht, hc⟩ | ⟨_, hc⟩)
  · exact h t ht k hk hc
  · unfold Od at hk
    rcases List.mem_cons.mp hc with z | z
    · omega
    · rw [List.mem_singleton] at z; omega
theorem lowS_all : ∀ {xs : List PyData}, (∀ x ∈ xs, LowS x) → ∀ t ∈ PyData.shownAll xs, LowT t
  | [], _, t, ht => by rw [PyData.shownAll_nil] at ht; cases ht
  | x :: r, h, t, ht => by
    rw [PyData.shownAll_cons, List.mem_cons] at ht
    rcases ht with rfl | ht
    · exact h x List.mem_cons_self
    · exact lowS_all (fun y hy => h y (List.mem_cons_of_mem _ hy)) t ht
theorem lowS_list {xs : List PyData} (h : ∀ x ∈ xs, LowS x) : LowS (.list xs) := fun k hk => by
  rw [PyData.shown_list, PyProof.Rows.mem_cps_append, PyProof.Rows.mem_cps_append, PyProof.Rows.signs_lbrack, PyProof.Rows.signs_rbrack]
  rintro ((z | z) | z)
  · unfold Od at hk; rw [List.mem_singleton] at z; omega
  · exact lowT_join (lowS_all h) hk z
  · unfold Od at hk; rw [List.mem_singleton] at z; omega
theorem lowS_tuple {xs : List PyData} (h : ∀ x ∈ xs, LowS x) : LowS (.tuple xs) := fun k hk => by
  rw [PyData.shown_tuple, PyProof.Rows.mem_cps_append, PyProof.Rows.mem_cps_append, PyProof.Rows.signs_lparen]
  rintro ((z | z) | z)
  · unfold Od at hk; rw [List.mem_singleton] at z; omega
  · exact lowT_join (lowS_all h) hk z
  · unfold Od at hk
    have e1 : ((",)" : String) : Str).cps.toList = [44, 41] := by decide
    have e2 : ((")" : String) : Str).cps.toList = [41] := by decide
    split at z
    · rw [e1] at z
      rcases List.mem_cons.mp z with z | z
      · omega
      · rw [List.mem_singleton] at z; omega
    · rw [e2, List.mem_singleton] at z; omega
theorem lowS_dict {kvs : List (PyData × PyData)} (h : ∀ p ∈ kvs, LowS p.1 ∧ LowS p.2) : LowS (.dict kvs) := fun k hk => by
  have e1 : (("{" : String) : Str).cps.toList = [123] := by decide
  have e2 : (("}" : String) : Str).cps.toList = [125] := by decide
  have e3 : ((": " : String) : Str).cps.toList = [58, 32] := by decide
  have ha : ∀ kvs : List (PyData × PyData), (∀ p ∈ kvs, LowS p.1 ∧ LowS p.2) → ∀ t ∈ PyData.shownKv kvs, LowT t := by
    intro kvs
    induction kvs with
    | nil => intro _ t ht; rw [PyData.shownKv_nil] at ht; cases ht
    | cons p r ih =>
      intro h t ht
      obtain ⟨a, b⟩ := p
      rw [PyData.shownKv_cons, List.mem_cons] at ht
      rcases ht with rfl | ht
      · intro k hk
        obtain ⟨h1, h2⟩ := h (a, b) List.mem_cons_self
        rw [PyProof.Rows.mem_cps_append, PyProof.Rows.mem_cps_append, e3]
        rintro ((z | z) | z)
        · exact h1 k hk z
        · unfold Od at hk
          rcases List.mem_cons.mp z with z | z
          · omega
          · rw [List.mem_singleton] at z; omega
        · exact h2 k hk z
      · exact ih (fun q hq => h q (List.mem_cons_of_mem _ hq)) t ht
  rw [PyData.shown_dict, PyProof.Rows.mem_cps_append, PyProof.Rows.mem_cps_append, e1, e2]
  rintro ((z | z) | z)
  · unfold Od at hk; rw [List.mem_singleton] at z; omega
  · exact lowT_join (ha kvs h) hk z
  · unfold Od at hk; rw [List.mem_singleton] at z; omega
open Builtin Builtin.Str in
theorem reprChar_ok : ∀ c, c < 127 → 32 ≤ c → (reprChar 34 c).all (fun d => decide (32 ≤ d) && decide (d ≤ 126)) = true ∧ (reprChar 39 c).all (fun d => decide (32 ≤ d) && decide (d ≤ 126)) = true := by decide +kernel
open Builtin Builtin.Str in
theorem foldl_repr_low {q : Nat} (hq : q = 34 ∨ q = 39) : ∀ (l : List Nat) (acc : Array Nat), (∀ c ∈ l, ¬ Od c) → (∀ c ∈ acc.toList, ¬ Od c) → ∀ c ∈ (l.foldl (fun out c => out ++ (reprChar q c).toArray) acc).toList, ¬ Od c
  | [], acc, _, h => h
  | x :: r, acc, hl, h => by
    refine foldl_repr_low hq r _ (fun c hc => hl c (List.mem_cons_of_mem _ hc)) fun c hc => ?_
    rw [Array.toList_append, List.mem_append] at hc
    rcases hc with hc | hc
    · exact h c hc
    · have hx := hl x List.mem_cons_self
      have hx' : 32 ≤ x ∧ x < 127 := by unfold Od at hx; omega
      have := reprChar_ok x hx'.2 hx'.1
      have t : (reprChar q x).all (fun d => decide (32 ≤ d) && decide (d ≤ 126)) = true := by
        rcases hq with rfl | rfl
        · exact this.1
        · exact this.2
      have := List.all_eq_true.mp t c hc
      rw [Bool.and_eq_true, decide_eq_true_eq, decide_eq_true_eq] at this
      unfold Od
      omega
theorem lowS_str {x : Str} (h : LowT x) : LowS (.str x) := fun k hk hm => by
  have hq : reprQuote x = 34 ∨ reprQuote x = 39 := by unfold reprQuote; split <;> simp
  rw [PyData.shown_str] at hm
  have hm : k ∈ ((x.cps.foldl (fun out c => out ++ (Builtin.Str.reprChar (reprQuote x) c).toArray) #[reprQuote x]).push (reprQuote x)).toList := hm
  rw [Array.toList_push, List.mem_append, ← Array.foldl_toList] at hm
  rcases hm with hm | hm
  · refine foldl_repr_low hq x.cps.toList #[reprQuote x] (fun c hc ho => h c ho hc) (fun c hc => ?_) k hm hk
    have : c = reprQuote x := by simpa using hc
    unfold Od
    omega
  · rw [List.mem_singleton] at hm
    unfold Od at hk
    omega
theorem lowT_ok {x : Str} (h : LowT x) : PyData.strOk x = true := by
  unfold PyData.strOk
  rw [Array.all_eq_true']
  intro c hc
  rw [decide_eq_true_eq]
  refine Classical.byContradiction fun hn => h c (by unfold Od; omega) (Array.mem_toList_iff.mpr hc)
theorem lowT_dec {x : Str} (h : x.cps.toList.all (fun c => decide (32 ≤ c) && decide (c ≤ 126)) = true) : LowT x := fun k hk hm => by
  have := List.all_eq_true.mp h k hm
  rw [Bool.and_eq_true, decide_eq_true_eq, decide_eq_true_eq] at this
  unfold Od at hk
  omega
structure ShP (B : Nat) (p : PyData) : Prop where
  lf : PyData.leavesShort 40 p = true
  sh : PyData.showable p = true
  nd : PyData.hasDict p = false
  bk : PyData.bulk p ≤ B
  lw : LowS p
structure ShPL (B : Nat) (ps : List PyData) : Prop where
  lf : PyData.leavesShortAll 40 ps = true
  sh : PyData.showableAll ps = true
  nd : PyData.hasDictAll ps = false
  bk : PyData.bulkAll ps ≤ ps.length * (B + 1)
  lw : ∀ p ∈ ps, LowS p
def ShD (k B : Nat) (d : D) : Prop := ∃ p, Py k d p ∧ ShP B p
theorem ShD.mono {k k' B B' : Nat} {d : D} (h : ShD k B d) (hk : k ≤ k') (hB : B ≤ B') : ShD k' B' d := by
  obtain ⟨p, h1, h2⟩ := h
  exact ⟨p, h1.mono hk, h2.lf, h2.sh, h2.nd, Nat.le_trans h2.bk hB, h2.lw⟩
theorem shL {k B : Nat} : ∀ {ds : List D}, (∀ d ∈ ds, ShD k B d) → ∃ ps, PyL k ds ps ∧ ShPL B ps ∧ ps.length = ds.length
  | [], _ => ⟨[], .nil, ⟨rfl, rfl, rfl, by simp [PyData.bulkAll], fun p hp => by cases hp⟩, rfl⟩
  | d :: ds, h => by
    obtain ⟨p, h1, h2⟩ := h d List.mem_cons_self
    obtain ⟨ps, g1, g2, g3⟩ := shL fun x hx => h x (List.mem_cons_of_mem _ hx)
    refine ⟨p :: ps, .cons h1 g1, ⟨?_, ?_, ?_, ?_, ?_⟩, by rw [List.length_cons, g3]; rfl⟩
    · rw [PyData.leavesShortAll, h2.lf, g2.lf]; rfl
    · rw [PyData.showableAll, h2.sh, g2.sh]; rfl
    · rw [PyData.hasDictAll, h2.nd, g2.nd]; rfl
    · rw [PyData.bulkAll, List.length_cons, Nat.succ_mul]
      have := h2.bk
      have := g2.bk
      omega
    · intro q hq
      rcases List.mem_cons.mp hq with rfl | hq
      · exact h2.lw
      · exact g2.lw q hq
theorem sh_lst {k B N : Nat} {ds : List D} (h : ∀ d ∈ ds, ShD k B d) (hl : ds.length ≤ N) : ShD (k + 1) (N * (B + 1)) (.lst ds) := by
  obtain ⟨ps, g1, g2, g3⟩ := shL h
  refine ⟨.list ps, .lst g1, ⟨?_, ?_, ?_, ?_, lowS_list g2.lw⟩⟩
  · rw [PyData.leavesShort, g2.lf]
  · rw [PyData.showable, g2.sh]
  · rw [PyData.hasDict, g2.nd]
  · rw [PyData.bulk]
    exact Nat.le_trans g2.bk (Nat.mul_le_mul_right _ (by omega))
theorem sh_tup {k B N : Nat} {ds : List D} (h : ∀ d ∈ ds, ShD k B d) (hl : ds.length ≤ N) : ShD (k + 1) (N * (B + 1)) (.tup ds) := by
  obtain ⟨ps, g1, g2, g3⟩ := shL h
  refine ⟨.tuple ps, .tup g1, ⟨?_, ?_, ?_, ?_, lowS_tuple g2.lw⟩⟩
  · rw [PyData.leavesShort, g2.lf]
  · rw [PyData.showable, g2.sh]
  · rw [PyData.hasDict, g2.nd]
  · rw [PyData.bulk]
    exact Nat.le_trans g2.bk (Nat.mul_le_mul_right _ (by omega))
theorem sh_int {i : Int} (h : i.natAbs < 10 ^ 31) : ShD 0 0 (.int i) := by
  have e := int_text_length_le10 (a := i) (k := 31) (by omega) h
  have hs : (PyData.shown (.int i)).length ≤ 40 := by
    show (Str.ofString (toString i)).length ≤ 40
    rw [PySem.ofString_length]
    omega
  have hlog : i.natAbs.log2 < 1920 := by
    by_cases z : i.natAbs = 0
    · rw [z]; decide
    · exact (Nat.log2_lt z).mpr (Nat.lt_trans h (Nat.lt_of_lt_of_le (show 10 ^ 31 < 2 ^ 120 by decide) (Nat.pow_le_pow_right (by omega) (by omega))))
  exact ⟨.int i, .int _, by rw [PyData.leavesShort, decide_eq_true hs], by rw [PyData.showable]; exact decide_eq_true hlog, by rw [PyData.hasDict], by rw [PyData.bulk]; omega, lowS_int i⟩
theorem sh_bl (b : Bool) : ShD 0 0 (.bl b) :=
  ⟨.bool b, .bl b, by cases b <;> rfl, by cases b <;> rfl, by cases b <;> rfl, by cases b <;> decide, by
    cases b
    · exact lowT_dec (by decide +kernel)
    · exact lowT_dec (by decide +kernel)⟩
theorem sh_non : ShD 0 0 .non := ⟨.none, .non, rfl, rfl, rfl, by decide, lowT_dec (by decide +kernel)⟩
theorem sh_str {x : Str} {N : Nat} (h : LowT x) (hl : x.length ≤ N) : ShD 0 N (.str x) :=
  ⟨.str x, ⟨by simp only [toPy], by simp only [PyData.canLay0, lowT_ok h], by simp only [PyData.depth]; omega⟩, by
    rw [PyData.leavesShort, List.all_eq_true]
    intro c hc
    rw [decide_eq_true_eq]
    refine Classical.byContradiction fun hn => h c (by unfold Od; omega) hc, by rw [PyData.showable], by rw [PyData.hasDict], by rw [PyData.bulk]; exact hl, lowS_str h⟩
theorem sh_nats {l : List Nat} (h : ∀ x ∈ l, x < 1024) : ∀ d ∈ ofN l, ShD 0 0 d := fun d hd => by
  obtain ⟨x, hx, rfl⟩ := List.mem_map.mp hd
  have := h x hx
  exact sh_int (by omega)
/-- .. whole things, a dict too -/
structure ShW (d : D) : Prop where
  ex : ∃ p, elP d = some p ∧ p.leavesShort 40 = true ∧ p.showable = true ∧ p.depth ≤ 5 ∧ p.bulk ≤ 10000 ∧ LowS p
theorem ShD.whole {k B : Nat} {d : D} (h : ShD k B d) (hk : k ≤ 5) (hB : B ≤ 10000) : ShW d := by
  obtain ⟨p, h1, h2⟩ := h
  have ht := h1.to
  refine ⟨p, ?_, h2.lf, h2.sh, by have := h1.dep; omega, by have := h2.bk; omega, h2.lw⟩
  unfold elP
  split
  · simp [toPy] at ht
  · rw [ht]
    dsimp only
    rw [if_pos h2.nd]
theorem showA {d : D} (h : ShW d) : ∃ z, reprAF [d] = some (.str z) ∧ PyData.strOk z = true := by
  obtain ⟨p, h1, h2, h3, h4, h5, h6⟩ := h.ex
  have hs := PyData.shown_le_bulk 40 (by omega) p h2
  have ok : ShowX p := ⟨h3, by omega, by rw [sizeLine_eq]; omega⟩
  unfold reprAF
  dsimp only
  rw [h1]
  dsimp only
  rw [if_pos ok]
  exact ⟨_, rfl, lowT_ok h6⟩
theorem ne_strD {z : Str} (hz : PyData.strOk z = true) : neF [.str z, .str z] = some (.bl false) := by
  have h : Py 0 (.str z) (.str z) := ⟨by simp only [toPy], by simp only [PyData.canLay0, hz], by simp only [PyData.depth]; omega⟩
  rw [neF_ap, eqP_refl h]
  rfl
end MM

set_option Elab.async false
set_option linter.all false
set_option maxRecDepth 100000
set_option maxHeartbeats 4000000
noncomputable section
namespace MM
open PySem PySem.Spec PyProof.Rows L2

/-! ### the pen of the fifth harness -/
def penD (ns : List Int) (at' left : Int) : D := .dK [(.inr "script", .scr ns), (.inr "at", .int at'), (.inr "left", .int left)]
section
variable (ns : List Int) (a l : Int)
@[simp] theorem pen_script : ixF [penD ns a l, .str "script"] = some (.scr ns) := rfl
@[simp] theorem pen_at : ixF [penD ns a l, .str "at"] = some (.int a) := rfl
@[simp] theorem pen_left : ixF [penD ns a l, .str "left"] = some (.int l) := rfl
@[simp] theorem pen_setAt (v : Int) : setF (penD ns a l) (.str "at") (.int v) = some (penD ns v l) := if_pos (show 3 < sizeLine by rw [sizeLine_eq]; omega)
@[simp] theorem pen_setLeft (v : Int) : setF (penD ns a l) (.str "left") (.int v) = some (penD ns a v) := if_pos (show 3 < sizeLine by rw [sizeLine_eq]; omega)
end
theorem pow18 : powF [.int 10, .int 18] = some (.int 1000000000000000000) := if_pos (by decide)
theorem abs_ex (c : Int) : ∃ z, absF [.int c] = some (.int z) ∧ 0 ≤ z := ⟨_, rfl, by split <;> omega⟩
theorem take1 (ns : List Int) (at' left : Int) (h : 0 < left) (many : Int) (hm : 0 < many) (hm2 : many < 1073741824) :
    p__law_draw (penD ns at' left) [.int many] = .ret (.int (left.fmod many)) (penD ns at' (left.fdiv many)) := by
  unfold p__law_draw m__law_draw m__law_draw_13
  have h1 : many ≠ 0 := by omega
  have h2 : many.natAbs < 1073741824 := by omega
  have h3 : ¬ left = 0 := by omega
  simp [eqF_int, cmpF, modF, fdivF, imm, h, h1, h2, h3]
def Pen (d : D) : Prop := ∃ ns a l, d = penD ns a l ∧ 0 ≤ a ∧ 0 ≤ l
theorem pen_mk {ns : List Int} {a l : Int} (h0 : 0 ≤ a) (hl : 0 ≤ l) : Pen (penD ns a l) := ⟨ns, a, l, rfl, h0, hl⟩
def Dig (many : Int) (d p : D) : Prop := Pen p ∧ ∃ i, d = .int i ∧ 0 ≤ i ∧ i < many
theorem dig_mk {ns : List Int} {a l x many : Int} (h0 : 0 ≤ a) (hl : 0 ≤ l) (hm : 0 < many) : Dig many (.int (x.fmod many)) (penD ns (a + 1) l) := ⟨pen_mk (by omega) hl, _, rfl, fmod_pos hm⟩
theorem dig0 {ns : List Int} {a x many : Int} (h0 : 0 ≤ a) (hm : 0 < many) : Dig many (.int (x.fmod many)) (penD ns (a + 1) 0) := dig_mk h0 (by omega) hm
theorem take2 (ns : List Int) (at' : Int) (h0 : 0 ≤ at') (many : Int) (hm : 0 < many) (hm2 : many < 1073741824) :
    RetP (p__law_draw (penD ns at' 0) [.int many]) (Dig many) := by
  unfold p__law_draw m__law_draw m__law_draw_8 m__law_draw_12 m__law_draw_13
  by_cases hn : 0 < ns.length
  · obtain ⟨c, hcx⟩ : ∃ c, ixF [.scr ns, .int (at'.fmod ns.length)] = some (.int c) := ⟨_, ixF_scr (fmod_pos (by omega)).1 (fmod_pos (by omega)).2⟩
    obtain ⟨z, hz, hz0⟩ := abs_ex c
    have hq : 0 ≤ z.fdiv many := Int.fdiv_nonneg hz0 (by omega)
    by_cases ha : (ns.length : Int) ≤ at'
    · simp [eqF_int, cmpF_int, imm, addF_int, mulF_l, lenF_scr, hcx, ha, hn, fdivF_int, modF_int, mulF_r, mulF_fmod, hm, hm2, dig0 h0]
    · by_cases hb : z < 1000000000000000000
      · simp [eqF_int, cmpF_int, imm, addF_int, mulF_l, lenF_scr, hcx, ha, hn, hz, pow18, hb, fdivF_int, modF_int, mulF_r, mulF_fmod, hm, hm2, dig0 h0]
      · simp [eqF_int, cmpF_int, imm, addF_int, mulF_l, lenF_scr, hcx, ha, hn, hz, pow18, hb, fdivF_int hm hm2, modF_int, dig_mk h0, hm, hq]
  · have hna : (ns.length : Int) ≤ at' := by omega
    simp [eqF_int, cmpF_int, imm, addF_int, mulF_l, lenF_scr, hna, hn, fdivF_int, modF_int, mulF_r, mulF_fmod, hm, hm2, dig0 h0]
theorem take_ok {pen : D} (P : Pen pen) {many : Int} (hm : 0 < many) (hm2 : many < 1073741824) : RetP (p__law_draw pen [.int many]) (Dig many) := by
  obtain ⟨ns, a, l, rfl, h0, hl⟩ := P
  by_cases h : 0 < l
  · rw [take1 ns a l h many hm hm2]
    exact ⟨pen_mk h0 (Int.fdiv_nonneg hl (by omega)), _, rfl, fmod_pos hm⟩
  · have : l = 0 := by omega
    subst this
    exact take2 ns a h0 many hm hm2
theorem pen_start (ns : List Int) : ∃ pen, f__law_pen [.scr ns] = .ret pen ∧ Pen pen := by
  unfold f__law_pen m__law_pen
  refine ⟨penD ns 0 0, ?_, pen_mk (by omega) (by omega)⟩
  simp only [lstM_ap, tupM_ap, le_size, seqM_ap, nxM_ap, brM_ap, ctM_ap, retM_ap, retNM_ap, ifS_ap, asgF_ap, asgO_ap, dropM_ap, frzE_ap, frzM_ap, rdM_ap, vrM_ap, cM_ap, nilM_ap, consM_ap, consTM_ap, consNM_ap, opM_ap, tstM_ap, andM_ap, orM_ap, notM_ap, ifM_ap, andVM_ap, orVM_ap, notVM_ap, immM_ap, imM_ap, ixT_ap, yesM_ap, mutM_ap, mvM_ap, clF_ap, clT_ap, bdName_ap, itemsM_ap, asgG_ap, envF_ap, envP_ap, callF_ap, callP_ap, ownAt0_ap, itemsD_lst, itemsD_tup, chM_ap, slM_ap, noM_ap, partM_ap, bdB_ap, bdTup_ap, bdList_cons, bdList_nil, List.length_cons, List.length_nil, List.set_cons_succ, List.set_cons_zero, List.getElem?_cons_zero, List.getElem?_cons_succ, List.map_cons, List.map_nil, List.cons_append, List.nil_append, List.replicate, Nat.zero_add, Nat.reduceAdd, Nat.reduceSub, Nat.reduceLT, Nat.reduceLeDiff, Nat.reduceEqDiff, if_true, if_false, reduceIte, Bool.false_eq_true, NxS_nx, NxS_ct, RetF_ret, RetP_ret, imm, Bool.not_true, Bool.not_false, dispM, pairsM]
  rfl
theorem take_any {pen : D} (Pn : Pen pen) (k : Nat) (hk : 0 < k) (h2 : k < 1073741824) : ∃ (a : Nat) (pen' : D), p__law_draw pen [.int k] = .ret (.int a) pen' ∧ a < k ∧ Pen pen' := by
  have := take_ok Pn (many := k) (by omega) (by omega)
  unfold RetP at this
  split at this
  · rename_i d p e
    obtain ⟨Pp, i, rfl, h0, h1⟩ := this
    exact ⟨i.toNat, p, by rw [e, Int.toNat_of_nonneg h0], by omega, Pp⟩
  · exact this.elim
/-- a comprehension that draws from a state: what it has told so far counts -/
theorem lc_acc {α β S : Type} {k : Nat} {mi : M (List D)} {el : M D} {e : Env} {rc : R D} (hC : lcM [k] mi (bdName k) yesM el e = rc) (l : List α) (g : α → D) (F : S → Env) (I : List β → S → Prop) (o : β → D) (s : S) (hm : mi e = .ok (l.map g) (F s)) (hs : I [] s)
    (hk : ∀ b s, I b s → OkSlot (F s) k) (hkk : ∀ s s', (F s)[k]? = (F s')[k]?) (hz : l.length < 1000000)
    (h : ∀ x ∈ l, ∀ b s, b.length < l.length → I b s → ∃ y s', el ((F s).set k (some (false, g x))) = .ok (o y) ((F s').set k (some (false, g x))) ∧ I (b ++ [y]) s') :
    ∃ (ys : List β) (s' : S), rc = .ok (.lst (ys.map o)) (F s') ∧ I ys s' ∧ ys.length = l.length := by
  have key : ∀ (m : List α) (b : List β) (s : S), b.length + m.length = l.length → (∀ x ∈ m, x ∈ l) → I b s → ∃ (ys : List β) (s' : S), compM [k] (bdName k) yesM el (m.map g) ((F s).set k none) = .ok (ys.map o) ((F s').set k none) ∧ I (b ++ ys) s' ∧ ys.length = m.length := by
    intro m
    induction m with
    | nil => intro b s hb hsub hI; exact ⟨[], s, rfl, by rwa [List.append_nil], rfl⟩
    | cons x m ih =>
      intro b s hb hsub hI
      rw [List.length_cons] at hb
      obtain ⟨y, s1, h1, h2⟩ := h x (hsub x List.mem_cons_self) b s (by omega) hI
      obtain ⟨ys, s2, g1, g2, g3⟩ := ih (b ++ [y]) s1 (by rw [List.length_append, List.length_singleton]; omega) (fun z hz => hsub z (List.mem_cons_of_mem _ hz)) h2
      refine ⟨y :: ys, s2, ?_, by rw [List.append_assoc] at g2; exact g2, by rw [List.length_cons, List.length_cons, g3]⟩
      rw [List.map_cons]
      unfold compM
      have hb : bdName k (g x) ((F s).set k none) = some ((F s).set k (some (false, g x))) := by
        unfold bdName
        rw [if_pos (by rw [List.length_set]; exact (hk b s hI).lt), List.set_set]
      rw [hb]
      simp only [yesM_ap]
      rw [h1]
      dsimp only
      rw [show wipeE ((F s1).set k (some (false, g x))) [k] = (F s1).set k none from by unfold wipeE wipeE; rw [List.set_set], g1]
      rfl
  obtain ⟨ys, s', g1, g2, g3⟩ := key l [] s (by simp) (fun _ h => h) hs
  refine ⟨ys, s', ?_, g2, g3⟩
  rw [← hC]
  unfold lcM
  rw [hm]
  dsimp only
  rw [if_pos (by rw [List.length_map, sizeLine_eq]; omega)]
  have e0 : wipeE (F s) [k] = (F s).set k none := rfl
  rw [e0, g1]
  dsimp only
  rw [(hk _ _ hs).rest2 (hkk s' s)]
theorem any_turn_ok {pen : D} (Pn : Pen pen) {n : Nat} (hn : n < 1000) : ∃ (l : List Nat) (pen' : D), p__law_any_turn pen [.int n] = .ret (tupZN l) pen' ∧ Turn n l ∧ Pen pen' := by
  unfold p__law_any_turn m__law_any_turn
  simp only [lstM_ap, tupM_ap, le_size, seqM_ap, nxM_ap, brM_ap, ctM_ap, retM_ap, retNM_ap, ifS_ap, asgF_ap, asgO_ap, dropM_ap, frzE_ap, frzM_ap, rdM_ap, vrM_ap, cM_ap, nilM_ap, consM_ap, consTM_ap, consNM_ap, opM_ap, tstM_ap, andM_ap, orM_ap, notM_ap, ifM_ap, andVM_ap, orVM_ap, notVM_ap, immM_ap, imM_ap, ixT_ap, yesM_ap, mutM_ap, mvM_ap, clF_ap, clT_ap, bdName_ap, itemsM_ap, asgG_ap, envF_ap, envP_ap, callF_ap, callP_ap, ownAt0_ap, itemsD_lst, itemsD_tup, chM_ap, slM_ap, noM_ap, partM_ap, bdB_ap, bdTup_ap, bdList_cons, bdList_nil, List.length_cons, List.length_nil, List.set_cons_succ, List.set_cons_zero, List.getElem?_cons_zero, List.getElem?_cons_succ, List.map_cons, List.map_nil, List.cons_append, List.nil_append, List.replicate, Nat.zero_add, Nat.reduceAdd, Nat.reduceSub, Nat.reduceLT, Nat.reduceLeDiff, Nat.reduceEqDiff, if_true, if_false, reduceIte, Bool.false_eq_true, NxS_nx, NxS_ct, RetF_ret, RetP_ret, imm, Bool.not_true, Bool.not_false, lstRg1_ok (show n < 1000000 by omega)]
  generalize hC : lcM _ _ _ _ _ _ = rc
  obtain ⟨ys, ⟨pen', left⟩, rfl, ⟨P', hp⟩, hl⟩ := lc_acc hC (List.range n) (fun (i : Nat) => D.int (i : Int)) (fun (s : D × List Nat) => [some (true, s.1), some (false, .int n), some (true, lstN s.2), none]) (fun (b : List Nat) s => Pen s.1 ∧ (b ++ s.2).Perm (List.range n)) (fun (x : Nat) => D.int (x : Int)) (pen, List.range n)
    (range1_ok (n := n) (by simp only [lstM_ap, tupM_ap, le_size, seqM_ap, nxM_ap, brM_ap, ctM_ap, retM_ap, retNM_ap, ifS_ap, asgF_ap, asgO_ap, dropM_ap, frzE_ap, frzM_ap, rdM_ap, vrM_ap, cM_ap, nilM_ap, consM_ap, consTM_ap, consNM_ap, opM_ap, tstM_ap, andM_ap, orM_ap, notM_ap, ifM_ap, andVM_ap, orVM_ap, notVM_ap, immM_ap, imM_ap, ixT_ap, yesM_ap, mutM_ap, mvM_ap, clF_ap, clT_ap, bdName_ap, itemsM_ap, asgG_ap, envF_ap, envP_ap, callF_ap, callP_ap, ownAt0_ap, itemsD_lst, itemsD_tup, chM_ap, slM_ap, noM_ap, partM_ap, bdB_ap, bdTup_ap, bdList_cons, bdList_nil, List.length_cons, List.length_nil, List.set_cons_succ, List.set_cons_zero, List.getElem?_cons_zero, List.getElem?_cons_succ, List.map_cons, List.map_nil, List.cons_append, List.nil_append, List.replicate, Nat.zero_add, Nat.reduceAdd, Nat.reduceSub, Nat.reduceLT, Nat.reduceLeDiff, Nat.reduceEqDiff, if_true, if_false, reduceIte, Bool.false_eq_true, NxS_nx, NxS_ct, RetF_ret, RetP_ret, imm, Bool.not_true, Bool.not_false]) (by omega)) ⟨Pn, .refl _⟩ (fun _ _ _ => trivial) (fun _ _ => rfl) (by simp; omega) (by
    rintro x hx b ⟨pen', left⟩ hb ⟨P', hp⟩
    rw [List.length_range] at hb
    have hp : (b ++ left).Perm (List.range n) := hp
    have hll := hp.length_eq
    rw [List.length_append, List.length_range] at hll
    have hlen : left.length < 1000000 := by omega
    obtain ⟨a, pen2, e2, ha, P2⟩ := take_any P' left.length (by omega) (by omega)
    refine ⟨left[a], (pen2, left.eraseIdx a), ?_, P2, perm_pop ha hp⟩
    simp only [clP_eq, lstM_ap, tupM_ap, le_size, seqM_ap, nxM_ap, brM_ap, ctM_ap, retM_ap, retNM_ap, ifS_ap, asgF_ap, asgO_ap, dropM_ap, frzE_ap, frzM_ap, rdM_ap, vrM_ap, cM_ap, nilM_ap, consM_ap, consTM_ap, consNM_ap, opM_ap, tstM_ap, andM_ap, orM_ap, notM_ap, ifM_ap, andVM_ap, orVM_ap, notVM_ap, immM_ap, imM_ap, ixT_ap, yesM_ap, mutM_ap, mvM_ap, clF_ap, clT_ap, bdName_ap, itemsM_ap, asgG_ap, envF_ap, envP_ap, callF_ap, callP_ap, ownAt0_ap, itemsD_lst, itemsD_tup, chM_ap, slM_ap, noM_ap, partM_ap, bdB_ap, bdTup_ap, bdList_cons, bdList_nil, List.length_cons, List.length_nil, List.set_cons_succ, List.set_cons_zero, List.getElem?_cons_zero, List.getElem?_cons_succ, List.map_cons, List.map_nil, List.cons_append, List.nil_append, List.replicate, Nat.zero_add, Nat.reduceAdd, Nat.reduceSub, Nat.reduceLT, Nat.reduceLeDiff, Nat.reduceEqDiff, if_true, if_false, reduceIte, Bool.false_eq_true, NxS_nx, NxS_ct, RetF_ret, RetP_ret, imm, Bool.not_true, Bool.not_false, lenF_lstN, e2]
    simp only [lstN, popAtF_ok ha hlen])
  have hp : (ys ++ left).Perm (List.range n) := hp
  have hleft : left = [] := by
    have := hp.length_eq
    rw [List.length_append, List.length_range] at this
    rw [List.length_range] at hl
    exact List.eq_nil_of_length_eq_zero (by omega)
  subst hleft
  rw [List.append_nil] at hp
  have ht : tupleF [.lst (ys.map fun (x : Nat) => D.int (x : Int))] = some (tupN ys) := rfl
  simp only [lstM_ap, tupM_ap, le_size, seqM_ap, nxM_ap, brM_ap, ctM_ap, retM_ap, retNM_ap, ifS_ap, asgF_ap, asgO_ap, dropM_ap, frzE_ap, frzM_ap, rdM_ap, vrM_ap, cM_ap, nilM_ap, consM_ap, consTM_ap, consNM_ap, opM_ap, tstM_ap, andM_ap, orM_ap, notM_ap, ifM_ap, andVM_ap, orVM_ap, notVM_ap, immM_ap, imM_ap, ixT_ap, yesM_ap, mutM_ap, mvM_ap, clF_ap, clT_ap, bdName_ap, itemsM_ap, asgG_ap, envF_ap, envP_ap, callF_ap, callP_ap, ownAt0_ap, itemsD_lst, itemsD_tup, chM_ap, slM_ap, noM_ap, partM_ap, bdB_ap, bdTup_ap, bdList_cons, bdList_nil, List.length_cons, List.length_nil, List.set_cons_succ, List.set_cons_zero, List.getElem?_cons_zero, List.getElem?_cons_succ, List.map_cons, List.map_nil, List.cons_append, List.nil_append, List.replicate, Nat.zero_add, Nat.reduceAdd, Nat.reduceSub, Nat.reduceLT, Nat.reduceLeDiff, Nat.reduceEqDiff, if_true, if_false, reduceIte, Bool.false_eq_true, NxS_nx, NxS_ct, RetF_ret, RetP_ret, imm, Bool.not_true, Bool.not_false, ht]
  exact ⟨ys, pen', rfl, hp, P'⟩
end MM

set_option Elab.async false
set_option linter.all false
set_option maxRecDepth 100000
set_option maxHeartbeats 4000000
noncomputable section
namespace MM
open PySem PySem.Spec PyProof.Rows L2

/-! ### for x in l: if it is bad, hand back -/
theorem forM_ret {α : Type} {bd : D → Env → Option Env} {body : MS} {dr : D} (g : α → D) (bad : α → Bool) (P : Env → Prop) : ∀ (l : List α) (e : Env), P e →
    (∀ x ∈ l, ∀ e, P e → if bad x then ∃ e', bdB bd body (g x) e = .rt dr e' else NxS (bdB bd body (g x) e) P) → if l.any bad then ∃ e', forM bd body (l.map g) e = .rt dr e' else ∃ e', forM bd body (l.map g) e = .nx e' ∧ P e'
  | [], e, h0, _ => by
    rw [List.any_nil, if_neg Bool.false_ne_true]
    exact ⟨e, rfl, h0⟩
  | x :: l, e, h0, hs => by
    have hx := hs x List.mem_cons_self e h0
    rw [List.any_cons, List.map_cons]
    cases hb : bad x with
    | true =>
      rw [hb, if_pos rfl] at hx
      obtain ⟨e', h1⟩ := hx
      rw [Bool.true_or, if_pos rfl]
      refine ⟨e', ?_⟩
      unfold bdB at h1
      unfold forM
      cases hd : bd (g x) e with
      | none => rw [hd] at h1; cases h1
      | some e1 =>
        rw [hd] at h1
        dsimp only at h1 ⊢
        rw [h1]
    | false =>
      rw [hb, if_neg Bool.false_ne_true] at hx
      obtain ⟨e1, e2, h1, h2, h3⟩ := hx.get
      have ih := forM_ret (bd := bd) (body := body) (dr := dr) g bad P l e2 h3 fun y hy => hs y (List.mem_cons_of_mem _ hy)
      rw [Bool.false_or]
      have he : forM bd body (g x :: l.map g) e = forM bd body (l.map g) e2 := by
        conv => lhs; unfold forM
        rw [h1]
        rcases h2 with h2 | h2 <;> (dsimp only; rw [h2])
      rw [he]
      exact ih
theorem for_ret {α : Type} {mi : M (List D)} {bd : D → Env → Option Env} {body : MS} {dr : D} {e e0 : Env} {r : RS} (hL : loopM mi bd body e = r) (l : List α) (g : α → D) (bad : α → Bool) (P : Env → Prop) (hm : mi e = .ok (l.map g) e0) (h0 : P e0)
    (hs : ∀ x ∈ l, ∀ e, P e → if bad x then ∃ e', bdB bd body (g x) e = .rt dr e' else NxS (bdB bd body (g x) e) P) : (l.any bad = true ∧ ∃ e', r = .rt dr e') ∨ (l.any bad = false ∧ ∃ e', r = .nx e' ∧ P e') := by
  have h := forM_ret (bd := bd) (body := body) (dr := dr) g bad P l e0 h0 hs
  have er : forM bd body (l.map g) e0 = r := by
    rw [← hL]
    unfold loopM
    rw [hm]
  rw [er] at h
  cases hb : l.any bad with
  | true => rw [hb, if_pos rfl] at h; exact .inl ⟨rfl, h⟩
  | false => rw [hb, if_neg Bool.false_ne_true] at h; exact .inr ⟨rfl, h⟩
end MM

set_option Elab.async false
set_option linter.all false
set_option maxRecDepth 100000
set_option maxHeartbeats 4000000
noncomputable section
namespace MM
open PySem PySem.Spec PyProof.Rows L2

/-! ### things, asked by the program and by the law's own count -/
structure Th (d : D) : Prop where
  sh : ShW d
  eq : ∃ b, f_is_turn [d] = .ret (.bl b) ∧ f__law_due [d] = .ret (.bl b)
theorem th_no {d : D} (h : isiF .tuple [d, .opq (.ty "tuple")] = some (.bl false)) (sh : ShW d) : Th d := by
  refine ⟨sh, false, ?_, ?_⟩
  · unfold f_is_turn m_is_turn
    simp only [lstM_ap, tupM_ap, le_size, seqM_ap, nxM_ap, brM_ap, ctM_ap, retM_ap, retNM_ap, ifS_ap, asgF_ap, asgO_ap, dropM_ap, frzE_ap, frzM_ap, rdM_ap, vrM_ap, cM_ap, nilM_ap, consM_ap, consTM_ap, consNM_ap, opM_ap, tstM_ap, andM_ap, orM_ap, notM_ap, ifM_ap, andVM_ap, orVM_ap, notVM_ap, immM_ap, imM_ap, ixT_ap, yesM_ap, mutM_ap, mvM_ap, clF_ap, clT_ap, bdName_ap, itemsM_ap, asgG_ap, envF_ap, envP_ap, callF_ap, callP_ap, ownAt0_ap, itemsD_lst, itemsD_tup, chM_ap, slM_ap, noM_ap, partM_ap, bdB_ap, bdTup_ap, bdList_cons, bdList_nil, List.length_cons, List.length_nil, List.set_cons_succ, List.set_cons_zero, List.getElem?_cons_zero, List.getElem?_cons_succ, List.map_cons, List.map_nil, List.cons_append, List.nil_append, List.replicate, Nat.zero_add, Nat.reduceAdd, Nat.reduceSub, Nat.reduceLT, Nat.reduceLeDiff, Nat.reduceEqDiff, if_true, if_false, reduceIte, Bool.false_eq_true, NxS_nx, NxS_ct, RetF_ret, RetP_ret, imm, Bool.not_true, Bool.not_false, h]
  · unfold f__law_due m__law_due
    simp only [lstM_ap, tupM_ap, le_size, seqM_ap, nxM_ap, brM_ap, ctM_ap, retM_ap, retNM_ap, ifS_ap, asgF_ap, asgO_ap, dropM_ap, frzE_ap, frzM_ap, rdM_ap, vrM_ap, cM_ap, nilM_ap, consM_ap, consTM_ap, consNM_ap, opM_ap, tstM_ap, andM_ap, orM_ap, notM_ap, ifM_ap, andVM_ap, orVM_ap, notVM_ap, immM_ap, imM_ap, ixT_ap, yesM_ap, mutM_ap, mvM_ap, clF_ap, clT_ap, bdName_ap, itemsM_ap, asgG_ap, envF_ap, envP_ap, callF_ap, callP_ap, ownAt0_ap, itemsD_lst, itemsD_tup, chM_ap, slM_ap, noM_ap, partM_ap, bdB_ap, bdTup_ap, bdList_cons, bdList_nil, List.length_cons, List.length_nil, List.set_cons_succ, List.set_cons_zero, List.getElem?_cons_zero, List.getElem?_cons_succ, List.map_cons, List.map_nil, List.cons_append, List.nil_append, List.replicate, Nat.zero_add, Nat.reduceAdd, Nat.reduceSub, Nat.reduceLT, Nat.reduceLeDiff, Nat.reduceEqDiff, if_true, if_false, reduceIte, Bool.false_eq_true, NxS_nx, NxS_ct, RetF_ret, RetP_ret, imm, Bool.not_true, Bool.not_false, h]
theorem isi_tp {x : D} {ds : List D} (hx : IsTp x ds) : isiF .tuple [x, .opq (.ty "tuple")] = some (.bl true) := by rcases hx with rfl | rfl <;> rfl
theorem eqF_n0 (n : Nat) : eqF [.int (n : Nat), .int 0] = some (.bl (decide (n = 0))) := by
  rw [show (0 : Int) = ((0 : Nat) : Int) from rfl, eqF_int]
  simp only [Int.natCast_inj]
theorem gtF_n7 (n : Nat) : gtF [.int (n : Nat), .int 7] = some (.bl (decide (7 < n))) := by
  show some (D.bl (decide ((7 : Int) < n))) = _
  congr 2
  simp only [decide_eq_decide]
  omega
theorem th_len {x : D} {ds : List D} (hx : IsTp x ds) (sh : ShW x) (h : ds.length = 0 ∨ 7 < ds.length) : Th x := by
  have i1 := isi_tp hx
  refine ⟨sh, false, ?_, ?_⟩
  · unfold f_is_turn m_is_turn
    rcases h with h | h
    · have h3 : ¬ (1 : Int) ≤ ds.length := by omega
      simp only [lstM_ap, tupM_ap, le_size, seqM_ap, nxM_ap, brM_ap, ctM_ap, retM_ap, retNM_ap, ifS_ap, asgF_ap, asgO_ap, dropM_ap, frzE_ap, frzM_ap, rdM_ap, vrM_ap, cM_ap, nilM_ap, consM_ap, consTM_ap, consNM_ap, opM_ap, tstM_ap, andM_ap, orM_ap, notM_ap, ifM_ap, andVM_ap, orVM_ap, notVM_ap, immM_ap, imM_ap, ixT_ap, yesM_ap, mutM_ap, mvM_ap, clF_ap, clT_ap, bdName_ap, itemsM_ap, asgG_ap, envF_ap, envP_ap, callF_ap, callP_ap, ownAt0_ap, itemsD_lst, itemsD_tup, chM_ap, slM_ap, noM_ap, partM_ap, bdB_ap, bdTup_ap, bdList_cons, bdList_nil, List.length_cons, List.length_nil, List.set_cons_succ, List.set_cons_zero, List.getElem?_cons_zero, List.getElem?_cons_succ, List.map_cons, List.map_nil, List.cons_append, List.nil_append, List.replicate, Nat.zero_add, Nat.reduceAdd, Nat.reduceSub, Nat.reduceLT, Nat.reduceLeDiff, Nat.reduceEqDiff, if_true, if_false, reduceIte, Bool.false_eq_true, NxS_nx, NxS_ct, RetF_ret, RetP_ret, imm, Bool.not_true, Bool.not_false, i1, chM_ap, hx.len, h3, decide_false]
    · have h3 : (1 : Int) ≤ ds.length := by omega
      have h4 : ¬ (ds.length : Int) ≤ 7 := by omega
      simp only [lstM_ap, tupM_ap, le_size, seqM_ap, nxM_ap, brM_ap, ctM_ap, retM_ap, retNM_ap, ifS_ap, asgF_ap, asgO_ap, dropM_ap, frzE_ap, frzM_ap, rdM_ap, vrM_ap, cM_ap, nilM_ap, consM_ap, consTM_ap, consNM_ap, opM_ap, tstM_ap, andM_ap, orM_ap, notM_ap, ifM_ap, andVM_ap, orVM_ap, notVM_ap, immM_ap, imM_ap, ixT_ap, yesM_ap, mutM_ap, mvM_ap, clF_ap, clT_ap, bdName_ap, itemsM_ap, asgG_ap, envF_ap, envP_ap, callF_ap, callP_ap, ownAt0_ap, itemsD_lst, itemsD_tup, chM_ap, slM_ap, noM_ap, partM_ap, bdB_ap, bdTup_ap, bdList_cons, bdList_nil, List.length_cons, List.length_nil, List.set_cons_succ, List.set_cons_zero, List.getElem?_cons_zero, List.getElem?_cons_succ, List.map_cons, List.map_nil, List.cons_append, List.nil_append, List.replicate, Nat.zero_add, Nat.reduceAdd, Nat.reduceSub, Nat.reduceLT, Nat.reduceLeDiff, Nat.reduceEqDiff, if_true, if_false, reduceIte, Bool.false_eq_true, NxS_nx, NxS_ct, RetF_ret, RetP_ret, imm, Bool.not_true, Bool.not_false, i1, chM_ap, hx.len, h3, h4, decide_true, decide_false]
  · unfold f__law_due m__law_due
    rcases h with h | h
    · simp only [lstM_ap, tupM_ap, le_size, seqM_ap, nxM_ap, brM_ap, ctM_ap, retM_ap, retNM_ap, ifS_ap, asgF_ap, asgO_ap, dropM_ap, frzE_ap, frzM_ap, rdM_ap, vrM_ap, cM_ap, nilM_ap, consM_ap, consTM_ap, consNM_ap, opM_ap, tstM_ap, andM_ap, orM_ap, notM_ap, ifM_ap, andVM_ap, orVM_ap, notVM_ap, immM_ap, imM_ap, ixT_ap, yesM_ap, mutM_ap, mvM_ap, clF_ap, clT_ap, bdName_ap, itemsM_ap, asgG_ap, envF_ap, envP_ap, callF_ap, callP_ap, ownAt0_ap, itemsD_lst, itemsD_tup, chM_ap, slM_ap, noM_ap, partM_ap, bdB_ap, bdTup_ap, bdList_cons, bdList_nil, List.length_cons, List.length_nil, List.set_cons_succ, List.set_cons_zero, List.getElem?_cons_zero, List.getElem?_cons_succ, List.map_cons, List.map_nil, List.cons_append, List.nil_append, List.replicate, Nat.zero_add, Nat.reduceAdd, Nat.reduceSub, Nat.reduceLT, Nat.reduceLeDiff, Nat.reduceEqDiff, if_true, if_false, reduceIte, Bool.false_eq_true, NxS_nx, NxS_ct, RetF_ret, RetP_ret, imm, Bool.not_true, Bool.not_false, i1, hx.len, eqF_n0, h, decide_true]
    · have h3 : ¬ ds.length = 0 := by omega
      simp only [lstM_ap, tupM_ap, le_size, seqM_ap, nxM_ap, brM_ap, ctM_ap, retM_ap, retNM_ap, ifS_ap, asgF_ap, asgO_ap, dropM_ap, frzE_ap, frzM_ap, rdM_ap, vrM_ap, cM_ap, nilM_ap, consM_ap, consTM_ap, consNM_ap, opM_ap, tstM_ap, andM_ap, orM_ap, notM_ap, ifM_ap, andVM_ap, orVM_ap, notVM_ap, immM_ap, imM_ap, ixT_ap, yesM_ap, mutM_ap, mvM_ap, clF_ap, clT_ap, bdName_ap, itemsM_ap, asgG_ap, envF_ap, envP_ap, callF_ap, callP_ap, ownAt0_ap, itemsD_lst, itemsD_tup, chM_ap, slM_ap, noM_ap, partM_ap, bdB_ap, bdTup_ap, bdList_cons, bdList_nil, List.length_cons, List.length_nil, List.set_cons_succ, List.set_cons_zero, List.getElem?_cons_zero, List.getElem?_cons_succ, List.map_cons, List.map_nil, List.cons_append, List.nil_append, List.replicate, Nat.zero_add, Nat.reduceAdd, Nat.reduceSub, Nat.reduceLT, Nat.reduceLeDiff, Nat.reduceEqDiff, if_true, if_false, reduceIte, Bool.false_eq_true, NxS_nx, NxS_ct, RetF_ret, RetP_ret, imm, Bool.not_true, Bool.not_false, i1, hx.len, eqF_n0, gtF_n7, h3, h, decide_true, decide_false]
/-! ### the things in a tuple -/
def wB : D → Bool
  | .int _ => true
  | _ => false
structure El (d : D) : Prop where
  du : ∃ bi bb, isiF .int [d, .opq (.ty "int")] = some (.bl bi) ∧ isiF .bool [d, .opq (.ty "bool")] = some (.bl bb) ∧ (bi && !bb) = wB d
theorem El.wh {d : D} (h : El d) : f_is_whole [d] = .ret (.bl (wB d)) := by
  obtain ⟨bi, bb, h1, h2, h3⟩ := h.du
  rw [← h3]
  unfold f_is_whole m_is_whole
  cases bi <;> cases bb <;> simp only [lstM_ap, tupM_ap, le_size, seqM_ap, nxM_ap, brM_ap, ctM_ap, retM_ap, retNM_ap, ifS_ap, asgF_ap, asgO_ap, dropM_ap, frzE_ap, frzM_ap, rdM_ap, vrM_ap, cM_ap, nilM_ap, consM_ap, consTM_ap, consNM_ap, opM_ap, tstM_ap, andM_ap, orM_ap, notM_ap, ifM_ap, andVM_ap, orVM_ap, notVM_ap, immM_ap, imM_ap, ixT_ap, yesM_ap, mutM_ap, mvM_ap, clF_ap, clT_ap, bdName_ap, itemsM_ap, asgG_ap, envF_ap, envP_ap, callF_ap, callP_ap, ownAt0_ap, itemsD_lst, itemsD_tup, chM_ap, slM_ap, noM_ap, partM_ap, bdB_ap, bdTup_ap, bdList_cons, bdList_nil, List.length_cons, List.length_nil, List.set_cons_succ, List.set_cons_zero, List.getElem?_cons_zero, List.getElem?_cons_succ, List.map_cons, List.map_nil, List.cons_append, List.nil_append, List.replicate, Nat.zero_add, Nat.reduceAdd, Nat.reduceSub, Nat.reduceLT, Nat.reduceLeDiff, Nat.reduceEqDiff, if_true, if_false, reduceIte, Bool.false_eq_true, NxS_nx, NxS_ct, RetF_ret, RetP_ret, imm, Bool.not_true, Bool.not_false, h1, h2, Bool.true_and, Bool.false_and, Bool.not_true, Bool.not_false]
theorem el_int (i : Int) : El (.int i) := ⟨_, _, rfl, rfl, rfl⟩
theorem el_bl (b : Bool) : El (.bl b) := ⟨_, _, rfl, rfl, rfl⟩
theorem el_str (b : Str) : El (.str b) := ⟨_, _, rfl, rfl, rfl⟩
theorem el_non : El .non := ⟨_, _, rfl, rfl, rfl⟩
theorem el_lst (b : List D) : El (.lst b) := ⟨_, _, rfl, rfl, rfl⟩
theorem el_tup (b : List D) : El (.tup b) := ⟨_, _, rfl, rfl, rfl⟩
theorem el_tz (b : List D) : El (.tz b) := ⟨_, _, rfl, rfl, rfl⟩
theorem ne_ownS (x : Nat) : neF [.int (x : Nat), .int (x : Nat)] = some (.bl false) := by rw [neF_int, decide_eq_true rfl]; rfl
section
variable {x : D} {ds : List D} (hx : IsTp x ds) (he : ∀ d ∈ ds, El d) (h1 : 1 ≤ ds.length) (h7 : ds.length ≤ 7)
include hx he h1 h7
theorem all_wh {e : Env} {d0 d1 : Option (Bool × D)} (e0 : e = [d0, some (false, x), none]) : lcM [2] (itemsM (vrM 1)) (bdName 2) (yesM) (clF f_is_whole (consM (vrM 2) (nilM))) e = .ok (.lst (ds.map fun d => D.bl (wB d))) e := by
  subst e0
  generalize hC : lcM _ _ _ _ _ _ = rc
  have hc := lc_on' hC ds id (fun d => D.bl (wB d)) (by simp only [lstM_ap, tupM_ap, le_size, seqM_ap, nxM_ap, brM_ap, ctM_ap, retM_ap, retNM_ap, ifS_ap, asgF_ap, asgO_ap, dropM_ap, frzE_ap, frzM_ap, rdM_ap, vrM_ap, cM_ap, nilM_ap, consM_ap, consTM_ap, consNM_ap, opM_ap, tstM_ap, andM_ap, orM_ap, notM_ap, ifM_ap, andVM_ap, orVM_ap, notVM_ap, immM_ap, imM_ap, ixT_ap, yesM_ap, mutM_ap, mvM_ap, clF_ap, clT_ap, bdName_ap, itemsM_ap, asgG_ap, envF_ap, envP_ap, callF_ap, callP_ap, ownAt0_ap, itemsD_lst, itemsD_tup, chM_ap, slM_ap, noM_ap, partM_ap, bdB_ap, bdTup_ap, bdList_cons, bdList_nil, List.length_cons, List.length_nil, List.set_cons_succ, List.set_cons_zero, List.getElem?_cons_zero, List.getElem?_cons_succ, List.map_cons, List.map_nil, List.cons_append, List.nil_append, List.replicate, Nat.zero_add, Nat.reduceAdd, Nat.reduceSub, Nat.reduceLT, Nat.reduceLeDiff, Nat.reduceEqDiff, if_true, if_false, reduceIte, Bool.false_eq_true, NxS_nx, NxS_ct, RetF_ret, RetP_ret, imm, Bool.not_true, Bool.not_false, hx.items, List.map_id]) trivial (by omega) fun d hd => by
    simp only [lstM_ap, tupM_ap, le_size, seqM_ap, nxM_ap, brM_ap, ctM_ap, retM_ap, retNM_ap, ifS_ap, asgF_ap, asgO_ap, dropM_ap, frzE_ap, frzM_ap, rdM_ap, vrM_ap, cM_ap, nilM_ap, consM_ap, consTM_ap, consNM_ap, opM_ap, tstM_ap, andM_ap, orM_ap, notM_ap, ifM_ap, andVM_ap, orVM_ap, notVM_ap, immM_ap, imM_ap, ixT_ap, yesM_ap, mutM_ap, mvM_ap, clF_ap, clT_ap, bdName_ap, itemsM_ap, asgG_ap, envF_ap, envP_ap, callF_ap, callP_ap, ownAt0_ap, itemsD_lst, itemsD_tup, chM_ap, slM_ap, noM_ap, partM_ap, bdB_ap, bdTup_ap, bdList_cons, bdList_nil, List.length_cons, List.length_nil, List.set_cons_succ, List.set_cons_zero, List.getElem?_cons_zero, List.getElem?_cons_succ, List.map_cons, List.map_nil, List.cons_append, List.nil_append, List.replicate, Nat.zero_add, Nat.reduceAdd, Nat.reduceSub, Nat.reduceLT, Nat.reduceLeDiff, Nat.reduceEqDiff, if_true, if_false, reduceIte, Bool.false_eq_true, NxS_nx, NxS_ct, RetF_ret, RetP_ret, imm, Bool.not_true, Bool.not_false, id, (he d hd).wh]
  rw [← hc]
theorem th_bad (sh : ShW x) (hb : ds.all wB = false) : Th x := by
  have i1 := isi_tp hx
  have h3 : (1 : Int) ≤ ds.length := by omega
  have h4 : (ds.length : Int) ≤ 7 := by omega
  refine ⟨sh, false, ?_, ?_⟩
  · have hof : f_is_turn_of [.int (ds.length : Nat), x] = .ret (.bl false) := by
      unfold f_is_turn_of m_is_turn_of
      have ha := allF_map wB ds
      simp only [lstM_ap, tupM_ap, le_size, seqM_ap, nxM_ap, brM_ap, ctM_ap, retM_ap, retNM_ap, ifS_ap, asgF_ap, asgO_ap, dropM_ap, frzE_ap, frzM_ap, rdM_ap, vrM_ap, cM_ap, nilM_ap, consM_ap, consTM_ap, consNM_ap, opM_ap, tstM_ap, andM_ap, orM_ap, notM_ap, ifM_ap, andVM_ap, orVM_ap, notVM_ap, immM_ap, imM_ap, ixT_ap, yesM_ap, mutM_ap, mvM_ap, clF_ap, clT_ap, bdName_ap, itemsM_ap, asgG_ap, envF_ap, envP_ap, callF_ap, callP_ap, ownAt0_ap, itemsD_lst, itemsD_tup, chM_ap, slM_ap, noM_ap, partM_ap, bdB_ap, bdTup_ap, bdList_cons, bdList_nil, List.length_cons, List.length_nil, List.set_cons_succ, List.set_cons_zero, List.getElem?_cons_zero, List.getElem?_cons_succ, List.map_cons, List.map_nil, List.cons_append, List.nil_append, List.replicate, Nat.zero_add, Nat.reduceAdd, Nat.reduceSub, Nat.reduceLT, Nat.reduceLeDiff, Nat.reduceEqDiff, if_true, if_false, reduceIte, Bool.false_eq_true, NxS_nx, NxS_ct, RetF_ret, RetP_ret, imm, Bool.not_true, Bool.not_false, i1, hx.len, ne_ownS, all_wh hx he h1 h7 (d1 := none) rfl, ha, hb]
    unfold f_is_turn m_is_turn
    simp only [lstM_ap, tupM_ap, le_size, seqM_ap, nxM_ap, brM_ap, ctM_ap, retM_ap, retNM_ap, ifS_ap, asgF_ap, asgO_ap, dropM_ap, frzE_ap, frzM_ap, rdM_ap, vrM_ap, cM_ap, nilM_ap, consM_ap, consTM_ap, consNM_ap, opM_ap, tstM_ap, andM_ap, orM_ap, notM_ap, ifM_ap, andVM_ap, orVM_ap, notVM_ap, immM_ap, imM_ap, ixT_ap, yesM_ap, mutM_ap, mvM_ap, clF_ap, clT_ap, bdName_ap, itemsM_ap, asgG_ap, envF_ap, envP_ap, callF_ap, callP_ap, ownAt0_ap, itemsD_lst, itemsD_tup, chM_ap, slM_ap, noM_ap, partM_ap, bdB_ap, bdTup_ap, bdList_cons, bdList_nil, List.length_cons, List.length_nil, List.set_cons_succ, List.set_cons_zero, List.getElem?_cons_zero, List.getElem?_cons_succ, List.map_cons, List.map_nil, List.cons_append, List.nil_append, List.replicate, Nat.zero_add, Nat.reduceAdd, Nat.reduceSub, Nat.reduceLT, Nat.reduceLeDiff, Nat.reduceEqDiff, if_true, if_false, reduceIte, Bool.false_eq_true, NxS_nx, NxS_ct, RetF_ret, RetP_ret, imm, Bool.not_true, Bool.not_false, i1, chM_ap, hx.len, h3, h4, decide_true, hof]
  · have h5 : ¬ ds.length = 0 := by omega
    have h6 : ¬ 7 < ds.length := by omega
    unfold f__law_due m__law_due
    simp only [lstM_ap, tupM_ap, le_size, seqM_ap, nxM_ap, brM_ap, ctM_ap, retM_ap, retNM_ap, ifS_ap, asgF_ap, asgO_ap, dropM_ap, frzE_ap, frzM_ap, rdM_ap, vrM_ap, cM_ap, nilM_ap, consM_ap, consTM_ap, consNM_ap, opM_ap, tstM_ap, andM_ap, orM_ap, notM_ap, ifM_ap, andVM_ap, orVM_ap, notVM_ap, immM_ap, imM_ap, ixT_ap, yesM_ap, mutM_ap, mvM_ap, clF_ap, clT_ap, bdName_ap, itemsM_ap, asgG_ap, envF_ap, envP_ap, callF_ap, callP_ap, ownAt0_ap, itemsD_lst, itemsD_tup, chM_ap, slM_ap, noM_ap, partM_ap, bdB_ap, bdTup_ap, bdList_cons, bdList_nil, List.length_cons, List.length_nil, List.set_cons_succ, List.set_cons_zero, List.getElem?_cons_zero, List.getElem?_cons_succ, List.map_cons, List.map_nil, List.cons_append, List.nil_append, List.replicate, Nat.zero_add, Nat.reduceAdd, Nat.reduceSub, Nat.reduceLT, Nat.reduceLeDiff, Nat.reduceEqDiff, if_true, if_false, reduceIte, Bool.false_eq_true, NxS_nx, NxS_ct, RetF_ret, RetP_ret, imm, Bool.not_true, Bool.not_false, i1, hx.len, eqF_n0, gtF_n7, h5, h6, decide_false, m__law_due_3]
    generalize hL : loopM _ _ _ _ = r
    have key := for_ret hL (dr := .bl false) (e0 := [some (false, x), none, none]) ds id (fun d => !wB d) (fun e => ∃ d1, e = [some (false, x), d1, none])
      (by simp only [lstM_ap, tupM_ap, le_size, seqM_ap, nxM_ap, brM_ap, ctM_ap, retM_ap, retNM_ap, ifS_ap, asgF_ap, asgO_ap, dropM_ap, frzE_ap, frzM_ap, rdM_ap, vrM_ap, cM_ap, nilM_ap, consM_ap, consTM_ap, consNM_ap, opM_ap, tstM_ap, andM_ap, orM_ap, notM_ap, ifM_ap, andVM_ap, orVM_ap, notVM_ap, immM_ap, imM_ap, ixT_ap, yesM_ap, mutM_ap, mvM_ap, clF_ap, clT_ap, bdName_ap, itemsM_ap, asgG_ap, envF_ap, envP_ap, callF_ap, callP_ap, ownAt0_ap, itemsD_lst, itemsD_tup, chM_ap, slM_ap, noM_ap, partM_ap, bdB_ap, bdTup_ap, bdList_cons, bdList_nil, List.length_cons, List.length_nil, List.set_cons_succ, List.set_cons_zero, List.getElem?_cons_zero, List.getElem?_cons_succ, List.map_cons, List.map_nil, List.cons_append, List.nil_append, List.replicate, Nat.zero_add, Nat.reduceAdd, Nat.reduceSub, Nat.reduceLT, Nat.reduceLeDiff, Nat.reduceEqDiff, if_true, if_false, reduceIte, Bool.false_eq_true, NxS_nx, NxS_ct, RetF_ret, RetP_ret, imm, Bool.not_true, Bool.not_false, hx.items, List.map_id]) ⟨_, rfl⟩ (by
      rintro d hd e ⟨d1, rfl⟩
      obtain ⟨bi, bb, j1, j2, j3⟩ := (he d hd).du
      rw [← j3]
      cases bi <;> cases bb <;> simp only [lstM_ap, tupM_ap, le_size, seqM_ap, nxM_ap, brM_ap, ctM_ap, retM_ap, retNM_ap, ifS_ap, asgF_ap, asgO_ap, dropM_ap, frzE_ap, frzM_ap, rdM_ap, vrM_ap, cM_ap, nilM_ap, consM_ap, consTM_ap, consNM_ap, opM_ap, tstM_ap, andM_ap, orM_ap, notM_ap, ifM_ap, andVM_ap, orVM_ap, notVM_ap, immM_ap, imM_ap, ixT_ap, yesM_ap, mutM_ap, mvM_ap, clF_ap, clT_ap, bdName_ap, itemsM_ap, asgG_ap, envF_ap, envP_ap, callF_ap, callP_ap, ownAt0_ap, itemsD_lst, itemsD_tup, chM_ap, slM_ap, noM_ap, partM_ap, bdB_ap, bdTup_ap, bdList_cons, bdList_nil, List.length_cons, List.length_nil, List.set_cons_succ, List.set_cons_zero, List.getElem?_cons_zero, List.getElem?_cons_succ, List.map_cons, List.map_nil, List.cons_append, List.nil_append, List.replicate, Nat.zero_add, Nat.reduceAdd, Nat.reduceSub, Nat.reduceLT, Nat.reduceLeDiff, Nat.reduceEqDiff, if_true, if_false, reduceIte, Bool.false_eq_true, NxS_nx, NxS_ct, RetF_ret, RetP_ret, imm, Bool.not_true, Bool.not_false, id, m__law_due_4, j1, j2, Bool.true_and, Bool.false_and, Bool.not_true, Bool.not_false] <;> first | exact ⟨_, rfl⟩ | exact ⟨_, _, rfl⟩)
    rcases key with ⟨_, e', rfl⟩ | ⟨hno, _⟩
    · simp only [lstM_ap, tupM_ap, le_size, seqM_ap, nxM_ap, brM_ap, ctM_ap, retM_ap, retNM_ap, ifS_ap, asgF_ap, asgO_ap, dropM_ap, frzE_ap, frzM_ap, rdM_ap, vrM_ap, cM_ap, nilM_ap, consM_ap, consTM_ap, consNM_ap, opM_ap, tstM_ap, andM_ap, orM_ap, notM_ap, ifM_ap, andVM_ap, orVM_ap, notVM_ap, immM_ap, imM_ap, ixT_ap, yesM_ap, mutM_ap, mvM_ap, clF_ap, clT_ap, bdName_ap, itemsM_ap, asgG_ap, envF_ap, envP_ap, callF_ap, callP_ap, ownAt0_ap, itemsD_lst, itemsD_tup, chM_ap, slM_ap, noM_ap, partM_ap, bdB_ap, bdTup_ap, bdList_cons, bdList_nil, List.length_cons, List.length_nil, List.set_cons_succ, List.set_cons_zero, List.getElem?_cons_zero, List.getElem?_cons_succ, List.map_cons, List.map_nil, List.cons_append, List.nil_append, List.replicate, Nat.zero_add, Nat.reduceAdd, Nat.reduceSub, Nat.reduceLT, Nat.reduceLeDiff, Nat.reduceEqDiff, if_true, if_false, reduceIte, Bool.false_eq_true, NxS_nx, NxS_ct, RetF_ret, RetP_ret, imm, Bool.not_true, Bool.not_false]
    · have : ds.all wB = true := List.all_eq_true.mpr fun d hd => by
        have := List.any_eq_false.mp hno d hd
        simpa using this
      rw [this] at hb
      cases hb
end
/-! ### tuples of whole numbers -/
theorem intsOf_ints : ∀ l : List Int, intsOf (l.map D.int) = some l
  | [] => rfl
  | x :: l => by rw [List.map_cons, intsOf, intsOf_ints l]
theorem pyl_ints (l : List Int) : PyL 0 (l.map D.int) (l.map PyData.int) := .map fun i _ => .int i
theorem eq_ints (a b : List Int) : eqF [.lst (a.map D.int), .lst (b.map D.int)] = some (.bl (decide (a = b))) := by
  have he : ∀ a b : List Int, PyData.eqvAll (a.map PyData.int) (b.map PyData.int) = decide (a = b) := by
    intro a
    induction a with
    | nil => intro b; cases b <;> simp [PyData.eqvAll]
    | cons x a ih =>
      intro b
      cases b with
      | nil => simp [PyData.eqvAll]
      | cons y b =>
        simp only [List.map_cons, PyData.eqvAll, ih b, PyData.eqv]
        by_cases h : x = y <;> simp [h]
  rw [eqF_ap, eqP_of (.lst (pyl_ints a)) (.lst (pyl_ints b))]
  simp only [PyData.eqv, he, Option.map_some]
theorem count_ints (l : List Int) (k : Nat) : countZF [.tz (l.map D.int), .int (k : Nat)] = some (.int (l.count (k : Int) : Nat)) := by
  have h1 := pyl_ints l
  have h2 := Py.int (k : Int)
  rw [countZ_ap h1.to h2.to ((Py.tup h1).shaped (by decide)) (h2.shaped (by decide))]
  congr 3
  rw [List.countP_map]
  unfold List.count
  refine List.countP_congr fun i _ => ?_
  simp [PyData.eqv]
theorem perm_of_sub : ∀ {a l : List Int}, a.Nodup → a ⊆ l → a.length = l.length → a.Perm l
  | [], l, _, _, h => by
    have : l = [] := List.eq_nil_of_length_eq_zero h.symm
    rw [this]
  | x :: a, l, nd, s, h => by
    obtain ⟨hx, nd'⟩ := List.nodup_cons.mp nd
    have hm : x ∈ l := s List.mem_cons_self
    have p := List.perm_cons_erase hm
    have hl := p.length_eq
    rw [List.length_cons] at hl h
    refine (List.Perm.cons x (perm_of_sub nd' (fun y hy => ?_) (by omega))).trans p.symm
    exact (List.mem_erase_of_ne (show y ≠ x from fun e => hx (by rw [← e]; exact hy))).mpr (s (List.mem_cons_of_mem _ hy))
theorem perm_count {l : List Int} : isort l = zi (List.range l.length) ↔ ((List.range l.length).filter fun (k : Nat) => !decide (l.count (k : Int) = 1)) = [] := by
  have hz : (zi (List.range l.length)).Nodup := by
    unfold zi
    exact nodup_map List.nodup_range fun a _ b _ e => by have e' : (a : Int) = b := e; omega
  rw [List.filter_eq_nil_iff]
  constructor
  · intro e k hk
    have p : (zi (List.range l.length)).Perm l := by
      rw [← e]
      exact List.mergeSort_perm _ _
    have hm : (k : Int) ∈ zi (List.range l.length) := List.mem_map.mpr ⟨k, hk, rfl⟩
    have := p.count_eq (k : Int)
    rw [hz.count, if_pos hm] at this
    rw [← this]
    simp
  · intro h
    have hsub : zi (List.range l.length) ⊆ l := fun z hz => by
      obtain ⟨k, hk, rfl⟩ := List.mem_map.mp hz
      have := h k hk
      have h1 : l.count (k : Int) = 1 := by simpa using this
      exact List.count_pos_iff.mp (by omega)
    have p : (zi (List.range l.length)).Perm l := perm_of_sub hz hsub (by unfold zi; rw [List.length_map, List.length_range])
    exact (isort_of p (by
      unfold zi
      exact List.pairwise_map.mpr (List.Pairwise.imp (fun {a b} h => by omega) List.pairwise_le_range))).symm
theorem th_int {l : List Int} (h1 : 1 ≤ l.length) (h7 : l.length ≤ 7) (sh : ShW (.tz (l.map D.int))) : Th (.tz (l.map D.int)) := by
  have hx : IsTp (.tz (l.map D.int)) (l.map D.int) := .inr rfl
  have hlen : (l.map D.int).length = l.length := List.length_map ..
  have he : ∀ d ∈ l.map D.int, El d := fun d hd => by
    obtain ⟨i, _, rfl⟩ := List.mem_map.mp hd
    exact el_int i
  have hall : (l.map D.int).all wB = true := List.all_eq_true.mpr fun d hd => by
    obtain ⟨i, _, rfl⟩ := List.mem_map.mp hd
    rfl
  have i1 := isi_tp hx
  have h3 : (1 : Int) ≤ l.length := by omega
  have h4 : (l.length : Int) ≤ 7 := by omega
  have hl : lenF [.tz (l.map D.int)] = some (.int (l.length : Nat)) := by rw [hx.len, hlen]
  have hrg : lstRg1F [.int (l.length : Nat)] = some (.lst ((zi (List.range l.length)).map D.int)) := by
    rw [lstRg1_ok (show l.length < 1000000 by omega)]
    unfold lstN ofN zi
    rw [List.map_map]
    rfl
  have hso : sortTZF [.tz (l.map D.int)] = some (.lst ((isort l).map D.int)) := by
    unfold sortTZF
    dsimp only
    rw [intsOf_ints]
    dsimp only
    rw [if_pos (by omega)]
  refine ⟨sh, decide (isort l = zi (List.range l.length)), ?_, ?_⟩
  · have hof : f_is_turn_of [.int (l.length : Nat), .tz (l.map D.int)] = .ret (.bl (decide (isort l = zi (List.range l.length)))) := by
      unfold f_is_turn_of m_is_turn_of
      have ha := allF_map wB (l.map D.int)
      have hw := all_wh hx he (by omega) (by omega) (d0 := some (false, .int (l.length : Nat))) (d1 := none) rfl
      simp only [lstM_ap, tupM_ap, le_size, seqM_ap, nxM_ap, brM_ap, ctM_ap, retM_ap, retNM_ap, ifS_ap, asgF_ap, asgO_ap, dropM_ap, frzE_ap, frzM_ap, rdM_ap, vrM_ap, cM_ap, nilM_ap, consM_ap, consTM_ap, consNM_ap, opM_ap, tstM_ap, andM_ap, orM_ap, notM_ap, ifM_ap, andVM_ap, orVM_ap, notVM_ap, immM_ap, imM_ap, ixT_ap, yesM_ap, mutM_ap, mvM_ap, clF_ap, clT_ap, bdName_ap, itemsM_ap, asgG_ap, envF_ap, envP_ap, callF_ap, callP_ap, ownAt0_ap, itemsD_lst, itemsD_tup, chM_ap, slM_ap, noM_ap, partM_ap, bdB_ap, bdTup_ap, bdList_cons, bdList_nil, List.length_cons, List.length_nil, List.set_cons_succ, List.set_cons_zero, List.getElem?_cons_zero, List.getElem?_cons_succ, List.map_cons, List.map_nil, List.cons_append, List.nil_append, List.replicate, Nat.zero_add, Nat.reduceAdd, Nat.reduceSub, Nat.reduceLT, Nat.reduceLeDiff, Nat.reduceEqDiff, if_true, if_false, reduceIte, Bool.false_eq_true, NxS_nx, NxS_ct, RetF_ret, RetP_ret, imm, Bool.not_true, Bool.not_false, i1, hl, ne_ownS, hw, ha, hall, m_is_turn_of_3, hso, hrg, eq_ints]
    unfold f_is_turn m_is_turn
    simp only [lstM_ap, tupM_ap, le_size, seqM_ap, nxM_ap, brM_ap, ctM_ap, retM_ap, retNM_ap, ifS_ap, asgF_ap, asgO_ap, dropM_ap, frzE_ap, frzM_ap, rdM_ap, vrM_ap, cM_ap, nilM_ap, consM_ap, consTM_ap, consNM_ap, opM_ap, tstM_ap, andM_ap, orM_ap, notM_ap, ifM_ap, andVM_ap, orVM_ap, notVM_ap, immM_ap, imM_ap, ixT_ap, yesM_ap, mutM_ap, mvM_ap, clF_ap, clT_ap, bdName_ap, itemsM_ap, asgG_ap, envF_ap, envP_ap, callF_ap, callP_ap, ownAt0_ap, itemsD_lst, itemsD_tup, chM_ap, slM_ap, noM_ap, partM_ap, bdB_ap, bdTup_ap, bdList_cons, bdList_nil, List.length_cons, List.length_nil, List.set_cons_succ, List.set_cons_zero, List.getElem?_cons_zero, List.getElem?_cons_succ, List.map_cons, List.map_nil, List.cons_append, List.nil_append, List.replicate, Nat.zero_add, Nat.reduceAdd, Nat.reduceSub, Nat.reduceLT, Nat.reduceLeDiff, Nat.reduceEqDiff, if_true, if_false, reduceIte, Bool.false_eq_true, NxS_nx, NxS_ct, RetF_ret, RetP_ret, imm, Bool.not_true, Bool.not_false, i1, chM_ap, hl, h3, h4, decide_true, hof]
  · have h5 : ¬ l.length = 0 := by omega
    have h6 : ¬ 7 < l.length := by omega
    unfold f__law_due m__law_due
    simp only [lstM_ap, tupM_ap, le_size, seqM_ap, nxM_ap, brM_ap, ctM_ap, retM_ap, retNM_ap, ifS_ap, asgF_ap, asgO_ap, dropM_ap, frzE_ap, frzM_ap, rdM_ap, vrM_ap, cM_ap, nilM_ap, consM_ap, consTM_ap, consNM_ap, opM_ap, tstM_ap, andM_ap, orM_ap, notM_ap, ifM_ap, andVM_ap, orVM_ap, notVM_ap, immM_ap, imM_ap, ixT_ap, yesM_ap, mutM_ap, mvM_ap, clF_ap, clT_ap, bdName_ap, itemsM_ap, asgG_ap, envF_ap, envP_ap, callF_ap, callP_ap, ownAt0_ap, itemsD_lst, itemsD_tup, chM_ap, slM_ap, noM_ap, partM_ap, bdB_ap, bdTup_ap, bdList_cons, bdList_nil, List.length_cons, List.length_nil, List.set_cons_succ, List.set_cons_zero, List.getElem?_cons_zero, List.getElem?_cons_succ, List.map_cons, List.map_nil, List.cons_append, List.nil_append, List.replicate, Nat.zero_add, Nat.reduceAdd, Nat.reduceSub, Nat.reduceLT, Nat.reduceLeDiff, Nat.reduceEqDiff, if_true, if_false, reduceIte, Bool.false_eq_true, NxS_nx, NxS_ct, RetF_ret, RetP_ret, imm, Bool.not_true, Bool.not_false, i1, hl, eqF_n0, gtF_n7, h5, h6, decide_false, m__law_due_3]
    generalize hL : loopM _ _ _ _ = r
    obtain ⟨e', rfl, d1, rfl⟩ := for_items hL l D.int (fun _ e => ∃ d1, e = [some (false, .tz (l.map D.int)), d1, none])
      (by simp only [lstM_ap, tupM_ap, le_size, seqM_ap, nxM_ap, brM_ap, ctM_ap, retM_ap, retNM_ap, ifS_ap, asgF_ap, asgO_ap, dropM_ap, frzE_ap, frzM_ap, rdM_ap, vrM_ap, cM_ap, nilM_ap, consM_ap, consTM_ap, consNM_ap, opM_ap, tstM_ap, andM_ap, orM_ap, notM_ap, ifM_ap, andVM_ap, orVM_ap, notVM_ap, immM_ap, imM_ap, ixT_ap, yesM_ap, mutM_ap, mvM_ap, clF_ap, clT_ap, bdName_ap, itemsM_ap, asgG_ap, envF_ap, envP_ap, callF_ap, callP_ap, ownAt0_ap, itemsD_lst, itemsD_tup, chM_ap, slM_ap, noM_ap, partM_ap, bdB_ap, bdTup_ap, bdList_cons, bdList_nil, List.length_cons, List.length_nil, List.set_cons_succ, List.set_cons_zero, List.getElem?_cons_zero, List.getElem?_cons_succ, List.map_cons, List.map_nil, List.cons_append, List.nil_append, List.replicate, Nat.zero_add, Nat.reduceAdd, Nat.reduceSub, Nat.reduceLT, Nat.reduceLeDiff, Nat.reduceEqDiff, if_true, if_false, reduceIte, Bool.false_eq_true, NxS_nx, NxS_ct, RetF_ret, RetP_ret, imm, Bool.not_true, Bool.not_false, hx.items]) ⟨_, rfl⟩ (by
      rintro dn i rest e _ ⟨d1, rfl⟩
      have j1 : isiF .int [.int i, .opq (.ty "int")] = some (.bl true) := rfl
      have j2 : isiF .bool [.int i, .opq (.ty "bool")] = some (.bl false) := rfl
      simp only [lstM_ap, tupM_ap, le_size, seqM_ap, nxM_ap, brM_ap, ctM_ap, retM_ap, retNM_ap, ifS_ap, asgF_ap, asgO_ap, dropM_ap, frzE_ap, frzM_ap, rdM_ap, vrM_ap, cM_ap, nilM_ap, consM_ap, consTM_ap, consNM_ap, opM_ap, tstM_ap, andM_ap, orM_ap, notM_ap, ifM_ap, andVM_ap, orVM_ap, notVM_ap, immM_ap, imM_ap, ixT_ap, yesM_ap, mutM_ap, mvM_ap, clF_ap, clT_ap, bdName_ap, itemsM_ap, asgG_ap, envF_ap, envP_ap, callF_ap, callP_ap, ownAt0_ap, itemsD_lst, itemsD_tup, chM_ap, slM_ap, noM_ap, partM_ap, bdB_ap, bdTup_ap, bdList_cons, bdList_nil, List.length_cons, List.length_nil, List.set_cons_succ, List.set_cons_zero, List.getElem?_cons_zero, List.getElem?_cons_succ, List.map_cons, List.map_nil, List.cons_append, List.nil_append, List.replicate, Nat.zero_add, Nat.reduceAdd, Nat.reduceSub, Nat.reduceLT, Nat.reduceLeDiff, Nat.reduceEqDiff, if_true, if_false, reduceIte, Bool.false_eq_true, NxS_nx, NxS_ct, RetF_ret, RetP_ret, imm, Bool.not_true, Bool.not_false, m__law_due_4, j1, j2]
      exact ⟨_, rfl⟩)
    simp only [lstM_ap, tupM_ap, le_size, seqM_ap, nxM_ap, brM_ap, ctM_ap, retM_ap, retNM_ap, ifS_ap, asgF_ap, asgO_ap, dropM_ap, frzE_ap, frzM_ap, rdM_ap, vrM_ap, cM_ap, nilM_ap, consM_ap, consTM_ap, consNM_ap, opM_ap, tstM_ap, andM_ap, orM_ap, notM_ap, ifM_ap, andVM_ap, orVM_ap, notVM_ap, immM_ap, imM_ap, ixT_ap, yesM_ap, mutM_ap, mvM_ap, clF_ap, clT_ap, bdName_ap, itemsM_ap, asgG_ap, envF_ap, envP_ap, callF_ap, callP_ap, ownAt0_ap, itemsD_lst, itemsD_tup, chM_ap, slM_ap, noM_ap, partM_ap, bdB_ap, bdTup_ap, bdList_cons, bdList_nil, List.length_cons, List.length_nil, List.set_cons_succ, List.set_cons_zero, List.getElem?_cons_zero, List.getElem?_cons_succ, List.map_cons, List.map_nil, List.cons_append, List.nil_append, List.replicate, Nat.zero_add, Nat.reduceAdd, Nat.reduceSub, Nat.reduceLT, Nat.reduceLeDiff, Nat.reduceEqDiff, if_true, if_false, reduceIte, Bool.false_eq_true, NxS_nx, NxS_ct, RetF_ret, RetP_ret, imm, Bool.not_true, Bool.not_false, m__law_due_6]
    generalize hC : lcM _ _ _ _ _ _ = rc
    have hc := lc_rgfo hC (n := l.length) (fun k => !decide (l.count (k : Int) = 1)) (fun k => .int (k : Nat)) (by simp only [lstM_ap, tupM_ap, le_size, seqM_ap, nxM_ap, brM_ap, ctM_ap, retM_ap, retNM_ap, ifS_ap, asgF_ap, asgO_ap, dropM_ap, frzE_ap, frzM_ap, rdM_ap, vrM_ap, cM_ap, nilM_ap, consM_ap, consTM_ap, consNM_ap, opM_ap, tstM_ap, andM_ap, orM_ap, notM_ap, ifM_ap, andVM_ap, orVM_ap, notVM_ap, immM_ap, imM_ap, ixT_ap, yesM_ap, mutM_ap, mvM_ap, clF_ap, clT_ap, bdName_ap, itemsM_ap, asgG_ap, envF_ap, envP_ap, callF_ap, callP_ap, ownAt0_ap, itemsD_lst, itemsD_tup, chM_ap, slM_ap, noM_ap, partM_ap, bdB_ap, bdTup_ap, bdList_cons, bdList_nil, List.length_cons, List.length_nil, List.set_cons_succ, List.set_cons_zero, List.getElem?_cons_zero, List.getElem?_cons_succ, List.map_cons, List.map_nil, List.cons_append, List.nil_append, List.replicate, Nat.zero_add, Nat.reduceAdd, Nat.reduceSub, Nat.reduceLT, Nat.reduceLeDiff, Nat.reduceEqDiff, if_true, if_false, reduceIte, Bool.false_eq_true, NxS_nx, NxS_ct, RetF_ret, RetP_ret, imm, Bool.not_true, Bool.not_false, hl]) trivial (by omega) fun k hk => by
      have hne : neF [.int (l.count (k : Int) : Nat), .int 1] = some (.bl (!decide (l.count (k : Int) = 1))) := by
        rw [show (1 : Int) = ((1 : Nat) : Int) from rfl, neF_int]
        simp only [Int.natCast_inj]
      exact ⟨by simp only [lstM_ap, tupM_ap, le_size, seqM_ap, nxM_ap, brM_ap, ctM_ap, retM_ap, retNM_ap, ifS_ap, asgF_ap, asgO_ap, dropM_ap, frzE_ap, frzM_ap, rdM_ap, vrM_ap, cM_ap, nilM_ap, consM_ap, consTM_ap, consNM_ap, opM_ap, tstM_ap, andM_ap, orM_ap, notM_ap, ifM_ap, andVM_ap, orVM_ap, notVM_ap, immM_ap, imM_ap, ixT_ap, yesM_ap, mutM_ap, mvM_ap, clF_ap, clT_ap, bdName_ap, itemsM_ap, asgG_ap, envF_ap, envP_ap, callF_ap, callP_ap, ownAt0_ap, itemsD_lst, itemsD_tup, chM_ap, slM_ap, noM_ap, partM_ap, bdB_ap, bdTup_ap, bdList_cons, bdList_nil, List.length_cons, List.length_nil, List.set_cons_succ, List.set_cons_zero, List.getElem?_cons_zero, List.getElem?_cons_succ, List.map_cons, List.map_nil, List.cons_append, List.nil_append, List.replicate, Nat.zero_add, Nat.reduceAdd, Nat.reduceSub, Nat.reduceLT, Nat.reduceLeDiff, Nat.reduceEqDiff, if_true, if_false, reduceIte, Bool.false_eq_true, NxS_nx, NxS_ct, RetF_ret, RetP_ret, imm, Bool.not_true, Bool.not_false, bmZM_ap, count_ints, hne], fun _ => by simp only [lstM_ap, tupM_ap, le_size, seqM_ap, nxM_ap, brM_ap, ctM_ap, retM_ap, retNM_ap, ifS_ap, asgF_ap, asgO_ap, dropM_ap, frzE_ap, frzM_ap, rdM_ap, vrM_ap, cM_ap, nilM_ap, consM_ap, consTM_ap, consNM_ap, opM_ap, tstM_ap, andM_ap, orM_ap, notM_ap, ifM_ap, andVM_ap, orVM_ap, notVM_ap, immM_ap, imM_ap, ixT_ap, yesM_ap, mutM_ap, mvM_ap, clF_ap, clT_ap, bdName_ap, itemsM_ap, asgG_ap, envF_ap, envP_ap, callF_ap, callP_ap, ownAt0_ap, itemsD_lst, itemsD_tup, chM_ap, slM_ap, noM_ap, partM_ap, bdB_ap, bdTup_ap, bdList_cons, bdList_nil, List.length_cons, List.length_nil, List.set_cons_succ, List.set_cons_zero, List.getElem?_cons_zero, List.getElem?_cons_succ, List.map_cons, List.map_nil, List.cons_append, List.nil_append, List.replicate, Nat.zero_add, Nat.reduceAdd, Nat.reduceSub, Nat.reduceLT, Nat.reduceLeDiff, Nat.reduceEqDiff, if_true, if_false, reduceIte, Bool.false_eq_true, NxS_nx, NxS_ct, RetF_ret, RetP_ret, imm, Bool.not_true, Bool.not_false]⟩
    subst hc
    have hm : D.lst (((List.range l.length).filter fun (k : Nat) => !decide (l.count (k : Int) = 1)).map fun (k : Nat) => D.int (k : Nat)) = lstN ((List.range l.length).filter fun (k : Nat) => !decide (l.count (k : Int) = 1)) := rfl
    have hq := eqF_lstN ((List.range l.length).filter fun (k : Nat) => !decide (l.count (k : Int) = 1)) []
    rw [show lstN [] = D.lst [] from rfl] at hq
    simp only [lstM_ap, tupM_ap, le_size, seqM_ap, nxM_ap, brM_ap, ctM_ap, retM_ap, retNM_ap, ifS_ap, asgF_ap, asgO_ap, dropM_ap, frzE_ap, frzM_ap, rdM_ap, vrM_ap, cM_ap, nilM_ap, consM_ap, consTM_ap, consNM_ap, opM_ap, tstM_ap, andM_ap, orM_ap, notM_ap, ifM_ap, andVM_ap, orVM_ap, notVM_ap, immM_ap, imM_ap, ixT_ap, yesM_ap, mutM_ap, mvM_ap, clF_ap, clT_ap, bdName_ap, itemsM_ap, asgG_ap, envF_ap, envP_ap, callF_ap, callP_ap, ownAt0_ap, itemsD_lst, itemsD_tup, chM_ap, slM_ap, noM_ap, partM_ap, bdB_ap, bdTup_ap, bdList_cons, bdList_nil, List.length_cons, List.length_nil, List.set_cons_succ, List.set_cons_zero, List.getElem?_cons_zero, List.getElem?_cons_succ, List.map_cons, List.map_nil, List.cons_append, List.nil_append, List.replicate, Nat.zero_add, Nat.reduceAdd, Nat.reduceSub, Nat.reduceLT, Nat.reduceLeDiff, Nat.reduceEqDiff, if_true, if_false, reduceIte, Bool.false_eq_true, NxS_nx, NxS_ct, RetF_ret, RetP_ret, imm, Bool.not_true, Bool.not_false, hm, hq]
    congr 2
    exact decide_eq_decide.mpr perm_count.symm
end MM

set_option Elab.async false
set_option linter.all false
set_option maxRecDepth 100000
set_option maxHeartbeats 4000000
noncomputable section
namespace MM
open PySem PySem.Spec PyProof.Rows L2

/-! ### things that are shown -/
theorem sh_tz {k B : Nat} {ds : List D} (h : ShD k B (.tup ds)) : ShD k B (.tz ds) := by
  obtain ⟨p, h1, h2⟩ := h
  refine ⟨p, ⟨?_, h1.can, h1.dep⟩, h2⟩
  have := h1.to
  simp only [toPy] at this ⊢
  exact this
structure Ok1 (d : D) : Prop where
  el : El d
  sh : ShD 1 60 d
theorem ok_int {i : Int} (h : i.natAbs < 10 ^ 31) : Ok1 (.int i) := ⟨el_int i, (sh_int h).mono (by omega) (by omega)⟩
theorem ok_nat {x : Nat} (h : x < 1024) : Ok1 (.int (x : Nat)) := ok_int (by omega)
theorem sh_tzs {ds : List D} (h : ∀ d ∈ ds, Ok1 d) (hl : ds.length ≤ 20) : ShD 2 1220 (.tz ds) := sh_tz (sh_tup (k := 1) (B := 60) (N := 20) (fun d hd => (h d hd).sh) hl)
theorem th_tz {ds : List D} (h : ∀ d ∈ ds, Ok1 d) (hl : ds.length ≤ 20) : Th (.tz ds) := by
  have sh : ShW (.tz ds) := (sh_tzs h hl).whole (by omega) (by omega)
  by_cases c : ds.length = 0 ∨ 7 < ds.length
  · exact th_len (.inr rfl) sh c
  · by_cases c2 : ds.all wB = true
    · have : ∃ l : List Int, ds = l.map D.int := by
        have key : ∀ ds : List D, ds.all wB = true → ∃ l : List Int, ds = l.map D.int := by
          intro ds
          induction ds with
          | nil => exact fun _ => ⟨[], rfl⟩
          | cons d ds ih =>
            intro hh
            rw [List.all_cons, Bool.and_eq_true] at hh
            obtain ⟨l, e⟩ := ih hh.2
            cases d with
            | int i => exact ⟨i :: l, by rw [e]; rfl⟩
            | _ => exact absurd hh.1 Bool.false_ne_true
        exact key ds c2
      obtain ⟨l, rfl⟩ := this
      rw [List.length_map] at c
      exact th_int (by omega) (by omega) sh
    · exact th_bad (.inr rfl) (fun d hd => (h d hd).el) (by omega) (by omega) sh (by simpa using c2)
theorem cutG_sub {α : Type} {ds : List α} {a b : Option Int} : (cutG ds a b).Sublist ds := (List.take_sublist _ _).trans (List.drop_sublist _ _)
theorem extendF_two {ds xs : List D} (h : ds.length + xs.length < 1000000) : extendF ds [.lst xs] = some (ds ++ xs, .non) := if_pos (by rw [sizeLine_eq]; omega)
theorem catZ_ok {a b : List D} (h : a.length + b.length < 1000) : catZF [.tz a, .tz b] = some (.tz (a ++ b)) := if_pos (by rw [sizeLine_eq]; omega)
theorem tupZ1_ok {x : D} : tupZF [x] = some (.tz [x]) := if_pos (by rw [sizeLine_eq]; simp)
theorem addF_two {a b : List D} (h : a.length + b.length < 1000000) : addF [.lst a, .lst b] = some (.lst (a ++ b)) := if_pos (by rw [sizeLine_eq]; omega)
/-! ### all things that differ from a turn at one place -/
theorem near_ok {n : Nat} {t : List Nat} (T : Turn n t) (h0 : 0 < n) (h8 : n < 8) : ∃ L, f__law_near [tupZN t] = .ret (.lst L) ∧ (∀ d ∈ L, Th d) ∧ L.length ≤ 22 * n := by
  have hlen : lenF [tupZN t] = some (.int (n : Nat)) := by rw [(isTp_Z t).len, ofN_length, T.len]
  have okt : ∀ d ∈ ofN t, Ok1 d := fun d hd => by
    obtain ⟨x, hx, rfl⟩ := List.mem_map.mp hd
    exact ok_nat (by have := T.mem.mp hx; omega)
  have hln : (ofN t).length = n := by rw [ofN_length, T.len]
  have cl : ∀ a b, (cutG (ofN t) a b).length ≤ 7 := fun a b => by
    have := (cutG_sub (ds := ofN t) (a := a) (b := b)).length_le
    omega
  have ck : ∀ a b, ∀ d ∈ cutG (ofN t) a b, Ok1 d := fun a b d hd => okt d (cutG_sub.subset hd)
  have app : ∀ {a b : List D}, (∀ d ∈ a, Ok1 d) → (∀ d ∈ b, Ok1 d) → ∀ d ∈ a ++ b, Ok1 d := fun ha hb d hd => (List.mem_append.mp hd).elim (ha d) (hb d)
  have one : ∀ {x : D}, Ok1 x → ∀ d ∈ [x], Ok1 d := fun hx d hd => by rw [List.mem_singleton.mp hd]; exact hx
  unfold f__law_near m__law_near
  simp only [lstM_ap, tupM_ap, le_size, seqM_ap, nxM_ap, brM_ap, ctM_ap, retM_ap, retNM_ap, ifS_ap, asgF_ap, asgO_ap, dropM_ap, frzE_ap, frzM_ap, rdM_ap, vrM_ap, cM_ap, nilM_ap, consM_ap, consTM_ap, consNM_ap, opM_ap, tstM_ap, andM_ap, orM_ap, notM_ap, ifM_ap, andVM_ap, orVM_ap, notVM_ap, immM_ap, imM_ap, ixT_ap, yesM_ap, mutM_ap, mvM_ap, clF_ap, clT_ap, bdName_ap, itemsM_ap, asgG_ap, envF_ap, envP_ap, callF_ap, callP_ap, ownAt0_ap, itemsD_lst, itemsD_tup, chM_ap, slM_ap, noM_ap, partM_ap, bdB_ap, bdTup_ap, bdList_cons, bdList_nil, List.length_cons, List.length_nil, List.set_cons_succ, List.set_cons_zero, List.getElem?_cons_zero, List.getElem?_cons_succ, List.map_cons, List.map_nil, List.cons_append, List.nil_append, List.replicate, Nat.zero_add, Nat.reduceAdd, Nat.reduceSub, Nat.reduceLT, Nat.reduceLeDiff, Nat.reduceEqDiff, if_true, if_false, reduceIte, Bool.false_eq_true, NxS_nx, NxS_ct, RetF_ret, RetP_ret, imm, Bool.not_true, Bool.not_false, le_size (show 0 < 1000000 by omega)]
  generalize hL : loopM _ _ _ _ = r
  obtain ⟨e', rfl, L, d2, d3, rfl, hT, hl⟩ := for_rg hL (n := n) (fun i e => ∃ (L : List D) (d2 d3 : Option (Bool × D)), e = [some (false, tupZN t), some (true, .lst L), d2, d3, none] ∧ (∀ d ∈ L, Th d) ∧ L.length ≤ 22 * i)
    (by simp only [lstM_ap, tupM_ap, le_size, seqM_ap, nxM_ap, brM_ap, ctM_ap, retM_ap, retNM_ap, ifS_ap, asgF_ap, asgO_ap, dropM_ap, frzE_ap, frzM_ap, rdM_ap, vrM_ap, cM_ap, nilM_ap, consM_ap, consTM_ap, consNM_ap, opM_ap, tstM_ap, andM_ap, orM_ap, notM_ap, ifM_ap, andVM_ap, orVM_ap, notVM_ap, immM_ap, imM_ap, ixT_ap, yesM_ap, mutM_ap, mvM_ap, clF_ap, clT_ap, bdName_ap, itemsM_ap, asgG_ap, envF_ap, envP_ap, callF_ap, callP_ap, ownAt0_ap, itemsD_lst, itemsD_tup, chM_ap, slM_ap, noM_ap, partM_ap, bdB_ap, bdTup_ap, bdList_cons, bdList_nil, List.length_cons, List.length_nil, List.set_cons_succ, List.set_cons_zero, List.getElem?_cons_zero, List.getElem?_cons_succ, List.map_cons, List.map_nil, List.cons_append, List.nil_append, List.replicate, Nat.zero_add, Nat.reduceAdd, Nat.reduceSub, Nat.reduceLT, Nat.reduceLeDiff, Nat.reduceEqDiff, if_true, if_false, reduceIte, Bool.false_eq_true, NxS_nx, NxS_ct, RetF_ret, RetP_ret, imm, Bool.not_true, Bool.not_false, hlen]) (by omega) ⟨[], _, _, rfl, (fun _ h => nomatch h), by simp⟩ (by
    rintro a ha e ⟨L, d2, d3, rfl, hT, hl⟩
    have hta : t.getD a 0 < n := T.lt ha
    have r1 : lstRg2F [.int (-1), .int 9] = some (.lst (rangeL (-1) 10)) := if_pos (by unfold RgOk; omega)
    have r2 : negF [.int 1] = some (.int (-1)) := rfl
    have r3 : powF [.int 10, .int 29] = some (.int 100000000000000000000000000000) := if_pos (by decide)
    have r4 : negF [.int 100000000000000000000000000000] = some (.int (-100000000000000000000000000000)) := rfl
    have r5 : ixF [tupZN t, .int (a : Nat)] = some (.int (t.getD a 0 : Nat)) := by
      rw [(isTp_Z t).ix]
      exact ix_tupN (by rw [T.len]; exact ha)
    generalize hE : rangeL (-1) 10 ++ [D.bl true, .bl false, .str "0", .non, .tup [.int (t.getD a 0 : Nat)], .lst [.int (t.getD a 0 : Nat)], .int 100000000000000000000000000000, .int (-100000000000000000000000000000)] = E
    have hEl : E.length = 18 := by rw [← hE]; rfl
    have hEo : ∀ d ∈ E, Ok1 d := fun d hd => by
      rw [← hE] at hd
      rcases List.mem_append.mp hd with h | h
      · obtain ⟨i, hi, rfl⟩ := List.mem_map.mp h
        have := List.mem_range.mp hi
        exact ok_int (by omega)
      · have hsn := sh_nats (l := [t.getD a 0]) fun x hx => by
          rw [List.mem_singleton.mp hx]
          omega
        simp only [List.mem_cons, List.not_mem_nil, or_false] at h
        rcases h with rfl | rfl | rfl | rfl | rfl | rfl | rfl | rfl
        · exact ⟨el_bl _, (sh_bl _).mono (by omega) (by omega)⟩
        · exact ⟨el_bl _, (sh_bl _).mono (by omega) (by omega)⟩
        · exact ⟨el_str _, (sh_str (N := 1) (lowT_dec (by decide +kernel)) (by decide)).mono (by omega) (by omega)⟩
        · exact ⟨el_non, sh_non.mono (by omega) (by omega)⟩
        · exact ⟨el_tup _, (sh_tup (k := 0) (B := 0) (N := 1) hsn (Nat.le_refl _)).mono (by omega) (by omega)⟩
        · exact ⟨el_lst _, (sh_lst (k := 0) (B := 0) (N := 1) hsn (Nat.le_refl _)).mono (by omega) (by omega)⟩
        · exact ok_int (by decide)
        · exact ok_int (by decide)
    have r6 : addF [.lst (rangeL (-1) 10), .lst [D.bl true, .bl false, .str "0", .non, .tup [.int (t.getD a 0 : Nat)], .lst [.int (t.getD a 0 : Nat)], .int 100000000000000000000000000000, .int (-100000000000000000000000000000)]] = some (.lst E) := by
      rw [← hE]
      exact addF_two (by show 10 + 8 < 1000000; omega)
    have r7 : addF [.int (a : Nat), .int 1] = some (.int ((a : Int) + 1)) := rfl
    simp only [lstM_ap, tupM_ap, le_size, seqM_ap, nxM_ap, brM_ap, ctM_ap, retM_ap, retNM_ap, ifS_ap, asgF_ap, asgO_ap, dropM_ap, frzE_ap, frzM_ap, rdM_ap, vrM_ap, cM_ap, nilM_ap, consM_ap, consTM_ap, consNM_ap, opM_ap, tstM_ap, andM_ap, orM_ap, notM_ap, ifM_ap, andVM_ap, orVM_ap, notVM_ap, immM_ap, imM_ap, ixT_ap, yesM_ap, mutM_ap, mvM_ap, clF_ap, clT_ap, bdName_ap, itemsM_ap, asgG_ap, envF_ap, envP_ap, callF_ap, callP_ap, ownAt0_ap, itemsD_lst, itemsD_tup, chM_ap, slM_ap, noM_ap, partM_ap, bdB_ap, bdTup_ap, bdList_cons, bdList_nil, List.length_cons, List.length_nil, List.set_cons_succ, List.set_cons_zero, List.getElem?_cons_zero, List.getElem?_cons_succ, List.map_cons, List.map_nil, List.cons_append, List.nil_append, List.replicate, Nat.zero_add, Nat.reduceAdd, Nat.reduceSub, Nat.reduceLT, Nat.reduceLeDiff, Nat.reduceEqDiff, if_true, if_false, reduceIte, Bool.false_eq_true, NxS_nx, NxS_ct, RetF_ret, RetP_ret, imm, Bool.not_true, Bool.not_false, m__law_near_3, r1, r2, r3, r4, r5, le_size (show 8 < 1000000 by omega), le_size (show 1 < 1000000 by omega), r6]
    generalize hC : lcM _ _ _ _ _ _ = rc
    have hc := lc_on' hC E id (fun x => .tz (cutG (ofN t) none (some (a : Int)) ++ [x] ++ cutG (ofN t) (some ((a : Int) + 1)) none)) (by simp only [lstM_ap, tupM_ap, le_size, seqM_ap, nxM_ap, brM_ap, ctM_ap, retM_ap, retNM_ap, ifS_ap, asgF_ap, asgO_ap, dropM_ap, frzE_ap, frzM_ap, rdM_ap, vrM_ap, cM_ap, nilM_ap, consM_ap, consTM_ap, consNM_ap, opM_ap, tstM_ap, andM_ap, orM_ap, notM_ap, ifM_ap, andVM_ap, orVM_ap, notVM_ap, immM_ap, imM_ap, ixT_ap, yesM_ap, mutM_ap, mvM_ap, clF_ap, clT_ap, bdName_ap, itemsM_ap, asgG_ap, envF_ap, envP_ap, callF_ap, callP_ap, ownAt0_ap, itemsD_lst, itemsD_tup, chM_ap, slM_ap, noM_ap, partM_ap, bdB_ap, bdTup_ap, bdList_cons, bdList_nil, List.length_cons, List.length_nil, List.set_cons_succ, List.set_cons_zero, List.getElem?_cons_zero, List.getElem?_cons_succ, List.map_cons, List.map_nil, List.cons_append, List.nil_append, List.replicate, Nat.zero_add, Nat.reduceAdd, Nat.reduceSub, Nat.reduceLT, Nat.reduceLeDiff, Nat.reduceEqDiff, if_true, if_false, reduceIte, Bool.false_eq_true, NxS_nx, NxS_ct, RetF_ret, RetP_ret, imm, Bool.not_true, Bool.not_false, List.map_id]) trivial (by omega) fun x hx => by
      have c1 := catZ_ok (a := cutG (ofN t) none (some (a : Int))) (b := [x]) (by have := cl none (some (a : Int)); simp; omega)
      have c2 := catZ_ok (a := cutG (ofN t) none (some (a : Int)) ++ [x]) (b := cutG (ofN t) (some ((a : Int) + 1)) none) (by have := cl none (some (a : Int)); have := cl (some ((a : Int) + 1)) none; simp; omega)
      simp only [lstM_ap, tupM_ap, le_size, seqM_ap, nxM_ap, brM_ap, ctM_ap, retM_ap, retNM_ap, ifS_ap, asgF_ap, asgO_ap, dropM_ap, frzE_ap, frzM_ap, rdM_ap, vrM_ap, cM_ap, nilM_ap, consM_ap, consTM_ap, consNM_ap, opM_ap, tstM_ap, andM_ap, orM_ap, notM_ap, ifM_ap, andVM_ap, orVM_ap, notVM_ap, immM_ap, imM_ap, ixT_ap, yesM_ap, mutM_ap, mvM_ap, clF_ap, clT_ap, bdName_ap, itemsM_ap, asgG_ap, envF_ap, envP_ap, callF_ap, callP_ap, ownAt0_ap, itemsD_lst, itemsD_tup, chM_ap, slM_ap, noM_ap, partM_ap, bdB_ap, bdTup_ap, bdList_cons, bdList_nil, List.length_cons, List.length_nil, List.set_cons_succ, List.set_cons_zero, List.getElem?_cons_zero, List.getElem?_cons_succ, List.map_cons, List.map_nil, List.cons_append, List.nil_append, List.replicate, Nat.zero_add, Nat.reduceAdd, Nat.reduceSub, Nat.reduceLT, Nat.reduceLeDiff, Nat.reduceEqDiff, if_true, if_false, reduceIte, Bool.false_eq_true, NxS_nx, NxS_ct, RetF_ret, RetP_ret, imm, Bool.not_true, Bool.not_false, id, slZM_ap, tupZN, tupZ1_ok, r7, c1, c2]
    subst hc
    have x1 := extendF_two (ds := L) (xs := E.map fun x => D.tz (cutG (ofN t) none (some (a : Int)) ++ [x] ++ cutG (ofN t) (some ((a : Int) + 1)) none)) (by rw [List.length_map]; omega)
    have c3 := catZ_ok (a := cutG (ofN t) none (some (a : Int))) (b := cutG (ofN t) (some ((a : Int) + 1)) none) (by have := cl none (some (a : Int)); have := cl (some ((a : Int) + 1)) none; omega)
    generalize hL1 : L ++ E.map (fun x => D.tz (cutG (ofN t) none (some (a : Int)) ++ [x] ++ cutG (ofN t) (some ((a : Int) + 1)) none)) = L1 at x1
    have hl1 : L1.length = L.length + 18 := by rw [← hL1, List.length_append, List.length_map, hEl]
    have hT1 : ∀ d ∈ L1, Th d := fun d hd => by
      rw [← hL1] at hd
      rcases List.mem_append.mp hd with h | h
      · exact hT d h
      · obtain ⟨x, hx, rfl⟩ := List.mem_map.mp h
        refine th_tz (app (app (ck _ _) (one (hEo x hx))) (ck _ _)) ?_
        have := cl none (some (a : Int)); have := cl (some ((a : Int) + 1)) none
        simp; omega
    have x2 : appendF L1 [.tz (cutG (ofN t) none (some (a : Int)) ++ cutG (ofN t) (some ((a : Int) + 1)) none)] = some (L1 ++ [.tz (cutG (ofN t) none (some (a : Int)) ++ cutG (ofN t) (some ((a : Int) + 1)) none)], .non) := appendF_ok (by omega)
    generalize hL2 : L1 ++ [D.tz (cutG (ofN t) none (some (a : Int)) ++ cutG (ofN t) (some ((a : Int) + 1)) none)] = L2 at x2
    have hl2 : L2.length = L1.length + 1 := by rw [← hL2, List.length_append]; rfl
    have hT2 : ∀ d ∈ L2, Th d := fun d hd => by
      rw [← hL2] at hd
      rcases List.mem_append.mp hd with h | h
      · exact hT1 d h
      · rw [List.mem_singleton.mp h]
        refine th_tz (app (ck _ _) (ck _ _)) ?_
        have := cl none (some (a : Int)); have := cl (some ((a : Int) + 1)) none
        simp; omega
    have r7' := r7
    have hZ : ∀ e : Env, e[0]? = some (some (false, tupZN t)) → True := fun _ _ => trivial
    simp only [lstM_ap, tupM_ap, le_size, seqM_ap, nxM_ap, brM_ap, ctM_ap, retM_ap, retNM_ap, ifS_ap, asgF_ap, asgO_ap, dropM_ap, frzE_ap, frzM_ap, rdM_ap, vrM_ap, cM_ap, nilM_ap, consM_ap, consTM_ap, consNM_ap, opM_ap, tstM_ap, andM_ap, orM_ap, notM_ap, ifM_ap, andVM_ap, orVM_ap, notVM_ap, immM_ap, imM_ap, ixT_ap, yesM_ap, mutM_ap, mvM_ap, clF_ap, clT_ap, bdName_ap, itemsM_ap, asgG_ap, envF_ap, envP_ap, callF_ap, callP_ap, ownAt0_ap, itemsD_lst, itemsD_tup, chM_ap, slM_ap, noM_ap, partM_ap, bdB_ap, bdTup_ap, bdList_cons, bdList_nil, List.length_cons, List.length_nil, List.set_cons_succ, List.set_cons_zero, List.getElem?_cons_zero, List.getElem?_cons_succ, List.map_cons, List.map_nil, List.cons_append, List.nil_append, List.replicate, Nat.zero_add, Nat.reduceAdd, Nat.reduceSub, Nat.reduceLT, Nat.reduceLeDiff, Nat.reduceEqDiff, if_true, if_false, reduceIte, Bool.false_eq_true, NxS_nx, NxS_ct, RetF_ret, RetP_ret, imm, Bool.not_true, Bool.not_false, x1, slZM_ap, tupZN, r7, c3, x2]
    generalize hC : lcM _ _ _ _ _ _ = rc
    have hc := lc_on' hC [D.int 0, .int (a : Nat), .int (n : Nat)] id (fun x => .tz (cutG (ofN t) none (some (a : Int)) ++ [x] ++ cutG (ofN t) (some (a : Int)) none)) (by
      have : lenF [.tz (ofN t)] = some (.int (n : Nat)) := hlen
      simp only [lstM_ap, tupM_ap, le_size, seqM_ap, nxM_ap, brM_ap, ctM_ap, retM_ap, retNM_ap, ifS_ap, asgF_ap, asgO_ap, dropM_ap, frzE_ap, frzM_ap, rdM_ap, vrM_ap, cM_ap, nilM_ap, consM_ap, consTM_ap, consNM_ap, opM_ap, tstM_ap, andM_ap, orM_ap, notM_ap, ifM_ap, andVM_ap, orVM_ap, notVM_ap, immM_ap, imM_ap, ixT_ap, yesM_ap, mutM_ap, mvM_ap, clF_ap, clT_ap, bdName_ap, itemsM_ap, asgG_ap, envF_ap, envP_ap, callF_ap, callP_ap, ownAt0_ap, itemsD_lst, itemsD_tup, chM_ap, slM_ap, noM_ap, partM_ap, bdB_ap, bdTup_ap, bdList_cons, bdList_nil, List.length_cons, List.length_nil, List.set_cons_succ, List.set_cons_zero, List.getElem?_cons_zero, List.getElem?_cons_succ, List.map_cons, List.map_nil, List.cons_append, List.nil_append, List.replicate, Nat.zero_add, Nat.reduceAdd, Nat.reduceSub, Nat.reduceLT, Nat.reduceLeDiff, Nat.reduceEqDiff, if_true, if_false, reduceIte, Bool.false_eq_true, NxS_nx, NxS_ct, RetF_ret, RetP_ret, imm, Bool.not_true, Bool.not_false, le_size (show 3 < 1000000 by omega), this]
      rfl) trivial (by simp) fun x hx => by
      have c1 := catZ_ok (a := cutG (ofN t) none (some (a : Int))) (b := [x]) (by have := cl none (some (a : Int)); simp; omega)
      have c2 := catZ_ok (a := cutG (ofN t) none (some (a : Int)) ++ [x]) (b := cutG (ofN t) (some (a : Int)) none) (by have := cl none (some (a : Int)); have := cl (some (a : Int)) none; simp; omega)
      simp only [lstM_ap, tupM_ap, le_size, seqM_ap, nxM_ap, brM_ap, ctM_ap, retM_ap, retNM_ap, ifS_ap, asgF_ap, asgO_ap, dropM_ap, frzE_ap, frzM_ap, rdM_ap, vrM_ap, cM_ap, nilM_ap, consM_ap, consTM_ap, consNM_ap, opM_ap, tstM_ap, andM_ap, orM_ap, notM_ap, ifM_ap, andVM_ap, orVM_ap, notVM_ap, immM_ap, imM_ap, ixT_ap, yesM_ap, mutM_ap, mvM_ap, clF_ap, clT_ap, bdName_ap, itemsM_ap, asgG_ap, envF_ap, envP_ap, callF_ap, callP_ap, ownAt0_ap, itemsD_lst, itemsD_tup, chM_ap, slM_ap, noM_ap, partM_ap, bdB_ap, bdTup_ap, bdList_cons, bdList_nil, List.length_cons, List.length_nil, List.set_cons_succ, List.set_cons_zero, List.getElem?_cons_zero, List.getElem?_cons_succ, List.map_cons, List.map_nil, List.cons_append, List.nil_append, List.replicate, Nat.zero_add, Nat.reduceAdd, Nat.reduceSub, Nat.reduceLT, Nat.reduceLeDiff, Nat.reduceEqDiff, if_true, if_false, reduceIte, Bool.false_eq_true, NxS_nx, NxS_ct, RetF_ret, RetP_ret, imm, Bool.not_true, Bool.not_false, id, slZM_ap, tupZ1_ok, c1, c2]
    subst hc
    have x3 := extendF_two (ds := L2) (xs := [D.int 0, .int (a : Nat), .int (n : Nat)].map fun x => D.tz (cutG (ofN t) none (some (a : Int)) ++ [x] ++ cutG (ofN t) (some (a : Int)) none)) (by simp; omega)
    generalize hL3 : L2 ++ [D.int 0, .int (a : Nat), .int (n : Nat)].map (fun x => D.tz (cutG (ofN t) none (some (a : Int)) ++ [x] ++ cutG (ofN t) (some (a : Int)) none)) = L3 at x3
    have hl3 : L3.length = L2.length + 3 := by rw [← hL3, List.length_append, List.length_map]; rfl
    have hT3 : ∀ d ∈ L3, Th d := fun d hd => by
      rw [← hL3] at hd
      rcases List.mem_append.mp hd with h | h
      · exact hT2 d h
      · obtain ⟨x, hx, rfl⟩ := List.mem_map.mp h
        have hx1 : Ok1 x := by
          simp only [List.mem_cons, List.not_mem_nil, or_false] at hx
          rcases hx with rfl | rfl | rfl
          · exact ok_nat (x := 0) (by omega)
          · exact ok_nat (by omega)
          · exact ok_nat (by omega)
        refine th_tz (app (app (ck _ _) (one hx1)) (ck _ _)) ?_
        have := cl none (some (a : Int)); have := cl (some (a : Int)) none
        simp; omega
    simp only [List.map_cons, List.map_nil] at x3
    simp only [lstM_ap, tupM_ap, le_size, seqM_ap, nxM_ap, brM_ap, ctM_ap, retM_ap, retNM_ap, ifS_ap, asgF_ap, asgO_ap, dropM_ap, frzE_ap, frzM_ap, rdM_ap, vrM_ap, cM_ap, nilM_ap, consM_ap, consTM_ap, consNM_ap, opM_ap, tstM_ap, andM_ap, orM_ap, notM_ap, ifM_ap, andVM_ap, orVM_ap, notVM_ap, immM_ap, imM_ap, ixT_ap, yesM_ap, mutM_ap, mvM_ap, clF_ap, clT_ap, bdName_ap, itemsM_ap, asgG_ap, envF_ap, envP_ap, callF_ap, callP_ap, ownAt0_ap, itemsD_lst, itemsD_tup, chM_ap, slM_ap, noM_ap, partM_ap, bdB_ap, bdTup_ap, bdList_cons, bdList_nil, List.length_cons, List.length_nil, List.set_cons_succ, List.set_cons_zero, List.getElem?_cons_zero, List.getElem?_cons_succ, List.map_cons, List.map_nil, List.cons_append, List.nil_append, List.replicate, Nat.zero_add, Nat.reduceAdd, Nat.reduceSub, Nat.reduceLT, Nat.reduceLeDiff, Nat.reduceEqDiff, if_true, if_false, reduceIte, Bool.false_eq_true, NxS_nx, NxS_ct, RetF_ret, RetP_ret, imm, Bool.not_true, Bool.not_false, x3]
    exact ⟨L3, _, _, rfl, hT3, by omega⟩)
  simp only [lstM_ap, tupM_ap, le_size, seqM_ap, nxM_ap, brM_ap, ctM_ap, retM_ap, retNM_ap, ifS_ap, asgF_ap, asgO_ap, dropM_ap, frzE_ap, frzM_ap, rdM_ap, vrM_ap, cM_ap, nilM_ap, consM_ap, consTM_ap, consNM_ap, opM_ap, tstM_ap, andM_ap, orM_ap, notM_ap, ifM_ap, andVM_ap, orVM_ap, notVM_ap, immM_ap, imM_ap, ixT_ap, yesM_ap, mutM_ap, mvM_ap, clF_ap, clT_ap, bdName_ap, itemsM_ap, asgG_ap, envF_ap, envP_ap, callF_ap, callP_ap, ownAt0_ap, itemsD_lst, itemsD_tup, chM_ap, slM_ap, noM_ap, partM_ap, bdB_ap, bdTup_ap, bdList_cons, bdList_nil, List.length_cons, List.length_nil, List.set_cons_succ, List.set_cons_zero, List.getElem?_cons_zero, List.getElem?_cons_succ, List.map_cons, List.map_nil, List.cons_append, List.nil_append, List.replicate, Nat.zero_add, Nat.reduceAdd, Nat.reduceSub, Nat.reduceLT, Nat.reduceLeDiff, Nat.reduceEqDiff, if_true, if_false, reduceIte, Bool.false_eq_true, NxS_nx, NxS_ct, RetF_ret, RetP_ret, imm, Bool.not_true, Bool.not_false]
  exact ⟨L, rfl, hT, hl⟩
end MM

set_option Elab.async false
set_option linter.all false
set_option maxRecDepth 100000
set_option maxHeartbeats 4000000
noncomputable section
namespace MM
open PySem PySem.Spec PyProof.Rows L2

/-! ### dict(enumerate(t)), str(t) -/
theorem putG_new {kvs : List (Key × D)} {k : Key} {d : D} (h : ∀ kv ∈ kvs, kv.1 ≠ k) : putG kvs k d = kvs ++ [(k, d)] := by
  unfold putG
  rw [if_neg]
  rw [Bool.not_eq_true, List.any_eq_false]
  intro kv hkv
  rw [decide_eq_true_eq]
  exact h kv hkv
theorem merge_enum : ∀ {xs : List D} {i : Nat} {acc : List (Key × D)}, (∀ kv ∈ acc, ∀ j : Nat, i ≤ j → kv.1 ≠ .inl (j : Int)) → mergeD acc (enumK i xs) = acc ++ enumK i xs
  | [], i, acc, _ => by rw [enumK, List.append_nil]; rfl
  | x :: xs, i, acc, h => by
    rw [enumK]
    show mergeD (putG acc (.inl (i : Int)) x) (enumK (i + 1) xs) = _
    rw [putG_new fun kv hkv => h kv hkv i (Nat.le_refl _), merge_enum fun kv hkv j hj => ?_, List.append_assoc]
    · rfl
    · rcases List.mem_append.mp hkv with hkv | hkv
      · exact h kv hkv j (by omega)
      · rw [List.mem_singleton.mp hkv]
        intro z
        injection z with z
        omega
def psE : Nat → List Nat → List (PyData × PyData)
  | _, [] => []
  | i, x :: l => (.int (i : Nat), .int (x : Nat)) :: psE (i + 1) l
theorem psE_sc : ∀ (i : Nat) (l : List Nat), scK (enumK i (ofN l)) = some (psE i l)
  | _, [] => rfl
  | i, x :: l => by
    rw [ofN_cons, enumK]
    simp only [scK, scP, keyP, psE_sc (i + 1) l, psE]
theorem psE_all : ∀ (i : Nat) (l : List Nat), i + l.length < 1000 → (∀ x ∈ l, x < 1024) → PyData.leavesShortKv 40 (psE i l) = true ∧ PyData.showableKv (psE i l) = true ∧ PyData.depthKv (psE i l) ≤ 1 ∧ PyData.bulkKv (psE i l) ≤ 2 * l.length ∧ ∀ p ∈ psE i l, LowS p.1 ∧ LowS p.2
  | _, [], _, _ => ⟨rfl, rfl, by simp [psE, PyData.depthKv], by simp [psE, PyData.bulkKv], fun p hp => by cases hp⟩
  | i, x :: l, hl, h => by
    rw [List.length_cons] at hl
    obtain ⟨a1, a2, a3, a4, a5⟩ := psE_all (i + 1) l (by omega) fun y hy => h y (List.mem_cons_of_mem _ hy)
    obtain ⟨p, g1, g2⟩ := sh_int (i := (x : Int)) (by have := h x List.mem_cons_self; omega)
    have hp : p = .int (x : Int) := by have := g1.to; simpa [toPy] using this.symm
    obtain ⟨q, k1, k2⟩ := sh_int (i := (i : Int)) (by omega)
    have hq : q = .int (i : Int) := by have := k1.to; simpa [toPy] using this.symm
    subst hp hq
    refine ⟨?_, ?_, ?_, ?_, fun p hp => ?_⟩
    · rw [psE, PyData.leavesShortKv, g2.lf, k2.lf, a1]; rfl
    · rw [psE, PyData.showableKv, g2.sh, k2.sh, a2]; rfl
    · simp only [psE, PyData.depthKv, PyData.depth]; omega
    · simp only [psE, PyData.bulkKv, PyData.bulk, List.length_cons]; omega
    · rw [psE] at hp
      rcases List.mem_cons.mp hp with rfl | hp
      · exact ⟨lowS_int _, lowS_int _⟩
      · exact a5 p hp
theorem sh_dict {l : List Nat} (h : ∀ x ∈ l, x < 1024) (hl : l.length ≤ 100) : ShW (.dK (mergeD [] (enumK 0 (ofN l)))) := by
  have hm := merge_enum (xs := ofN l) (i := 0) (acc := []) (fun kv h => by cases h)
  rw [hm, List.nil_append]
  obtain ⟨a1, a2, a3, a4, a5⟩ := psE_all 0 l (by omega) h
  refine ⟨.dict (psE 0 l), ?_, ?_, ?_, ?_, ?_, lowS_dict a5⟩
  · unfold elP
    dsimp only
    rw [psE_sc]
  · rw [PyData.leavesShort]; exact a1
  · rw [PyData.showable]; exact a2
  · simp only [PyData.depth]; omega
  · rw [PyData.bulk]; omega
theorem str_tz {l : List Nat} (h : ∀ x ∈ l, x < 1024) (hl : l.length ≤ 20) : ∃ z, strZF [tupZN l] = some (.str z) ∧ ShW (.str z) := by
  have S : ShD 1 20 (.tz (ofN l)) := sh_tz (sh_tup (k := 0) (B := 0) (N := 20) (sh_nats h) (by rw [ofN_length]; exact hl))
  obtain ⟨p, h1, h2, h3, h4, h5, h6⟩ := (S.whole (by omega) (by omega)).ex
  obtain ⟨q, g1, g2⟩ := S
  have hpq : p = q := by
    have ht := g1.to
    unfold elP at h1
    dsimp only at h1
    rw [ht] at h1
    dsimp only at h1
    rw [if_pos g2.nd] at h1
    exact (Option.some.inj h1).symm
  have hs := PyData.shown_le_bulk 40 (by omega) p h2
  have hb : p.bulk ≤ 20 := hpq ▸ g2.bk
  have ok : ShowX p := ⟨h3, by omega, by rw [sizeLine_eq]; omega⟩
  refine ⟨p.shown, ?_, ?_⟩
  · unfold strZF tupZN
    dsimp only
    rw [h1]
    dsimp only
    rw [if_pos ok]
  · have hs2 : ShowX p := ok
    refine ⟨.str p.shown, rfl, ?_, rfl, by simp only [PyData.depth]; omega, ?_, lowS_str h6⟩
    · rw [PyData.leavesShort, List.all_eq_true]
      intro c hc
      rw [decide_eq_true_eq]
      exact Classical.byContradiction fun hn => h6 c (by unfold Od; omega) hc
    · rw [PyData.bulk]
      show p.shown.length ≤ 10000
      omega
end MM

set_option Elab.async false
set_option linter.all false
set_option maxRecDepth 100000
set_option maxHeartbeats 4000000
noncomputable section
namespace MM
open PySem PySem.Spec PyProof.Rows L2

/-! ### the law k01 -/
theorem neF_bl (b : Bool) : neF [.bl b, .bl b] = some (.bl false) := by
  rw [neF_ap, eqP_refl (Py.bl b)]
  rfl
theorem tupRgZ_7 : tupRgZF [.int 7] = some (tupZN (List.range 7)) := by
  have hr : RgOk 0 ((7 : Nat) : Int) := by unfold RgOk; omega
  have e : tupRgZF [.int ((7 : Nat) : Int)] = some (.tz (rangeL 0 ((7 : Nat) : Int).toNat)) := if_pos hr
  rw [Int.toNat_natCast, rangeL_ofN] at e
  exact e
theorem maths (ns : List Int) (hns : ns.length ≤ 63) : f_law [.scr ns] = .ret (.bl true) := by
  obtain ⟨pen0, e0, P0⟩ := pen_start ns
  obtain ⟨q, pen1, e1, hq, P1⟩ := take_any P0 7 (by omega) (by omega)
  have e1' : p__law_draw pen0 [.int 7] = .ret (.int q) pen1 := e1
  have a1 : addF [.int 1, .int (q : Nat)] = some (.int ((1 + q : Nat) : Int)) := by
    show some (D.int (1 + (q : Int))) = _
    rw [Int.natCast_add]; rfl
  obtain ⟨t, pen2, e2, T, P2⟩ := any_turn_ok P1 (n := 1 + q) (by omega)
  obtain ⟨L, e3, hL, hLl⟩ := near_ok T (by omega) (by omega)
  have hsm : ∀ x ∈ t, x < 1024 := fun x hx => by have := T.mem.mp hx; omega
  have hln : (ofN t).length ≤ 7 := by rw [ofN_length, T.len]; omega
  have okt : ∀ d ∈ ofN t, Ok1 d := fun d hd => by
    obtain ⟨x, hx, rfl⟩ := List.mem_map.mp hd
    exact ok_nat (hsm x hx)
  have ok2 : ∀ d ∈ ofN t ++ ofN t, Ok1 d := fun d hd => (List.mem_append.mp hd).elim (okt d) (okt d)
  have r1 : revZF [tupZN t] = some (.tz (ofN t).reverse) := rfl
  have r2 : catZF [tupZN t, tupZN t] = some (.tz (ofN t ++ ofN t)) := catZ_ok (by omega)
  have r3 : listF [tupZN t] = some (.lst (ofN t)) := rfl
  have r4 : dictEnZF [tupZN t] = some (.dK (mergeD [] (enumK 0 (ofN t)))) := rfl
  obtain ⟨z, r5, shz⟩ := str_tz hsm (by rw [T.len]; omega)
  have r6 : tupRg1F [.int 8] = some (tupN (List.range 8)) := tupRg1_ok (n := 8) (by omega)
  have r7 : tupZF [.int 0] = some (.tz [.int 0]) := tupZ1_ok
  have r8 : tupZF [.int 1] = some (.tz [.int 1]) := tupZ1_ok
  have shS : ∀ {k B : Nat} {d : D}, ShD k B d → k ≤ 5 → B ≤ 10000 → ShW d := fun h a b => h.whole a b
  have sht : ShD 2 1220 (tupZN t) := sh_tzs okt (by omega)
  have th1 : ∀ d ∈ [tupZN t, .tz (ofN t).reverse, .tz (ofN t ++ ofN t), .lst (ofN t), .tup [tupZN t], .lst [tupZN t], .dK (mergeD [] (enumK 0 (ofN t))), .str z], Th d := fun d hd => by
    simp only [List.mem_cons, List.not_mem_nil, or_false] at hd
    rcases hd with rfl | rfl | rfl | rfl | rfl | rfl | rfl | rfl
    · exact th_tz okt (by omega)
    · exact th_tz (fun d hd => okt d (List.mem_reverse.mp hd)) (by rw [List.length_reverse]; omega)
    · exact th_tz ok2 (by rw [List.length_append]; omega)
    · exact th_no rfl (shS (sh_lst (k := 0) (B := 0) (N := 7) (sh_nats hsm) hln) (by omega) (by omega))
    · refine th_bad (.inl rfl) (fun d hd => by rw [List.mem_singleton.mp hd]; exact el_tz _) (by simp) (by simp) (shS (sh_tup (k := 2) (B := 1220) (N := 1) (fun d hd => by rw [List.mem_singleton.mp hd]; exact sht) (by simp)) (by omega) (by omega)) rfl
    · exact th_no rfl (shS (sh_lst (k := 2) (B := 1220) (N := 1) (fun d hd => by rw [List.mem_singleton.mp hd]; exact sht) (by simp)) (by omega) (by omega))
    · exact th_no rfl (sh_dict hsm (by rw [T.len]; omega))
    · exact th_no rfl shz
  have th2 : ∀ d ∈ [D.tup [], tupZN (List.range 7), tupN (List.range 8), .tz [.int 0], .tz [.int 1], .tup [.bl false], .tup [.int 0, .bl true], .non, .int 0, .bl true, .str "01", .dK [], .lst []], Th d := fun d hd => by
    simp only [List.mem_cons, List.not_mem_nil, or_false] at hd
    rcases hd with rfl | rfl | rfl | rfl | rfl | rfl | rfl | rfl | rfl | rfl | rfl | rfl | rfl
    · exact th_len (.inl rfl) (shS (sh_tup (k := 0) (B := 0) (N := 0) (fun _ h => nomatch h) (by simp)) (by omega) (by omega)) (.inl rfl)
    · exact th_tz (fun d hd => by
        obtain ⟨x, hx, rfl⟩ := List.mem_map.mp hd
        exact ok_nat (by have := List.mem_range.mp hx; omega)) (by simp [ofN])
    · exact th_len (.inl rfl) (shS (sh_tup (k := 0) (B := 0) (N := 8) (sh_nats fun x hx => by have := List.mem_range.mp hx; omega) (by simp [ofN])) (by omega) (by omega)) (.inr (by simp [ofN]))
    · exact th_tz (fun d hd => by rw [List.mem_singleton.mp hd]; exact ok_nat (x := 0) (by omega)) (by simp)
    · exact th_tz (fun d hd => by rw [List.mem_singleton.mp hd]; exact ok_nat (x := 1) (by omega)) (by simp)
    · exact th_bad (.inl rfl) (fun d hd => by rw [List.mem_singleton.mp hd]; exact el_bl _) (by simp) (by simp) (shS (sh_tup (k := 0) (B := 0) (N := 1) (fun d hd => by rw [List.mem_singleton.mp hd]; exact sh_bl _) (by simp)) (by omega) (by omega)) rfl
    · refine th_bad (.inl rfl) (fun d hd => ?_) (by simp) (by simp) (shS (sh_tup (k := 0) (B := 0) (N := 2) (fun d hd => ?_) (by simp)) (by omega) (by omega)) rfl
      · simp only [List.mem_cons, List.not_mem_nil, or_false] at hd
        rcases hd with rfl | rfl
        · exact el_int _
        · exact el_bl _
      · simp only [List.mem_cons, List.not_mem_nil, or_false] at hd
        rcases hd with rfl | rfl
        · exact sh_int (by decide)
        · exact sh_bl _
    · exact th_no rfl (shS sh_non (by omega) (by omega))
    · exact th_no rfl (shS (sh_int (by decide)) (by omega) (by omega))
    · exact th_no rfl (shS (sh_bl _) (by omega) (by omega))
    · exact th_no rfl (shS (sh_str (N := 2) (lowT_dec (by decide +kernel)) (by decide)) (by omega) (by omega))
    · exact th_no rfl ⟨.dict [], rfl, rfl, rfl, by simp [PyData.depth, PyData.depthKv], by simp [PyData.bulk, PyData.bulkKv], lowS_dict fun _ h => nomatch h⟩
    · exact th_no rfl (shS (sh_lst (k := 0) (B := 0) (N := 0) (fun _ h => nomatch h) (by simp)) (by omega) (by omega))
  generalize hA : [tupZN t, .tz (ofN t).reverse, .tz (ofN t ++ ofN t), .lst (ofN t), .tup [tupZN t], .lst [tupZN t], .dK (mergeD [] (enumK 0 (ofN t))), .str z] = A at th1
  generalize hB : [D.tup [], tupZN (List.range 7), tupN (List.range 8), .tz [.int 0], .tz [.int 1], .tup [.bl false], .tup [.int 0, .bl true], .non, .int 0, .bl true, .str "01", .dK [], .lst []] = B at th2
  have lA : A.length = 8 := by rw [← hA]; rfl
  have lB : B.length = 13 := by rw [← hB]; rfl
  have zA : A.length ≤ sizeLine := by rw [lA, sizeLine_eq]; omega
  have zB : B.length ≤ sizeLine := by rw [lB, sizeLine_eq]; omega
  have x1 := addF_two (a := A) (b := B) (by omega)
  have x2 := addF_two (a := A ++ B) (b := L) (by rw [List.length_append]; omega)
  have hall : ∀ d ∈ A ++ B ++ L, Th d := fun d hd => by
    rcases List.mem_append.mp hd with h | h
    · rcases List.mem_append.mp h with h | h
      · exact th1 d h
      · exact th2 d h
    · exact hL d h
  unfold f_law m_law
  simp only [clP_eq, lstM_ap, tupM_ap, le_size, seqM_ap, nxM_ap, brM_ap, ctM_ap, retM_ap, retNM_ap, ifS_ap, asgF_ap, asgO_ap, dropM_ap, frzE_ap, frzM_ap, rdM_ap, vrM_ap, cM_ap, nilM_ap, consM_ap, consTM_ap, consNM_ap, opM_ap, tstM_ap, andM_ap, orM_ap, notM_ap, ifM_ap, andVM_ap, orVM_ap, notVM_ap, immM_ap, imM_ap, ixT_ap, yesM_ap, mutM_ap, mvM_ap, clF_ap, clT_ap, bdName_ap, itemsM_ap, asgG_ap, envF_ap, envP_ap, callF_ap, callP_ap, ownAt0_ap, itemsD_lst, itemsD_tup, chM_ap, slM_ap, noM_ap, partM_ap, bdB_ap, bdTup_ap, bdList_cons, bdList_nil, List.length_cons, List.length_nil, List.set_cons_succ, List.set_cons_zero, List.getElem?_cons_zero, List.getElem?_cons_succ, List.map_cons, List.map_nil, List.cons_append, List.nil_append, List.replicate, Nat.zero_add, Nat.reduceAdd, Nat.reduceSub, Nat.reduceLT, Nat.reduceLeDiff, Nat.reduceEqDiff, if_true, if_false, reduceIte, Bool.false_eq_true, NxS_nx, NxS_ct, RetF_ret, RetP_ret, imm, Bool.not_true, Bool.not_false, e0, e1', a1, e2, r1, r2, r3, r4, r5, r6, r7, r8, tupRgZ_7, le_size (show 8 < 1000000 by omega), le_size (show 1 < 1000000 by omega), le_size (show 0 < 1000000 by omega), le_size (show 2 < 1000000 by omega), le_size (show 13 < 1000000 by omega), hA, hB, zA, zB, x1, e3, x2]
  generalize hLo : loopM _ _ _ _ = r
  obtain ⟨e', rfl, d4, d5, d6, rfl⟩ := for_items hLo (A ++ B ++ L) id (fun _ e => ∃ d4 d5 d6, e = [some (false, .scr ns), some (true, pen2), some (false, tupZN t), some (false, .lst (A ++ B)), d4, d5, d6])
    (by simp only [lstM_ap, tupM_ap, le_size, seqM_ap, nxM_ap, brM_ap, ctM_ap, retM_ap, retNM_ap, ifS_ap, asgF_ap, asgO_ap, dropM_ap, frzE_ap, frzM_ap, rdM_ap, vrM_ap, cM_ap, nilM_ap, consM_ap, consTM_ap, consNM_ap, opM_ap, tstM_ap, andM_ap, orM_ap, notM_ap, ifM_ap, andVM_ap, orVM_ap, notVM_ap, immM_ap, imM_ap, ixT_ap, yesM_ap, mutM_ap, mvM_ap, clF_ap, clT_ap, bdName_ap, itemsM_ap, asgG_ap, envF_ap, envP_ap, callF_ap, callP_ap, ownAt0_ap, itemsD_lst, itemsD_tup, chM_ap, slM_ap, noM_ap, partM_ap, bdB_ap, bdTup_ap, bdList_cons, bdList_nil, List.length_cons, List.length_nil, List.set_cons_succ, List.set_cons_zero, List.getElem?_cons_zero, List.getElem?_cons_succ, List.map_cons, List.map_nil, List.cons_append, List.nil_append, List.replicate, Nat.zero_add, Nat.reduceAdd, Nat.reduceSub, Nat.reduceLT, Nat.reduceLeDiff, Nat.reduceEqDiff, if_true, if_false, reduceIte, Bool.false_eq_true, NxS_nx, NxS_ct, RetF_ret, RetP_ret, imm, Bool.not_true, Bool.not_false, e3, x2, List.map_id]) ⟨none, none, none, rfl⟩ (by
    rintro dn d rest e hh ⟨d4, d5, d6, rfl⟩
    obtain ⟨sh, b, j1, j2⟩ := hall d (by rw [hh]; simp)
    obtain ⟨y, k1, k2⟩ := showA sh
    have i1 : isiF .bool [.bl b, .opq (.ty "bool")] = some (.bl true) := rfl
    simp only [lstM_ap, tupM_ap, le_size, seqM_ap, nxM_ap, brM_ap, ctM_ap, retM_ap, retNM_ap, ifS_ap, asgF_ap, asgO_ap, dropM_ap, frzE_ap, frzM_ap, rdM_ap, vrM_ap, cM_ap, nilM_ap, consM_ap, consTM_ap, consNM_ap, opM_ap, tstM_ap, andM_ap, orM_ap, notM_ap, ifM_ap, andVM_ap, orVM_ap, notVM_ap, immM_ap, imM_ap, ixT_ap, yesM_ap, mutM_ap, mvM_ap, clF_ap, clT_ap, bdName_ap, itemsM_ap, asgG_ap, envF_ap, envP_ap, callF_ap, callP_ap, ownAt0_ap, itemsD_lst, itemsD_tup, chM_ap, slM_ap, noM_ap, partM_ap, bdB_ap, bdTup_ap, bdList_cons, bdList_nil, List.length_cons, List.length_nil, List.set_cons_succ, List.set_cons_zero, List.getElem?_cons_zero, List.getElem?_cons_succ, List.map_cons, List.map_nil, List.cons_append, List.nil_append, List.replicate, Nat.zero_add, Nat.reduceAdd, Nat.reduceSub, Nat.reduceLT, Nat.reduceLeDiff, Nat.reduceEqDiff, if_true, if_false, reduceIte, Bool.false_eq_true, NxS_nx, NxS_ct, RetF_ret, RetP_ret, imm, Bool.not_true, Bool.not_false, id, m_law_6, k1, j1, j2, i1, neF_bl, ne_strD k2]
    exact ⟨_, _, _, rfl⟩)
  simp only [lstM_ap, tupM_ap, le_size, seqM_ap, nxM_ap, brM_ap, ctM_ap, retM_ap, retNM_ap, ifS_ap, asgF_ap, asgO_ap, dropM_ap, frzE_ap, frzM_ap, rdM_ap, vrM_ap, cM_ap, nilM_ap, consM_ap, consTM_ap, consNM_ap, opM_ap, tstM_ap, andM_ap, orM_ap, notM_ap, ifM_ap, andVM_ap, orVM_ap, notVM_ap, immM_ap, imM_ap, ixT_ap, yesM_ap, mutM_ap, mvM_ap, clF_ap, clT_ap, bdName_ap, itemsM_ap, asgG_ap, envF_ap, envP_ap, callF_ap, callP_ap, ownAt0_ap, itemsD_lst, itemsD_tup, chM_ap, slM_ap, noM_ap, partM_ap, bdB_ap, bdTup_ap, bdList_cons, bdList_nil, List.length_cons, List.length_nil, List.set_cons_succ, List.set_cons_zero, List.getElem?_cons_zero, List.getElem?_cons_succ, List.map_cons, List.map_nil, List.cons_append, List.nil_append, List.replicate, Nat.zero_add, Nat.reduceAdd, Nat.reduceSub, Nat.reduceLT, Nat.reduceLeDiff, Nat.reduceEqDiff, if_true, if_false, reduceIte, Bool.false_eq_true, NxS_nx, NxS_ct, RetF_ret, RetP_ret, imm, Bool.not_true, Bool.not_false, m_law_10]
end MM

set_option Elab.async false
set_option linter.all false
set_option maxRecDepth 100000
set_option maxHeartbeats 4000000
noncomputable section
namespace MM
open PySem PySem.Spec PyProof.Rows L2
structure DefAt (K : PySem.W.Frag) (mg : Str → Option Value) (x : Str) (st : Stmt) (ps : List Str) where
  f : Addr
  fd : FuncData
  mg : mg x = some (.ref f)
  F : Fun K x x st f fd
  b : Binds K fd ps []
theorem pe_gi {X : Cx} {x : Str} {i : Int} {pos : Pos} (hg : Gl X x) (h : ∃ t, X.mg x = some (.int i t)) (hd : (x == ("__debug__" : Str)) = false := by decide) : PE X (.Name x pos) (tC (.int i)) := by
  obtain ⟨t, e⟩ := h
  exact pe_glob hg e ⟨t, rfl⟩ hd
theorem hu65 {k : Nat} {A : Around} (hr : Room k A) : A.units + 65 < cLine := by have := hr.un; omega
theorem hu4 {k : Nat} {A : Around} (hr : Room k A) : A.units + 4 < cLine := by have := hr.un; omega
theorem hu1 {k : Nat} {A : Around} (hr : Room k A) : A.units + 1 < cLine := by have := hr.un; omega
def topS (i : Nat) : Stmt := PySem.Challenge.pw_heldmarks_k01_turns_known.main.body.getD i (.Pass ⟨0, 0, 0, 0⟩)
abbrev s__law_pen : Stmt := topS 6
abbrev N__law_pen : List Str := ["_law_script"]
abbrev P__law_pen : List Str := ["_law_script"]
theorem sc__law_pen : FnScope N__law_pen P__law_pen (defScope s__law_pen) := ⟨rfl, rfl, rfl, by decide +kernel, rfl, by decide +kernel, by decide +kernel⟩
abbrev s__law_draw : Stmt := topS 7
abbrev N__law_draw : List Str := ["_law_pen_here", "_law_most", "_law_script", "_law_at", "_law_cell", "_law_mixed", "_law_found"]
abbrev P__law_draw : List Str := ["_law_pen_here", "_law_most"]
theorem sc__law_draw : FnScope N__law_draw P__law_draw (defScope s__law_draw) := ⟨rfl, rfl, rfl, by decide +kernel, rfl, by decide +kernel, by decide +kernel⟩
abbrev s__law_any_turn : Stmt := topS 8
abbrev N__law_any_turn : List Str := ["_law_pen_here", "_law_many", "_law_left", "_law_k"]
abbrev P__law_any_turn : List Str := ["_law_pen_here", "_law_many"]
theorem sc__law_any_turn : FnScope N__law_any_turn P__law_any_turn (defScope s__law_any_turn) := ⟨rfl, rfl, rfl, by decide +kernel, rfl, by decide +kernel, by decide +kernel⟩
abbrev s__law_near : Stmt := topS 10
abbrev N__law_near : List Str := ["_law_turn", "_law_found", "_law_at", "_law_some", "_law_one"]
abbrev P__law_near : List Str := ["_law_turn"]
theorem sc__law_near : FnScope N__law_near P__law_near (defScope s__law_near) := ⟨rfl, rfl, rfl, by decide +kernel, rfl, by decide +kernel, by decide +kernel⟩
abbrev s_is_whole : Stmt := topS 2
abbrev N_is_whole : List Str := ["thing"]
abbrev P_is_whole : List Str := ["thing"]
theorem sc_is_whole : FnScope N_is_whole P_is_whole (defScope s_is_whole) := ⟨rfl, rfl, rfl, by decide +kernel, rfl, by decide +kernel, by decide +kernel⟩
abbrev s_is_turn_of : Stmt := topS 3
abbrev N_is_turn_of : List Str := ["many", "thing", "one"]
abbrev P_is_turn_of : List Str := ["many", "thing"]
theorem sc_is_turn_of : FnScope N_is_turn_of P_is_turn_of (defScope s_is_turn_of) := ⟨rfl, rfl, rfl, by decide +kernel, rfl, by decide +kernel, by decide +kernel⟩
abbrev s_is_turn : Stmt := topS 4
abbrev N_is_turn : List Str := ["thing"]
abbrev P_is_turn : List Str := ["thing"]
theorem sc_is_turn : FnScope N_is_turn P_is_turn (defScope s_is_turn) := ⟨rfl, rfl, rfl, by decide +kernel, rfl, by decide +kernel, by decide +kernel⟩
abbrev s__law_due : Stmt := topS 9
abbrev N__law_due : List Str := ["_law_thing", "_law_one", "_law_number"]
abbrev P__law_due : List Str := ["_law_thing"]
theorem sc__law_due : FnScope N__law_due P__law_due (defScope s__law_due) := ⟨rfl, rfl, rfl, by decide +kernel, rfl, by decide +kernel, by decide +kernel⟩
abbrev s_law : Stmt := topS 11
abbrev N_law : List Str := ["_law_script", "_law_pen_here", "_law_turn", "_law_some", "_law_thing", "_law_kept", "_law_found"]
abbrev P_law : List Str := ["_law_script"]
theorem sc_law : FnScope N_law P_law (defScope s_law) := ⟨rfl, rfl, rfl, by decide +kernel, rfl, by decide +kernel, by decide +kernel⟩
structure Txt (K : PySem.W.Frag) (mg : Str → Option Value) where
  d__law_pen : DefAt K mg "_law_pen" s__law_pen P__law_pen
  d__law_draw : DefAt K mg "_law_draw" s__law_draw P__law_draw
  d__law_any_turn : DefAt K mg "_law_any_turn" s__law_any_turn P__law_any_turn
  d__law_near : DefAt K mg "_law_near" s__law_near P__law_near
  d_is_whole : DefAt K mg "is_whole" s_is_whole P_is_whole
  d_is_turn_of : DefAt K mg "is_turn_of" s_is_turn_of P_is_turn_of
  d_is_turn : DefAt K mg "is_turn" s_is_turn P_is_turn
  d__law_due : DefAt K mg "_law_due" s__law_due P__law_due
  d_law : DefAt K mg "law" s_law P_law
  z_abs : mg "abs" = none
  z_all : mg "all" = none
  z_bool : mg "bool" = none
  z_dict : mg "dict" = none
  z_enumerate : mg "enumerate" = none
  z_int : mg "int" = none
  z_isinstance : mg "isinstance" = none
  z_len : mg "len" = none
  z_list : mg "list" = none
  z_range : mg "range" = none
  z_repr : mg "repr" = none
  z_sorted : mg "sorted" = none
  z_str : mg "str" = none
  z_tuple : mg "tuple" = none
  g_MOST_THINGS : ∃ t, mg "MOST_THINGS" = some (.int 7 t)
section
variable {P : Program} {w : World} {K : PySem.W.Frag} {mg : Str → Option Value} {base : Heap}
theorem ok__law_pen (T : Txt K mg) : FnG P w K mg base 1 T.d__law_pen.f T.d__law_pen.fd P__law_pen (spF K mg true f__law_pen) := by
  refine fnF_G (k := 0) (m := m__law_pen) (np := 1) (nn := 1) rfl rfl rfl T.d__law_pen.F sc__law_pen fun cdv A outer s H E hr hgd => ?_
  have h64 := hr.units
  have h65 := hu65 hr
  have h1 := hu1 hr
  have h4 := hu4 hr
  have sc := sc__law_pen
  refine ⟨_, pss_one (ps_ret (pe_disp (pps_cons (pe_str) (pv 0) (pps_cons (pe_str) (pe_int) (pps_cons (pe_str) (pe_int) (pps_nil)))) (by rfl) (by rfl) (fun z => by cases z) (by decide))), ?_⟩
  unfold m__law_pen
  exact es_retO (en_disp (eps_cons (k := .inr "script") (ev_var (i := 0)) (eps_cons (k := .inr "at") (ev_int) (eps_cons (k := .inr "left") (ev_int) (eps_nil)))))
theorem ok__law_draw (T : Txt K mg) : FnG P w K mg base 1 T.d__law_draw.f T.d__law_draw.fd P__law_draw (spP K mg false p__law_draw) := by
  refine fnP_G (k := 0) (m := m__law_draw) (np := 2) (nn := 7) rfl rfl rfl T.d__law_draw.F sc__law_draw fun cdv A outer s H E hr hgd => ?_
  have h64 := hr.units
  have h65 := hu65 hr
  have h1 := hu1 hr
  have h4 := hu4 hr
  have sc := sc__law_draw
  refine ⟨_, pss_cons (ps_set (i := 2) sc.nd rfl (Or.inl rfl) (pe_ix (ix_any_ (K := K) rfl h1) (pv 0) (pe_str) (fun _ _ => rfl)))
      (pss_cons (ps_set (i := 3) sc.nd rfl (Or.inl rfl) (pe_ix (ix_any_ (K := K) rfl h1) (pv 0) (pe_str) (fun _ _ => rfl)))
      (pss_cons (ps_if (pt_cmpR (op_eqD_ (K := K) rfl h64) (pe_ix (ix_any_ (K := K) rfl h1) (pv 0) (pe_str) (fun _ _ => rfl)) (pe_int) (nomark _)) (pss_cons (ps_asg (pe_op (op_addAny_ (K := K) rfl) (pv 3) (pe_int)) (pg_sub (pv 0) (pe_str) (set_any h1)))
      (pss_cons (ps_set (i := 4) sc.nd rfl (Or.inl rfl) (pe_int))
      (pss_cons (ps_if (pt_cmpR op_gt (pe_callB (call_lenAny_ (K := K) rfl) (by rfl) T.z_len (by decide +kernel) (pa_cons (pv 2) (pa_nil))) (pe_int) (nomark _)) (pss_one (ps_set (i := 4) sc.nd rfl (Or.inl rfl) (pe_ix (ix_any_ (K := K) rfl h1) (pv 2) (pe_op op_modN (pv 3) (pe_callB (call_lenAny_ (K := K) rfl) (by rfl) T.z_len (by decide +kernel) (pa_cons (pv 2) (pa_nil)))) (fun _ _ => rfl)))) (pss_nil))
      (pss_cons (ps_if (PW.pt (pw_or (pt_cmpR op_ge (pv 3) (pe_callB (call_lenAny_ (K := K) rfl) (by rfl) T.z_len (by decide +kernel) (pa_cons (pv 2) (pa_nil))) (nomark _)) (pw_or1 (pt_cmpR op_lt (pe_callB call_abs (by rfl) T.z_abs (by decide +kernel) (pa_cons (pv 4) (pa_nil))) (pe_op op_pow (pe_int) (pe_int)) (nomark _))))) (pss_cons (ps_set (i := 5) sc.nd rfl (Or.inl rfl) (pe_op op_modN (pe_op (op_mulAny_ (K := K) rfl) (pe_op (op_addAny_ (K := K) rfl) (pe_op (op_addAny_ (K := K) rfl) (pe_op op_modN (pv 4) (pe_int)) (pe_op (op_mulAny_ (K := K) rfl) (pe_int) (pv 3))) (pe_int)) (pe_int)) (pe_int)))
      (pss_cons (ps_set (i := 5) sc.nd rfl (Or.inl rfl) (pe_op op_modN (pe_op (op_addAny_ (K := K) rfl) (pe_op (op_addAny_ (K := K) rfl) (pe_op (op_mulAny_ (K := K) rfl) (pv 5) (pv 5)) (pe_op (op_mulAny_ (K := K) rfl) (pe_int) (pv 5))) (pv 3)) (pe_int)))
      (pss_one (ps_ret (pe_op op_modN (pe_op op_fdivN (pv 5) (pe_int)) (pv 1)))))) (pss_nil))
      (pss_one (ps_asg (pe_callB call_abs (by rfl) T.z_abs (by decide +kernel) (pa_cons (pv 4) (pa_nil))) (pg_sub (pv 0) (pe_str) (set_any h1)))))))) (pss_nil))
      (pss_cons (ps_set (i := 6) sc.nd rfl (Or.inl rfl) (pe_op op_modN (pe_ix (ix_any_ (K := K) rfl h1) (pv 0) (pe_str) (fun _ _ => rfl)) (pv 1)))
      (pss_cons (ps_asg (pe_op op_fdivN (pe_ix (ix_any_ (K := K) rfl h1) (pv 0) (pe_str) (fun _ _ => rfl)) (pv 1)) (pg_sub (pv 0) (pe_str) (set_any h1)))
      (pss_one (ps_ret (pv 6))))))), ?_⟩
  unfold m__law_draw
  exact es_seq (es_asgF (ev_imm (evt_ix (mg := mg) (W := fun cls d _ H => E cls d H) (evt_var (i := 0)) (ev_str))) (by decide))
      (es_seq (es_asgF (ev_imm (evt_ix (mg := mg) (W := fun cls d _ H => E cls d H) (evt_var (i := 0)) (ev_str))) (by decide))
      (es_seq (es_if (eb_of (ev_sc s_eq (er_consT (evt_ix (mg := mg) (W := fun cls d _ H => E cls d H) (evt_var (i := 0)) (ev_str)) (er_cons (ev_int) (er_nil))))) (es_seq (es_set (i := 0) ((en_n g_add (ea_cons (ev_var (i := 3)) (ea_cons (ev_int) ea_nil))).e) (ev_str))
      (es_seq (es_asgF (ev_int) (by decide))
      (es_seq (es_if (eb_of (ev_sc s_cmp (er_cons (ev_sc s_len (er_cons (ev_var (i := 2)) (er_nil))) (er_cons (ev_int) (er_nil))))) (es_asgF (ev_g g_ix (ea_cons (ev_var (i := 2)) (ea_cons (ev_sc s_mod (er_cons (ev_var (i := 3)) (er_cons (ev_sc s_len (er_cons (ev_var (i := 2)) (er_nil))) (er_nil)))) ea_nil))) (by decide)) (es_nx))
      (es_seq (es_if (eb_or (eb_of (ev_sc s_cmp (er_cons (ev_var (i := 3)) (er_cons (ev_sc s_len (er_cons (ev_var (i := 2)) (er_nil))) (er_nil))))) (eb_of (ev_sc s_cmp (er_cons (ev_sc s_abs (er_cons (ev_var (i := 4)) (er_nil))) (er_cons (ev_sc s_pow (er_cons (ev_int) (er_cons (ev_int) (er_nil)))) (er_nil)))))) (es_seq (es_asgF (ev_sc s_mod (er_cons ((en_n g_mul (ea_cons ((en_n g_add (ea_cons ((en_n g_add (ea_cons (ev_sc s_mod (er_cons (ev_var (i := 4)) (er_cons (ev_int) (er_nil)))) (ea_cons ((en_n g_mul (ea_cons (ev_int) (ea_cons (ev_var (i := 3)) ea_nil))).e) ea_nil))).e) (ea_cons (ev_int) ea_nil))).e) (ea_cons (ev_int) ea_nil))).e) (er_cons (ev_int) (er_nil)))) (by decide))
      (es_seq (es_asgF (ev_sc s_mod (er_cons ((en_n g_add (ea_cons ((en_n g_add (ea_cons ((en_n g_mul (ea_cons (ev_var (i := 5)) (ea_cons (ev_var (i := 5)) ea_nil))).e) (ea_cons ((en_n g_mul (ea_cons (ev_int) (ea_cons (ev_var (i := 5)) ea_nil))).e) ea_nil))).e) (ea_cons (ev_var (i := 3)) ea_nil))).e) (er_cons (ev_int) (er_nil)))) (by decide))
      (es_ret (ev_sc s_mod (er_cons (ev_sc s_fdiv (er_cons (ev_var (i := 5)) (er_cons (ev_int) (er_nil)))) (er_cons (ev_var (i := 1)) (er_nil))))))) (es_nx))
      (es_set (i := 0) (ev_sc s_abs (er_cons (ev_var (i := 4)) (er_nil))) (ev_str)))))) (es_nx))
      (es_seq (es_asgF (ev_sc s_mod (er_consT (evt_ix (mg := mg) (W := fun cls d _ H => E cls d H) (evt_var (i := 0)) (ev_str)) (er_cons (ev_var (i := 1)) (er_nil)))) (by decide))
      (es_seq (es_set (i := 0) (ev_sc s_fdiv (er_consT (evt_ix (mg := mg) (W := fun cls d _ H => E cls d H) (evt_var (i := 0)) (ev_str)) (er_cons (ev_var (i := 1)) (er_nil)))) (ev_str))
      (es_ret (ev_var (i := 6)))))))
theorem ok__law_any_turn (T : Txt K mg) : FnG P w K mg base 2 T.d__law_any_turn.f T.d__law_any_turn.fd P__law_any_turn (spP K mg true p__law_any_turn) := by
  refine fnP_G (k := 1) (m := m__law_any_turn) (np := 2) (nn := 4) rfl rfl rfl T.d__law_any_turn.F sc__law_any_turn fun cdv A outer s H E hr hgd => ?_
  have h64 := hr.units
  have h65 := hu65 hr
  have h1 := hu1 hr
  have h4 := hu4 hr
  have sc := sc__law_any_turn
  refine ⟨_, pss_cons (ps_set (i := 2) sc.nd rfl (Or.inr rfl) (pe_listRg rfl (by rfl) T.z_list (prg_1 (by rfl) T.z_range (pv 1))))
      (pss_one (ps_ret (pe_callTy (call_tupZ_ (K := K) rfl) (by rfl) T.z_tuple (by decide +kernel) (pa_cons (pe_lc (own := [("_law_k", 3)]) rfl sc.nd (pi_range1 (by rfl) T.z_range (pa_cons (pv 1) (pa_nil))) (blkOk_by (own := [("_law_k", 3)]) (N := N__law_any_turn) (sc := defScope s__law_any_turn) (by decide +kernel)) (fun _ _ _ _ _ => pg_name (i := 3) sc.nd rfl (Or.inl rfl)) (fun _ _ _ _ _ => pts_nil) (fun _ _ _ _ _ => pe_bm_ (K := K) rfl PySem.F.plainAttrs_list PySem.F.slot_list_pop PySem.F.type_list_pop mt_popAt (pv 2) (pa_cons (pe_callG (ok__law_draw T) (hr.mono (by decide)) hgd (by rfl) T.d__law_draw.mg T.d__law_draw.F.kp T.d__law_draw.b (fun σ => passAt takes0 σ) (pa_cons (pv 0) (pa_cons (pe_callB (call_lenAny_ (K := K) rfl) (by rfl) T.z_len (by decide +kernel) (pa_cons (pv 2) (pa_nil))) (pa_nil)))) (pa_nil)))) (pa_nil))))), ?_⟩
  unfold m__law_any_turn
  exact es_seq (es_asgO (en_n n_lstRg1 (ea_cons (ev_var (i := 1)) (ea_nil))) (by decide))
      (es_retO (en_z z_tuple (ea_cons ((en_lc (ws := [3]) (ei_range1 (er_cons (ev_var (i := 1)) (er_nil))) (eg_name 3) (eb_yes) (ev_mut (i := 2) mut_popAt (ea_cons (ev_callP (i := 0) (ea_cons (ev_sc s_len (er_consT (evt_var (i := 2)) (er_nil))) (ea_nil))) (ea_nil))) (by decide)).e) (ea_nil))))
theorem ok__law_near (T : Txt K mg) : FnG P w K mg base 1 T.d__law_near.f T.d__law_near.fd P__law_near (spF K mg true f__law_near) := by
  refine fnF_G (k := 0) (m := m__law_near) (np := 1) (nn := 5) rfl rfl rfl T.d__law_near.F sc__law_near fun cdv A outer s H E hr hgd => ?_
  have h64 := hr.units
  have h65 := hu65 hr
  have h1 := hu1 hr
  have h4 := hu4 hr
  have sc := sc__law_near
  refine ⟨_, pss_cons (ps_set (i := 1) sc.nd rfl (Or.inl rfl) (pe_lst (pa_nil)))
      (pss_cons (ps_for (passes_of rfl) rfl (pi_range1 (by rfl) T.z_range (pa_cons (pe_callB (call_lenAny_ (K := K) rfl) (by rfl) T.z_len (by decide +kernel) (pa_cons (pv 0) (pa_nil))) (pa_nil))) (pg_name (i := 2) sc.nd rfl (Or.inr rfl)) (pss_cons (ps_set (i := 3) sc.nd rfl (Or.inl rfl) (pe_op (op_addAny_ (K := K) rfl) (pe_listRg rfl (by rfl) T.z_list (prg_2 (by rfl) T.z_range (pe_un un_neg (pe_int)) (pe_int))) (pe_lst (pa_cons (pe_bl) (pa_cons (pe_bl) (pa_cons (pe_str) (pa_cons (pe_non) (pa_cons (pe_tup (pa_cons (pe_ix (ix_any_ (K := K) rfl h1) (pv 0) (pv 2) (fun _ _ => rfl)) (pa_nil))) (pa_cons (pe_lst (pa_cons (pe_ix (ix_any_ (K := K) rfl h1) (pv 0) (pv 2) (fun _ _ => rfl)) (pa_nil))) (pa_cons (pe_op op_pow (pe_int) (pe_int)) (pa_cons (pe_un un_neg (pe_op op_pow (pe_int) (pe_int))) (pa_nil))))))))))))
      (pss_cons (ps_expr (pe_bm PySem.F.plainAttrs_list PySem.F.slot_list_extend PySem.F.type_list_extend mt_extend (pv 1) (pa_cons (pe_lc (own := [("_law_one", 4)]) rfl sc.nd (pi_seq_ (K := K) rfl (pv 3)) (blkOk_by (own := [("_law_one", 4)]) (N := N__law_near) (sc := defScope s__law_near) (by decide +kernel)) (fun _ _ _ _ _ => pg_name (i := 4) sc.nd rfl (Or.inl rfl)) (fun _ _ _ _ _ => pts_nil) (fun _ _ _ _ _ => pe_op (op_catZ_ (K := K) rfl) (pe_op (op_catZ_ (K := K) rfl) (pe_slice (sl_tupZ_ (K := K) rfl) (pv 0) (po_none) (po_some (pv 2))) (pe_tupZ (pa_cons (pv 4) (pa_nil)))) (pe_slice (sl_tupZ_ (K := K) rfl) (pv 0) (po_some (pe_op (op_addAny_ (K := K) rfl) (pv 2) (pe_int))) (po_none)))) (pa_nil))))
      (pss_cons (ps_expr (pe_bm PySem.F.plainAttrs_list PySem.F.slot_list_append PySem.F.type_list_append mt_append (pv 1) (pa_cons (pe_op (op_catZ_ (K := K) rfl) (pe_slice (sl_tupZ_ (K := K) rfl) (pv 0) (po_none) (po_some (pv 2))) (pe_slice (sl_tupZ_ (K := K) rfl) (pv 0) (po_some (pe_op (op_addAny_ (K := K) rfl) (pv 2) (pe_int))) (po_none))) (pa_nil))))
      (pss_one (ps_expr (pe_bm PySem.F.plainAttrs_list PySem.F.slot_list_extend PySem.F.type_list_extend mt_extend (pv 1) (pa_cons (pe_lc (own := [("_law_one", 4)]) rfl sc.nd (pi_seq_ (K := K) rfl (pe_lst (pa_cons (pe_int) (pa_cons (pv 2) (pa_cons (pe_callB (call_lenAny_ (K := K) rfl) (by rfl) T.z_len (by decide +kernel) (pa_cons (pv 0) (pa_nil))) (pa_nil)))))) (blkOk_by (own := [("_law_one", 4)]) (N := N__law_near) (sc := defScope s__law_near) (by decide +kernel)) (fun _ _ _ _ _ => pg_name (i := 4) sc.nd rfl (Or.inl rfl)) (fun _ _ _ _ _ => pts_nil) (fun _ _ _ _ _ => pe_op (op_catZ_ (K := K) rfl) (pe_op (op_catZ_ (K := K) rfl) (pe_slice (sl_tupZ_ (K := K) rfl) (pv 0) (po_none) (po_some (pv 2))) (pe_tupZ (pa_cons (pv 4) (pa_nil)))) (pe_slice (sl_tupZ_ (K := K) rfl) (pv 0) (po_some (pv 2)) (po_none)))) (pa_nil)))))))))
      (pss_one (ps_ret (pv 1)))), ?_⟩
  unfold m__law_near
  exact es_seq (es_asgO (en_lst (ea_nil)) (by decide))
      (es_seq (es_for (ei_range1 (er_cons (ev_sc s_len (er_cons (ev_var (i := 0)) (er_nil))) (er_nil))) (eg_name 2) (es_seq (es_asgF ((en_n g_add (ea_cons ((en_n n_lstRg2 (ea_cons (ev_sc s_neg (er_cons (ev_int) (er_nil))) (ea_cons (ev_int) (ea_nil)))).e) (ea_cons ((en_lst (ea_cons (ev_bl) (ea_cons (ev_bl) (ea_cons (ev_str) (ea_cons (ev_non) (ea_cons ((en_tup (ea_cons (ev_g g_ix (ea_cons (ev_var (i := 0)) (ea_cons (ev_var (i := 2)) ea_nil))) (ea_nil))).e) (ea_cons ((en_lst (ea_cons (ev_g g_ix (ea_cons (ev_var (i := 0)) (ea_cons (ev_var (i := 2)) ea_nil))) (ea_nil))).e) (ea_cons (ev_sc s_pow (er_cons (ev_int) (er_cons (ev_int) (er_nil)))) (ea_cons (ev_sc s_neg (er_cons (ev_sc s_pow (er_cons (ev_int) (er_cons (ev_int) (er_nil)))) (er_nil))) (ea_nil)))))))))).e) ea_nil))).e) (by decide))
      (es_seq (es_drop (ev_mut (i := 1) mut_extend (ea_cons ((en_lc (ws := [4]) (ei_seq (ev_var (i := 3))) (eg_name 4) (eb_yes) ((en_z z_cat (ea_cons ((en_z z_cat (ea_cons ((en_sliceZ (ev_var (i := 0)) (eo_no) (eo_part (ev_var (i := 2)))).e) (ea_cons ((en_z z_tup (ea_cons (ev_var (i := 4)) (ea_nil))).e) ea_nil))).e) (ea_cons ((en_sliceZ (ev_var (i := 0)) (eo_part ((en_n g_add (ea_cons (ev_var (i := 2)) (ea_cons (ev_int) ea_nil))).e)) (eo_no)).e) ea_nil))).e) (by decide)).e) (ea_nil))))
      (es_seq (es_drop (ev_mut (i := 1) mut_append (ea_cons ((en_z z_cat (ea_cons ((en_sliceZ (ev_var (i := 0)) (eo_no) (eo_part (ev_var (i := 2)))).e) (ea_cons ((en_sliceZ (ev_var (i := 0)) (eo_part ((en_n g_add (ea_cons (ev_var (i := 2)) (ea_cons (ev_int) ea_nil))).e)) (eo_no)).e) ea_nil))).e) (ea_nil))))
      (es_drop (ev_mut (i := 1) mut_extend (ea_cons ((en_lc (ws := [4]) (ei_seq ((en_lst (ea_cons (ev_int) (ea_cons (ev_var (i := 2)) (ea_cons (ev_sc s_len (er_cons (ev_var (i := 0)) (er_nil))) (ea_nil))))).e)) (eg_name 4) (eb_yes) ((en_z z_cat (ea_cons ((en_z z_cat (ea_cons ((en_sliceZ (ev_var (i := 0)) (eo_no) (eo_part (ev_var (i := 2)))).e) (ea_cons ((en_z z_tup (ea_cons (ev_var (i := 4)) (ea_nil))).e) ea_nil))).e) (ea_cons ((en_sliceZ (ev_var (i := 0)) (eo_part (ev_var (i := 2))) (eo_no)).e) ea_nil))).e) (by decide)).e) (ea_nil))))))) (by decide))
      (es_retO (en_mv (i := 1))))
theorem ok_is_whole (T : Txt K mg) : FnG P w K mg base 1 T.d_is_whole.f T.d_is_whole.fd P_is_whole (spF K mg true f_is_whole) := by
  refine fnF_G (k := 0) (m := m_is_whole) (np := 1) (nn := 1) rfl rfl rfl T.d_is_whole.F sc_is_whole fun cdv A outer s H E hr hgd => ?_
  have h64 := hr.units
  have h65 := hu65 hr
  have h1 := hu1 hr
  have h4 := hu4 hr
  have sc := sc_is_whole
  refine ⟨_, pss_one (ps_ret (pe_and (pe_callB (call_isi_ (K := K) rfl) (by rfl) T.z_isinstance (by decide +kernel) (pa_cons (pv 0) (pa_cons (pe_bltn (v := .ty "int") (by rfl) T.z_int (by decide +kernel) rfl) (pa_nil)))) (pe_one (pe_not (pe_callB (call_isi_ (K := K) rfl) (by rfl) T.z_isinstance (by decide +kernel) (pa_cons (pv 0) (pa_cons (pe_bltn (v := .ty "bool") (by rfl) T.z_bool (by decide +kernel) rfl) (pa_nil)))))))), ?_⟩
  unfold m_is_whole
  exact es_retO (en_imm (ev_andV (ev_sc (s_isi (T := .int)) (er_cons (ev_var (i := 0)) (er_cons (ev_ty (n := "int")) (er_nil)))) (ev_notV (ev_sc (s_isi (T := .bool)) (er_cons (ev_var (i := 0)) (er_cons (ev_ty (n := "bool")) (er_nil)))))))
theorem ok_is_turn_of (T : Txt K mg) : FnG P w K mg base 2 T.d_is_turn_of.f T.d_is_turn_of.fd P_is_turn_of (spF K mg true f_is_turn_of) := by
  refine fnF_G (k := 1) (m := m_is_turn_of) (np := 2) (nn := 3) rfl rfl rfl T.d_is_turn_of.F sc_is_turn_of fun cdv A outer s H E hr hgd => ?_
  have h64 := hr.units
  have h65 := hu65 hr
  have h1 := hu1 hr
  have h4 := hu4 hr
  have sc := sc_is_turn_of
  refine ⟨_, pss_cons (ps_if (PW.pt (pw_or (pt_not (pt_val (pe_callB (call_isi_ (K := K) rfl) (by rfl) T.z_isinstance (by decide +kernel) (pa_cons (pv 1) (pa_cons (pe_bltn (v := .ty "tuple") (by rfl) T.z_tuple (by decide +kernel) rfl) (pa_nil)))))) (pw_or (pt_cmpR (op_neD_ (K := K) rfl h64) (pe_callB (call_lenAny_ (K := K) rfl) (by rfl) T.z_len (by decide +kernel) (pa_cons (pv 1) (pa_nil))) (pv 0) (nomark _)) (pw_or1 (pt_not (pt_val (pe_callB (cr_all_ (K := K) rfl rfl) (by rfl) T.z_all (by decide +kernel) (pa_cons (pe_lc (own := [("one", 2)]) rfl sc.nd (pi_seq_ (K := K) rfl (pv 1)) (blkOk_by (own := [("one", 2)]) (N := N_is_turn_of) (sc := defScope s_is_turn_of) (by decide +kernel)) (fun _ _ _ _ _ => pg_name (i := 2) sc.nd rfl (Or.inl rfl)) (fun _ _ _ _ _ => pts_nil) (fun _ _ _ _ _ => pe_callG (ok_is_whole T) (hr.mono (by decide)) hgd (by rfl) T.d_is_whole.mg T.d_is_whole.F.kp T.d_is_whole.b (fun σ => passAt takes0 σ) (pa_cons (pv 2) (pa_nil)))) (pa_nil))))))))) (pss_one (ps_ret (pe_bl))) (pss_nil))
      (pss_one (ps_ret (pe_cmpR (op_eqD_ (K := K) rfl h64) (pe_callB (cr_sortT (K := K) rfl) (by rfl) T.z_sorted (by decide +kernel) (pa_cons (pv 1) (pa_nil))) (pe_listRg rfl (by rfl) T.z_list (prg_1 (by rfl) T.z_range (pv 0))) (nomark _)))), ?_⟩
  unfold m_is_turn_of
  exact es_seq (es_if (eb_or (eb_not (eb_ofB (ev_sc (s_isi (T := .tuple)) (er_cons (ev_var (i := 1)) (er_cons (ev_ty (n := "tuple")) (er_nil)))))) (eb_or (eb_of (ev_sc s_ne (er_cons (ev_sc s_len (er_cons (ev_var (i := 1)) (er_nil))) (er_cons (ev_var (i := 0)) (er_nil))))) (eb_not (eb_ofB (ev_sc s_all (er_cons ((en_lc (ws := [2]) (ei_seq (ev_var (i := 1))) (eg_name 2) (eb_yes) ((en_callF (ea_cons (ev_var (i := 2)) (ea_nil))).e) (by decide)).e) (er_nil))))))) (es_retO (en_imm (ev_bl))) (es_nx))
      (es_retO (en_imm (ev_sc s_eq (er_cons ((en_n n_sortTZ (ea_cons (ev_var (i := 1)) (ea_nil))).e) (er_cons ((en_n n_lstRg1 (ea_cons (ev_var (i := 0)) (ea_nil))).e) (er_nil))))))
theorem ok_is_turn (T : Txt K mg) : FnG P w K mg base 3 T.d_is_turn.f T.d_is_turn.fd P_is_turn (spF K mg true f_is_turn) := by
  refine fnF_G (k := 2) (m := m_is_turn) (np := 1) (nn := 1) rfl rfl rfl T.d_is_turn.F sc_is_turn fun cdv A outer s H E hr hgd => ?_
  have h64 := hr.units
  have h65 := hu65 hr
  have h1 := hu1 hr
  have h4 := hu4 hr
  have sc := sc_is_turn
  refine ⟨_, pss_one (ps_ret (pe_and (pe_callB (call_isi_ (K := K) rfl) (by rfl) T.z_isinstance (by decide +kernel) (pa_cons (pv 0) (pa_cons (pe_bltn (v := .ty "tuple") (by rfl) T.z_tuple (by decide +kernel) rfl) (pa_nil)))) (pe_and (pe_chain op_le op_le (pe_int) (pe_callB (call_lenAny_ (K := K) rfl) (by rfl) T.z_len (by decide +kernel) (pa_cons (pv 0) (pa_nil))) (pe_gi (by rfl) T.g_MOST_THINGS)) (pe_one (pe_callG (ok_is_turn_of T) (hr.mono (by decide)) hgd (by rfl) T.d_is_turn_of.mg T.d_is_turn_of.F.kp T.d_is_turn_of.b (fun σ => passAt (takes_of rfl rfl rfl rfl) σ) (pa_cons (pe_callB (call_lenAny_ (K := K) rfl) (by rfl) T.z_len (by decide +kernel) (pa_cons (pv 0) (pa_nil))) (pa_cons (pv 0) (pa_nil)))))))), ?_⟩
  unfold m_is_turn
  exact es_retO (en_imm (ev_andV (ev_sc (s_isi (T := .tuple)) (er_cons (ev_var (i := 0)) (er_cons (ev_ty (n := "tuple")) (er_nil)))) (ev_andV (ev_chain (f := fun i j => decide (i ≤ j)) (g := fun i j => decide (i ≤ j)) (er_cons (ev_int) (er_cons (ev_sc s_len (er_cons (ev_var (i := 0)) (er_nil))) (er_nil))) (ev_int)) ((en_callF (ea_cons (ev_sc s_len (er_cons (ev_var (i := 0)) (er_nil))) (ea_cons (ev_var (i := 0)) (ea_nil)))).e))))
theorem ok__law_due (T : Txt K mg) : FnG P w K mg base 1 T.d__law_due.f T.d__law_due.fd P__law_due (spF K mg true f__law_due) := by
  refine fnF_G (k := 0) (m := m__law_due) (np := 1) (nn := 3) rfl rfl rfl T.d__law_due.F sc__law_due fun cdv A outer s H E hr hgd => ?_
  have h64 := hr.units
  have h65 := hu65 hr
  have h1 := hu1 hr
  have h4 := hu4 hr
  have sc := sc__law_due
  refine ⟨_, pss_cons (ps_if (PW.pt (pw_or (pt_not (pt_val (pe_callB (call_isi_ (K := K) rfl) (by rfl) T.z_isinstance (by decide +kernel) (pa_cons (pv 0) (pa_cons (pe_bltn (v := .ty "tuple") (by rfl) T.z_tuple (by decide +kernel) rfl) (pa_nil)))))) (pw_or (pt_cmpR (op_eqD_ (K := K) rfl h64) (pe_callB (call_lenAny_ (K := K) rfl) (by rfl) T.z_len (by decide +kernel) (pa_cons (pv 0) (pa_nil))) (pe_int) (nomark _)) (pw_or1 (pt_cmpR op_gt (pe_callB (call_lenAny_ (K := K) rfl) (by rfl) T.z_len (by decide +kernel) (pa_cons (pv 0) (pa_nil))) (pe_int) (nomark _)))))) (pss_one (ps_ret (pe_bl))) (pss_nil))
      (pss_cons (ps_for (passes_of rfl) rfl (pi_seq_ (K := K) rfl (pv 0)) (pg_name (i := 1) sc.nd rfl (Or.inl rfl)) (pss_one (ps_if (PW.pt (pw_or (pt_not (pt_val (pe_callB (call_isi_ (K := K) rfl) (by rfl) T.z_isinstance (by decide +kernel) (pa_cons (pv 1) (pa_cons (pe_bltn (v := .ty "int") (by rfl) T.z_int (by decide +kernel) rfl) (pa_nil)))))) (pw_or1 (pt_val (pe_callB (call_isi_ (K := K) rfl) (by rfl) T.z_isinstance (by decide +kernel) (pa_cons (pv 1) (pa_cons (pe_bltn (v := .ty "bool") (by rfl) T.z_bool (by decide +kernel) rfl) (pa_nil)))))))) (pss_one (ps_ret (pe_bl))) (pss_nil))))
      (pss_one (ps_ret (pe_cmpR (op_eqD_ (K := K) rfl h64) (pe_lc (own := [("_law_number", 2)]) rfl sc.nd (pi_range1 (by rfl) T.z_range (pa_cons (pe_callB (call_lenAny_ (K := K) rfl) (by rfl) T.z_len (by decide +kernel) (pa_cons (pv 0) (pa_nil))) (pa_nil))) (blkOk_by (own := [("_law_number", 2)]) (N := N__law_due) (sc := defScope s__law_due) (by decide +kernel)) (fun _ _ _ _ _ => pg_name (i := 2) sc.nd rfl (Or.inl rfl)) (fun _ _ _ _ _ => pts_one (pt_cmpR (op_neD_ (K := K) rfl h64) (pe_bmZ PySem.F.slot_tuple_count PySem.F.type_tuple_count (mt_countT_ (K := K) rfl h65) (pv 0) (pa_cons (pv 2) (pa_nil))) (pe_int) (nomark _))) (fun _ _ _ _ _ => pv 2)) (pe_lst (pa_nil)) (nomark _))))), ?_⟩
  unfold m__law_due
  exact es_seq (es_if (eb_or (eb_not (eb_ofB (ev_sc (s_isi (T := .tuple)) (er_cons (ev_var (i := 0)) (er_cons (ev_ty (n := "tuple")) (er_nil)))))) (eb_or (eb_of (ev_sc s_eq (er_cons (ev_sc s_len (er_cons (ev_var (i := 0)) (er_nil))) (er_cons (ev_int) (er_nil))))) (eb_of (ev_sc s_cmp (er_cons (ev_sc s_len (er_cons (ev_var (i := 0)) (er_nil))) (er_cons (ev_int) (er_nil))))))) (es_retO (en_imm (ev_bl))) (es_nx))
      (es_seq (es_for (ei_seq (ev_var (i := 0))) (eg_name 1) (es_if (eb_or (eb_not (eb_ofB (ev_sc (s_isi (T := .int)) (er_cons (ev_var (i := 1)) (er_cons (ev_ty (n := "int")) (er_nil)))))) (eb_ofB (ev_sc (s_isi (T := .bool)) (er_cons (ev_var (i := 1)) (er_cons (ev_ty (n := "bool")) (er_nil)))))) (es_retO (en_imm (ev_bl))) (es_nx)) (by decide))
      (es_retO (en_imm (ev_sc s_eq (er_cons ((en_lc (ws := [2]) (ei_range1 (er_cons (ev_sc s_len (er_cons (ev_var (i := 0)) (er_nil))) (er_nil))) (eg_name 2) (eb_of (ev_sc s_ne (er_cons (ev_bmZ m_countZ (ev_var (i := 0)) (er_cons (ev_var (i := 2)) (er_nil))) (er_cons (ev_int) (er_nil))))) (ev_var (i := 2)) (by decide)).e) (er_cons ((en_lst (ea_nil)).e) (er_nil)))))))
theorem ok_law (T : Txt K mg) : FnG P w K mg base 4 T.d_law.f T.d_law.fd P_law (spF K mg true f_law) := by
  refine fnF_G (k := 3) (m := m_law) (np := 1) (nn := 7) rfl rfl rfl T.d_law.F sc_law fun cdv A outer s H E hr hgd => ?_
  have h64 := hr.units
  have h65 := hu65 hr
  have h1 := hu1 hr
  have h4 := hu4 hr
  have sc := sc_law
  refine ⟨_, pss_cons (ps_set (i := 1) sc.nd rfl (Or.inl rfl) (pe_callG (ok__law_pen T) (hr.mono (by decide)) hgd (by rfl) T.d__law_pen.mg T.d__law_pen.F.kp T.d__law_pen.b (fun σ => passAt (takes_of rfl rfl rfl rfl) σ) (pa_cons (pv 0) (pa_nil))))
      (pss_cons (ps_set (i := 2) sc.nd rfl (Or.inl rfl) (pe_callG (ok__law_any_turn T) (hr.mono (by decide)) hgd (by rfl) T.d__law_any_turn.mg T.d__law_any_turn.F.kp T.d__law_any_turn.b (fun σ => passAt (takes_of rfl rfl rfl rfl) σ) (pa_cons (pv 1) (pa_cons (pe_op (op_addAny_ (K := K) rfl) (pe_int) (pe_callG (ok__law_draw T) (hr.mono (by decide)) hgd (by rfl) T.d__law_draw.mg T.d__law_draw.F.kp T.d__law_draw.b (fun σ => passAt (takes_of rfl rfl rfl rfl) σ) (pa_cons (pv 1) (pa_cons (pe_int) (pa_nil))))) (pa_nil)))))
      (pss_cons (ps_set (i := 3) sc.nd rfl (Or.inl rfl) (pe_lst (pa_cons (pv 2) (pa_cons (pe_revZ_ (K := K) rfl (pv 2)) (pa_cons (pe_op (op_catZ_ (K := K) rfl) (pv 2) (pv 2)) (pa_cons (pe_callTy (call_list_of_ (K := K) rfl) (by rfl) T.z_list (by decide +kernel) (pa_cons (pv 2) (pa_nil))) (pa_cons (pe_tup (pa_cons (pv 2) (pa_nil))) (pa_cons (pe_lst (pa_cons (pv 2) (pa_nil))) (pa_cons (pe_dictEnum (K := K) rfl rfl (by rfl) T.z_dict (by rfl) T.z_enumerate (pv 2)) (pa_cons (pe_callTy (call_strZ (K := K) rfl hgd h65) (by rfl) T.z_str (by decide +kernel) (pa_cons (pv 2) (pa_nil))) (pa_nil)))))))))))
      (pss_cons (ps_set (i := 3) sc.nd rfl (Or.inl rfl) (pe_op (op_addAny_ (K := K) rfl) (pv 3) (pe_lst (pa_cons (pe_tup (pa_nil)) (pa_cons (pe_tupRgZ rfl (by rfl) T.z_tuple (prg_1 (by rfl) T.z_range (pe_int))) (pa_cons (pe_tupRg rfl (by rfl) T.z_tuple (prg_1 (by rfl) T.z_range (pe_int))) (pa_cons (pe_tupZ (pa_cons (pe_int) (pa_nil))) (pa_cons (pe_tupZ (pa_cons (pe_int) (pa_nil))) (pa_cons (pe_tup (pa_cons (pe_bl) (pa_nil))) (pa_cons (pe_tup (pa_cons (pe_int) (pa_cons (pe_bl) (pa_nil)))) (pa_cons (pe_non) (pa_cons (pe_int) (pa_cons (pe_bl) (pa_cons (pe_str) (pa_cons (pe_dnewK) (pa_cons (pe_lst (pa_nil)) (pa_nil)))))))))))))))))
      (pss_cons (ps_for (passes_of rfl) rfl (pi_seq_ (K := K) rfl (pe_op (op_addAny_ (K := K) rfl) (pv 3) (pe_callG (ok__law_near T) (hr.mono (by decide)) hgd (by rfl) T.d__law_near.mg T.d__law_near.F.kp T.d__law_near.b (fun σ => passAt (takes_of rfl rfl rfl rfl) σ) (pa_cons (pv 2) (pa_nil))))) (pg_name (i := 4) sc.nd rfl (Or.inl rfl)) (pss_cons (ps_set (i := 5) sc.nd rfl (Or.inl rfl) (pe_callB (call_reprA (K := K) rfl hgd h65) (by rfl) T.z_repr (by decide +kernel) (pa_cons (pv 4) (pa_nil))))
      (pss_cons (ps_set (i := 6) sc.nd rfl (Or.inl rfl) (pe_callG (ok_is_turn T) (hr.mono (by decide)) hgd (by rfl) T.d_is_turn.mg T.d_is_turn.F.kp T.d_is_turn.b (fun σ => passAt (takes_of rfl rfl rfl rfl) σ) (pa_cons (pv 4) (pa_nil))))
      (pss_one (ps_if (PW.pt (pw_or (pt_not (pt_val (pe_callB (call_isi_ (K := K) rfl) (by rfl) T.z_isinstance (by decide +kernel) (pa_cons (pv 6) (pa_cons (pe_bltn (v := .ty "bool") (by rfl) T.z_bool (by decide +kernel) rfl) (pa_nil)))))) (pw_or (pt_cmpR (op_neD_ (K := K) rfl h64) (pv 6) (pe_callG (ok__law_due T) (hr.mono (by decide)) hgd (by rfl) T.d__law_due.mg T.d__law_due.F.kp T.d__law_due.b (fun σ => passAt (takes_of rfl rfl rfl rfl) σ) (pa_cons (pv 4) (pa_nil))) (nomark _)) (pw_or1 (pt_cmpR (op_neD_ (K := K) rfl h64) (pe_callB (call_reprA (K := K) rfl hgd h65) (by rfl) T.z_repr (by decide +kernel) (pa_cons (pv 4) (pa_nil))) (pv 5) (nomark _)))))) (pss_one (ps_ret (pe_bl))) (pss_nil))))))
      (pss_one (ps_ret (pe_bl))))))), ?_⟩
  unfold m_law
  exact es_seq (es_asgO (en_callF (ea_cons (ev_var (i := 0)) (ea_nil))) (by decide))
      (es_seq (es_asgF ((en_callP (i := 1) (ea_cons ((en_n g_add (ea_cons (ev_int) (ea_cons (ev_callP (i := 1) (ea_cons (ev_int) (ea_nil))) ea_nil))).e) (ea_nil))).e) (by decide))
      (es_seq (es_asgF ((en_lst (ea_cons (ev_var (i := 2)) (ea_cons ((en_revZ (ev_var (i := 2))).e) (ea_cons ((en_z z_cat (ea_cons (ev_var (i := 2)) (ea_cons (ev_var (i := 2)) ea_nil))).e) (ea_cons ((en_n g_list (ea_cons (ev_var (i := 2)) (ea_nil))).e) (ea_cons ((en_tup (ea_cons (ev_var (i := 2)) (ea_nil))).e) (ea_cons ((en_lst (ea_cons (ev_var (i := 2)) (ea_nil))).e) (ea_cons ((en_dictEnZ (ea_cons (ev_var (i := 2)) ea_nil)).e) (ea_cons (ev_sc s_strZ (er_cons (ev_var (i := 2)) (er_nil))) (ea_nil)))))))))).e) (by decide))
      (es_seq (es_asgF ((en_n g_add (ea_cons (ev_var (i := 3)) (ea_cons ((en_lst (ea_cons ((en_tup (ea_nil)).e) (ea_cons ((en_z z_tupRg (ea_cons (ev_int) ea_nil)).e) (ea_cons ((en_n n_tupRg1 (ea_cons (ev_int) (ea_nil))).e) (ea_cons ((en_z z_tup (ea_cons (ev_int) (ea_nil))).e) (ea_cons ((en_z z_tup (ea_cons (ev_int) (ea_nil))).e) (ea_cons ((en_tup (ea_cons (ev_bl) (ea_nil))).e) (ea_cons ((en_tup (ea_cons (ev_int) (ea_cons (ev_bl) (ea_nil)))).e) (ea_cons (ev_non) (ea_cons (ev_int) (ea_cons (ev_bl) (ea_cons (ev_str) (ea_cons ((en_dnewK).e) (ea_cons ((en_lst (ea_nil)).e) (ea_nil))))))))))))))).e) ea_nil))).e) (by decide))
      (es_seq (es_for (ei_seq ((en_n g_add (ea_cons (ev_var (i := 3)) (ea_cons ((en_callF (ea_cons (ev_var (i := 2)) (ea_nil))).e) ea_nil))).e)) (eg_name 4) (es_seq (es_asgF (ev_sc s_reprA (er_cons (ev_var (i := 4)) (er_nil))) (by decide))
      (es_seq (es_asgF ((en_callF (ea_cons (ev_var (i := 4)) (ea_nil))).e) (by decide))
      (es_if (eb_or (eb_not (eb_ofB (ev_sc (s_isi (T := .bool)) (er_cons (ev_var (i := 6)) (er_cons (ev_ty (n := "bool")) (er_nil)))))) (eb_or (eb_of (ev_sc s_ne (er_cons (ev_var (i := 6)) (er_cons ((en_callF (ea_cons (ev_var (i := 4)) (ea_nil))).e) (er_nil))))) (eb_of (ev_sc s_ne (er_cons (ev_sc s_reprA (er_cons (ev_var (i := 4)) (er_nil))) (er_cons (ev_var (i := 5)) (er_nil))))))) (es_retO (en_imm (ev_bl))) (es_nx)))) (by decide))
      (es_retO (en_imm (ev_bl)))))))
end
end MM

set_option Elab.async false
set_option linter.all false
set_option maxRecDepth 100000
set_option maxHeartbeats 4000000
noncomputable section
namespace MM
open PySem PySem.Spec PyProof.Rows L2
def defAt_mk {K : PySem.W.Frag} {h : Heap} {mg : Str → Option Value} {x : Str} {st : Stmt} {ps : List Str} {f : Addr} {od an : Option Addr} {sl : Array (Option Value)} {oc kV dc pm cd ct : Value} (X : K.In h) (G : h.Ns mainGlobals mg)
    (a : PySem.W.nsIn K mainGlobals x = some (some (.ref f))) (l : K.lookup f = some ⟨oc, od, .func (PySem.W.fnOf x x (defArgs st) (defBody st) (defScope st) .none kV dc pm an cd ct), sl⟩) (c : PySem.W.codeIn K cd x = true) (k : PySem.W.keepIn K (.ref f) = true)
    (hb : ∀ (kV doc pm : Value) (an : Option Addr) (cdv ct : Value) (us : List Value), us.length = ps.length → bindArgs (PySem.W.fnOf x x (defArgs st) (defBody st) (defScope st) .none kV doc pm an cdv ct) ⟨us, []⟩ = pure (ps.zip us)) : DefAt K mg x st ps where
  f := f
  fd := PySem.W.fnOf x x (defArgs st) (defBody st) (defScope st) .none kV dc pm an cd ct
  mg := PySem.W.mg_of X G a
  F := fun_mk l c k
  b := (fun_mk l c k).binds hb
/-! ### the law -/
def spLaw (K : PySem.W.Frag) : Sp := fun vs H Q _ => ∃ (a : Addr) (ns : List Int), vs = [.ref a] ∧ SqL K H a (ns.map V.int) ∧ ns.length ≤ 63 ∧ ∀ H', Q (.bl true) H'
theorem spLaw_of {K : PySem.W.Frag} {mg : Str → Option Value} {f : List D → RF} (hf : ∀ ns : List Int, ns.length ≤ 63 → f [.scr ns] = .ret (.bl true)) (vs : List V) (H : Hp) (Q : VK) (E : XK) (h : spLaw K vs H Q E) : spF K mg true f vs H Q E := by
  obtain ⟨a, ns, rfl, hS, hl, q⟩ := h
  refine ⟨fun _ => False, [.scr ns], fun b z => z.elim, .cons (.scr ?_) .nil, ?_⟩
  · rw [show Fz (fun _ => False) H [] = H from funext fun b => fz_in (fun z => nomatch z) id]
    exact hS
  · rw [hf ns hl]
    intro v H' Fd S _ _
    obtain ⟨v', e, r⟩ := S.repH.one_inv
    cases e
    cases r
    exact q _
theorem all_mk {l : PySem.W.OpenLaw} {w : World} {K : PySem.W.Frag} {h : Heap} {mg : Str → Option Value} {fa : Addr} (hf : ∀ ns : List Int, ns.length ≤ 63 → f_law [.scr ns] = .ret (.bl true)) (X : K.In h) (G : h.Ns mainGlobals mg) (hfa : mg "law" = some (.ref fa))
    {f1 : Addr} {od1 an1 : Option Addr} {sl1 : Array (Option Value)} {oc1 kV1 dc1 pm1 cd1 ct1 : Value}
    {f2 : Addr} {od2 an2 : Option Addr} {sl2 : Array (Option Value)} {oc2 kV2 dc2 pm2 cd2 ct2 : Value}
    {f3 : Addr} {od3 an3 : Option Addr} {sl3 : Array (Option Value)} {oc3 kV3 dc3 pm3 cd3 ct3 : Value}
    {f4 : Addr} {od4 an4 : Option Addr} {sl4 : Array (Option Value)} {oc4 kV4 dc4 pm4 cd4 ct4 : Value}
    {f5 : Addr} {od5 an5 : Option Addr} {sl5 : Array (Option Value)} {oc5 kV5 dc5 pm5 cd5 ct5 : Value}
    {f6 : Addr} {od6 an6 : Option Addr} {sl6 : Array (Option Value)} {oc6 kV6 dc6 pm6 cd6 ct6 : Value}
    {f7 : Addr} {od7 an7 : Option Addr} {sl7 : Array (Option Value)} {oc7 kV7 dc7 pm7 cd7 ct7 : Value}
    {f8 : Addr} {od8 an8 : Option Addr} {sl8 : Array (Option Value)} {oc8 kV8 dc8 pm8 cd8 ct8 : Value}
    {f9 : Addr} {od9 an9 : Option Addr} {sl9 : Array (Option Value)} {oc9 kV9 dc9 pm9 cd9 ct9 : Value}
    {tg0 : Tok}
    (a1 : PySem.W.nsIn K mainGlobals "_law_pen" = some (some (.ref f1))) (l1 : K.lookup f1 = some ⟨oc1, od1, .func (PySem.W.fnOf "_law_pen" "_law_pen" (defArgs s__law_pen) (defBody s__law_pen) (defScope s__law_pen) .none kV1 dc1 pm1 an1 cd1 ct1), sl1⟩) (c1 : PySem.W.codeIn K cd1 "_law_pen" = true) (k1 : PySem.W.keepIn K (.ref f1) = true)
    (a2 : PySem.W.nsIn K mainGlobals "_law_draw" = some (some (.ref f2))) (l2 : K.lookup f2 = some ⟨oc2, od2, .func (PySem.W.fnOf "_law_draw" "_law_draw" (defArgs s__law_draw) (defBody s__law_draw) (defScope s__law_draw) .none kV2 dc2 pm2 an2 cd2 ct2), sl2⟩) (c2 : PySem.W.codeIn K cd2 "_law_draw" = true) (k2 : PySem.W.keepIn K (.ref f2) = true)
    (a3 : PySem.W.nsIn K mainGlobals "_law_any_turn" = some (some (.ref f3))) (l3 : K.lookup f3 = some ⟨oc3, od3, .func (PySem.W.fnOf "_law_any_turn" "_law_any_turn" (defArgs s__law_any_turn) (defBody s__law_any_turn) (defScope s__law_any_turn) .none kV3 dc3 pm3 an3 cd3 ct3), sl3⟩) (c3 : PySem.W.codeIn K cd3 "_law_any_turn" = true) (k3 : PySem.W.keepIn K (.ref f3) = true)
    (a4 : PySem.W.nsIn K mainGlobals "_law_near" = some (some (.ref f4))) (l4 : K.lookup f4 = some ⟨oc4, od4, .func (PySem.W.fnOf "_law_near" "_law_near" (defArgs s__law_near) (defBody s__law_near) (defScope s__law_near) .none kV4 dc4 pm4 an4 cd4 ct4), sl4⟩) (c4 : PySem.W.codeIn K cd4 "_law_near" = true) (k4 : PySem.W.keepIn K (.ref f4) = true)
    (a5 : PySem.W.nsIn K mainGlobals "is_whole" = some (some (.ref f5))) (l5 : K.lookup f5 = some ⟨oc5, od5, .func (PySem.W.fnOf "is_whole" "is_whole" (defArgs s_is_whole) (defBody s_is_whole) (defScope s_is_whole) .none kV5 dc5 pm5 an5 cd5 ct5), sl5⟩) (c5 : PySem.W.codeIn K cd5 "is_whole" = true) (k5 : PySem.W.keepIn K (.ref f5) = true)
    (a6 : PySem.W.nsIn K mainGlobals "is_turn_of" = some (some (.ref f6))) (l6 : K.lookup f6 = some ⟨oc6, od6, .func (PySem.W.fnOf "is_turn_of" "is_turn_of" (defArgs s_is_turn_of) (defBody s_is_turn_of) (defScope s_is_turn_of) .none kV6 dc6 pm6 an6 cd6 ct6), sl6⟩) (c6 : PySem.W.codeIn K cd6 "is_turn_of" = true) (k6 : PySem.W.keepIn K (.ref f6) = true)
    (a7 : PySem.W.nsIn K mainGlobals "is_turn" = some (some (.ref f7))) (l7 : K.lookup f7 = some ⟨oc7, od7, .func (PySem.W.fnOf "is_turn" "is_turn" (defArgs s_is_turn) (defBody s_is_turn) (defScope s_is_turn) .none kV7 dc7 pm7 an7 cd7 ct7), sl7⟩) (c7 : PySem.W.codeIn K cd7 "is_turn" = true) (k7 : PySem.W.keepIn K (.ref f7) = true)
    (a8 : PySem.W.nsIn K mainGlobals "_law_due" = some (some (.ref f8))) (l8 : K.lookup f8 = some ⟨oc8, od8, .func (PySem.W.fnOf "_law_due" "_law_due" (defArgs s__law_due) (defBody s__law_due) (defScope s__law_due) .none kV8 dc8 pm8 an8 cd8 ct8), sl8⟩) (c8 : PySem.W.codeIn K cd8 "_law_due" = true) (k8 : PySem.W.keepIn K (.ref f8) = true)
    (a9 : PySem.W.nsIn K mainGlobals "law" = some (some (.ref f9))) (l9 : K.lookup f9 = some ⟨oc9, od9, .func (PySem.W.fnOf "law" "law" (defArgs s_law) (defBody s_law) (defScope s_law) .none kV9 dc9 pm9 an9 cd9 ct9), sl9⟩) (c9 : PySem.W.codeIn K cd9 "law" = true) (k9 : PySem.W.keepIn K (.ref f9) = true)
    (z_abs : PySem.W.nsIn K mainGlobals "abs" = some none)
    (z_all : PySem.W.nsIn K mainGlobals "all" = some none)
    (z_bool : PySem.W.nsIn K mainGlobals "bool" = some none)
    (z_dict : PySem.W.nsIn K mainGlobals "dict" = some none)
    (z_enumerate : PySem.W.nsIn K mainGlobals "enumerate" = some none)
    (z_int : PySem.W.nsIn K mainGlobals "int" = some none)
    (z_isinstance : PySem.W.nsIn K mainGlobals "isinstance" = some none)
    (z_len : PySem.W.nsIn K mainGlobals "len" = some none)
    (z_list : PySem.W.nsIn K mainGlobals "list" = some none)
    (z_range : PySem.W.nsIn K mainGlobals "range" = some none)
    (z_repr : PySem.W.nsIn K mainGlobals "repr" = some none)
    (z_sorted : PySem.W.nsIn K mainGlobals "sorted" = some none)
    (z_str : PySem.W.nsIn K mainGlobals "str" = some none)
    (z_tuple : PySem.W.nsIn K mainGlobals "tuple" = some none)
    (g_MOST_THINGS : PySem.W.nsIn K mainGlobals "MOST_THINGS" = some (some (.int 7 tg0))) :
    ∃ fd : FuncData, (∀ (s : Shared) (v : Value), BindsTo s fd ⟨[v], []⟩ [("_law_script", v)]) ∧ ∀ base : Heap, K.In base → base.Ns mainGlobals mg → FnG l.prog w K mg base 4 fa fd ["_law_script"] (spLaw K) := by
  have e := hfa.symm.trans (PySem.W.mg_of X G a9)
  cases e
  let T : Txt K mg := {
    d__law_pen := (defAt_mk X G a1 l1 c1 k1 fun _ _ _ _ _ _ us hl => by match us, hl with | [_], _ => rfl),
    d__law_draw := (defAt_mk X G a2 l2 c2 k2 fun _ _ _ _ _ _ us hl => by match us, hl with | [_, _], _ => rfl),
    d__law_any_turn := (defAt_mk X G a3 l3 c3 k3 fun _ _ _ _ _ _ us hl => by match us, hl with | [_, _], _ => rfl),
    d__law_near := (defAt_mk X G a4 l4 c4 k4 fun _ _ _ _ _ _ us hl => by match us, hl with | [_], _ => rfl),
    d_is_whole := (defAt_mk X G a5 l5 c5 k5 fun _ _ _ _ _ _ us hl => by match us, hl with | [_], _ => rfl),
    d_is_turn_of := (defAt_mk X G a6 l6 c6 k6 fun _ _ _ _ _ _ us hl => by match us, hl with | [_, _], _ => rfl),
    d_is_turn := (defAt_mk X G a7 l7 c7 k7 fun _ _ _ _ _ _ us hl => by match us, hl with | [_], _ => rfl),
    d__law_due := (defAt_mk X G a8 l8 c8 k8 fun _ _ _ _ _ _ us hl => by match us, hl with | [_], _ => rfl),
    d_law := (defAt_mk X G a9 l9 c9 k9 fun _ _ _ _ _ _ us hl => by match us, hl with | [_], _ => rfl),
    z_abs := PySem.W.mg_none_of X G z_abs,
    z_all := PySem.W.mg_none_of X G z_all,
    z_bool := PySem.W.mg_none_of X G z_bool,
    z_dict := PySem.W.mg_none_of X G z_dict,
    z_enumerate := PySem.W.mg_none_of X G z_enumerate,
    z_int := PySem.W.mg_none_of X G z_int,
    z_isinstance := PySem.W.mg_none_of X G z_isinstance,
    z_len := PySem.W.mg_none_of X G z_len,
    z_list := PySem.W.mg_none_of X G z_list,
    z_range := PySem.W.mg_none_of X G z_range,
    z_repr := PySem.W.mg_none_of X G z_repr,
    z_sorted := PySem.W.mg_none_of X G z_sorted,
    z_str := PySem.W.mg_none_of X G z_str,
    z_tuple := PySem.W.mg_none_of X G z_tuple,
    g_MOST_THINGS := ⟨_, PySem.W.mg_of X G g_MOST_THINGS⟩ }
  exact ⟨T.d_law.fd, fun s v => .of_eq rfl, fun base _ _ => (ok_law T).imp fun h => spLaw_of hf _ _ _ _ h⟩
end MM
open PySem PySem.W PyProof.Rows
set_option maxHeartbeats 0 in
theorem PySem.Challenge.cw_heldmarks_k01_turns_known_holds : PySem.Challenge.rw_heldmarks_k01_turns_known.Holds := by
  w_on; o_law; k_head; (case hw => w_witness2)
  k_fill
  refine MM.walk_G (l := PySem.Challenge.rw_heldmarks_k01_turns_known) (n := 63) (k := 4) (x := "_law_script") (sp := fun w => MM.spLaw _) rfl (by decide) rfl ⟨rfl, by decide, by decide⟩ (fun w h Y => PySem.W.kIn_of Y) ?F fun _ _ a ns hl _ hS => ⟨a, ns, rfl, hS, hl, fun _ => rfl⟩
  case F =>
    intro w mg fa h KX G hmg
    refine' MM.all_mk MM.maths KX G hmg ?a1 ?l1 ?c1 ?k1 ?a2 ?l2 ?c2 ?k2 ?a3 ?l3 ?c3 ?k3 ?a4 ?l4 ?c4 ?k4 ?a5 ?l5 ?c5 ?k5 ?a6 ?l6 ?c6 ?k6 ?a7 ?l7 ?c7 ?k7 ?a8 ?l8 ?c8 ?k8 ?a9 ?l9 ?c9 ?k9 ?z_abs ?z_all ?z_bool ?z_dict ?z_enumerate ?z_int ?z_isinstance ?z_len ?z_list ?z_range ?z_repr ?z_sorted ?z_str ?z_tuple ?g_MOST_THINGS
    (case a1 => k_is)
    (case l1 => k_is)
    (case c1 => k_is)
    (case k1 => k_is)
    (case a2 => k_is)
    (case l2 => k_is)
    (case c2 => k_is)
    (case k2 => k_is)
    (case a3 => k_is)
    (case l3 => k_is)
    (case c3 => k_is)
    (case k3 => k_is)
    (case a4 => k_is)
    (case l4 => k_is)
    (case c4 => k_is)
    (case k4 => k_is)
    (case a5 => k_is)
    (case l5 => k_is)
    (case c5 => k_is)
    (case k5 => k_is)
    (case a6 => k_is)
    (case l6 => k_is)
    (case c6 => k_is)
    (case k6 => k_is)
    (case a7 => k_is)
    (case l7 => k_is)
    (case c7 => k_is)
    (case k7 => k_is)
    (case a8 => k_is)
    (case l8 => k_is)
    (case c8 => k_is)
    (case k8 => k_is)
    (case a9 => k_is)
    (case l9 => k_is)
    (case c9 => k_is)
    (case k9 => k_is)
    (case z_abs => k_is)
    (case z_all => k_is)
    (case z_bool => k_is)
    (case z_dict => k_is)
    (case z_enumerate => k_is)
    (case z_int => k_is)
    (case z_isinstance => k_is)
    (case z_len => k_is)
    (case z_list => k_is)
    (case z_range => k_is)
    (case z_repr => k_is)
    (case z_sorted => k_is)
    (case z_str => k_is)
    (case z_tuple => k_is)
    (case g_MOST_THINGS => k_is)
