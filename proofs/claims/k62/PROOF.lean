import PyProof.Rows.All
import Wide.All
import OpenK.AllK
import Wide.FinOn
import HandS.ForMost
import HandS.Wide
import HandS.Codes
import HandS.Lambda
import HandS.TupAny
import HandS.Conv
import PyProof.ReprRoads
import HandS.Deep
import HandS.Style
import HandS.Zip
import KE.GoesMore
import KE.GoesEnum
import HandS.MakeKwOnly
import HandS.Ends
import HandS.EndTab
import KE.KNestM
import PyProof.ReprBulk
import KE.KSortKey
import KE.SortKeyHeap
import PyProof.Rows.Chain
import KE.KRevSl
import HandS.IsInst
import KE.DataMinMax
import KE.KDictSum
import ObjForm.LawKit
import HandS.DictComp
import HandS.SortInts
import HandS.SortKw
import HandS.More
import HandS.ExcInit
import KE.KExcIs
import HandS.ExcIs
import HandS.ExcField
import HandS.TupMul
import PyProof.Rows.IntBool
import HandS.SetFor
import HandS.Strs
import HandS.TupLen
import PyProof.DictTable
import HandS.Remove
import HandS.Replace
import KE.OsArith
import PySem.Challenge.RW_votemoves_k62_texts_of_ways_changed
set_option Elab.async false
set_option linter.all false
set_option maxRecDepth 100000
set_option maxHeartbeats 4000000
/-! AW1: data in place of heaps: what a value stands for, slots, the judgements. -/
namespace AW
open PySem PySem.Spec PyProof.Rows L2

/-! ### the tables of code objects that lambdas are entered into: the whole walk keeps an eye on them -/
class HasT where
  T : List (Addr × Str)
def Ntb (o : HO) : Prop := ∀ ps, o ≠ .tbl ps
theorem ntb_lst {vs : List V} : Ntb (.lst vs) := fun _ z => by cases z
/-- what a table or an entered code object may stand through -/
theorem tabs_step {T : List (Addr × Str)} {H H' : Hp} (h : ∀ b o, H b = some o → (∀ vs, o ≠ .lst vs) → H' b = some o) (t : LamX.Tabs T H) : LamX.Tabs T H' := fun p hp => by
  obtain ⟨ps, h1, h2, h3⟩ := t p hp
  refine ⟨ps, h _ _ h1 (fun vs z => by cases z), h2, fun pos cv hc => ?_⟩
  obtain ⟨c, e, hco⟩ := h3 pos cv hc
  exact ⟨c, e, h _ _ hco (fun vs z => by unfold LamX.CodeO at z; cases z)⟩

/-! ### data -/
def keyD : Key → PyData
  | .inl i => .int i
  | .inr x => .str x
/-- a list that is never changed any more: locked, or the module's own -/
def SqF (K : PySem.W.Frag) (H : Hp) (a : Addr) (xs : List V) : Prop :=
  (∃ o, H a = some (.frz o (.lst xs))) ∨ ∃ (its : List Value) (n : Nat), K.lookup a = some { cls := .type "list", data := .seq its.toArray n } ∧ xs.length ≤ sizeLine ∧ Vals xs its
def RdF (K : PySem.W.Frag) (H : Hp) (a : Addr) (xs : List V) : Prop := H a = some (.lst xs) ∨ SqF K H a xs
theorem SqF.sq {K : PySem.W.Frag} {H : Hp} {a : Addr} {xs : List V} (h : SqF K H a xs) : SqL K H a xs := by
  rcases h with ⟨o, h⟩ | ⟨its, n, h, z, r⟩
  · exact .inl (.inr ⟨o, h⟩)
  · exact .inr ⟨_, its.toArray, n, h, rfl, rfl, rfl, by rw [List.size_toArray, ← r.length]; exact z, r⟩
theorem RdF.sq {K : PySem.W.Frag} {H : Hp} {a : Addr} {xs : List V} (h : RdF K H a xs) : SqL K H a xs := by
  rcases h with h | h
  · exact .inl (.inl h)
  · exact h.sq
mutual
/-- v stands for the data d: its lists and dicts are locked, its tuples never change -/
inductive Rp (K : PySem.W.Frag) (H : Hp) : PyData → V → Prop
  | none : Rp K H .none .non
  | bool (b : Bool) : Rp K H (.bool b) (.bl b)
  | int (i : Int) : Rp K H (.int i) (.int i)
  | str (x : Str) : Rp K H (.str x) (.str x)
  | list {a : Addr} {xs : List V} {ds : List PyData} : SqF K H a xs → RpAll K H ds xs → Rp K H (.list ds) (.ref a)
  | tuple {a : Addr} {xs : List V} {ds : List PyData} : H a = some (.tup xs) → RpAll K H ds xs → Rp K H (.tuple ds) (.ref a)
  | dict {a : Addr} {o : Obj} {kvs : List (Key × V)} {es : List (PyData × PyData)} : H a = some (.frz o (.dK kvs)) → es.map (·.1) = kvs.map (fun kv => keyD kv.1) →
      RpAll K H (es.map (·.2)) (kvs.map (·.2)) → Rp K H (.dict es) (.ref a)
inductive RpAll (K : PySem.W.Frag) (H : Hp) : List PyData → List V → Prop
  | nil : RpAll K H [] []
  | cons {d : PyData} {ds : List PyData} {v : V} {vs : List V} : Rp K H d v → RpAll K H ds vs → RpAll K H (d :: ds) (v :: vs)
end
/-- what never changes any more -/
def Imm : HO → Prop
  | .tup _ => True
  | .frz _ _ => True
  | _ => False
theorem imm_ntb {o : HO} (h : Imm o) : Ntb o := fun ps z => by subst z; exact h
def Stb (H H' : Hp) : Prop := ∀ a o, Imm o → H a = some o → H' a = some o
theorem Stb.refl (H : Hp) : Stb H H := fun _ _ _ h => h
theorem Stb.trans {H H1 H2 : Hp} (a : Stb H H1) (b : Stb H1 H2) : Stb H H2 := fun c o i h => b c o i (a c o i h)
theorem Stb.tup {K : PySem.W.Frag} {H H' : Hp} {a : Addr} {xs : List V} (s : Stb H H') (h : SqT K H a xs) : SqT K H' a xs := by
  rcases h with (h | ⟨o, h⟩) | h
  · exact .inl (.inl (s _ _ trivial h))
  · exact .inl (.inr ⟨o, s _ _ trivial h⟩)
  · exact .inr h
theorem Stb.lst {K : PySem.W.Frag} {H H' : Hp} {a : Addr} {xs : List V} (s : Stb H H') (h : SqF K H a xs) : SqF K H' a xs := by
  rcases h with ⟨o, h⟩ | h
  · exact .inl ⟨o, s _ _ trivial h⟩
  · exact .inr h
section
variable {K : PySem.W.Frag} {H H' : Hp}
mutual
theorem Rp.mono (s : Stb H H') : ∀ (d : PyData) (v : V), Rp K H d v → Rp K H' d v
  | .none, _, h => by cases h; exact .none
  | .bool b, _, h => by cases h; exact .bool b
  | .int i, _, h => by cases h; exact .int i
  | .str x, _, h => by cases h; exact .str x
  | .list ds, _, h => by
    cases h with
    | list e r => exact .list (s.lst e) (RpAll.mono s ds _ r)
  | .tuple ds, _, h => by
    cases h with
    | tuple e r => exact .tuple (s _ _ trivial e) (RpAll.mono s ds _ r)
  | .dict es, _, h => by
    cases h with
    | dict e k r => exact .dict (s _ _ trivial e) k (RpAll.monoE s es _ r)
theorem RpAll.mono (s : Stb H H') : ∀ (ds : List PyData) (vs : List V), RpAll K H ds vs → RpAll K H' ds vs
  | [], _, h => by cases h; exact .nil
  | d :: ds, _, h => by
    cases h with
    | cons h t => exact .cons (Rp.mono s d _ h) (RpAll.mono s ds _ t)
theorem RpAll.monoE (s : Stb H H') : ∀ (es : List (PyData × PyData)) (vs : List V), RpAll K H (es.map (·.2)) vs → RpAll K H' (es.map (·.2)) vs
  | [], _, h => by cases h; exact .nil
  | (k, d) :: es, _, h => by
    cases h with
    | cons h t => exact .cons (Rp.mono s d _ h) (RpAll.monoE s es _ t)
end
theorem RpAll.length : ∀ {ds : List PyData} {vs : List V}, RpAll K H ds vs → ds.length = vs.length
  | [], _, h => by cases h; rfl
  | d :: ds, _, h => by
    cases h with
    | cons h t => simp [RpAll.length t]
theorem RpAll.get : ∀ {ds : List PyData} {vs : List V} {i : Nat} {d : PyData}, RpAll K H ds vs → ds[i]? = some d → ∃ v, vs[i]? = some v ∧ Rp K H d v
  | [], _, _, _, _, e => by simp at e
  | _ :: _, _, 0, _, h, e => by
    cases h with
    | cons h t => simp at e; subst e; exact ⟨_, rfl, h⟩
  | _ :: _, _, i + 1, _, h, e => by
    cases h with
    | cons h t =>
      obtain ⟨v, e1, r⟩ := RpAll.get (i := i) t (by simpa using e)
      exact ⟨v, by simpa using e1, r⟩
theorem RpAll.getV : ∀ {ds : List PyData} {vs : List V} {i : Nat} {v : V}, RpAll K H ds vs → vs[i]? = some v → ∃ d, ds[i]? = some d ∧ Rp K H d v
  | [], _, _, _, h, e => by cases h; simp at e
  | _ :: _, _, 0, _, h, e => by
    cases h with
    | cons h t => simp at e; subst e; exact ⟨_, rfl, h⟩
  | _ :: _, _, i + 1, _, h, e => by
    cases h with
    | cons h t =>
      obtain ⟨v, e1, r⟩ := RpAll.getV (i := i) t (by simpa using e)
      exact ⟨v, by simpa using e1, r⟩
theorem RpAll.append : ∀ {ds es : List PyData} {vs ws : List V}, RpAll K H ds vs → RpAll K H es ws → RpAll K H (ds ++ es) (vs ++ ws)
  | [], _, _, _, h, g => by cases h; exact g
  | _ :: _, _, _, _, h, g => by
    cases h with
    | cons h t => exact .cons h (RpAll.append t g)
theorem RpAll.set : ∀ {ds : List PyData} {vs : List V} {d : PyData} {v : V} (i : Nat), RpAll K H ds vs → Rp K H d v → RpAll K H (ds.set i d) (vs.set i v)
  | [], _, _, _, _, h, _ => by cases h; exact .nil
  | _ :: _, _, _, _, 0, h, r => by
    cases h with
    | cons h t => exact .cons r t
  | _ :: _, _, _, _, i + 1, h, r => by
    cases h with
    | cons h t => exact .cons h (RpAll.set i t r)
theorem RpAll.take : ∀ {ds : List PyData} {vs : List V} (n : Nat), RpAll K H ds vs → RpAll K H (ds.take n) (vs.take n)
  | [], _, n, h => by cases h; simp; exact .nil
  | _ :: _, _, 0, h => by simp; exact .nil
  | _ :: _, _, n + 1, h => by
    cases h with
    | cons h t => exact .cons h (RpAll.take n t)
theorem RpAll.drop : ∀ {ds : List PyData} {vs : List V} (n : Nat), RpAll K H ds vs → RpAll K H (ds.drop n) (vs.drop n)
  | [], _, n, h => by cases h; simp; exact .nil
  | _ :: _, _, 0, h => h
  | _ :: _, _, n + 1, h => by
    cases h with
    | cons h t => exact RpAll.drop n t
theorem RpAll.eraseIdx : ∀ {ds : List PyData} {vs : List V} (n : Nat), RpAll K H ds vs → RpAll K H (ds.eraseIdx n) (vs.eraseIdx n)
  | [], _, n, h => by cases h; simp; exact .nil
  | _ :: _, _, 0, h => by
    cases h with
    | cons h t => exact t
  | _ :: _, _, n + 1, h => by
    cases h with
    | cons h t => exact .cons h (RpAll.eraseIdx n t)
theorem RpAll.reverse : ∀ {ds : List PyData} {vs : List V}, RpAll K H ds vs → RpAll K H ds.reverse vs.reverse
  | [], _, h => by cases h; exact .nil
  | _ :: _, _, h => by
    cases h with
    | cons h t => simp only [List.reverse_cons]; exact (RpAll.reverse t).append (.cons h .nil)
theorem RpAll.rep {ds : List PyData} {vs : List V} (h : RpAll K H ds vs) : ∀ n : Nat, RpAll K H (List.replicate n ds).flatten (List.replicate n vs).flatten
  | 0 => by simp; exact .nil
  | n + 1 => by simp only [List.replicate_succ, List.flatten_cons]; exact h.append (RpAll.rep h n)
theorem RpAll.dropLast {ds : List PyData} {vs : List V} (h : RpAll K H ds vs) : RpAll K H ds.dropLast vs.dropLast := by
  rw [List.dropLast_eq_take, List.dropLast_eq_take, h.length]
  exact h.take _
theorem RpAll.ints : ∀ {ns : List Int} {vs : List V}, RpAll K H (ns.map PyData.int) vs → vs = ns.map V.int
  | [], _, h => by cases h; rfl
  | _ :: _, _, h => by
    cases h with
    | cons h t => cases h; simp [RpAll.ints t]
theorem RpAll.ints' : ∀ {ns : List Int}, RpAll K H (ns.map PyData.int) (ns.map V.int)
  | [] => .nil
  | _ :: _ => .cons (.int _) RpAll.ints'
theorem RpAll.bools : ∀ {ns : List Bool} {vs : List V}, RpAll K H (ns.map PyData.bool) vs → vs = ns.map V.bl
  | [], _, h => by cases h; rfl
  | _ :: _, _, h => by
    cases h with
    | cons h t => cases h; simp [RpAll.bools t]
theorem RpAll.strs : ∀ {ns : List Str} {vs : List V}, RpAll K H (ns.map PyData.str) vs → vs = ns.map V.str
  | [], _, h => by cases h; rfl
  | _ :: _, _, h => by
    cases h with
    | cons h t => cases h; simp [RpAll.strs t]
theorem RpAll.strs' : ∀ {ns : List Str}, RpAll K H (ns.map PyData.str) (ns.map V.str)
  | [] => .nil
  | _ :: _ => .cons (.str _) RpAll.strs'
theorem Rp.int_inv {i : Int} {v : V} (h : Rp K H (.int i) v) : v = .int i := by cases h; rfl
theorem Rp.bool_inv {i : Bool} {v : V} (h : Rp K H (.bool i) v) : v = .bl i := by cases h; rfl
theorem Rp.str_inv {i : Str} {v : V} (h : Rp K H (.str i) v) : v = .str i := by cases h; rfl
theorem Rp.none_inv {v : V} (h : Rp K H .none v) : v = .non := by cases h; rfl
end

/-! ### slots -/
/-- what a slot holds: nothing known, data, a list that it owns (p: the list was handed in by the caller, the slot keeps it) -/
inductive Dd where
  | k (es : List (Key × PyData))
  | t (es : List (List Key × PyData))
def Dd.vals : Dd → List PyData
  | .k es => es.map (·.2)
  | .t es => es.map (·.2)
/-- the dict at hand holds just these keys, in this order, and these values -/
def DcOk : Dd → HO → List V → Prop
  | .k es, o, vs => ∃ kvs, o = .dK kvs ∧ es.map (·.1) = kvs.map (·.1) ∧ vs = kvs.map (·.2)
  | .t es, o, vs => ∃ kvs, o = .dT kvs ∧ es.map (·.1) = kvs.map (·.1) ∧ vs = kvs.map (·.2)
theorem DcOk.nimm : ∀ {D : Dd} {o : HO} {vs : List V}, DcOk D o vs → ¬ Imm o
  | .k _, _, _, ⟨_, e, _⟩ => by subst e; exact id
  | .t _, _, _, ⟨_, e, _⟩ => by subst e; exact id
theorem DcOk.ntb : ∀ {D : Dd} {o : HO} {vs : List V}, DcOk D o vs → Ntb o
  | .k _, _, _, ⟨_, e, _⟩ => by subst e; exact fun _ z => by cases z
  | .t _, _, _, ⟨_, e, _⟩ => by subst e; exact fun _ z => by cases z
inductive SV where
  | un
  | dat (d : PyData)
  | hol (p : Bool) (ds : List PyData)
  | dic (D : Dd)
abbrev Nv := List SV
def SOk (K : PySem.W.Frag) (H : Hp) : SV → Option V → Prop
  | .un, _ => True
  | .dat d, s => ∃ v, s = some v ∧ Rp K H d v
  | .hol _ ds, s => ∃ a vs, s = some (.ref a) ∧ H a = some (.lst vs) ∧ RpAll K H ds vs
  | .dic D, s => ∃ a o vs, s = some (.ref a) ∧ H a = some o ∧ DcOk D o vs ∧ RpAll K H D.vals vs
/-- a slot that owns what it holds -/
def Owns : SV → Prop
  | .hol _ _ => True
  | .dic _ => True
  | _ => False
structure NvOk [HasT] (K : PySem.W.Frag) (H : Hp) (σ : L2.St) (ρ : Nv) : Prop where
  len : ρ.length = σ.length
  get : ∀ (i : Nat) (s : SV), ρ[i]? = some s → ∃ w, σ[i]? = some w ∧ SOk K H s w
  sep : ∀ (i j : Nat) (a : Addr) (s t : SV), i ≠ j → ρ[i]? = some s → ρ[j]? = some t → Owns s → Owns t → σ[i]? = some (some (.ref a)) → σ[j]? = some (some (.ref a)) → False
  tb : LamX.Tabs HasT.T H
def Mine (ρ : Nv) (σ : L2.St) (a : Addr) : Prop := ∃ (i : Nat) (s : SV), ρ[i]? = some s ∧ Owns s ∧ σ[i]? = some (some (V.ref a))
/-- two slots that own the same kind of thing in the same way -/
def SameK : SV → SV → Prop
  | .hol p _, .hol q _ => p = q
  | .dic _, .dic _ => True
  | _, _ => False
theorem SameK.owns {s t : SV} (h : SameK s t) : Owns s ∧ Owns t := by cases s <;> cases t <;> first | exact ⟨trivial, trivial⟩ | exact h.elim
theorem SameK.refl {s : SV} (h : Owns s) : SameK s s := by cases s <;> first | exact h.elim | exact rfl | exact trivial
theorem SameK.trans {s t u : SV} (h : SameK s t) (g : SameK t u) : SameK s u := by
  cases s <;> cases t <;> cases u <;> first | exact h.elim | exact g.elim | exact trivial | exact Eq.trans h g
theorem SameK.symm {s t : SV} (h : SameK s t) : SameK t s := by
  cases s <;> cases t <;> first | exact h.elim | exact trivial | exact Eq.symm h
theorem SameK.hol {p : Bool} {ds : List PyData} {t : SV} (h : SameK (.hol p ds) t) : ∃ es, t = .hol p es := by
  cases t with
  | hol q es => cases (show p = q from h); exact ⟨es, rfl⟩
  | _ => exact h.elim
theorem SameK.dic {ds : Dd} {t : SV} (h : SameK (.dic ds) t) : ∃ es, t = .dic es := by
  cases t with
  | dic es => exact ⟨es, rfl⟩
  | _ => exact h.elim
section
variable [HasT] {K : PySem.W.Frag} {H H' H1 H2 : Hp} {σ σ' σ1 σ2 : L2.St} {ρ ρ' ρ1 ρ2 : Nv} {i : Nat}
theorem NvOk.dat {d : PyData} (E : NvOk K H σ ρ) (h : ρ[i]? = some (.dat d)) : ∃ v, σ[i]? = some (some v) ∧ Rp K H d v := by
  obtain ⟨w, e, v, rfl, r⟩ := E.get i _ h
  exact ⟨v, e, r⟩
theorem NvOk.hol {p : Bool} {ds : List PyData} (E : NvOk K H σ ρ) (h : ρ[i]? = some (.hol p ds)) : ∃ a vs, σ[i]? = some (some (.ref a)) ∧ H a = some (.lst vs) ∧ RpAll K H ds vs := by
  obtain ⟨w, e, a, vs, rfl, r⟩ := E.get i _ h
  exact ⟨a, vs, e, r⟩
theorem NvOk.dic {D : Dd} (E : NvOk K H σ ρ) (h : ρ[i]? = some (.dic D)) : ∃ a o vs, σ[i]? = some (some (.ref a)) ∧ H a = some o ∧ DcOk D o vs ∧ RpAll K H D.vals vs := by
  obtain ⟨w, e, a, o, vs, rfl, r⟩ := E.get i _ h
  exact ⟨a, o, vs, e, r⟩
/-- what is mine is a list or a dict that is not locked -/
theorem NvOk.mine (E : NvOk K H σ ρ) {a : Addr} (h : Mine ρ σ a) : ∃ o, H a = some o ∧ ¬ Imm o := by
  obtain ⟨i, s, h1, hs, h2⟩ := h
  cases s with
  | hol p ds =>
    obtain ⟨b, vs, e, q, _⟩ := E.hol h1
    rw [h2] at e
    cases e
    exact ⟨_, q, id⟩
  | dic es =>
    obtain ⟨b, o, vs, e, q, dk, _⟩ := E.dic h1
    rw [h2] at e
    cases e
    exact ⟨_, q, dk.nimm⟩
  | un => exact hs.elim
  | dat d => exact hs.elim
theorem NvOk.imm (E : NvOk K H σ ρ) {a : Addr} {o : HO} (im : Imm o) (h : H a = some o) : ¬ Mine ρ σ a := fun m => by
  obtain ⟨o2, q, n⟩ := E.mine m
  rw [h] at q
  cases q
  exact n im
/-- behind an expression: the same slots; all that stood and is not mine stands -/
structure Pex [HasT] (K : PySem.W.Frag) (H : Hp) (ρ : Nv) (σ : L2.St) (H' : Hp) (ρ' : Nv) : Prop where
  kp : ∀ b o, H b = some o → ¬ Mine ρ σ b → Ntb o → H' b = some o
  th : ∀ b o, H b = some o → ∃ o', H' b = some o'
  so : ∀ (i : Nat) (s : SV), ρ'[i]? = some s → Owns s → ∃ t : SV, ρ[i]? = some t ∧ SameK s t
  os : ∀ (i : Nat) (s : SV), ρ[i]? = some s → Owns s → ∃ t : SV, ρ'[i]? = some t ∧ SameK s t
  ok : NvOk K H' σ ρ'
theorem Pex.sh (P : Pex K H ρ σ H' ρ') (i : Nat) (p : Bool) (ds : List PyData) (h : ρ'[i]? = some (SV.hol p ds)) : ∃ es : List PyData, ρ[i]? = some (SV.hol p es) := by
  obtain ⟨t, h1, h2⟩ := P.so i _ h trivial
  obtain ⟨es, rfl⟩ := h2.hol
  exact ⟨es, h1⟩
theorem Pex.hs (P : Pex K H ρ σ H' ρ') (i : Nat) (p : Bool) (ds : List PyData) (h : ρ[i]? = some (SV.hol p ds)) : ∃ es : List PyData, ρ'[i]? = some (SV.hol p es) := by
  obtain ⟨t, h1, h2⟩ := P.os i _ h trivial
  obtain ⟨es, rfl⟩ := h2.hol
  exact ⟨es, h1⟩
theorem Pex.refl (E : NvOk K H σ ρ) : Pex K H ρ σ H ρ := ⟨fun _ _ h _ _ => h, fun _ o h => ⟨o, h⟩, fun _ s h o => ⟨s, h, .refl o⟩, fun _ s h o => ⟨s, h, .refl o⟩, E⟩
theorem Pex.mn (P : Pex K H ρ σ H' ρ') {b : Addr} (h : Mine ρ' σ b) : Mine ρ σ b := by
  obtain ⟨i, s, h1, o, h2⟩ := h
  obtain ⟨t, h3, k⟩ := P.so i s h1 o
  exact ⟨i, t, h3, k.owns.2, h2⟩
theorem Pex.nm (P : Pex K H ρ σ H' ρ') {b : Addr} (h : Mine ρ σ b) : Mine ρ' σ b := by
  obtain ⟨i, s, h1, o, h2⟩ := h
  obtain ⟨t, h3, k⟩ := P.os i s h1 o
  exact ⟨i, t, h3, k.owns.2, h2⟩
theorem Pex.trans (A : Pex K H ρ σ H1 ρ1) (B : Pex K H1 ρ1 σ H2 ρ2) : Pex K H ρ σ H2 ρ2 where
  kp := fun b o h n t => B.kp b o (A.kp b o h n t) (fun m => n (A.mn m)) t
  th := fun b o h => let ⟨o1, h1⟩ := A.th b o h; B.th b o1 h1
  so := fun i s h o => let ⟨t, h1, k⟩ := B.so i s h o; let ⟨u, h2, k2⟩ := A.so i t h1 k.owns.2; ⟨u, h2, k.trans k2⟩
  os := fun i s h o => let ⟨t, h1, k⟩ := A.os i s h o; let ⟨u, h2, k2⟩ := B.os i t h1 k.owns.2; ⟨u, h2, k.trans k2⟩
  ok := B.ok
theorem Pex.stb (E : NvOk K H σ ρ) (P : Pex K H ρ σ H' ρ') : Stb H H' := fun a o im h => P.kp a o h (E.imm im h) (imm_ntb im)
theorem Pex.free (P : Pex K H ρ σ H' ρ') {a : Addr} (h : H' a = none) : H a = none := by
  cases q : H a with
  | none => rfl
  | some o =>
    obtain ⟨o', h'⟩ := P.th a o q
    rw [h] at h'
    cases h'
/-- behind a statement -/
structure Pst [HasT] (K : PySem.W.Frag) (H : Hp) (ρ : Nv) (σ : L2.St) (H' : Hp) (ρ' : Nv) (σ' : L2.St) : Prop where
  kp : ∀ b o, H b = some o → ¬ Mine ρ σ b → Ntb o → H' b = some o
  th : ∀ b o, H b = some o → ∃ o', H' b = some o'
  mn : ∀ b, Mine ρ' σ' b → Mine ρ σ b ∨ H b = none
  pn : ∀ (i : Nat) (ds : List PyData), ρ[i]? = some (SV.hol true ds) → (∃ es : List PyData, ρ'[i]? = some (SV.hol true es)) ∧ σ'[i]? = σ[i]?
  ok : NvOk K H' σ' ρ'
theorem Pst.refl (E : NvOk K H σ ρ) : Pst K H ρ σ H ρ σ := ⟨fun _ _ h _ _ => h, fun _ o h => ⟨o, h⟩, fun _ h => .inl h, fun _ ds h => ⟨⟨ds, h⟩, rfl⟩, E⟩
theorem Pst.trans (A : Pst K H ρ σ H1 ρ1 σ1) (B : Pst K H1 ρ1 σ1 H2 ρ2 σ2) : Pst K H ρ σ H2 ρ2 σ2 where
  kp := fun b o h n t => B.kp b o (A.kp b o h n t) (fun m => by
    rcases A.mn b m with z | z
    · exact n z
    · rw [h] at z; cases z) t
  th := fun b o h => let ⟨o1, h1⟩ := A.th b o h; B.th b o1 h1
  mn := fun b m => by
    rcases B.mn b m with z | z
    · exact A.mn b z
    · cases q : H b with
      | none => exact .inr rfl
      | some o =>
        obtain ⟨o', h'⟩ := A.th b o q
        rw [z] at h'
        cases h'
  pn := fun i ds h => by
    obtain ⟨⟨es, h1⟩, e1⟩ := A.pn i ds h
    obtain ⟨h2, e2⟩ := B.pn i es h1
    exact ⟨h2, e2.trans e1⟩
  ok := B.ok
theorem Pex.pst (P : Pex K H ρ σ H' ρ') : Pst K H ρ σ H' ρ' σ := ⟨P.kp, P.th, fun b m => .inl (P.mn m), fun i ds h => ⟨P.hs i true ds h, rfl⟩, P.ok⟩
theorem Pst.stb (E : NvOk K H σ ρ) (P : Pst K H ρ σ H' ρ' σ') : Stb H H' := fun a o im h => P.kp a o h (E.imm im h) (imm_ntb im)
theorem Pst.free (P : Pst K H ρ σ H' ρ' σ') {a : Addr} (h : H' a = none) : H a = none := by
  cases q : H a with
  | none => rfl
  | some o =>
    obtain ⟨o', h'⟩ := P.th a o q
    rw [h] at h'
    cases h'

/-! ### what an expression gives -/
/-- data; a new list that nobody else holds; the list of slot i -/
inductive AV where
  | dat (d : PyData)
  | frs (ds : List PyData)
  | own (i : Nat)
def VOk (K : PySem.W.Frag) (H0 H : Hp) (ρ : Nv) (σ : L2.St) : AV → V → Prop
  | .dat d, v => Rp K H d v
  | .frs ds, v => ∃ a vs, v = .ref a ∧ H0 a = none ∧ H a = some (.lst vs) ∧ RpAll K H ds vs
  | .own i, v => (∃ (p : Bool) (ds : List PyData), ρ[i]? = some (SV.hol p ds)) ∧ σ[i]? = some (some v)
theorem VOk.back {H0 : Hp} {x : AV} {v : V} (hf : ∀ a, H1 a = none → H0 a = none) (h : VOk K H1 H ρ σ x v) : VOk K H0 H ρ σ x v := by
  cases x with
  | dat d => exact h
  | frs ds => obtain ⟨a, vs, e, n, r⟩ := h; exact ⟨a, vs, e, hf a n, r⟩
  | own i => exact h
theorem VOk.step {x : AV} {v : V} (E : NvOk K H σ ρ) (A : Pex K H ρ σ H1 ρ1) (B : Pex K H1 ρ1 σ H2 ρ2) (h : VOk K H H1 ρ1 σ x v) : VOk K H H2 ρ2 σ x v := by
  have st : Stb H1 H2 := B.stb A.ok
  cases x with
  | dat d => exact Rp.mono st _ _ h
  | frs ds =>
    obtain ⟨a, vs, e, n, q, r⟩ := h
    refine ⟨a, vs, e, n, B.kp a _ q (fun m => ?_) ntb_lst, RpAll.mono st _ _ r⟩
    obtain ⟨ws, z, _⟩ := E.mine (A.mn m)
    rw [n] at z
    cases z
  | own i =>
    obtain ⟨⟨p, ds, h1⟩, h2⟩ := h
    exact ⟨⟨p, B.hs i p ds h1⟩, h2⟩
end

/-! ### the judgements -/
variable [HasT]
/-- the weakest reading -/
def tW (X : Cx) (e : Expr) : TE := fun σ H Q => ∀ (pins : List (Addr × Obj)) (s : Shared), Inv X pins σ H s → wpAny (model X.prog X.w) X.A (eval e X.env) (EP X pins σ Q) X.xe s
theorem pe_W {X : Cx} {e : Expr} : PE X e (tW X e) := ⟨fun pins s _ _ _ I h => h pins s I⟩
def tTW (X : Cx) (e : Expr) : TT := fun σ H Q => ∀ (pins : List (Addr × Obj)) (s : Shared), Inv X pins σ H s → wpAny (model X.prog X.w) X.A (isTrue e X.env (eval e X.env)) (TP X pins σ Q) X.xe s
theorem pt_W {X : Cx} {e : Expr} : PT X e (tTW X e) := ⟨fun pins s _ _ _ I h => h pins s I⟩
def tAW (X : Cx) (es : List Expr) : TA := fun σ H Q => ∀ (pos : Pos) (pins : List (Addr × Obj)) (s : Shared), Inv X pins σ H s → wpAny (model X.prog X.w) X.A (spliced (backTo pos (starEach es X.env))) (AP X pins σ Q) X.xe s
theorem pa_W {X : Cx} {es : List Expr} : PA X es (tAW X es) := ⟨fun pos pins s _ _ _ I h => h pos pins s I⟩
def tSW (X : Cx) (sts : List Stmt) : TS := fun D σ H => ∀ (pins : List (Addr × Obj)) (s : Shared), Inv X pins σ H s → wpAny (model X.prog X.w) X.A (execs sts X.env) (SP X pins D) X.xe s
theorem pss_W {X : Cx} {sts : List Stmt} : PSs X sts (tSW X sts) := ⟨fun pins s _ _ _ I h => h pins s I⟩
def tGW (X : Cx) (tg : Expr) : TG := fun v σ H Q => ∀ (pins : List (Addr × Obj)) (s : Shared) (u : Value), Inv X pins σ H s → RelV v u →
    wpAny (model X.prog X.w) X.A (assign tg X.env u) (fun _ s' => ∃ σ' H', Inv X pins σ' H' s' ∧ Q σ' H') X.xe s
theorem pg_W {X : Cx} {tg : Expr} : PG X tg (tGW X tg) := ⟨fun pins s _ _ _ u _ I r h => h pins s u I r⟩

abbrev QE := AV → Nv → Prop
/-- from the slots ρ the expression e comes to a value and slots of which Q holds -/
def EW (X : Cx) (e : Expr) (ρ : Nv) (Q : QE) : Prop := ∀ (σ : L2.St) (H : Hp) (R : VK), NvOk X.K H σ ρ →
  (∀ v H' x ρ', Pex X.K H ρ σ H' ρ' → VOk X.K H H' ρ' σ x v → Q x ρ' → R v H') → tW X e σ H R
def TW (X : Cx) (e : Expr) (ρ : Nv) (Q : Bool → Nv → Prop) : Prop := ∀ (σ : L2.St) (H : Hp) (R : Bool → Hp → Prop), NvOk X.K H σ ρ →
  (∀ b H' ρ', Pex X.K H ρ σ H' ρ' → Q b ρ' → R b H') → tTW X e σ H R
inductive VsOk (K : PySem.W.Frag) (H0 H : Hp) (ρ : Nv) (σ : L2.St) : List AV → List V → Prop
  | nil : VsOk K H0 H ρ σ [] []
  | cons {x : AV} {xs : List AV} {v : V} {vs : List V} : VOk K H0 H ρ σ x v → VsOk K H0 H ρ σ xs vs → VsOk K H0 H ρ σ (x :: xs) (v :: vs)
def EWs (X : Cx) (es : List Expr) (ρ : Nv) (Q : List AV → Nv → Prop) : Prop := ∀ (σ : L2.St) (H : Hp) (R : List V → Hp → Prop), NvOk X.K H σ ρ →
  (∀ vs H' xs ρ', Pex X.K H ρ σ H' ρ' → VsOk X.K H H' ρ' σ xs vs → Q xs ρ' → R vs H') → tAW X es σ H R
theorem VsOk.back {K : PySem.W.Frag} {H0 H1 H : Hp} {ρ : Nv} {σ : L2.St} (hf : ∀ a, H1 a = none → H0 a = none) : ∀ {xs : List AV} {vs : List V}, VsOk K H1 H ρ σ xs vs → VsOk K H0 H ρ σ xs vs
  | _, _, .nil => .nil
  | _, _, .cons h t => .cons (h.back hf) (VsOk.back hf t)
theorem VsOk.step {K : PySem.W.Frag} {H H1 H2 : Hp} {ρ ρ1 ρ2 : Nv} {σ : L2.St} (E : NvOk K H σ ρ) (A : Pex K H ρ σ H1 ρ1) (B : Pex K H1 ρ1 σ H2 ρ2) : ∀ {xs : List AV} {vs : List V}, VsOk K H H1 ρ1 σ xs vs → VsOk K H H2 ρ2 σ xs vs
  | _, _, .nil => .nil
  | _, _, .cons h t => .cons (h.step E A B) (VsOk.step E A B t)
theorem VsOk.length {K : PySem.W.Frag} {H0 H : Hp} {ρ : Nv} {σ : L2.St} : ∀ {xs : List AV} {vs : List V}, VsOk K H0 H ρ σ xs vs → xs.length = vs.length
  | _, _, .nil => rfl
  | _, _, .cons _ t => by simp [VsOk.length t]
theorem EWs.nil {X : Cx} {ρ : Nv} {Q : List AV → Nv → Prop} (h : Q [] ρ) : EWs X [] ρ Q := fun σ H R E k pos pins s I =>
  pa_nil.run pos pins s σ H R I (k [] H [] ρ (Pex.refl E) .nil h)
theorem EWs.cons {X : Cx} {e : Expr} {es : List Expr} {ρ : Nv} {Q : List AV → Nv → Prop} (h : EW X e ρ fun x ρ1 => EWs X es ρ1 fun xs ρ2 => Q (x :: xs) ρ2)
    (hs : starEach (e :: es) X.env = (false, eval e X.env) :: starEach es X.env := by rfl) : EWs X (e :: es) ρ Q := fun σ H R E k pos pins s I => by
  refine (pa_cons pe_W pa_W hs).run pos pins s σ H R I (h σ H _ E fun v H1 x ρ1 P1 V1 q => ?_)
  refine q σ H1 _ P1.ok fun vs H2 xs ρ2 P2 V2 q2 => ?_
  exact k _ _ _ _ (P1.trans P2) (.cons (V1.step E P1 P2) (V2.back fun a n => P1.free n)) q2
end AW

/-! AW2: freezing, arguments, promises of defs (with the guards known), calls, the end of a law. -/
namespace AW
variable [HasT]
open PySem PySem.Spec PyProof.Rows L2

/-! ### what every rule may lean on -/
structure Blt (mg : Str → Option Value) : Prop where
  len : mg "len" = none
  sum : mg "sum" = none
  abs : mg "abs" = none
  max : mg "max" = none
  min : mg "min" = none
  sorted : mg "sorted" = none
  all : mg "all" = none
  any : mg "any" = none
  tuple : mg "tuple" = none
  list : mg "list" = none
  int : mg "int" = none
  str : mg "str" = none
  repr : mg "repr" = none
  isinstance : mg "isinstance" = none
  range : mg "range" = none
  zip : mg "zip" = none
  enumerate : mg "enumerate" = none
  set : mg "set" = none
  dict : mg "dict" = none
  bool : mg "bool" = none
structure Ctx (X : Cx) (k : Nat) : Prop where
  blt : Blt X.mg
  room : Room k X.A
  grd : X.A.guards = some []
  calm : X.calm = true
  nd : X.N.Nodup
theorem Ctx.blk {X : Cx} {k : Nat} (C : Ctx X k) (s : Shared) (H : Hp) (scope : Scope) (cenv : Env) (fp : List Addr) : Ctx (X.blk s H scope cenv fp) k := ⟨C.blt, C.room, C.grd, C.calm, C.nd⟩
theorem Ctx.mono {X : Cx} {j k : Nat} (C : Ctx X k) (h : j ≤ k) : Ctx X j := ⟨C.blt, C.room.mono h, C.grd, C.calm, C.nd⟩

/-! ### a new list becomes data -/
def asD : AV → Option PyData
  | .dat d => some d
  | .frs ds => some (.list ds)
  | .own _ => none
theorem upd_mine {K : PySem.W.Frag} {H H1 : Hp} {ρ ρ1 : Nv} {σ : L2.St} {a : Addr} (E : NvOk K H σ ρ) (P : Pex K H ρ σ H1 ρ1) (n : H a = none) : ¬ Mine ρ1 σ a := fun m => by
  obtain ⟨ws, z, _⟩ := E.mine (P.mn m)
  rw [n] at z
  cases z
theorem freeze {X : Cx} {pins : List (Addr × Obj)} {s : Shared} {H H1 : Hp} {ρ ρ1 : Nv} {σ : L2.St} {x : AV} {v : V} {d : PyData} (I : L2.Inv X pins σ H1 s) (E : NvOk X.K H σ ρ) (P : Pex X.K H ρ σ H1 ρ1) (V : VOk X.K H H1 ρ1 σ x v) (hd : asD x = some d) :
    ∃ H2, L2.Inv X pins σ H2 s ∧ Pex X.K H ρ σ H2 ρ1 ∧ Rp X.K H2 d v := by
  cases x with
  | dat d' =>
    obtain rfl : d' = d := Option.some.inj hd
    exact ⟨H1, I, P, V⟩
  | own i => exact nomatch hd
  | frs ds =>
    obtain rfl : PyData.list ds = d := Option.some.inj hd
    obtain ⟨a, vs, rfl, n, e, r⟩ := V
    obtain ⟨od, I2⟩ := I.lock e trivial
    have nm := upd_mine E P n
    have st : Stb H1 (upd H1 a (.frz od (.lst vs))) := fun b o im h => by
      rw [upd_ne (fun z => by rw [z, e] at h; cases h; exact im)]; exact h
    refine ⟨_, I2, ⟨fun b o h hm => ?_, fun b o h => ?_, P.so, P.os, ⟨P.ok.len, fun i s h => ?_, P.ok.sep, tabs_step (fun b o h nl => by rw [upd_ne (fun z => by rw [z, e] at h; cases h; exact nl _ rfl)]; exact h) P.ok.tb⟩⟩, .list (.inl ⟨od, upd_same⟩) (RpAll.mono st _ _ r)⟩
    · rw [upd_ne (fun z => by rw [z, n] at h; cases h)]; exact P.kp b o h hm
    · rw [upd_ne (fun z => by rw [z, n] at h; cases h)]; exact P.th b o h
    · obtain ⟨w, e1, so⟩ := P.ok.get i s h
      refine ⟨w, e1, ?_⟩
      cases s with
      | un => trivial
      | dat d => obtain ⟨v, e2, r2⟩ := so; exact ⟨v, e2, Rp.mono st _ _ r2⟩
      | hol pp es =>
        obtain ⟨b, ws, e2, e3, r2⟩ := so
        refine ⟨b, ws, e2, ?_, RpAll.mono st _ _ r2⟩
        rw [upd_ne (fun z => ?_)]
        · exact e3
        · subst z
          exact nm ⟨i, _, h, trivial, by rw [e1, e2]⟩
      | dic es =>
        obtain ⟨b, o, ws, e2, e3, k3, r2⟩ := so
        refine ⟨b, o, ws, e2, ?_, k3, RpAll.mono st _ _ r2⟩
        rw [upd_ne (fun z => ?_)]
        · exact e3
        · subst z
          exact nm ⟨i, _, h, trivial, by rw [e1, e2]⟩
/-- the expression as data -/
abbrev EWd (X : Cx) (e : Expr) (ρ : Nv) (Q : PyData → Nv → Prop) : Prop := EW X e ρ fun x ρ1 => ∃ d, asD x = some d ∧ Q d ρ1
theorem EWd.run {X : Cx} {e : Expr} {ρ : Nv} {Q : PyData → Nv → Prop} (h : EWd X e ρ Q) {σ : L2.St} {H : Hp} {R : VK} (E : NvOk X.K H σ ρ) (k : ∀ v H' d ρ', Pex X.K H ρ σ H' ρ' → Rp X.K H' d v → Q d ρ' → R v H') : tW X e σ H R := fun pins s I => by
  refine thn (h σ H (fun v H1 => ∃ x ρ1, Pex X.K H ρ σ H1 ρ1 ∧ VOk X.K H H1 ρ1 σ x v ∧ ∃ d, asD x = some d ∧ Q d ρ1) E (fun v H' x ρ' P V q => ⟨x, ρ', P, V, q⟩) pins s I) fun u s1 ⟨v, H1, I1, r, x, ρ1, P, V, d, hd, q⟩ => ?_
  obtain ⟨H2, I2, P2, r2⟩ := freeze I1 E P V hd
  exact ⟨v, H2, I2, r, k v H2 d ρ1 P2 r2 q⟩
/-- several, as data -/
def EWds (X : Cx) (es : List Expr) (ρ : Nv) (Q : List PyData → Nv → Prop) : Prop := ∀ (σ : L2.St) (H : Hp) (R : List V → Hp → Prop), NvOk X.K H σ ρ →
  (∀ vs H' ds ρ', Pex X.K H ρ σ H' ρ' → RpAll X.K H' ds vs → Q ds ρ' → R vs H') → tAW X es σ H R
theorem EWds.nil {X : Cx} {ρ : Nv} {Q : List PyData → Nv → Prop} (h : Q [] ρ) : EWds X [] ρ Q := fun σ H R E k pos pins s I =>
  pa_nil.run pos pins s σ H R I (k [] H [] ρ (Pex.refl E) .nil h)
theorem EWds.cons {X : Cx} {e : Expr} {es : List Expr} {ρ : Nv} {Q : List PyData → Nv → Prop} (h : EW X e ρ fun x ρ1 => ∃ d, asD x = some d ∧ EWds X es ρ1 fun ds ρ2 => Q (d :: ds) ρ2)
    (hs : starEach (e :: es) X.env = (false, eval e X.env) :: starEach es X.env := by rfl) : EWds X (e :: es) ρ Q := fun σ H R E k pos pins s I => by
  refine (pa_cons pe_W pa_W hs).run pos pins s σ H R I (EWd.run h E fun v H1 d ρ1 P1 V1 q => ?_)
  refine q σ H1 _ P1.ok fun vs H2 ds ρ2 P2 V2 q2 => ?_
  exact k _ _ _ _ (P1.trans P2) (.cons (Rp.mono (P2.stb P1.ok) _ _ V1) V2) q2

/-! ### arguments: data, or the list that slot i owns -/
inductive GV where
  | d (d : PyData)
  | o (i : Nat)
def asG : AV → Option GV
  | .dat d => some (.d d)
  | .frs ds => some (.d (.list ds))
  | .own i => some (.o i)
def GOk (K : PySem.W.Frag) (H : Hp) (ρ : Nv) (σ : L2.St) : GV → V → Prop
  | .d d, v => Rp K H d v
  | .o i, v => (∃ (p : Bool) (ds : List PyData), ρ[i]? = some (SV.hol p ds)) ∧ σ[i]? = some (some v)
inductive GsOk (K : PySem.W.Frag) (H : Hp) (ρ : Nv) (σ : L2.St) : List GV → List V → Prop
  | nil : GsOk K H ρ σ [] []
  | cons {g : GV} {gs : List GV} {v : V} {vs : List V} : GOk K H ρ σ g v → GsOk K H ρ σ gs vs → GsOk K H ρ σ (g :: gs) (v :: vs)
def EWgs (X : Cx) (es : List Expr) (ρ : Nv) (Q : List GV → Nv → Prop) : Prop := ∀ (σ : L2.St) (H : Hp) (R : List V → Hp → Prop), NvOk X.K H σ ρ →
  (∀ vs H' gs ρ', Pex X.K H ρ σ H' ρ' → GsOk X.K H' ρ' σ gs vs → Q gs ρ' → R vs H') → tAW X es σ H R
theorem EWgs.nil {X : Cx} {ρ : Nv} {Q : List GV → Nv → Prop} (h : Q [] ρ) : EWgs X [] ρ Q := fun σ H R E k pos pins s I =>
  pa_nil.run pos pins s σ H R I (k [] H [] ρ (Pex.refl E) .nil h)
theorem freezeG {X : Cx} {pins : List (Addr × Obj)} {s : Shared} {H H1 : Hp} {ρ ρ1 : Nv} {σ : L2.St} {x : AV} {v : V} {g : GV} (I : L2.Inv X pins σ H1 s) (E : NvOk X.K H σ ρ) (P : Pex X.K H ρ σ H1 ρ1) (V : VOk X.K H H1 ρ1 σ x v) (hd : asG x = some g) :
    ∃ H2, L2.Inv X pins σ H2 s ∧ Pex X.K H ρ σ H2 ρ1 ∧ GOk X.K H2 ρ1 σ g v := by
  cases x with
  | own i =>
    obtain rfl : GV.o i = g := Option.some.inj hd
    exact ⟨H1, I, P, V⟩
  | dat d =>
    obtain rfl : GV.d d = g := Option.some.inj hd
    exact ⟨H1, I, P, V⟩
  | frs ds =>
    obtain rfl : GV.d (.list ds) = g := Option.some.inj hd
    exact freeze I E P V rfl
theorem EWg.run {X : Cx} {e : Expr} {ρ : Nv} {Q : GV → Nv → Prop} (h : EW X e ρ fun x ρ1 => ∃ g, asG x = some g ∧ Q g ρ1) {σ : L2.St} {H : Hp} {R : VK} (E : NvOk X.K H σ ρ) (k : ∀ v H' d ρ', Pex X.K H ρ σ H' ρ' → GOk X.K H' ρ' σ d v → Q d ρ' → R v H') : tW X e σ H R := fun pins s I => by
  refine thn (h σ H (fun v H1 => ∃ x ρ1, Pex X.K H ρ σ H1 ρ1 ∧ VOk X.K H H1 ρ1 σ x v ∧ ∃ d, asG x = some d ∧ Q d ρ1) E (fun v H' x ρ' P V q => ⟨x, ρ', P, V, q⟩) pins s I) fun u s1 ⟨v, H1, I1, r, x, ρ1, P, V, d, hd, q⟩ => ?_
  obtain ⟨H2, I2, P2, r2⟩ := freezeG I1 E P V hd
  exact ⟨v, H2, I2, r, k v H2 d ρ1 P2 r2 q⟩
theorem GOk.step {K : PySem.W.Frag} {H1 H2 : Hp} {ρ1 ρ2 : Nv} {σ : L2.St} {g : GV} {v : V} (E : NvOk K H1 σ ρ1) (P : Pex K H1 ρ1 σ H2 ρ2) (h : GOk K H1 ρ1 σ g v) : GOk K H2 ρ2 σ g v := by
  cases g with
  | d d => exact Rp.mono (P.stb E) _ _ h
  | o i => obtain ⟨⟨p, ds, h1⟩, h2⟩ := h; exact ⟨⟨p, P.hs i p ds h1⟩, h2⟩
theorem EWgs.cons {X : Cx} {e : Expr} {es : List Expr} {ρ : Nv} {Q : List GV → Nv → Prop} (h : EW X e ρ fun x ρ1 => ∃ g, asG x = some g ∧ EWgs X es ρ1 fun gs ρ2 => Q (g :: gs) ρ2)
    (hs : starEach (e :: es) X.env = (false, eval e X.env) :: starEach es X.env := by rfl) : EWgs X (e :: es) ρ Q := fun σ H R E k pos pins s I => by
  refine (pa_cons pe_W pa_W hs).run pos pins s σ H R I (EWg.run h E fun v H1 d ρ1 P1 V1 q => ?_)
  refine q σ H1 _ P1.ok fun vs H2 ds ρ2 P2 V2 q2 => ?_
  exact k _ _ _ _ (P1.trans P2) (.cons (V1.step P1.ok P2) V2) q2
/-- a list of ours, as a callee sees it -/
def lent : Option SV → SV
  | some (.hol _ ds) => .hol true ds
  | _ => .un
/-- .. and as it comes back -/
def come : Option SV → SV → SV
  | some (.hol p _), .hol _ ds => .hol p ds
  | _, _ => .un
/-- the arguments as the callee's slots -/
def svs (ρ : Nv) : List GV → List SV
  | [] => []
  | .d d :: gs => .dat d :: svs ρ gs
  | .o i :: gs => lent ρ[i]? :: svs ρ gs
/-- the callee's lists, back in our slots -/
def bck (ρ : Nv) : List GV → List SV → Nv
  | .d _ :: gs, _ :: ss => bck ρ gs ss
  | .o i :: gs, s :: ss => (bck ρ gs ss).set i (come ρ[i]? s)
  | _, _ => ρ
/-- the slots that are handed over -/
def owns : List GV → List Nat
  | [] => []
  | .d _ :: gs => owns gs
  | .o i :: gs => i :: owns gs

/-! ### promises of defs -/
/-- by the arguments: what is wanted of the value and of the arguments behind the call -/
abbrev ASp := List SV → (AV → List SV → Prop) → Prop
def notOwn : AV → Prop
  | .own _ => False
  | _ => True
def Pinned (as : List SV) : Prop := ∀ (i : Nat) (s : SV), as[i]? = some s → Owns s → ∃ ds, s = .hol true ds
def toSp (K : PySem.W.Frag) (A : ASp) : Sp := fun vs H Q _ => ∃ (as : List SV) (R : AV → List SV → Prop), NvOk K H (vs.map some) as ∧ Pinned as ∧ A as R ∧
  ∀ x as' v H', R x as' → Pex K H as (vs.map some) H' as' → VOk K H H' as' (vs.map some) x v → notOwn x → Q v H'
/-- a def's promise where the guards are known -/
structure FnG (P : Program) (w : World) (K : PySem.W.Frag) (mg : Str → Option Value) (base : Heap) (CX : CXT) (k : Nat) (f : Addr) (fd : FuncData) (ps : List Str) (sp : Sp) : Prop where
  len : ∀ vs H Q E, sp vs H Q E → vs.length = ps.length
  run : ∀ (A : Around) (outer : List Env) (s : Shared) (H : Hp) (args : Args) (us : List Value) (vs : List V) (Q : VK) (E : XK), A.guards = some [] → Room k A → Env0 P w K mg base A outer s H → BindsTo s fd args (ps.zip us) →
    Vals vs us → sp vs H Q E → codeAny (model P w) A (.call (.ref f) args) (CR CX outer P w H s Q E) s
theorem FnG.mono {P : Program} {w : World} {K : PySem.W.Frag} {mg : Str → Option Value} {base : Heap} {CX : CXT} {j k : Nat} {f : Addr} {fd : FuncData} {ps : List Str} {sp : Sp} (F : FnG P w K mg base CX j f fd ps sp) (h : j ≤ k) :
    FnG P w K mg base CX k f fd ps sp := ⟨F.len, fun A outer s H args us vs Q E g hr => F.run A outer s H args us vs Q E g (hr.mono h)⟩
/-- what a caller wants of a call -/
def backTo' (X : Cx) (pins : List (Addr × Obj)) (σ : L2.St) (Q : VK) : Result → Shared → Prop := fun r s' => match r with | .ok (.ret v) => EP X pins σ Q v s' | .ok _ => False | .error e => X.xe e s'
theorem cr_end {X : Cx} {CX : CXT} {E : XK} {pins : List (Addr × Obj)} {σ : L2.St} {H : Hp} {s : Shared} {Q : VK} (hx : Passes CX X E) (I : L2.Inv X pins σ H s) {r : Result} {s' : Shared} (hq : CR CX X.stack X.prog X.w H s Q E r s') : backTo' X pins σ Q r s' := by
  match r, hq with
  | .error e, hq => exact hx _ _ _ _ _ _ I hq
  | .ok (.ret u), hq => exact I.after hq
  | .ok .next, hq => exact False.elim hq
  | .ok .brk, hq => exact False.elim hq
  | .ok .cont, hq => exact False.elim hq
section
variable {X : Cx} {CX : CXT} {k : Nat} {f : Addr} {fd : FuncData} {ps ks : List Str} {sp : Sp} {E : XK} {x : Str} {p pos : Pos} {e : Expr} {es : List Expr} {kws : List Keyword} {t tk : TA}
theorem run_G {pins : List (Addr × Obj)} {σ : L2.St} {H : Hp} {s : Shared} {Q : VK} {us : List Value} {vs : List V} (F : FnG X.prog X.w X.K X.mg X.base CX k f fd ps sp) (C : Ctx X k) (hb : Binds X.K fd ps []) (hx : Passes CX X E)
    (I : L2.Inv X pins σ H s) (r : Vals vs us) (h : sp vs H Q E) : wpAny (model X.prog X.w) X.A (call (.ref f) us) (EP X pins σ Q) X.xe s := by
  have hl : (us ++ []).length = ps.length := by rw [List.append_nil, ← r.length]; exact F.len _ _ _ _ h
  have bt := hb s us I.kIn hl
  rw [List.append_nil] at bt
  exact wpAny_call (codeAny_mono (F.run _ _ s H ⟨us, []⟩ us vs Q E C.grd C.room I.env0 bt r h) fun r s' hq => cr_end hx I hq)
/-- f(e, ..) -/
theorem pe_G (F : FnG X.prog X.w X.K X.mg X.base CX k f fd ps sp) (C : Ctx X k) (hg : Gl X x) (hm : X.mg x = some (.ref f)) (hk : PySem.W.keepIn X.K (.ref f) = true) (hb : Binds X.K fd ps []) (hx : Passes CX X E) (ha : PA X (e :: es) t)
    (hdb : (x == ("__debug__" : Str)) = false := by decide) (he : starEach (e :: es) X.env = (false, eval e X.env) :: starEach es X.env := by rfl) (hpl : (backTo pos (starEach es X.env)).any (·.1) = false := by rfl) :
    PE X (.Call (.Name x p) (e :: es) [] pos) (tCall sp [] E t) := ⟨fun pins s σ H Q I h => by
  refine wpAny_Call_Name_kw (ld_glob I hg hm ?_ hdb)
  refine PySem.W.callWith_K (h₀ := X.base) I.ok.mod.kin hk (thn (ha.run pos pins s σ H _ I h) ?_) he hpl
  rintro us s1 ⟨vs, H1, I1, r, q⟩
  rw [List.append_nil] at q
  exact ⟨I1.kIn, run_G F C hb hx I1 r q⟩⟩
theorem pe_G0 (F : FnG X.prog X.w X.K X.mg X.base CX k f fd ps sp) (C : Ctx X k) (hg : Gl X x) (hm : X.mg x = some (.ref f)) (hk : PySem.W.keepIn X.K (.ref f) = true) (hb : Binds X.K fd ps []) (hx : Passes CX X E)
    (hdb : (x == ("__debug__" : Str)) = false := by decide) : PE X (.Call (.Name x p) [] [] pos) (tCall sp [] E tNil) := ⟨fun pins s σ H Q I h =>
  wpAny_Call_Name_kw (ld_glob I hg hm (PySem.W.callWith_K0 I.kIn hk (run_G (us := []) F C hb hx I .nil h)) hdb)⟩
end
/-- THE RULE for a def -/
theorem fnG {CX : CXT} {P : Program} {w : World} {K : PySem.W.Frag} {mg : Str → Option Value} {base : Heap} {k : Nat} {f : Addr} {x qual : Str} {st : Stmt} {fd : FuncData} {N ps : List Str} {sp : Sp} (F : Fun K x qual st f fd) (S : FnScope N ps (defScope st))
    (len : ∀ vs H Q E, sp vs H Q E → vs.length = ps.length)
    (hbody : ∀ (cdv : Value), fd.code = cdv → ∀ (A : Around) (outer : List Env) (s : Shared) (H : Hp) (vs : List V) (Q : VK) (E : XK), A.guards = some [] → Room k (A.deeper (envOfC qual (defScope st) s.heap.objs.size f cdv)) → sp vs H Q E →
      tSW (cxOf CX P w K mg base N qual (defScope st) f cdv A outer s H E) (defBody st) { nx := fun _ H' => Q .non H', rt := Q } (start N vs) H) : FnG P w K mg base CX (k + 1) f fd ps sp := by
  obtain ⟨oc, od, kV, doc, pm, an, cdv, ct, osl, rfl, lk, hcd⟩ := F.ex
  refine ⟨len, fun A outer s H args us vs Q E g hr e0 hb r hsp => ?_⟩
  have kin := e0.mod.kin.keeps fun b o e => (e0.bs b o e).1
  have lim := e0.mod.nolimit.keeps fun b o e => (e0.bs b o e).1
  refine codeAny_call_function hr.depth (kin _ _ lk) rfl S.co S.gen rfl (PySem.W.codeRec_of kin hcd) (hb _ _ _ _ ?_)
  have kinds : ∀ y ∈ ps.zip us, (defScope st).names.lookup y.1 = some .local ∨ ((defScope st).names.lookup y.1 = some .cell ∧ ((cellsFrom (s.heap.objs.size + 1) (defScope st).names []).lookup y.1).isSome = true) := by
    intro y hy
    have hp := (List.of_mem_zip (show (y.1, y.2) ∈ ps.zip us from hy)).1
    exact (S.par _ hp).imp id fun q => ⟨q, PySem.W.cellsFrom_some _ _ _ (.inl q)⟩
  refine wpAny_newFunctionEnv_cells S.kind kinds fun env he s1 ic => ?_
  subst he
  refine ⟨lim.keeps ic.toInCall.keep, codeAny_func ?_⟩
  have I := inv_start (CX := CX) (E := E) S hr.hd e0 (len _ _ _ _ hsp) r ic
  refine wpAny_mono (hbody cdv rfl A outer s H vs Q E g (hr.deeper _) hsp [] s1 I) (fun fl s' hs => ?_) fun _ _ z => z
  match fl, hs with
  | .ret u, ⟨v, σ', H', J, rv, q⟩ => exact ⟨v, H', J.os, J.bare, J.base, J.hok, rv, q⟩
  | .next, ⟨σ', H', J, q⟩ => exact ⟨.non, H', J.os, J.bare, J.base, J.hok, rfl, q⟩
  | .brk, ⟨_, _, _, q⟩ => exact q.elim
  | .cont, ⟨_, _, _, q⟩ => exact q.elim
end AW

/-! AW3: the call of a def by its promise; a def's promise by its body. -/
namespace AW
variable [HasT]
open PySem PySem.Spec PyProof.Rows L2

section
variable {K : PySem.W.Frag} {H H' : Hp} {ρ : Nv} {σ : L2.St}
theorem GsOk.length : ∀ {gs : List GV} {vs : List V}, GsOk K H ρ σ gs vs → gs.length = vs.length
  | _, _, .nil => rfl
  | _, _, .cons _ t => by simp [GsOk.length t]
theorem GsOk.get : ∀ {gs : List GV} {vs : List V} {j : Nat} {g : GV}, GsOk K H ρ σ gs vs → gs[j]? = some g → ∃ v, vs[j]? = some v ∧ GOk K H ρ σ g v
  | _, _, _, _, .nil, h => by simp at h
  | _, _, 0, _, .cons h _, e => by simp at e; subst e; exact ⟨_, rfl, h⟩
  | _, _, j + 1, _, .cons _ t, e => by
    obtain ⟨v, e1, h⟩ := GsOk.get (j := j) t (by simpa using e)
    exact ⟨v, by simpa using e1, h⟩
theorem svs_length : ∀ gs : List GV, (svs ρ gs).length = gs.length
  | [] => rfl
  | .d _ :: gs => by simp [svs, svs_length gs]
  | .o _ :: gs => by simp [svs, svs_length gs]
def svG (ρ : Nv) : GV → SV
  | .d d => .dat d
  | .o i => lent ρ[i]?
theorem svs_get : ∀ (gs : List GV) (j : Nat), (svs ρ gs)[j]? = gs[j]?.map (svG ρ)
  | [], _ => by simp [svs]
  | .d _ :: gs, 0 => by simp [svs, svG]
  | .o _ :: gs, 0 => by simp [svs, svG]
  | .d _ :: gs, j + 1 => by simp [svs, svs_get gs j]
  | .o _ :: gs, j + 1 => by simp [svs, svs_get gs j]
theorem svs_hol {gs : List GV} {j : Nat} {p : Bool} {ds : List PyData} (h : (svs ρ gs)[j]? = some (.hol p ds)) : ∃ i q, gs[j]? = some (.o i) ∧ ρ[i]? = some (.hol q ds) ∧ p = true := by
  rw [svs_get] at h
  cases e : gs[j]? with
  | none => rw [e] at h; simp at h
  | some g =>
    rw [e] at h
    cases g with
    | d d => simp [svG] at h
    | o i =>
      simp only [Option.map_some, svG, Option.some.injEq] at h
      cases q : ρ[i]? with
      | none => rw [q] at h; simp [lent] at h
      | some s =>
        rw [q] at h
        cases s with
        | un => simp [lent] at h
        | dat d => simp [lent] at h
        | dic d => simp [lent] at h
        | hol q' es =>
          simp only [lent, SV.hol.injEq] at h
          obtain ⟨h1, rfl⟩ := h
          exact ⟨i, q', rfl, q, h1.symm⟩
theorem svs_owns {gs : List GV} {j : Nat} {s : SV} (h : (svs ρ gs)[j]? = some s) (o : Owns s) : ∃ ds, s = .hol true ds := by
  rw [svs_get] at h
  cases e : gs[j]? with
  | none => rw [e] at h; simp at h
  | some g =>
    rw [e] at h
    simp only [Option.map_some, Option.some.injEq] at h
    subst h
    cases g with
    | d d => exact o.elim
    | o i =>
      have o2 : Owns (lent ρ[i]?) := o
      show ∃ ds, lent ρ[i]? = _
      cases q : ρ[i]? with
      | none => rw [q] at o2; exact o2.elim
      | some s =>
        rw [q] at o2
        cases s with
        | hol p ds => exact ⟨ds, rfl⟩
        | _ => exact o2.elim
theorem ntb_dK {kvs : List (Key × V)} : Ntb (.dK kvs) := fun _ z => by cases z
theorem mem_owns : ∀ {gs : List GV} {i : Nat}, i ∈ owns gs → ∃ j : Nat, gs[j]? = some (GV.o i)
  | .d _ :: gs, i, h => let ⟨j, e⟩ := mem_owns (gs := gs) h; ⟨j + 1, by simpa using e⟩
  | .o i' :: gs, i, h => by
    rcases List.mem_cons.mp h with rfl | h
    · exact ⟨0, rfl⟩
    · obtain ⟨j, e⟩ := mem_owns (gs := gs) h
      exact ⟨j + 1, by simpa using e⟩
theorem owns_mem : ∀ {gs : List GV} {i j : Nat}, gs[j]? = some (.o i) → i ∈ owns gs
  | [], _, _, h => by simp at h
  | .d _ :: gs, i, 0, h => by simp at h
  | .o i' :: gs, i, 0, h => by simp at h; subst h; exact List.mem_cons_self
  | .d _ :: gs, i, j + 1, h => owns_mem (gs := gs) (j := j) (by simpa using h)
  | .o i' :: gs, i, j + 1, h => List.mem_cons_of_mem _ (owns_mem (gs := gs) (j := j) (by simpa using h))
theorem owns_one : ∀ {gs : List GV} {i j k : Nat}, (owns gs).Nodup → gs[j]? = some (.o i) → gs[k]? = some (.o i) → j = k
  | [], _, _, _, _, h, _ => by simp at h
  | g :: gs, i, 0, 0, _, _, _ => rfl
  | g :: gs, i, j + 1, k + 1, n, h1, h2 => by
    have n' : (owns gs).Nodup := by
      cases g with
      | d d => exact n
      | o i' => exact (List.nodup_cons.mp n).2
    exact congrArg (· + 1) (owns_one (gs := gs) (i := i) (j := j) (k := k) n' (by simpa using h1) (by simpa using h2))
  | g :: gs, i, 0, k + 1, n, h1, h2 => by
    simp at h1
    subst h1
    exact absurd (owns_mem (gs := gs) (j := k) (by simpa using h2)) (List.nodup_cons.mp n).1
  | g :: gs, i, j + 1, 0, n, h1, h2 => by
    simp at h2
    subst h2
    exact absurd (owns_mem (gs := gs) (j := j) (by simpa using h1)) (List.nodup_cons.mp n).1
theorem bck_length : ∀ (gs : List GV) (ss : List SV), (bck ρ gs ss).length = ρ.length
  | [], _ => by simp [bck]
  | .d _ :: gs, [] => by simp [bck]
  | .o _ :: gs, [] => by simp [bck]
  | .d _ :: gs, _ :: ss => by simp [bck, bck_length gs ss]
  | .o _ :: gs, _ :: ss => by simp [bck, bck_length gs ss]
theorem bck_out : ∀ {gs : List GV} {ss : List SV} {i : Nat}, i ∉ owns gs → (bck ρ gs ss)[i]? = ρ[i]?
  | [], _, _, _ => by simp [bck]
  | .d _ :: gs, [], _, _ => by simp [bck]
  | .o _ :: gs, [], _, _ => by simp [bck]
  | .d _ :: gs, _ :: ss, i, h => by simp only [bck]; exact bck_out (gs := gs) h
  | .o i' :: gs, _ :: ss, i, h => by
    simp only [bck]
    rw [List.getElem?_set_ne (fun e => h (by rw [← e]; exact List.mem_cons_self))]
    exact bck_out (gs := gs) fun z => h (List.mem_cons_of_mem _ z)
theorem bck_in : ∀ {gs : List GV} {ss : List SV} {i j : Nat} {s : SV}, (owns gs).Nodup → gs[j]? = some (.o i) → ss[j]? = some s → gs.length = ss.length → i < ρ.length → (bck ρ gs ss)[i]? = some (come ρ[i]? s)
  | [], _, _, _, _, _, h, _, _, _ => by simp at h
  | _ :: _, [], _, _, _, _, _, h, _, _ => by simp at h
  | .d _ :: gs, _ :: ss, i, 0, _, _, h, _, _, _ => by simp at h
  | .o i' :: gs, s' :: ss, i, 0, s, _, h, h2, _, hl => by
    simp at h h2
    subst h
    subst h2
    simp only [bck]
    rw [List.getElem?_set_self (by rw [bck_length]; exact hl)]
  | .d _ :: gs, _ :: ss, i, j + 1, s, n, h, h2, l, hl => by
    simp only [bck]
    exact bck_in (gs := gs) (j := j) n (by simpa using h) (by simpa using h2) (by simpa using l) hl
  | .o i' :: gs, _ :: ss, i, j + 1, s, n, h, h2, l, hl => by
    simp only [bck]
    have n' := List.nodup_cons.mp n
    have hm := owns_mem (gs := gs) (j := j) (i := i) (by simpa using h)
    rw [List.getElem?_set_ne (fun e => n'.1 (by rw [e]; exact hm))]
    exact bck_in (gs := gs) (j := j) n'.2 (by simpa using h) (by simpa using h2) (by simpa using l) hl
theorem get_lt {α : Type} {l : List α} {i : Nat} {x : α} (h : l[i]? = some x) : i < l.length := (List.getElem?_eq_some_iff.mp h).1
/-- the arguments as slots -/
theorem GsOk.nv (E : NvOk K H σ ρ) {gs : List GV} {vs : List V} (G : GsOk K H ρ σ gs vs) (n : (owns gs).Nodup) : NvOk K H (vs.map some) (svs ρ gs) where
  len := by rw [svs_length, List.length_map, G.length]
  get := fun j s h => by
    rw [svs_get] at h
    cases e : gs[j]? with
    | none => rw [e] at h; simp at h
    | some g =>
      rw [e] at h
      obtain ⟨v, hv, gv⟩ := G.get e
      refine ⟨some v, by rw [List.getElem?_map, hv]; rfl, ?_⟩
      simp only [Option.map_some, Option.some.injEq] at h
      subst h
      cases g with
      | d d => exact ⟨v, rfl, gv⟩
      | o i =>
        obtain ⟨⟨p, ds, h1⟩, h2⟩ := gv
        obtain ⟨a, ws, e1, e2, r⟩ := E.hol h1
        rw [h2] at e1
        cases e1
        simp only [svG, h1, lent]
        exact ⟨a, ws, rfl, e2, r⟩
  sep := fun j k a s t hne h1 h2 o1 o2 e1 e2 => by
    obtain ⟨_, rfl⟩ := svs_owns h1 o1
    obtain ⟨_, rfl⟩ := svs_owns h2 o2
    obtain ⟨i1, p1, g1, r1, _⟩ := svs_hol h1
    obtain ⟨i2, p2, g2, r2, _⟩ := svs_hol h2
    obtain ⟨v1, w1, _, z1⟩ := G.get g1
    obtain ⟨v2, w2, _, z2⟩ := G.get g2
    rw [List.getElem?_map, w1] at e1
    rw [List.getElem?_map, w2] at e2
    simp only [Option.map_some, Option.some.injEq] at e1 e2
    subst e1
    subst e2
    by_cases hi : i1 = i2
    · subst hi
      exact hne (owns_one n g1 g2)
    · exact E.sep i1 i2 a _ _ hi r1 r2 trivial trivial z1 z2
  tb := E.tb
theorem GsOk.mine (E : NvOk K H σ ρ) {gs : List GV} {vs : List V} (G : GsOk K H ρ σ gs vs) {b : Addr} (m : Mine (svs ρ gs) (vs.map some) b) : ∃ (i j : Nat) (p : Bool) (ds : List PyData), gs[j]? = some (GV.o i) ∧ ρ[i]? = some (SV.hol p ds) ∧ σ[i]? = some (some (V.ref b)) := by
  obtain ⟨j, s, h, o, e⟩ := m
  obtain ⟨ds, rfl⟩ := svs_owns h o
  obtain ⟨i, q, g, r, _⟩ := svs_hol h
  obtain ⟨v, w, _, z⟩ := G.get g
  rw [List.getElem?_map, w] at e
  simp only [Option.map_some, Option.some.injEq] at e
  subst e
  exact ⟨i, j, q, ds, g, r, z⟩
/-- the call's end, in our slots -/
theorem GsOk.pex (E : NvOk K H σ ρ) {gs : List GV} {vs : List V} (G : GsOk K H ρ σ gs vs) (n : (owns gs).Nodup) {as' : List SV} (P : Pex K H (svs ρ gs) (vs.map some) H' as') : Pex K H ρ σ H' (bck ρ gs as') := by
  have E2 := G.nv E n
  have st := P.stb E2
  have len : gs.length = as'.length := by rw [P.ok.len, List.length_map, G.length]
  -- a list that was handed over
  have own : ∀ {i j : Nat} {p : Bool} {ds : List PyData}, gs[j]? = some (.o i) → ρ[i]? = some (.hol p ds) → ∃ es a ws, as'[j]? = some (.hol true es) ∧ (bck ρ gs as')[i]? = some (.hol p es) ∧ σ[i]? = some (some (.ref a)) ∧ H' a = some (.lst ws) ∧ RpAll K H' es ws := by
    intro i j p ds g r
    have h : (svs ρ gs)[j]? = some (.hol true ds) := by rw [svs_get, g]; simp [svG, r, lent]
    obtain ⟨es, h'⟩ := P.hs j true ds h
    obtain ⟨a, ws, e1, e2, e3⟩ := P.ok.hol h'
    obtain ⟨v, w, _, z⟩ := G.get g
    rw [List.getElem?_map, w] at e1
    simp only [Option.map_some, Option.some.injEq] at e1
    subst e1
    exact ⟨es, a, ws, h', by rw [bck_in n g h' len (get_lt r), r]; rfl, z, e2, e3⟩
  have so : ∀ {i : Nat} {s : SV}, (bck ρ gs as')[i]? = some s → Owns s → ∃ t, ρ[i]? = some t ∧ SameK s t := by
    intro i s h o
    by_cases hi : i ∈ owns gs
    · obtain ⟨j, g⟩ := mem_owns hi
      obtain ⟨v, w, ⟨q, es, r⟩, z⟩ := G.get g
      obtain ⟨es', a, ws, _, h2, _⟩ := own g r
      rw [h2] at h
      cases h
      exact ⟨_, r, rfl⟩
    · rw [bck_out hi] at h
      exact ⟨s, h, .refl o⟩
  refine ⟨fun b o h nm => P.kp b o h fun m => ?_, P.th, fun i s h o => so h o, fun i s h o => ?_, ⟨?_, fun i s h => ?_, fun i j a s t hne h1 h2 o1 o2 e1 e2 => ?_, P.ok.tb⟩⟩
  · obtain ⟨i, j, p, ds, _, r, z⟩ := G.mine E m
    exact nm ⟨i, _, r, trivial, z⟩
  · by_cases hi : i ∈ owns gs
    · obtain ⟨j, g⟩ := mem_owns hi
      obtain ⟨v, w, ⟨q, es, r⟩, z⟩ := G.get g
      rw [r] at h
      cases h
      obtain ⟨es', a, ws, _, h2, _⟩ := own g r
      exact ⟨_, h2, rfl⟩
    · exact ⟨s, by rw [bck_out hi]; exact h, .refl o⟩
  · rw [bck_length]; exact E.len
  · by_cases hi : i ∈ owns gs
    · obtain ⟨j, g⟩ := mem_owns hi
      obtain ⟨v, w, ⟨q, es, r⟩, z⟩ := G.get g
      obtain ⟨es', a, ws, _, h2, e1, e2, e3⟩ := own g r
      rw [h2] at h
      cases h
      exact ⟨_, e1, a, ws, rfl, e2, e3⟩
    · rw [bck_out hi] at h
      obtain ⟨w, e, so⟩ := E.get i s h
      refine ⟨w, e, ?_⟩
      cases s with
      | un => trivial
      | dat d => obtain ⟨v, e2, r⟩ := so; exact ⟨v, e2, Rp.mono st _ _ r⟩
      | hol p ds =>
        obtain ⟨a, vs', rfl, e2, r⟩ := so
        refine ⟨a, vs', rfl, P.kp a _ e2 (fun m => ?_) ntb_lst, RpAll.mono st _ _ r⟩
        obtain ⟨i', j, p', ds', g, r', z⟩ := G.mine E m
        have hne : i ≠ i' := fun q => hi (by rw [q]; exact owns_mem g)
        exact E.sep i i' a _ _ hne h r' trivial trivial e z
      | dic ds =>
        obtain ⟨a, o, vs', rfl, e2, k2, r⟩ := so
        refine ⟨a, o, vs', rfl, P.kp a _ e2 (fun m => ?_) k2.ntb, k2, RpAll.mono st _ _ r⟩
        obtain ⟨i', j, p', ds', g, r', z⟩ := G.mine E m
        have hne : i ≠ i' := fun q => hi (by rw [q]; exact owns_mem g)
        exact E.sep i i' a _ _ hne h r' trivial trivial e z
  · obtain ⟨s1, r1, k1⟩ := so h1 o1
    obtain ⟨s2, r2, k2⟩ := so h2 o2
    exact E.sep i j a _ _ hne r1 r2 k1.owns.2 k2.owns.2 e1 e2
end

/-! ### a def that is called by its name -/
structure Cal (P : Program) (w : World) (K : PySem.W.Frag) (mg : Str → Option Value) (base : Heap) (k : Nat) (x : Str) (A : ASp) : Prop where
  ex : ∃ (f : Addr) (fd : FuncData) (ps : List Str), FnG P w K mg base CX0 k f fd ps (toSp K A) ∧ mg x = some (.ref f) ∧ PySem.W.keepIn K (.ref f) = true ∧ Binds K fd ps []
theorem notOwn.vok {K : PySem.W.Frag} {H0 H1 H' : Hp} {ρ1 ρ2 : Nv} {σ1 σ2 : L2.St} {x : AV} {v : V} (n : notOwn x) (hf : ∀ a, H1 a = none → H0 a = none) (h : VOk K H1 H' ρ1 σ1 x v) : VOk K H0 H' ρ2 σ2 x v := by
  cases x with
  | dat d => exact h
  | frs ds => obtain ⟨a, vs, e, z, r⟩ := h; exact ⟨a, vs, e, hf a z, r⟩
  | own i => exact n.elim
theorem EW.call {X : Cx} {k : Nat} {x : Str} {A : ASp} {p pos : Pos} {e : Expr} {es : List Expr} {ρ : Nv} {Q : QE} (c : Cal X.prog X.w X.K X.mg X.base k x A) (C : Ctx X k) (hg : Gl X x) (h : EWgs X (e :: es) ρ fun gs ρ1 => (owns gs).Nodup ∧ A (svs ρ1 gs) fun y as' => Q y (bck ρ1 gs as'))
    (hdb : (x == ("__debug__" : Str)) = false := by decide) (he : starEach (e :: es) X.env = (false, eval e X.env) :: starEach es X.env := by rfl) (hpl : (backTo pos (starEach es X.env)).any (·.1) = false := by rfl) :
    EW X (.Call (.Name x p) (e :: es) [] pos) ρ Q := fun σ H R E kk pins s I => by
  obtain ⟨f, fd, ps, F, hm, hk, hb⟩ := c.ex
  refine (pe_G (E := E0) F C hg hm hk hb pass0 pa_W hdb he hpl).run pins s σ H R I (h σ H _ E fun vs H1 gs ρ1 P1 G1 q => ?_)
  obtain ⟨n, q⟩ := q
  rw [List.append_nil]
  refine ⟨svs ρ1 gs, _, G1.nv P1.ok n, fun i s h o => svs_owns h o, q, fun y as' v H' q2 P2 V2 no => ?_⟩
  have P3 := G1.pex P1.ok n P2
  exact kk v H' y _ (P1.trans P3) (no.vok (fun a z => P1.free z) V2) q2
theorem EW.call0 {X : Cx} {k : Nat} {x : Str} {A : ASp} {p pos : Pos} {ρ : Nv} {Q : QE} (c : Cal X.prog X.w X.K X.mg X.base k x A) (C : Ctx X k) (hg : Gl X x) (h : A [] fun y _ => Q y ρ)
    (hdb : (x == ("__debug__" : Str)) = false := by decide) : EW X (.Call (.Name x p) [] [] pos) ρ Q := fun σ H R E kk pins s I => by
  obtain ⟨f, fd, ps, F, hm, hk, hb⟩ := c.ex
  refine (pe_G0 (E := E0) F C hg hm hk hb pass0 hdb).run pins s σ H R I ?_
  have G : GsOk X.K H ρ σ [] [] := .nil
  refine ⟨[], _, G.nv E List.nodup_nil, fun i s h o => by simp at h, h, fun y as' v H' q2 P2 V2 no => ?_⟩
  exact kk v H' y _ (G.pex E List.nodup_nil P2) (no.vok (fun a z => z) V2) (by simpa [bck] using q2)

/-! ### statements -/
structure AEnds where
  nx : Nv → Prop
  rt : AV → Nv → Prop
  bk : Nv → Prop := fun _ => False
  ct : Nv → Prop := fun _ => False
def SW (X : Cx) (sts : List Stmt) (ρ : Nv) (E : AEnds) : Prop := ∀ (σ : L2.St) (H : Hp) (D : Ends), NvOk X.K H σ ρ →
  (∀ σ' H' ρ', Pst X.K H ρ σ H' ρ' σ' → E.nx ρ' → D.nx σ' H') → (∀ v σ' H' x ρ', Pst X.K H ρ σ H' ρ' σ' → VOk X.K H H' ρ' σ' x v → E.rt x ρ' → D.rt v H') →
  (∀ σ' H' ρ', Pst X.K H ρ σ H' ρ' σ' → E.bk ρ' → D.bk σ' H') → (∀ σ' H' ρ', Pst X.K H ρ σ H' ρ' σ' → E.ct ρ' → D.ct σ' H') → tSW X sts D σ H
/-- the arguments behind the body: the lists as they are, the rest as it was handed in -/
def fin : List SV → Nv → List SV
  | .hol p _ :: as, .hol _ es :: ρ => .hol p es :: fin as ρ
  | s :: as, _ :: ρ => s :: fin as ρ
  | as, _ => as
def retE (as : List SV) (R : AV → List SV → Prop) : AV → Nv → Prop
  | .dat d, ρ => R (.dat d) (fin as ρ)
  | .frs ds, ρ => R (.frs ds) (fin as ρ)
  | .own i, ρ => ∃ ds, ρ[i]? = some (.hol false ds) ∧ R (.frs ds) (fin as ρ)
def ends (as : List SV) (R : AV → List SV → Prop) : AEnds := { nx := fun ρ => R (.dat .none) (fin as ρ), rt := retE as R }
theorem fin_length : ∀ (as : List SV) (ρ : Nv), (fin as ρ).length = as.length
  | [], _ => by simp [fin]
  | .hol _ _ :: as, [] => by simp [fin]
  | .un :: as, [] => by simp [fin]
  | .dat _ :: as, [] => by simp [fin]
  | .dic _ :: as, [] => by simp [fin]
  | .hol _ _ :: as, .dic _ :: ρ => by simp [fin, fin_length as ρ]
  | .dic _ :: as, _ :: ρ => by simp [fin, fin_length as ρ]
  | .hol _ _ :: as, .hol _ _ :: ρ => by simp [fin, fin_length as ρ]
  | .hol _ _ :: as, .un :: ρ => by simp [fin, fin_length as ρ]
  | .hol _ _ :: as, .dat _ :: ρ => by simp [fin, fin_length as ρ]
  | .un :: as, _ :: ρ => by simp [fin, fin_length as ρ]
  | .dat _ :: as, _ :: ρ => by simp [fin, fin_length as ρ]
theorem fin_get : ∀ (as : List SV) (ρ : Nv) (i : Nat), (∀ (j : Nat) (p : Bool) (ds : List PyData), as[j]? = some (SV.hol p ds) → ∃ (q : Bool) (es : List PyData), ρ[j]? = some (SV.hol q es)) → (fin as ρ)[i]? = match as[i]? with
    | some (.hol p ds) => some (match ρ[i]? with | some (.hol _ es) => .hol p es | _ => .hol p ds)
    | s => s
  | [], _, i, _ => by simp [fin]
  | .hol p ds :: as, [], i, h => by obtain ⟨q, es, z⟩ := h 0 p ds rfl; simp at z
  | .un :: as, [], i, h => by
    simp only [fin, List.getElem?_nil]
    split <;> simp_all
  | .dat _ :: as, [], i, h => by
    simp only [fin, List.getElem?_nil]
    split <;> simp_all
  | .dic _ :: as, [], i, h => by
    simp only [fin, List.getElem?_nil]
    split <;> simp_all
  | .hol p ds :: as, .dic _ :: ρ, i, h => by obtain ⟨q, es, z⟩ := h 0 p ds rfl; simp at z
  | .dic _ :: as, s :: ρ, 0, h => by simp [fin]
  | .dic _ :: as, s :: ρ, i + 1, h => by
    simp only [fin, List.getElem?_cons_succ]
    exact fin_get as ρ i fun j p ds e => h (j + 1) p ds (by simpa using e)
  | .hol p ds :: as, .hol q es :: ρ, 0, h => by simp [fin]
  | .hol p ds :: as, .hol q es :: ρ, i + 1, h => by
    simp only [fin, List.getElem?_cons_succ]
    exact fin_get as ρ i fun j p ds e => h (j + 1) p ds (by simpa using e)
  | .hol p ds :: as, .un :: ρ, i, h => by obtain ⟨q, es, z⟩ := h 0 p ds rfl; simp at z
  | .hol p ds :: as, .dat _ :: ρ, i, h => by obtain ⟨q, es, z⟩ := h 0 p ds rfl; simp at z
  | .un :: as, s :: ρ, 0, h => by simp [fin]
  | .dat _ :: as, s :: ρ, 0, h => by simp [fin]
  | .un :: as, s :: ρ, i + 1, h => by
    simp only [fin, List.getElem?_cons_succ]
    exact fin_get as ρ i fun j p ds e => h (j + 1) p ds (by simpa using e)
  | .dat _ :: as, s :: ρ, i + 1, h => by
    simp only [fin, List.getElem?_cons_succ]
    exact fin_get as ρ i fun j p ds e => h (j + 1) p ds (by simpa using e)
section
variable {K : PySem.W.Frag} {H H' : Hp} {vs : List V} {as : List SV} {n : Nat} {σ' : L2.St} {ρ' : Nv}
theorem nv_start {N : List Str} (E : NvOk K H (vs.map some) as) (hl : as.length ≤ N.length) : NvOk K H (L2.start N vs) (as ++ List.replicate (N.length - as.length) .un) := by
  have l : as.length = vs.length := by simpa using E.len
  refine ⟨by simp [L2.start]; omega, fun i s h => ?_, fun i j a s t hne h1 h2 o1 o2 e1 e2 => ?_, E.tb⟩
  · by_cases hi : i < as.length
    · rw [List.getElem?_append_left hi] at h
      obtain ⟨w, e, so⟩ := E.get i s h
      refine ⟨w, ?_, so⟩
      unfold L2.start
      rw [List.getElem?_append_left (by simpa using l ▸ hi)]
      exact e
    · have hi' : as.length ≤ i := Nat.le_of_not_lt hi
      rw [List.getElem?_append_right hi'] at h
      have hb := get_lt h
      rw [List.length_replicate] at hb
      rw [List.getElem?_replicate, if_pos hb] at h
      cases h
      refine ⟨none, ?_, trivial⟩
      unfold L2.start
      rw [List.getElem?_append_right (by simp; omega), List.getElem?_replicate, if_pos (by simp; omega)]
  · have sm : ∀ {i : Nat} {s : SV}, (as ++ List.replicate (N.length - as.length) SV.un)[i]? = some s → Owns s → i < as.length ∧ as[i]? = some s := by
      intro i s h o
      by_cases hi : i < as.length
      · rw [List.getElem?_append_left hi] at h; exact ⟨hi, h⟩
      · rw [List.getElem?_append_right (Nat.le_of_not_lt hi)] at h
        have hb := get_lt h
        rw [List.length_replicate] at hb
        rw [List.getElem?_replicate, if_pos hb] at h
        cases h
        exact o.elim
    obtain ⟨b1, r1⟩ := sm h1 o1
    obtain ⟨b2, r2⟩ := sm h2 o2
    unfold L2.start at e1 e2
    rw [List.getElem?_append_left (by simpa using l ▸ b1)] at e1
    rw [List.getElem?_append_left (by simpa using l ▸ b2)] at e2
    exact E.sep i j a _ _ hne r1 r2 o1 o2 e1 e2
theorem mine_start {N : List Str} (E : NvOk K H (vs.map some) as) {b : Addr} (m : Mine (as ++ List.replicate (N.length - as.length) .un) (L2.start N vs) b) : Mine as (vs.map some) b := by
  have l : as.length = vs.length := by simpa using E.len
  obtain ⟨i, s, h, o, e⟩ := m
  by_cases hi : i < as.length
  · rw [List.getElem?_append_left hi] at h
    unfold L2.start at e
    rw [List.getElem?_append_left (by simpa using l ▸ hi)] at e
    exact ⟨i, s, h, o, e⟩
  · rw [List.getElem?_append_right (Nat.le_of_not_lt hi)] at h
    have hb := get_lt h
    rw [List.length_replicate] at hb
    rw [List.getElem?_replicate, if_pos hb] at h
    cases h
    exact o.elim
/-- the body's end, in the caller's terms -/
theorem pex_fin {N : List Str} (E : NvOk K H (vs.map some) as) (hp : Pinned as) (hl : as.length ≤ N.length) (P : Pst K H (as ++ List.replicate (N.length - as.length) .un) (L2.start N vs) H' ρ' σ') : Pex K H as (vs.map some) H' (fin as ρ') := by
  have l : as.length = vs.length := by simpa using E.len
  have E2 := nv_start E hl
  have st := P.stb E2
  have hol : ∀ {i : Nat} {p : Bool} {ds : List PyData}, as[i]? = some (.hol p ds) → ∃ es, ρ'[i]? = some (.hol true es) ∧ σ'[i]? = (vs.map some)[i]? ∧ p = true := by
    intro i p ds h
    obtain ⟨ds', hds⟩ := hp i _ h trivial
    cases hds
    have hi := get_lt h
    obtain ⟨⟨es, h1⟩, e1⟩ := P.pn i ds (by rw [List.getElem?_append_left hi]; exact h)
    refine ⟨es, h1, e1.trans ?_, rfl⟩
    unfold L2.start
    rw [List.getElem?_append_left (by simpa using l ▸ hi)]
  have fg := fun i => fin_get as ρ' i fun j p ds h => let ⟨es, z, _⟩ := hol h; ⟨true, es, z⟩
  have fh : ∀ {i : Nat} {p : Bool} {ds : List PyData}, (fin as ρ')[i]? = some (.hol p ds) → ∃ es, as[i]? = some (.hol p es) ∧ ρ'[i]? = some (.hol true ds) ∧ σ'[i]? = (vs.map some)[i]? := by
    intro i p ds h
    rw [fg i] at h
    cases e : as[i]? with
    | none => rw [e] at h; simp at h
    | some s =>
      rw [e] at h
      cases s with
      | un => simp at h
      | dat d => simp at h
      | dic d => obtain ⟨x, hx⟩ := hp i _ e trivial; cases hx
      | hol q es =>
        obtain ⟨fs, z, e1, rfl⟩ := hol e
        rw [z] at h
        simp only [Option.some.injEq, SV.hol.injEq] at h
        obtain ⟨h1, h2⟩ := h
        subst h1
        subst h2
        exact ⟨es, rfl, z, e1⟩
  have fo : ∀ {i : Nat} {s : SV}, (fin as ρ')[i]? = some s → Owns s → ∃ p ds, s = .hol p ds := by
    intro i s h o
    rw [fg i] at h
    cases e : as[i]? with
    | none => rw [e] at h; simp at h
    | some t =>
      rw [e] at h
      cases t with
      | un => simp at h; subst h; exact o.elim
      | dat d => simp at h; subst h; exact o.elim
      | dic d => obtain ⟨x, hx⟩ := hp i _ e trivial; cases hx
      | hol q es =>
        obtain ⟨fs, z, e1, rfl⟩ := hol e
        rw [z] at h
        simp at h
        exact ⟨_, _, h.symm⟩
  refine ⟨fun b o h nm => P.kp b o h fun m => nm (mine_start E m), P.th, fun i s h o => ?_, fun i s h o => ?_, ⟨by rw [fin_length]; exact E.len, fun i s h => ?_, fun i j a s t hne h1 h2 o1 o2 e1 e2 => ?_, P.ok.tb⟩⟩
  · obtain ⟨p, ds, rfl⟩ := fo h o
    obtain ⟨es, h1, _⟩ := fh h
    exact ⟨_, h1, rfl⟩
  · obtain ⟨ds, rfl⟩ := hp i s h o
    obtain ⟨es, z, _, _⟩ := hol h
    refine ⟨.hol true es, ?_, rfl⟩
    rw [fg i, h, z]
  · cases e : as[i]? with
    | none => rw [fg i, e] at h; simp at h
    | some s' =>
      obtain ⟨w, e1, so⟩ := E.get i s' e
      refine ⟨w, e1, ?_⟩
      cases s' with
      | un => rw [fg i, e] at h; simp at h; subst h; trivial
      | dat d =>
        rw [fg i, e] at h
        simp at h
        subst h
        obtain ⟨v, e2, r⟩ := so
        exact ⟨v, e2, Rp.mono st _ _ r⟩
      | dic d => obtain ⟨x, hx⟩ := hp i _ e trivial; cases hx
      | hol p ds =>
        obtain ⟨es, z, e2, rfl⟩ := hol e
        rw [fg i, e, z] at h
        simp only [Option.some.injEq] at h
        subst h
        obtain ⟨a, ws, e3, e4, r⟩ := P.ok.hol z
        rw [e2, e1] at e3
        cases e3
        exact ⟨a, ws, rfl, e4, r⟩
  · obtain ⟨_, _, rfl⟩ := fo h1 o1
    obtain ⟨_, _, rfl⟩ := fo h2 o2
    obtain ⟨es1, _, z1, y1⟩ := fh h1
    obtain ⟨es2, _, z2, y2⟩ := fh h2
    exact P.ok.sep i j a _ _ hne z1 z2 trivial trivial (y1.trans e1) (y2.trans e2)
end
/-- THE RULE for a def's promise by its body -/
theorem fnAc {CX : CXT} {P : Program} {w : World} {K : PySem.W.Frag} {mg : Str → Option Value} {base : Heap} {k : Nat} {f : Addr} {x qual : Str} {st : Stmt} {fd : FuncData} {N ps : List Str} {A : ASp} (F : Fun K x qual st f fd) (S : FnScope N ps (defScope st)) (hN : ps.length ≤ N.length) (hB : Blt mg)
    (len : ∀ as R, A as R → as.length = ps.length)
    (hbody : ∀ (cdv : Value), fd.code = cdv → ∀ (B : Around) (outer : List Env) (s : Shared) (H : Hp) (E : XK), Ctx (cxOf CX P w K mg base N qual (defScope st) f cdv B outer s H E) k → ∀ as R, A as R →
      SW (cxOf CX P w K mg base N qual (defScope st) f cdv B outer s H E) (defBody st) (as ++ List.replicate (N.length - as.length) .un) (ends as R)) : FnG P w K mg base CX (k + 1) f fd ps (toSp K A) := by
  refine fnG F S (fun vs H Q E h => ?_) fun cdv hcd B outer s H vs Q E g hr hsp => ?_
  · obtain ⟨as, R, h1, _, h3, _⟩ := h
    have l := h1.len
    rw [List.length_map] at l
    rw [← l]
    exact len as R h3
  · obtain ⟨as, R, h1, hp, h3, q⟩ := hsp
    have hl : as.length ≤ N.length := by rw [len as R h3]; exact hN
    have fd : ∀ a : Addr, H a = none → H a = none := fun _ h => h
    refine hbody cdv hcd B outer s H E ⟨hB, hr, g, rfl, S.nd⟩ as R h3 (L2.start N vs) H _ (nv_start h1 hl) (fun σ' H' ρ' P z => ?_) (fun v σ' H' y ρ' P V z => ?_) (fun _ _ _ _ z => z.elim) (fun _ _ _ _ z => z.elim)
    · exact q _ _ _ _ z (pex_fin h1 hp hl P) .none trivial
    · have PF := pex_fin h1 hp hl P
      cases y with
      | dat d => exact q _ _ _ _ z PF V trivial
      | frs ds => exact q _ _ _ _ z PF V trivial
      | own i =>
        obtain ⟨ds, h2, z⟩ := z
        obtain ⟨a, ws, e1, e2, r⟩ := P.ok.hol h2
        obtain ⟨_, e3⟩ := V
        rw [e1] at e3
        cases e3
        refine q _ _ _ _ z PF ⟨a, ws, rfl, ?_, e2, r⟩ trivial
        rcases P.mn a ⟨i, _, h2, trivial, e1⟩ with m | m
        · exfalso
          obtain ⟨j, s, g1, o1, g2⟩ := mine_start h1 m
          obtain ⟨es, rfl⟩ := hp j s g1 o1
          obtain ⟨⟨fs, z1⟩, z2⟩ := P.pn j es (by rw [List.getElem?_append_left (get_lt g1)]; exact g1)
          have hj : j ≠ i := fun e => by rw [e, h2] at z1; cases z1
          refine P.ok.sep j i a _ _ hj z1 h2 trivial trivial (z2.trans ?_) e1
          have l : as.length = vs.length := by simpa using h1.len
          unfold L2.start
          rw [List.getElem?_append_left (by simpa using l ▸ get_lt g1)]
          exact g2
        · exact m
theorem fnA {CX : CXT} {P : Program} {w : World} {K : PySem.W.Frag} {mg : Str → Option Value} {base : Heap} {k : Nat} {f : Addr} {x qual : Str} {st : Stmt} {fd : FuncData} {N ps : List Str} {A : ASp} (F : Fun K x qual st f fd) (S : FnScope N ps (defScope st)) (hN : ps.length ≤ N.length) (hB : Blt mg)
    (len : ∀ as R, A as R → as.length = ps.length)
    (hbody : ∀ (cdv : Value) (B : Around) (outer : List Env) (s : Shared) (H : Hp) (E : XK), Ctx (cxOf CX P w K mg base N qual (defScope st) f cdv B outer s H E) k → ∀ as R, A as R →
      SW (cxOf CX P w K mg base N qual (defScope st) f cdv B outer s H E) (defBody st) (as ++ List.replicate (N.length - as.length) .un) (ends as R)) : FnG P w K mg base CX (k + 1) f fd ps (toSp K A) :=
  fnAc F S hN hB len fun cdv _ B outer s H E C as R h => hbody cdv B outer s H E C as R h
end AW

/-! AW4: expressions. -/
namespace AW
variable [HasT]
open PySem PySem.Spec PyProof.Rows L2

theorem vdat {K : PySem.W.Frag} {H0 H : Hp} {ρ : Nv} {σ : L2.St} {d : PyData} {v : V} (r : Rp K H d v) : VOk K H0 H ρ σ (.dat d) v := r
/-! ### at a state -/
def EPA (X : Cx) (pins : List (Addr × Obj)) (σ : L2.St) (H : Hp) (ρ : Nv) (Q : QE) (u : Value) (s' : Shared) : Prop := ∃ v H' x ρ', L2.Inv X pins σ H' s' ∧ RelV v u ∧ Pex X.K H ρ σ H' ρ' ∧ VOk X.K H H' ρ' σ x v ∧ Q x ρ'
def TPA (X : Cx) (pins : List (Addr × Obj)) (σ : L2.St) (H : Hp) (ρ : Nv) (Q : Bool → Nv → Prop) (b : Bool) (s' : Shared) : Prop := ∃ H' ρ', L2.Inv X pins σ H' s' ∧ Pex X.K H ρ σ H' ρ' ∧ Q b ρ'
section
variable {X : Cx} {e a b c : Expr} {ρ : Nv} {Q : QE} {QT : Bool → Nv → Prop} {pos : Pos}
theorem EW.of (h : ∀ (pins : List (Addr × Obj)) (s : Shared) (σ : L2.St) (H : Hp), NvOk X.K H σ ρ → L2.Inv X pins σ H s → wpAny (model X.prog X.w) X.A (eval e X.env) (EPA X pins σ H ρ Q) X.xe s) : EW X e ρ Q := fun σ H R E k pins s I =>
  thn (h pins s σ H E I) fun u s' ⟨v, H', x, ρ', I', r, P, V, q⟩ => ⟨v, H', I', r, k v H' x ρ' P V q⟩
theorem EW.at (h : EW X e ρ Q) {pins : List (Addr × Obj)} {s : Shared} {σ : L2.St} {H : Hp} (E : NvOk X.K H σ ρ) (I : L2.Inv X pins σ H s) : wpAny (model X.prog X.w) X.A (eval e X.env) (EPA X pins σ H ρ Q) X.xe s :=
  thn (h σ H (fun v H' => ∃ x ρ', Pex X.K H ρ σ H' ρ' ∧ VOk X.K H H' ρ' σ x v ∧ Q x ρ') E (fun v H' x ρ' P V q => ⟨x, ρ', P, V, q⟩) pins s I) fun u s' ⟨v, H', I', r, x, ρ', P, V, q⟩ => ⟨v, H', x, ρ', I', r, P, V, q⟩
theorem EW.imp {Q' : QE} (h : EW X e ρ Q) (k : ∀ x ρ', Q x ρ' → Q' x ρ') : EW X e ρ Q' := fun σ H R E kk => h σ H R E fun v H' x ρ' P V q => kk v H' x ρ' P V (k _ _ q)
theorem TW.of (h : ∀ (pins : List (Addr × Obj)) (s : Shared) (σ : L2.St) (H : Hp), NvOk X.K H σ ρ → L2.Inv X pins σ H s → wpAny (model X.prog X.w) X.A (isTrue e X.env (eval e X.env)) (TPA X pins σ H ρ QT) X.xe s) : TW X e ρ QT := fun σ H R E k pins s I =>
  thn (h pins s σ H E I) fun u s' ⟨H', ρ', I', P, q⟩ => ⟨H', I', k u H' ρ' P q⟩
theorem TW.at (h : TW X e ρ QT) {pins : List (Addr × Obj)} {s : Shared} {σ : L2.St} {H : Hp} (E : NvOk X.K H σ ρ) (I : L2.Inv X pins σ H s) : wpAny (model X.prog X.w) X.A (isTrue e X.env (eval e X.env)) (TPA X pins σ H ρ QT) X.xe s :=
  thn (h σ H (fun v H' => ∃ ρ', Pex X.K H ρ σ H' ρ' ∧ QT v ρ') E (fun v H' ρ' P q => ⟨ρ', P, q⟩) pins s I) fun u s' ⟨H', I', ρ', P, q⟩ => ⟨H', ρ', I', P, q⟩
theorem TW.imp {Q' : Bool → Nv → Prop} (h : TW X e ρ QT) (k : ∀ x ρ', QT x ρ' → Q' x ρ') : TW X e ρ Q' := fun σ H R E kk => h σ H R E fun b H' ρ' P q => kk b H' ρ' P (k _ _ q)
theorem EPA.back {pins : List (Addr × Obj)} {σ : L2.St} {H H1 : Hp} {ρ1 : Nv} {u : Value} {s' : Shared} (P : Pex X.K H ρ σ H1 ρ1) (h : EPA X pins σ H1 ρ1 Q u s') : EPA X pins σ H ρ Q u s' := by
  obtain ⟨v, H', x, ρ', I, r, P2, V, q⟩ := h
  exact ⟨v, H', x, ρ', I, r, P.trans P2, V.back fun a n => P.free n, q⟩
theorem TPA.back {pins : List (Addr × Obj)} {σ : L2.St} {H H1 : Hp} {ρ1 : Nv} {u : Bool} {s' : Shared} (P : Pex X.K H ρ σ H1 ρ1) (h : TPA X pins σ H1 ρ1 QT u s') : TPA X pins σ H ρ QT u s' := by
  obtain ⟨H', ρ', I, P2, q⟩ := h
  exact ⟨H', ρ', I, P.trans P2, q⟩

/-! ### names, constants -/
theorem EW.nameD {i : Nat} {x : Str} {d : PyData} (h : ρ[i]? = some (.dat d)) (q : Q (.dat d) ρ) (hN : X.N[i]? = some x := by rfl) (hv : Vis X.env.scope x := by first | exact .inl rfl | exact .inr (.inl rfl) | exact .inr (.inr rfl)) (hd : (x == ("__debug__" : Str)) = false := by decide) (hcd : (x == ("__classdict__" : Str)) = false := by decide) : EW X (.Name x pos) ρ Q := fun σ H R E k pins s I => by
  obtain ⟨v, e, r⟩ := E.dat h
  exact (pe_var hN hv hd hcd).run pins s σ H R I ⟨v, e, k v H _ _ (Pex.refl E) (vdat r) q⟩
theorem EW.nameO {i : Nat} {x : Str} {p : Bool} {ds : List PyData} (h : ρ[i]? = some (.hol p ds)) (q : Q (.own i) ρ) (hN : X.N[i]? = some x := by rfl) (hv : Vis X.env.scope x := by first | exact .inl rfl | exact .inr (.inl rfl) | exact .inr (.inr rfl)) (hd : (x == ("__debug__" : Str)) = false := by decide) (hcd : (x == ("__classdict__" : Str)) = false := by decide) : EW X (.Name x pos) ρ Q := fun σ H R E k pins s I => by
  obtain ⟨a, vs, e, _, _⟩ := E.hol h
  exact (pe_var hN hv hd hcd).run pins s σ H R I ⟨_, e, k _ H (.own i) _ (Pex.refl E) ⟨⟨p, ds, h⟩, e⟩ q⟩
theorem EW.int {i : Int} {j : Nat} (q : Q (.dat (.int i)) ρ) : EW X (.Constant (.int i) j pos) ρ Q := fun σ H R E k pins s I => pe_int.run pins s σ H R I (k _ H _ _ (Pex.refl E) (vdat (.int i)) q)
theorem EW.bool {i : Bool} {j : Nat} (q : Q (.dat (.bool i)) ρ) : EW X (.Constant (.bool i) j pos) ρ Q := fun σ H R E k pins s I => pe_bl.run pins s σ H R I (k _ H _ _ (Pex.refl E) (vdat (.bool i)) q)
theorem EW.nonE {j : Nat} (q : Q (.dat .none) ρ) : EW X (.Constant .none j pos) ρ Q := fun σ H R E k pins s I => pe_non.run pins s σ H R I (k _ H _ _ (Pex.refl E) (vdat .none) q)
theorem EW.str {x : Str} {j : Nat} (q : Q (.dat (.str x)) ρ) : EW X (.Constant (.str x) j pos) ρ Q := fun σ H R E k pins s I => pe_str.run pins s σ H R I (k _ H _ _ (Pex.refl E) (vdat (.str x)) q)
/-- a module's constant -/
inductive Sca : PyData → Value → Prop
  | int (i : Int) (t : Tok) : Sca (.int i) (.int i t)
  | str (x : Str) (t : Tok) : Sca (.str x) (.str x t)
  | bool (b : Bool) : Sca (.bool b) (.bool b)
  | none : Sca .none .none
theorem EW.glob {x : Str} {d : PyData} (hg : Gl X x) (hm : ∃ u, X.mg x = some u ∧ Sca d u) (q : Q (.dat d) ρ) (hd : (x == ("__debug__" : Str)) = false := by decide) : EW X (.Name x pos) ρ Q := fun σ H R E k pins s I => by
  obtain ⟨u, hm, sc⟩ := hm
  have : ∃ v, RelV v u ∧ Rp X.K H d v := by
    cases sc with
    | int i t => exact ⟨.int i, ⟨t, rfl⟩, .int i⟩
    | str x t => exact ⟨.str x, ⟨t, rfl⟩, .str x⟩
    | bool b => exact ⟨.bl b, rfl, .bool b⟩
    | none => exact ⟨.non, rfl, .none⟩
  obtain ⟨v, r, p⟩ := this
  exact (pe_glob hg hm r hd).run pins s σ H R I (k _ H _ _ (Pex.refl E) (vdat p) q)

/-! ### operations on values -/
abbrev R2A := Nv → AV → AV → (AV → Prop) → Prop
def OpA (X : Cx) (f : Value → Value → Sem Value) (r : R2A) : Prop := ∀ (pins : List (Addr × Obj)) (s : Shared) (σ : L2.St) (H0 H : Hp) (ρ : Nv) (x y : AV) (v u : V) (vv uu : Value) (q : AV → Prop), L2.Inv X pins σ H s → NvOk X.K H σ ρ →
  VOk X.K H0 H ρ σ x v → VOk X.K H0 H ρ σ y u → RelV v vv → RelV u uu → r ρ x y q → wpAny (model X.prog X.w) X.A (f vv uu) (EPA X pins σ H ρ fun z ρ' => ρ' = ρ ∧ q z) X.xe s
theorem OpA.or {f : Value → Value → Sem Value} {r r' : R2A} (h : OpA X f r) (h' : OpA X f r') : OpA X f fun ρ x y q => r ρ x y q ∨ r' ρ x y q := fun pins s σ H0 H ρ x y v u vv uu q I E V U rv ru hq =>
  hq.elim (h pins s σ H0 H ρ x y v u vv uu q I E V U rv ru) (h' pins s σ H0 H ρ x y v u vv uu q I E V U rv ru)
theorem EW.op {op : Operator} {r : R2A} (ho : OpA X (binaryOp op) r) (h : EW X a ρ fun x ρ1 => EW X b ρ1 fun y ρ2 => r ρ2 x y fun z => Q z ρ2) : EW X (.BinOp a op b pos) ρ Q := EW.of fun pins s σ H E I => by
  refine wpAny_BinOp (thn (h.at E I) fun v s1 ⟨x, H1, xa, ρ1, I1, r1, P1, V1, q1⟩ => thn (EW.at q1 P1.ok I1) fun u s2 ⟨y, H2, ya, ρ2, I2, r2, P2, V2, q2⟩ => ?_)
  refine thn (ho pins s2 σ H H2 ρ2 xa ya x y v u _ I2 P2.ok (V1.step E P1 P2) (V2.back fun a n => P1.free n) r1 r2 q2) fun w s3 h3 => ?_
  refine EPA.back (P1.trans P2) ?_
  obtain ⟨z, H3, za, ρ3, I3, r3, P3, V3, rfl, q3⟩ := h3
  exact ⟨z, H3, za, _, I3, r3, P3, V3, q3⟩
/-- ints -/
def intR (C : Int → Int → Prop) (g : Int → Int → PyData) : R2A := fun _ x y q => match x, y with
  | .dat (.int i), .dat (.int j) => C i j ∧ q (.dat (g i j))
  | _, _ => False
theorem opA_int {f : Value → Value → Sem Value} {C : Int → Int → Prop} {g : Int → Int → Int} (ho : OpR X f (rI C fun i j => .int (g i j))) : OpA X f (intR C fun i j => .int (g i j)) := fun pins s σ H0 H ρ x y v u vv uu q I E V U rv ru hq => by
  match x, y, hq with
  | .dat (.int i), .dat (.int j), ⟨c, hq⟩ =>
    obtain rfl := Rp.int_inv V
    obtain rfl := Rp.int_inv U
    exact thn (ho pins s σ H _ _ vv uu (fun w H' => H' = H ∧ w = .int (g i j)) I rv ru ⟨i, j, rfl, rfl, c, rfl, rfl⟩) fun w s' ⟨z, H', I', r', e1, e2⟩ => by subst e1; subst e2; exact ⟨_, _, _, ρ, I', r', Pex.refl E, vdat (.int _), rfl, hq⟩
theorem rI_of {f : Value → Value → Sem Value} {g : Int → Int → V} (ho : OpR X f (rI0 g)) : OpR X f (rI (fun _ _ => True) g) := fun pins s σ H x y v u Q I rx ry ⟨i, j, e1, e2, _, q⟩ => ho pins s σ H x y v u Q I rx ry ⟨i, j, e1, e2, q⟩
def IT (_ _ : Int) : Prop := True
theorem EW.sub (h : EW X a ρ fun x ρ1 => EW X b ρ1 fun y ρ2 => intR IT (fun i j => .int (i - j)) ρ2 x y fun z => Q z ρ2) : EW X (.BinOp a .Sub b pos) ρ Q := EW.op (opA_int (rI_of op_sub)) h
/-- products: small, or of known size -/
def CMulA (i j : Int) : Prop := CMul i j ∨ CMulW i j
theorem op_mulA : OpR X (binaryOp .Mult) (rI CMulA fun i j => .int (i * j)) := fun pins s σ H x y v u Q I rx ry ⟨i, j, e1, e2, c, q⟩ =>
  c.elim (fun c => op_mul pins s σ H x y v u Q I rx ry ⟨i, j, e1, e2, c, q⟩) fun c => op_mulW pins s σ H x y v u Q I rx ry ⟨i, j, e1, e2, c, q⟩
def CDivA (i j : Int) : Prop := CDiv i j ∨ CDivW i j
theorem op_fdivA : OpR X (binaryOp .FloorDiv) (rI CDivA fun i j => .int (i / j)) := fun pins s σ H x y v u Q I rx ry ⟨i, j, e1, e2, c, q⟩ =>
  c.elim (fun c => op_fdiv pins s σ H x y v u Q I rx ry ⟨i, j, e1, e2, c, q⟩) fun c => op_fdivW pins s σ H x y v u Q I rx ry ⟨i, j, e1, e2, c, q⟩
theorem EW.fdiv (h : EW X a ρ fun x ρ1 => EW X b ρ1 fun y ρ2 => intR CDivA (fun i j => .int (i / j)) ρ2 x y fun z => Q z ρ2) : EW X (.BinOp a .FloorDiv b pos) ρ Q := EW.op (opA_int op_fdivA) h
def CMod (_ j : Int) : Prop := 0 < j
theorem EW.mod (h : EW X a ρ fun x ρ1 => EW X b ρ1 fun y ρ2 => intR CMod (fun i j => .int (i % j)) ρ2 x y fun z => Q z ρ2) : EW X (.BinOp a .Mod b pos) ρ Q := EW.op (opA_int op_mod) h
def CPowA (i j : Int) : Prop := 0 ≤ j ∧ (Builtin.Int.intBits i : Int) * j ≤ 2 ^ 27
theorem op_powA : OpR X (binaryOp .Pow) (rI CPowA fun i j => .int (i ^ j.toNat)) := opI fun i j t u s Q E c q => pow_int c.1 c.2 q
theorem EW.pow (h : EW X a ρ fun x ρ1 => EW X b ρ1 fun y ρ2 => intR CPowA (fun i j => .int (i ^ j.toNat)) ρ2 x y fun z => Q z ρ2) : EW X (.BinOp a .Pow b pos) ρ Q := EW.op (opA_int op_powA) h
theorem EW.shl (h : EW X a ρ fun x ρ1 => EW X b ρ1 fun y ρ2 => intR CPow (fun i j => .int (i * 2 ^ j.toNat)) ρ2 x y fun z => Q z ρ2) : EW X (.BinOp a .LShift b pos) ρ Q := EW.op (opA_int op_shl) h
theorem EW.band (h : EW X a ρ fun x ρ1 => EW X b ρ1 fun y ρ2 => intR IT (fun i j => .int (Builtin.bitAnd i j)) ρ2 x y fun z => Q z ρ2) : EW X (.BinOp a .BitAnd b pos) ρ Q := EW.op (opA_int (rI_of op_and)) h
theorem EW.bor (h : EW X a ρ fun x ρ1 => EW X b ρ1 fun y ρ2 => intR IT (fun i j => .int (Builtin.bitOr i j)) ρ2 x y fun z => Q z ρ2) : EW X (.BinOp a .BitOr b pos) ρ Q := EW.op (opA_int (rI_of op_or)) h
end

/-! ### sequences -/
def seqL (ρ : Nv) : AV → Option (List PyData)
  | .dat (.list ds) => some ds
  | .frs ds => some ds
  | .own i => match ρ[i]? with
    | some (.hol _ ds) => some ds
    | _ => none
  | _ => none
def seqT : AV → Option (List PyData)
  | .dat (.tuple ds) => some ds
  | _ => none
def seqA (ρ : Nv) (x : AV) : Option (List PyData) := match seqL ρ x with
  | some ds => some ds
  | none => seqT x
section
variable {K : PySem.W.Frag} {H H0 H' : Hp} {ρ : Nv} {σ : L2.St} {x : AV} {v : V} {ds : List PyData}
/-- lists that may be written: new ones, own ones -/
def seqO (ρ : Nv) : AV → Option (List PyData)
  | .frs ds => some ds
  | .own i => match ρ[i]? with
    | some (.hol _ ds) => some ds
    | _ => none
  | _ => none
theorem seqO_ok (E : NvOk K H σ ρ) (V : VOk K H0 H ρ σ x v) (h : seqO ρ x = some ds) : ∃ a xs, v = .ref a ∧ H a = some (.lst xs) ∧ RpAll K H ds xs := by
  match x, h with
  | .frs ds', h =>
    obtain rfl : ds' = ds := Option.some.inj h
    obtain ⟨a, vs, e, _, q, r⟩ := V
    exact ⟨a, vs, e, q, r⟩
  | .own i, h =>
    obtain ⟨⟨p, es, h1⟩, h2⟩ := V
    simp only [seqO, h1] at h
    obtain rfl : es = ds := Option.some.inj h
    obtain ⟨a, vs, e, q, r⟩ := E.hol h1
    rw [h2] at e
    cases e
    exact ⟨a, vs, rfl, q, r⟩
theorem seqL_ok (E : NvOk K H σ ρ) (V : VOk K H0 H ρ σ x v) (h : seqL ρ x = some ds) : ∃ a xs, v = .ref a ∧ RdF K H a xs ∧ RpAll K H ds xs := by
  match x, h with
  | .dat (.list ds'), h =>
    obtain rfl : ds' = ds := Option.some.inj h
    cases V with
    | list e r => exact ⟨_, _, rfl, .inr e, r⟩
  | .frs ds', h =>
    obtain rfl : ds' = ds := Option.some.inj h
    obtain ⟨a, vs, e, _, q, r⟩ := V
    exact ⟨a, vs, e, .inl q, r⟩
  | .own i, h =>
    obtain ⟨⟨p, es, h1⟩, h2⟩ := V
    simp only [seqL, h1] at h
    obtain rfl : es = ds := Option.some.inj h
    obtain ⟨a, vs, e, q, r⟩ := E.hol h1
    rw [h2] at e
    cases e
    exact ⟨a, vs, rfl, .inl q, r⟩
theorem seqT_ok (V : VOk K H0 H ρ σ x v) (h : seqT x = some ds) : ∃ a xs, v = .ref a ∧ SqT K H a xs ∧ RpAll K H ds xs := by
  match x, h with
  | .dat (.tuple ds'), h =>
    obtain rfl : ds' = ds := Option.some.inj h
    cases V with
    | tuple e r => exact ⟨_, _, rfl, SqT.of e, r⟩
theorem seqA_ok (E : NvOk K H σ ρ) (V : VOk K H0 H ρ σ x v) (h : seqA ρ x = some ds) : ∃ a xs, v = .ref a ∧ (SqL K H a xs ∨ SqT K H a xs) ∧ RpAll K H ds xs := by
  unfold seqA at h
  cases e : seqL ρ x with
  | some es =>
    rw [e] at h
    obtain rfl : es = ds := Option.some.inj h
    obtain ⟨a, xs, e1, r, rp⟩ := seqL_ok E V e
    exact ⟨a, xs, e1, .inl r.sq, rp⟩
  | none =>
    rw [e] at h
    obtain ⟨a, xs, e1, r, rp⟩ := seqT_ok V h
    exact ⟨a, xs, e1, .inr r, rp⟩
theorem Stb.new {p : Addr} {o : HO} (n : H p = none) : Stb H (upd H p o) := fun a u _ h => by rw [upd_ne (ne_of_none h n)]; exact h
theorem NvOk.new {p : Addr} {o : HO} (E : NvOk K H σ ρ) (n : H p = none) : NvOk K (upd H p o) σ ρ where
  len := E.len
  get := fun i s h => by
    obtain ⟨w, e, so⟩ := E.get i s h
    refine ⟨w, e, ?_⟩
    cases s with
    | un => trivial
    | dat d => obtain ⟨v, e2, r⟩ := so; exact ⟨v, e2, Rp.mono (Stb.new n) _ _ r⟩
    | hol p ds => obtain ⟨a, vs, e2, q, r⟩ := so; exact ⟨a, vs, e2, by rw [upd_ne (ne_of_none q n)]; exact q, RpAll.mono (Stb.new n) _ _ r⟩
    | dic ds => obtain ⟨a, o, vs, e2, q, k, r⟩ := so; exact ⟨a, o, vs, e2, by rw [upd_ne (ne_of_none q n)]; exact q, k, RpAll.mono (Stb.new n) _ _ r⟩
  sep := E.sep
  tb := tabs_step (fun b o h _ => by rw [upd_ne (ne_of_none h n)]; exact h) E.tb
theorem Pex.new {p : Addr} {o : HO} (E : NvOk K H σ ρ) (n : H p = none) : Pex K H ρ σ (upd H p o) ρ where
  kp := fun b u h _ _ => by rw [upd_ne (ne_of_none h n)]; exact h
  th := fun b u h => ⟨u, by rw [upd_ne (ne_of_none h n)]; exact h⟩
  so := fun _ s h o => ⟨s, h, .refl o⟩
  os := fun _ s h o => ⟨s, h, .refl o⟩
  ok := E.new n
/-- a new list of data -/
theorem frs_new {p : Addr} {xs : List V} (n : H p = none) (r : RpAll K H ds xs) : VOk K H (upd H p (.lst xs)) ρ σ (.frs ds) (.ref p) := ⟨p, xs, rfl, n, upd_same, RpAll.mono (Stb.new n) _ _ r⟩
theorem tup_new {p : Addr} {xs : List V} (n : H p = none) (r : RpAll K H ds xs) : VOk K H (upd H p (.tup xs)) ρ σ (.dat (.tuple ds)) (.ref p) := .tuple upd_same (RpAll.mono (Stb.new n) _ _ r)
end
section
variable {X : Cx} {e a b c : Expr} {es : List Expr} {ρ : Nv} {Q : QE} {pos : Pos}
/-- + : ints, texts, tuples, lists -/
def addR : R2A := fun ρ x y q => match x, y with
  | .dat (.int i), .dat (.int j) => q (.dat (.int (i + j)))
  | .dat (.str i), .dat (.str j) => i.length + j.length ≤ sizeLine ∧ q (.dat (.str (i ++ j)))
  | .dat (.tuple xs), .dat (.tuple ys) => xs.length + ys.length ≤ sizeLine ∧ q (.dat (.tuple (xs ++ ys)))
  | x, y => ∃ xs ys, seqL ρ x = some xs ∧ seqL ρ y = some ys ∧ xs.length + ys.length ≤ sizeLine ∧ q (.frs (xs ++ ys))
theorem rd_list {pins : List (Addr × Obj)} {s : Shared} {σ : L2.St} {H : Hp} {l : Addr} {xs : List V} (I : L2.Inv X pins σ H s) (h : RdF X.K H l xs) : xs.length ≤ sizeLine ∧ ∃ (its : List Value) (n : Nat), Vals xs its ∧ s.heap.get? l = some { cls := .type "list", data := .seq its.toArray n } := by
  rcases h with h | ⟨o, h⟩ | ⟨its, n, h, z, r⟩
  · exact (Rd.ok (.inl h) I.hok :)
  · exact (Rd.ok (.inr ⟨o, h⟩) I.hok :)
  · exact ⟨z, its, n, r, I.kIn _ _ h⟩
theorem cat_lists {pins : List (Addr × Obj)} {s : Shared} {σ : L2.St} {H : Hp} {l m : Addr} {xs ys : List V} {Qf : VK} (I : L2.Inv X pins σ H s) (h1 : RdF X.K H l xs) (h2 : RdF X.K H m ys) (hz : xs.length + ys.length ≤ sizeLine)
    (q : ∀ p, H p = none → Qf (.ref p) (upd H p (.lst (xs ++ ys)))) : wpAny (model X.prog X.w) X.A (binaryOp .Add (.ref l) (.ref m)) (EP X pins σ Qf) X.xe s := by
  obtain ⟨_, as, n1, r1, e1⟩ := rd_list I h1
  obtain ⟨_, bs, n2, r2, e2⟩ := rd_list I h2
  have l1 := r1.length
  have l2 := r2.length
  refine PySem.P.add_list e1 e2 ?_ (by simp only [List.size_toArray]; omega)
  rw [show as.toArray ++ bs.toArray = (as ++ bs).toArray by simp]
  exact ⟨.ref _, _, I.lnew (t' := s.toks) (r1.append r2) (by rw [List.length_append]; exact hz), rfl, q _ I.fresh⟩
/-- a rule that only makes new things -/
theorem epa_new {pins : List (Addr × Obj)} {s' : Shared} {σ : L2.St} {H : Hp} {u : Value} {q : AV → Prop} {z : AV} (E : NvOk X.K H σ ρ) (h : EP X pins σ (fun w H' => Pex X.K H ρ σ H' ρ ∧ VOk X.K H H' ρ σ z w) u s') (hq : q z) : EPA X pins σ H ρ (fun z ρ' => ρ' = ρ ∧ q z) u s' := by
  obtain ⟨w, H', I, r, P, V⟩ := h
  exact ⟨w, H', z, ρ, I, r, P, V, rfl, hq⟩
theorem cat_frs {pins : List (Addr × Obj)} {s : Shared} {σ : L2.St} {H0 H : Hp} {x y : AV} {v u : V} {vv uu : Value} {q : AV → Prop} {xs ys : List PyData} (I : L2.Inv X pins σ H s) (E : NvOk X.K H σ ρ) (V : VOk X.K H0 H ρ σ x v) (U : VOk X.K H0 H ρ σ y u) (rv : RelV v vv) (ru : RelV u uu)
    (h1 : seqL ρ x = some xs) (h2 : seqL ρ y = some ys) (hz : xs.length + ys.length ≤ sizeLine) (hq : q (.frs (xs ++ ys))) : wpAny (model X.prog X.w) X.A (binaryOp .Add vv uu) (EPA X pins σ H ρ fun z ρ' => ρ' = ρ ∧ q z) X.xe s := by
  obtain ⟨a, vs, rfl, r1, p1⟩ := seqL_ok E V h1
  obtain ⟨b, ws, rfl, r2, p2⟩ := seqL_ok E U h2
  cases rv
  cases ru
  refine thn (cat_lists (Qf := fun w H' => Pex X.K H ρ σ H' ρ ∧ VOk X.K H H' ρ σ (.frs (xs ++ ys)) w) I r1 r2 (by rw [← p1.length, ← p2.length]; exact hz) fun p n => ⟨Pex.new E n, frs_new n (p1.append p2)⟩) fun w s' h => epa_new E h hq
theorem RpAll.nil_iff {K : PySem.W.Frag} {H : Hp} {ds : List PyData} {vs : List V} (h : RpAll K H ds vs) : vs = [] ↔ ds = [] := by
  have l := h.length
  constructor
  · intro e; subst e; exact List.eq_nil_of_length_eq_zero l
  · intro e; subst e; exact List.eq_nil_of_length_eq_zero l.symm
theorem op_addA : OpA X (binaryOp .Add) addR := fun pins s σ H0 H ρ x y v u vv uu q I E V U rv ru hq => by
  unfold addR at hq
  split at hq
  · rename_i i j
    obtain rfl := Rp.int_inv V
    obtain rfl := Rp.int_inv U
    exact thn (op_add pins s σ H _ _ vv uu (fun w H' => H' = H ∧ w = .int (i + j)) I rv ru ⟨i, j, rfl, rfl, rfl, rfl⟩) fun w s' ⟨z, H', I', r', e1, e2⟩ => by subst e1; subst e2; exact ⟨_, _, _, ρ, I', r', Pex.refl E, vdat (.int _), rfl, hq⟩
  · rename_i i j
    obtain rfl := Rp.str_inv V
    obtain rfl := Rp.str_inv U
    exact thn (op_add_str pins s σ H _ _ vv uu (fun w H' => H' = H ∧ w = .str (i ++ j)) I rv ru ⟨i, j, rfl, rfl, hq.1, rfl, rfl⟩) fun w s' ⟨z, H', I', r', e1, e2⟩ => by subst e1; subst e2; exact ⟨_, _, _, ρ, I', r', Pex.refl E, vdat (.str _), rfl, hq.2⟩
  · rename_i xs ys
    obtain ⟨a, vs, rfl, r1, p1⟩ := seqT_ok (ds := xs) V rfl
    obtain ⟨b, ws, rfl, r2, p2⟩ := seqT_ok (ds := ys) U rfl
    refine thn (op_catA pins s σ H _ _ vv uu (fun w H' => Pex X.K H ρ σ H' ρ ∧ VOk X.K H H' ρ σ (.dat (.tuple (xs ++ ys))) w) I rv ru ⟨a, b, vs, ws, rfl, rfl, r1, r2, by rw [← p1.length, ← p2.length]; exact hq.1, fun e => ?_, fun _ e => ?_, fun _ _ p n => ?_⟩) fun w s' h => epa_new E h hq.2
    · obtain rfl := p1.nil_iff.mp e
      exact ⟨Pex.refl E, U⟩
    · obtain rfl := p2.nil_iff.mp e
      exact ⟨Pex.refl E, by rw [List.append_nil]; exact V⟩
    · exact ⟨Pex.new E n, tup_new n (p1.append p2)⟩
  · obtain ⟨xs, ys, h1, h2, hz, hq⟩ := hq
    exact cat_frs I E V U rv ru h1 h2 hz hq
theorem EW.add (h : EW X a ρ fun x ρ1 => EW X b ρ1 fun y ρ2 => addR ρ2 x y fun z => Q z ρ2) : EW X (.BinOp a .Add b pos) ρ Q := EW.op op_addA h
/-- * : ints; a list times an int -/
def mulR : R2A := fun ρ x y q => match x, y with
  | .dat (.int i), .dat (.int j) => CMulA i j ∧ q (.dat (.int (i * j)))
  | x, .dat (.int k) => ∃ xs, seqO ρ x = some xs ∧ -(2 ^ 63) ≤ k ∧ k < 2 ^ 63 ∧ xs.length * k.toNat ≤ sizeLine ∧ q (.frs (List.replicate k.toNat xs).flatten)
  | _, _ => False
theorem op_mulRA : OpA X (binaryOp .Mult) mulR := fun pins s σ H0 H ρ x y v u vv uu q I E V U rv ru hq => by
  unfold mulR at hq
  split at hq
  · rename_i i j
    exact opA_int op_mulA pins s σ H0 H ρ _ _ v u vv uu q I E V U rv ru hq
  · rename_i k _
    obtain ⟨xs, h1, b1, b2, hz, hq⟩ := hq
    obtain ⟨a, vs, rfl, r1, p1⟩ := seqO_ok E V h1
    obtain rfl := Rp.int_inv U
    exact thn (op_rep pins s σ H _ _ vv uu (fun w H' => Pex X.K H ρ σ H' ρ ∧ VOk X.K H H' ρ σ (.frs (List.replicate k.toNat xs).flatten) w) I rv ru ⟨a, k, vs, rfl, rfl, r1, b1, b2, by rw [← p1.length]; exact hz, fun p n => ⟨Pex.new E n, frs_new n (p1.rep _)⟩⟩) fun w s' h => epa_new E h hq
  · exact hq.elim
theorem EW.mul (h : EW X a ρ fun x ρ1 => EW X b ρ1 fun y ρ2 => mulR ρ2 x y fun z => Q z ρ2) : EW X (.BinOp a .Mult b pos) ρ Q := EW.op op_mulRA h
end
end AW

/-! AW5: comparisons, tests, displays, items, slices, built-in functions. -/
namespace AW
variable [HasT]
open PySem PySem.Spec PyProof.Rows L2

/-! ### data without dicts -/
section
variable {K : PySem.W.Frag} {H H0 : Hp} {ρ : Nv} {σ : L2.St}
mutual
theorem Rp.dp : ∀ (d : PyData) (v : V), Rp K H d v → d.hasDict = false → Dp K H v d
  | .none, _, h, _ => by cases h; exact .non
  | .bool b, _, h, _ => by cases h; exact .bl b
  | .int i, _, h, _ => by cases h; exact .int i
  | .str x, _, h, _ => by cases h; exact .str x
  | .list ds, _, h, n => by
    cases h with
    | list e r => exact .lst e.sq (RpAll.dp ds _ r (by simpa [PyData.hasDict] using n))
  | .tuple ds, _, h, n => by
    cases h with
    | tuple e r => exact .tup (SqT.of e) (RpAll.dp ds _ r (by simpa [PyData.hasDict] using n))
  | .dict es, _, _, n => by simp [PyData.hasDict] at n
theorem RpAll.dp : ∀ (ds : List PyData) (vs : List V), RpAll K H ds vs → PyData.hasDictAll ds = false → DpAll K H vs ds
  | [], _, h, _ => by cases h; exact .nil
  | d :: ds, _, h, n => by
    cases h with
    | cons h t =>
      have n' : d.hasDict = false ∧ PyData.hasDictAll ds = false := by simpa [PyData.hasDictAll] using n
      exact .cons (Rp.dp d _ h n'.1) (RpAll.dp ds _ t n'.2)
end
/-- what may be compared, shown: data, lists -/
def readD (ρ : Nv) : AV → Option PyData
  | .dat d => some d
  | x => (seqL ρ x).map .list
theorem readD_ok {x : AV} {v : V} {d : PyData} (E : NvOk K H σ ρ) (V : VOk K H0 H ρ σ x v) (h : readD ρ x = some d) (n : d.hasDict = false) : Dp K H v d := by
  have ls : ∀ {y : AV}, VOk K H0 H ρ σ y v → (seqL ρ y).map PyData.list = some d → Dp K H v d := by
    intro y V h
    cases e : seqL ρ y with
    | none => rw [e] at h; simp at h
    | some ds =>
      rw [e] at h
      obtain rfl : PyData.list ds = d := by simpa using h
      obtain ⟨a, xs, rfl, r, p⟩ := seqL_ok E V e
      exact .lst r.sq (RpAll.dp ds _ p (by simpa [PyData.hasDict] using n))
  match x, h with
  | .dat d', h =>
    obtain rfl : d' = d := Option.some.inj h
    exact Rp.dp _ _ V n
  | .frs ds, h => exact ls V h
  | .own i, h => exact ls V h
end
theorem nodict_of_shaped {d : PyData} (h : SeqAt.shaped d = true) : d.hasDict = false := PyData.hasDict_of_canLay d (SeqAt.canLay_of_shaped h)
section
variable {X : Cx} {e a b c : Expr} {es : List Expr} {ρ : Nv} {Q : QE} {QT : Bool → Nv → Prop} {pos p p2 : Pos} {k : Nat}
theorem Ctx.units (C : Ctx X k) : X.A.units + 100 < cLine := by have := C.room.un; omega

/-! ### comparisons -/
theorem EW.cmp {op : CmpOp} {r : R2A} (ho : OpA X (compareOp op) r) (h : EW X a ρ fun x ρ1 => EW X b ρ1 fun y ρ2 => r ρ2 x y fun z => Q z ρ2) (hm : behindInMarks op b = false) : EW X (.Compare a [op] [b] pos) ρ Q := EW.of fun pins s σ H E I => by
  refine wpAny_Compare1 (thn (h.at E I) fun v s1 ⟨x, H1, xa, ρ1, I1, r1, P1, V1, q1⟩ => thn (EW.at q1 P1.ok I1) fun u s2 ⟨y, H2, ya, ρ2, I2, r2, P2, V2, q2⟩ => ?_) hm
  refine thn (ho pins s2 σ H H2 ρ2 xa ya x y v u _ I2 P2.ok (V1.step E P1 P2) (V2.back fun a n => P1.free n) r1 r2 q2) fun w s3 h3 => ?_
  refine EPA.back (P1.trans P2) ?_
  obtain ⟨z, H3, za, ρ3, I3, r3, P3, V3, rfl, q3⟩ := h3
  exact ⟨z, H3, za, _, I3, r3, P3, V3, q3⟩
/-- a truth value, as a test wants it -/
def boolQ (q : Bool → Prop) : AV → Prop
  | .dat (.bool b) => q b
  | _ => False
theorem TW.cmp {op : CmpOp} {r : R2A} (ho : OpA X (compareOp op) r) (h : EW X a ρ fun x ρ1 => EW X b ρ1 fun y ρ2 => r ρ2 x y (boolQ fun z => QT z ρ2)) (hm : behindInMarks op b = false) : TW X (.Compare a [op] [b] pos) ρ QT := TW.of fun pins s σ H E I => by
  refine wpAny_isTrue_Compare1 (thn (h.at E I) fun v s1 ⟨x, H1, xa, ρ1, I1, r1, P1, V1, q1⟩ => thn (EW.at q1 P1.ok I1) fun u s2 ⟨y, H2, ya, ρ2, I2, r2, P2, V2, q2⟩ => ?_) hm
  refine thn (ho pins s2 σ H H2 ρ2 xa ya x y v u _ I2 P2.ok (V1.step E P1 P2) (V2.back fun a n => P1.free n) r1 r2 q2) fun w s3 h3 => ?_
  obtain ⟨z, H3, za, ρ3, I3, r3, P3, V3, rfl, q3⟩ := h3
  match za, V3, q3 with
  | .dat (.bool t), V3, q3 =>
    obtain rfl := Rp.bool_inv V3
    cases r3
    exact wpAny_truthy_bool ⟨H3, _, I3, (P1.trans P2).trans P3, q3⟩
/-- a test that is an expression with a truth value -/
theorem TW.val (h : EW X e ρ fun x ρ1 => boolQ (fun z => QT z ρ1) x) (he : ∀ whole, isTrue e X.env whole = (do let v ← whole; standAt e.pos; holding [v] (truthy v)) := by intro _; rfl) : TW X e ρ QT := TW.of fun pins s σ H E I => by
  refine isTrue_plain (thn (h.at E I) fun v s1 ⟨x, H1, xa, ρ1, I1, r1, P1, V1, q1⟩ => ?_) (he _)
  match xa, V1, q1 with
  | .dat (.bool t), V1, q1 =>
    obtain rfl := Rp.bool_inv V1
    cases r1
    exact wpAny_truthy_bool ⟨H1, _, I1, P1, q1⟩
def intB (g : Int → Int → Bool) : R2A := fun _ x y q => match x, y with
  | .dat (.int i), .dat (.int j) => q (.dat (.bool (g i j)))
  | _, _ => False
theorem opA_intB {f : Value → Value → Sem Value} {g : Int → Int → Bool} (ho : OpR X f (rI0 fun i j => .bl (g i j))) : OpA X f (intB g) := fun pins s σ H0 H ρ x y v u vv uu q I E V U rv ru hq => by
  match x, y, hq with
  | .dat (.int i), .dat (.int j), hq =>
    obtain rfl := Rp.int_inv V
    obtain rfl := Rp.int_inv U
    exact thn (ho pins s σ H _ _ vv uu (fun w H' => H' = H ∧ w = .bl (g i j)) I rv ru ⟨i, j, rfl, rfl, rfl, rfl⟩) fun w s' ⟨z, H', I', r', e1, e2⟩ => by subst e1; subst e2; exact ⟨_, _, _, ρ, I', r', Pex.refl E, vdat (.bool _), rfl, hq⟩
def eqR : R2A := fun ρ x y q => match x, y with
  | .dat (.str z), .dat (.str w) => q (.dat (.bool (z == w)))
  | x, y => ∃ d e, readD ρ x = some d ∧ readD ρ y = some e ∧ SeqAt.shaped d = true ∧ SeqAt.shaped e = true ∧ q (.dat (.bool (PyData.eqv d e)))
def neR : R2A := fun ρ x y q => match x, y with
  | .dat (.str z), .dat (.str w) => q (.dat (.bool (!(z == w))))
  | x, y => ∃ d e, readD ρ x = some d ∧ readD ρ y = some e ∧ SeqAt.shaped d = true ∧ SeqAt.shaped e = true ∧ q (.dat (.bool (!PyData.eqv d e)))
theorem opA_eq (C : Ctx X k) : OpA X (compareOp .Eq) eqR := fun pins s σ H0 H ρ x y v u vv uu q I E V U rv ru hq => by
  unfold eqR at hq
  split at hq
  · rename_i z w
    obtain rfl := Rp.str_inv V
    obtain rfl := Rp.str_inv U
    refine thn (op_eq pins s σ H _ _ vv uu (fun r H' => H' = H ∧ r = .bl (z == w)) I rv ru ⟨rfl, rfl, by rw [dec_str]⟩) fun w' s' ⟨z', H', I', r', e1, e2⟩ => ?_
    subst e1
    subst e2
    exact ⟨_, _, _, ρ, I', r', Pex.refl E, vdat (.bool _), rfl, hq⟩
  · obtain ⟨d, e, h1, h2, s1, s2, hq⟩ := hq
    have d1 := readD_ok E V h1 (nodict_of_shaped s1)
    have d2 := readD_ok E U h2 (nodict_of_shaped s2)
    exact thn (op_eqD (by have := C.units; omega) pins s σ H _ _ vv uu (fun w H' => H' = H ∧ w = .bl (PyData.eqv d e)) I rv ru ⟨d, e, d1, d2, s1, s2, rfl, rfl⟩) fun w s' ⟨z, H', I', r', e1, e2⟩ => by subst e1; subst e2; exact ⟨_, _, _, ρ, I', r', Pex.refl E, vdat (.bool _), rfl, hq⟩
theorem opA_ne (C : Ctx X k) : OpA X (compareOp .NotEq) neR := fun pins s σ H0 H ρ x y v u vv uu q I E V U rv ru hq => by
  unfold neR at hq
  split at hq
  · rename_i z w
    obtain rfl := Rp.str_inv V
    obtain rfl := Rp.str_inv U
    refine thn (op_ne pins s σ H _ _ vv uu (fun r H' => H' = H ∧ r = .bl (!(z == w))) I rv ru ⟨rfl, rfl, by rw [dec_str]⟩) fun w' s' ⟨z', H', I', r', e1, e2⟩ => ?_
    subst e1
    subst e2
    exact ⟨_, _, _, ρ, I', r', Pex.refl E, vdat (.bool _), rfl, hq⟩
  · obtain ⟨d, e, h1, h2, s1, s2, hq⟩ := hq
    have d1 := readD_ok E V h1 (nodict_of_shaped s1)
    have d2 := readD_ok E U h2 (nodict_of_shaped s2)
    exact thn (op_neD (by have := C.units; omega) pins s σ H _ _ vv uu (fun w H' => H' = H ∧ w = .bl (!PyData.eqv d e)) I rv ru ⟨d, e, d1, d2, s1, s2, rfl, rfl⟩) fun w s' ⟨z, H', I', r', e1, e2⟩ => by subst e1; subst e2; exact ⟨_, _, _, ρ, I', r', Pex.refl E, vdat (.bool _), rfl, hq⟩
/-- is None -/
def isNoneD : AV → Bool
  | .dat .none => true
  | _ => false
def isR : R2A := fun ρ x y q => y = .dat .none ∧ q (.dat (.bool (isNoneD x)))
def isNotR : R2A := fun ρ x y q => y = .dat .none ∧ q (.dat (.bool (!isNoneD x)))
theorem isNone_ok {K : PySem.W.Frag} {H0 H : Hp} {ρ : Nv} {σ : L2.St} {x : AV} {v : V} (E : NvOk K H σ ρ) (V : VOk K H0 H ρ σ x v) : decide (v = .non) = isNoneD x := by
  cases x with
  | dat d => cases V <;> rfl
  | frs ds => obtain ⟨a, vs, rfl, _⟩ := V; rfl
  | own i =>
    obtain ⟨⟨p, ds, h1⟩, h2⟩ := V
    obtain ⟨a, vs, e, _⟩ := E.hol h1
    rw [h2] at e
    cases e
    rfl
theorem opA_is : OpA X (compareOp .Is) isR := fun pins s σ H0 H ρ x y v u vv uu q I E V U rv ru ⟨e, hq⟩ => by
  subst e
  obtain rfl := Rp.none_inv U
  exact thn (op_isN pins s σ H _ _ vv uu (fun w H' => H' = H ∧ w = .bl (decide (v = .non))) I rv ru ⟨rfl, rfl, rfl⟩) fun w s' ⟨z, H', I', r', e1, e2⟩ => by subst e1; subst e2; rw [isNone_ok E V] at r'; exact ⟨_, _, _, ρ, I', r', Pex.refl E, vdat (.bool _), rfl, hq⟩
theorem opA_isNot : OpA X (compareOp .IsNot) isNotR := fun pins s σ H0 H ρ x y v u vv uu q I E V U rv ru ⟨e, hq⟩ => by
  subst e
  obtain rfl := Rp.none_inv U
  exact thn (op_notN pins s σ H _ _ vv uu (fun w H' => H' = H ∧ w = .bl (!decide (v = .non))) I rv ru ⟨rfl, rfl, rfl⟩) fun w s' ⟨z, H', I', r', e1, e2⟩ => by subst e1; subst e2; rw [isNone_ok E V] at r'; exact ⟨_, _, _, ρ, I', r', Pex.refl E, vdat (.bool _), rfl, hq⟩
/-- in: flat things in a list or tuple; data in a list; a text in a text -/
def flatD : PyData → Bool
  | .none => true
  | .bool _ => true
  | .int _ => true
  | .str _ => true
  | _ => false
def inB (d : PyData) (ds : List PyData) : Bool := ds.any fun z => PyData.eqv z d
def inR (neg : Bool) : R2A := fun ρ x y q => match x, y with
  | .dat (.str z), .dat (.str w) => q (.dat (.bool (if neg then !(!(Builtin.Str.occurrences w z 0 w.length 1).isEmpty) else !(Builtin.Str.occurrences w z 0 w.length 1).isEmpty)))
  | x, y => ∃ d ds, readD ρ x = some d ∧ ((seqA ρ y = some ds ∧ flatD d = true ∧ ds.all flatD = true) ∨ (seqL ρ y = some ds ∧ SeqAt.shaped d = true ∧ SeqAt.shaped (.list ds) = true)) ∧ q (.dat (.bool (if neg then !inB d ds else inB d ds)))
theorem flat_rp {K : PySem.W.Frag} {H : Hp} {d : PyData} {v : V} (h : Rp K H d v) (f : flatD d = true) : flatV v = true := by cases h <;> first | rfl | (simp [flatD] at f)
theorem eqV_rp {K : PySem.W.Frag} {H : Hp} {d d' : PyData} {v v' : V} (h : Rp K H d v) (h' : Rp K H d' v') (f : flatD d = true) (f' : flatD d' = true) : eqV v v' = PyData.eqv d d' := by
  cases h <;> cases h' <;> first | rfl | (simp [flatD] at f; done) | (simp [flatD] at f'; done) | (simp [eqV, PyData.eqv])
theorem inV_rp {K : PySem.W.Frag} {H : Hp} {d : PyData} {v : V} (h : Rp K H d v) (f : flatD d = true) : ∀ {ds : List PyData} {vs : List V}, RpAll K H ds vs → ds.all flatD = true → inV v vs = inB d ds ∧ vs.all flatV = true
  | [], _, t, _ => by cases t; exact ⟨rfl, rfl⟩
  | d' :: ds, _, t, g => by
    cases t with
    | cons r t =>
      have g' : flatD d' = true ∧ ds.all flatD = true := by simpa using g
      obtain ⟨e1, e2⟩ := inV_rp h f t g'.2
      refine ⟨?_, by simp [flat_rp r g'.1, e2]⟩
      unfold inV inB at e1 ⊢
      simp only [List.any_cons, eqV_rp r h g'.1 f, e1]
theorem readD_flat {K : PySem.W.Frag} {H0 H : Hp} {ρ : Nv} {σ : L2.St} {x : AV} {v : V} {d : PyData} (V : VOk K H0 H ρ σ x v) (h : readD ρ x = some d) (f : flatD d = true) : Rp K H d v := by
  match x, h with
  | .dat d', h =>
    obtain rfl : d' = d := Option.some.inj h
    exact V
  | .frs ds, h =>
    obtain rfl : PyData.list ds = d := by simpa [readD, seqL] using h
    simp [flatD] at f
  | .own i, h =>
    simp only [readD] at h
    cases e : seqL ρ (.own i) with
    | none => rw [e] at h; simp at h
    | some ds =>
      rw [e] at h
      obtain rfl : PyData.list ds = d := by simpa using h
      simp [flatD] at f
theorem opA_in (C : Ctx X k) : OpA X (compareOp .In) (inR false) := fun pins s σ H0 H ρ x y v u vv uu q I E V U rv ru hq => by
  unfold inR at hq
  split at hq
  · rename_i z w
    obtain rfl := Rp.str_inv V
    obtain rfl := Rp.str_inv U
    refine thn (op_in_str pins s σ H _ _ vv uu (fun t H' => H' = H ∧ t = .bl (!(Builtin.Str.occurrences w z 0 w.length 1).isEmpty)) I rv ru ⟨z, w, rfl, rfl, rfl, rfl⟩) fun w s' ⟨z, H', I', r', e1, e2⟩ => ?_
    subst e1
    subst e2
    exact ⟨_, _, _, ρ, I', r', Pex.refl E, vdat (.bool _), rfl, hq⟩
  · obtain ⟨d, ds, h1, h2, hq⟩ := hq
    rcases h2 with ⟨h2, f1, f2⟩ | ⟨h2, s1, s2⟩
    · have rd := readD_flat V h1 f1
      obtain ⟨m, xs, rfl, r2, p2⟩ := seqA_ok E U h2
      obtain ⟨e1, e2⟩ := inV_rp rd f1 p2 f2
      refine thn (op_in_seq pins s σ H _ _ vv uu (fun t H' => H' = H ∧ t = .bl (inV v xs)) I rv ru ⟨m, xs, rfl, r2, flat_rp rd f1, e2, rfl, rfl⟩) fun w s' ⟨z, H', I', r', z1, z2⟩ => ?_
      subst z1
      subst z2
      rw [e1] at r'
      exact ⟨_, _, _, ρ, I', r', Pex.refl E, vdat (.bool _), rfl, hq⟩
    · have d1 := readD_ok E V h1 (nodict_of_shaped s1)
      obtain ⟨m, xs, rfl, r2, p2⟩ := seqL_ok E U h2
      have d2 : Dp X.K H (.ref m) (.list ds) := .lst r2.sq (RpAll.dp ds _ p2 (by simpa [PyData.hasDict] using nodict_of_shaped s2))
      refine thn (op_inD (by have := C.units; omega) pins s σ H _ _ vv uu (fun t H' => H' = H ∧ t = .bl (inB d ds)) I rv ru ⟨d, ds, d1, d2, s1, s2, rfl, rfl⟩) fun w s' ⟨z, H', I', r', z1, z2⟩ => ?_
      subst z1
      subst z2
      exact ⟨_, _, _, ρ, I', r', Pex.refl E, vdat (.bool _), rfl, hq⟩
theorem opA_notIn (C : Ctx X k) : OpA X (compareOp .NotIn) (inR true) := fun pins s σ H0 H ρ x y v u vv uu q I E V U rv ru hq => by
  unfold inR at hq
  split at hq
  · rename_i z w
    obtain rfl := Rp.str_inv V
    obtain rfl := Rp.str_inv U
    refine thn (op_notin_str pins s σ H _ _ vv uu (fun t H' => H' = H ∧ t = .bl (!(!(Builtin.Str.occurrences w z 0 w.length 1).isEmpty))) I rv ru ⟨z, w, rfl, rfl, rfl, rfl⟩) fun w s' ⟨z, H', I', r', e1, e2⟩ => ?_
    subst e1
    subst e2
    exact ⟨_, _, _, ρ, I', r', Pex.refl E, vdat (.bool _), rfl, hq⟩
  · obtain ⟨d, ds, h1, h2, hq⟩ := hq
    rcases h2 with ⟨h2, f1, f2⟩ | ⟨h2, s1, s2⟩
    · have rd := readD_flat V h1 f1
      obtain ⟨m, xs, rfl, r2, p2⟩ := seqA_ok E U h2
      obtain ⟨e1, e2⟩ := inV_rp rd f1 p2 f2
      refine thn (op_notIn_seq pins s σ H _ _ vv uu (fun t H' => H' = H ∧ t = .bl (!inV v xs)) I rv ru ⟨m, xs, rfl, r2, flat_rp rd f1, e2, rfl, rfl⟩) fun w s' ⟨z, H', I', r', z1, z2⟩ => ?_
      subst z1
      subst z2
      rw [e1] at r'
      exact ⟨_, _, _, ρ, I', r', Pex.refl E, vdat (.bool _), rfl, hq⟩
    · have d1 := readD_ok E V h1 (nodict_of_shaped s1)
      obtain ⟨m, xs, rfl, r2, p2⟩ := seqL_ok E U h2
      have d2 : Dp X.K H (.ref m) (.list ds) := .lst r2.sq (RpAll.dp ds _ p2 (by simpa [PyData.hasDict] using nodict_of_shaped s2))
      refine thn (op_notInD (by have := C.units; omega) pins s σ H _ _ vv uu (fun t H' => H' = H ∧ t = .bl (!inB d ds)) I rv ru ⟨d, ds, d1, d2, s1, s2, rfl, rfl⟩) fun w s' ⟨z, H', I', r', z1, z2⟩ => ?_
      subst z1
      subst z2
      exact ⟨_, _, _, ρ, I', r', Pex.refl E, vdat (.bool _), rfl, hq⟩

/-! ### and, or, not, if -/
theorem EW.one {op : BoolOp} (h : EW X a ρ Q) : EW X (.BoolOp op [a] pos) ρ Q := fun σ H R E kk pins s I => (pe_one pe_W).run pins s σ H R I (h σ H R E kk)
theorem EW.and (h : EW X a ρ fun x ρ1 => boolQ (fun t => if t = true then EW X (.BoolOp .And (b :: es) pos) ρ1 Q else Q (.dat (.bool false)) ρ1) x) : EW X (.BoolOp .And (a :: b :: es) pos) ρ Q := EW.of fun pins s σ H E I => by
  refine BoolOp_and (thn (h.at E I) fun v s1 ⟨x, H1, xa, ρ1, I1, r1, P1, V1, q1⟩ => ?_)
  match xa, V1, q1 with
  | .dat (.bool t), V1, q1 =>
    obtain rfl := Rp.bool_inv V1
    cases r1
    refine wpAny_truthy_bool ?_
    cases t with
    | true => exact thn (EW.at (by simpa [boolQ] using q1) P1.ok I1) fun u s2 h2 => EPA.back P1 h2
    | false => exact ⟨.bl false, H1, _, _, I1, rfl, P1, vdat (.bool _), by simpa [boolQ] using q1⟩
theorem EW.or (h : EW X a ρ fun x ρ1 => boolQ (fun t => if t = true then Q (.dat (.bool true)) ρ1 else EW X (.BoolOp .Or (b :: es) pos) ρ1 Q) x) : EW X (.BoolOp .Or (a :: b :: es) pos) ρ Q := EW.of fun pins s σ H E I => by
  refine BoolOp_or (thn (h.at E I) fun v s1 ⟨x, H1, xa, ρ1, I1, r1, P1, V1, q1⟩ => ?_)
  match xa, V1, q1 with
  | .dat (.bool t), V1, q1 =>
    obtain rfl := Rp.bool_inv V1
    cases r1
    refine wpAny_truthy_bool ?_
    cases t with
    | false => exact thn (EW.at (by simpa [boolQ] using q1) P1.ok I1) fun u s2 h2 => EPA.back P1 h2
    | true => exact ⟨.bl true, H1, _, _, I1, rfl, P1, vdat (.bool _), by simpa [boolQ] using q1⟩
theorem EW.not (h : EW X a ρ fun x ρ1 => boolQ (fun t => Q (.dat (.bool (!t))) ρ1) x) : EW X (.UnaryOp .Not a pos) ρ Q := EW.of fun pins s σ H E I => by
  refine UnaryOp_ (thn (h.at E I) fun v s1 ⟨x, H1, xa, ρ1, I1, r1, P1, V1, q1⟩ => ?_)
  match xa, V1, q1 with
  | .dat (.bool t), V1, q1 =>
    obtain rfl := Rp.bool_inv V1
    cases r1
    exact not_of (wpAny_truthy_bool ⟨.bl (!t), H1, _, _, I1, rfl, P1, vdat (.bool _), q1⟩)
theorem EW.neg (h : EW X a ρ fun x ρ1 => ∃ i, x = .dat (.int i) ∧ Q (.dat (.int (-i))) ρ1) : EW X (.UnaryOp .USub a pos) ρ Q := fun σ H R E kk pins s I =>
  (pe_un un_neg pe_W).run pins s σ H R I (h σ H _ E fun v H1 x ρ1 P V ⟨i, e, q⟩ => by subst e; obtain rfl := Rp.int_inv V; exact ⟨i, rfl, kk _ H1 _ _ P (vdat (.int _)) q⟩)
theorem EW.inv (h : EW X a ρ fun x ρ1 => ∃ i, x = .dat (.int i) ∧ Q (.dat (.int (Builtin.bitNot i))) ρ1) : EW X (.UnaryOp .Invert a pos) ρ Q := fun σ H R E kk pins s I =>
  (pe_un un_inv pe_W).run pins s σ H R I (h σ H _ E fun v H1 x ρ1 P V ⟨i, e, q⟩ => by subst e; obtain rfl := Rp.int_inv V; exact ⟨i, rfl, kk _ H1 _ _ P (vdat (.int _)) q⟩)
/-- tests as such -/
def TWw (X : Cx) (e : Expr) (ρ : Nv) (QT : Bool → Nv → Prop) : Prop := ∀ (whole : Sem Value) (pins : List (Addr × Obj)) (s : Shared) (σ : L2.St) (H : Hp), NvOk X.K H σ ρ → L2.Inv X pins σ H s → wpAny (model X.prog X.w) X.A (isTrue e X.env whole) (TPA X pins σ H ρ QT) X.xe s
theorem TWw.tw (h : TWw X e ρ QT) : TW X e ρ QT := TW.of fun pins s σ H E I => h _ pins s σ H E I
theorem TWw.and1 (h : TW X a ρ QT) : TWw X (.BoolOp .And [a] pos) ρ QT := fun wh pins s σ H E I =>
  thn ((pw_and1 pt_W).run wh pins s σ H (fun t H' => ∃ ρ', Pex X.K H ρ σ H' ρ' ∧ QT t ρ') I (h σ H _ E fun t H' ρ' P q => ⟨ρ', P, q⟩)) fun t s' ⟨H', I', ρ', P, q⟩ => ⟨H', ρ', I', P, q⟩
theorem TWw.or1 (h : TW X a ρ QT) : TWw X (.BoolOp .Or [a] pos) ρ QT := fun wh pins s σ H E I =>
  thn ((pw_or1 pt_W).run wh pins s σ H (fun t H' => ∃ ρ', Pex X.K H ρ σ H' ρ' ∧ QT t ρ') I (h σ H _ E fun t H' ρ' P q => ⟨ρ', P, q⟩)) fun t s' ⟨H', I', ρ', P, q⟩ => ⟨H', ρ', I', P, q⟩
theorem TWw.and (h : TW X a ρ fun t ρ1 => if t = true then TWw X (.BoolOp .And (b :: es) pos) ρ1 QT else QT false ρ1) : TWw X (.BoolOp .And (a :: b :: es) pos) ρ QT := fun wh pins s σ H E I => by
  refine isTrue_and (thn (h.at E I) fun t s1 ⟨H1, ρ1, I1, P1, q1⟩ => ?_)
  cases t with
  | true => exact thn ((show TWw X (.BoolOp .And (b :: es) pos) ρ1 QT by simpa using q1) wh pins s1 σ H1 P1.ok I1) fun u s2 h2 => TPA.back P1 h2
  | false => exact ⟨H1, _, I1, P1, by simpa using q1⟩
theorem TWw.or (h : TW X a ρ fun t ρ1 => if t = true then QT true ρ1 else TWw X (.BoolOp .Or (b :: es) pos) ρ1 QT) : TWw X (.BoolOp .Or (a :: b :: es) pos) ρ QT := fun wh pins s σ H E I => by
  refine isTrue_or (thn (h.at E I) fun t s1 ⟨H1, ρ1, I1, P1, q1⟩ => ?_)
  cases t with
  | true => exact ⟨H1, _, I1, P1, by simpa using q1⟩
  | false => exact thn ((show TWw X (.BoolOp .Or (b :: es) pos) ρ1 QT by simpa using q1) wh pins s1 σ H1 P1.ok I1) fun u s2 h2 => TPA.back P1 h2
theorem TW.not (h : TW X a ρ fun t ρ1 => QT (!t) ρ1) : TW X (.UnaryOp .Not a pos) ρ QT := TW.of fun pins s σ H E I =>
  isTrue_not (thn (h.at E I) fun t s1 ⟨H1, ρ1, I1, P1, q1⟩ => ⟨H1, ρ1, I1, P1, q1⟩)
theorem EW.ifExp (h : TW X c ρ fun t ρ1 => if t = true then EW X a ρ1 Q else EW X b ρ1 Q) : EW X (.IfExp c a b pos) ρ Q := EW.of fun pins s σ H E I => by
  refine wpAny_IfExp (thn (h.at E I) fun t s1 ⟨H1, ρ1, I1, P1, q1⟩ => ?_)
  cases t with
  | true => exact thn (EW.at (by simpa using q1) P1.ok I1) fun u s2 h2 => EPA.back P1 h2
  | false => exact thn (EW.at (by simpa using q1) P1.ok I1) fun u s2 h2 => EPA.back P1 h2

/-! ### displays -/
theorem EW.tuple {j : Nat} (h : EWds X es ρ fun ds ρ1 => ds.length ≤ sizeLine ∧ Q (.dat (.tuple ds)) ρ1) : EW X (.Tuple es j pos) ρ Q := fun σ H R E kk pins s I =>
  (pe_tup pa_W).run pins s σ H R I (h σ H _ E fun vs H1 ds ρ1 P r ⟨z, q⟩ => ⟨by rw [← r.length]; exact z, fun p n => kk _ _ _ _ (P.trans (Pex.new P.ok n)) (vdat (.tuple upd_same (RpAll.mono (Stb.new n) _ _ r))) q⟩)
theorem EW.list (h : EWds X es ρ fun ds ρ1 => ds.length ≤ sizeLine ∧ Q (.frs ds) ρ1) : EW X (.List es pos) ρ Q := fun σ H R E kk pins s I =>
  (pe_lst pa_W).run pins s σ H R I (h σ H _ E fun vs H1 ds ρ1 P r ⟨z, q⟩ => ⟨by rw [← r.length]; exact z, fun p n => kk _ _ (.frs ds) _ (P.trans (Pex.new P.ok n)) ⟨p, vs, rfl, P.free n, upd_same, RpAll.mono (Stb.new n) _ _ r⟩ q⟩)
end
end AW

/-! AW6: items, slices, built-in functions. -/
namespace AW
variable [HasT]
open PySem PySem.Spec PyProof.Rows L2
section
variable {X : Cx} {e a b c : Expr} {es : List Expr} {ρ : Nv} {Q : QE} {QT : Bool → Nv → Prop} {pos p p2 : Pos} {k : Nat}

/-! ### items -/
theorem RpAll.atI {K : PySem.W.Frag} {H : Hp} {ds : List PyData} {vs : List V} {i : Int} {d : PyData} (r : RpAll K H ds vs) (h : L2.atI ds i = some d) : ∃ v, L2.atI vs i = some v ∧ Rp K H d v := by
  unfold L2.atI at h ⊢
  rw [r.length] at h
  cases e : ixN vs.length i with
  | none => rw [e] at h; simp at h
  | some j =>
    rw [e] at h
    exact r.get h
/-- an item of a sequence, a sign of a text -/
def ixR : R2A := fun ρ x y q => match x, y with
  | .dat (.str z), .dat (.int i) => ∃ c, z.length ≤ sizeLine ∧ L2.atI z.cps.toList i = some c ∧ q (.dat (.str ⟨#[c]⟩))
  | x, .dat (.int i) => ∃ ds d, seqA ρ x = some ds ∧ L2.atI ds i = some d ∧ q (.dat d)
  | _, _ => False
theorem EW.ix (h : EW X a ρ fun x ρ1 => EW X b ρ1 fun y ρ2 => ixR ρ2 x y fun z => Q z ρ2) (hs : PlainIx b := by exact fun _ _ => rfl) : EW X (.Subscript a b pos) ρ Q := fun σ H R E kk pins s I => by
  refine (pe_ix ix_seq pe_W pe_W hs).run pins s σ H R I (h σ H _ E fun v H1 x ρ1 P1 V1 q1 => q1 σ H1 _ P1.ok fun u H2 y ρ2 P2 V2 q2 => ?_)
  have V1' := V1.step E P1 P2
  replace q2 : ixR ρ2 x y (fun z => Q z ρ2) := q2
  unfold ixR at q2
  split at q2
  · rename_i z i
    obtain ⟨c, hz, hc, q2⟩ := q2
    obtain rfl := Rp.str_inv V1'
    obtain rfl := Rp.int_inv V2
    exact .inr (.inr ⟨z, i, c, rfl, rfl, hz, hc, kk _ H2 _ _ (P1.trans P2) (vdat (.str _)) q2⟩)
  · rename_i i _
    obtain ⟨ds, d, hd, hi, q2⟩ := q2
    obtain rfl := Rp.int_inv V2
    obtain ⟨m, xs, rfl, r, rp⟩ := seqA_ok P2.ok V1' hd
    obtain ⟨v, hv, rv⟩ := rp.atI hi
    have fin := kk v H2 (.dat d) _ (P1.trans P2) (vdat rv) q2
    rcases r with r | r
    · exact .inl ⟨m, xs, i, v, rfl, rfl, r, hv, fin⟩
    · exact .inr (.inl ⟨m, xs, i, v, rfl, rfl, r, hv, fin⟩)
  · exact q2.elim

/-! ### slices -/
def cutD (ds : List PyData) (lo hi : Option Int) : List PyData := (ds.drop (HT.sIx ds.length 0 lo)).take (HT.sIx ds.length ds.length hi - HT.sIx ds.length 0 lo)
theorem RpAll.cut {K : PySem.W.Frag} {H : Hp} {ds : List PyData} {vs : List V} (r : RpAll K H ds vs) (lo hi : Option Int) : RpAll K H (cutD ds lo hi) (cutV vs lo hi) := by
  unfold cutD cutV
  rw [r.length]
  exact (r.drop _).take _
def EWo (X : Cx) : Option Expr → Nv → (Option Int → Nv → Prop) → Prop
  | none, ρ, Q => Q none ρ
  | some e, ρ, Q => EW X e ρ fun x ρ1 => ∃ i, x = .dat (.int i) ∧ Q (some i) ρ1
theorem EWo.po (X : Cx) : ∀ lo : Option Expr, ∃ tl, PO X lo tl ∧ ∀ {σ : L2.St} {H : Hp} {R : Option Int → Hp → Prop} {ρ : Nv} {Q : Option Int → Nv → Prop}, EWo X lo ρ Q → NvOk X.K H σ ρ → (∀ i H' ρ', Pex X.K H ρ σ H' ρ' → Q i ρ' → R i H') → tl σ H R
  | none => ⟨_, po_none, fun {σ H R ρ Q} h E k => k none H ρ (Pex.refl E) h⟩
  | some e => ⟨_, po_some pe_W, fun {σ H R ρ Q} h E k => h σ H _ E fun v H1 x ρ1 P V ⟨i, ex, q⟩ => by subst ex; obtain rfl := Rp.int_inv V; exact ⟨i, rfl, k _ H1 _ P q⟩⟩
def sliceR (ρ : Nv) (x : AV) (lo hi : Option Int) (q : AV → Prop) : Prop := match x with
  | .dat (.tuple ds) => q (.dat (.tuple (cutD ds lo hi)))
  | .dat (.str z) => z.length ≤ sizeLine ∧ q (.dat (.str (Txt.slice z lo hi)))
  | x => ∃ ds, seqL ρ x = some ds ∧ q (.frs (cutD ds lo hi))
theorem cutV_all (vs : List V) {lo hi : Option Int} (h : HT.sIx vs.length 0 lo = 0 ∧ HT.sIx vs.length vs.length hi = vs.length) : cutV vs lo hi = vs := by
  unfold cutV
  rw [h.1, h.2]
  simp
theorem EW.slice {lo hi : Option Expr} (h : EW X e ρ fun x ρ1 => EWo X lo ρ1 fun l ρ2 => EWo X hi ρ2 fun u ρ3 => sliceR ρ3 x l u fun z => Q z ρ3) : EW X (.Subscript e (.Slice lo hi none p2) pos) ρ Q := fun σ H R E kk pins s I => by
  obtain ⟨tl, pl, kl⟩ := EWo.po X lo
  obtain ⟨th, ph, kh⟩ := EWo.po X hi
  refine (pe_slice (SlR.or sl_tupA (SlR.or C8.sl_txt sl_list)) pe_W pl ph).run pins s σ H R I (h σ H _ E fun v H1 x ρ1 P1 V1 q1 => kl q1 P1.ok fun l H2 ρ2 P2 q2 => kh q2 P2.ok fun u H3 ρ3 P3 q3 => ?_)
  have V := (V1.step E P1 P2).step E (P1.trans P2) P3
  have PA := (P1.trans P2).trans P3
  replace q3 : sliceR ρ3 x l u (fun z => Q z ρ3) := q3
  unfold sliceR at q3
  split at q3
  · rename_i ds
    obtain ⟨m, xs, rfl, r, rp⟩ := seqT_ok (ds := ds) V rfl
    refine .inl ⟨m, xs, rfl, r, fun w => ?_, fun _ p n => ?_⟩
    · have hc : cutD ds l u = ds := by
        unfold cutD
        rw [rp.length, w.1, w.2, ← rp.length]
        simp
      rw [hc] at q3
      exact kk _ H3 _ _ PA V q3
    · exact kk _ _ _ _ (PA.trans (Pex.new P3.ok n)) (vdat (.tuple upd_same (RpAll.mono (Stb.new n) _ _ (rp.cut l u)))) q3
  · rename_i z
    obtain rfl := Rp.str_inv V
    exact .inr (.inl ⟨z, rfl, q3.1, kk _ H3 _ _ PA (vdat (.str _)) q3.2⟩)
  · obtain ⟨ds, hd, q3⟩ := q3
    obtain ⟨m, xs, rfl, r, rp⟩ := seqL_ok P3.ok V hd
    exact .inr (.inr ⟨m, xs, rfl, r.sq, fun p n => kk _ _ (.frs _) _ (PA.trans (Pex.new P3.ok n)) ⟨p, _, rfl, PA.free n, upd_same, RpAll.mono (Stb.new n) _ _ (rp.cut l u)⟩ q3⟩)

/-! ### built-in functions of one argument -/
/-- what a function makes of one value: a reading, at the state behind the argument -/
def B1 (X : Cx) (r : List V → Hp → VK → Prop) (t : Nv → AV → (AV → Prop) → Prop) : Prop := ∀ (σ : L2.St) (H0 H : Hp) (ρ : Nv) (x : AV) (v : V) (q : AV → Prop) (R : VK), NvOk X.K H σ ρ → VOk X.K H0 H ρ σ x v → t ρ x q → (∀ w H' z, Pex X.K H ρ σ H' ρ → VOk X.K H H' ρ σ z w → q z → R w H') → r [v] H R
theorem EW.b1 {x : Str} {id : String} {r : List V → Hp → VK → Prop} {t : Nv → AV → (AV → Prop) → Prop} (hc : CallR X (.builtin id) r) (ht : B1 X r t) (hm : X.mg x = none) (hv : bootBuiltins x = some (.builtin id)) (h : EW X e ρ fun x ρ1 => t ρ1 x fun z => Q z ρ1) (hg : Gl X x)
    (hn : x ≠ "__name__" := by decide) (hdb : (x == ("__debug__" : Str)) = false := by decide) (he : starEach [e] X.env = (false, eval e X.env) :: starEach [] X.env := by rfl) (hpl : (backTo pos (starEach [] X.env)).any (·.1) = false := by rfl) : EW X (.Call (.Name x p) [e] [] pos) ρ Q := fun σ H R E kk pins s I =>
  (pe_callB hc hg hm hv (pa_cons pe_W pa_nil he) hn hdb he hpl).run pins s σ H R I (h σ H _ E fun v H1 x ρ1 P1 V1 q1 => ht σ H H1 ρ1 x v _ R P1.ok V1 q1 fun w H' z P2 V2 q2 => kk w H' z ρ1 (P1.trans P2) (V2.back fun a n => P1.free n) q2)
theorem EW.t1 {x : Str} {T : String} {r : List V → Hp → VK → Prop} {t : Nv → AV → (AV → Prop) → Prop} (hc : CallR X (.type T) r) (ht : B1 X r t) (hm : X.mg x = none) (hv : bootBuiltins x = some (.type T)) (h : EW X e ρ fun x ρ1 => t ρ1 x fun z => Q z ρ1) (hg : Gl X x)
    (hn : x ≠ "__name__" := by decide) (hdb : (x == ("__debug__" : Str)) = false := by decide) (he : starEach [e] X.env = (false, eval e X.env) :: starEach [] X.env := by rfl) (hpl : (backTo pos (starEach [] X.env)).any (·.1) = false := by rfl) : EW X (.Call (.Name x p) [e] [] pos) ρ Q := fun σ H R E kk pins s I =>
  (pe_callTy hc hg hm hv (pa_cons pe_W pa_nil he) hn hdb he hpl).run pins s σ H R I (h σ H _ E fun v H1 x ρ1 P1 V1 q1 => ht σ H H1 ρ1 x v _ R P1.ok V1 q1 fun w H' z P2 V2 q2 => kk w H' z ρ1 (P1.trans P2) (V2.back fun a n => P1.free n) q2)
/-- len -/
def lenR : Nv → AV → (AV → Prop) → Prop := fun ρ x q => match x with
  | .dat (.str z) => z.length ≤ sizeLine ∧ q (.dat (.int z.length))
  | x => ∃ ds, seqA ρ x = some ds ∧ q (.dat (.int ds.length))
theorem b1_len : B1 X (fun xs H Q => ∃ x n, xs = [x] ∧ LenV X.K x H n ∧ Q (.int n) H) lenR := fun σ H0 H ρ x v q R E V t kk => by
  unfold lenR at t
  split at t
  · rename_i z
    obtain rfl := Rp.str_inv V
    exact ⟨_, _, rfl, ⟨t.1, rfl⟩, kk _ H _ (Pex.refl E) (vdat (.int _)) t.2⟩
  · obtain ⟨ds, hd, t⟩ := t
    obtain ⟨m, xs, rfl, r, rp⟩ := seqA_ok E V hd
    refine ⟨_, ds.length, rfl, ?_, kk _ H _ (Pex.refl E) (vdat (.int _)) t⟩
    rcases r with r | r
    · exact .inl ⟨xs, r, rp.length⟩
    · exact .inr ⟨xs, r, rp.length⟩
theorem EW.len (C : Ctx X k) (h : EW X e ρ fun x ρ1 => lenR ρ1 x fun z => Q z ρ1) (hg : Gl X "len" := by rfl) (he : starEach [e] X.env = (false, eval e X.env) :: starEach [] X.env := by rfl) (hpl : (backTo pos (starEach [] X.env)).any (·.1) = false := by rfl) : EW X (.Call (.Name "len" p) [e] [] pos) ρ Q :=
  EW.b1 call_len b1_len C.blt.len PySem.boot_len h hg (by decide) (by decide) he hpl
/-- all, any of truth values -/
def allR : Nv → AV → (AV → Prop) → Prop := fun ρ x q => ∃ bs : List Bool, seqL ρ x = some (bs.map .bool) ∧ q (.dat (.bool (bs.all id)))
def anyR : Nv → AV → (AV → Prop) → Prop := fun ρ x q => ∃ bs : List Bool, seqL ρ x = some (bs.map .bool) ∧ q (.dat (.bool (bs.any id)))
theorem b1_all : B1 X (rAll X.K) allR := fun σ H0 H ρ x v q R E V t kk => by
  obtain ⟨bs, hd, t⟩ := t
  obtain ⟨m, xs, rfl, r, rp⟩ := seqL_ok E V hd
  obtain rfl := rp.bools
  exact ⟨m, bs, rfl, r.sq, kk _ H _ (Pex.refl E) (vdat (.bool _)) t⟩
theorem b1_any : B1 X (rAny X.K) anyR := fun σ H0 H ρ x v q R E V t kk => by
  obtain ⟨bs, hd, t⟩ := t
  obtain ⟨m, xs, rfl, r, rp⟩ := seqL_ok E V hd
  obtain rfl := rp.bools
  exact ⟨m, bs, rfl, r.sq, kk _ H _ (Pex.refl E) (vdat (.bool _)) t⟩
theorem EW.all (C : Ctx X k) (h : EW X e ρ fun x ρ1 => allR ρ1 x fun z => Q z ρ1) (hg : Gl X "all" := by rfl) (he : starEach [e] X.env = (false, eval e X.env) :: starEach [] X.env := by rfl) (hpl : (backTo pos (starEach [] X.env)).any (·.1) = false := by rfl) : EW X (.Call (.Name "all" p) [e] [] pos) ρ Q :=
  EW.b1 (cr_all C.calm) b1_all C.blt.all (by decide +kernel) h hg (by decide) (by decide) he hpl
theorem EW.any (C : Ctx X k) (h : EW X e ρ fun x ρ1 => anyR ρ1 x fun z => Q z ρ1) (hg : Gl X "any" := by rfl) (he : starEach [e] X.env = (false, eval e X.env) :: starEach [] X.env := by rfl) (hpl : (backTo pos (starEach [] X.env)).any (·.1) = false := by rfl) : EW X (.Call (.Name "any" p) [e] [] pos) ρ Q :=
  EW.b1 (cr_any C.calm) b1_any C.blt.any (by decide +kernel) h hg (by decide) (by decide) he hpl
def absR : Nv → AV → (AV → Prop) → Prop := fun ρ x q => ∃ i, x = .dat (.int i) ∧ q (.dat (.int (if i < 0 then -i else i)))
theorem EW.abs (C : Ctx X k) (h : EW X e ρ fun x ρ1 => absR ρ1 x fun z => Q z ρ1) (hg : Gl X "abs" := by rfl) (he : starEach [e] X.env = (false, eval e X.env) :: starEach [] X.env := by rfl) (hpl : (backTo pos (starEach [] X.env)).any (·.1) = false := by rfl) : EW X (.Call (.Name "abs" p) [e] [] pos) ρ Q :=
  EW.b1 call_abs (fun σ H0 H ρ x v q R E V ⟨i, e, t⟩ kk => by subst e; obtain rfl := Rp.int_inv V; exact ⟨i, rfl, kk _ H _ (Pex.refl E) (vdat (.int _)) t⟩) C.blt.abs (by decide +kernel) h hg (by decide) (by decide) he hpl
/-- int of an int, of a truth value -/
def b2n (b : Bool) : Int := if b then 1 else 0
def intCR : Nv → AV → (AV → Prop) → Prop := fun _ x q => match x with
  | .dat (.int i) => q (.dat (.int i))
  | .dat (.bool b) => q (.dat (.int (b2n b)))
  | _ => False
theorem EW.intC (C : Ctx X k) (h : EW X e ρ fun x ρ1 => intCR ρ1 x fun z => Q z ρ1) (hg : Gl X "int" := by rfl) (he : starEach [e] X.env = (false, eval e X.env) :: starEach [] X.env := by rfl) (hpl : (backTo pos (starEach [] X.env)).any (·.1) = false := by rfl) : EW X (.Call (.Name "int" p) [e] [] pos) ρ Q :=
  EW.t1 call_int1 (fun σ H0 H ρ x v q R E V t kk => by
    unfold intCR at t
    split at t
    · obtain rfl := Rp.int_inv V; exact .inl ⟨_, rfl, kk _ H _ (Pex.refl E) (vdat (.int _)) t⟩
    · obtain rfl := Rp.bool_inv V; exact .inr ⟨_, rfl, kk _ H _ (Pex.refl E) (vdat (.int _)) t⟩
    · exact t.elim) C.blt.int (by decide +kernel) h hg (by decide) (by decide) he hpl
theorem seqT_eq {x : AV} {ds : List PyData} (h : seqT x = some ds) : x = .dat (.tuple ds) := by
  match x, h with
  | .dat (.tuple es), h => cases h; rfl
/-- tuple(list), tuple(tuple); list(..) -/
def tupCR : Nv → AV → (AV → Prop) → Prop := fun ρ x q => ∃ ds, seqA ρ x = some ds ∧ q (.dat (.tuple ds))
theorem EW.tupC (C : Ctx X k) (h : EW X e ρ fun x ρ1 => tupCR ρ1 x fun z => Q z ρ1) (hg : Gl X "tuple" := by rfl) (he : starEach [e] X.env = (false, eval e X.env) :: starEach [] X.env := by rfl) (hpl : (backTo pos (starEach [] X.env)).any (·.1) = false := by rfl) : EW X (.Call (.Name "tuple" p) [e] [] pos) ρ Q :=
  EW.t1 call_tuple_of (fun σ H0 H ρ x v q R E V ⟨ds, hd, t⟩ kk => by
    unfold seqA at hd
    cases e : seqL ρ x with
    | some es =>
      rw [e] at hd
      obtain rfl : es = ds := Option.some.inj hd
      obtain ⟨m, xs, rfl, r, rp⟩ := seqL_ok E V e
      exact ⟨m, xs, rfl, .inl ⟨r.sq, fun l n => kk _ _ _ (Pex.new E n) (tup_new n rp) t⟩⟩
    | none =>
      rw [e] at hd
      obtain rfl := seqT_eq hd
      obtain ⟨m, xs, rfl, r, rp⟩ := seqT_ok (ds := ds) V rfl
      exact ⟨m, xs, rfl, .inr ⟨r, kk _ H _ (Pex.refl E) (vdat (show Rp X.K H (.tuple ds) (.ref m) from V)) t⟩⟩) C.blt.tuple (by decide +kernel) h hg (by decide) (by decide) he hpl
def lstCR : Nv → AV → (AV → Prop) → Prop := fun ρ x q => ∃ ds, seqA ρ x = some ds ∧ q (.frs ds)
theorem EW.lstC (C : Ctx X k) (h : EW X e ρ fun x ρ1 => lstCR ρ1 x fun z => Q z ρ1) (hg : Gl X "list" := by rfl) (he : starEach [e] X.env = (false, eval e X.env) :: starEach [] X.env := by rfl) (hpl : (backTo pos (starEach [] X.env)).any (·.1) = false := by rfl) : EW X (.Call (.Name "list" p) [e] [] pos) ρ Q :=
  EW.t1 call_list_of (fun σ H0 H ρ x v q R E V ⟨ds, hd, t⟩ kk => by
    obtain ⟨m, xs, rfl, r, rp⟩ := seqA_ok E V hd
    exact ⟨m, xs, rfl, r, fun l n => kk _ _ _ (Pex.new E n) (frs_new n rp) t⟩) C.blt.list (by decide +kernel) h hg (by decide) (by decide) he hpl
/-- str of an int, of a text -/
def strCR : Nv → AV → (AV → Prop) → Prop := fun _ x q => ∃ i : Int, x = .dat (.int i) ∧ i.natAbs.log2 < 1920 ∧ q (.dat (.str (toString i)))
theorem EW.strC (C : Ctx X k) (h : EW X e ρ fun x ρ1 => strCR ρ1 x fun z => Q z ρ1) (hg : Gl X "str" := by rfl) (he : starEach [e] X.env = (false, eval e X.env) :: starEach [] X.env := by rfl) (hpl : (backTo pos (starEach [] X.env)).any (·.1) = false := by rfl) : EW X (.Call (.Name "str" p) [e] [] pos) ρ Q :=
  EW.t1 call_str_int (fun σ H0 H ρ x v q R E V ⟨i, ex, z, t⟩ kk => by subst ex; obtain rfl := Rp.int_inv V; exact ⟨i, rfl, z, kk _ H _ (Pex.refl E) (vdat (.str _)) t⟩) C.blt.str (by decide +kernel) h hg (by decide) (by decide) he hpl

/-! ### sum of ints: a list, a tuple -/
theorem sum_tupG {prog : Program} {w : World} {A : Around} {E : Value → Shared → Prop} {s : Shared} {l : Addr} {its : List Value} {ns : List Int} {Qf : Value → Shared → Prop} (hh : A.handled = none) (hl : IsTup s.heap l its.toArray) (hi : IntsAre its ns)
    (h : ∀ h' tk t', (∀ b o, s.heap.get? b = some o → h'.get? b = some o) → Qf (.int ns.sum t') { s with heap := h', toks := tk }) : wpAny (model prog w) A (call (.builtin "sum") [.ref l]) Qf E s := by
  obtain ⟨xs, e⟩ := hi.allInts.items
  have hn : (xs.toList.map (·.1)) = ns := by
    have h1 : numsOf (intItems xs).toList = ns := by rw [← e]; exact hi.numsOf
    rwa [nums_intItems] at h1
  rw [e] at hl
  have hlt : l < s.heap.objs.size := by obtain ⟨_, e', _⟩ := hl; exact Heap.lt_size e'
  refine call_sum_walkG (wpAny_pyIter_tuple hl ?_)
  refine ⟨s.heap.objs.size, _, _, _, _, _, numAt xs, rfl, Walks.tuple (A := A.in1) hh _ l (Nat.ne_of_lt hlt) (intItems xs), ⟨⟨_, Heap.get?_push_size _ rfl, rfl, rfl⟩, IsTup.push hl _⟩, fun b hb => ?_, (fun _ _ => intItems_at), fun h' tk t' hk => ?_⟩
  · show b < (s.heap.push _).objs.size
    rw [Heap.size_push]
    have hb' : b = s.heap.objs.size ∨ b = l := by simpa using hb
    rcases hb' with rfl | rfl
    · exact Nat.lt_succ_self _
    · exact Nat.lt_succ_of_lt hlt
  · have hsum : preSum (numAt xs) (intItems xs).size = ns.sum := by
      rw [preSum_eq, List.take_of_length_le (by simp [intItems]), hn]
    rw [hsum]
    exact h h' tk t' fun b o ho => hk b o (by simpa using Nat.ne_of_lt (Heap.lt_size ho)) (Heap.get?_push_of_some _ ho)
def sumR : Nv → AV → (AV → Prop) → Prop := fun ρ x q => ∃ ns : List Int, seqA ρ x = some (ns.map .int) ∧ q (.dat (.int ns.sum))
def rSumA (K : PySem.W.Frag) : List V → Hp → VK → Prop := fun vs H Q => ∃ (a : Addr) (ns : List Int), vs = [V.ref a] ∧ (SqL K H a (ns.map V.int) ∨ SqT K H a (ns.map V.int)) ∧ Q (.int ns.sum) H
theorem cr_sumA (hc : X.calm = true) : CallR X (.builtin "sum") (rSumA X.K) := by
  intro pins s σ H vs us Q I r h
  obtain ⟨a, ns, rfl, hs, q⟩ := h
  rcases hs with hs | hs
  · exact cr_sum hc pins s σ H _ us Q I r ⟨a, ns, rfl, hs, q⟩
  · obtain ⟨its, rv, hl, _⟩ := I.tuple hs
    rw [Vals.ref1 r]
    exact sum_tupG (I.ok.hd hc) hl rv.ints fun h' tk t' hk => ⟨.int _, H, I.kept hk, ⟨_, rfl⟩, q⟩
theorem EW.sum (C : Ctx X k) (h : EW X e ρ fun x ρ1 => sumR ρ1 x fun z => Q z ρ1) (hg : Gl X "sum" := by rfl) (he : starEach [e] X.env = (false, eval e X.env) :: starEach [] X.env := by rfl) (hpl : (backTo pos (starEach [] X.env)).any (·.1) = false := by rfl) : EW X (.Call (.Name "sum" p) [e] [] pos) ρ Q :=
  EW.b1 (cr_sumA C.calm) (fun σ H0 H ρ x v q R E V ⟨ns, hd, t⟩ kk => by
    obtain ⟨m, xs, rfl, r, rp⟩ := seqA_ok E V hd
    obtain rfl := rp.ints
    exact ⟨m, ns, rfl, r, kk _ H _ (Pex.refl E) (vdat (.int _)) t⟩) C.blt.sum (by decide +kernel) h hg (by decide) (by decide) he hpl
end
end AW

/-! AW7: stores, statements, targets. -/
namespace AW
variable [HasT]
open PySem PySem.Spec PyProof.Rows L2

/-! ### stores -/
def pinB (ρ : Nv) (i : Nat) : Bool := match ρ[i]? with
  | some (.hol true _) => true
  | _ => false
theorem not_pin {ρ : Nv} {i : Nat} (h : pinB ρ i = false) {ds : List PyData} : ρ[i]? ≠ some (.hol true ds) := fun e => by simp [pinB, e] at h
section
variable {K : PySem.W.Frag} {H H1 : Hp} {ρ ρ1 : Nv} {σ : L2.St} {i : Nat} {v : V} {s : SV}
theorem get_set {α : Type} {l : List α} {i j : Nat} {x y : α} (h : (l.set i x)[j]? = some y) : (j = i ∧ x = y ∧ i < l.length) ∨ (j ≠ i ∧ l[j]? = some y) := by
  by_cases e : j = i
  · subst e
    have hl : j < l.length := by
      have := (List.getElem?_eq_some_iff.mp h).1
      simpa using this
    rw [List.getElem?_set_self hl] at h
    exact .inl ⟨rfl, Option.some.inj h, hl⟩
  · rw [List.getElem?_set_ne (Ne.symm e)] at h
    exact .inr ⟨e, h⟩
theorem own_new (hs : ∀ p ds, s = .hol p ds → p = false ∧ ∃ a, v = .ref a ∧ H a = none) (hd : ∀ es, s = .dic es → ∃ a, v = .ref a ∧ H a = none) (o : Owns s) : ∃ a, v = .ref a ∧ H a = none := by
  cases s with
  | hol p ds => exact (hs p ds rfl).2
  | dic es => exact hd es rfl
  | _ => exact o.elim
theorem pst_asg (E : NvOk K H σ ρ) (P : Pex K H ρ σ H1 ρ1) (np : pinB ρ1 i = false) (so : SOk K H1 s (some v)) (hs : ∀ p ds, s = .hol p ds → p = false ∧ ∃ a, v = .ref a ∧ H a = none) (hd : ∀ es, s = .dic es → ∃ a, v = .ref a ∧ H a = none := by intro _ z; cases z) : Pst K H ρ σ H1 (ρ1.set i s) (σ.set i (some v)) where
  kp := P.kp
  th := P.th
  mn := fun b ⟨j, s', h, o, e⟩ => by
    rcases get_set h with ⟨rfl, rfl, hl⟩ | ⟨hj, h⟩
    · obtain ⟨a, rfl, n⟩ := own_new hs hd o
      rw [List.getElem?_set_self (by rw [← P.ok.len]; exact hl)] at e
      cases e
      exact .inr n
    · rw [List.getElem?_set_ne (Ne.symm hj)] at e
      exact .inl (P.mn ⟨j, s', h, o, e⟩)
  pn := fun j ds h => by
    obtain ⟨es, h1⟩ := P.hs j true ds h
    have hj : i ≠ j := fun e => by subst e; exact not_pin np h1
    exact ⟨⟨es, by rw [List.getElem?_set_ne hj]; exact h1⟩, by rw [List.getElem?_set_ne hj]⟩
  ok := {
    tb := P.ok.tb
    len := by simp [P.ok.len]
    get := fun j s' h => by
      rcases get_set h with ⟨rfl, rfl, hl⟩ | ⟨hj, h⟩
      · exact ⟨some v, by rw [List.getElem?_set_self (by rw [← P.ok.len]; exact hl)], so⟩
      · obtain ⟨w, e, q⟩ := P.ok.get j s' h
        exact ⟨w, by rw [List.getElem?_set_ne (Ne.symm hj)]; exact e, q⟩
    sep := fun j k a s1 s2 hne h1 h2 o1 o2 e1 e2 => by
      rcases get_set h1 with ⟨rfl, rfl, hl⟩ | ⟨hj, g1⟩
      · obtain ⟨a', rfl, n⟩ := own_new hs hd o1
        rw [List.getElem?_set_self (by rw [← P.ok.len]; exact hl)] at e1
        cases e1
        rcases get_set h2 with ⟨rfl, _, _⟩ | ⟨hk, g2⟩
        · exact hne rfl
        · rw [List.getElem?_set_ne (Ne.symm hk)] at e2
          exact upd_mine E P n ⟨k, s2, g2, o2, e2⟩
      · rw [List.getElem?_set_ne (Ne.symm hj)] at e1
        rcases get_set h2 with ⟨rfl, rfl, hl⟩ | ⟨hk, g2⟩
        · obtain ⟨a', rfl, n⟩ := own_new hs hd o2
          rw [List.getElem?_set_self (by rw [← P.ok.len]; exact hl)] at e2
          cases e2
          exact upd_mine E P n ⟨j, s1, g1, o1, e1⟩
        · rw [List.getElem?_set_ne (Ne.symm hk)] at e2
          exact P.ok.sep j k a s1 s2 hne g1 g2 o1 o2 e1 e2 }
/-- a list of ours is given up: its slot is no one's -/
theorem pex_mut {p : Bool} {ds es : List PyData} {a : Addr} {vs : List V} (E : NvOk K H σ ρ) (h : ρ[i]? = some (.hol p ds)) (e : σ[i]? = some (some (.ref a))) (r : RpAll K H es vs) : Pex K H ρ σ (upd H a (.lst vs)) (ρ.set i (.hol p es)) := by
  obtain ⟨a', ws, e', q, _⟩ := E.hol h
  rw [e] at e'
  cases e'
  have st : Stb H (upd H a (.lst vs)) := fun b o im hb => by rw [upd_ne (fun z => by rw [z, q] at hb; cases hb; exact im)]; exact hb
  have hl := get_lt h
  refine ⟨fun b o hb nm => ?_, fun b o hb => ?_, fun j s' hj o => ?_, fun j s' hj o => ?_, ⟨by simp [E.len], fun j s hj => ?_, fun j k b s1 s2 hne h1 h2 o1 o2 e1 e2 => ?_, tabs_step (fun b o h nl => by rw [upd_ne (fun z => by rw [z, q] at h; cases h; exact nl _ rfl)]; exact h) E.tb⟩⟩
  · rw [upd_ne (fun z => nm (by subst z; exact ⟨i, _, h, trivial, e⟩))]; exact fun _ => hb
  · by_cases z : b = a
    · subst z; exact ⟨_, upd_same⟩
    · exact ⟨o, by rw [upd_ne z]; exact hb⟩
  · rcases get_set hj with ⟨rfl, z, _⟩ | ⟨_, hj⟩
    · cases z; exact ⟨_, h, rfl⟩
    · exact ⟨s', hj, .refl o⟩
  · by_cases z : j = i
    · subst z
      rw [h] at hj
      cases hj
      exact ⟨.hol p es, by rw [List.getElem?_set_self hl], rfl⟩
    · exact ⟨s', by rw [List.getElem?_set_ne (Ne.symm z)]; exact hj, .refl o⟩
  · rcases get_set hj with ⟨rfl, rfl, _⟩ | ⟨hne, hj⟩
    · exact ⟨_, e, a, vs, rfl, upd_same, RpAll.mono st _ _ r⟩
    · obtain ⟨w, e2, so⟩ := E.get j s hj
      refine ⟨w, e2, ?_⟩
      cases s with
      | un => trivial
      | dat d => obtain ⟨v, e3, r3⟩ := so; exact ⟨v, e3, Rp.mono st _ _ r3⟩
      | hol p3 ds3 =>
        obtain ⟨b, ws3, rfl, q3, r3⟩ := so
        refine ⟨b, ws3, rfl, ?_, RpAll.mono st _ _ r3⟩
        rw [upd_ne (fun z => by subst z; exact E.sep j i b _ _ hne hj h trivial trivial e2 e)]
        exact q3
      | dic ds3 =>
        obtain ⟨b, o3, ws3, rfl, q3, k3, r3⟩ := so
        refine ⟨b, o3, ws3, rfl, ?_, k3, RpAll.mono st _ _ r3⟩
        rw [upd_ne (fun z => by subst z; exact E.sep j i b _ _ hne hj h trivial trivial e2 e)]
        exact q3
  · rcases get_set h1 with ⟨rfl, z1, _⟩ | ⟨n1, g1⟩
    · cases z1
      rcases get_set h2 with ⟨rfl, _, _⟩ | ⟨n2, g2⟩
      · exact hne rfl
      · exact E.sep _ _ b _ _ hne h g2 trivial o2 e1 e2
    · rcases get_set h2 with ⟨rfl, z2, _⟩ | ⟨n2, g2⟩
      · cases z2
        exact E.sep _ _ b _ _ hne g1 h o1 trivial e1 e2
      · exact E.sep _ _ b _ _ hne g1 g2 o1 o2 e1 e2
end

/-! ### one statement, several -/
def tS1 (X : Cx) (st : Stmt) : TS := fun D σ H => ∀ (pins : List (Addr × Obj)) (s : Shared), L2.Inv X pins σ H s → wpAny (model X.prog X.w) X.A (exec st X.env) (SP X pins D) X.xe s
theorem ps_W {X : Cx} {st : Stmt} : PS X st (tS1 X st) := ⟨fun pins s _ _ _ I h => h pins s I⟩
def S1 (X : Cx) (st : Stmt) (ρ : Nv) (E : AEnds) : Prop := ∀ (σ : L2.St) (H : Hp) (D : Ends), NvOk X.K H σ ρ →
  (∀ σ' H' ρ', Pst X.K H ρ σ H' ρ' σ' → E.nx ρ' → D.nx σ' H') → (∀ v σ' H' x ρ', Pst X.K H ρ σ H' ρ' σ' → VOk X.K H H' ρ' σ' x v → E.rt x ρ' → D.rt v H') →
  (∀ σ' H' ρ', Pst X.K H ρ σ H' ρ' σ' → E.bk ρ' → D.bk σ' H') → (∀ σ' H' ρ', Pst X.K H ρ σ H' ρ' σ' → E.ct ρ' → D.ct σ' H') → tS1 X st D σ H
section
variable {X : Cx} {st : Stmt} {sts bd od : List Stmt} {e a b c : Expr} {es : List Expr} {ρ : Nv} {E : AEnds} {pos p p2 pos' : Pos} {k : Nat}
theorem VOk.back' {K : PySem.W.Frag} {H0 H1 H : Hp} {ρ : Nv} {σ : L2.St} {x : AV} {v : V} (hf : ∀ a, H1 a = none → H0 a = none) (h : VOk K H1 H ρ σ x v) : VOk K H0 H ρ σ x v := h.back hf
theorem SW.nil (h : E.nx ρ) : SW X [] ρ E := fun σ H D Ev k1 k2 k3 k4 pins s I => pss_nil.run pins s σ H D I (k1 σ H ρ (Pst.refl Ev) h)
theorem SW.cons (h : S1 X st ρ { E with nx := fun ρ' => SW X sts ρ' E }) : SW X (st :: sts) ρ E := fun σ H D Ev k1 k2 k3 k4 pins s I => by
  refine (pss_cons ps_W pss_W).run pins s σ H D I (h σ H _ Ev (fun σ' H' ρ' P q => ?_) k2 k3 k4)
  exact q σ' H' D P.ok (fun σ2 H2 ρ2 P2 q2 => k1 _ _ _ (P.trans P2) q2) (fun v σ2 H2 x ρ2 P2 V q2 => k2 v σ2 H2 x ρ2 (P.trans P2) (V.back fun a n => P.free n) q2)
    (fun σ2 H2 ρ2 P2 q2 => k3 _ _ _ (P.trans P2) q2) (fun σ2 H2 ρ2 P2 q2 => k4 _ _ _ (P.trans P2) q2)
/-- the rest from what is known behind the first -/
theorem SW.cut (Mid : Nv → Prop) (h : S1 X st ρ { E with nx := Mid }) (h2 : ∀ ρ', Mid ρ' → SW X sts ρ' E) : SW X (st :: sts) ρ E := SW.cons fun σ H D Ev k1 k2 k3 k4 => h σ H D Ev (fun σ' H' ρ' P q => k1 σ' H' ρ' P (h2 ρ' q)) k2 k3 k4
theorem S1.imp {E' : AEnds} (h : S1 X st ρ E) (h1 : ∀ ρ', E.nx ρ' → E'.nx ρ') (h2 : ∀ x ρ', E.rt x ρ' → E'.rt x ρ') (h3 : ∀ ρ', E.bk ρ' → E'.bk ρ') (h4 : ∀ ρ', E.ct ρ' → E'.ct ρ') : S1 X st ρ E' := fun σ H D Ev k1 k2 k3 k4 =>
  h σ H D Ev (fun σ' H' ρ' P q => k1 σ' H' ρ' P (h1 _ q)) (fun v σ' H' x ρ' P V q => k2 v σ' H' x ρ' P V (h2 _ _ q)) (fun σ' H' ρ' P q => k3 σ' H' ρ' P (h3 _ q)) (fun σ' H' ρ' P q => k4 σ' H' ρ' P (h4 _ q))
theorem S1.pass (h : E.nx ρ) : S1 X (.Pass pos) ρ E := fun σ H D Ev k1 k2 k3 k4 pins s I => ps_pass.run pins s σ H D I (k1 σ H ρ (Pst.refl Ev) h)
theorem S1.brk (h : E.bk ρ) : S1 X (.Break pos) ρ E := fun σ H D Ev k1 k2 k3 k4 pins s I => ps_break.run pins s σ H D I (k3 σ H ρ (Pst.refl Ev) h)
theorem S1.cont (h : E.ct ρ) : S1 X (.Continue pos) ρ E := fun σ H D Ev k1 k2 k3 k4 pins s I => ps_continue.run pins s σ H D I (k4 σ H ρ (Pst.refl Ev) h)
theorem S1.expr (h : EW X e ρ fun _ ρ1 => E.nx ρ1) (hs : swapsWith e Option.none pos.line X.env = pure false := by rfl) : S1 X (.Expr e pos) ρ E := fun σ H D Ev k1 k2 k3 k4 pins s I =>
  (ps_expr pe_W hs).run pins s σ H D I (h σ H _ Ev fun v H' x ρ' P V q => k1 σ H' ρ' P.pst q)
theorem S1.ret (h : EW X e ρ E.rt) : S1 X (.Return (some e) pos) ρ E := fun σ H D Ev k1 k2 k3 k4 pins s I =>
  (ps_ret pe_W).run pins s σ H D I (h σ H _ Ev fun v H' x ρ' P V q => k2 v σ H' x ρ' P.pst V q)
theorem S1.retN (h : E.rt (.dat .none) ρ) : S1 X (.Return Option.none pos) ρ E := fun σ H D Ev k1 k2 k3 k4 pins s I =>
  ps_retN.run pins s σ H D I (k2 .non σ H _ ρ (Pst.refl Ev) (vdat .none) h)
theorem S1.ite (h : TW X c ρ fun t ρ1 => if t = true then SW X bd ρ1 E else SW X od ρ1 E) : S1 X (.If c bd od pos) ρ E := fun σ H D Ev k1 k2 k3 k4 pins s I => by
  refine (ps_if pt_W pss_W pss_W).run pins s σ H D I (h σ H _ Ev fun t H1 ρ1 P q => ?_)
  have go : ∀ {sts : List Stmt}, SW X sts ρ1 E → tSW X sts D σ H1 := fun q => q σ H1 D P.ok (fun σ2 H2 ρ2 P2 q2 => k1 _ _ _ (P.pst.trans P2) q2) (fun v σ2 H2 x ρ2 P2 V q2 => k2 v σ2 H2 x ρ2 (P.pst.trans P2) (V.back fun a n => P.free n) q2)
    (fun σ2 H2 ρ2 P2 q2 => k3 _ _ _ (P.pst.trans P2) q2) (fun σ2 H2 ρ2 P2 q2 => k4 _ _ _ (P.pst.trans P2) q2)
  cases t with
  | true => exact if_pos rfl ▸ go (by simpa using q)
  | false => exact (if_neg Bool.false_ne_true).symm ▸ go (by simpa using q)

/-! ### x = e -/
def asgR (i : Nat) (ρ : Nv) (x : AV) (q : Nv → Prop) : Prop := pinB ρ i = false ∧ match x with
  | .dat d => q (ρ.set i (.dat d))
  | .frs ds => q (ρ.set i (.hol false ds))
  | .own j => ∃ ds, ρ[j]? = some (.hol false ds) ∧ i ≠ j ∧ q ((ρ.set j .un).set i (.hol false ds))
theorem pst_own {K : PySem.W.Frag} {H H1 : Hp} {ρ ρ1 : Nv} {σ : L2.St} {i j : Nat} {v : V} {ds : List PyData} (E : NvOk K H σ ρ) (P : Pex K H ρ σ H1 ρ1) (np : pinB ρ1 i = false) (h : ρ1[j]? = some (.hol false ds)) (hij : i ≠ j) (e : σ[j]? = some (some v)) : Pst K H ρ σ H1 ((ρ1.set j .un).set i (.hol false ds)) (σ.set i (some v)) := by
  obtain ⟨a, vs, e', q, r⟩ := P.ok.hol h
  rw [e] at e'
  cases e'
  -- where a list stands now, one of ours stood
  have src : ∀ {l : Nat} {s : SV}, ((ρ1.set j .un).set i (.hol false ds))[l]? = some s → Owns s → ∃ l', ρ1[l']? = some s ∧ (σ.set i (some (V.ref a)))[l]? = σ[l']? ∧ (l = i ∧ l' = j ∨ l ≠ i ∧ l' = l ∧ l ≠ j) := by
    intro l s hl o
    rcases get_set hl with ⟨rfl, z, hb⟩ | ⟨n1, hl⟩
    · cases z
      exact ⟨j, h, by rw [List.getElem?_set_self (by rw [← P.ok.len]; simpa using hb), e], .inl ⟨rfl, rfl⟩⟩
    · rcases get_set hl with ⟨rfl, z, _⟩ | ⟨n2, hl⟩
      · cases z; exact o.elim
      · exact ⟨l, hl, by rw [List.getElem?_set_ne (Ne.symm n1)], .inr ⟨n1, rfl, n2⟩⟩
  refine ⟨P.kp, P.th, fun b ⟨l, s, hl, o, el⟩ => ?_, fun l es hl => ?_, ⟨by simp [P.ok.len], fun l s hl => ?_, fun l m b s1 s2 hne h1 h2 o1 o2 e1 e2 => ?_, P.ok.tb⟩⟩
  · obtain ⟨l', z1, z2, _⟩ := src hl o
    exact .inl (P.mn ⟨l', s, z1, o, by rw [← z2]; exact el⟩)
  · obtain ⟨fs, h1⟩ := P.hs l true es hl
    have n1 : i ≠ l := fun z => by subst z; exact not_pin np h1
    have n2 : j ≠ l := fun z => by subst z; rw [h] at h1; cases h1
    exact ⟨⟨fs, by rw [List.getElem?_set_ne n1, List.getElem?_set_ne n2]; exact h1⟩, by rw [List.getElem?_set_ne n1]⟩
  · rcases get_set hl with ⟨rfl, z, hb⟩ | ⟨n1, hl⟩
    · subst z
      exact ⟨_, by rw [List.getElem?_set_self (by rw [← P.ok.len]; simpa using hb)], a, vs, rfl, q, r⟩
    · rcases get_set hl with ⟨rfl, z, hb⟩ | ⟨n2, hl⟩
      · subst z
        exact ⟨_, by rw [List.getElem?_set_ne (Ne.symm n1)]; exact e, trivial⟩
      · obtain ⟨w, el, so⟩ := P.ok.get l s hl
        exact ⟨w, by rw [List.getElem?_set_ne (Ne.symm n1)]; exact el, so⟩
  · obtain ⟨l1, z1, y1, c1⟩ := src h1 o1
    obtain ⟨l2, z2, y2, c2⟩ := src h2 o2
    refine P.ok.sep l1 l2 b s1 s2 (fun z => ?_) z1 z2 o1 o2 (by rw [← y1]; exact e1) (by rw [← y2]; exact e2)
    rcases c1 with ⟨rfl, rfl⟩ | ⟨_, rfl, n1⟩
    · rcases c2 with ⟨rfl, _⟩ | ⟨_, rfl, n2⟩
      · exact hne rfl
      · exact n2 z.symm
    · rcases c2 with ⟨rfl, rfl⟩ | ⟨_, rfl, n2⟩
      · exact n1 z
      · exact hne z
theorem asg_run {K : PySem.W.Frag} {H H1 : Hp} {ρ ρ1 : Nv} {σ : L2.St} {i : Nat} {x : AV} {v : V} {q : Nv → Prop} (Ev : NvOk K H σ ρ) (P : Pex K H ρ σ H1 ρ1) (V : VOk K H H1 ρ1 σ x v) (h : asgR i ρ1 x q) : ∃ ρ', Pst K H ρ σ H1 ρ' (σ.set i (some v)) ∧ q ρ' := by
  obtain ⟨np, h⟩ := h
  cases x with
  | dat d => exact ⟨_, pst_asg (s := .dat d) Ev P np ⟨v, rfl, V⟩ (fun _ _ z => by cases z), h⟩
  | frs ds =>
    obtain ⟨a, vs, rfl, n, e, r⟩ := V
    exact ⟨_, pst_asg (s := .hol false ds) Ev P np ⟨a, vs, rfl, e, r⟩ (fun p ds z => by cases z; exact ⟨rfl, a, rfl, n⟩), h⟩
  | own j =>
    obtain ⟨ds, h1, hij, h⟩ := h
    exact ⟨_, pst_own Ev P np h1 hij V.2, h⟩
theorem S1.asg {i : Nat} {x : Str} (C : Ctx X k) (h : EW X e ρ fun y ρ1 => asgR i ρ1 y E.nx) (hi : X.N[i]? = some x := by rfl) (hx : Loc X.env.scope x := by first | exact .inl rfl | exact .inr rfl) (hs : swapsWith e (some (.Name x pos')) pos.line X.env = pure false := by rfl)
    (hf : X.fn x = true ∨ X.env.scope.names.lookup x = some .local := by first | exact .inl rfl | exact .inr rfl) : S1 X (.Assign [.Name x pos'] e pos) ρ E := fun σ H D Ev k1 k2 k3 k4 pins s I => by
  refine (ps_set C.nd hi hx pe_W hs hf).run pins s σ H D I (h σ H _ Ev fun v H1 y ρ1 P V q => ?_)
  obtain ⟨ρ', P', q'⟩ := asg_run Ev P V q
  exact k1 _ _ _ P' q'
/-- a list that is not changed any more becomes data -/
theorem SW.demote {i : Nat} {ds : List PyData} (h : ρ[i]? = some (.hol false ds)) (hq : SW X sts (ρ.set i (.dat (.list ds))) E) : SW X sts ρ E := fun σ H D Ev k1 k2 k3 k4 pins s I => by
  obtain ⟨a, vs, e, q, r⟩ := Ev.hol h
  obtain ⟨od, I2⟩ := I.lock q trivial
  have st : Stb H (upd H a (.frz od (.lst vs))) := fun b o im hb => by rw [upd_ne (fun z => by rw [z, q] at hb; cases hb; exact im)]; exact hb
  have hl := get_lt h
  have P : Pst X.K H ρ σ (upd H a (.frz od (.lst vs))) (ρ.set i (.dat (.list ds))) σ := by
    refine ⟨fun b o hb nm => ?_, fun b o hb => ?_, fun b ⟨j, s', hj, o, ej⟩ => ?_, fun j es hj => ?_, ⟨by simp [Ev.len], fun j s' hj => ?_, fun j l b s1 s2 hne h1 h2 o1 o2 e1 e2 => ?_, tabs_step (fun b o h nl => by rw [upd_ne (fun z => by rw [z, q] at h; cases h; exact nl _ rfl)]; exact h) Ev.tb⟩⟩
    · rw [upd_ne (fun z => nm (by subst z; exact ⟨i, _, h, trivial, e⟩))]; exact fun _ => hb
    · by_cases z : b = a
      · subst z; exact ⟨_, upd_same⟩
      · exact ⟨o, by rw [upd_ne z]; exact hb⟩
    · rcases get_set hj with ⟨_, z, _⟩ | ⟨_, hj⟩
      · cases z; exact o.elim
      · exact .inl ⟨j, s', hj, o, ej⟩
    · have hne : i ≠ j := fun z => by subst z; rw [h] at hj; cases hj
      exact ⟨⟨es, by rw [List.getElem?_set_ne hne]; exact hj⟩, rfl⟩
    · rcases get_set hj with ⟨rfl, rfl, _⟩ | ⟨hne, hj⟩
      · exact ⟨_, e, _, rfl, .list (.inl ⟨od, upd_same⟩) (RpAll.mono st _ _ r)⟩
      · obtain ⟨w, e2, so⟩ := Ev.get j s' hj
        refine ⟨w, e2, ?_⟩
        cases s' with
        | un => trivial
        | dat d => obtain ⟨v, e3, r3⟩ := so; exact ⟨v, e3, Rp.mono st _ _ r3⟩
        | hol p3 ds3 =>
          obtain ⟨b, ws3, rfl, q3, r3⟩ := so
          refine ⟨b, ws3, rfl, ?_, RpAll.mono st _ _ r3⟩
          rw [upd_ne (fun z => by subst z; exact Ev.sep j i b _ _ hne hj h trivial trivial e2 e)]
          exact q3
        | dic ds3 =>
          obtain ⟨b, o3, ws3, rfl, q3, k3, r3⟩ := so
          refine ⟨b, o3, ws3, rfl, ?_, k3, RpAll.mono st _ _ r3⟩
          rw [upd_ne (fun z => by subst z; exact Ev.sep j i b _ _ hne hj h trivial trivial e2 e)]
          exact q3
    · rcases get_set h1 with ⟨_, z, _⟩ | ⟨_, h1⟩
      · cases z; exact o1.elim
      · rcases get_set h2 with ⟨_, z, _⟩ | ⟨_, h2⟩
        · cases z; exact o2.elim
        · exact Ev.sep _ _ b _ _ hne h1 h2 o1 o2 e1 e2
  exact hq σ _ D P.ok (fun σ2 H2 ρ2 P2 q2 => k1 _ _ _ (P.trans P2) q2) (fun v σ2 H2 x ρ2 P2 V q2 => k2 v σ2 H2 x ρ2 (P.trans P2) (V.back fun a n => P.free n) q2) (fun σ2 H2 ρ2 P2 q2 => k3 _ _ _ (P.trans P2) q2) (fun σ2 H2 ρ2 P2 q2 => k4 _ _ _ (P.trans P2) q2) pins s I2
end
end AW

/-! AW8: targets, what is walked, for, while, comprehensions. -/
namespace AW
variable [HasT]
open PySem PySem.Spec PyProof.Rows L2

def holB : Option SV → Bool
  | some (.hol _ _) => true
  | some (.dic _) => true
  | _ => false
/-! ### targets: data to names; is: the slots that are stored -/
/-- the slots is hold data now, the others are as they were -/
def Only (is : List Nat) (ρ ρ' : Nv) : Prop := ∀ j, (j ∉ is → ρ'[j]? = ρ[j]?) ∧ (j ∈ is → holB ρ'[j]? = false)
def GW (X : Cx) (tg : Expr) (d : PyData) (ρ : Nv) (is : List Nat) (Q : Nv → Prop) : Prop := ∀ (σ : L2.St) (H : Hp) (v : V) (R : L2.St → Hp → Prop), NvOk X.K H σ ρ → Rp X.K H d v →
  (∀ σ' ρ', Pst X.K H ρ σ H ρ' σ' → (∀ j, j ∉ is → σ'[j]? = σ[j]?) → σ'.length = σ.length → Only is ρ ρ' → Q ρ' → R σ' H) → tGW X tg v σ H R
def GWs (X : Cx) (tgs : List Expr) (ds : List PyData) (ρ : Nv) (is : List Nat) (Q : Nv → Prop) : Prop := ∀ (σ : L2.St) (H : Hp) (vs : List V) (R : L2.St → Hp → Prop), NvOk X.K H σ ρ → RpAll X.K H ds vs →
  (∀ σ' ρ', Pst X.K H ρ σ H ρ' σ' → (∀ j, j ∉ is → σ'[j]? = σ[j]?) → σ'.length = σ.length → Only is ρ ρ' → Q ρ' → R σ' H) → ∃ t, PGs X tgs t ∧ t vs σ H R
section
variable {X : Cx} {st : Stmt} {sts bd od : List Stmt} {e a b c tg iter elt : Expr} {es tgs ifs : List Expr} {ρ : Nv} {E : AEnds} {Q : QE} {pos p p2 p3 pos' : Pos} {k : Nat} {d : PyData} {ds : List PyData} {is js : List Nat} {QN : Nv → Prop}
theorem GW.name {i : Nat} {x : Str} (hN : X.N.Nodup) (q : pinB ρ i = false ∧ QN (ρ.set i (.dat d))) (hi : X.N[i]? = some x := by rfl) (hx : Loc X.env.scope x := by first | exact .inl rfl | exact .inr rfl)
    (hf : X.fn x = true ∨ X.env.scope.names.lookup x = some .local := by first | exact .inl rfl | exact .inr rfl) : GW X (.Name x pos) d ρ [i] QN := fun σ H v R Ev r k pins s u I ru => by
  refine (pg_name hN hi hx hf).run pins s σ H v u R I ru ?_
  exact k _ _ (pst_asg (s := .dat d) Ev (Pex.refl Ev) q.1 ⟨v, rfl, r⟩ (fun _ _ z => by cases z)) (fun j hj => by rw [List.getElem?_set_ne (fun z => hj (by simp [z]))]) (by simp) (fun j => ⟨fun hj => by rw [List.getElem?_set_ne (fun z => hj (by simp [z]))], fun hj => by
    obtain rfl : j = i := by simpa using hj
    cases e : (ρ.set j (.dat d))[j]? with
    | none => rfl
    | some s =>
      rcases get_set e with ⟨_, rfl, _⟩ | ⟨z, _⟩
      · rfl
      · exact (z rfl).elim⟩) q.2
theorem GWs.nil (q : QN ρ) : GWs X [] [] ρ [] QN := fun σ H vs R Ev r k => by
  cases r
  exact ⟨_, pgs_nil, rfl, k σ ρ (Pst.refl Ev) (fun _ _ => rfl) rfl (fun j => ⟨fun _ => rfl, fun hj => by simp at hj⟩) q⟩
theorem GWs.cons {tg : Expr} (h : GW X tg d ρ is fun ρ1 => GWs X tgs ds ρ1 js QN) (hs : (assignEach (tg :: tgs) X.env).map (·.2) = assign tg X.env :: (assignEach tgs X.env).map (·.2) := by rfl) : GWs X (tg :: tgs) (d :: ds) ρ (is ++ js) QN := fun σ H vs R Ev r k => by
  cases r with
  | cons r1 r2 =>
    -- the second part is read at the states that the first one comes to
    refine ⟨_, pgs_cons pg_W (u := fun vs' σ' H' Q' => ∀ (pins : List (Addr × Obj)) (s : Shared) (us : List Value), L2.Inv X pins σ' H' s → Vals vs' us → wpAny (model X.prog X.w) X.A (assignInOrder ((assignEach tgs X.env).map (·.2)) us) (fun _ s' => ∃ σ2 H2, L2.Inv X pins σ2 H2 s' ∧ Q' σ2 H2) X.xe s) ⟨fun pins s σ' H' vs' us Q' I rv h => h pins s us I rv⟩ hs, _, _, rfl, ?_⟩
    refine h σ H _ _ Ev r1 fun σ1 ρ1 P1 o1 l1 y1 q1 => ?_
    obtain ⟨t, ht, hq⟩ := q1 σ1 H _ R P1.ok (by exact r2) fun σ2 ρ2 P2 o2 l2 y2 q2 => k σ2 ρ2 (P1.trans P2) (fun j hj => by
      have hj' : j ∉ is ∧ j ∉ js := by simpa using hj
      rw [o2 j hj'.2, o1 j hj'.1]) (l2.trans l1) (fun j => ⟨fun hj => by
        have hj' : j ∉ is ∧ j ∉ js := by simpa using hj
        rw [(y2 j).1 hj'.2, (y1 j).1 hj'.1], fun hj => by
        by_cases h2 : j ∈ js
        · exact (y2 j).2 h2
        · have h1 : j ∈ is := (by simpa using hj : j ∈ is ∨ j ∈ js).resolve_right h2
          rw [(y2 j).1 h2]
          exact (y1 j).2 h1⟩) q2
    exact fun pins s us I rv => ht.run pins s σ1 H _ us R I rv hq
theorem GW.tup {n : Nat} {j : Nat} (C : Ctx X k) (q : ∃ ds, d = .tuple ds ∧ ds.length = n ∧ GWs X tgs ds ρ is QN) (hn : (assignEach tgs X.env).length = n := by rfl) (hst : (assignEach tgs X.env).findIdx? (·.1) = Option.none := by rfl) : GW X (.Tuple tgs j pos) d ρ is QN := fun σ H v R Ev r kk pins s u I ru => by
  obtain ⟨ds, rfl, hl, q⟩ := q
  cases r with
  | tuple r1 r2 =>
    obtain ⟨t, ht, hq⟩ := q σ H _ R Ev r2 kk
    exact (pg_tup C.calm ht hn hst).run pins s σ H _ u R I ru ⟨_, _, rfl, SqT.of r1, by rw [← r2.length]; exact hl, hq⟩

/-! ### what is walked -/
def tIW (X : Cx) (tg iter : Expr) : TI := fun σ H R => ∀ (pins : List (Addr × Obj)) (s : Shared), L2.Inv X pins σ H s →
  wpAny (model X.prog X.w) X.A (eval iter X.env) (fun v s1 => wpAny (model X.prog X.w) X.A (pyIter v) (PIE X pins σ tg R) X.xe s1) X.xe s
theorem pi_W : PI X tg iter (tIW X tg iter) := ⟨fun pins s _ _ _ I h => h pins s I⟩
/-- J gives the data ds, whatever happens to what is not locked -/
def DIt (K : PySem.W.Frag) (H1 : Hp) (J : It) (ds : List PyData) : Prop := ∀ H, Stb H1 H → (∀ i, i < ds.length → J.go i H) ∧ J.stop ds.length H ∧
  ∀ i x H' d, J.yld i H x H' → ds[i]? = some d → Rp K H' d x ∧ (H' = H ∨ ∃ p o, H p = none ∧ H' = upd H p o)
def IW (X : Cx) (tg iter : Expr) (ρ : Nv) (Q : List PyData → Nv → Prop) : Prop := ∀ (σ : L2.St) (H : Hp) (R : It → Hp → Prop), NvOk X.K H σ ρ →
  (∀ J H' ds ρ', Pex X.K H ρ σ H' ρ' → DIt X.K H' J ds → Q ds ρ' → R J H') → tIW X tg iter σ H R
theorem dit_list {K : PySem.W.Frag} {H1 : Hp} {m : Addr} {xs : List V} (h : SqF K H1 m xs) (r : RpAll K H1 ds xs) : DIt K H1 (Itl K m) ds := fun H st => by
  have hm : SqL K H m xs := (st.lst h).sq
  refine ⟨fun i hi => ?_, ⟨xs, hm, by rw [r.length]; exact Nat.le_refl _⟩, fun i x H' d hy hd => ?_⟩
  · rw [r.length] at hi
    exact ⟨xs, xs[i], hm, List.getElem?_eq_getElem hi⟩
  · obtain ⟨rfl, hx⟩ := hy
    obtain ⟨v, hv, rv⟩ := r.get hd
    rw [hx xs hm] at hv
    cases hv
    exact ⟨Rp.mono st _ _ rv, .inl rfl⟩
theorem dit_tup {K : PySem.W.Frag} {H1 : Hp} {m : Addr} {xs : List V} (h : SqT K H1 m xs) (r : RpAll K H1 ds xs) : DIt K H1 (Itt K m) ds := fun H st => by
  have hm : SqT K H m xs := st.tup h
  refine ⟨fun i hi => ?_, ⟨xs, hm, by rw [r.length]; exact Nat.le_refl _⟩, fun i x H' d hy hd => ?_⟩
  · rw [r.length] at hi
    exact ⟨xs, xs[i], hm, List.getElem?_eq_getElem hi⟩
  · obtain ⟨rfl, hx⟩ := hy
    obtain ⟨v, hv, rv⟩ := r.get hd
    rw [hx xs hm] at hv
    cases hv
    exact ⟨Rp.mono st _ _ rv, .inl rfl⟩
/-- a list as data; a tuple -/
theorem IW.list {Q : List PyData → Nv → Prop} (h : EW X iter ρ fun x ρ1 => ∃ ds, asD x = some (.list ds) ∧ Q ds ρ1) : IW X tg iter ρ Q := fun σ H R Ev kk => by
  have h' : EWd X iter ρ fun d ρ1 => ∃ ds, d = .list ds ∧ Q ds ρ1 := EW.imp h fun x ρ1 ⟨ds, e, q⟩ => ⟨_, e, ds, rfl, q⟩
  intro pins s I
  refine (pi_list pe_W).run pins s σ H R I (EWd.run h' Ev fun v H1 d ρ1 P r ⟨ds, e, q⟩ => ?_)
  subst e
  cases r with
  | list e r => exact ⟨_, rfl, ⟨_, e.sq⟩, kk _ H1 ds ρ1 P (dit_list e r) q⟩
theorem IW.tup {Q : List PyData → Nv → Prop} (h : EW X iter ρ fun x ρ1 => ∃ ds, x = .dat (.tuple ds) ∧ Q ds ρ1) : IW X tg iter ρ Q := fun σ H R Ev kk => by
  intro pins s I
  refine (pi_tup pe_W).run pins s σ H R I (h σ H _ Ev fun v H1 x ρ1 P V ⟨ds, e, q⟩ => ?_)
  subst e
  cases V with
  | tuple e r => exact ⟨_, rfl, ⟨_, SqT.of e⟩, kk _ H1 ds ρ1 P (dit_tup (SqT.of e) r) q⟩
/-- range(n), range(a, b) -/
def rngD (lo : Int) (n : Nat) : List PyData := (List.range n).map fun (i : Nat) => PyData.int (lo + i)
theorem dit_range {K : PySem.W.Frag} {H1 : Hp} {lo : Int} {n : Nat} : DIt K H1 (Itr lo n) (rngD lo n) := fun H st => by
  refine ⟨fun i hi => (show i < n by simpa [rngD] using hi), by show n ≤ (rngD lo n).length; simp [rngD], fun i x H' d hy hd => ?_⟩
  obtain ⟨rfl, rfl⟩ := hy
  have : d = PyData.int (lo + i) := by
    unfold rngD at hd
    rw [List.getElem?_map] at hd
    cases e : (List.range n)[i]? with
    | none => rw [e] at hd; simp at hd
    | some j =>
      rw [e] at hd
      obtain ⟨_, z⟩ := List.getElem?_eq_some_iff.mp e
      simp at z
      subst z
      simpa using hd.symm
  subst this
  exact ⟨.int _, .inl rfl⟩
theorem IW.range1 {Q : List PyData → Nv → Prop} (C : Ctx X k) (h : EW X a ρ fun x ρ1 => ∃ n : Int, x = .dat (.int n) ∧ -(2 ^ 62) ≤ n ∧ n < 2 ^ 62 ∧ Q (rngD 0 n.toNat) ρ1) (hg : Gl X "range" := by rfl) (hs : starEach [a] X.env = [(false, eval a X.env)] := by rfl) : IW X tg (.Call (.Name "range" p) [a] [] pos) ρ Q := fun σ H R Ev kk pins s I => by
  refine (pi_range1 hg C.blt.range (pa_cons pe_W pa_nil (by rw [hs]; rfl)) hs).run pins s σ H R I (h σ H _ Ev fun v H1 x ρ1 P V ⟨n, e, b1, b2, q⟩ => ?_)
  subst e
  obtain rfl := Rp.int_inv V
  exact ⟨n, rfl, b1, b2, kk _ H1 _ ρ1 P dit_range q⟩
theorem IW.range2 {Q : List PyData → Nv → Prop} (C : Ctx X k) (h : EW X a ρ fun x ρ1 => EW X b ρ1 fun y ρ2 => ∃ m n : Int, x = .dat (.int m) ∧ y = .dat (.int n) ∧ (-(2 ^ 62) ≤ m ∧ m < 2 ^ 62 ∧ -(2 ^ 62) ≤ n ∧ n < 2 ^ 62) ∧ Q (rngD m (n - m).toNat) ρ2) (hg : Gl X "range" := by rfl)
    (hs : starEach [a, b] X.env = [(false, eval a X.env), (false, eval b X.env)] := by rfl) (hs2 : starEach [b] X.env = [(false, eval b X.env)] := by rfl) : IW X tg (.Call (.Name "range" p) [a, b] [] pos) ρ Q := fun σ H R Ev kk pins s I => by
  refine (pi_range2 hg C.blt.range (pa_cons pe_W (pa_cons pe_W pa_nil (by rw [hs2]; rfl)) (by rw [hs, hs2])) hs hs2).run pins s σ H R I (h σ H _ Ev fun v H1 x ρ1 P V q1 => q1 σ H1 _ P.ok fun u H2 y ρ2 P2 V2 ⟨m, n, e1, e2, b, q⟩ => ?_)
  subst e1
  subst e2
  obtain rfl := Rp.int_inv V
  obtain rfl := Rp.int_inv V2
  exact ⟨m, n, rfl, b, kk _ H2 _ ρ2 (P.trans P2) dit_range q⟩

/-! ### for -/
theorem Pst.new {K : PySem.W.Frag} {H : Hp} {σ : L2.St} {p : Addr} {o : HO} (Ev : NvOk K H σ ρ) (n : H p = none) : Pst K H ρ σ (upd H p o) ρ σ := (Pex.new Ev n).pst
/-- R: what holds of the slots ahead of each turn -/
theorem S1.for (C : Ctx X k) (h : IW X tg iter ρ fun ds ρ1 => ∃ R : Nat → Nv → Prop, R 0 ρ1 ∧ (∀ i d ρ2, ds[i]? = some d → R i ρ2 → GW X tg d ρ2 is fun ρ3 => SW X bd ρ3 { E with nx := R (i + 1), ct := R (i + 1), bk := E.nx }) ∧ ∀ ρ2, R ds.length ρ2 → E.nx ρ2)
    (hp : PassesOwn (model X.prog X.w) X.A X.env X.xe) (hs : ∀ x, foldedSetIterable iter X.env x = pure x := by intro _; rfl) : S1 X (.For tg iter bd [] pos) ρ E := fun σ H D Ev k1 k2 k3 k4 pins s I => by
  refine (ps_for hp C.calm pi_W pg_W pss_W hs).run pins s σ H D I (h σ H _ Ev fun J H1 ds ρ1 P1 dj ⟨R, r0, rs, rd⟩ => ?_)
  have E1 := P1.ok
  refine ⟨fun i m σk Hk => i ≤ ds.length ∧ m = ds.length - i ∧ ∃ ρk, Pst X.K H1 ρ1 σ Hk ρk σk ∧ R i ρk, ⟨ds.length, Nat.zero_le _, rfl, ρ1, Pst.refl E1, r0⟩, fun i m σk Hk ⟨hi, hm, ρk, Pk, rk⟩ => ?_⟩
  obtain ⟨g1, g2, g3⟩ := dj Hk (Pk.stb E1)
  by_cases hl : i < ds.length
  · refine .inr ⟨g1 i hl, fun σ' H' => ∃ ρ', Pst X.K H1 ρ1 σ H' ρ' σ' ∧ R (i + 1) ρ', fun σ' H' ⟨ρ', P', r'⟩ => ⟨ds.length - (i + 1), by omega, hl, rfl, ρ', P', r'⟩, fun x H' hy => ?_⟩
    obtain ⟨rx, ho⟩ := g3 i x H' ds[i] hy (List.getElem?_eq_getElem hl)
    have P' : Pst X.K H1 ρ1 σ H' ρk σk := by
      rcases ho with rfl | ⟨p, o, n, rfl⟩
      · exact Pk
      · exact Pk.trans (Pst.new Pk.ok n)
    refine rs i _ ρk (List.getElem?_eq_getElem hl) rk σk H' x _ P'.ok rx fun σ2 ρ2 P2 _ _ _ q2 => ?_
    have PP := P'.trans P2
    have PA := P1.pst.trans PP
    refine q2 σ2 H' _ PP.ok (fun σ3 H3 ρ3 P3 q3 => ⟨ρ3, PP.trans P3, q3⟩) (fun v σ3 H3 x3 ρ3 P3 V3 q3 => k2 v σ3 H3 x3 ρ3 (PA.trans P3) (V3.back fun a n => PA.free n) q3) (fun σ3 H3 ρ3 P3 q3 => k1 σ3 H3 ρ3 (PA.trans P3) q3) (fun σ3 H3 ρ3 P3 q3 => ⟨ρ3, PP.trans P3, q3⟩)
  · have he : i = ds.length := Nat.le_antisymm hi (Nat.le_of_not_lt hl)
    subst he
    exact .inl ⟨g2, k1 σk Hk ρk (P1.pst.trans Pk) (rd ρk rk)⟩
/-- W: the invariant with its measure -/
theorem S1.while (C : Ctx X k) (W : Nat → Nv → Prop) (h0 : ∃ m, W m ρ) (h : ∀ m ρ1, W m ρ1 → TW X c ρ1 fun t ρ2 => if t = true then SW X bd ρ2 { E with nx := fun ρ3 => ∃ m', m' < m ∧ W m' ρ3, ct := fun ρ3 => ∃ m', m' < m ∧ W m' ρ3, bk := E.nx } else E.nx ρ2)
    (hp : PassesOwn (model X.prog X.w) X.A X.env X.xe) : S1 X (.While c bd [] pos) ρ E := fun σ H D Ev k1 k2 k3 k4 pins s I => by
  refine (ps_while hp pt_W pss_W).run pins s σ H D I ⟨fun m σk Hk => ∃ ρk, Pst X.K H ρ σ Hk ρk σk ∧ W m ρk, ?_, fun m σk Hk ⟨ρk, Pk, wk⟩ => ?_⟩
  · obtain ⟨m, w⟩ := h0
    exact ⟨m, ρ, Pst.refl Ev, w⟩
  · refine h m ρk wk σk Hk _ Pk.ok fun t H1 ρ1 P1 q1 => ?_
    have PA := Pk.trans P1.pst
    cases t with
    | true =>
      refine if_pos rfl ▸ ⟨fun σ' H' => ∃ m', m' < m ∧ ∃ ρ', Pst X.K H ρ σ H' ρ' σ' ∧ W m' ρ', fun σ' H' z => z, ?_⟩
      simp only [↓reduceIte] at q1
      exact q1 σk H1 _ P1.ok (fun σ3 H3 ρ3 P3 ⟨m', l, w⟩ => ⟨m', l, ρ3, PA.trans P3, w⟩) (fun v σ3 H3 x3 ρ3 P3 V3 q3 => k2 v σ3 H3 x3 ρ3 (PA.trans P3) (V3.back fun a n => PA.free n) q3) (fun σ3 H3 ρ3 P3 q3 => k1 σ3 H3 ρ3 (PA.trans P3) q3) (fun σ3 H3 ρ3 P3 ⟨m', l, w⟩ => ⟨m', l, ρ3, PA.trans P3, w⟩)
    | false => exact (if_neg Bool.false_ne_true).symm ▸ k1 σk H1 ρ1 PA (by simpa using q1)
end
end AW

/-! AW9: comprehensions. -/
namespace AW
variable [HasT]
open PySem PySem.Spec PyProof.Rows L2

/-! ### the slots within a block -/
def wipeN (ρ : Nv) : List Nat → Nv
  | [] => ρ
  | j :: vs => (wipeN ρ vs).set j .un
/-- the block's own slots as they stood, the others as the block leaves them -/
def restN (ρ0 ρ : Nv) : List Nat → Nv
  | [] => ρ
  | j :: vs => (restN ρ0 ρ vs).set j ((ρ0[j]?).getD .un)
def noHol (ρ : Nv) (vs : List Nat) : Bool := vs.all fun j => !holB ρ[j]?
section
variable {K : PySem.W.Frag} {H H1 : Hp} {ρ ρ0 ρ1 ρ2 ρ3 : Nv} {σ σ2 : L2.St} {vs : List Nat}
theorem wipeN_length : ∀ vs : List Nat, (wipeN ρ vs).length = ρ.length
  | [] => rfl
  | j :: vs => by simp [wipeN, wipeN_length vs]
theorem restN_length : ∀ vs : List Nat, (restN ρ0 ρ vs).length = ρ.length
  | [] => rfl
  | j :: vs => by simp [restN, restN_length vs]
theorem wipeN_get : ∀ {vs : List Nat} {i : Nat} {s : SV}, (wipeN ρ vs)[i]? = some s → (i ∈ vs ∧ s = .un) ∨ (i ∉ vs ∧ ρ[i]? = some s)
  | [], i, s, h => .inr ⟨by simp, h⟩
  | j :: vs, i, s, h => by
    simp only [wipeN] at h
    rcases get_set h with ⟨rfl, rfl, _⟩ | ⟨hne, h⟩
    · exact .inl ⟨List.mem_cons_self, rfl⟩
    · rcases wipeN_get h with ⟨hm, e⟩ | ⟨hm, e⟩
      · exact .inl ⟨List.mem_cons_of_mem _ hm, e⟩
      · exact .inr ⟨fun z => (List.mem_cons.mp z).elim hne hm, e⟩
theorem wipeN_out : ∀ {vs : List Nat} {i : Nat}, i ∉ vs → (wipeN ρ vs)[i]? = ρ[i]?
  | [], i, _ => rfl
  | j :: vs, i, h => by
    simp only [wipeN]
    rw [List.getElem?_set_ne (fun z => h (by rw [z]; exact List.mem_cons_self))]
    exact wipeN_out fun z => h (List.mem_cons_of_mem _ z)
theorem restN_out : ∀ {vs : List Nat} {i : Nat}, i ∉ vs → (restN ρ0 ρ vs)[i]? = ρ[i]?
  | [], i, _ => rfl
  | j :: vs, i, h => by
    simp only [restN]
    rw [List.getElem?_set_ne (fun z => h (by rw [z]; exact List.mem_cons_self))]
    exact restN_out fun z => h (List.mem_cons_of_mem _ z)
theorem restN_in : ∀ {vs : List Nat} {i : Nat}, i ∈ vs → i < ρ.length → (restN ρ0 ρ vs)[i]? = some ((ρ0[i]?).getD .un)
  | j :: vs, i, h, hl => by
    simp only [restN]
    by_cases e : j = i
    · subst e
      rw [List.getElem?_set_self (by rw [restN_length]; exact hl)]
    · rw [List.getElem?_set_ne e]
      exact restN_in ((List.mem_cons.mp h).resolve_left (Ne.symm e)) hl
theorem noHol_at (n : noHol ρ vs = true) {i : Nat} {p : Bool} {ds : List PyData} (hi : i ∈ vs) : ρ[i]? ≠ some (.hol p ds) := fun e => by
  have := List.all_eq_true.mp n i hi
  rw [e] at this
  simp [holB] at this
theorem noOwn_at (n : noHol ρ vs = true) {i : Nat} {s : SV} (hi : i ∈ vs) (o : Owns s) : ρ[i]? ≠ some s := fun e => by
  have := List.all_eq_true.mp n i hi
  rw [e] at this
  cases s <;> first | exact o | simp [holB] at this
theorem wipe_get' : ∀ {vs : List Nat} {i : Nat}, i ∉ vs → (wipe σ vs)[i]? = σ[i]?
  | vs, i, h => wipe_out h
theorem wipe_idem : ∀ {vs : List Nat} {σ σ2 : L2.St}, (∀ j, j ∉ vs → σ2[j]? = σ[j]?) → σ2.length = σ.length → wipe σ2 vs = wipe σ vs := by
  intro vs σ σ2 h hl
  apply List.ext_getElem?
  intro i
  by_cases hi : i ∈ vs
  · have : ∀ (τ : L2.St) (vs : List Nat), i ∈ vs → (wipe τ vs)[i]? = if i < τ.length then some none else none := by
      intro τ vs
      induction vs with
      | nil => intro h; simp at h
      | cons j vs ih =>
        intro h
        show ((wipe τ vs).set j none)[i]? = _
        by_cases e : j = i
        · subst e
          by_cases hb : j < τ.length
          · rw [if_pos hb, List.getElem?_set_self (by rw [wipe_length]; exact hb)]
          · rw [if_neg hb]
            exact List.getElem?_eq_none (by rw [List.length_set, wipe_length]; exact Nat.le_of_not_lt hb)
        · rw [List.getElem?_set_ne e]
          exact ih ((List.mem_cons.mp h).resolve_left (Ne.symm e))
    rw [this σ2 vs hi, this σ vs hi, hl]
  · rw [wipe_out hi, wipe_out hi, h i hi]
theorem nv_wipe (E : NvOk K H σ ρ) : NvOk K H (wipe σ vs) (wipeN ρ vs) where
  len := by rw [wipeN_length, wipe_length]; exact E.len
  get := fun i s h => by
    rcases wipeN_get h with ⟨hm, rfl⟩ | ⟨hm, e⟩
    · have hl := get_lt h
      rw [wipeN_length, E.len, ← wipe_length σ vs] at hl
      exact ⟨_, List.getElem?_eq_getElem hl, trivial⟩
    · obtain ⟨w, ew, so⟩ := E.get i s e
      exact ⟨w, by rw [wipe_out hm]; exact ew, so⟩
  tb := E.tb
  sep := fun i j a s t hne h1 h2 o1 o2 e1 e2 => by
    rcases wipeN_get h1 with ⟨_, z⟩ | ⟨m1, g1⟩
    · cases z; exact o1
    · rcases wipeN_get h2 with ⟨_, z⟩ | ⟨m2, g2⟩
      · cases z; exact o2
      · rw [wipe_out m1] at e1
        rw [wipe_out m2] at e2
        exact E.sep i j a s t hne g1 g2 o1 o2 e1 e2
theorem mine_wipe {b : Addr} (m : Mine (wipeN ρ vs) (wipe σ vs) b) : Mine ρ σ b := by
  obtain ⟨i, s, h, o, e⟩ := m
  rcases wipeN_get h with ⟨_, z⟩ | ⟨hm, g⟩
  · cases z; exact o.elim
  · rw [wipe_out hm] at e
    exact ⟨i, s, g, o, e⟩
/-- a turn's end, in the slots around the block -/
theorem pex_rest {H2 : Hp} (E : NvOk K H σ ρ) (n : noHol ρ vs = true) (P : Pst K H (wipeN ρ vs) (wipe σ vs) H2 ρ3 σ2) (o : ∀ j, j ∉ vs → σ2[j]? = σ[j]?) (hol : ∀ (i : Nat) (s : SV), ρ3[i]? = some s → Owns s → i ∉ vs ∧ ∃ t : SV, ρ[i]? = some t ∧ SameK s t) (hol' : ∀ (i : Nat) (s : SV), ρ[i]? = some s → Owns s → ∃ t : SV, ρ3[i]? = some t ∧ SameK s t)
    (hl : ρ3.length = ρ.length) : Pex K H ρ σ H2 (restN ρ ρ3 vs) := by
  have st : Stb H H2 := P.stb (nv_wipe E)
  have src : ∀ {i : Nat} {s : SV}, (restN ρ ρ3 vs)[i]? = some s → (i ∈ vs ∧ ρ[i]? = some s) ∨ (i ∉ vs ∧ ρ3[i]? = some s) := by
    intro i s h
    by_cases hi : i ∈ vs
    · have hb := get_lt h
      rw [restN_length, hl] at hb
      rw [restN_in hi (by rw [hl]; exact hb), List.getElem?_eq_getElem hb] at h
      exact .inl ⟨hi, by rw [List.getElem?_eq_getElem hb]; exact h⟩
    · rw [restN_out hi] at h
      exact .inr ⟨hi, h⟩
  refine ⟨fun b u h nm => P.kp b u h fun m => nm (mine_wipe m), P.th, fun i s h o => ?_, fun i s h o => ?_, ⟨?_, fun i s h => ?_, fun i j a s1 s2 hne h1 h2 o1 o2 e1 e2 => ?_, P.ok.tb⟩⟩
  · rcases src h with ⟨hi, e⟩ | ⟨hi, e⟩
    · exact ⟨s, e, .refl o⟩
    · exact (hol i s e o).2
  · have hi : i ∉ vs := fun hm => noOwn_at n hm o h
    obtain ⟨t, e, k⟩ := hol' i s h o
    exact ⟨t, by rw [restN_out hi]; exact e, k⟩
  · rw [restN_length, hl]; exact E.len
  · rcases src h with ⟨hi, e⟩ | ⟨hi, e⟩
    · obtain ⟨w, ew, so⟩ := E.get i s e
      refine ⟨w, ew, ?_⟩
      cases s with
      | un => trivial
      | dat d => obtain ⟨v, e3, r3⟩ := so; exact ⟨v, e3, Rp.mono st _ _ r3⟩
      | hol p ds => exact (noHol_at n hi e).elim
      | dic ds => exact (noOwn_at (s := .dic ds) n hi trivial e).elim
    · obtain ⟨w, ew, so⟩ := P.ok.get i s e
      exact ⟨w, by rw [← o i hi]; exact ew, so⟩
  · have hs : ∀ {i : Nat} {s : SV}, (restN ρ ρ3 vs)[i]? = some s → Owns s → i ∉ vs ∧ ρ3[i]? = some s := by
      intro i s h o
      rcases src h with ⟨hi, e⟩ | z
      · exact (noOwn_at n hi o e).elim
      · exact z
    obtain ⟨m1, g1⟩ := hs h1 o1
    obtain ⟨m2, g2⟩ := hs h2 o2
    exact P.ok.sep i j a s1 s2 hne g1 g2 o1 o2 (by rw [o i m1]; exact e1) (by rw [o j m2]; exact e2)
end

/-! ### the readings of a block, at any state of it -/
section
variable (X : Cx) (scope : Scope)
abbrev BX (s : Shared) (H : Hp) (C : Addr) (cl : List (Str × Addr)) (fp : List Addr) : Cx := X.blk s H scope (compEnvC scope cl C X.env) fp
def bE (e : Expr) : TE := fun σ H Q => ∀ s0 H0 C cl fp, tW (BX X scope s0 H0 C cl fp) e σ H Q
def bG (tg : Expr) : TG := fun v σ H Q => ∀ s0 H0 C cl fp, tGW (BX X scope s0 H0 C cl fp) tg v σ H Q
def bT (ifs : List Expr) : TT := fun σ H Q => ∀ s0 H0 C cl fp, ∀ (pins : List (Addr × Obj)) (s : Shared), L2.Inv (BX X scope s0 H0 C cl fp) pins σ H s →
  wpAny (model X.prog X.w) X.A (forIn ifs true fun c r => if r = true then do let ok ← isTrue c (BX X scope s0 H0 C cl fp).env (eval c (BX X scope s0 H0 C cl fp).env); pure (ForInStep.yield ok) else pure (ForInStep.yield r)) (TP (BX X scope s0 H0 C cl fp) pins σ Q) (fun _ _ => False) s
end
/-- the tests of a clause: none, one -/
def TWi (X : Cx) : List Expr → Nv → (Bool → Nv → Prop) → Prop
  | [], ρ, Q => Q true ρ
  | [c], ρ, Q => TW X c ρ Q
  | _, _, _ => False
section
variable {X : Cx} {scope : Scope} {e a b c tg iter elt : Expr} {ifs : List Expr} {ρ : Nv} {E : AEnds} {Q : QE} {pos p p2 pos' : Pos} {k : Nat} {d : PyData} {ds : List PyData} {is : List Nat}
/-- one turn: R is kept -/
def Turn1 (X : Cx) (scope : Scope) (tg : Expr) (ifs : List Expr) (elt : Expr) (is vs : List Nat) (d : PyData) (ρ : Nv) (R : Option PyData → Nv → Prop) : Prop := ∀ s0 H0 C cl fp,
  GW (BX X scope s0 H0 C cl fp) tg d (wipeN ρ vs) is fun ρ2 => ∀ s0 H0 C cl fp, TWi (BX X scope s0 H0 C cl fp) ifs ρ2 fun t ρ3 => if t = true then ∀ s0 H0 C cl fp, EWd (BX X scope s0 H0 C cl fp) elt ρ3 fun y ρ4 => R (some y) (restN ρ ρ4 vs) else R none (restN ρ ρ3 vs)
theorem bT_of {σ : L2.St} {H : Hp} {R : Bool → Hp → Prop} {QT : Bool → Nv → Prop} (h : ∀ s0 H0 C cl fp, TWi (BX X scope s0 H0 C cl fp) ifs ρ QT) (Ev : NvOk X.K H σ ρ) (kk : ∀ t H' ρ', Pex X.K H ρ σ H' ρ' → QT t ρ' → R t H') : bT X scope ifs σ H R := fun s0 H0 C cl fp pins s I => by
  match ifs, h s0 H0 C cl fp with
  | [], h => exact pts_nil.run pins s σ H R I (kk true H ρ (Pex.refl Ev) h)
  | [c], h => exact (pts_one pt_W).run pins s σ H R I (h σ H R Ev kk)
/-- what a comprehension adds -/
def addO (acc : List PyData) : Option PyData → List PyData
  | some y => acc ++ [y]
  | none => acc
theorem restN_hol {ρ0 ρ : Nv} {vs : List Nat} (n : noHol ρ0 vs = true) (hl : ρ.length = ρ0.length) {i : Nat} {p : Bool} {ds : List PyData} (h : (restN ρ0 ρ vs)[i]? = some (SV.hol p ds)) : i ∉ vs ∧ ρ[i]? = some (SV.hol p ds) := by
  by_cases hi : i ∈ vs
  · have hb := get_lt h
    rw [restN_length, hl] at hb
    rw [restN_in hi (by rw [hl]; exact hb), List.getElem?_eq_getElem hb] at h
    exact (noHol_at n hi (by rw [List.getElem?_eq_getElem hb]; exact h)).elim
  · rw [restN_out hi] at h
    exact ⟨hi, h⟩
/-- the reading of a list comprehension -/
theorem lc_read {σ : L2.St} {H : Hp} {R : VK} {vs : List Nat} {own : List (Str × Nat)} (hv : own.map (·.2) = vs) (hsub : ∀ j ∈ is, j ∈ vs) (Ev : NvOk X.K H σ ρ)
    (h : IW X tg iter ρ fun ds ρ1 => ds.length ≤ 1000000 ∧ noHol ρ1 vs = true ∧ ∃ W : Nat → List PyData → Nv → Prop, W 0 [] ρ1 ∧ (∀ i d acc ρ2, ds[i]? = some d → W i acc ρ2 → Turn1 X scope tg ifs elt is vs d ρ2 fun o ρ3 => W (i + 1) (addO acc o) ρ3) ∧ ∀ acc ρ2, W ds.length acc ρ2 → Q (.frs acc) ρ2)
    (kk : ∀ v H' x ρ', Pex X.K H ρ σ H' ρ' → VOk X.K H H' ρ' σ x v → Q x ρ' → R v H') : tLc (tIW X tg iter) (bG X scope tg) (bT X scope ifs) (bE X scope elt) vs σ H R := by
  refine h σ H _ Ev fun J H1 ds ρ1 P1 dj ⟨hbig, nh, W, w0, ws, wd⟩ => ?_
  intro D nD
  have E1 := P1.ok
  -- the turns' state
  let Inv' : Nat → Hp → Prop := fun i Hk => i ≤ ds.length ∧ ∃ acc av ρk, acc.length ≤ i ∧ Hk D = some (.lst av) ∧ RpAll X.K Hk acc av ∧ Pex X.K H1 ρ1 σ Hk ρk ∧ W i acc ρk
  have nhk : ∀ {Hk : Hp} {ρk : Nv}, Pex X.K H1 ρ1 σ Hk ρk → noHol ρk vs = true := fun {Hk ρk} P => by
    refine List.all_eq_true.mpr fun j hj => ?_
    cases e : ρk[j]? with
    | none => rfl
    | some s =>
      cases s with
      | un => rfl
      | dat d => rfl
      | hol p es =>
        obtain ⟨es', z⟩ := P.sh j p es e
        exact (noHol_at nh hj z).elim
      | dic es =>
        obtain ⟨t, z, k⟩ := P.so j _ e trivial
        exact (noOwn_at nh hj k.owns.2 z).elim
  refine ⟨fun i m Hk => m = ds.length - i ∧ Inv' i Hk, ⟨ds.length, rfl, Nat.zero_le _, [], [], ρ1, Nat.le_refl _, upd_same, .nil, Pex.new E1 nD, w0⟩, fun i m Hk ⟨hm, hi, acc, av, ρk, hal, hD, ra, Pk, wk⟩ => ?_⟩
  obtain ⟨g1, g2, g3⟩ := dj Hk (Pk.stb E1)
  have nmD : ∀ {ρ' : Nv}, (∀ b, Mine ρ' σ b → Mine ρk σ b) → ¬ Mine ρ' σ D := fun hm m => upd_mine E1 Pk nD (hm _ m)
  by_cases hl : i < ds.length
  · refine .inr ⟨g1 i hl, Inv' (i + 1), fun H' z => ⟨ds.length - (i + 1), by omega, rfl, z⟩, fun x H' hy => ?_⟩
    obtain ⟨rx, ho⟩ := g3 i x H' ds[i] hy (List.getElem?_eq_getElem hl)
    have P' : Pex X.K H1 ρ1 σ H' ρk ∧ H' D = some (.lst av) ∧ RpAll X.K H' acc av := by
      rcases ho with rfl | ⟨p, o, n, rfl⟩
      · exact ⟨Pk, hD, ra⟩
      · exact ⟨Pk.trans (Pex.new Pk.ok n), by rw [upd_ne (ne_of_none hD n)]; exact hD, RpAll.mono (Stb.new n) _ _ ra⟩
    obtain ⟨P', hD', ra'⟩ := P'
    have nk := nhk P'
    have Ek := P'.ok
    -- D through the turn
    have keepD : ∀ {H2 : Hp} {ρ2 : Nv} {σ2 : L2.St}, Pst X.K H' (wipeN ρk vs) (wipe σ vs) H2 ρ2 σ2 → H2 D = some (.lst av) ∧ RpAll X.K H2 acc av := fun {H2 ρ2 σ2} P => by
      refine ⟨P.kp D _ hD' (fun m => upd_mine E1 P' nD (mine_wipe m)) ntb_lst, RpAll.mono (P.stb (nv_wipe Ek)) _ _ ra'⟩
    intro s0 H0 C cl fp
    refine ws i _ acc ρk (List.getElem?_eq_getElem hl) wk s0 H0 C cl fp (wipe σ vs) H' x _ (nv_wipe Ek) rx fun σ2 ρ2 P2 o2 l2 y2 q2 => ?_
    have o2' : ∀ j, j ∉ vs → σ2[j]? = σ[j]? := fun j hj => by rw [o2 j (fun z => hj (hsub j z)), wipe_out hj]
    have ll : σ2.length = σ.length := by rw [l2, wipe_length]
    refine ⟨by rw [wipe_idem (σ := σ) o2' ll], ?_⟩
    -- the lists of the block are ours
    have hol2 : ∀ {i : Nat} {s : SV}, ρ2[i]? = some s → Owns s → i ∉ vs ∧ ρk[i]? = some s := by
      intro i s e o
      by_cases hi : i ∈ is
      · have := (y2 i).2 hi
        rw [e] at this
        cases s <;> first | exact o.elim | simp [holB] at this
      · rw [(y2 i).1 hi] at e
        rcases wipeN_get e with ⟨_, z⟩ | z
        · cases z; exact o.elim
        · exact z
    -- the block's slots and ours
    have close : ∀ {H3 : Hp} {ρ3 : Nv}, Pex X.K H' ρ2 σ2 H3 ρ3 → Pex X.K H1 ρ1 σ H3 (restN ρk ρ3 vs) := fun {H3 ρ3} P3 => by
      have PP := P2.trans P3.pst
      refine P'.trans (pex_rest Ek nk PP o2' (fun i s e o => ?_) (fun i s e o => ?_) ?_)
      · obtain ⟨t, e2, k⟩ := P3.so i s e o
        obtain ⟨hi, e3⟩ := hol2 e2 k.owns.2
        exact ⟨hi, t, e3, k⟩
      · have hi : i ∉ vs := fun hm => noOwn_at nk hm o e
        have h2 : ρ2[i]? = some s := by rw [(y2 i).1 (fun z => hi (hsub i z)), wipeN_out hi]; exact e
        exact P3.os i s h2 o
      · have := P3.ok.len
        have := Ek.len
        omega
    refine bT_of q2 P2.ok fun t H3 ρ3 P3 q3 => ?_
    have k3 := keepD (P2.trans P3.pst)
    cases t with
    | false =>
      refine (if_neg Bool.false_ne_true).symm ▸ ⟨hl, acc, av, _, Nat.le_succ_of_le hal, k3.1, k3.2, close P3, ?_⟩
      simpa [addO] using q3
    | true =>
      refine if_pos rfl ▸ ?_
      simp only [↓reduceIte] at q3
      intro s1 H5 C1 cl1 fp1
      refine EWd.run (q3 s1 H5 C1 cl1 fp1) P3.ok fun v H4 y ρ4 P4 r4 q4 => ?_
      have k4 := keepD (P2.trans (P3.trans P4).pst)
      have nz : av.length < sizeLine := by
        have e1 := k4.2.length
        have : (sizeLine : Nat) = 16777216 := sizeLine_eq
        omega
      refine ⟨av, k4.1, nz, hl, acc ++ [y], av ++ [v], _, by simpa using hal, upd_same, ?_, ?_, q4⟩
      · have P5 := close (P3.trans P4)
        have st : Stb H4 (upd H4 D (.lst (av ++ [v]))) := fun b o im hb => by rw [upd_ne (fun z => by rw [z, k4.1] at hb; cases hb; exact im)]; exact hb
        exact RpAll.append (RpAll.mono st _ _ k4.2) (.cons (Rp.mono st _ _ r4) .nil)
      · have P5 := close (P3.trans P4)
        have st : Stb H4 (upd H4 D (.lst (av ++ [v]))) := fun b o im hb => by rw [upd_ne (fun z => by rw [z, k4.1] at hb; cases hb; exact im)]; exact hb
        refine ⟨fun b o hb nm => ?_, fun b o hb => ?_, P5.so, P5.os, ⟨P5.ok.len, fun j s hj => ?_, P5.ok.sep, tabs_step (fun b o h nl => by rw [upd_ne (fun z => by rw [z, k4.1] at h; cases h; exact nl _ rfl)]; exact h) P5.ok.tb⟩⟩
        · rw [upd_ne (ne_of_none hb nD)]; exact P5.kp b o hb nm
        · rw [upd_ne (ne_of_none hb nD)]; exact P5.th b o hb
        · obtain ⟨w, ew, so⟩ := P5.ok.get j s hj
          refine ⟨w, ew, ?_⟩
          cases s with
          | un => trivial
          | dat d => obtain ⟨v', e3, r3⟩ := so; exact ⟨v', e3, Rp.mono st _ _ r3⟩
          | hol p es =>
            obtain ⟨a, ws', e3, q5, r3⟩ := so
            subst e3
            refine ⟨a, ws', rfl, ?_, RpAll.mono st _ _ r3⟩
            rw [upd_ne (fun z => by subst z; exact upd_mine E1 P5 nD ⟨j, _, hj, trivial, ew⟩)]
            exact q5
          | dic es =>
            obtain ⟨a, o, ws', e3, q5, k5, r3⟩ := so
            subst e3
            refine ⟨a, o, ws', rfl, ?_, k5, RpAll.mono st _ _ r3⟩
            rw [upd_ne (fun z => by subst z; exact upd_mine E1 P5 nD ⟨j, _, hj, trivial, ew⟩)]
            exact q5
  · have he : i = ds.length := Nat.le_antisymm hi (Nat.le_of_not_lt hl)
    subst he
    exact .inl ⟨g2, kk (.ref D) Hk (.frs acc) ρk (P1.trans Pk) ⟨D, av, rfl, P1.free nD, hD, ra⟩ (wd acc ρk wk)⟩
theorem EW.lc {own : List (Str × Nat)} (C : Ctx X k) (h : IW X tg iter ρ fun ds ρ1 => ds.length ≤ 1000000 ∧ noHol ρ1 (own.map (·.2)) = true ∧ ∃ W : Nat → List PyData → Nv → Prop, W 0 [] ρ1 ∧ (∀ i d acc ρ2, ds[i]? = some d → W i acc ρ2 → Turn1 X scope tg ifs elt is (own.map (·.2)) d ρ2 fun o ρ3 => W (i + 1) (addO acc o) ρ3) ∧ ∀ acc ρ2, W ds.length acc ρ2 → Q (.frs acc) ρ2)
    (ok : BlkOk X.N X.env.scope scope own) (hsub : ∀ j ∈ is, j ∈ own.map (·.2)) (hs : ∀ x, foldedSetIterable iter X.env x = pure x := by intro _; rfl) : EW X (.ListComp elt [⟨tg, iter, ifs, 0⟩] scope pos) ρ Q := fun σ H R Ev kk pins s I =>
  (pe_lc (g := bG X scope tg) (tt := bT X scope ifs) (te := bE X scope elt) C.calm C.nd pi_W ok (fun s H C cl fp => ⟨fun pins s' σ' H' v u Q' I r h => h s H C cl fp pins s' u I r⟩) (fun s H C cl fp => ⟨fun pins s' σ' H' Q' I h => h s H C cl fp pins s' I⟩) (fun s H C cl fp => ⟨fun pins s' σ' H' Q' I h => h s H C cl fp pins s' I⟩) hs).run pins s σ H R I
    (lc_read rfl hsub Ev h kk)
theorem S1.asgLc {i : Nat} {x : Str} {own : List (Str × Nat)} (C : Ctx X k) (h : IW X tg iter ρ fun ds ρ1 => ds.length ≤ 1000000 ∧ noHol ρ1 (own.map (·.2)) = true ∧ ∃ W : Nat → List PyData → Nv → Prop, W 0 [] ρ1 ∧ (∀ i d acc ρ2, ds[i]? = some d → W i acc ρ2 → Turn1 X scope tg ifs elt is (own.map (·.2)) d ρ2 fun o ρ3 => W (i + 1) (addO acc o) ρ3) ∧ ∀ acc ρ2, W ds.length acc ρ2 → asgR i ρ2 (.frs acc) E.nx)
    (hi : X.N[i]? = some x) (hyl : X.env.scope.names.lookup x = some .local) (hsw : swapsWith (.ListComp elt [⟨tg, iter, ifs, 0⟩] scope pos) (some (.Name x p)) pos'.line X.env = pure true) (ok : BlkOk X.N X.env.scope scope own) (hsub : ∀ j ∈ is, j ∈ own.map (·.2))
    (hs : ∀ x, foldedSetIterable iter X.env x = pure x := by intro _; rfl) : S1 X (.Assign [.Name x p] (.ListComp elt [⟨tg, iter, ifs, 0⟩] scope pos) pos') ρ E := fun σ H D Ev k1 k2 k3 k4 pins s I => by
  refine (ps_setLc (g := bG X scope tg) (tt := bT X scope ifs) (te := bE X scope elt) C.calm C.nd hi hyl hsw pi_W ok (fun s H C cl fp => ⟨fun pins s' σ' H' v u Q' I r h => h s H C cl fp pins s' u I r⟩) (fun s H C cl fp => ⟨fun pins s' σ' H' Q' I h => h s H C cl fp pins s' I⟩) (fun s H C cl fp => ⟨fun pins s' σ' H' Q' I h => h s H C cl fp pins s' I⟩) hs).run pins s σ H D I ?_
  refine lc_read (Q := fun x ρ1 => asgR i ρ1 x E.nx) rfl hsub Ev h fun v H1 y ρ1 P V q => ?_
  obtain ⟨ρ', P', q'⟩ := asg_run Ev P V q
  exact k1 _ _ _ P' q'
end
end AW
namespace AW
variable [HasT]
open PySem PySem.Spec PyProof.Rows L2
section
variable {X : Cx} {scope : Scope} {e a b c tg iter elt : Expr} {ρ : Nv} {E : AEnds} {Q : QE} {pos p p2 pos' : Pos} {k : Nat} {d : PyData} {is vs : List Nat} {R : Option PyData → Nv → Prop}
theorem Turn1.nil (h : ∀ s0 H0 C cl fp, GW (BX X scope s0 H0 C cl fp) tg d (wipeN ρ vs) is fun ρ2 => ∀ s0 H0 C cl fp, EWd (BX X scope s0 H0 C cl fp) elt ρ2 fun y ρ4 => R (some y) (restN ρ ρ4 vs)) : Turn1 X scope tg [] elt is vs d ρ R := fun s0 H0 C cl fp σ H v R' Ev r kk => by
  refine h s0 H0 C cl fp σ H v R' Ev r fun σ' ρ' P o l y q => kk σ' ρ' P o l y fun s0 H0 C cl fp => ?_
  simp only [TWi, ↓reduceIte]
  exact q
theorem Turn1.one (h : ∀ s0 H0 C cl fp, GW (BX X scope s0 H0 C cl fp) tg d (wipeN ρ vs) is fun ρ2 => ∀ s0 H0 C cl fp, TW (BX X scope s0 H0 C cl fp) c ρ2 fun t ρ3 => if t = true then ∀ s0 H0 C cl fp, EWd (BX X scope s0 H0 C cl fp) elt ρ3 fun y ρ4 => R (some y) (restN ρ ρ4 vs) else R none (restN ρ ρ3 vs)) : Turn1 X scope tg [c] elt is vs d ρ R := h
/-- what is walked, as a list of one's own things -/
theorem getElem?_map_some {α : Type} {xs : List α} {g : α → PyData} {i : Nat} {d : PyData} (h : (xs.map g)[i]? = some d) : ∃ x, xs[i]? = some x ∧ d = g x := by
  rw [List.getElem?_map] at h
  cases e : xs[i]? with
  | none => rw [e] at h; simp at h
  | some x => rw [e] at h; exact ⟨x, rfl, by simpa using h.symm⟩
theorem take_succ_map {α β : Type} {xs : List α} {i : Nat} {x : α} (f : α → β) (h : xs[i]? = some x) : (xs.take (i + 1)).map f = (xs.take i).map f ++ [f x] := by
  rw [List.take_add_one, h]
  simp
/-- elements that leave the slots as they are -/
def lcQ (X : Cx) (scope : Scope) (tg : Expr) (ifs : List Expr) (elt : Expr) (is vs : List Nat) {α : Type} (xs : List α) (g : α → PyData) (f : α → Option PyData) (Q : QE) (ds : List PyData) (ρ : Nv) : Prop :=
  ds = xs.map g ∧ xs.length ≤ 1000000 ∧ noHol ρ vs = true ∧ (∀ x, x ∈ xs → Turn1 X scope tg ifs elt is vs (g x) ρ fun o ρ3 => o = f x ∧ ρ3 = ρ) ∧ Q (.frs (xs.filterMap f)) ρ
theorem lcQ.ok {α : Type} {xs : List α} {g : α → PyData} {f : α → Option PyData} {ifs : List Expr} {ds : List PyData} (h : lcQ X scope tg ifs elt is vs xs g f Q ds ρ) : ds.length ≤ 1000000 ∧ noHol ρ vs = true ∧ ∃ W : Nat → List PyData → Nv → Prop, W 0 [] ρ ∧ (∀ i d acc ρ2, ds[i]? = some d → W i acc ρ2 → Turn1 X scope tg ifs elt is vs d ρ2 fun o ρ3 => W (i + 1) (addO acc o) ρ3) ∧ ∀ acc ρ2, W ds.length acc ρ2 → Q (.frs acc) ρ2 := by
  obtain ⟨rfl, hl, nh, ht, hq⟩ := h
  refine ⟨by simpa using hl, nh, fun i acc ρ2 => acc = (xs.take i).filterMap f ∧ ρ2 = ρ, ⟨by simp, rfl⟩, ?_, ?_⟩
  · rintro i d acc ρ2 hd ⟨rfl, rfl⟩
    obtain ⟨x, hx, rfl⟩ := getElem?_map_some hd
    intro s0 H0 C cl fp σ H v R' Ev r kk
    have imp : ∀ {o : Option PyData} {ρ3 : Nv}, o = f x ∧ ρ3 = ρ2 → (addO ((xs.take i).filterMap f) o = (xs.take (i + 1)).filterMap f ∧ ρ3 = ρ2) := by
      rintro o ρ3 ⟨rfl, rfl⟩
      refine ⟨?_, rfl⟩
      rw [List.take_add_one, hx, List.filterMap_append]
      cases e : f x with
      | none => simp [addO, e]
      | some y => simp [addO, e]
    refine ht x (List.mem_of_getElem? hx) s0 H0 C cl fp σ H v R' Ev r fun σ' ρ' P o l y q => kk σ' ρ' P o l y fun s0 H0 C cl fp => ?_
    have q' := q s0 H0 C cl fp
    match ifs, q' with
    | [], q' =>
      simp only [TWi, ↓reduceIte] at q' ⊢
      exact fun s0 H0 C cl fp => EW.imp (q' s0 H0 C cl fp) fun z ρ4 ⟨d, hd, q3⟩ => ⟨d, hd, imp q3⟩
    | [c], q' =>
      refine TW.imp q' fun t ρ3 q2 => ?_
      cases t with
      | true =>
        simp only [↓reduceIte] at q2 ⊢
        exact fun s0 H0 C cl fp => EW.imp (q2 s0 H0 C cl fp) fun z ρ4 ⟨d, hd, q3⟩ => ⟨d, hd, imp q3⟩
      | false =>
        simp only [Bool.false_eq_true, ↓reduceIte] at q2 ⊢
        exact imp q2
  · rintro acc ρ2 ⟨rfl, rfl⟩
    rw [List.length_map, List.take_of_length_le (Nat.le_refl _)]
    exact hq
theorem EW.lcP {α : Type} (xs : List α) (g : α → PyData) (f : α → Option PyData) {ifs : List Expr} {own : List (Str × Nat)} (C : Ctx X k) (h : IW X tg iter ρ fun ds ρ1 => lcQ X scope tg ifs elt is (own.map (·.2)) xs g f Q ds ρ1)
    (ok : BlkOk X.N X.env.scope scope own) (hsub : ∀ j ∈ is, j ∈ own.map (·.2)) (hs : ∀ x, foldedSetIterable iter X.env x = pure x := by intro _; rfl) : EW X (.ListComp elt [⟨tg, iter, ifs, 0⟩] scope pos) ρ Q :=
  EW.lc C (fun σ H R Ev kk => h σ H R Ev fun J H' ds ρ' P dj q => kk J H' ds ρ' P dj q.ok) ok hsub hs
theorem S1.asgLcP {α : Type} (xs : List α) (g : α → PyData) (f : α → Option PyData) {i : Nat} {x : Str} {ifs : List Expr} {own : List (Str × Nat)} (C : Ctx X k) (h : IW X tg iter ρ fun ds ρ1 => lcQ X scope tg ifs elt is (own.map (·.2)) xs g f (fun y ρ2 => asgR i ρ2 y E.nx) ds ρ1)
    (hi : X.N[i]? = some x) (hyl : X.env.scope.names.lookup x = some .local) (hsw : swapsWith (.ListComp elt [⟨tg, iter, ifs, 0⟩] scope pos) (some (.Name x p)) pos'.line X.env = pure true) (ok : BlkOk X.N X.env.scope scope own) (hsub : ∀ j ∈ is, j ∈ own.map (·.2))
    (hs : ∀ x, foldedSetIterable iter X.env x = pure x := by intro _; rfl) : S1 X (.Assign [.Name x p] (.ListComp elt [⟨tg, iter, ifs, 0⟩] scope pos) pos') ρ E :=
  S1.asgLc C (fun σ H R Ev kk => h σ H R Ev fun J H' ds ρ' P dj q => kk J H' ds ρ' P dj q.ok) hi hyl hsw ok hsub hs
end
end AW

/-! AW10: lists that are changed, several targets, enumerate, zip. -/
namespace AW
variable [HasT]
open PySem PySem.Spec PyProof.Rows L2
section
variable {X : Cx} {o e a b c tg iter : Expr} {es tgs : List Expr} {ρ : Nv} {E : AEnds} {Q : QE} {pos p p2 apos cpos pos' : Pos} {k : Nat} {is : List Nat}

/-! ### methods of lists -/
theorem ty_list {K : PySem.W.Frag} {H : Hp} {m : Addr} {xs : List V} (h : H m = some (.lst xs)) : tyV K "list" (.ref m) H := Or.inl ⟨rfl, xs, .inl (.inl h)⟩
theorem own_at {K : PySem.W.Frag} {H H0 : Hp} {σ : L2.St} {i : Nat} {v : V} {q : Bool} {ds : List PyData} (Ev : NvOk K H σ ρ) (V : VOk K H0 H ρ σ (.own i) v) (h : ρ[i]? = some (.hol q ds)) : ∃ m vs, v = .ref m ∧ σ[i]? = some (some (.ref m)) ∧ H m = some (.lst vs) ∧ RpAll K H ds vs := by
  obtain ⟨m, vs, e, q, r⟩ := Ev.hol h
  have e2 := V.2
  rw [e] at e2
  cases e2
  exact ⟨m, vs, rfl, e, q, r⟩
theorem own_list {K : PySem.W.Frag} {H H0 : Hp} {σ : L2.St} {i : Nat} {v : V} (Ev : NvOk K H σ ρ) (V : VOk K H0 H ρ σ (.own i) v) : tyV K "list" v H := by
  obtain ⟨⟨q, ds, h⟩, _⟩ := id V
  obtain ⟨m, vs, rfl, _, q, _⟩ := own_at Ev V h
  exact ty_list q
theorem EW.append (h : EW X o ρ fun x ρ1 => ∃ i, x = .own i ∧ EWd X e ρ1 fun d ρ2 => ∃ q ds, ρ2[i]? = some (.hol q ds) ∧ ds.length < sizeLine ∧ Q (.dat .none) (ρ2.set i (.hol q (ds ++ [d]))))
    (hbase : attributeBase o "append" X.env (eval o X.env) = eval o X.env := by rfl) (hfew : ((backTo cpos (starEach [e] X.env)).all (fun x => !x.1) && (backToKw cpos (keywordEach [] X.env)).all (fun x => x.1.isSome) && decide ([e].length + ([] : List Keyword).length + (if ([] : List Keyword).isEmpty then 0 else 1) < 30)) = true := by rfl)
    (hline : (apos.endLine == cpos.line) = true := by rfl) (hs : starEach [e] X.env = (false, eval e X.env) :: starEach [] X.env := by rfl) (hplain : (backTo cpos (starEach [] X.env)).any (·.1) = false := by rfl) : EW X (.Call (.Attribute o "append" apos) [e] [] cpos) ρ Q := fun σ H R Ev kk pins s I => by
  refine (pe_bm PySem.F.plainAttrs_list PySem.F.slot_list_append PySem.F.type_list_append mt_append pe_W (pa_cons pe_W pa_nil hs) hbase hfew hline hs hplain).run pins s σ H R I (h σ H _ Ev fun v H1 x ρ1 P1 V1 ⟨i, ex, q⟩ => ?_)
  subst ex
  refine ⟨own_list P1.ok V1, EWd.run q P1.ok fun u H2 d ρ2 P2 r2 ⟨q, ds, hi, hz, q2⟩ => ?_⟩
  obtain ⟨m, vs, rfl, em, hm, r⟩ := own_at P2.ok (V1.step Ev P1 P2) hi
  refine ⟨m, vs, u, rfl, rfl, hm, by rw [← r.length]; exact hz, ?_⟩
  exact kk _ _ _ _ ((P1.trans P2).trans (pex_mut P2.ok hi em (r.append (.cons r2 .nil)))) (vdat .none) q2
theorem EW.extend (h : EW X o ρ fun x ρ1 => ∃ i, x = .own i ∧ EW X e ρ1 fun y ρ2 => ∃ q ds es', ρ2[i]? = some (.hol q ds) ∧ seqO ρ2 y = some es' ∧ ds.length + es'.length ≤ sizeLine ∧ Q (.dat .none) (ρ2.set i (.hol q (ds ++ es'))))
    (hbase : attributeBase o "extend" X.env (eval o X.env) = eval o X.env := by rfl) (hfew : ((backTo cpos (starEach [e] X.env)).all (fun x => !x.1) && (backToKw cpos (keywordEach [] X.env)).all (fun x => x.1.isSome) && decide ([e].length + ([] : List Keyword).length + (if ([] : List Keyword).isEmpty then 0 else 1) < 30)) = true := by rfl)
    (hline : (apos.endLine == cpos.line) = true := by rfl) (hs : starEach [e] X.env = (false, eval e X.env) :: starEach [] X.env := by rfl) (hplain : (backTo cpos (starEach [] X.env)).any (·.1) = false := by rfl) : EW X (.Call (.Attribute o "extend" apos) [e] [] cpos) ρ Q := fun σ H R Ev kk pins s I => by
  refine (pe_bm PySem.F.plainAttrs_list PySem.F.slot_list_extend PySem.F.type_list_extend mt_extend pe_W (pa_cons pe_W pa_nil hs) hbase hfew hline hs hplain).run pins s σ H R I (h σ H _ Ev fun v H1 x ρ1 P1 V1 ⟨i, ex, q⟩ => ?_)
  subst ex
  refine ⟨own_list P1.ok V1, q σ H1 _ P1.ok fun u H2 y ρ2 P2 V2 ⟨q, ds, es', hi, hy, hz, q2⟩ => ?_⟩
  obtain ⟨m, vs, rfl, em, hm, r⟩ := own_at P2.ok (V1.step Ev P1 P2) hi
  obtain ⟨n, ws, rfl, hn, r'⟩ := seqO_ok P2.ok V2 hy
  refine ⟨m, n, vs, ws, rfl, rfl, hm, hn, by rw [← r.length, ← r'.length]; exact hz, ?_⟩
  exact kk _ _ _ _ ((P1.trans P2).trans (pex_mut P2.ok hi em (r.append r'))) (vdat .none) q2
theorem EW.pop0 (h : EW X o ρ fun x ρ1 => ∃ i q ds d, x = .own i ∧ ρ1[i]? = some (.hol q ds) ∧ ds[ds.length - 1]? = some d ∧ Q (.dat d) (ρ1.set i (.hol q ds.dropLast)))
    (hbase : attributeBase o "pop" X.env (eval o X.env) = eval o X.env := by rfl) (hline : (apos.endLine == cpos.line) = true := by rfl) : EW X (.Call (.Attribute o "pop" apos) [] [] cpos) ρ Q := fun σ H R Ev kk pins s I => by
  refine (pe_bm0 PySem.F.plainAttrs_list PySem.F.slot_list_pop PySem.F.type_list_pop mt_pop pe_W hbase hline).run pins s σ H R I (h σ H _ Ev fun v H1 x ρ1 P1 V1 ⟨i, q, ds, d, ex, hi, hd, q2⟩ => ?_)
  subst ex
  obtain ⟨m, vs, rfl, em, hm, r⟩ := own_at P1.ok V1 hi
  obtain ⟨y, hy, ry⟩ := r.get hd
  refine ⟨ty_list hm, m, vs, y, rfl, rfl, hm, by rw [← r.length]; exact hy, ?_⟩
  have PM := pex_mut P1.ok hi em r.dropLast
  exact kk _ _ _ _ (P1.trans PM) (vdat (Rp.mono (PM.stb P1.ok) _ _ ry)) q2
theorem EW.pop1 (h : EW X o ρ fun x ρ1 => ∃ i, x = .own i ∧ EW X e ρ1 fun y ρ2 => ∃ q ds n j d, y = .dat (.int n) ∧ ρ2[i]? = some (.hol q ds) ∧ (-(2 ^ 63) ≤ n ∧ n < 2 ^ 63) ∧ seqIndex? n ds.length = some j ∧ ds[j]? = some d ∧ Q (.dat d) (ρ2.set i (.hol q (ds.eraseIdx j))))
    (hbase : attributeBase o "pop" X.env (eval o X.env) = eval o X.env := by rfl) (hfew : ((backTo cpos (starEach [e] X.env)).all (fun x => !x.1) && (backToKw cpos (keywordEach [] X.env)).all (fun x => x.1.isSome) && decide ([e].length + ([] : List Keyword).length + (if ([] : List Keyword).isEmpty then 0 else 1) < 30)) = true := by rfl)
    (hline : (apos.endLine == cpos.line) = true := by rfl) (hs : starEach [e] X.env = (false, eval e X.env) :: starEach [] X.env := by rfl) (hplain : (backTo cpos (starEach [] X.env)).any (·.1) = false := by rfl) : EW X (.Call (.Attribute o "pop" apos) [e] [] cpos) ρ Q := fun σ H R Ev kk pins s I => by
  refine (pe_bm PySem.F.plainAttrs_list PySem.F.slot_list_pop PySem.F.type_list_pop mt_popAt pe_W (pa_cons pe_W pa_nil hs) hbase hfew hline hs hplain).run pins s σ H R I (h σ H _ Ev fun v H1 x ρ1 P1 V1 ⟨i, ex, q⟩ => ?_)
  subst ex
  refine ⟨own_list P1.ok V1, q σ H1 _ P1.ok fun u H2 y ρ2 P2 V2 ⟨q, ds, n, j, d, ey, hi, hb, hj, hd, q2⟩ => ?_⟩
  subst ey
  obtain rfl := Rp.int_inv V2
  obtain ⟨m, vs, rfl, em, hm, r⟩ := own_at P2.ok (V1.step Ev P1 P2) hi
  obtain ⟨y, hy, ry⟩ := r.get hd
  refine ⟨m, vs, n, j, y, rfl, rfl, hm, hb.1, hb.2, by rw [← r.length]; exact hj, hy, ?_⟩
  have PM := pex_mut P2.ok hi em (r.eraseIdx j)
  exact kk _ _ _ _ ((P1.trans P2).trans PM) (vdat (Rp.mono (PM.stb P2.ok) _ _ ry)) q2

/-! ### x[i] = e -/
theorem S1.setItem (h : EWd X e ρ fun d ρ1 => EW X o ρ1 fun x ρ2 => ∃ i, x = .own i ∧ EW X a ρ2 fun y ρ3 => ∃ n j q ds, y = .dat (.int n) ∧ ρ3[i]? = some (.hol q ds) ∧ ixN ds.length n = some j ∧ E.nx (ρ3.set i (.hol q (ds.set j d))))
    (ha : ∀ v, assign (.Subscript o a p) X.env v = (do let ov ← holding [v] (eval o X.env); let iv ← holding [v, ov] (eval a X.env); standAt p; holding [v, ov, iv] (setItem ov iv v); release [v, ov, iv] []) := by intro _; rfl)
    (hs : swapsWithSole [.Subscript o a p] e pos.line X.env = pure false := by rfl) (hw : swappedStores [.Subscript o a p] e X.env = pure none := by rfl) (h1 : (assignEach [.Subscript o a p] X.env).map (·.2) = [assign (.Subscript o a p) X.env] := by rfl) : S1 X (.Assign [.Subscript o a p] e pos) ρ E := fun σ H D Ev k1 k2 k3 k4 pins s I => by
  refine (ps_asg pe_W (pg_sub pe_W pe_W set_list ha) hs hw h1).run pins s σ H D I (EWd.run h Ev fun v H1 d ρ1 P1 r1 q1 => q1 σ H1 _ P1.ok fun u H2 x ρ2 P2 V2 ⟨i, ex, q2⟩ => ?_)
  subst ex
  refine q2 σ H2 _ P2.ok fun w H3 y ρ3 P3 V3 ⟨n, j, q, ds, ey, hi, hj, q3⟩ => ?_
  subst ey
  obtain rfl := Rp.int_inv V3
  obtain ⟨m, vs, rfl, em, hm, r⟩ := own_at P3.ok (V2.step P1.ok P2 P3) hi
  refine ⟨m, vs, n, j, rfl, rfl, hm, by rw [← r.length]; exact hj, ?_⟩
  have rd : Rp X.K H3 d v := Rp.mono ((P2.trans P3).stb P1.ok) _ _ r1
  exact k1 _ _ _ (((P1.trans P2).trans P3).trans (pex_mut P3.ok hi em (r.set j rd))).pst q3

/-! ### several targets -/
theorem S1.asgT (h : EW X e ρ fun x ρ1 => ∃ d, asD x = some d ∧ GW X tg d ρ1 is E.nx) (hs : swapsWithSole [tg] e pos.line X.env = pure false := by rfl) (hw : swappedStores [tg] e X.env = pure none := by rfl) (h1 : (assignEach [tg] X.env).map (·.2) = [assign tg X.env] := by rfl) : S1 X (.Assign [tg] e pos) ρ E := fun σ H D Ev k1 k2 k3 k4 pins s I => by
  refine (ps_asg pe_W pg_W hs hw h1).run pins s σ H D I (EWd.run h Ev fun v H1 d ρ1 P1 r1 q1 => ?_)
  exact q1 σ H1 v _ P1.ok r1 fun σ' ρ' P' _ _ _ q => k1 _ _ _ (P1.pst.trans P') q
/-- a value that is data or a new list, into slot i -/
def asgV (i : Nat) (ρ : Nv) (x : AV) (q : Nv → Prop) : Prop := pinB ρ i = false ∧ match x with
  | .dat d => q (ρ.set i (.dat d))
  | .frs ds => q (ρ.set i (.hol false ds))
  | .own _ => False
theorem own_set {H : Hp} {ρ1 : Nv} {σ1 : L2.St} {s : SV} {v : V} (hs : ∀ p ds, s = .hol p ds → p = false ∧ ∃ a, v = .ref a ∧ H a = none ∧ ¬ Mine ρ1 σ1 a) (hd : ∀ es, s = .dic es → ∃ a, v = .ref a ∧ H a = none ∧ ¬ Mine ρ1 σ1 a) (o : Owns s) : ∃ a, v = .ref a ∧ H a = none ∧ ¬ Mine ρ1 σ1 a := by
  cases s with
  | hol p ds => exact (hs p ds rfl).2
  | dic es => exact hd es rfl
  | _ => exact o.elim
theorem pst_set {K : PySem.W.Frag} {H H1 : Hp} {ρ ρ1 : Nv} {σ σ1 : L2.St} {i : Nat} {s : SV} {v : V} (P : Pst K H ρ σ H1 ρ1 σ1) (np : pinB ρ1 i = false) (so : SOk K H1 s (some v)) (hs : ∀ p ds, s = .hol p ds → p = false ∧ ∃ a, v = .ref a ∧ H a = none ∧ ¬ Mine ρ1 σ1 a) (hd : ∀ es, s = .dic es → ∃ a, v = .ref a ∧ H a = none ∧ ¬ Mine ρ1 σ1 a := by intro _ z; cases z) : Pst K H ρ σ H1 (ρ1.set i s) (σ1.set i (some v)) where
  kp := P.kp
  th := P.th
  mn := fun b ⟨j, s', h, o, e⟩ => by
    rcases get_set h with ⟨rfl, rfl, hl⟩ | ⟨hj, h⟩
    · obtain ⟨a, rfl, n, _⟩ := own_set hs hd o
      rw [List.getElem?_set_self (by rw [← P.ok.len]; exact hl)] at e
      cases e
      exact .inr n
    · rw [List.getElem?_set_ne (Ne.symm hj)] at e
      exact P.mn b ⟨j, s', h, o, e⟩
  pn := fun j ds h => by
    obtain ⟨⟨es, h1⟩, h2⟩ := P.pn j ds h
    have hj : i ≠ j := fun e => by subst e; exact not_pin np h1
    exact ⟨⟨es, by rw [List.getElem?_set_ne hj]; exact h1⟩, by rw [List.getElem?_set_ne hj]; exact h2⟩
  ok := {
    tb := P.ok.tb
    len := by simp [P.ok.len]
    get := fun j s' h => by
      rcases get_set h with ⟨rfl, rfl, hl⟩ | ⟨hj, h⟩
      · exact ⟨some v, by rw [List.getElem?_set_self (by rw [← P.ok.len]; exact hl)], so⟩
      · obtain ⟨w, e, q⟩ := P.ok.get j s' h
        exact ⟨w, by rw [List.getElem?_set_ne (Ne.symm hj)]; exact e, q⟩
    sep := fun j k a s1 s2 hne h1 h2 o1 o2 e1 e2 => by
      rcases get_set h1 with ⟨rfl, rfl, hl⟩ | ⟨hj, g1⟩
      · obtain ⟨a', rfl, n, nm⟩ := own_set hs hd o1
        rw [List.getElem?_set_self (by rw [← P.ok.len]; exact hl)] at e1
        cases e1
        rcases get_set h2 with ⟨rfl, _, _⟩ | ⟨hk, g2⟩
        · exact hne rfl
        · rw [List.getElem?_set_ne (Ne.symm hk)] at e2
          exact nm ⟨k, s2, g2, o2, e2⟩
      · rw [List.getElem?_set_ne (Ne.symm hj)] at e1
        rcases get_set h2 with ⟨rfl, rfl, hl⟩ | ⟨hk, g2⟩
        · obtain ⟨a', rfl, n, nm⟩ := own_set hs hd o2
          rw [List.getElem?_set_self (by rw [← P.ok.len]; exact hl)] at e2
          cases e2
          exact nm ⟨j, s1, g1, o1, e1⟩
        · rw [List.getElem?_set_ne (Ne.symm hk)] at e2
          exact P.ok.sep j k a s1 s2 hne g1 g2 o1 o2 e1 e2 }
/-- the value x, valid at H2 and new since H1 (if it is new), into slot i; M: what may be owned already -/
theorem asgV_run {K : PySem.W.Frag} {H H1 H2 : Hp} {ρ ρ2 ρ3 : Nv} {σ σ3 : L2.St} {i : Nat} {x : AV} {v : V} {q : Nv → Prop} (P : Pst K H ρ σ H2 ρ3 σ3) (hf : ∀ a, H1 a = none → H a = none) (V : VOk K H1 H2 ρ2 σ x v) (nm : ∀ a, H1 a = none → ¬ Mine ρ3 σ3 a) (h : asgV i ρ3 x q) :
    ∃ ρ', Pst K H ρ σ H2 ρ' (σ3.set i (some v)) ∧ q ρ' ∧ ∀ b, Mine ρ' (σ3.set i (some v)) b → Mine ρ3 σ3 b ∨ (∃ ds, x = .frs ds) ∧ v = .ref b := by
  obtain ⟨np, h⟩ := h
  cases x with
  | dat d =>
    refine ⟨_, pst_set (s := .dat d) P np ⟨v, rfl, V⟩ (fun _ _ z => by cases z), h, fun b ⟨j, s', hj, o', e⟩ => .inl ?_⟩
    rcases get_set hj with ⟨_, z, _⟩ | ⟨hne, hj⟩
    · cases z; exact o'.elim
    · rw [List.getElem?_set_ne (Ne.symm hne)] at e
      exact ⟨j, s', hj, o', e⟩
  | frs ds =>
    obtain ⟨a, vs, rfl, n, e, r⟩ := V
    refine ⟨_, pst_set (s := .hol false ds) P np ⟨a, vs, rfl, e, r⟩ (fun p ds z => by cases z; exact ⟨rfl, a, rfl, hf a n, nm a n⟩), h, fun b ⟨j, s', hj, o', e'⟩ => ?_⟩
    rcases get_set hj with ⟨rfl, z, hl⟩ | ⟨hne, hj⟩
    · rw [List.getElem?_set_self (by rw [← P.ok.len]; exact hl)] at e'
      cases e'
      exact .inr ⟨⟨ds, rfl⟩, rfl⟩
    · rw [List.getElem?_set_ne (Ne.symm hne)] at e'
      exact .inl ⟨j, s', hj, o', e'⟩
  | own j => exact h.elim
/-- a, b = x, y (two plain names of the def) -/
theorem S1.par {i j : Nat} {x y : Str} {px py pt pt2 : Pos} {kt k2} (C : Ctx X k) (h : EW X a ρ fun x ρ1 => EW X b ρ1 fun y ρ2 => asgV i ρ2 x fun ρ3 => asgV j ρ3 y E.nx) (hi : X.N[i]? = some x) (hj : X.N[j]? = some y) (hij : i ≠ j) (hx : X.env.scope.names.lookup x = some .local) (hy : X.env.scope.names.lookup y = some .local)
    (hw : swappedStores [.Tuple [.Name x px, .Name y py] kt pt] (.Tuple [a, b] k2 pt2) X.env = pure (some [x, y])) (hs : swapsWithSole [.Tuple [.Name x px, .Name y py] kt pt] (.Tuple [a, b] k2 pt2) pos.line X.env = pure false := by rfl)
    (he : starEach [a, b] X.env = (false, eval a X.env) :: starEach [b] X.env := by rfl) (he2 : starEach [b] X.env = (false, eval b X.env) :: starEach [] X.env := by rfl) : S1 X (.Assign [.Tuple [.Name x px, .Name y py] kt pt] (.Tuple [a, b] k2 pt2) pos) ρ E := fun σ H D Ev k1 k2' k3 k4 pins s I => by
  refine (ps_par C.calm C.nd hi hj hij hx hy (pa_cons pe_W (pa_cons pe_W pa_nil he2) he) hw hs).run pins s σ H D I (h σ H _ Ev fun v H1 x ρ1 P1 V1 q1 => q1 σ H1 _ P1.ok fun w H2 y ρ2 P2 V2 q2 => ⟨v, w, rfl, ?_⟩)
  have P := P1.trans P2
  have tr1 : ∀ b, Mine ρ2 σ b → ∃ o, H1 b = some o := fun b m => let ⟨vs, z, _⟩ := P1.ok.mine (P2.mn m); ⟨_, z⟩
  obtain ⟨ρ3, P3, q3, m3⟩ := asgV_run P.pst (fun a z => z) (V1.step Ev P1 P2) (fun a n m => by obtain ⟨vs, z, _⟩ := Ev.mine (P.mn m); rw [n] at z; cases z) q2
  have hx1 : ∀ b, Mine ρ3 (σ.set i (some v)) b → ∃ o, H1 b = some o := fun b m => by
    rcases m3 b m with z | ⟨⟨ds, rfl⟩, rfl⟩
    · exact tr1 b z
    · obtain ⟨a, vs, e, _, z, _⟩ := V1
      cases e
      exact ⟨_, z⟩
  obtain ⟨ρ4, P4, q4, _⟩ := asgV_run P3 (fun a n => P1.free n) V2 (fun a n m => by obtain ⟨o, z⟩ := hx1 a m; rw [n] at z; cases z) q3
  exact k1 _ _ _ P4 q4
end
end AW

/-! AW11: enumerate, zip, op=. -/
namespace PySem
open Sem (wp)
/-- enumerate of whatever begins: one argument -/
theorem aw_meets_enum {v : Value} {o : Obj} {G : Heap → Prop} (B : Begins v o G) :
    Meets (Builtin.«enumerate.__new__» ⟨[.type "enumerate", v], []⟩) (fun _ R s => G s.heap ∧
      R (.ok (.ret (.ref (s.heap.push o).objs.size))) { s with heap := (s.heap.push o).push { cls := .type "enumerate", data := .fields #[.none, .bool false, .ref s.heap.objs.size, rawInt 0, .none, .none] } }) := .of_wp fun prog w A R s h => by
  obtain ⟨hp, gs, dr, tk, os⟩ := s
  obtain ⟨hG, hR⟩ := h
  have hsub := sub_enumerate
  have go : ∀ {A' : Around} {E' : Value → Shared → Prop} {Q' : Value → Shared → Prop}, Q' (.ref hp.objs.size) ⟨hp.push o, gs, dr, tk, os⟩ → wpAny (model prog w) A' (pyIter v) Q' E' ⟨hp, gs, dr, tk, os⟩ := fun q => B.iter prog w _ _ ⟨hp, gs, dr, tk, os⟩ _ hG q
  wp_walk using go
  refine wpAny_stack_any fun st => wpAny_pure ?_
  split
  · rename_i cc _ _ _ _ _
    cases (cc == Value.type "enumerate") <;> (wp_walk using go; exact ⟨_, rfl, hR⟩)
  · wp_walk using go
    exact ⟨_, rfl, hR⟩
theorem aw_call_enum {prog : Program} {w : World} {A : Around} {E : Value → Shared → Prop} {s : Shared} {v : Value} {o : Obj} {G : Heap → Prop} {Q : Value → Shared → Prop} (B : Begins v o G) (hG : G s.heap)
    (h : ∀ h', IsEnum h' (s.heap.objs.size + 1) s.heap.objs.size 0 .none → h'.get? s.heap.objs.size = some o → h'.objs.size = s.heap.objs.size + 2 → (∀ b u, s.heap.get? b = some u → h'.get? b = some u) → Q (.ref (s.heap.objs.size + 1)) { s with heap := h' }) :
    wpAny (model prog w) A (call (.type "enumerate") [v]) Q E s := by
  refine callType_new F.called_enumerate (by decide) (F.typeCall_enumerate_1 _) (F.newCall_enumerate_1 _) (fun obj => F.args_object_init_2 obj _) F.entry_enumerate_new (aw_meets_enum B) ⟨hG, ?_⟩
  have hz : (s.heap.push o).objs.size = s.heap.objs.size + 1 := Heap.size_push ..
  rw [hz]
  have hl := Heap.get?_push_size (s.heap.push o) (o := { cls := .type "enumerate", data := .fields #[.none, .bool false, .ref s.heap.objs.size, rawInt 0, .none, .none] }) rfl
  rw [hz] at hl
  exact ⟨⟨_, hl, rfl⟩, h _ hl (Heap.get?_push_of_some _ (Heap.get?_push_size _ B.free)) (by rw [Heap.size_push, hz]) fun b u hu => Heap.get?_push_of_some _ (Heap.get?_push_of_some _ hu)⟩
/-- .. of a tuple, at its end -/
theorem aw_enumT_end {prog : Program} {w : World} {A : Around} {E : Value → Shared → Prop} {s : Shared} {e it l : Addr} {i : Nat} {k : Int} {items : Array Value} {old : Value} {Q : Option Value → Shared → Prop} (hh : A.handled = none) (he : IsEnum s.heap e it k old) (hit : s.heap.IsTupleIter it l i) (hl : s.heap.IsTuple l items)
    (hx : items[i]? = none) (hQ : ∀ h', Heap.ExtBut it s.heap h' → Q none { s with heap := h' }) : wpAny (model prog w) A (pyNext (.ref e)) Q E s := by
  have hT : s.TypeIs (.ref e) "enumerate" := ⟨_, he, rfl⟩
  unfold pyNext
  refine wpAny_bind (wpAny_attempt (wpAny_callSpecial?_slot (name := Str.ofString "__next__") hT F.slot_enumerate_next (wpAny_call_entry F.slot_enumerate_next hT F.entry_enumerate_next ?_ (F.args_enumerate_next_1 _))))
  show wpAny _ _ (field (.ref e) 2 >>= _) _ _ _
  refine wpAny_bind (wpAny_field he rfl (x := .ref it) rfl (wpAny_bind (wpAny_nextOf_tuple_end hh hit hl hx fun h' x he' ⟨o, ho, hc⟩ => ?_)))
  exact wpAny_bind (wpAny_isInstance (T := "StopIteration") (b := true) ⟨o, ho, hc⟩ isSubtype_stop (wpAny_pure (hQ _ he')))
end PySem
namespace AW
variable [HasT]
open PySem PySem.Spec PyProof.Rows L2
section
variable {X : Cx} {o e a b c tg iter : Expr} {es tgs : List Expr} {ρ : Nv} {E : AEnds} {Q : QE} {pos p p2 apos cpos pos' : Pos} {k : Nat} {is : List Nat} {ds : List PyData}
/-- the tuple at a, each item in a new pair with its number -/
def IteT (K : PySem.W.Frag) (a : Addr) : It :=
  ⟨fun i H => ∃ (xs : List V) (x : V), SqT K H a xs ∧ xs[i]? = some x, fun i H v H' => ∃ T x, v = .ref T ∧ H T = none ∧ H' = upd H T (.tup [.int (i : Nat), x]) ∧ ∀ xs, SqT K H a xs → xs[i]? = some x, fun i H => ∃ xs : List V, SqT K H a xs ∧ xs.length ≤ i⟩
theorem turn_enumT {P : Program} {w : World} {K : PySem.W.Frag} {elts : List Expr} {kk : Nat} {tpos : Pos} (a e it : Addr) :
    Turn P w K (.Tuple elts kk tpos) (IteT K a) [e, it] e (fun i h => (∃ old, IsEnum h e it ((i : Nat) : Int) old) ∧ h.IsTupleIter it a i ∧ e ≠ it) where
  mem := by simp
  obj := fun i h ⟨⟨old, he⟩, ⟨o, ho, hc, hd⟩, _⟩ b hb => by
    rcases (show b = e ∨ b = it by simpa using hb) with rfl | rfl
    · exact ⟨_, he, fun v z => nomatch z⟩
    · exact ⟨o, ho, fun v z => by rw [hd] at z; cases z⟩
  keep := fun i h h' ⟨⟨old, he⟩, hi, hne⟩ kp => ⟨⟨old, kp e (by simp) _ he⟩, hi.at fun o z => kp it (by simp) o z, hne⟩
  item := by
    intro X hP hw hK hc i pins s σ H E I hf ⟨⟨old, he⟩, hit, hne⟩ ⟨xs, x, hq, hx⟩
    subst hP
    subst hw
    subst hK
    obtain ⟨its, rv, ht, _⟩ := I.tuple hq
    obtain ⟨u, hu, ru⟩ := rv.get hx
    have hu' : its.toArray[i]? = some u := by simpa using hu
    have lt_i : i < its.toArray.size := (Array.getElem?_eq_some_iff.mp hu').1
    have te : e < s.heap.objs.size := Heap.lt_size he
    have ti : it < s.heap.objs.size := by obtain ⟨_, z, _⟩ := hit; exact Heap.lt_size z
    have nea : e ≠ a := fun z => by
      obtain ⟨o, ho, hcl, _⟩ := ht
      subst z
      rw [show s.heap.get? e = some _ from he] at ho
      cases ho
      injection hcl with z
      exact absurd z (by decide)
    have nit : a ≠ it := fun z => by
      obtain ⟨o, ho, hcl, _⟩ := ht
      obtain ⟨o2, ho2, hcl2, _⟩ := hit
      subst z
      rw [ho] at ho2
      cases ho2
      rw [hcl] at hcl2
      injection hcl2 with z
      exact absurd z (by decide)
    have D := Draws.tuple (prog := X.prog) (w := X.w) (A := X.A.in1) (I.ok.hd hc) it a nit its.toArray
    refine wpAny_pyNext_enum_itemD D he ⟨hit, ht⟩ lt_i hne (by simp [hne, nea]) fun y h' tk hy ho hst hT hsz kp => ?_
    obtain rfl : u = y := Option.some.inj (hu'.symm.trans hy)
    refine ⟨_, rfl, wpAny_letOwnedTupleGo_enum (s := { s with heap := h', toks := tk + 1 }) ho fun h'' he' sb => ?_⟩
    have nT : s.heap.objs.size ≠ e := Nat.ne_of_gt te
    have hT' : h''.get? s.heap.objs.size = some { cls := .type "tuple", data := .seq #[.int i tk, u] } := (sb.2 _ nT).trans hT
    have new : ObjOk X.prog X.w (upd H s.heap.objs.size (.tup [.int (i : Nat), x])) h'' s.heap.objs.size (.tup [.int (i : Nat), x]) := ⟨by show 2 ≤ sizeLine; decide, [.int i tk, u], .cons ⟨_, rfl⟩ (.cons ru .nil), ⟨_, hT', rfl, _, rfl⟩⟩
    have I1 : L2.Inv X pins σ (upd H s.heap.objs.size (.tup [.int (i : Nat), x])) { s with heap := h'', toks := tk + 1 } :=
      Inv.turnedNew (ch := [e, it]) I (fun b ob hb z => (sb.2 b (fun q => hb (by simp [q]))).trans (kp b ob (fun q => hb (by simp [q])) (fun q => hb (by simp [q])) z)) hf (Nat.le_refl _) new
    refine ⟨.ref s.heap.objs.size, _, I1, rfl, ⟨_, x, rfl, I.hok.fresh (Nat.le_refl _), rfl, fun ys hy => by rw [I.tuple_inj hy hq]; exact hx⟩, ⟨⟨u, ?_⟩, hst.1.at fun o z => (sb.2 it (Ne.symm hne)).trans z, hne⟩, fun b hb => ?_⟩
    · rw [show ((i + 1 : Nat) : Int) = (i : Int) + 1 by omega]
      exact he'
    · have lb : b < s.heap.objs.size := by
        rcases (show b = e ∨ b = it by simpa using hb) with rfl | rfl
        · exact te
        · exact ti
      rw [upd_ne (Nat.ne_of_lt lb)]
      exact (hf b hb).1
  done := by
    intro X hP hw hK hc i pins s σ H E I hf ⟨⟨old, he⟩, hit, hne⟩ ⟨xs, hq, hx⟩
    subst hP
    subst hw
    subst hK
    obtain ⟨its, rv, ht, _⟩ := I.tuple hq
    have nit : a ≠ it := fun z => by
      obtain ⟨o, ho, hcl, _⟩ := ht
      obtain ⟨o2, ho2, hcl2, _⟩ := hit
      subst z
      rw [ho] at ho2
      cases ho2
      rw [hcl] at hcl2
      injection hcl2 with z
      exact absurd z (by decide)
    obtain ⟨f0, f1, f2, f3, f4, f5⟩ := hf it (by simp)
    have hl := rv.length
    exact aw_enumT_end (I.ok.hd hc) he hit ht (by simp; omega) fun h' eb => ⟨rfl, I.turned (t' := s.toks) (fun b o hb q => eb b o hb q) f0 f1 f3 f4 f5⟩
  self := fun A i s Q E ⟨⟨_, he⟩, _⟩ h => wpAny_pyIter_enum he h
theorem pi_enumT {ta : TA} {elts : List Expr} {kk : Nat} {tpos : Pos} (hg : Gl X "enumerate") (hm : X.mg "enumerate" = none) (ha : PA X [e] ta) (hs : starEach [e] X.env = [(false, eval e X.env)] := by rfl) :
    PI X (.Tuple elts kk tpos) (.Call (.Name "enumerate" p) [e] [] pos) (fun σ H R => ta σ H fun vs H1 => ∃ a xs, vs = [.ref a] ∧ SqT X.K H1 a xs ∧ R (IteT X.K a) H1) := ⟨fun pins s σ H R I h => by
  refine Call_ (ld_blt I hg hm boot_enumerate (PyProof.Rows.callWith_type1 (thn (ha.run pos pins s σ H _ I h) fun us s1 ⟨vs, H1, I1, r1, m, xs, ex, hq, q⟩ => ?_) hs rfl))
  subst ex
  obtain rfl := Vals.ref1 r1
  obtain ⟨its, rv, ht, _⟩ := I1.tuple hq
  refine aw_call_enum (begins_tuple m its.toArray) ht fun h' he hit hsz kp => wpAny_pyIter_enum he ?_
  have I2 : L2.Inv X pins σ H1 { s1 with heap := h' } := I1.kept (t' := s1.toks) kp
  refine ⟨s1.heap.objs.size + 1, [s1.heap.objs.size + 1, s1.heap.objs.size], _, _, H1, rfl, I2, turn_enumT m (s1.heap.objs.size + 1) s1.heap.objs.size, ⟨⟨.none, he⟩, ⟨_, hit, rfl, rfl⟩, Nat.succ_ne_self _⟩, fun b hb => ?_, q⟩
  have le : s1.heap.objs.size ≤ b := by
    rcases (show b = s1.heap.objs.size + 1 ∨ b = s1.heap.objs.size by simpa using hb) with rfl | rfl
    · exact Nat.le_succ _
    · exact Nat.le_refl _
  exact I1.fpOk le (I1.hok.fresh le)⟩
/-- the items with their numbers -/
def enumD (ds : List PyData) : List PyData := ds.zipIdx.map fun p => PyData.tuple [.int (p.2 : Nat), p.1]
theorem enumD_get {ds : List PyData} {i : Nat} {d : PyData} (h : (enumD ds)[i]? = some d) : ∃ x, ds[i]? = some x ∧ d = .tuple [.int (i : Nat), x] := by
  unfold enumD at h
  rw [List.getElem?_map, List.getElem?_zipIdx] at h
  cases e : ds[i]? with
  | none => rw [e] at h; simp at h
  | some x => rw [e] at h; exact ⟨x, rfl, by simpa using h.symm⟩
theorem enumD_length (ds : List PyData) : (enumD ds).length = ds.length := by simp [enumD]
theorem pair_new {K : PySem.W.Frag} {H : Hp} {T : Addr} {x y : V} {d1 d2 : PyData} (n : H T = none) (r1 : Rp K H d1 x) (r2 : Rp K H d2 y) : Rp K (upd H T (.tup [x, y])) (.tuple [d1, d2]) (.ref T) :=
  .tuple upd_same (.cons (Rp.mono (Stb.new n) _ _ r1) (.cons (Rp.mono (Stb.new n) _ _ r2) .nil))
theorem dit_enum {K : PySem.W.Frag} {H1 : Hp} {m : Addr} {xs : List V} (h : SqF K H1 m xs) (r : RpAll K H1 ds xs) : DIt K H1 (Ite K m) (enumD ds) := fun H st => by
  have hm : SqL K H m xs := (st.lst h).sq
  rw [enumD_length, r.length]
  refine ⟨fun i hi => ⟨xs, xs[i], hm, List.getElem?_eq_getElem hi⟩, ⟨xs, hm, Nat.le_refl _⟩, fun i x H' d ⟨T, y, e, n, eH, hy⟩ hd => ?_⟩
  subst e
  subst eH
  obtain ⟨d', hd', rfl⟩ := enumD_get hd
  obtain ⟨v, hv, rv⟩ := r.get hd'
  rw [hy xs hm] at hv
  cases hv
  exact ⟨pair_new n (.int _) (Rp.mono st _ _ rv), .inr ⟨T, _, n, rfl⟩⟩
theorem dit_enumT {K : PySem.W.Frag} {H1 : Hp} {m : Addr} {xs : List V} (h : SqT K H1 m xs) (r : RpAll K H1 ds xs) : DIt K H1 (IteT K m) (enumD ds) := fun H st => by
  have hm : SqT K H m xs := st.tup h
  rw [enumD_length, r.length]
  refine ⟨fun i hi => ⟨xs, xs[i], hm, List.getElem?_eq_getElem hi⟩, ⟨xs, hm, Nat.le_refl _⟩, fun i x H' d ⟨T, y, e, n, eH, hy⟩ hd => ?_⟩
  subst e
  subst eH
  obtain ⟨d', hd', rfl⟩ := enumD_get hd
  obtain ⟨v, hv, rv⟩ := r.get hd'
  rw [hy xs hm] at hv
  cases hv
  exact ⟨pair_new n (.int _) (Rp.mono st _ _ rv), .inr ⟨T, _, n, rfl⟩⟩
theorem IW.enumL {elts : List Expr} {kk : Nat} {tpos : Pos} {Q : List PyData → Nv → Prop} (C : Ctx X k) (h : EW X e ρ fun x ρ1 => ∃ ds, asD x = some (.list ds) ∧ Q (enumD ds) ρ1) (hg : Gl X "enumerate" := by rfl) (hs : starEach [e] X.env = [(false, eval e X.env)] := by rfl) : IW X (.Tuple elts kk tpos) (.Call (.Name "enumerate" p) [e] [] pos) ρ Q := fun σ H R Ev kk pins s I => by
  have h' : EWd X e ρ fun d ρ1 => ∃ ds, d = .list ds ∧ Q (enumD ds) ρ1 := EW.imp h fun x ρ1 ⟨ds, e, q⟩ => ⟨_, e, ds, rfl, q⟩
  refine (pi_enum hg C.blt.enumerate (pa_cons pe_W pa_nil (by rw [hs]; rfl)) hs).run pins s σ H R I (EWd.run h' Ev fun v H1 d ρ1 P r ⟨ds, e, q⟩ => ?_)
  subst e
  cases r with
  | list e r => exact ⟨_, _, rfl, e.sq, kk _ H1 _ ρ1 P (dit_enum e r) q⟩
theorem IW.enumT {elts : List Expr} {kk : Nat} {tpos : Pos} {Q : List PyData → Nv → Prop} (C : Ctx X k) (h : EW X e ρ fun x ρ1 => ∃ ds, x = .dat (.tuple ds) ∧ Q (enumD ds) ρ1) (hg : Gl X "enumerate" := by rfl) (hs : starEach [e] X.env = [(false, eval e X.env)] := by rfl) : IW X (.Tuple elts kk tpos) (.Call (.Name "enumerate" p) [e] [] pos) ρ Q := fun σ H R Ev kk pins s I => by
  refine (pi_enumT hg C.blt.enumerate (pa_cons pe_W pa_nil (by rw [hs]; rfl)) hs).run pins s σ H R I (h σ H _ Ev fun v H1 x ρ1 P V ⟨ds, e, q⟩ => ?_)
  subst e
  cases V with
  | tuple e r => exact ⟨_, _, rfl, SqT.of e, kk _ H1 _ ρ1 P (dit_enumT (SqT.of e) r) q⟩
/-- zip of two lists, of two tuples -/
def zipD (ds es : List PyData) : List PyData := (ds.zip es).map fun p => PyData.tuple [p.1, p.2]
theorem zipD_get {ds es : List PyData} {i : Nat} {d : PyData} (h : (zipD ds es)[i]? = some d) : ∃ x y, ds[i]? = some x ∧ es[i]? = some y ∧ d = .tuple [x, y] := by
  unfold zipD at h
  rw [List.getElem?_map] at h
  cases e : (ds.zip es)[i]? with
  | none => rw [e] at h; simp at h
  | some p =>
    rw [e] at h
    obtain ⟨e1, e2⟩ := List.getElem?_zip_eq_some.mp e
    exact ⟨p.1, p.2, e1, e2, by simpa using h.symm⟩
theorem dit_zip {K : PySem.W.Frag} {H1 : Hp} {m n : Addr} {xs ys : List V} {ds es : List PyData} (h : SqF K H1 m xs) (g : SqF K H1 n ys) (r : RpAll K H1 ds xs) (t : RpAll K H1 es ys) : DIt K H1 (Itz K m n) (zipD ds es) := fun H st => by
  have hm : SqL K H m xs := (st.lst h).sq
  have hn : SqL K H n ys := (st.lst g).sq
  have hl : (zipD ds es).length = min xs.length ys.length := by simp [zipD, r.length, t.length]
  rw [hl]
  refine ⟨fun i hi => ⟨xs, ys, xs[i], ys[i], hm, hn, List.getElem?_eq_getElem _, List.getElem?_eq_getElem _⟩, ⟨xs, ys, hm, hn, by omega⟩, fun i x H' d ⟨T, y, z, e, nn, eH, hy, hz⟩ hd => ?_⟩
  subst e
  subst eH
  obtain ⟨d1, d2, h1, h2, rfl⟩ := zipD_get hd
  obtain ⟨v1, hv1, rv1⟩ := r.get h1
  obtain ⟨v2, hv2, rv2⟩ := t.get h2
  rw [hy xs hm] at hv1
  rw [hz ys hn] at hv2
  cases hv1
  cases hv2
  exact ⟨pair_new nn (Rp.mono st _ _ rv1) (Rp.mono st _ _ rv2), .inr ⟨T, _, nn, rfl⟩⟩
theorem dit_zipT {K : PySem.W.Frag} {H1 : Hp} {m n : Addr} {xs ys : List V} {ds es : List PyData} (h : SqT K H1 m xs) (g : SqT K H1 n ys) (r : RpAll K H1 ds xs) (t : RpAll K H1 es ys) : DIt K H1 (RZ.ItzT K m n) (zipD ds es) := fun H st => by
  have hm : SqT K H m xs := st.tup h
  have hn : SqT K H n ys := st.tup g
  have hl : (zipD ds es).length = min xs.length ys.length := by simp [zipD, r.length, t.length]
  rw [hl]
  refine ⟨fun i hi => ⟨xs, ys, xs[i], ys[i], hm, hn, List.getElem?_eq_getElem _, List.getElem?_eq_getElem _⟩, ⟨xs, ys, hm, hn, by omega⟩, fun i x H' d ⟨T, y, z, e, nn, eH, hy, hz⟩ hd => ?_⟩
  subst e
  subst eH
  obtain ⟨d1, d2, h1, h2, rfl⟩ := zipD_get hd
  obtain ⟨v1, hv1, rv1⟩ := r.get h1
  obtain ⟨v2, hv2, rv2⟩ := t.get h2
  rw [hy xs hm] at hv1
  rw [hz ys hn] at hv2
  cases hv1
  cases hv2
  exact ⟨pair_new nn (Rp.mono st _ _ rv1) (Rp.mono st _ _ rv2), .inr ⟨T, _, nn, rfl⟩⟩
/-- two sequences of the same make -/
def zipOk : PyData → PyData → Option (List PyData)
  | .list ds, .list es => some (zipD ds es)
  | .tuple ds, .tuple es => some (zipD ds es)
  | _, _ => none
theorem IW.zip {elts : List Expr} {kk : Nat} {tpos : Pos} {Q : List PyData → Nv → Prop} (C : Ctx X k) (h : EWds X [a, b] ρ fun ds ρ1 => ∃ d e zs, ds = [d, e] ∧ zipOk d e = some zs ∧ Q zs ρ1) (hg : Gl X "zip" := by rfl) (hs : starEach [a, b] X.env = (false, eval a X.env) :: starEach [b] X.env := by rfl) (hpl : (backTo pos (starEach [b] X.env)).any (·.1) = false := by rfl) : IW X (.Tuple elts kk tpos) (.Call (.Name "zip" p) [a, b] [] pos) ρ Q := fun σ H R Ev kk pins s I => by
  refine (RZ.pi_zipA hg C.blt.zip pa_W hs hpl).run pins s σ H R I (h σ H _ Ev fun vs H1 ds ρ1 P r ⟨d, e, zs, e1, e2, q⟩ => ?_)
  subst e1
  match d, e, e2, r with
  | .list ds, .list es, e2, .cons (.list h1 r1) (.cons (.list h2 r2) .nil) =>
    cases e2
    exact ⟨_, _, _, _, rfl, .inl ⟨h1.sq, h2.sq, kk _ H1 _ ρ1 P (dit_zip h1 h2 r1 r2) q⟩⟩
  | .tuple ds, .tuple es, e2, .cons (.tuple h1 r1) (.cons (.tuple h2 r2) .nil) =>
    cases e2
    exact ⟨_, _, _, _, rfl, .inr ⟨SqT.of h1, SqT.of h2, kk _ H1 _ ρ1 P (dit_zipT (SqT.of h1) (SqT.of h2) r1 r2) q⟩⟩
/-- x += e, ints -/
theorem S1.augI {i : Nat} {x : Str} (C : Ctx X k) {m : Int} (hm : ρ[i]? = some (.dat (.int m))) (h : EW X e ρ fun y ρ1 => ∃ n, y = .dat (.int n) ∧ E.nx (ρ1.set i (.dat (.int (m + n))))) (hi : X.N[i]? = some x) (hx : Loc X.env.scope x) (hf : X.fn x = true ∨ X.env.scope.names.lookup x = some .local := by first | exact .inl rfl | exact .inr rfl) : S1 X (.AugAssign (.Name x pos') .Add e pos) ρ E := fun σ H D Ev k1 k2 k3 k4 pins s I => by
  obtain ⟨v, ev, rv⟩ := Ev.dat hm
  obtain rfl := Rp.int_inv rv
  refine (ps_aug C.nd hi hx pe_W ip_add hf).run pins s σ H D I ⟨_, ev, h σ H _ Ev fun w H1 y ρ1 P V ⟨n, ey, q⟩ => ?_⟩
  subst ey
  obtain rfl := Rp.int_inv V
  refine ⟨m, n, rfl, rfl, k1 _ _ _ (pst_asg (s := .dat (.int (m + n))) Ev P ?_ ⟨_, rfl, .int _⟩ (fun _ _ z => by cases z)) q⟩
  cases e : pinB ρ1 i with
  | false => rfl
  | true =>
    exfalso
    unfold pinB at e
    split at e
    · rename_i ds z
      obtain ⟨es, z2⟩ := P.sh i true ds z
      rw [hm] at z2
      cases z2
    · cases e
end
end AW

/-! AW12: repr, two numbers' greatest and least, ranges as data, calls by name. -/
namespace AW
variable [HasT]
open PySem PySem.Spec PyProof.Rows L2
section
variable {X : Cx} {e a b c : Expr} {es : List Expr} {ρ : Nv} {Q : QE} {QT : Bool → Nv → Prop} {pos p p2 : Pos} {k : Nat}

/-! ### repr -/
def rRepr (K : PySem.W.Frag) : List V → Hp → VK → Prop := fun vs H Q => ∃ v d, vs = [v] ∧ Dp K H v d ∧ d.hasDict = false ∧ d.showable = true ∧ d.shown.length ≤ sizeLine ∧ d.depth ≤ 64 ∧ Q (.str d.shown) H
theorem cr_repr (C : Ctx X k) : CallR X (.builtin "repr") (rRepr X.K) := fun pins s σ H vs us Q I r h => by
  obtain ⟨v, d, rfl, hd, nd, hs, hl, hp, q⟩ := h
  obtain ⟨u, rfl, ru⟩ := vals1 r
  have un := C.units
  have big : ∀ {a : Addr}, RelV (.ref a) u → wpAny (model X.prog X.w) X.A (call (.builtin "repr") [u]) (EP X pins σ Q) X.xe s := by
    intro a ra
    obtain ⟨as, rd⟩ := Dp.reads I d v u hd ru
    obtain rfl : u = Value.ref a := ra
    exact repr_of_reads' rd hs (PyData.noDict_hsm nd) C.grd (by omega) (fun _ _ z => z) (fun h' u tk hk => ⟨.str _, H, I.kept hk, ⟨_, rfl⟩, q⟩) hl
  cases hd with
  | non => obtain rfl : u = Value.none := ru; exact PySem.P.repr_of_none ⟨.str _, H, I.tok _, ⟨_, rfl⟩, q⟩
  | bl b => obtain rfl : u = Value.bool b := ru; exact PySem.P.repr_of_bool ⟨.str _, H, I.tok _, ⟨_, rfl⟩, q⟩
  | int i => obtain ⟨t, rfl⟩ := ru; exact PySem.P.repr_of_int (by simpa [PyData.showable] using hs) ⟨.str _, H, I.tok _, ⟨_, rfl⟩, q⟩
  | str x => obtain ⟨t, rfl⟩ := ru; exact PySem.P.repr_of_str ⟨.str _, H, I.tok _, ⟨_, rfl⟩, q⟩ hl
  | lst _ _ => exact big ru
  | tup _ _ => exact big ru
/-- may be shown -/
structure Shw (d : PyData) : Prop where
  nd : d.hasDict = false
  sh : d.showable = true
  len : d.shown.length ≤ sizeLine
  dp : d.depth ≤ 64
def reprR : Nv → AV → (AV → Prop) → Prop := fun ρ x q => ∃ d, readD ρ x = some d ∧ Shw d ∧ q (.dat (.str d.shown))
theorem EW.repr (C : Ctx X k) (h : EW X e ρ fun x ρ1 => reprR ρ1 x fun z => Q z ρ1) (hg : Gl X "repr" := by rfl) (he : starEach [e] X.env = (false, eval e X.env) :: starEach [] X.env := by rfl) (hpl : (backTo pos (starEach [] X.env)).any (·.1) = false := by rfl) : EW X (.Call (.Name "repr" p) [e] [] pos) ρ Q :=
  EW.b1 (cr_repr C) (fun σ H0 H ρ x v q R E V ⟨d, hd, w, t⟩ kk => ⟨v, d, rfl, readD_ok E V hd w.nd, w.nd, w.sh, w.len, w.dp, kk _ H _ (Pex.refl E) (vdat (.str _)) t⟩) C.blt.repr (by decide +kernel) h hg (by decide) (by decide) he hpl

/-! ### built-in functions of two -/
def B2 (X : Cx) (r : List V → Hp → VK → Prop) (t : R2A) : Prop := ∀ (σ : L2.St) (H0 H : Hp) (ρ : Nv) (x y : AV) (v u : V) (q : AV → Prop) (R : VK), NvOk X.K H σ ρ → VOk X.K H0 H ρ σ x v → VOk X.K H0 H ρ σ y u → t ρ x y q → (∀ w H' z, Pex X.K H ρ σ H' ρ → VOk X.K H H' ρ σ z w → q z → R w H') → r [v, u] H R
theorem EW.b2 {x : Str} {id : String} {r : List V → Hp → VK → Prop} {t : R2A} (hc : CallR X (.builtin id) r) (ht : B2 X r t) (hm : X.mg x = none) (hv : bootBuiltins x = some (.builtin id)) (h : EW X a ρ fun x ρ1 => EW X b ρ1 fun y ρ2 => t ρ2 x y fun z => Q z ρ2) (hg : Gl X x)
    (hn : x ≠ "__name__" := by decide) (hdb : (x == ("__debug__" : Str)) = false := by decide) (he : starEach [a, b] X.env = (false, eval a X.env) :: starEach [b] X.env := by rfl) (he2 : starEach [b] X.env = (false, eval b X.env) :: starEach [] X.env := by rfl) (hpl : (backTo pos (starEach [b] X.env)).any (·.1) = false := by rfl) : EW X (.Call (.Name x p) [a, b] [] pos) ρ Q := fun σ H R E kk pins s I =>
  (pe_callB hc hg hm hv (pa_cons pe_W (pa_cons pe_W pa_nil he2) he) hn hdb he hpl).run pins s σ H R I (h σ H _ E fun v H1 x ρ1 P1 V1 q1 => q1 σ H1 _ P1.ok fun u H2 y ρ2 P2 V2 q2 =>
    ht σ H H2 ρ2 x y v u _ R P2.ok (V1.step E P1 P2) (V2.back fun a n => P1.free n) q2 fun w H' z P3 V3 q3 => kk w H' z ρ2 ((P1.trans P2).trans P3) (V3.back fun a n => (P1.trans P2).free n) q3)
def maxR : R2A := fun _ x y q => match x, y with
  | .dat (.int i), .dat (.int j) => q (.dat (.int (if j > i then j else i)))
  | _, _ => False
def minR : R2A := fun _ x y q => match x, y with
  | .dat (.int i), .dat (.int j) => q (.dat (.int (if j < i then j else i)))
  | _, _ => False
theorem EW.max2 (C : Ctx X k) (h : EW X a ρ fun x ρ1 => EW X b ρ1 fun y ρ2 => maxR ρ2 x y fun z => Q z ρ2) (hg : Gl X "max" := by rfl) (he : starEach [a, b] X.env = (false, eval a X.env) :: starEach [b] X.env := by rfl) (he2 : starEach [b] X.env = (false, eval b X.env) :: starEach [] X.env := by rfl) (hpl : (backTo pos (starEach [b] X.env)).any (·.1) = false := by rfl) : EW X (.Call (.Name "max" p) [a, b] [] pos) ρ Q :=
  EW.b2 (call_max2 C.calm) (fun σ H0 H ρ x y v u q R E V U t kk => by
    match x, y, t with
    | .dat (.int i), .dat (.int j), t =>
      obtain rfl := Rp.int_inv V
      obtain rfl := Rp.int_inv U
      exact ⟨i, j, rfl, kk _ H _ (Pex.refl E) (vdat (.int _)) t⟩) C.blt.max (by decide +kernel) h hg (by decide) (by decide) he he2 hpl
theorem EW.min2 (C : Ctx X k) (h : EW X a ρ fun x ρ1 => EW X b ρ1 fun y ρ2 => minR ρ2 x y fun z => Q z ρ2) (hg : Gl X "min" := by rfl) (he : starEach [a, b] X.env = (false, eval a X.env) :: starEach [b] X.env := by rfl) (he2 : starEach [b] X.env = (false, eval b X.env) :: starEach [] X.env := by rfl) (hpl : (backTo pos (starEach [b] X.env)).any (·.1) = false := by rfl) : EW X (.Call (.Name "min" p) [a, b] [] pos) ρ Q :=
  EW.b2 (call_min2 C.calm) (fun σ H0 H ρ x y v u q R E V U t kk => by
    match x, y, t with
    | .dat (.int i), .dat (.int j), t =>
      obtain rfl := Rp.int_inv V
      obtain rfl := Rp.int_inv U
      exact ⟨i, j, rfl, kk _ H _ (Pex.refl E) (vdat (.int _)) t⟩) C.blt.min (by decide +kernel) h hg (by decide) (by decide) he he2 hpl

/-! ### ranges as data -/
theorem rp_rg {K : PySem.W.Frag} {H : Hp} {f : Nat → Int} : ∀ l : List Nat, RpAll K H (l.map fun i => PyData.int (f i)) (l.map fun i => V.int (f i))
  | [] => .nil
  | i :: l => .cons (.int _) (rp_rg l)
theorem rp_rgV {K : PySem.W.Frag} {H : Hp} {n : Int} : RpAll K H (rngD 0 n.toNat) (rgV 0 n) := by
  unfold rngD rgV
  rw [Int.sub_zero]
  exact rp_rg _
theorem EW.tupRg {pos2 : Pos} (C : Ctx X k) (h : EW X a ρ fun x ρ1 => ∃ n : Int, x = .dat (.int n) ∧ n ≤ 1000000 ∧ -1000000 ≤ n ∧ Q (.dat (.tuple (rngD 0 n.toNat))) ρ1) (hg : Gl X "tuple" := by rfl) (hg2 : Gl X "range" := by rfl) (hs : starEach [.Call (.Name "range" p2) [a] [] p] X.env = (false, eval (.Call (.Name "range" p2) [a] [] p) X.env) :: starEach [] X.env := by rfl) (hs2 : starEach [a] X.env = (false, eval a X.env) :: starEach [] X.env := by rfl) :
    EW X (.Call (.Name "tuple" pos) [.Call (.Name "range" p2) [a] [] p] [] pos2) ρ Q := fun σ H R E kk pins s I => by
  refine (pe_tupRg C.calm hg C.blt.tuple (prg_1 hg2 C.blt.range pe_W hs2) hs).run pins s σ H R I (h σ H _ E fun v H1 x ρ1 P V ⟨n, e, b1, b2, q⟩ => ?_)
  subst e
  obtain rfl := Rp.int_inv V
  exact ⟨n, rfl, ⟨by omega, by omega, by omega, by omega, by omega⟩, fun l z => kk _ _ _ _ (P.trans (Pex.new P.ok z)) (vdat (.tuple upd_same rp_rgV)) q⟩
theorem EW.lstRg {pos2 : Pos} (C : Ctx X k) (h : EW X a ρ fun x ρ1 => ∃ n : Int, x = .dat (.int n) ∧ n ≤ 1000000 ∧ -1000000 ≤ n ∧ Q (.frs (rngD 0 n.toNat)) ρ1) (hg : Gl X "list" := by rfl) (hg2 : Gl X "range" := by rfl) (hs : starEach [.Call (.Name "range" p2) [a] [] p] X.env = (false, eval (.Call (.Name "range" p2) [a] [] p) X.env) :: starEach [] X.env := by rfl) (hs2 : starEach [a] X.env = (false, eval a X.env) :: starEach [] X.env := by rfl) :
    EW X (.Call (.Name "list" pos) [.Call (.Name "range" p2) [a] [] p] [] pos2) ρ Q := fun σ H R E kk pins s I => by
  refine (pe_listRg C.calm hg C.blt.list (prg_1 hg2 C.blt.range pe_W hs2) hs).run pins s σ H R I (h σ H _ E fun v H1 x ρ1 P V ⟨n, e, b1, b2, q⟩ => ?_)
  subst e
  obtain rfl := Rp.int_inv V
  exact ⟨n, rfl, ⟨by omega, by omega, by omega, by omega, by omega⟩, fun l z => kk _ _ (.frs _) _ (P.trans (Pex.new P.ok z)) ⟨l, _, rfl, P.free z, upd_same, rp_rgV⟩ q⟩
end

/-! ### calls by name -/
def pick {α : Type} (perm : List Nat) (l : List α) : List α := perm.filterMap fun i => l[i]?
theorem pick_vals {vs : List V} {us : List Value} (r : Vals vs us) : ∀ perm : List Nat, Vals (pick perm vs) (pick perm us)
  | [] => .nil
  | i :: perm => by
    have t := pick_vals r perm
    unfold pick at t ⊢
    cases e : vs[i]? with
    | none =>
      have e2 := Vals.none_of r e
      simp only [List.filterMap_cons, e, e2]
      exact t
    | some v =>
      obtain ⟨u, e2, ru⟩ := Vals.get r e
      simp only [List.filterMap_cons, e, e2]
      exact .cons ru t
section
variable {K : PySem.W.Frag} {H : Hp} {ρ : Nv} {σ : L2.St}
theorem GsOk.pick {gs : List GV} {vs : List V} (G : GsOk K H ρ σ gs vs) : ∀ perm : List Nat, GsOk K H ρ σ (AW.pick perm gs) (AW.pick perm vs)
  | [] => .nil
  | i :: perm => by
    have t := GsOk.pick G perm
    unfold AW.pick at t ⊢
    cases e : gs[i]? with
    | none =>
      have e2 : vs[i]? = none := by
        rw [List.getElem?_eq_none_iff] at e ⊢
        rw [← G.length]; exact e
      simp only [List.filterMap_cons, e, e2]
      exact t
    | some v =>
      obtain ⟨u, e2, ru⟩ := G.get e
      simp only [List.filterMap_cons, e, e2]
      exact .cons ru t
theorem GsOk.append : ∀ {gs hs : List GV} {vs us : List V}, GsOk K H ρ σ gs vs → GsOk K H ρ σ hs us → GsOk K H ρ σ (gs ++ hs) (vs ++ us)
  | _, _, _, _, .nil, h => h
  | _, _, _, _, .cons g t, h => .cons g (GsOk.append t h)
theorem GsOk.step {H2 : Hp} {ρ2 : Nv} (E : NvOk K H σ ρ) (P : Pex K H ρ σ H2 ρ2) : ∀ {gs : List GV} {vs : List V}, GsOk K H ρ σ gs vs → GsOk K H2 ρ2 σ gs vs
  | _, _, .nil => .nil
  | _, _, .cons g t => .cons (g.step E P) (GsOk.step E P t)
end
def tKW (X : Cx) (kws : List Keyword) : TA := fun σ H Q => ∀ (pos : Pos) (pins : List (Addr × Obj)) (s : Shared), L2.Inv X pins σ H s → wpAny (model X.prog X.w) X.A (evalAll ((backToKw pos (keywordEach kws X.env)).map (·.2))) (AP X pins σ Q) X.xe s
theorem pk_W {X : Cx} {kws : List Keyword} : PK X kws (tKW X kws) := ⟨fun pos pins s σ H Q I h => h pos pins s I⟩
def EWks (X : Cx) (kws : List Keyword) (ρ : Nv) (Q : List GV → Nv → Prop) : Prop := ∀ (σ : L2.St) (H : Hp) (R : List V → Hp → Prop), NvOk X.K H σ ρ →
  (∀ vs H' gs ρ', Pex X.K H ρ σ H' ρ' → GsOk X.K H' ρ' σ gs vs → Q gs ρ' → R vs H') → tKW X kws σ H R
section
variable {X : Cx} {ρ : Nv} {kws : List Keyword} {e : Expr} {es : List Expr} {nm : Option Str} {kpos p pos : Pos} {k n : Nat} {x : Str} {ks : List Str} {perm : List Nat} {A : ASp} {Q : QE}
theorem EWks.nil {Q : List GV → Nv → Prop} (h : Q [] ρ) : EWks X [] ρ Q := fun σ H R E k pos pins s I =>
  pk_nil.run pos pins s σ H R I (k [] H [] ρ (Pex.refl E) .nil h)
theorem EWks.cons {Q : List GV → Nv → Prop} (h : EW X e ρ fun x ρ1 => ∃ g, asG x = some g ∧ EWks X kws ρ1 fun gs ρ2 => Q (g :: gs) ρ2) : EWks X (⟨nm, e, kpos⟩ :: kws) ρ Q := fun σ H R E k pos pins s I => by
  refine (pk_cons pe_W pk_W).run pos pins s σ H R I (EWg.run h E fun v H1 d ρ1 P1 V1 q => ?_)
  refine q σ H1 _ P1.ok fun vs H2 ds ρ2 P2 V2 q2 => ?_
  exact k _ _ _ _ (P1.trans P2) (.cons (V1.step P1.ok P2) V2) q2
/-- a def that may be called by name: n values first, then the names ks; perm: where each parameter stands among them -/
structure CalK (P : Program) (w : World) (K : PySem.W.Frag) (mg : Str → Option Value) (base : Heap) (k : Nat) (x : Str) (n : Nat) (ks : List Str) (perm : List Nat) (A : ASp) : Prop where
  ex : ∃ (f : Addr) (fd : FuncData) (ps : List Str), FnG P w K mg base CX0 k f fd ps (toSp K A) ∧ mg x = some (.ref f) ∧ PySem.W.keepIn K (.ref f) = true ∧
    ∀ (s : Shared) (us ws : List Value), K.In s.heap → us.length = n → ws.length = ks.length → BindsTo s fd ⟨us, ks.zip ws⟩ (ps.zip (pick perm (us ++ ws)))
theorem run_GK {f : Addr} {fd : FuncData} {ps : List Str} {sp : Sp} {E : XK} {pins : List (Addr × Obj)} {σ : L2.St} {H : Hp} {s : Shared} {R : VK} {us ws : List Value} {vs zs : List V} (F : FnG X.prog X.w X.K X.mg X.base CX0 k f fd ps sp) (C : Ctx X k)
    (hb : ∀ (s : Shared) (us ws : List Value), X.K.In s.heap → us.length = n → ws.length = ks.length → BindsTo s fd ⟨us, ks.zip ws⟩ (ps.zip (pick perm (us ++ ws))))
    (I : L2.Inv X pins σ H s) (r : Vals vs us) (rz : Vals zs ws) (l1 : vs.length = n) (l2 : zs.length = ks.length) (h : sp (pick perm (vs ++ zs)) H R E) : wpAny (model X.prog X.w) X.A (call (.ref f) us (ks.zip ws)) (EP X pins σ R) X.xe s :=
  wpAny_call (codeAny_mono (F.run _ _ s H ⟨us, ks.zip ws⟩ (pick perm (us ++ ws)) (pick perm (vs ++ zs)) R E C.grd C.room I.env0 (hb s us ws I.kIn (r.length.symm.trans l1) (rz.length.symm.trans l2)) (pick_vals (r.append rz) perm) h) fun r s' hq => cr_end pass0 I hq)
theorem callK_end {gs hs : List GV} {vs zs : List V} {H H1 H2 : Hp} {ρ1 ρ2 : Nv} {σ : L2.St} {R : VK} (P1 : Pex X.K H ρ σ H1 ρ1) (G1 : GsOk X.K H1 ρ1 σ gs vs) (P2 : Pex X.K H1 ρ1 σ H2 ρ2) (G2 : GsOk X.K H2 ρ2 σ hs zs) (kk : ∀ v H' x ρ', Pex X.K H ρ σ H' ρ' → VOk X.K H H' ρ' σ x v → Q x ρ' → R v H')
    (nd : (owns (pick perm (gs ++ hs))).Nodup) (q : A (svs ρ2 (pick perm (gs ++ hs))) fun y as' => Q y (bck ρ2 (pick perm (gs ++ hs)) as')) : toSp X.K A (pick perm (vs ++ zs)) H2 R E0 := by
  have G := (GsOk.append (G1.step P1.ok P2) G2).pick perm
  refine ⟨svs ρ2 (pick perm (gs ++ hs)), _, G.nv P2.ok nd, fun i s h o => svs_owns h o, q, fun y as' v H' q2 P3 V3 no => ?_⟩
  have P4 := G.pex P2.ok nd P3
  exact kk v H' y _ ((P1.trans P2).trans P4) (no.vok (fun a z => (P1.trans P2).free z) V3) q2
/-- f(k = v, ..) -/
theorem EW.callK0 (c : CalK X.prog X.w X.K X.mg X.base k x 0 ks perm A) (C : Ctx X k) (hg : Gl X x) (h : EWks X kws ρ fun gs ρ1 => gs.length = ks.length ∧ (owns (pick perm gs)).Nodup ∧ A (svs ρ1 (pick perm gs)) fun y as' => Q y (bck ρ1 (pick perm gs) as'))
    (hall : (backToKw pos (keywordEach kws X.env)).all (·.1.isSome) = true := by rfl) (hks : (backToKw pos (keywordEach kws X.env)).filterMap (·.1) = ks := by rfl) (hdb : (x == ("__debug__" : Str)) = false := by decide)
    (hpl : ((backTo pos (starEach [] X.env)).any (·.1) || (backToKw pos (keywordEach kws X.env)).any (·.1.isNone)) = false := by rfl) : EW X (.Call (.Name x p) [] kws pos) ρ Q := fun σ H R E kk pins s I => by
  obtain ⟨f, fd, ps, F, hm, hk, hb⟩ := c.ex
  refine wpAny_Call_Name_kw (ld_glob I hg hm ?_ hdb)
  refine PySem.W.callWith_KW0 (h₀ := X.base) I.ok.mod.kin hk hall ?_ hpl
  refine thn ((pk_W.run pos pins s σ H _ I (h σ H (fun zs H2 => zs.length = ks.length ∧ toSp X.K A (pick perm ([] ++ zs)) H2 R E0) E fun vs H1 gs ρ1 P1 G1 ⟨l, nd, q⟩ => ⟨by rw [← G1.length]; exact l, callK_end (gs := []) (vs := []) (Pex.refl E) .nil P1 G1 kk nd q⟩))) fun ws s2 ⟨zs, H2, I2, rz, l2, q2⟩ => ⟨I2.kIn, ?_⟩
  rw [hks]
  exact run_GK (us := []) F C hb I2 .nil rz rfl l2 q2
/-- f(e, .., k = v, ..) -/
theorem EW.callK (c : CalK X.prog X.w X.K X.mg X.base k x n ks perm A) (C : Ctx X k) (hg : Gl X x) (h : EWgs X (e :: es) ρ fun gs ρ1 => gs.length = n ∧ EWks X kws ρ1 fun hs ρ2 => hs.length = ks.length ∧ (owns (pick perm (gs ++ hs))).Nodup ∧ A (svs ρ2 (pick perm (gs ++ hs))) fun y as' => Q y (bck ρ2 (pick perm (gs ++ hs)) as'))
    (hall : (backToKw pos (keywordEach kws X.env)).all (·.1.isSome) = true := by rfl) (hks : (backToKw pos (keywordEach kws X.env)).filterMap (·.1) = ks := by rfl) (hdb : (x == ("__debug__" : Str)) = false := by decide) (he : starEach (e :: es) X.env = (false, eval e X.env) :: starEach es X.env := by rfl)
    (hpl : ((backTo pos (starEach (e :: es) X.env)).any (·.1) || (backToKw pos (keywordEach kws X.env)).any (·.1.isNone)) = false := by rfl) : EW X (.Call (.Name x p) (e :: es) kws pos) ρ Q := fun σ H R E kk pins s I => by
  obtain ⟨f, fd, ps, F, hm, hk, hb⟩ := c.ex
  refine wpAny_Call_Name_kw (ld_glob I hg hm ?_ hdb)
  refine PySem.W.callWith_KW (h₀ := X.base) I.ok.mod.kin hk hall ?_ hpl he
  refine thn (pa_W.run pos pins s σ H (fun vs H1 => vs.length = n ∧ tKW X kws σ H1 fun zs H2 => zs.length = ks.length ∧ toSp X.K A (pick perm (vs ++ zs)) H2 R E0) I (h σ H _ E fun vs H1 gs ρ1 P1 G1 ⟨l1, q1⟩ => ?_)) fun us s1 ⟨vs, H1, I1, r, l1, q⟩ => ?_
  · refine ⟨?_, ?_⟩
    · rw [← G1.length]; exact l1
    · exact q1 σ H1 _ P1.ok fun zs H2 hs ρ2 P2 G2 ⟨l2, nd, q⟩ => ⟨by rw [← G2.length]; exact l2, callK_end P1 G1 P2 G2 kk nd q⟩
  · refine thn (pk_W.run pos pins s1 σ H1 _ I1 q) fun ws s2 ⟨zs, H2, I2, rz, l2, q2⟩ => ⟨I2.kIn, ?_⟩
    rw [hks]
    exact run_GK F C hb I2 r rz l1 l2 q2
end
end AW

/-! AW13: a law's end: the promise of the law's def at the law's own call. -/
namespace AW
variable [HasT]
open PySem PySem.Spec PyProof.Rows L2
/-- the law's promise -/
def aLaw (n : Nat) : ASp := fun as R => ∃ ns : List Int, as = [.dat (.list (ns.map .int))] ∧ ns.length ≤ n ∧ R (.dat (.bool true)) as
section
variable {P : Program} {w : World} {K : PySem.W.Frag} {mg mb : Str → Option Value} {k n : Nat} {fa a : Addr} {fd : FuncData} {x : Str} {s1 : Shared} {vs : List Value} {ns : List Int} {cs : List (Addr × Addr)}
theorem rp_intsV {H : Hp} : ∀ ns : List Int, RpAll K H (ns.map .int) (ns.map V.int)
  | [] => .nil
  | i :: ns => .cons (.int i) (rp_intsV ns)
/-- what the call leaves behind -/
def Done (s1 : Shared) (r : Result) (s' : Shared) : Prop := r = .ok (.ret (.bool true)) ∧ OldK s1.heap s'.heap ∧ s'.os = s1.os ∧ AllBare s'.gens
/-- the tables that lambdas are entered into, as the top leaves them: with the code objects that hold them -/
structure TabsOf (K : PySem.W.Frag) (h : Heap) (cs : List (Addr × Addr)) : Prop where
  emp : ∀ p ∈ cs, h.get? p.2 = some { cls := .none, data := .fields #[] }
  out : ∀ p ∈ cs, K.lookup p.2 = none
  code : ∀ p ∈ cs, PySem.W.CodeHd h p.1 p.2
  all : ∀ p ∈ HasT.T, p.1 ∈ cs.map (·.2)
/-- the module of built-in things, under its name -/
def BMain (mg : Str → Option Value) (h : Heap) : Prop := ∃ (bm : Addr) (ob : Obj), mg "__builtins__" = some (.ref bm) ∧ bm ≠ builtinsNs ∧ h.get? bm = some ob ∧ ob.cls = .type "module" ∧ ob.dict = some builtinsNs ∧ ob.data = .plain
/-- from a heap in which at most the script and the tables are known -/
theorem law_at {H : Hp} {ob : Obj} (kin : K.In s1.heap) (hns : s1.heap.Ns mainGlobals mg) (hb : s1.heap.Ns builtinsNs mb) (hbb : ∀ y : Str, y ≠ "__name__" → mb y = bootBuiltins y) (hlim : s1.heap.NoLimit) (hgen : s1.gens = #[]) (BM : BMain mg s1.heap) (TB : TabsOf K s1.heap cs) (seq : ∃ (m : Array Value) (j : Nat), ob.data = .seq m j)
    (hob : s1.heap.get? a = some ob) (hH : ∀ b u, H b = some u → (b = a ∧ (∃ o xs, u = .frz o (.lst xs)) ∧ K.lookup a = none) ∨ (b ∈ cs.map (·.2) ∧ u = .tbl #[])) (hHT : ∀ p ∈ cs, H p.2 = some (.tbl #[])) (hok : HOk P w H s1.heap) (rp : Rp K H (.list (ns.map .int)) (.ref a)) (hl : ns.length ≤ n) (hr : Room k callerA)
    (F : ∀ base : Heap, K.In base → base.Ns mainGlobals mg → (∀ p ∈ cs, LamX.TabB base mg p.1 p.2) → FnG P w K mg base CX0 k fa fd [x] (toSp K (aLaw n))) (hbind : ∀ (s : Shared) (u : Value), BindsTo s fd ⟨[u], []⟩ [(x, u)]) :
    codeAny (model P w) callerA (.call (.ref fa) ⟨[.ref a], []⟩) (Done s1) s1 := by
  have free : ∀ {b : Addr} {o : Obj}, s1.heap.get? b = some o → (∀ m j, o.data ≠ .seq m j) → o.data ≠ .fields #[] → H b = none := fun {b o} e d d2 => by
    cases q : H b with
    | none => rfl
    | some u =>
      rcases hH b u q with ⟨rfl, _⟩ | ⟨hm, _⟩
      · obtain ⟨m, j, z⟩ := seq
        rw [hob] at e
        cases e
        exact (d m j z).elim
      · obtain ⟨p, hp, rfl⟩ := List.mem_map.mp hm
        rw [TB.emp p hp] at e
        cases e
        exact (d2 rfl).elim
  have keepNs : ∀ {b : Addr} {m : Str → Option Value}, s1.heap.Ns b m → (hidT s1.heap H).Ns b m := fun {b m} h => by
    obtain ⟨o, es, ep, e, d, r⟩ := h
    exact ⟨o, es, ep, hidT_get e (free e (fun m j z => by rw [d] at z; cases z) fun z => by rw [d] at z; cases z), d, r⟩
  have kin2 : K.In (hidT s1.heap H) := fun b o e => hidT_get (kin b o e) (by
    cases q : H b with
    | none => rfl
    | some u =>
      rcases hH b u q with ⟨rfl, _, z⟩ | ⟨hm, _⟩
      · rw [z] at e
        cases e
      · obtain ⟨p, hp, rfl⟩ := List.mem_map.mp hm
        rw [TB.out p hp] at e
        cases e)
  have tabs : ∀ p ∈ cs, LamX.TabB (hidT s1.heap H) mg p.1 p.2 := fun p hp => by
    have hT := TB.emp p hp
    have notG : mainGlobals ≠ p.2 := fun z => by
      obtain ⟨o, es, ep, e, hd, _⟩ := hns
      rw [z, hT] at e
      cases e
      cases hd
    refine ⟨?_, ?_, notG⟩
    · obtain ⟨o, us, f1, t1, g1, t2, b1, n1, t3, e1, r1, r2, r3, r⟩ := TB.code p hp
      exact ⟨o, us, f1, t1, g1, t2, b1, n1, t3, hidT_get e1 (free e1 (fun m j z => by rw [r2] at z; cases z) fun z => by rw [r2] at z; cases z; simp at r3), r1, r2, r3, r⟩
    · obtain ⟨bm, o, z1, z2, z3, z4, z5, z6⟩ := BM
      refine ⟨bm, o, z1, z2, fun z => ?_, fun z => ?_, hidT_get z3 (free z3 (fun m j y => by rw [z6] at y; cases y) fun y => by rw [z6] at y; cases y), z4, z5, z6⟩
      · obtain ⟨o', es, ep, e, hd, _⟩ := hns
        rw [z, e] at z3
        cases z3
        rw [hd] at z6
        cases z6
      · rw [z, hT] at z3
        cases z3
        cases z6
  have M : Mod K mg (hidT s1.heap H) := ⟨kin2, keepNs hns, ⟨mb, keepNs hb, hbb⟩, by obtain ⟨mc, z1, z2⟩ := hlim; exact ⟨mc, keepNs z1, z2⟩⟩
  have E0' : Env0 P w K mg (hidT s1.heap H) callerA [] s1 H := ⟨rfl, M, fun b o e => of_hidT e, by rw [hidT_size]; exact Nat.le_refl _, trivial, fun b z => absurd (show b ∈ ([] : List Addr) from z) List.not_mem_nil, hok, .of_eq hgen⟩
  have tb0 : LamX.Tabs HasT.T H := fun p hp => by
    obtain ⟨q, hq, e⟩ := List.mem_map.mp (TB.all p hp)
    exact .nil (by rw [← e]; exact hHT q hq)
  have sp : toSp K (aLaw n) [.ref a] H (fun v _ => v = .bl true) E0 := by
    refine ⟨[.dat (.list (ns.map .int))], fun y _ => y = .dat (.bool true), ⟨by simp, fun i s h => ?_, fun i j b s1 s2 hne h1 h2 o1 o2 => ?_, tb0⟩, fun i s h o => ?_, ⟨ns, rfl, hl, rfl⟩, fun y as' v H' q _ V _ => ?_⟩
    · cases i with
      | zero =>
        simp only [List.getElem?_cons_zero, Option.some.injEq] at h
        subst h
        exact ⟨_, rfl, _, rfl, rp⟩
      | succ i => simp at h
    · cases i with
      | zero => simp at h1; subst h1; exact o1.elim
      | succ i => simp at h1
    · cases i with
      | zero => simp at h; subst h; exact o.elim
      | succ i => simp at h
    · subst q
      exact Rp.bool_inv V
  refine codeAny_mono ((F _ kin2 (keepNs hns) tabs).run callerA [] s1 H ⟨[.ref a], []⟩ [.ref a] [.ref a] _ E0 rfl hr E0' (hbind s1 (.ref a)) (.cons rfl .nil) sp) fun r s' h => ?_
  match r, h with
  | .error e, h => exact h.elim
  | .ok .next, h => exact False.elim h
  | .ok .brk, h => exact False.elim h
  | .ok .cont, h => exact False.elim h
  | .ok (.ret u), ⟨v, H', os, bare, un, hok', ru, (q : v = .bl true)⟩ =>
    subst q
    obtain rfl : u = Value.bool true := ru
    have kept : ∀ b o, b ∉ cs.map (·.2) → s1.heap.get? b = some o → s'.heap.get? b = some o := fun b o nb e => by
      cases z : H b with
      | none => exact un.keep b o e z (fun y => absurd (show b ∈ ([] : List Addr) from y) List.not_mem_nil) (by simp)
      | some u =>
        rcases hH b u z with ⟨rfl, ⟨ob', xs, rfl⟩, _⟩ | ⟨hm, _⟩
        · obtain ⟨e1, _⟩ := hok b _ z
          obtain ⟨e2, _⟩ := hok' b _ (un.frzs b ob' _ z)
          rw [e] at e1
          cases e1
          exact e2
        · exact (nb hm).elim
    have more : ∀ p ∈ cs, ∃ m : Array Value, s'.heap.get? p.2 = some { cls := .none, data := .fields m } := fun p hp => by
      obtain ⟨m, z⟩ := un.tbls p.2 #[] (hHT p hp)
      exact ⟨_, hok' p.2 _ z⟩
    refine ⟨rfl, ⟨fun b o e => ?_, fun b o e => ?_⟩, os, bare⟩
    · by_cases hb : b ∈ cs.map (·.2)
      · obtain ⟨p, hp, rfl⟩ := List.mem_map.mp hb
        obtain ⟨m, hm⟩ := more p hp
        rw [TB.emp p hp] at e
        cases e
        exact .inr (.inl ⟨((TB.code p hp).tab (TB.emp p hp)).isCodeTable, rfl, #[], m, rfl, by rw [Array.empty_append]; exact hm⟩)
      · exact .inl (kept b o hb e)
    · by_cases hb : b ∈ cs.map (·.2)
      · obtain ⟨p, hp, rfl⟩ := List.mem_map.mp hb
        obtain ⟨m, hm⟩ := more p hp
        exact ⟨_, hm⟩
      · exact ⟨o, kept b o hb e⟩
theorem law_any (kin : K.In s1.heap) (hns : s1.heap.Ns mainGlobals mg) (hb : s1.heap.Ns builtinsNs mb) (hbb : ∀ y : Str, y ≠ "__name__" → mb y = bootBuiltins y) (hlim : s1.heap.NoLimit) (hgen : s1.gens = #[]) (BM : BMain mg s1.heap) (TB : TabsOf K s1.heap cs) (hob : s1.heap.get? a = some { cls := .type "list", data := .seq vs.toArray }) (hi : IntsAre vs ns)
    (hl : ns.length ≤ n) (hn : n ≤ sizeLine) (hr : Room k callerA) (F : ∀ base : Heap, K.In base → base.Ns mainGlobals mg → (∀ p ∈ cs, LamX.TabB base mg p.1 p.2) → FnG P w K mg base CX0 k fa fd [x] (toSp K (aLaw n))) (hbind : ∀ (s : Shared) (u : Value), BindsTo s fd ⟨[u], []⟩ [(x, u)]) :
    codeAny (model P w) callerA (.call (.ref fa) ⟨[.ref a], []⟩) (Done s1) s1 := by
  have rv := vals_ints hi
  have z1 : (ns.map V.int).length ≤ sizeLine := by rw [List.length_map]; exact Nat.le_trans hl hn
  have isT : ∀ b ∈ cs.map (·.2), s1.heap.get? b = some { cls := .none, data := .fields #[] } := fun b hm => by
    obtain ⟨p, hp, rfl⟩ := List.mem_map.mp hm
    exact TB.emp p hp
  have aT : a ∉ cs.map (·.2) := fun z => by
    have q := isT a z
    rw [hob] at q
    injection q with q
    injection q with _ _ q
    cases q
  cases hka : K.lookup a with
  | some o =>
    have e := kin a o hka
    rw [hob] at e
    cases e
    have at_ : ∀ {b : Addr} {u : HO}, (if b ∈ cs.map (·.2) then some (HO.tbl #[]) else none) = some u → b ∈ cs.map (·.2) ∧ u = .tbl #[] := by
      intro b u z
      split at z
      · cases z; exact ⟨‹_›, rfl⟩
      · cases z
    refine law_at (H := fun b => if b ∈ cs.map (·.2) then some (.tbl #[]) else none) kin hns hb hbb hlim hgen BM TB ⟨_, _, rfl⟩ hob (fun b u z => .inr (at_ z)) (fun p hp => if_pos (List.mem_map.mpr ⟨p, hp, rfl⟩)) (fun b u z => ?_) (.list (.inr ⟨vs, _, hka, z1, rv⟩) (rp_intsV ns)) hl hr F hbind
    obtain ⟨hm, rfl⟩ := at_ z
    exact isT b hm
  | none =>
    have at_ : ∀ {b : Addr} {u : HO}, (if b = a then some (HO.frz { cls := .type "list", data := .seq vs.toArray } (.lst (ns.map V.int))) else if b ∈ cs.map (·.2) then some (.tbl #[]) else none) = some u →
        (b = a ∧ u = .frz { cls := .type "list", data := .seq vs.toArray } (.lst (ns.map V.int))) ∨ (b ∈ cs.map (·.2) ∧ u = .tbl #[]) := by
      intro b u z
      split at z
      · cases z; exact .inl ⟨‹_›, rfl⟩
      · split at z
        · cases z; exact .inr ⟨‹_›, rfl⟩
        · cases z
    refine law_at (H := fun b => if b = a then some (.frz { cls := .type "list", data := .seq vs.toArray } (.lst (ns.map V.int))) else if b ∈ cs.map (·.2) then some (.tbl #[]) else none) kin hns hb hbb hlim hgen BM TB ⟨_, _, rfl⟩ hob (fun b u z => ?_) (fun p hp => ?_) (fun b u z => ?_) (.list (.inl ⟨_, if_pos rfl⟩) (rp_intsV ns)) hl hr F hbind
    · rcases at_ z with ⟨e, rfl⟩ | e
      · exact .inl ⟨e, ⟨_, _, rfl⟩, hka⟩
      · exact .inr e
    · have hm : p.2 ∈ cs.map (·.2) := List.mem_map.mpr ⟨p, hp, rfl⟩
      have hne : p.2 ≠ a := fun z => aT (z ▸ hm)
      exact (if_neg hne).trans (if_pos hm)
    · rcases at_ z with ⟨rfl, rfl⟩ | ⟨hm, rfl⟩
      · exact ⟨hob, z1, vs, _, rv, hob⟩
      · exact isT b hm
end
/-- what the law's head asks, of the promise of the law's def -/
theorem law_end {l : PySem.W.OpenLaw} {n k : Nat} {q : Program} {loose : List Str} {XP : (Str → Option Value) → Heap → Prop} {YP : World → Heap → Prop} {d : DefRec} {K : Params → PySem.W.Frag} {x : Str} (cs : List (Addr × Addr)) (most : l.most = some n) (small : n ≤ sizeLine) (nodef : d.params.defaults = []) (hr : Room k callerA)
    (frag : ∀ (w : World) (h : Heap), YP w h → (K w.params).In h) (tabT : ∀ p ∈ HasT.T, p.1 ∈ cs.map (·.2)) (noT : ∀ w : World, PySem.W.noTabs (K w.params) = true)
    (tab : ∀ (w : World) (h : Heap) (mean : ExcName → Option Value) (mg mb : Str → Option Value), (K w.params).In h → Top q (PySem.W.looseW q loose) mean mg mb h → ∀ p ∈ cs, PySem.W.CodeHd h p.1 p.2 ∧ h.get? p.2 = some (PySem.W.tabObj #[]))
    (F : ∀ (w : World) (mg : Str → Option Value) (fa : Addr) (h : Heap), (K w.params).In h → h.Ns mainGlobals mg → mg d.name = some (.ref fa) → ∃ fd : FuncData, (∀ (s : Shared) (u : Value), BindsTo s fd ⟨[u], []⟩ [(x, u)]) ∧
      ∀ base : Heap, (K w.params).In base → base.Ns mainGlobals mg → (∀ p ∈ cs, LamX.TabB base mg p.1 p.2) → FnG l.prog w (K w.params) mg base CX0 k fa fd [x] (toSp (K w.params) (aLaw n))) :
    PySem.W.WalkO q loose XP YP l.row.toRowW d [] (fun f vs => PySem.call f vs) :=
  Att.attach_call most nodef fun w _ s1 mg mb fa _ _ _ _ a vs ns G Y _ _ _ named script hints len nogen => by
    obtain ⟨fd, hb, hF⟩ := F w mg fa _ (frag w _ Y) G.T.g named
    have kin := frag w _ Y
    have tt := tab w _ _ _ _ kin G.T
    have TB : TabsOf (K w.params) s1.heap cs := ⟨fun p hp => (tt p hp).2, fun p hp => by
      cases e : (K w.params).lookup p.2 with
      | none => rfl
      | some o =>
        have e2 := kin _ _ e
        rw [(tt p hp).2] at e2
        have h2 := List.all_eq_true.mp (noT w) (p.2, o) (PySem.W.mem_of_lookupK e)
        cases e2
        exact absurd (show false = true from h2) Bool.false_ne_true, fun p hp => (tt p hp).1, tabT⟩
    exact law_any kin G.T.g G.T.b G.T.builtins G.T.nolimit nogen G.T.bmain TB script hints len small hr hF hb
end AW

/-! AW14: small helps for walks. -/
namespace AW
variable [HasT]
open PySem PySem.Spec PyProof.Rows L2
theorem ite_b {b : Bool} {A B : Prop} (h1 : b = true → A) (h2 : b = false → B) : if b = true then A else B := by
  cases b
  · exact (if_neg Bool.false_ne_true).symm ▸ h2 rfl
  · exact (if_pos rfl).symm ▸ h1 rfl
theorem ite_dec {p : Prop} [Decidable p] {A B : Prop} (h1 : p → A) (h2 : ¬ p → B) : if decide p = true then A else B :=
  ite_b (fun h => h1 (of_decide_eq_true h)) fun h => h2 (of_decide_eq_false h)
theorem Cal.mono {P : Program} {w : World} {K : PySem.W.Frag} {mg : Str → Option Value} {base : Heap} {j k : Nat} {x : Str} {A : ASp} (c : Cal P w K mg base j x A) (h : j ≤ k) : Cal P w K mg base k x A := by
  obtain ⟨f, fd, ps, F, r⟩ := c.ex
  exact ⟨f, fd, ps, F.mono h, r⟩
theorem CalK.mono {P : Program} {w : World} {K : PySem.W.Frag} {mg : Str → Option Value} {base : Heap} {j k n : Nat} {x : Str} {ks : List Str} {perm : List Nat} {A : ASp} (c : CalK P w K mg base j x n ks perm A) (h : j ≤ k) : CalK P w K mg base k x n ks perm A := by
  obtain ⟨f, fd, ps, F, r⟩ := c.ex
  exact ⟨f, fd, ps, F.mono h, r⟩
/-- sizes -/
theorem log2_lt {n k : Nat} (h : n < 2 ^ k) (hk : 0 < k) : n.log2 < k := by
  by_cases e : n = 0
  · subst e; simpa using hk
  · exact (Nat.log2_lt e).mpr h
theorem natAbs_lt {i : Int} {k : Nat} (h0 : -(2 ^ k : Nat) < i) (h1 : i < (2 ^ k : Nat)) : i.natAbs < 2 ^ k := by omega
theorem CDivA.small {i j : Int} (h : 0 < j) (h1 : j < 1073741824) : CDivA i j := .inl ⟨h, h1⟩
theorem CDivA.big {i j : Int} (k : Nat) (h : 0 < j) (h1 : j < (2 ^ k : Nat)) (hk : k ≤ 9000) (h0 : 0 < k) : CDivA i j :=
  .inr ⟨h, Nat.lt_of_lt_of_le (log2_lt (natAbs_lt (by have : (0 : Int) ≤ ((2 ^ k : Nat) : Int) := Int.natCast_nonneg _; omega) h1) h0) hk⟩
theorem CMulA.l {i j : Int} (h : -(2 ^ 64) < i) (h1 : i < 2 ^ 64) : CMulA i j := .inl (.inl ⟨h, h1⟩)
theorem CMulA.r {i j : Int} (h : -(2 ^ 64) < j) (h1 : j < 2 ^ 64) : CMulA i j := .inl (.inr ⟨h, h1⟩)
/-- the generator's state, b numbers at most were drawn by counting -/
def Urn (b : Nat) (ds : List PyData) : Prop := ∃ g m c : Int, ds = [.int g, .int m, .int c] ∧ 0 ≤ g ∧ 0 ≤ m ∧ m < 2305843009213693951 ∧ 0 ≤ c ∧ c ≤ b
theorem Urn.mono {a b : Nat} {ds : List PyData} (h : Urn a ds) (l : a ≤ b) : Urn b ds := by
  obtain ⟨g, m, c, e, h1, h2, h3, h4, h5⟩ := h
  exact ⟨g, m, c, e, h1, h2, h3, h4, by omega⟩
theorem powOk {i j : Int} (k : Nat) (h0 : 0 ≤ j) (h : i.natAbs < 2 ^ k) (hb : (k : Int) * j ≤ 2 ^ 27) (hk : 0 < k) : CPowA i j := by
  refine ⟨h0, Int.le_trans (Int.mul_le_mul_of_nonneg_right ?_ h0) hb⟩
  unfold Builtin.Int.intBits
  split
  · omega
  · have := log2_lt h hk
    omega
end AW

/-! AW15: small data: may be compared, may be shown. -/
namespace AW
variable [HasT]
open PySem PySem.Spec PyProof.Rows L2 PySem.StrLaws
structure Sml (n m : Nat) (d : PyData) : Prop where
  lay : d.canLay0 = true
  sh : d.showable = true
  lv : d.leavesShort 301 = true
  bk : d.bulk ≤ n
  dp : d.depth ≤ m
structure SmlAll (n m : Nat) (ds : List PyData) : Prop where
  lay : PyData.canLayAll0 ds = true
  sh : PyData.showableAll ds = true
  lv : PyData.leavesShortAll 301 ds = true
  bk : PyData.bulkAll ds ≤ n
  dp : PyData.depthAll ds ≤ m
theorem Sml.mono {n m n' m' : Nat} {d : PyData} (h : Sml n m d) (hn : n ≤ n') (hm : m ≤ m') : Sml n' m' d := ⟨h.lay, h.sh, h.lv, Nat.le_trans h.bk hn, Nat.le_trans h.dp hm⟩
theorem SmlAll.mono {n m n' m' : Nat} {ds : List PyData} (h : SmlAll n m ds) (hn : n ≤ n') (hm : m ≤ m') : SmlAll n' m' ds := ⟨h.lay, h.sh, h.lv, Nat.le_trans h.bk hn, Nat.le_trans h.dp hm⟩
theorem Sml.none : Sml 0 0 .none := ⟨rfl, rfl, rfl, Nat.le_refl _, Nat.le_refl _⟩
theorem Sml.bool (b : Bool) : Sml 0 0 (.bool b) := ⟨rfl, rfl, rfl, Nat.le_refl _, Nat.le_refl _⟩
def Nm (i : Int) : Prop := i.natAbs < 10 ^ 250
theorem Sml.int {i : Int} (h : Nm i) : Sml 0 0 (.int i) := by
  refine ⟨rfl, ?_, ?_, Nat.le_refl _, Nat.le_refl _⟩
  · have h2 : i.natAbs.log2 < 1000 := log2_lt (Nat.lt_of_lt_of_le h (by decide +kernel)) (by decide)
    simp only [PyData.showable, decide_eq_true_eq]
    omega
  · have e := int_text_length_le10 (k := 250) (by decide) h
    simp only [PyData.leavesShort, decide_eq_true_eq]
    show (Str.ofString (toString i)).length ≤ 301
    rw [PySem.ofString_length]
    omega
theorem Sml.str {x : Str} (h : x.cps.toList.all (fun c => decide (c < 1114112)) = true) : Sml x.length 0 (.str x) := by
  have h' : ∀ c ∈ x.cps.toList, c < 1114112 := fun c hc => by simpa using List.all_eq_true.mp h c hc
  refine ⟨?_, rfl, ?_, Nat.le_refl _, Nat.le_refl _⟩
  · simp only [PyData.canLay0, PyData.strOk]
    rw [Array.all_eq_true_iff_forall_mem]
    intro c hc
    have := h' c (by simpa using hc)
    simpa using this
  · simp only [PyData.leavesShort, List.all_eq_true, decide_eq_true_eq]
    intro c hc
    have := h' c hc
    have e : (16 : Nat) ^ 8 = 4294967296 := by decide
    omega
theorem SmlAll.nil : SmlAll 0 0 [] := ⟨rfl, rfl, rfl, Nat.le_refl _, Nat.le_refl _⟩
theorem SmlAll.cons {n m n' m' : Nat} {d : PyData} {ds : List PyData} (h : Sml n m d) (t : SmlAll n' m' ds) : SmlAll (n + 1 + n') (max m m') (d :: ds) := by
  refine ⟨?_, ?_, ?_, ?_, ?_⟩
  · simp only [PyData.canLayAll0, h.lay, t.lay, Bool.and_self]
  · simp only [PyData.showableAll, h.sh, t.sh, Bool.and_self]
  · simp only [PyData.leavesShortAll, h.lv, t.lv, Bool.and_self]
  · have := h.bk; have := t.bk; simp only [PyData.bulkAll]; omega
  · have := h.dp; have := t.dp; simp only [PyData.depthAll]; omega
theorem SmlAll.all {n m : Nat} : ∀ {ds : List PyData}, (∀ d ∈ ds, Sml n m d) → SmlAll (ds.length * (n + 1)) m ds
  | [], _ => SmlAll.nil.mono (Nat.zero_le _) (Nat.zero_le _)
  | d :: ds, h => by
    refine (SmlAll.cons (h d List.mem_cons_self) (SmlAll.all fun e he => h e (List.mem_cons_of_mem _ he))).mono ?_ (by omega)
    rw [List.length_cons, Nat.add_mul]
    omega
theorem Sml.list {n m : Nat} {ds : List PyData} (h : SmlAll n m ds) : Sml n (m + 1) (.list ds) := by
  refine ⟨?_, ?_, ?_, ?_, ?_⟩
  · simpa only [PyData.canLay0] using h.lay
  · simpa only [PyData.showable] using h.sh
  · simpa only [PyData.leavesShort] using h.lv
  · simpa only [PyData.bulk] using h.bk
  · have := h.dp; simp only [PyData.depth]; omega
theorem Sml.tuple {n m : Nat} {ds : List PyData} (h : SmlAll n m ds) : Sml n (m + 1) (.tuple ds) := by
  refine ⟨?_, ?_, ?_, ?_, ?_⟩
  · simpa only [PyData.canLay0] using h.lay
  · simpa only [PyData.showable] using h.sh
  · simpa only [PyData.leavesShort] using h.lv
  · simpa only [PyData.bulk] using h.bk
  · have := h.dp; simp only [PyData.depth]; omega
theorem Sml.shaped {n m : Nat} {d : PyData} (h : Sml n m d) (hm : m ≤ 64) : SeqAt.shaped d = true := by
  unfold SeqAt.shaped
  have := h.dp
  rw [h.lay, Bool.true_and, decide_eq_true_eq]
  omega
theorem Sml.shw {n m : Nat} {d : PyData} (h : Sml n m d) (hm : m ≤ 64) (hn : n ≤ 50000) : Shw d := by
  refine ⟨PyData.hasDict_of_canLay d h.lay, h.sh, ?_, Nat.le_trans h.dp hm⟩
  have e := PyData.shown_le_bulk 301 (by decide) d h.lv
  have b := h.bk
  have : (sizeLine : Nat) = 16777216 := sizeLine_eq
  have : (301 + 2) * d.bulk ≤ 303 * 50000 := Nat.mul_le_mul_left _ (Nat.le_trans b hn)
  omega
theorem Nm.of {i : Int} (k : Nat) (h0 : -(10 ^ k : Nat) < i) (h1 : i < (10 ^ k : Nat)) (hk : k ≤ 250) : Nm i := by
  have h2 : i.natAbs < 10 ^ k := by omega
  exact Nat.lt_of_lt_of_le h2 (Nat.pow_le_pow_right (by decide) hk)
/-- lists of ints, of places -/
theorem smlInts {ns : List Int} (h : ∀ n ∈ ns, Nm n) : SmlAll ns.length 0 (ns.map .int) :=
  (SmlAll.all (n := 0) (m := 0) (ds := ns.map .int) fun d hd => by
    obtain ⟨n, hn, rfl⟩ := List.mem_map.mp hd
    exact .int (h n hn)).mono (by simp) (Nat.le_refl _)
theorem eqv_self {n m : Nat} {d : PyData} (h : Sml n m d) : PyData.eqv d d = true := SeqAt.eqv_refl d h.lay
/-- a slot that holds no list of ours -/
def nH : SV → Bool
  | .hol _ _ => false
  | .dic _ => false
  | _ => true
theorem pin_nH {ρ : Nv} {i : Nat} {s : SV} (h : ρ[i]? = some s) (n : nH s = true) : pinB ρ i = false := by
  unfold pinB
  rw [h]
  cases s with
  | hol p ds => simp [nH] at n
  | dic ds => simp [nH] at n
  | un => rfl
  | dat d => rfl
end AW

/-! AW16: sorted with the key (length, itself). -/
namespace AW
variable [HasT]
open PySem PySem.Spec PyProof.Rows L2
/-- the key's text -/
abbrev keyE (x : Str) (p1 p2 p3 p4 p5 : Pos) (j : Nat) : Expr := .Tuple [.Call (.Name "len" p1) [.Name x p2] [] p3, .Name x p4] j p5
section
variable {P : Program} {w : World} {A : Around} {s : Shared} {f c' : Addr} {x q : Str} {params : Arguments} {scope : Scope} {pm ctv v : Value} {p1 p2 p3 p4 p5 : Pos} {j : Nat} {mg mb : Str → Option Value} {items : Array Value} {t : Addr} {d : PyData}
/-- one call of the key, on the bare heap -/
theorem key_call (hd : A.depth < recursionLimit) (hf : s.heap.get? f = some (PySem.W.kla_obj "<lambda>" q params (keyE x p1 p2 p3 p4 p5 j) scope [] pm c' ctv))
    (hc : ∃ (oc : Obj) (vs : Array Value) (tk : Tok), s.heap.get? c' = some oc ∧ oc.data = .fields vs ∧ vs[1]? = some (.str q tk)) (hb : bindArgs (PySem.W.kla_fn "<lambda>" q params (keyE x p1 p2 p3 p4 p5 j) scope [] pm (.ref c') ctv) ⟨[.ref t], []⟩ = pure [(x, .ref t)])
    (hk : scope.kind = .function) (hco : scope.isCoroutine = false) (hge : scope.isGenerator = false) (hcell : ∀ y ∈ scope.names, y.2 ≠ .cell) (hx : scope.names.lookup x = some .local) (hlen : scope.names.lookup ("len" : Str) = some .globalImplicit)
    (hG : s.heap.Ns mainGlobals mg) (hm : mg "len" = none) (hB : s.heap.Ns builtinsNs mb) (hbb : ∀ y : Str, y ≠ "__name__" → mb y = bootBuiltins y) (nl : s.heap.NoLimit) (ht : IsTup s.heap t items) (hz : items.size ≤ sizeLine) (rd : Reads s.heap (.ref t) d []) (hxd : (x == ("__debug__" : Str)) = false := by decide) :
    wpAny (model P w) A (call (.ref f) [.ref t]) (PySem.W.KeyPure (.tuple [.int items.size, d]) s) (fun _ _ => False) s := by
  obtain ⟨oc, vs, tk, hoc, hdc, hvc⟩ := hc
  have sl : (sizeLine : Nat) = 16777216 := sizeLine_eq
  refine wpAny_call (PySem.W.kla_callFunE hd hf rfl hco hge rfl ⟨c', oc, vs, tk, rfl, hoc, hdc, hvc⟩ ?_)
  rw [hb]
  refine wpAny_pure (wpAny_newFunctionEnv hcell (fun y hy => by obtain rfl := List.mem_singleton.mp hy; exact hx) (fun h₁ hns hsb => ⟨nl.fresh _ hsb, ?_⟩) hk)
  have kp : ∀ b o, s.heap.get? b = some o → h₁.get? b = some o := fun b o e => hsb.extBut b o (Nat.ne_of_lt (Heap.lt_size e)) (Heap.get?_push_of_some _ e)
  refine PySem.W.kla_codeExpr ?_
  have nm : ∀ {E : Value → Shared → Prop} {Q : Value → Shared → Prop} {s' : Shared} {p : Pos}, (∀ b o, h₁.get? b = some o → s'.heap.get? b = some o) → Q (.ref t) s' → wpAny (model P w) (A.deeper (PySem.W.envX q scope s.heap.objs.size f (.ref c') [])) (eval (.Name x p) (PySem.W.envX q scope s.heap.objs.size f (.ref c') [])) Q E s' := fun k h =>
    wpAny_Name (wpAny_loadName_local hk hx (hns.keeps k) (by simp [List.lookup]) h) hxd
  refine wpAny_Tuple ?_
  refine args_cons ?_
  refine wpAny_Call_Name_kw (Calls.Name_function_global hk hlen (Calls.loadGlobal_builtin (hG.keeps kp) hm (hB.keeps kp) ((hbb "len" (by decide)).trans boot_len) ?_) (by decide))
  refine PyProof.Rows.callWith_builtin1 (args_cons (nm (fun _ _ z => z) (args_nil ?_))) rfl rfl
  refine PyProof.Rows.len_tuple (ht.keeps kp) (by omega) ?_
  refine args_cons (nm (fun _ _ z => z) (args_nil ?_))
  refine ⟨by rw [sl]; show (2 : Nat) ≤ 16777216; decide, ?_⟩
  refine ⟨_, _, rfl, fun b o e => Heap.get?_push_of_some _ (kp b o e), ?_⟩
  exact .tuple (Heap.get?_push_size _ rfl) rfl rfl (.cons (.int _ _) (.cons (PyProof.Rows.Reads.keeps (fun b o e => Heap.get?_push_of_some _ (kp b o e)) rd) .nil))
end
end AW

/-! AW17: a lambda is made, its code object entered in its maker's table. -/
namespace AW
variable [HasT]
open PySem PySem.Spec PyProof.Rows L2
/-- nothing new is known, or one code object more and the table that holds it -/
def Grw (H : Hp) (P : Addr) (q : Str) (H' : Hp) : Prop := H' = H ∨ ∃ (ps : Array Value) (c : Addr), H c = none ∧ c ≠ P ∧ H' = upd (upd H P (.tbl ps)) c (LamX.CodeO c q)
section
variable {X : Cx} {pins : List (Addr × Obj)} {σ : L2.St} {H : Hp} {s : Shared}
theorem lam_new {c P : Addr} {params : Arguments} {body : Expr} {scope : Scope} {lp : Pos} {E Q : Value → Shared → Prop} (I : L2.Inv X pins σ H s) (TB : LamX.TabB X.base X.mg c P) (at_c : X.env.code = .ref c) (T : LamX.TabS H P (X.env.qual ++ "<lambda>")) (nodef : defaultsOf params X.env = ([], []))
    (caps : ∀ y ∈ scope.names, y.2 = .free → ∃ c, X.env.cells.lookup y.1 = some c)
    (h : ∀ (f c' : Addr) (pm ctv : Value) (H1 : Hp) (s' : Shared), L2.Inv X pins σ H1 s' → Grw H P (X.env.qual ++ "<lambda>") H1 → LamX.TabS H1 P (X.env.qual ++ "<lambda>") →
      s'.heap.get? f = some (PySem.W.kla_obj "<lambda>" (X.env.qual ++ "<lambda>") params body scope (cloFrom X.env.cells scope.names []) pm c' ctv) → H1 c' = some (LamX.CodeO c' (X.env.qual ++ "<lambda>")) → Q (.ref f) s') :
    wpAny (model X.prog X.w) X.A (eval (.Lambda params body scope lp) X.env) Q E s := by
  obtain ⟨ps, hP, trip, known⟩ := T
  have obP : s.heap.get? P = some { cls := .none, data := .fields ps } := I.hok P _ hP
  have bmP := TB.bm.keeps I.bk
  have gl := I.mod.glob.keeps I.bk
  refine PySem.W.kla_eval nodef ?_
  cases found : codeAmong lp ps.toList with
  | some cv =>
    obtain ⟨c', rfl, hco⟩ := known lp cv found
    refine PySem.W.kla_makeFunctionHit (mg := X.mg) (c := c) (P := P) (ps := ps) (closure_ok caps) I.ok.glob gl at_c (TB.code.keeps I.bk) obP trip found bmP fun ctv g tk up _ => ?_
    refine h g.objs.size c' ((X.mg "__name__").getD .none) ctv H _ (I.kept fun b o e => Heap.get?_push_of_some _ (up b o e)) (.inl rfl) ⟨ps, hP, trip, known⟩ (Heap.get?_push_size _ rfl) hco
  | none =>
    refine PySem.W.kla_makeFunction (mg := X.mg) (c := c) (P := P) (ps := ps) (closure_ok caps) I.ok.glob gl at_c (TB.code.keeps I.bk) obP trip found TB.gP bmP fun c' ctv g tk up ge lt rec tab => ?_
    obtain ⟨c2, oc, vs, t, e2, hoc, hd, hv⟩ := rec
    cases e2
    have free : H c' = none := I.hok.fresh ge
    have ne : P ≠ c' := ne_of_none hP free
    have J := LamX.inv_table (t' := tk) (more := #[rawInt lp.line, rawInt lp.col, .ref c']) (h' := g.push (PySem.W.kla_obj "<lambda>" (X.env.qual ++ "<lambda>") params body scope (cloFrom X.env.cells scope.names []) ((X.mg "__name__").getD .none) c' ctv)) I hP
      (fun b o hb e => Heap.get?_push_of_some _ (up b o hb e)) (Heap.get?_push_of_some _ tab) ge ⟨oc, vs, t, Heap.get?_push_of_some _ hoc, hd, hv⟩
    have eL : (ps ++ #[rawInt lp.line, rawInt lp.col, .ref c']).toList = ps.toList ++ [rawInt lp.line, rawInt lp.col, .ref c'] := by simp
    refine h g.objs.size c' ((X.mg "__name__").getD .none) ctv _ _ J (.inr ⟨_, c', free, fun z => ne z.symm, rfl⟩) ⟨_, by rw [upd_ne ne, upd_same], by rw [eL]; exact PySem.TriplesOk_snoc _ _ _ _ trip, fun pos cv hcv => ?_⟩ (Heap.get?_push_size _ rfl) upd_same
    rw [eL] at hcv
    rcases LamX.among_app _ trip hcv with z | z
    · obtain ⟨c0, e1, e2⟩ := known pos cv z
      refine ⟨c0, e1, ?_⟩
      rw [upd_ne (ne_of_none e2 free), upd_ne (fun y => by rw [y, hP] at e2; unfold LamX.CodeO at e2; cases e2)]
      exact e2
    · exact ⟨c', z, upd_same⟩
theorem Grw.kp {P : Addr} {q : Str} {H' : Hp} {ps0 : Array Value} (g : Grw H P q H') (hP : H P = some (.tbl ps0)) {b : Addr} {o : HO} (e : H b = some o) (n : Ntb o) : H' b = some o := by
  rcases g with rfl | ⟨ps, c, hc, _, rfl⟩
  · exact e
  · rw [upd_ne (ne_of_none e hc), upd_ne (fun z => by rw [z, hP] at e; cases e; exact n _ rfl)]
    exact e
theorem Grw.th {P : Addr} {q : Str} {H' : Hp} (g : Grw H P q H') {b : Addr} {o : HO} (e : H b = some o) : ∃ o', H' b = some o' := by
  rcases g with rfl | ⟨ps, c, hc, _, rfl⟩
  · exact ⟨o, e⟩
  · rw [upd_ne (ne_of_none e hc)]
    by_cases z : b = P
    · subst z; exact ⟨_, upd_same⟩
    · exact ⟨o, by rw [upd_ne z]; exact e⟩
end
end AW

/-! AW18: sorted by length, then by itself. -/
namespace AW
variable [HasT]
open PySem PySem.Spec PyProof.Rows L2
def encG (g : List Int) : PyData := .tuple (g.map .int)
def keyG (g : List Int) : PyData := .tuple [.int g.length, encG g]
def sortG (gs : List (List Int)) : List (List Int) := gs.mergeSort (PySem.W.dataLe false keyG)
section
variable {K : PySem.W.Frag} {H : Hp} {ρ : Nv} {σ : L2.St}
theorem tabs_grw {T : List (Addr × Str)} {P : Addr} {q : Str} {H' : Hp} {ps0 : Array Value} (t : LamX.Tabs T H) (g : Grw H P q H') (hP : H P = some (.tbl ps0)) (tp : LamX.TabS H' P q) (hu : ∀ p ∈ T, p.1 = P → p.2 = q) : LamX.Tabs T H' := fun p hp => by
  by_cases e : p.1 = P
  · rw [e, hu p hp e]
    exact tp
  · obtain ⟨ps, h1, h2, h3⟩ := t p hp
    refine ⟨ps, ?_, h2, fun pos cv hc => ?_⟩
    · rcases g with rfl | ⟨ps', c, hc, _, rfl⟩
      · exact h1
      · rw [upd_ne (ne_of_none h1 hc), upd_ne e]
        exact h1
    · obtain ⟨c0, e1, e2⟩ := h3 pos cv hc
      exact ⟨c0, e1, g.kp hP e2 fun ps z => by unfold LamX.CodeO at z; cases z⟩
theorem Pex.grw {P : Addr} {q : Str} {H' : Hp} {ps0 : Array Value} (E : NvOk K H σ ρ) (g : Grw H P q H') (hP : H P = some (.tbl ps0)) (tp : LamX.TabS H' P q) (hu : ∀ p ∈ HasT.T, p.1 = P → p.2 = q) : Pex K H ρ σ H' ρ := by
  have st : Stb H H' := fun a o im e => g.kp hP e (imm_ntb im)
  refine ⟨fun b o e _ n => g.kp hP e n, fun b o e => g.th e, fun _ s h o => ⟨s, h, .refl o⟩, fun _ s h o => ⟨s, h, .refl o⟩, ⟨E.len, fun i s h => ?_, E.sep, tabs_grw E.tb g hP tp hu⟩⟩
  obtain ⟨w, e, so⟩ := E.get i s h
  refine ⟨w, e, ?_⟩
  cases s with
  | un => trivial
  | dat d => obtain ⟨v, e2, r⟩ := so; exact ⟨v, e2, Rp.mono st _ _ r⟩
  | hol p ds => obtain ⟨a, vs, e2, z, r⟩ := so; exact ⟨a, vs, e2, g.kp hP z ntb_lst, RpAll.mono st _ _ r⟩
  | dic ds => obtain ⟨a, o, vs, e2, z, k, r⟩ := so; exact ⟨a, o, vs, e2, g.kp hP z k.ntb, k, RpAll.mono st _ _ r⟩
def EachV (K : PySem.W.Frag) (H : Hp) (v : Value) (g : List Int) : Prop := ∃ vv, RelV vv v ∧ Rp K H (encG g) vv
theorem each_of : ∀ {gs : List (List Int)} {xs : List V} {us : List Value}, Vals xs us → RpAll K H (gs.map encG) xs → PySem.W.EachIs (EachV K H) us gs
  | [], _, _, r, p => by cases p; cases r; exact .nil
  | g :: gs, _, _, r, p => by
    cases p with
    | cons p1 p2 =>
      cases r with
      | cons r1 r2 => exact .cons ⟨_, r1, p1⟩ (each_of r2 p2)
theorem of_each : ∀ {gs : List (List Int)} {us : List Value}, PySem.W.EachIs (EachV K H) us gs → ∃ xs, Vals xs us ∧ RpAll K H (gs.map encG) xs
  | _, _, .nil => ⟨[], .nil, .nil⟩
  | _, _, .cons ⟨vv, r, p⟩ t => by
    obtain ⟨xs, r2, p2⟩ := of_each t
    exact ⟨vv :: xs, .cons r r2, .cons p p2⟩
theorem alike_ints : ∀ a b : List Int, PySem.W.alikeAll (a.map .int) (b.map .int) = true
  | [], _ => by simp [PySem.W.alikeAll]
  | _ :: _, [] => by simp [PySem.W.alikeAll]
  | x :: a, y :: b => by simp only [List.map_cons, PySem.W.alikeAll, PySem.W.alike, alike_ints a b, Bool.and_self]
theorem depth_ints : ∀ a : List Int, PyData.depthAll (a.map .int) = 0
  | [] => rfl
  | x :: a => by simp only [List.map_cons, PyData.depthAll, PyData.depth, depth_ints a, Nat.max_self]
theorem reads_ints {h : Heap} : ∀ {g : List Int} {us : List Value}, Vals (g.map V.int) us → ReadsAll h us (g.map .int) []
  | [], _, r => by cases r; exact .nil
  | i :: g, _, r => by
    cases r with
    | cons r1 r2 =>
      obtain ⟨t, rfl⟩ := r1
      exact .cons (.int i t) (reads_ints r2)
end
section
variable {X : Cx} {e : Expr} {ρ : Nv} {Q : QE} {p pos lp kp p1 p2 p3 p4 p5 : Pos} {k j : Nat} {c P : Addr} {x : Str} {params : Arguments} {scope : Scope}
theorem EW.sortLen (C : Ctx X k) (TB : LamX.TabB X.base X.mg c P) (at_c : X.env.code = .ref c) (hm : (P, X.env.qual ++ "<lambda>") ∈ HasT.T) (hu : ∀ p ∈ HasT.T, p.1 = P → p.2 = X.env.qual ++ "<lambda>")
    (h : EW X e ρ fun y ρ1 => ∃ gs : List (List Int), seqL ρ1 y = some (gs.map encG) ∧ Q (.frs ((sortG gs).map encG)) ρ1)
    (hk : scope.kind = .function) (hco : scope.isCoroutine = false) (hge : scope.isGenerator = false) (hcell : ∀ y ∈ scope.names, y.2 ≠ .cell) (hfree : ∀ y ∈ scope.names, y.2 ≠ .free) (hx : scope.names.lookup x = some .local) (hlen : scope.names.lookup ("len" : Str) = some .globalImplicit)
    (hclo : cloFrom X.env.cells scope.names [] = []) (nodef : defaultsOf params X.env = ([], [])) (hb : ∀ (pm ctv : Value) (c' t : Addr), bindArgs (PySem.W.kla_fn "<lambda>" (X.env.qual ++ "<lambda>") params (keyE x p1 p2 p3 p4 p5 j) scope [] pm (.ref c') ctv) ⟨[.ref t], []⟩ = pure [(x, .ref t)])
    (hg : Gl X "sorted" := by rfl) (hxd : (x == ("__debug__" : Str)) = false := by decide) (he : backTo pos (starEach [e] X.env) = (false, eval e X.env) :: backTo pos (starEach [] X.env) := by rfl) (hst : starEach [e] X.env = (false, eval e X.env) :: starEach [] X.env := by rfl) :
    EW X (.Call (.Name "sorted" p) [e] [⟨some "key", .Lambda params (keyE x p1 p2 p3 p4 p5 j) scope lp, kp⟩] pos) ρ Q := fun σ H R E kk pins s I => by
  have un := C.units
  refine wpAny_Call_Name_kw (ld_blt (u := .builtin "sorted") I hg C.blt.sorted (by decide +kernel) ?_ (by decide) (by decide))
  refine PyProof.Rows.callWith_kw ?_ he (by rw [he]; rfl) rfl rfl
  refine args_cons (thn (h.at E I) ?_) hst
  rintro v s1 ⟨vv, H1, y, ρ1, I1, r1, P1, V1, gs, hs, q1⟩
  refine args_nil ?_
  obtain ⟨ps, hP, tz⟩ := P1.ok.tb _ hm
  show wpAny _ _ (evalAll ((do let v ← eval (.Lambda params (keyE x p1 p2 p3 p4 p5 j) scope lp) X.env; standAt pos; pure v) :: [])) _ _ _
  refine wpAny_evalAll_cons (wpAny_bind (lam_new I1 TB at_c ⟨ps, hP, tz⟩ nodef (fun y hy e => absurd e (hfree y hy)) fun f c' pm ctv H2 s2 I2 g T2 hf hcO => wpAny_bind (wpAny_standAt (wpAny_pure (wpAny_evalAll_nil ?_)))))
  rw [hclo] at hf
  have P2 := P1.ok |> fun E1 => Pex.grw E1 g hP T2 hu
  have V2 := V1.step E P1 P2
  obtain ⟨a, xs, rfl, rl, rp⟩ := seqL_ok P2.ok V2 hs
  obtain rfl : v = Value.ref a := r1
  obtain ⟨its, rv, pl, hz⟩ := I2.list rl.sq
  have lgs : gs.length = xs.length := by have := rp.length; simpa using this
  have PA := P1.trans P2
  show wpAny _ _ (PySem.call (Value.builtin "sorted") [Value.ref a] [(Str.ofString "key", Value.ref f)]) _ _ s2
  refine PySem.W.sorted_key_data (β := List Int) (b := false) keyG pl.isList (each_of rv rp) ?_ ?_ (by omega) (fun g' _ => ?_) (PyProof.Rows.ksk_s1 _ _) (fun _ => PyProof.Rows.ksk_l1 _ _) (fun _ => PyProof.Rows.ksk_t1 _ _) (fun v g' hv _ h' tk keep => ?_) fun out c2 h' tk keep fresh hL hlen2 each => ?_
  · refine PySem.W.AllAlike.of fun b b' => ?_
    simp [keyG, encG, PySem.W.alike, PySem.W.alikeAll, alike_ints]
  · exact PySem.W.Sortable.tuples fun b => ⟨_, _, rfl⟩
  · have : (keyG g').depth ≤ 2 := by
      simp [keyG, encG, PyData.depth, PyData.depthAll, depth_ints]
    omega
  · obtain ⟨vv, rvv, rpp⟩ := hv
    have J := I2.kept (t' := tk) keep
    unfold encG at rpp
    cases rpp with
    | tuple sq' ra =>
      have sq := SqT.of (K := X.K) sq'
      obtain rfl : v = Value.ref _ := rvv
      obtain ⟨it2, rv2, pt, hz2⟩ := J.tuple sq
      obtain rfl := ra.ints
      obtain ⟨mb, hB, hbb⟩ := J.mod.blt
      have l2 : it2.toArray.size = g'.length := by have := rv2.length; simp at this ⊢; omega
      obtain ⟨oc, hcode⟩ := J.hok c' _ hcO
      have hc3 := (J.hok c' _ hcO).1
      have := key_call (P := X.prog) (w := X.w) (A := X.A.in1.in1) (f := f) (t := _) (items := it2.toArray) (d := encG g') (by have := C.room.dp; show X.A.depth < _; omega) (keep _ _ hf) hc3 (hb pm ctv c' _) hk hco hge hcell hx hlen (J.mod.glob.keeps J.bk) C.blt.len (hB.keeps J.bk) hbb J.nolimit pt (by have := rv2.length; rw [List.size_toArray]; omega) (by obtain ⟨o, z1, z2, n, z3⟩ := pt; exact .tuple z1 z2 z3 (reads_ints rv2)) hxd
      rw [l2] at this
      exact this
  · obtain ⟨ys, rvo, rpo⟩ := of_each each
    have J : L2.Inv X pins σ (upd H2 (s2.heap.objs.size + 1) (.lst ys)) { s2 with heap := h', toks := tk } := I2.laid keep (Nat.le_succ _) ⟨by have := rvo.length; omega, out, c2, rvo, hL⟩
    have nL : H2 (s2.heap.objs.size + 1) = none := I2.hok.fresh (Nat.le_succ _)
    exact ⟨.ref (s2.heap.objs.size + 1), _, J, rfl, kk _ _ _ _ (PA.trans (Pex.new P2.ok nL)) ((frs_new nL rpo).back fun a n => PA.free n) q1⟩
end
end AW

/-! AW19: a < b < c. -/
namespace AW
variable [HasT]
open PySem PySem.Spec PyProof.Rows L2
section
variable {X : Cx} {a b c : Expr} {ρ : Nv} {Q : QE} {pos : Pos}
theorem EW.chain2 {o1 o2 : CmpOp} {r1 r2 : R2A} (h1 : OpA X (compareOp o1) r1) (h2 : OpA X (compareOp o2) r2) (h : EW X a ρ fun x ρ1 => EW X b ρ1 fun y ρ2 => r1 ρ2 x y (boolQ fun t => if t = true then EW X c ρ2 fun z ρ3 => r2 ρ3 y z fun u => Q u ρ3 else Q (.dat (.bool false)) ρ2))
    (hm : lastMarks [o1, o2] [b, c] = false := by with_unfolding_all rfl) : EW X (.Compare a [o1, o2] [b, c] pos) ρ Q := EW.of fun pins s σ H E I => by
  refine Compare_chain (thn (h.at E I) fun v s1 ⟨x, H1, xa, ρ1, I1, r1', P1, V1, q1⟩ => chain_link (thn (EW.at q1 P1.ok I1) fun u s2 ⟨y, H2, ya, ρ2, I2, r2', P2, V2, q2⟩ => ?_)) hm
  refine thn (h1 pins s2 σ H H2 ρ2 xa ya x y v u _ I2 P2.ok (V1.step E P1 P2) (V2.back fun a n => P1.free n) r1' r2' q2) fun w s3 h3 => ?_
  obtain ⟨z, H3, za, ρ3, I3, r3, P3, V3, e3, q3⟩ := h3
  subst e3
  match za, V3, q3 with
  | .dat (.bool t), V3, q3 =>
    obtain rfl := Rp.bool_inv V3
    obtain rfl : w = Value.bool t := r3
    refine wpAny_truthy_bool ?_
    cases t with
    | false =>
      refine (if_neg Bool.false_ne_true).symm ▸ ?_
      simp only [boolQ, Bool.false_eq_true, ↓reduceIte] at q3
      exact EPA.back ((P1.trans P2).trans P3) ⟨.bl false, H3, .dat (.bool false), _, I3, rfl, Pex.refl P3.ok, vdat (.bool _), q3⟩
    | true =>
      refine if_pos rfl ▸ ?_
      simp only [boolQ, ↓reduceIte] at q3
      have P23 := P2.trans P3
      refine chain_last (thn (EW.at q3 P3.ok I3) fun u4 s4 ⟨z4, H4, za4, ρ4, I4, r4, P4, V4, q4⟩ => ?_)
      refine thn (h2 pins s4 σ H H4 ρ4 ya za4 y z4 u u4 _ I4 P4.ok (((V2.step P1.ok P2 P3).step P1.ok P23 P4).back fun a n => P1.free n) (V4.back fun a n => (P1.trans P23).free n) r2' r4 q4) fun w s5 h5 => ?_
      obtain ⟨z5, H5, za5, ρ5, I5, r5, P5, V5, rfl, q5⟩ := h5
      exact EPA.back ((P1.trans P23).trans P4) ⟨z5, H5, za5, _, I5, r5, P5, V5, q5⟩
end
end AW

/-! AW20: data in the form of a map over a typed list: encoders, and the rules' ends in that form. -/
namespace AW
variable [HasT]
open PySem PySem.Spec PyProof.Rows L2
/-! ### encoders -/
abbrev eI (i : Int) : PyData := .int i
abbrev eN (i : Nat) : PyData := .int (i : Int)
abbrev eB (b : Bool) : PyData := .bool b
abbrev eS (x : Str) : PyData := .str x
abbrev eT {α : Type} (e : α → PyData) (l : List α) : PyData := .tuple (l.map e)
abbrev eL {α : Type} (e : α → PyData) (l : List α) : PyData := .list (l.map e)
/-- equal as data exactly if equal -/
def Inj {α : Type} [DecidableEq α] (e : α → PyData) : Prop := ∀ a b, PyData.eqv (e a) (e b) = decide (a = b)
theorem Inj.int : Inj (PyData.int) := fun a b => by
  show (a == b) = _
  by_cases h : a = b <;> simp [h]
theorem Inj.nat : Inj eN := fun a b => by
  show ((a : Int) == (b : Int)) = _
  by_cases h : a = b
  · subst h; simp
  · simp only [h, decide_false, beq_eq_false_iff_ne, ne_eq]; omega
theorem Inj.bool : Inj eB := fun a b => by cases a <;> cases b <;> rfl
theorem Inj.str : Inj eS := fun a b => by
  show PyData.eqv (.str a) (.str b) = _
  unfold PyData.eqv
  by_cases h : a = b <;> simp [h]
theorem Inj.all {α : Type} [DecidableEq α] {e : α → PyData} (h : Inj e) : ∀ a b : List α, PyData.eqvAll (a.map e) (b.map e) = decide (a = b)
  | [], [] => by simp [PyData.eqvAll]
  | [], _ :: _ => by simp [PyData.eqvAll]
  | _ :: _, [] => by simp [PyData.eqvAll]
  | x :: a, y :: b => by
    simp only [List.map_cons, PyData.eqvAll, h x y, Inj.all h a b, List.cons.injEq]
    by_cases h1 : x = y <;> by_cases h2 : a = b <;> simp [h1, h2]
theorem Inj.tup {α : Type} [DecidableEq α] {e : α → PyData} (h : Inj e) : Inj (eT e) := fun a b => by
  show PyData.eqv (.tuple _) (.tuple _) = _
  unfold PyData.eqv
  exact h.all a b
theorem Inj.lst {α : Type} [DecidableEq α] {e : α → PyData} (h : Inj e) : Inj (eL e) := fun a b => by
  show PyData.eqv (.list _) (.list _) = _
  unfold PyData.eqv
  exact h.all a b
/-! ### ends of rules -/
section
variable {α β : Type} {ρ : Nv} {x y : AV} {q : AV → Prop}
theorem lenR_map (h : ∃ (α : Type) (l : List α) (g : α → PyData), seqA ρ x = some (l.map g) ∧ q (.dat (.int l.length))) : lenR ρ x q := by
  obtain ⟨α, l, g, e, h⟩ := h
  have z : ∃ ds, seqA ρ x = some ds ∧ q (.dat (.int ds.length)) := ⟨_, e, by rw [List.length_map]; exact h⟩
  match x, e, z with
  | .dat (.tuple _), _, z => exact z
  | .dat (.list _), _, z => exact z
  | .frs _, _, z => exact z
  | .own _, _, z => exact z
  | .dat (.str s), e, _ => exact nomatch e
  | .dat .none, e, _ => exact nomatch e
  | .dat (.int _), e, _ => exact nomatch e
  | .dat (.bool _), e, _ => exact nomatch e
  | .dat (.dict _), e, _ => exact nomatch e
theorem sumR_map (h : ∃ (α : Type) (l : List α) (g : α → Int), seqA ρ x = some (l.map fun z => .int (g z)) ∧ q (.dat (.int (l.map g).sum))) : sumR ρ x q := by
  obtain ⟨α, l, g, e, h⟩ := h
  exact ⟨l.map g, by rw [List.map_map]; exact e, h⟩
theorem allR_map (h : ∃ (α : Type) (l : List α) (g : α → Bool), seqL ρ x = some (l.map fun z => .bool (g z)) ∧ q (.dat (.bool (l.all g)))) : allR ρ x q := by
  obtain ⟨α, l, g, e, h⟩ := h
  refine ⟨l.map g, by rw [List.map_map]; exact e, ?_⟩
  rw [List.all_map]
  exact h
theorem anyR_map (h : ∃ (α : Type) (l : List α) (g : α → Bool), seqL ρ x = some (l.map fun z => .bool (g z)) ∧ q (.dat (.bool (l.any g)))) : anyR ρ x q := by
  obtain ⟨α, l, g, e, h⟩ := h
  refine ⟨l.map g, by rw [List.map_map]; exact e, ?_⟩
  rw [List.any_map]
  exact h
theorem ixR_nat (d : α) (h : ∃ (l : List α) (g : α → PyData) (j : Nat), y = .dat (.int (j : Int)) ∧ seqA ρ x = some (l.map g) ∧ j < l.length ∧ q (.dat (g (l.getD j d)))) : ixR ρ x y q := by
  obtain ⟨l, g, j, rfl, e, hj, h⟩ := h
  have hd : L2.atI (l.map g) (j : Int) = some (g (l.getD j d)) := by
    refine atI_nat ?_
    rw [List.getElem?_map, List.getD_eq_getElem?_getD, List.getElem?_eq_getElem hj]; rfl
  have z : ∃ ds d, seqA ρ x = some ds ∧ L2.atI ds (j : Int) = some d ∧ q (.dat d) := ⟨_, _, e, hd, h⟩
  match x, e, z with
  | .dat (.tuple _), _, z => exact z
  | .dat (.list _), _, z => exact z
  | .frs _, _, z => exact z
  | .own _, _, z => exact z
  | .dat (.str s), e, _ => exact nomatch e
  | .dat .none, e, _ => exact nomatch e
  | .dat (.int _), e, _ => exact nomatch e
  | .dat (.bool _), e, _ => exact nomatch e
  | .dat (.dict _), e, _ => exact nomatch e
theorem ixR_int (d : α) (h : ∃ (l : List α) (g : α → PyData) (j : Int), y = .dat (.int j) ∧ seqA ρ x = some (l.map g) ∧ 0 ≤ j ∧ j < l.length ∧ q (.dat (g (l.getD j.toNat d)))) : ixR ρ x y q := by
  obtain ⟨l, g, j, rfl, e, h0, hj, h⟩ := h
  obtain ⟨j, rfl⟩ := Int.eq_ofNat_of_zero_le h0
  exact ixR_nat d ⟨l, g, j, rfl, e, by omega, h⟩
/-- x[-1] -/
theorem ixR_last (d : α) (h : ∃ (l : List α) (g : α → PyData), y = .dat (.int (-1)) ∧ seqA ρ x = some (l.map g) ∧ 0 < l.length ∧ q (.dat (g (l.getD (l.length - 1) d)))) : ixR ρ x y q := by
  obtain ⟨l, g, rfl, e, hj, h⟩ := h
  have hd : L2.atI (l.map g) (-1) = some (g (l.getD (l.length - 1) d)) := by
    have e1 : ixN (l.map g).length (-1) = some (l.length - 1) := by
      unfold ixN
      rw [if_neg (by decide), List.length_map, if_pos (by omega)]
      congr 1
      omega
    unfold L2.atI
    rw [e1]
    show (l.map g)[l.length - 1]? = _
    rw [List.getElem?_map, List.getD_eq_getElem?_getD, List.getElem?_eq_getElem (by omega)]; rfl
  have z : ∃ ds d, seqA ρ x = some ds ∧ L2.atI ds (-1) = some d ∧ q (.dat d) := ⟨_, _, e, hd, h⟩
  match x, e, z with
  | .dat (.tuple _), _, z => exact z
  | .dat (.list _), _, z => exact z
  | .frs _, _, z => exact z
  | .own _, _, z => exact z
  | .dat (.str s), e, _ => exact nomatch e
  | .dat .none, e, _ => exact nomatch e
  | .dat (.int _), e, _ => exact nomatch e
  | .dat (.bool _), e, _ => exact nomatch e
  | .dat (.dict _), e, _ => exact nomatch e
theorem flat_natE : ∀ g : List Nat, (g.map eN).all flatD = true
  | [] => rfl
  | j :: g => by simpa [flatD, eN] using flat_natE g
theorem flat_int : ∀ g : List Int, (g.map PyData.int).all flatD = true
  | [] => rfl
  | j :: g => by simpa [flatD] using flat_int g
theorem flat_str : ∀ g : List Str, (g.map PyData.str).all flatD = true
  | [] => rfl
  | j :: g => by simpa [flatD] using flat_str g
theorem inB_map [DecidableEq α] {e : α → PyData} (h : Inj e) (i : α) : ∀ g : List α, inB (e i) (g.map e) = decide (i ∈ g)
  | [] => by simp [inB]
  | j :: g => by
    have t := inB_map h i g
    unfold inB at t ⊢
    simp only [List.map_cons, List.any_cons, t, h j i]
    by_cases h : j = i
    · subst h; simp
    · by_cases h2 : i ∈ g
      · simp [h2]
      · simp [h, h2]
        exact fun z => h z.symm
theorem inR_nat {neg : Bool} (h : ∃ (i : Nat) (g : List Nat), x = .dat (.int (i : Int)) ∧ seqA ρ y = some (g.map eN) ∧ q (.dat (.bool (if neg then !decide (i ∈ g) else decide (i ∈ g))))) : inR neg ρ x y q := by
  obtain ⟨i, g, rfl, e, h⟩ := h
  rw [← inB_map Inj.nat] at h
  have z : ∃ d ds, readD ρ (.dat (.int (i : Int))) = some d ∧ ((seqA ρ y = some ds ∧ flatD d = true ∧ ds.all flatD = true) ∨ (seqL ρ y = some ds ∧ SeqAt.shaped d = true ∧ SeqAt.shaped (.list ds) = true)) ∧ q (.dat (.bool (if neg then !inB d ds else inB d ds))) := ⟨_, _, rfl, .inl ⟨e, rfl, flat_natE g⟩, h⟩
  exact z
theorem inR_int {neg : Bool} (h : ∃ (i : Int) (g : List Int), x = .dat (.int i) ∧ seqA ρ y = some (g.map PyData.int) ∧ q (.dat (.bool (if neg then !decide (i ∈ g) else decide (i ∈ g))))) : inR neg ρ x y q := by
  obtain ⟨i, g, rfl, e, h⟩ := h
  rw [← inB_map Inj.int] at h
  have z : ∃ d ds, readD ρ (.dat (.int (i : Int))) = some d ∧ ((seqA ρ y = some ds ∧ flatD d = true ∧ ds.all flatD = true) ∨ (seqL ρ y = some ds ∧ SeqAt.shaped d = true ∧ SeqAt.shaped (.list ds) = true)) ∧ q (.dat (.bool (if neg then !inB d ds else inB d ds))) := ⟨_, _, rfl, .inl ⟨e, rfl, flat_int g⟩, h⟩
  exact z
theorem addR_tup (h : ∃ (l m : List α) (g : α → PyData), seqT x = some (l.map g) ∧ seqT y = some (m.map g) ∧ l.length + m.length ≤ sizeLine ∧ q (.dat (.tuple ((l ++ m).map g)))) : addR ρ x y q := by
  obtain ⟨l, m, g, e1, e2, hl, h⟩ := h
  match x, y, e1, e2 with
  | .dat (.tuple xs), .dat (.tuple ys), e1, e2 =>
    obtain rfl : xs = _ := Option.some.inj e1
    obtain rfl : ys = _ := Option.some.inj e2
    rw [List.map_append] at h
    exact ⟨by simpa using hl, h⟩
theorem addR_tup1 (h : ∃ (l : List α) (v : α) (g : α → PyData), seqT x = some (l.map g) ∧ seqT y = some [g v] ∧ l.length + 1 ≤ sizeLine ∧ q (.dat (.tuple ((l ++ [v]).map g)))) : addR ρ x y q := by
  obtain ⟨l, v, g, e1, e2, hl, h⟩ := h
  exact addR_tup ⟨l, [v], g, e1, e2, hl, h⟩
theorem addR_lst (h : ∃ (l m : List α) (g : α → PyData), seqL ρ x = some (l.map g) ∧ seqL ρ y = some (m.map g) ∧ l.length + m.length ≤ sizeLine ∧ q (.frs ((l ++ m).map g))) : addR ρ x y q := by
  obtain ⟨l, m, g, e1, e2, hl, h⟩ := h
  have z : ∃ xs ys, seqL ρ x = some xs ∧ seqL ρ y = some ys ∧ xs.length + ys.length ≤ sizeLine ∧ q (.frs (xs ++ ys)) := ⟨_, _, e1, e2, by simpa using hl, by rw [← List.map_append]; exact h⟩
  match x, y, e1, e2 with
  | .dat (.list _), _, _, _ => exact z
  | .frs _, _, _, _ => exact z
  | .own _, _, _, _ => exact z
end
/-! ### comparisons for equality -/
section
variable {X : Cx} {k : Nat}
def eqT : R2A := fun ρ x y q => match x, y with
  | .dat (.int i), .dat (.int j) => q (.dat (.bool (decide (i = j))))
  | .dat (.str z), .dat (.str w) => q (.dat (.bool (decide (z = w))))
  | .dat (.bool z), .dat (.bool w) => q (.dat (.bool (decide (z = w))))
  | x, y => ∃ d e, ∃ (c : Prop) (_ : Decidable c), readD ρ x = some d ∧ readD ρ y = some e ∧ SeqAt.shaped d = true ∧ SeqAt.shaped e = true ∧ PyData.eqv d e = decide c ∧ q (.dat (.bool (decide c)))
def neT : R2A := fun ρ x y q => match x, y with
  | .dat (.int i), .dat (.int j) => q (.dat (.bool (decide (¬ i = j))))
  | .dat (.str z), .dat (.str w) => q (.dat (.bool (decide (¬ z = w))))
  | .dat (.bool z), .dat (.bool w) => q (.dat (.bool (decide (¬ z = w))))
  | x, y => ∃ d e, ∃ (c : Prop) (_ : Decidable c), readD ρ x = some d ∧ readD ρ y = some e ∧ SeqAt.shaped d = true ∧ SeqAt.shaped e = true ∧ PyData.eqv d e = decide c ∧ q (.dat (.bool (decide (¬ c))))
theorem dn (c : Prop) [Decidable c] : decide (¬ c) = !decide c := by by_cases h : c <;> simp [h]
theorem eqT_eqR {ρ : Nv} {x y : AV} {q : AV → Prop} (h : eqT ρ x y q) : eqR ρ x y q := by
  unfold eqT at h
  split at h
  · rename_i i j
    have e := Inj.int i j
    rw [← e] at h
    exact ⟨_, _, rfl, rfl, rfl, rfl, h⟩
  · rename_i z w
    have e : (z == w) = decide (z = w) := by by_cases h : z = w <;> simp [h]
    rw [← e] at h
    exact h
  · rename_i z w
    have e := Inj.bool z w
    rw [← e] at h
    exact ⟨_, _, rfl, rfl, rfl, rfl, h⟩
  · rename_i n1 n2 n3
    obtain ⟨d, e, c, _, h1, h2, h3, h4, h5, h6⟩ := h
    rw [← h5] at h6
    have z : ∃ d e, readD ρ x = some d ∧ readD ρ y = some e ∧ SeqAt.shaped d = true ∧ SeqAt.shaped e = true ∧ q (.dat (.bool (PyData.eqv d e))) := ⟨d, e, h1, h2, h3, h4, h6⟩
    unfold eqR
    split
    · rename_i a b; exact (n2 a b rfl rfl).elim
    · exact z
theorem neT_neR {ρ : Nv} {x y : AV} {q : AV → Prop} (h : neT ρ x y q) : neR ρ x y q := by
  unfold neT at h
  split at h
  · rename_i i j
    have e := Inj.int i j
    rw [dn, ← e] at h
    exact ⟨_, _, rfl, rfl, rfl, rfl, h⟩
  · rename_i z w
    have e : (z == w) = decide (z = w) := by by_cases h : z = w <;> simp [h]
    rw [dn, ← e] at h
    exact h
  · rename_i z w
    have e := Inj.bool z w
    rw [dn, ← e] at h
    exact ⟨_, _, rfl, rfl, rfl, rfl, h⟩
  · rename_i n1 n2 n3
    obtain ⟨d, e, c, _, h1, h2, h3, h4, h5, h6⟩ := h
    rw [dn, ← h5] at h6
    have z : ∃ d e, readD ρ x = some d ∧ readD ρ y = some e ∧ SeqAt.shaped d = true ∧ SeqAt.shaped e = true ∧ q (.dat (.bool (!PyData.eqv d e))) := ⟨d, e, h1, h2, h3, h4, h6⟩
    unfold neR
    split
    · rename_i a b; exact (n2 a b rfl rfl).elim
    · exact z
/-- both are of one encoding -/
theorem eqT_inj {α : Type} [DecidableEq α] {en : α → PyData} {ρ : Nv} {x y : AV} {q : AV → Prop} (hj : Inj en) (h : ∃ a b, readD ρ x = some (en a) ∧ readD ρ y = some (en b) ∧ SeqAt.shaped (en a) = true ∧ SeqAt.shaped (en b) = true ∧ q (.dat (.bool (decide (a = b))))) : eqT ρ x y q := by
  obtain ⟨a, b, h1, h2, h3, h4, h5⟩ := h
  have e := hj a b
  unfold eqT
  split
  · rename_i i j
    have e1 : PyData.int i = en a := Option.some.inj h1
    have e2 : PyData.int j = en b := Option.some.inj h2
    rw [← Inj.int i j, e1, e2, e]
    exact h5
  · rename_i i j
    have e1 : PyData.str i = en a := Option.some.inj h1
    have e2 : PyData.str j = en b := Option.some.inj h2
    rw [← Inj.str i j]
    show q (.dat (.bool (PyData.eqv (.str i) (.str j))))
    rw [e1, e2, e]
    exact h5
  · rename_i i j
    have e1 : PyData.bool i = en a := Option.some.inj h1
    have e2 : PyData.bool j = en b := Option.some.inj h2
    rw [← Inj.bool i j]
    show q (.dat (.bool (PyData.eqv (.bool i) (.bool j))))
    rw [e1, e2, e]
    exact h5
  · exact ⟨_, _, _, _, h1, h2, h3, h4, e, h5⟩
theorem neT_inj {α : Type} [DecidableEq α] {en : α → PyData} {ρ : Nv} {x y : AV} {q : AV → Prop} (hj : Inj en) (h : ∃ a b, readD ρ x = some (en a) ∧ readD ρ y = some (en b) ∧ SeqAt.shaped (en a) = true ∧ SeqAt.shaped (en b) = true ∧ q (.dat (.bool (decide (¬ a = b))))) : neT ρ x y q := by
  obtain ⟨a, b, h1, h2, h3, h4, h5⟩ := h
  have e := hj a b
  rw [dn] at h5
  unfold neT
  split
  · rename_i i j
    have e1 : PyData.int i = en a := Option.some.inj h1
    have e2 : PyData.int j = en b := Option.some.inj h2
    rw [dn, ← Inj.int i j, e1, e2, e]
    exact h5
  · rename_i i j
    have e1 : PyData.str i = en a := Option.some.inj h1
    have e2 : PyData.str j = en b := Option.some.inj h2
    rw [dn, ← Inj.str i j]
    show q (.dat (.bool (!PyData.eqv (.str i) (.str j))))
    rw [e1, e2, e]
    exact h5
  · rename_i i j
    have e1 : PyData.bool i = en a := Option.some.inj h1
    have e2 : PyData.bool j = en b := Option.some.inj h2
    rw [dn, ← Inj.bool i j]
    show q (.dat (.bool (!PyData.eqv (.bool i) (.bool j))))
    rw [e1, e2, e]
    exact h5
  · exact ⟨_, _, _, _, h1, h2, h3, h4, e, by rw [dn]; exact h5⟩
theorem OpA.weak {f : Value → Value → Sem Value} {r r' : R2A} (h : OpA X f r) (k : ∀ ρ x y q, r' ρ x y q → r ρ x y q) : OpA X f r' :=
  fun pins s σ H0 H ρ x y v u vv uu q I E V U rv ru hr => h pins s σ H0 H ρ x y v u vv uu q I E V U rv ru (k _ _ _ _ hr)
theorem opE (C : Ctx X k) : OpA X (compareOp .Eq) eqT := (opA_eq C).weak fun _ _ _ _ => eqT_eqR
theorem opN (C : Ctx X k) : OpA X (compareOp .NotEq) neT := (opA_ne C).weak fun _ _ _ _ => neT_neR
end
/-! ### comprehensions whose values are found on the way -/
section
variable {X : Cx} {scope : Scope} {e a b c tg iter elt : Expr} {ifs : List Expr} {ρ : Nv} {E : AEnds} {Q : QE} {pos p p2 pos' : Pos} {k : Nat} {d : PyData} {is vs : List Nat}
/-- for every element of xs the value f -/
def lcM (X : Cx) (scope : Scope) (tg elt : Expr) (is vs : List Nat) (Q : QE) (ds : List PyData) (ρ : Nv) : Prop :=
  ∃ (α : Type) (xs : List α) (g f : α → PyData), ds = xs.map g ∧ xs.length ≤ 1000000 ∧ noHol ρ vs = true ∧
  (∀ x, x ∈ xs → ∀ s0 H0 C cl fp, GW (BX X scope s0 H0 C cl fp) tg (g x) (wipeN ρ vs) is fun ρ2 => ∀ s0 H0 C cl fp, EWd (BX X scope s0 H0 C cl fp) elt ρ2 fun y ρ4 => y = f x ∧ restN ρ ρ4 vs = ρ) ∧ Q (.frs (xs.map f)) ρ
theorem lcM.q {ds : List PyData} (h : lcM X scope tg elt is vs Q ds ρ) : ∃ (α : Type) (xs : List α) (g : α → PyData) (f : α → Option PyData), lcQ X scope tg [] elt is vs xs g f Q ds ρ := by
  obtain ⟨α, xs, g, f, h1, h2, h3, h4, h5⟩ := h
  refine ⟨α, xs, g, fun x => some (f x), h1, h2, h3, fun x hx => ?_, ?_⟩
  · refine Turn1.nil fun s0 H0 C cl fp σ H v R Ev r kk => h4 x hx s0 H0 C cl fp σ H v R Ev r fun σ' ρ' P o l y q => kk σ' ρ' P o l y fun s0 H0 C cl fp => ?_
    exact EW.imp (q s0 H0 C cl fp) fun z ρ4 ⟨d, hd, q3, q4⟩ => ⟨d, hd, by rw [q3], q4⟩
  · rw [List.filterMap_eq_map']
    exact h5
theorem EW.lcM {own : List (Str × Nat)} (C : Ctx X k) (h : IW X tg iter ρ fun ds ρ1 => AW.lcM X scope tg elt is (own.map (·.2)) Q ds ρ1)
    (ok : BlkOk X.N X.env.scope scope own) (hsub : ∀ j ∈ is, j ∈ own.map (·.2)) (hs : ∀ x, foldedSetIterable iter X.env x = pure x := by intro _; rfl) : EW X (.ListComp elt [⟨tg, iter, [], 0⟩] scope pos) ρ Q :=
  EW.lc C (fun σ H R Ev kk => h σ H R Ev fun J H' ds ρ' P dj q => kk J H' ds ρ' P dj (by obtain ⟨α, xs, g, f, q⟩ := q.q; exact q.ok)) ok hsub hs
theorem S1.asgLcM {i : Nat} {x : Str} {own : List (Str × Nat)} (C : Ctx X k) (h : IW X tg iter ρ fun ds ρ1 => AW.lcM X scope tg elt is (own.map (·.2)) (fun y ρ2 => asgR i ρ2 y E.nx) ds ρ1)
    (hi : X.N[i]? = some x) (hyl : X.env.scope.names.lookup x = some .local) (hsw : swapsWith (.ListComp elt [⟨tg, iter, [], 0⟩] scope pos) (some (.Name x p)) pos'.line X.env = pure true) (ok : BlkOk X.N X.env.scope scope own) (hsub : ∀ j ∈ is, j ∈ own.map (·.2))
    (hs : ∀ x, foldedSetIterable iter X.env x = pure x := by intro _; rfl) : S1 X (.Assign [.Name x p] (.ListComp elt [⟨tg, iter, [], 0⟩] scope pos) pos') ρ E :=
  S1.asgLc C (fun σ H R Ev kk => h σ H R Ev fun J H' ds ρ' P dj q => kk J H' ds ρ' P dj (by obtain ⟨α, xs, g, f, q⟩ := q.q; exact q.ok)) hi hyl hsw ok hsub hs
/-- for the elements of xs that t picks -/
def lcF (X : Cx) (scope : Scope) (tg c elt : Expr) (is vs : List Nat) (Q : QE) (ds : List PyData) (ρ : Nv) : Prop :=
  ∃ (α : Type) (xs : List α) (g : α → PyData) (t : α → Bool) (f : α → PyData), ds = xs.map g ∧ xs.length ≤ 1000000 ∧ noHol ρ vs = true ∧
  (∀ x, x ∈ xs → ∀ s0 H0 C cl fp, GW (BX X scope s0 H0 C cl fp) tg (g x) (wipeN ρ vs) is fun ρ2 => ∀ s0 H0 C cl fp, TW (BX X scope s0 H0 C cl fp) c ρ2 fun b ρ3 => b = t x ∧ restN ρ ρ3 vs = ρ ∧
    (t x = true → ∀ s0 H0 C cl fp, EWd (BX X scope s0 H0 C cl fp) elt ρ3 fun y ρ4 => y = f x ∧ restN ρ ρ4 vs = ρ)) ∧ Q (.frs ((xs.filter t).map f)) ρ
theorem lcF.q {ds : List PyData} (h : lcF X scope tg c elt is vs Q ds ρ) : ∃ (α : Type) (xs : List α) (g : α → PyData) (f : α → Option PyData), lcQ X scope tg [c] elt is vs xs g f Q ds ρ := by
  obtain ⟨α, xs, g, t, f, h1, h2, h3, h4, h5⟩ := h
  refine ⟨α, xs, g, fun x => if t x = true then some (f x) else none, h1, h2, h3, fun x hx => ?_, ?_⟩
  · refine Turn1.one fun s0 H0 C cl fp σ H v R Ev r kk => h4 x hx s0 H0 C cl fp σ H v R Ev r fun σ' ρ' P o l y q => kk σ' ρ' P o l y fun s0 H0 C cl fp => ?_
    refine TW.imp (q s0 H0 C cl fp) fun b ρ3 ⟨q1, q2, q3⟩ => ?_
    subst q1
    by_cases ht : t x = true
    · rw [if_pos ht]
      intro s0 H0 C cl fp
      exact EW.imp (q3 ht s0 H0 C cl fp) fun z ρ4 ⟨d, hd, q3, q4⟩ => ⟨d, hd, by rw [q3]; exact (if_pos ht).symm, q4⟩
    · rw [if_neg ht]
      exact ⟨(if_neg ht).symm, q2⟩
  · have e : xs.filterMap (fun x => if t x = true then some (f x) else none) = (xs.filter t).map f := by
      clear h4 h5 h1 h2
      induction xs with
      | nil => rfl
      | cons x xs ih => by_cases h : t x = true <;> simp [h, ih]
    rw [e]
    exact h5
theorem EW.lcF {own : List (Str × Nat)} (C : Ctx X k) (h : IW X tg iter ρ fun ds ρ1 => AW.lcF X scope tg c elt is (own.map (·.2)) Q ds ρ1)
    (ok : BlkOk X.N X.env.scope scope own) (hsub : ∀ j ∈ is, j ∈ own.map (·.2)) (hs : ∀ x, foldedSetIterable iter X.env x = pure x := by intro _; rfl) : EW X (.ListComp elt [⟨tg, iter, [c], 0⟩] scope pos) ρ Q :=
  EW.lc C (fun σ H R Ev kk => h σ H R Ev fun J H' ds ρ' P dj q => kk J H' ds ρ' P dj (by obtain ⟨α, xs, g, f, q⟩ := q.q; exact q.ok)) ok hsub hs
theorem S1.asgLcF {i : Nat} {x : Str} {own : List (Str × Nat)} (C : Ctx X k) (h : IW X tg iter ρ fun ds ρ1 => AW.lcF X scope tg c elt is (own.map (·.2)) (fun y ρ2 => asgR i ρ2 y E.nx) ds ρ1)
    (hi : X.N[i]? = some x) (hyl : X.env.scope.names.lookup x = some .local) (hsw : swapsWith (.ListComp elt [⟨tg, iter, [c], 0⟩] scope pos) (some (.Name x p)) pos'.line X.env = pure true) (ok : BlkOk X.N X.env.scope scope own) (hsub : ∀ j ∈ is, j ∈ own.map (·.2))
    (hs : ∀ x, foldedSetIterable iter X.env x = pure x := by intro _; rfl) : S1 X (.Assign [.Name x p] (.ListComp elt [⟨tg, iter, [c], 0⟩] scope pos) pos') ρ E :=
  S1.asgLc C (fun σ H R Ev kk => h σ H R Ev fun J H' ds ρ' P dj q => kk J H' ds ρ' P dj (by obtain ⟨α, xs, g, f, q⟩ := q.q; exact q.ok)) hi hyl hsw ok hsub hs
end
/-! ### what is walked -/
theorem rngD_map (n : Nat) : rngD 0 n = (List.range n).map eN := by
  unfold rngD
  simp
theorem enumD_map {α : Type} (l : List α) (g : α → PyData) : enumD (l.map g) = l.zipIdx.map fun p => PyData.tuple [eN p.2, g p.1] := by
  unfold enumD
  rw [List.zipIdx_map, List.map_map]
  rfl
theorem zipD_map {α β : Type} (l : List α) (m : List β) (g : α → PyData) (h : β → PyData) : zipD (l.map g) (m.map h) = (l.zip m).map fun p => PyData.tuple [g p.1, h p.2] := by
  unfold zipD
  rw [List.zip_map, List.map_map]
  rfl
/-- range(n) -/
theorem IW.rangeN {X : Cx} {tg a : Expr} {ρ : Nv} {pos p : Pos} {k : Nat} {Q : List PyData → Nv → Prop} (C : Ctx X k) (h : EW X a ρ fun x ρ1 => ∃ n : Nat, x = .dat (.int (n : Int)) ∧ n ≤ 1000000000 ∧ Q ((List.range n).map eN) ρ1) (hg : Gl X "range" := by rfl) (hs : starEach [a] X.env = [(false, eval a X.env)] := by rfl) : IW X tg (.Call (.Name "range" p) [a] [] pos) ρ Q :=
  IW.range1 C (EW.imp h fun x ρ1 ⟨n, e, hn, q⟩ => ⟨n, e, by omega, by omega, by rw [Int.toNat_natCast, rngD_map]; exact q⟩) hg hs
end AW

/-! AW21: tests and values that leave the slots as they are, put together. -/
namespace AW
variable [HasT]
open PySem PySem.Spec PyProof.Rows L2
section
variable {X : Cx} {scope : Scope} {e a b c tg iter elt : Expr} {es ifs : List Expr} {bd od : List Stmt} {ρ : Nv} {E : AEnds} {Q : QE} {QT : Bool → Nv → Prop} {pos p p2 pos' : Pos} {k : Nat} {d : PyData} {is vs : List Nat}
/-- the expression comes to this truth value, the slots stay -/
abbrev EWb (X : Cx) (e : Expr) (ρ : Nv) (t : Bool) : Prop := EW X e ρ fun x ρ1 => x = .dat (.bool t) ∧ ρ1 = ρ
abbrev TWb (X : Cx) (e : Expr) (ρ : Nv) (t : Bool) : Prop := TW X e ρ fun x ρ1 => x = t ∧ ρ1 = ρ
abbrev TWwb (X : Cx) (e : Expr) (ρ : Nv) (t : Bool) : Prop := TWw X e ρ fun x ρ1 => x = t ∧ ρ1 = ρ
theorem EW.andP {u v : Bool} (h1 : EWb X a ρ u) (h2 : u = true → EWb X (.BoolOp .And (b :: es) pos) ρ v) (q : Q (.dat (.bool (u && v))) ρ) : EW X (.BoolOp .And (a :: b :: es) pos) ρ Q :=
  EW.and (EW.imp h1 fun x ρ1 ⟨e1, e2⟩ => by
    subst e1; subst e2
    cases u with
    | true => exact EW.imp (h2 rfl) fun x ρ2 ⟨e1, e2⟩ => by subst e1; subst e2; exact q
    | false => exact q)
theorem EW.orP {u v : Bool} (h1 : EWb X a ρ u) (h2 : u = false → EWb X (.BoolOp .Or (b :: es) pos) ρ v) (q : Q (.dat (.bool (u || v))) ρ) : EW X (.BoolOp .Or (a :: b :: es) pos) ρ Q :=
  EW.or (EW.imp h1 fun x ρ1 ⟨e1, e2⟩ => by
    subst e1; subst e2
    cases u with
    | false => exact EW.imp (h2 rfl) fun x ρ2 ⟨e1, e2⟩ => by subst e1; subst e2; exact q
    | true => exact q)
theorem TWw.imp {Q' : Bool → Nv → Prop} (h : TWw X e ρ QT) (kk : ∀ x ρ', QT x ρ' → Q' x ρ') : TWw X e ρ Q' := fun whole pins s σ H Ev I =>
  thn (h whole pins s σ H Ev I) fun u s1 ⟨H1, ρ1, I1, P, q⟩ => ⟨H1, ρ1, I1, P, kk _ _ q⟩
theorem TWw.andP {u v : Bool} (h1 : TWb X a ρ u) (h2 : u = true → TWwb X (.BoolOp .And (b :: es) pos) ρ v) (q : QT (u && v) ρ) : TWw X (.BoolOp .And (a :: b :: es) pos) ρ QT :=
  TWw.and (TW.imp h1 fun x ρ1 ⟨e1, e2⟩ => by
    subst e1; subst e2
    cases x with
    | true => exact TWw.imp (h2 rfl) fun x ρ2 ⟨e1, e2⟩ => by subst e1; subst e2; exact q
    | false => exact q)
theorem TWw.orP {u v : Bool} (h1 : TWb X a ρ u) (h2 : u = false → TWwb X (.BoolOp .Or (b :: es) pos) ρ v) (q : QT (u || v) ρ) : TWw X (.BoolOp .Or (a :: b :: es) pos) ρ QT :=
  TWw.or (TW.imp h1 fun x ρ1 ⟨e1, e2⟩ => by
    subst e1; subst e2
    cases x with
    | false => exact TWw.imp (h2 rfl) fun x ρ2 ⟨e1, e2⟩ => by subst e1; subst e2; exact q
    | true => exact q)
/-- e if c else e2 -/
theorem EW.ifP {t : Bool} {x y : AV} (h : TWb X c ρ t) (h1 : t = true → EW X a ρ fun z ρ1 => z = x ∧ ρ1 = ρ) (h2 : t = false → EW X b ρ fun z ρ1 => z = y ∧ ρ1 = ρ) (q : Q (if t = true then x else y) ρ) : EW X (.IfExp c a b pos) ρ Q :=
  EW.ifExp (TW.imp h fun z ρ1 ⟨e1, e2⟩ => by
    subst e1; subst e2
    cases z with
    | true => exact EW.imp (h1 rfl) fun x ρ2 ⟨e1, e2⟩ => by subst e1; subst e2; exact q
    | false => exact EW.imp (h2 rfl) fun x ρ2 ⟨e1, e2⟩ => by subst e1; subst e2; exact q)
theorem EW.ifI {t : Bool} {x y : Int} (h : TWb X c ρ t) (h1 : t = true → EW X a ρ fun z ρ1 => z = .dat (.int x) ∧ ρ1 = ρ) (h2 : t = false → EW X b ρ fun z ρ1 => z = .dat (.int y) ∧ ρ1 = ρ) (q : Q (.dat (.int (if t = true then x else y))) ρ) : EW X (.IfExp c a b pos) ρ Q :=
  EW.ifP h h1 h2 (by cases t <;> exact q)
theorem EW.ifD {t : Bool} {x y : PyData} (h : TWb X c ρ t) (h1 : t = true → EW X a ρ fun z ρ1 => z = .dat x ∧ ρ1 = ρ) (h2 : t = false → EW X b ρ fun z ρ1 => z = .dat y ∧ ρ1 = ρ) (q : Q (.dat (if t = true then x else y)) ρ) : EW X (.IfExp c a b pos) ρ Q :=
  EW.ifP h h1 h2 (by cases t <;> exact q)
theorem S1.iteP {t : Bool} (h : TWb X c ρ t) (h1 : t = true → SW X bd ρ E) (h2 : t = false → SW X od ρ E) : S1 X (.If c bd od pos) ρ E :=
  S1.ite (TW.imp h fun z ρ1 ⟨e1, e2⟩ => by
    subst e1; subst e2
    cases z with
    | true => exact h1 rfl
    | false => exact h2 rfl)
/-- if c: return ..: the way in is shut -/
theorem S1.iteN {t : Bool} (h : TWb X c ρ t) (h1 : t = false) (h2 : E.nx ρ) : S1 X (.If c bd [] pos) ρ E := S1.iteP h (fun z => by rw [h1] at z; cases z) fun _ => SW.nil h2
/-- a < b < c -/
theorem EW.chainP {o1 o2 : CmpOp} {r1 r2 : R2A} {u v : Bool} (k1 : OpA X (compareOp o1) r1) (k2 : OpA X (compareOp o2) r2) (h : EW X a ρ fun x ρ1 => EW X b ρ1 fun y ρ2 => r1 ρ2 x y fun z => z = .dat (.bool u) ∧ ρ2 = ρ ∧ (u = true → EW X c ρ fun z ρ3 => r2 ρ3 y z fun w => w = .dat (.bool v) ∧ ρ3 = ρ))
    (q : Q (.dat (.bool (u && v))) ρ) (m1 : ∀ ρ x y (q q' : AV → Prop), (∀ z, q z → q' z) → r1 ρ x y q → r1 ρ x y q') (m2 : ∀ ρ x y (q q' : AV → Prop), (∀ z, q z → q' z) → r2 ρ x y q → r2 ρ x y q') (hm : lastMarks [o1, o2] [b, c] = false := by rfl) : EW X (.Compare a [o1, o2] [b, c] pos) ρ Q :=
  EW.chain2 k1 k2 (EW.imp h fun x ρ1 h => EW.imp h fun y ρ2 h => m1 _ _ _ _ _ (fun z hz => by
    obtain ⟨e1, e2, hz⟩ := hz
    subst e1; subst e2
    cases u with
    | true =>
      show EW X c _ _
      exact EW.imp (hz rfl) fun w ρ3 h => m2 _ _ _ _ _ (fun z hz => by obtain ⟨e1, e2⟩ := hz; subst e1; subst e2; exact q) h
    | false => exact q) h) hm
theorem mono_intB {g : Int → Int → Bool} : ∀ ρ x y (q q' : AV → Prop), (∀ z, q z → q' z) → intB g ρ x y q → intB g ρ x y q' := fun ρ x y q q' hq h => by
  unfold intB at h ⊢
  split at h
  · exact hq _ h
  · exact h
/-! ### comprehensions -/
theorem lcM_intro {α : Type} {xs : List α} {g f : α → PyData} {ds : List PyData} (h1 : ds = xs.map g) (h2 : xs.length ≤ 1000000) (h3 : noHol ρ vs = true)
    (h4 : ∀ x, x ∈ xs → ∀ s0 H0 C cl fp, GW (BX X scope s0 H0 C cl fp) tg (g x) (wipeN ρ vs) is fun ρ2 => ∀ s0 H0 C cl fp, EWd (BX X scope s0 H0 C cl fp) elt ρ2 fun y ρ4 => y = f x ∧ restN ρ ρ4 vs = ρ) (h5 : Q (.frs (xs.map f)) ρ) : lcM X scope tg elt is vs Q ds ρ := ⟨α, xs, g, f, h1, h2, h3, h4, h5⟩
theorem lcF_intro {α : Type} {xs : List α} {g f : α → PyData} {t : α → Bool} {ds : List PyData} (h1 : ds = xs.map g) (h2 : xs.length ≤ 1000000) (h3 : noHol ρ vs = true)
    (h4 : ∀ x, x ∈ xs → ∀ s0 H0 C cl fp, GW (BX X scope s0 H0 C cl fp) tg (g x) (wipeN ρ vs) is fun ρ2 => ∀ s0 H0 C cl fp, TW (BX X scope s0 H0 C cl fp) c ρ2 fun b ρ3 => b = t x ∧ restN ρ ρ3 vs = ρ ∧
      (t x = true → ∀ s0 H0 C cl fp, EWd (BX X scope s0 H0 C cl fp) elt ρ3 fun y ρ4 => y = f x ∧ restN ρ ρ4 vs = ρ)) (h5 : Q (.frs ((xs.filter t).map f)) ρ) : lcF X scope tg c elt is vs Q ds ρ := ⟨α, xs, g, t, f, h1, h2, h3, h4, h5⟩
/-! ### for over a typed list -/
theorem S1.forM (C : Ctx X k) (h : IW X tg iter ρ fun ds ρ1 => ∃ (α : Type) (xs : List α) (g : α → PyData), ds = xs.map g ∧ ∃ R : List α → Nv → Prop, R [] ρ1 ∧ (∀ pre z post ρ2, xs = pre ++ z :: post → R pre ρ2 → GW X tg (g z) ρ2 is fun ρ3 => SW X bd ρ3 { E with nx := R (pre ++ [z]), ct := R (pre ++ [z]), bk := E.nx }) ∧ ∀ ρ2, R xs ρ2 → E.nx ρ2)
    (hp : PassesOwn (model X.prog X.w) X.A X.env X.xe) (hs : ∀ x, foldedSetIterable iter X.env x = pure x := by intro _; rfl) : S1 X (.For tg iter bd [] pos) ρ E :=
  S1.for (is := is) C (fun σ H R Ev kk => h σ H R Ev fun J H' ds ρ' P dj ⟨α, xs, g, e, R, r0, rs, rd⟩ => kk J H' ds ρ' P dj (by
    subst e
    refine ⟨fun i ρ => R (xs.take i) ρ, r0 ,  fun i d ρ2 hd hR => ?_, fun ρ2 hR => ?_⟩
    · obtain ⟨z, hz, rfl⟩ := getElem?_map_some hd
      have hi := (List.getElem?_eq_some_iff.mp hz).1
      have e1 : xs = xs.take i ++ z :: xs.drop (i + 1) := by
        have e2 := List.take_append_drop i xs
        rw [List.drop_eq_getElem_cons hi] at e2
        have e3 : xs[i] = z := (List.getElem?_eq_some_iff.mp hz).2
        rw [e3] at e2
        exact e2.symm
      have e4 : xs.take (i + 1) = xs.take i ++ [z] := by rw [List.take_add_one, hz]; rfl
      have q := rs _ z _ ρ2 e1 hR
      rw [← e4] at q
      exact q
    · rw [List.length_map, List.take_length] at hR
      exact rd ρ2 hR)) hp hs
end
/-! ### numbers of a set's places -/
end AW

/-! AW22: slices of typed lists. -/
namespace AW
variable [HasT]
open PySem PySem.Spec PyProof.Rows L2
section
variable {α : Type} {ρ : Nv} {x : AV} {q : AV → Prop}
theorem EWoN {X : Cx} {Q : Option Int → Nv → Prop} (h : Q none ρ) : EWo X none ρ Q := h
theorem EWoS {X : Cx} {e : Expr} {Q : Option Int → Nv → Prop} (h : EW X e ρ fun x ρ1 => ∃ i, x = .dat (.int i) ∧ Q (some i) ρ1) : EWo X (some e) ρ Q := h
theorem cutD_take (l : List α) (g : α → PyData) (j : Nat) : cutD (l.map g) none (some (j : Int)) = (l.take j).map g := by
  unfold cutD
  rw [HT.sIx_nat, HT.sIx_none, List.length_map, List.drop_zero, Nat.sub_zero, ← List.map_take]
  congr 1
  by_cases h : j ≤ l.length
  · rw [Nat.min_eq_left h]
  · rw [Nat.min_eq_right (by omega), List.take_of_length_le (by omega), List.take_of_length_le (by omega)]
theorem cutD_drop (l : List α) (g : α → PyData) (j : Nat) : cutD (l.map g) (some (j : Int)) none = (l.drop j).map g := by
  unfold cutD
  rw [HT.sIx_nat, HT.sIx_none, List.length_map]
  by_cases h : j ≤ l.length
  · rw [Nat.min_eq_left h, List.take_of_length_le (by simp), List.map_drop]
  · rw [Nat.min_eq_right (by omega), Nat.sub_self, List.take_zero, List.drop_of_length_le (by omega)]; rfl
theorem cutD_dropLast (l : List α) (g : α → PyData) : cutD (l.map g) none (some (-1)) = l.dropLast.map g := by
  unfold cutD
  have e : HT.sIx (l.map g).length (l.map g).length (some (-1)) = l.length - 1 := by
    show (if (-1 : Int) < 0 then ((-1 : Int) + ((l.map g).length : Int)).toNat else min (-1 : Int).toNat (l.map g).length) = _
    rw [if_pos (by decide), List.length_map]
    omega
  rw [e, HT.sIx_none, List.drop_zero, Nat.sub_zero, List.dropLast_eq_take, List.map_take]
theorem sliceR_of {lo hi : Option Int} {l m : List α} {g : α → PyData} (e : cutD (l.map g) lo hi = m.map g) (h : seqT x = some (l.map g) ∧ q (.dat (.tuple (m.map g))) ∨ seqL ρ x = some (l.map g) ∧ q (.frs (m.map g))) : sliceR ρ x lo hi q := by
  rcases h with ⟨h, hq⟩ | ⟨h, hq⟩
  · match x, h with
    | .dat (.tuple ds), h =>
      obtain rfl : ds = _ := Option.some.inj h
      show q _
      rw [e]
      exact hq
  · have z : ∃ ds, seqL ρ x = some ds ∧ q (.frs (cutD ds lo hi)) := ⟨_, h, by rw [e]; exact hq⟩
    match x, h with
    | .dat (.list ds), _ => exact z
    | .frs _, _ => exact z
    | .own _, _ => exact z
/-- x[:j] of a tuple -/
theorem slT_take {hi : Option Int} (h : ∃ (l : List α) (g : α → PyData) (j : Nat), hi = some (j : Int) ∧ seqT x = some (l.map g) ∧ q (.dat <| .tuple ((l.take j).map g))) : sliceR ρ x none hi q := by
  obtain ⟨l, g, j, rfl, h, hq⟩ := h
  exact sliceR_of (cutD_take l g j) (.inl ⟨h, hq⟩)
theorem slT_drop (j : Nat) {lo : Option Int} (h : ∃ (l : List α) (g : α → PyData), lo = some (j : Int) ∧ seqT x = some (l.map g) ∧ q (.dat <| .tuple ((l.drop j).map g))) : sliceR ρ x lo none q := by
  obtain ⟨l, g, rfl, h, hq⟩ := h
  exact sliceR_of (cutD_drop l g j) (.inl ⟨h, hq⟩)
theorem slT_dropV {lo : Option Int} (h : ∃ (l : List α) (g : α → PyData) (j : Nat), lo = some (j : Int) ∧ seqT x = some (l.map g) ∧ q (.dat <| .tuple ((l.drop j).map g))) : sliceR ρ x lo none q := by
  obtain ⟨l, g, j, h1, h2, h3⟩ := h
  exact slT_drop j ⟨l, g, h1, h2, h3⟩
theorem slT_dropLast (h : ∃ (l : List α) (g : α → PyData), seqT x = some (l.map g) ∧ q (.dat <| .tuple (l.dropLast.map g))) : sliceR ρ x none (some (-1)) q := by
  obtain ⟨l, g, h, hq⟩ := h
  exact sliceR_of (cutD_dropLast l g) (.inl ⟨h, hq⟩)
theorem slL_take {hi : Option Int} (h : ∃ (l : List α) (g : α → PyData) (j : Nat), hi = some (j : Int) ∧ seqL ρ x = some (l.map g) ∧ q (.frs ((l.take j).map g))) : sliceR ρ x none hi q := by
  obtain ⟨l, g, j, rfl, h, hq⟩ := h
  exact sliceR_of (cutD_take l g j) (.inr ⟨h, hq⟩)
theorem slL_drop (j : Nat) {lo : Option Int} (h : ∃ (l : List α) (g : α → PyData), lo = some (j : Int) ∧ seqL ρ x = some (l.map g) ∧ q (.frs ((l.drop j).map g))) : sliceR ρ x lo none q := by
  obtain ⟨l, g, rfl, h, hq⟩ := h
  exact sliceR_of (cutD_drop l g j) (.inr ⟨h, hq⟩)
theorem slL_dropV {lo : Option Int} (h : ∃ (l : List α) (g : α → PyData) (j : Nat), lo = some (j : Int) ∧ seqL ρ x = some (l.map g) ∧ q (.frs ((l.drop j).map g))) : sliceR ρ x lo none q := by
  obtain ⟨l, g, j, h1, h2, h3⟩ := h
  exact slL_drop j ⟨l, g, h1, h2, h3⟩
theorem slL_dropLast (h : ∃ (l : List α) (g : α → PyData), seqL ρ x = some (l.map g) ∧ q (.frs (l.dropLast.map g))) : sliceR ρ x none (some (-1)) q := by
  obtain ⟨l, g, h, hq⟩ := h
  exact sliceR_of (cutD_dropLast l g) (.inr ⟨h, hq⟩)
end
/-! ### x[::-1] of a tuple -/
end AW

/-! AW23: a < b < c as a test. -/
namespace AW
variable [HasT]
open PySem PySem.Spec PyProof.Rows L2
section
variable {X : Cx} {a b c : Expr} {ρ : Nv} {QT : Bool → Nv → Prop} {pos : Pos}
theorem TW.chain2 {o1 o2 : CmpOp} {r1 r2 : R2A} (h1 : OpA X (compareOp o1) r1) (h2 : OpA X (compareOp o2) r2) (h : EW X a ρ fun x ρ1 => EW X b ρ1 fun y ρ2 => r1 ρ2 x y (boolQ fun t => if t = true then EW X c ρ2 fun z ρ3 => r2 ρ3 y z (boolQ fun u => QT u ρ3) else QT false ρ2))
    (hm : lastMarks [o1, o2] [b, c] = false := by with_unfolding_all rfl) : TW X (.Compare a [o1, o2] [b, c] pos) ρ QT := TW.of fun pins s σ H E I => by
  refine isTrue_chain (thn (h.at E I) fun v s1 ⟨x, H1, xa, ρ1, I1, r1', P1, V1, q1⟩ => test_link (thn (EW.at q1 P1.ok I1) fun u s2 ⟨y, H2, ya, ρ2, I2, r2', P2, V2, q2⟩ => ?_)) hm
  refine thn (h1 pins s2 σ H H2 ρ2 xa ya x y v u _ I2 P2.ok (V1.step E P1 P2) (V2.back fun a n => P1.free n) r1' r2' q2) fun w s3 h3 => ?_
  obtain ⟨z, H3, za, ρ3, I3, r3, P3, V3, e3, q3⟩ := h3
  subst e3
  match za, V3, q3 with
  | .dat (.bool t), V3, q3 =>
    obtain rfl := Rp.bool_inv V3
    obtain rfl : w = Value.bool t := r3
    refine wpAny_truthy_bool ?_
    cases t with
    | false =>
      refine (if_neg Bool.false_ne_true).symm ▸ ?_
      simp only [boolQ, Bool.false_eq_true, ↓reduceIte] at q3
      exact ⟨H3, _, I3, (P1.trans P2).trans P3, q3⟩
    | true =>
      refine if_pos rfl ▸ ?_
      simp only [boolQ, ↓reduceIte] at q3
      have P23 := P2.trans P3
      refine test_last (thn (EW.at q3 P3.ok I3) fun u4 s4 ⟨z4, H4, za4, ρ4, I4, r4, P4, V4, q4⟩ => ?_)
      refine thn (h2 pins s4 σ H H4 ρ4 ya za4 y z4 u u4 _ I4 P4.ok (((V2.step P1.ok P2 P3).step P1.ok P23 P4).back fun a n => P1.free n) (V4.back fun a n => (P1.trans P23).free n) r2' r4 q4) fun w s5 h5 => ?_
      obtain ⟨z5, H5, za5, ρ5, I5, r5, P5, V5, e5, q5⟩ := h5
      subst e5
      match za5, V5, q5 with
      | .dat (.bool t5), V5, q5 =>
        obtain rfl := Rp.bool_inv V5
        obtain rfl : w = Value.bool t5 := r5
        exact wpAny_truthy_bool ⟨H5, _, I5, ((P1.trans P23).trans P4).trans P5, q5⟩
theorem TW.chainP {o1 o2 : CmpOp} {r1 r2 : R2A} {u v : Bool} (k1 : OpA X (compareOp o1) r1) (k2 : OpA X (compareOp o2) r2) (h : EW X a ρ fun x ρ1 => EW X b ρ1 fun y ρ2 => r1 ρ2 x y fun z => z = .dat (.bool u) ∧ ρ2 = ρ ∧ (u = true → EW X c ρ fun z ρ3 => r2 ρ3 y z fun w => w = .dat (.bool v) ∧ ρ3 = ρ))
    (q : QT (u && v) ρ) (m1 : ∀ ρ x y (q q' : AV → Prop), (∀ z, q z → q' z) → r1 ρ x y q → r1 ρ x y q') (m2 : ∀ ρ x y (q q' : AV → Prop), (∀ z, q z → q' z) → r2 ρ x y q → r2 ρ x y q') (hm : lastMarks [o1, o2] [b, c] = false := by rfl) : TW X (.Compare a [o1, o2] [b, c] pos) ρ QT :=
  TW.chain2 k1 k2 (EW.imp h fun x ρ1 h => EW.imp h fun y ρ2 h => m1 _ _ _ _ _ (fun z hz => by
    obtain ⟨e1, e2, hz⟩ := hz
    subst e1; subst e2
    cases u with
    | true =>
      show EW X c _ _
      exact EW.imp (hz rfl) fun w ρ3 h => m2 _ _ _ _ _ (fun z hz => by obtain ⟨e1, e2⟩ := hz; subst e1; subst e2; exact q) h
    | false => exact q) h) hm
end
end AW

/-! AW24: x[::-1] of a tuple. -/
namespace AW
open PySem PySem.Spec PyProof.Rows L2 HT
section
variable {prog : Program} {w : World} {A : Around} {E : Value → Shared → Prop} {s : Shared}
theorem adjust_rev (n : Nat) : Builtin.Slice.sliceAdjust none none (-1) (n : Int) = ((n : Int) - 1, -1) := by
  unfold Builtin.Slice.sliceAdjust
  have h1 : ((-1 : Int) < 0) := by omega
  simp only [h1, if_true]
theorem places_rev (n : Nat) : Builtin.Slice.slicePlaces ((n : Int) - 1) (-1) (-1) = n := by
  unfold Builtin.Slice.slicePlaces
  have h1 : ¬ ((-1 : Int) > 0) := by omega
  simp only [h1, if_false]
  split
  · have e : ((n : Int) - 1 - -1 - 1) / (- -1) = (n : Int) - 1 := by
      show ((n : Int) - 1 - -1 - 1) / 1 = _
      rw [Int.ediv_one]
      omega
    rw [e]
    omega
  · omega
theorem sliceApplied_rev {sl : Addr} {vs : Value} {n : Nat} {Q : Int × Int × Nat → Shared → Prop} (hs : s.heap.IsSliceOf sl .none .none vs) (ps : IsPart vs (some (-1)))
    (h : Q ((n : Int) - 1, -1, n) s) : wpAny (model prog w) A (Builtin.Slice.sliceApplied (.ref sl) (pure (n : Int))) Q E s := by
  obtain ⟨os, hos, hcs, hds⟩ := id hs
  unfold Builtin.Slice.sliceApplied Builtin.Slice.sliceFields
  refine wpAny_bind (wpAny_bind (wpAny_field hos hds (x := .none) rfl (wpAny_bind (wpAny_field hos hds (x := .none) rfl (wpAny_bind (wpAny_field hos hds (x := vs) rfl (wpAny_pure ?_)))))))
  refine wpAny_bind (slicePart_ ps ?_)
  show wpAny _ _ (if ((-1 : Int) == 0) = true then _ else _) _ _ s
  rw [if_neg (by decide)]
  refine wpAny_bind (slicePart_none (wpAny_bind (slicePart_none (wpAny_bind (wpAny_pure ?_)))))
  show wpAny _ _ (match Builtin.Slice.sliceAdjust none none (-1) (n : Int) with | (lo, hi) => pure (lo, (-1 : Int), Builtin.Slice.slicePlaces lo hi (-1))) _ _ s
  rw [adjust_rev n]
  show wpAny _ _ (pure ((n : Int) - 1, (-1 : Int), Builtin.Slice.slicePlaces ((n : Int) - 1) (-1) (-1))) _ _ s
  rw [places_rev]
  exact wpAny_pure h
theorem pick_rev (xs : Array Value) : ((List.range xs.size).filterMap fun (m : Nat) => xs[(((xs.size : Nat) : Int) - 1 + (m : Int) * (-1)).toNat]?).toArray = xs.toList.reverse.toArray := by
  congr 1
  refine List.ext_getElem? fun i => ?_
  have key : ∀ l : List Nat, (∀ m ∈ l, m < xs.size) → l.filterMap (fun (m : Nat) => xs[(((xs.size : Nat) : Int) - 1 + (m : Int) * (-1)).toNat]?) = l.map fun m => xs.toList.reverse.getD m .none := by
    intro l
    induction l with
    | nil => intro _; rfl
    | cons m l ih =>
      intro h
      have hm := h m List.mem_cons_self
      have e1 : (((xs.size : Nat) : Int) - 1 + (m : Int) * (-1)).toNat = xs.size - 1 - m := by omega
      have e2 : xs[xs.size - 1 - m]? = some (xs.toList.reverse.getD m .none) := by
        rw [← Array.getElem?_toList, List.getD_eq_getElem?_getD, List.getElem?_reverse (by simpa using hm), Array.length_toList, List.getElem?_eq_getElem (by simp; omega)]
        rfl
      rw [List.filterMap_cons, e1, e2]
      simp only [List.map_cons]
      rw [ih fun m hm => h m (List.mem_cons_of_mem _ hm)]
  rw [key _ fun m hm => List.mem_range.mp hm, List.getElem?_map]
  by_cases hi : i < xs.size
  · rw [List.getElem?_range hi, List.getElem?_eq_getElem (by simpa using hi), Option.map_some, List.getD_eq_getElem?_getD, List.getElem?_eq_getElem (by simpa using hi)]
    rfl
  · rw [List.getElem?_eq_none (by simp; omega), List.getElem?_eq_none (by simp; omega)]
    rfl
theorem getItem_tuple_rev {t sl : Addr} {items : Array Value} {vs : Value} {Q : Value → Shared → Prop} (ht : IsTup s.heap t items) (hs : s.heap.IsSliceOf sl .none .none vs) (ps : IsPart vs (some (-1)))
    (h : Q (.ref s.heap.objs.size) { s with heap := s.heap.push { cls := .type "tuple", data := .seq items.toList.reverse.toArray } })
    (hsz : items.size ≤ sizeLine) : wpAny (model prog w) A (getItem (.ref t) (.ref sl)) Q E s := by
  have htake : sizeOk (.seq items.toList.reverse.toArray) := by
    show items.toList.reverse.toArray.size ≤ sizeLine
    rw [List.size_toArray, List.length_reverse, Array.length_toList]
    omega
  obtain ⟨os, hos, hcs, hds⟩ := id hs
  have hTs : s.TypeIs (.ref sl) "slice" := ⟨os, hos, hcs⟩
  unfold getItem
  try with_reducible refine wpAny_holding ?_
  first | refine wpAny_bind (wpAny_pure ?_) | skip
  refine wpAny_bind (wpAny_sequenceKey ht.typeIs (by decide) ?_)
  refine wpAny_bind (wpAny_callSpecial?_slot (name := Str.ofString "__getitem__") ht.typeIs PyProof.Rows.slot_tuple_getitem
    (wpAny_call_entry PyProof.Rows.slot_tuple_getitem ht.typeIs entry_tuple_getitem ?_ (args_tuple_getitem _ _)))
  show wpAny _ _ (Builtin.Tuple.tupleItemsOf (.ref t) >>= _) _ _ s
  refine wpAny_bind (tupleItemsOf_ ht ?_)
  refine wpAny_bind (wpAny_typeOf hTs ?_)
  rw [if_pos (by decide)]
  refine wpAny_bind (sliceApplied_rev hs ps ?_)
  have hno : ¬ ((((items.size : Nat) : Int) - 1 == 0 && (-1 : Int) == 1 && items.size == items.size) = true) := by
    rw [show ((-1 : Int) == 1) = false from by decide, Bool.and_false, Bool.false_and]
    exact Bool.false_ne_true
  show wpAny _ _ (if (((items.size : Nat) : Int) - 1 == 0 && (-1 : Int) == 1 && items.size == items.size) = true then _ else _) _ _ s
  rw [if_neg hno, pick_rev]
  first
    | exact wpAny_bind (m := Builtin.Tuple.tupleExact _) (wpAny_newObj_type (wpAny_pure ⟨_, rfl, wpAny_pure h⟩) htake)
    | exact wpAny_bind (m := Builtin.Tuple.tupleExact _) (wpAny_newObj_type (wpAny_bind (wpAny_pure (wpAny_pure ⟨_, rfl, wpAny_pure h⟩))) htake)
    | exact wpAny_bind (wpAny_bind (m := Builtin.Tuple.tupleExact _) (wpAny_newObj_type (wpAny_pure (wpAny_pure ⟨_, rfl, wpAny_pure h⟩)) htake))
    | exact wpAny_bind (wpAny_bind (m := Builtin.Tuple.tupleExact _) (wpAny_newObj_type (wpAny_pure ⟨_, rfl, wpAny_pure h⟩) htake))
end
section
variable [HasT] {X : Cx} {e : Expr} {ρ : Nv} {Q : QE}
def tRevT (K : PySem.W.Frag) (te : TE) : TE := fun σ H Q => te σ H fun x H1 => ∃ a xs, x = .ref a ∧ SqT K H1 a xs ∧ ∀ p, H1 p = none → Q (.ref p) (upd H1 p (.tup xs.reverse))
theorem pe_revT {te : TE} {k : Nat} {p1 p2 p3 pos : Pos} (he : PE X e te) : PE X (.Subscript e (.Slice none none (some (.UnaryOp .USub (.Constant (.int 1) k p1) p2)) p3) pos) (tRevT X.K te) := by
  refine ⟨fun pins s σ H Q I h => ?_⟩
  refine Subscript_ (thn (he.run pins s σ H _ I h) fun v s1 ⟨x, H1, I1, r1, q1⟩ => ?_)
  obtain ⟨a, xs, ex, hx, q⟩ := q1
  subst ex
  cases r1
  have hst : PO X (some (.UnaryOp .USub (.Constant (.int 1) k p1) p2)) (tPart (tUn (rU fun i => .int (-i)) (tC (.int 1)))) := po_some (pe_un un_neg pe_int)
  refine wpAny_Slice (thn (po_none.run pins s1 σ H1 (fun o H2 => o = none ∧ H2 = H1) I1 ⟨rfl, rfl⟩) fun vl s2 ⟨l, H2, I2, pl, el, e2⟩ => ?_)
  subst el e2
  refine thn (po_none.run pins s2 σ H2 (fun o H3 => o = none ∧ H3 = H2) I2 ⟨rfl, rfl⟩) fun vu s3 ⟨u, H3, I3, pu, eu, e3⟩ => ?_
  subst eu e3
  refine thn (hst.run pins s3 σ H3 (fun o H4 => o = some (-1) ∧ H4 = H3) I3 ⟨1, rfl, -1, rfl, rfl, rfl⟩) fun vs s4 ⟨o, H4, I4, ps, eo, e4⟩ => ?_
  subst eo e4
  cases pl
  cases pu
  have I5 : L2.Inv X pins σ H4 { s4 with heap := s4.heap.push { cls := .type "slice", data := .fields #[.none, .none, vs] } } := I4.kept (t' := s4.toks) fun b ob q => Heap.get?_push_of_some _ q
  obtain ⟨its, r, ht, hz⟩ := I5.tuple hx
  have hlen := r.length
  show wpAny (model X.prog X.w) X.A (subscriptTail e (.Slice none none (some (.UnaryOp .USub (.Constant (.int 1) k p1) p2)) p3) (.ref a) (.ref s4.heap.objs.size)) (EP X pins σ Q) X.xe { s4 with heap := s4.heap.push { cls := .type "slice", data := .fields #[.none, .none, vs] } }
  refine tail_any (ops := [.ref a, .ref s4.heap.objs.size]) ht.typeIs PyProof.Rows.slot_tuple_getitem.lookup ?_ (by with_unfolding_all rfl)
  refine getItem_tuple_rev ht (Heap.IsSliceOf.new _ .none .none vs) ps ?_ (by rw [List.size_toArray]; omega)
  refine ⟨.ref _, _, I5.laid (t' := s4.toks) (o := .tup xs.reverse) (fun b ob q => Heap.get?_push_of_some _ q) (Nat.le_refl _) ?_, rfl, q _ (I5.hok.fresh (Nat.le_refl _))⟩
  exact ⟨by rw [List.length_reverse]; exact hz, _, r.reverse, IsTup.new _ _⟩
theorem EW.revT {k : Nat} {p1 p2 p3 pos : Pos} (h : EW X e ρ fun x ρ1 => ∃ ds, x = .dat (.tuple ds) ∧ Q (.dat (.tuple ds.reverse)) ρ1) : EW X (.Subscript e (.Slice none none (some (.UnaryOp .USub (.Constant (.int 1) k p1) p2)) p3) pos) ρ Q := fun σ H R E kk pins s I =>
  (pe_revT pe_W).run pins s σ H R I (h σ H _ E fun v H1 x ρ1 P1 V1 ⟨ds, e, q⟩ => by
    subst e
    obtain ⟨m, xs, rfl, r, rp⟩ := seqT_ok (ds := ds) V1 rfl
    exact ⟨m, xs, rfl, r, fun p n => kk _ _ (.dat (.tuple ds.reverse)) _ (P1.trans (Pex.new P1.ok n)) (vdat (.tuple upd_same (RpAll.mono (Stb.new n) _ _ rp.reverse))) q⟩)
theorem EW.revL {k : Nat} {p1 p2 p3 pos : Pos} (h : EW X e ρ fun x ρ1 => ∃ ds, seqL ρ1 x = some ds ∧ Q (.frs ds.reverse) ρ1) : EW X (.Subscript e (.Slice none none (some (.UnaryOp .USub (.Constant (.int 1) k p1) p2)) p3) pos) ρ Q := fun σ H R E kk pins s I =>
  (pe_revL pe_W).run pins s σ H R I (h σ H _ E fun v H1 x ρ1 P1 V1 ⟨ds, e, q⟩ => by
    obtain ⟨m, xs, rfl, r, rp⟩ := seqL_ok P1.ok V1 e
    exact ⟨m, xs, rfl, r.sq, fun p n => kk _ _ (.frs ds.reverse) _ (P1.trans (Pex.new P1.ok n)) ⟨p, _, rfl, P1.free n, upd_same, RpAll.mono (Stb.new n) _ _ rp.reverse⟩ q⟩)
end
end AW

/-! AW25: encodings that may be compared whole. -/
namespace AW
variable [HasT]
open PySem PySem.Spec PyProof.Rows L2
structure EncOk {α : Type} [DecidableEq α] (m : Nat) (e : α → PyData) : Prop where
  inj : Inj e
  lay : ∀ a, (e a).canLay0 = true
  dep : ∀ a, (e a).depth ≤ m
section
variable {α β : Type} [DecidableEq α] [DecidableEq β] {m n : Nat} {e : α → PyData} {e2 : β → PyData}
theorem EncOk.int : EncOk 0 PyData.int := ⟨Inj.int, fun _ => rfl, fun _ => Nat.le_refl _⟩
theorem EncOk.nat : EncOk 0 eN := ⟨Inj.nat, fun _ => rfl, fun _ => Nat.le_refl _⟩
theorem EncOk.bool : EncOk 0 PyData.bool := ⟨Inj.bool, fun _ => rfl, fun _ => Nat.le_refl _⟩
theorem canLayAll_map (h : ∀ a, (e a).canLay0 = true) : ∀ l : List α, PyData.canLayAll0 (l.map e) = true
  | [] => rfl
  | a :: l => by simp only [List.map_cons, PyData.canLayAll0, h a, canLayAll_map h l, Bool.and_self]
theorem depthAll_map (h : ∀ a, (e a).depth ≤ m) : ∀ l : List α, PyData.depthAll (l.map e) ≤ m
  | [] => Nat.zero_le _
  | a :: l => by simp only [List.map_cons, PyData.depthAll]; exact Nat.max_le.mpr ⟨h a, depthAll_map h l⟩
theorem EncOk.tup (h : EncOk m e) : EncOk (m + 1) (eT e) := ⟨h.inj.tup, fun l => by
  show PyData.canLay0 (.tuple _) = true
  unfold PyData.canLay0
  exact canLayAll_map h.lay l, fun l => by
  show PyData.depth (.tuple _) ≤ _
  unfold PyData.depth
  have := depthAll_map h.dep l
  omega⟩
theorem EncOk.lst (h : EncOk m e) : EncOk (m + 1) (eL e) := ⟨h.inj.lst, fun l => by
  show PyData.canLay0 (.list _) = true
  unfold PyData.canLay0
  exact canLayAll_map h.lay l, fun l => by
  show PyData.depth (.list _) ≤ _
  unfold PyData.depth
  have := depthAll_map h.dep l
  omega⟩
abbrev eP {α β : Type} (e : α → PyData) (e2 : β → PyData) (p : α × β) : PyData := .tuple [e p.1, e2 p.2]
theorem EncOk.pair (h : EncOk m e) (h2 : EncOk n e2) : EncOk (max m n + 1) (eP e e2) := ⟨fun a b => by
  show PyData.eqv (.tuple [e a.1, e2 a.2]) (.tuple [e b.1, e2 b.2]) = _
  unfold PyData.eqv
  simp only [PyData.eqvAll, h.inj a.1 b.1, h2.inj a.2 b.2, Bool.and_true]
  by_cases h1 : a.1 = b.1 <;> by_cases h2 : a.2 = b.2 <;> simp [Prod.ext_iff, h1, h2], fun p => by
  show PyData.canLay0 (.tuple _) = true
  simp only [PyData.canLay0, PyData.canLayAll0, h.lay, h2.lay, Bool.and_self], fun p => by
  show PyData.depth (.tuple _) ≤ _
  simp only [PyData.depth, PyData.depthAll]
  have := h.dep p.1
  have := h2.dep p.2
  omega⟩
theorem EncOk.mono (h : EncOk m e) (hm : m ≤ n) : EncOk n e := ⟨h.inj, h.lay, fun a => Nat.le_trans (h.dep a) hm⟩
theorem EncOk.of {e2 : α → PyData} (h : EncOk m e) (hm : ∀ a, e2 a = e a) : EncOk m e2 := by
  have : e2 = e := funext hm
  rw [this]; exact h
theorem EncOk.shaped (h : EncOk m e) (hm : m ≤ 64) (a : α) : SeqAt.shaped (e a) = true := by
  unfold SeqAt.shaped
  have := h.dep a
  rw [h.lay, Bool.true_and, decide_eq_true_eq]
  omega
variable {ρ : Nv} {x y : AV} {q : AV → Prop}
theorem eqT_enc (h : EncOk m e) (z : ∃ a b, readD ρ x = some (e a) ∧ readD ρ y = some (e b) ∧ q (.dat (.bool (decide (a = b))))) (hm : m ≤ 64 := by decide) : eqT ρ x y q := by
  obtain ⟨a, b, h1, h2, h3⟩ := z
  exact eqT_inj h.inj ⟨a, b, h1, h2, h.shaped hm a, h.shaped hm b, h3⟩
theorem neT_enc (h : EncOk m e) (z : ∃ a b, readD ρ x = some (e a) ∧ readD ρ y = some (e b) ∧ q (.dat (.bool (decide (¬ a = b))))) (hm : m ≤ 64 := by decide) : neT ρ x y q := by
  obtain ⟨a, b, h1, h2, h3⟩ := z
  exact neT_inj h.inj ⟨a, b, h1, h2, h.shaped hm a, h.shaped hm b, h3⟩
/-- beside an empty tuple, list -/
theorem eqT_nilT (h : EncOk m e) (z : ∃ l : List α, readD ρ x = some (.tuple (l.map e)) ∧ y = .dat (.tuple []) ∧ q (.dat (.bool (decide (l = []))))) (hm : m + 1 ≤ 64 := by decide) : eqT ρ x y q := by
  obtain ⟨l, h1, h2, h3⟩ := z
  subst h2
  exact eqT_enc h.tup ⟨l, [], h1, rfl, h3⟩ hm
theorem neT_nilT (h : EncOk m e) (z : ∃ l : List α, readD ρ x = some (.tuple (l.map e)) ∧ y = .dat (.tuple []) ∧ q (.dat (.bool (decide (¬ l = []))))) (hm : m + 1 ≤ 64 := by decide) : neT ρ x y q := by
  obtain ⟨l, h1, h2, h3⟩ := z
  subst h2
  exact neT_enc h.tup ⟨l, [], h1, rfl, h3⟩ hm
theorem eqT_nilL (h : EncOk m e) (z : ∃ l : List α, readD ρ x = some (.list (l.map e)) ∧ readD ρ y = some (.list []) ∧ q (.dat (.bool (decide (l = []))))) (hm : m + 1 ≤ 64 := by decide) : eqT ρ x y q := by
  obtain ⟨l, h1, h2, h3⟩ := z
  exact eqT_enc h.lst ⟨l, [], h1, h2, h3⟩ hm
theorem neT_nilL (h : EncOk m e) (z : ∃ l : List α, readD ρ x = some (.list (l.map e)) ∧ readD ρ y = some (.list []) ∧ q (.dat (.bool (decide (¬ l = []))))) (hm : m + 1 ≤ 64 := by decide) : neT ρ x y q := by
  obtain ⟨l, h1, h2, h3⟩ := z
  exact neT_enc h.lst ⟨l, [], h1, h2, h3⟩ hm
end
section
variable {ρ : Nv} {q : AV → Prop}
theorem eqT_int {i j : Int} (h : q (.dat (.bool (decide (i = j))))) : eqT ρ (.dat (.int i)) (.dat (.int j)) q := h
theorem neT_int {i j : Int} (h : q (.dat (.bool (decide (¬ i = j))))) : neT ρ (.dat (.int i)) (.dat (.int j)) q := h
theorem eqT_str {i j : Str} (h : q (.dat (.bool (decide (i = j))))) : eqT ρ (.dat (.str i)) (.dat (.str j)) q := h
theorem neT_str {i j : Str} (h : q (.dat (.bool (decide (¬ i = j))))) : neT ρ (.dat (.str i)) (.dat (.str j)) q := h
theorem eqT_bool {i j : Bool} (h : q (.dat (.bool (decide (i = j))))) : eqT ρ (.dat (.bool i)) (.dat (.bool j)) q := h
theorem neT_bool {i j : Bool} (h : q (.dat (.bool (decide (¬ i = j))))) : neT ρ (.dat (.bool i)) (.dat (.bool j)) q := h
end
/-! ### in -/
section
variable {prog : Program} {w : World} {A : Around} {E : Value → Shared → Prop} {s : Shared}
theorem in_tuple_reads {c x : Value} {xs : List PyData} {d : PyData} {as bs : List Addr} {Q : Value → Shared → Prop} (rc : Reads s.heap c (.tuple xs) as) (rx : Reads s.heap x d bs) (hxs : PyData.canLayAll0 xs = true) (hd : d.canLay0 = true)
    (hu : A.units + 1 + min (PyData.depthAll xs) d.depth < cLine) (h : Q (.bool (xs.any fun y => PyData.eqv y d)) s) : wpAny (model prog w) A (compareOp .In x c) Q E s := by
  cases rc with
  | tuple h1 h2 h3 h4 => exact SeqAt.in_tupleAt _ ⟨_, h1, h2, _, h3⟩ (SeqAt.items_eqAt h4 rx hxs hd hu) (by rw [SeqAt.any_by_data h4 hxs]; exact h)
theorem notIn_tuple_reads {c x : Value} {xs : List PyData} {d : PyData} {as bs : List Addr} {Q : Value → Shared → Prop} (rc : Reads s.heap c (.tuple xs) as) (rx : Reads s.heap x d bs) (hxs : PyData.canLayAll0 xs = true) (hd : d.canLay0 = true)
    (hu : A.units + 1 + min (PyData.depthAll xs) d.depth < cLine) (h : Q (.bool (!xs.any fun y => PyData.eqv y d)) s) : wpAny (model prog w) A (compareOp .NotIn x c) Q E s := by
  cases rc with
  | tuple h1 h2 h3 h4 => exact SeqAt.notIn_tupleAt _ ⟨_, h1, h2, _, h3⟩ (SeqAt.items_eqAt h4 rx hxs hd hu) (by rw [SeqAt.any_by_data h4 hxs]; exact h)
end
section
variable {X : Cx} {k : Nat}
def inTR (neg : Bool) : R2A := fun ρ x y q => ∃ d ds, readD ρ x = some d ∧ seqT y = some ds ∧ SeqAt.shaped d = true ∧ SeqAt.shaped (.tuple ds) = true ∧ q (.dat (.bool (if neg then !inB d ds else inB d ds)))
theorem opA_inT (C : Ctx X k) : OpA X (compareOp .In) (inTR false) := fun pins s σ H0 H ρ x y v u vv uu q I E V U rv ru hq => by
  obtain ⟨d, ds, h1, h2, s1, s2, hq⟩ := hq
  have d1 := readD_ok E V h1 (nodict_of_shaped s1)
  obtain ⟨m, xs, rfl, r2, p2⟩ := seqT_ok U h2
  have d2 : Dp X.K H (.ref m) (.tuple ds) := .tup r2 (RpAll.dp ds _ p2 (by simpa [PyData.hasDict] using nodict_of_shaped s2))
  obtain ⟨as, r1⟩ := Dp.reads I d _ vv d1 rv
  obtain ⟨bs, r2⟩ := Dp.reads I (.tuple ds) _ uu d2 ru
  refine thn (Q := fun u' s' => u' = .bool (inB d ds) ∧ s' = s) (in_tuple_reads r2 r1 (SeqAt.canLay_of_shaped s2) (SeqAt.canLay_of_shaped s1) (room_in_shaped s1 (by have := C.units; omega)) ⟨rfl, rfl⟩) fun u' s' ⟨e1, e2⟩ => ?_
  subst e1
  subst e2
  exact ⟨.bl (inB d ds), H, _, ρ, I, rfl, Pex.refl E, vdat (.bool _), rfl, hq⟩
theorem opA_notInT (C : Ctx X k) : OpA X (compareOp .NotIn) (inTR true) := fun pins s σ H0 H ρ x y v u vv uu q I E V U rv ru hq => by
  obtain ⟨d, ds, h1, h2, s1, s2, hq⟩ := hq
  have d1 := readD_ok E V h1 (nodict_of_shaped s1)
  obtain ⟨m, xs, rfl, r2, p2⟩ := seqT_ok U h2
  have d2 : Dp X.K H (.ref m) (.tuple ds) := .tup r2 (RpAll.dp ds _ p2 (by simpa [PyData.hasDict] using nodict_of_shaped s2))
  obtain ⟨as, r1⟩ := Dp.reads I d _ vv d1 rv
  obtain ⟨bs, r2⟩ := Dp.reads I (.tuple ds) _ uu d2 ru
  refine thn (Q := fun u' s' => u' = .bool (!inB d ds) ∧ s' = s) (notIn_tuple_reads r2 r1 (SeqAt.canLay_of_shaped s2) (SeqAt.canLay_of_shaped s1) (room_in_shaped s1 (by have := C.units; omega)) ⟨rfl, rfl⟩) fun u' s' ⟨e1, e2⟩ => ?_
  subst e1
  subst e2
  exact ⟨.bl (!inB d ds), H, _, ρ, I, rfl, Pex.refl E, vdat (.bool _), rfl, hq⟩
def inQ (neg : Bool) : R2A := fun ρ x y q => inR neg ρ x y q ∨ inTR neg ρ x y q
theorem opI (C : Ctx X k) : OpA X (compareOp .In) (inQ false) := (opA_in C).or (opA_inT C)
theorem opJ (C : Ctx X k) : OpA X (compareOp .NotIn) (inQ true) := (opA_notIn C).or (opA_notInT C)
variable {α : Type} [DecidableEq α] {m : Nat} {e : α → PyData} {ρ : Nv} {x y : AV} {q : AV → Prop}
theorem inQ_nat (h : ∃ (i : Nat) (g : List Nat), x = .dat (.int (i : Int)) ∧ seqA ρ y = some (g.map eN) ∧ q (.dat (.bool (decide (i ∈ g))))) : inQ false ρ x y q := .inl (inR_nat (neg := false) h)
theorem inQ_int (h : ∃ (i : Int) (g : List Int), x = .dat (.int i) ∧ seqA ρ y = some (g.map PyData.int) ∧ q (.dat (.bool (decide (i ∈ g))))) : inQ false ρ x y q := .inl (inR_int (neg := false) h)
theorem notQ_nat (h : ∃ (i : Nat) (g : List Nat), x = .dat (.int (i : Int)) ∧ seqA ρ y = some (g.map eN) ∧ q (.dat (.bool (decide (¬ i ∈ g))))) : inQ true ρ x y q := by
  obtain ⟨i, g, h1, h2, h3⟩ := h
  rw [dn] at h3
  exact .inl (inR_nat (neg := true) ⟨i, g, h1, h2, h3⟩)
theorem notQ_int (h : ∃ (i : Int) (g : List Int), x = .dat (.int i) ∧ seqA ρ y = some (g.map PyData.int) ∧ q (.dat (.bool (decide (¬ i ∈ g))))) : inQ true ρ x y q := by
  obtain ⟨i, g, h1, h2, h3⟩ := h
  rw [dn] at h3
  exact .inl (inR_int (neg := true) ⟨i, g, h1, h2, h3⟩)
/-- a value in a list or tuple of data of one encoding -/
theorem inQ_enc (h : EncOk m e) (z : ∃ (i : α) (g : List α), readD ρ x = some (e i) ∧ seqA ρ y = some (g.map e) ∧ q (.dat (.bool (decide (i ∈ g))))) (hm : m + 1 ≤ 64 := by decide) : inQ false ρ x y q := by
  obtain ⟨i, g, h1, h2, h3⟩ := z
  rw [← inB_map h.inj] at h3
  cases h4 : seqL ρ y with
  | some ds =>
    have e : seqA ρ y = some ds := by unfold seqA; rw [h4]
    rw [e] at h2
    obtain rfl := Option.some.inj h2
    have z : ∃ d ds, readD ρ x = some d ∧ ((seqA ρ y = some ds ∧ flatD d = true ∧ ds.all flatD = true) ∨ (seqL ρ y = some ds ∧ SeqAt.shaped d = true ∧ SeqAt.shaped (.list ds) = true)) ∧ q (.dat (.bool (inB d ds))) := ⟨_, _, h1, .inr ⟨h4, h.shaped (by omega) i, h.lst.shaped hm g⟩, h3⟩
    refine .inl ?_
    unfold inR
    split
    · exact nomatch h4
    · exact z
  | none =>
    have e : seqA ρ y = seqT y := by unfold seqA; rw [h4]
    rw [e] at h2
    exact .inr ⟨_, _, h1, h2, h.shaped (by omega) i, h.tup.shaped hm g, h3⟩
theorem notQ_enc (h : EncOk m e) (z : ∃ (i : α) (g : List α), readD ρ x = some (e i) ∧ seqA ρ y = some (g.map e) ∧ q (.dat (.bool (decide (¬ i ∈ g))))) (hm : m + 1 ≤ 64 := by decide) : inQ true ρ x y q := by
  obtain ⟨i, g, h1, h2, h3⟩ := z
  rw [dn, ← inB_map h.inj] at h3
  cases h4 : seqL ρ y with
  | some ds =>
    have e : seqA ρ y = some ds := by unfold seqA; rw [h4]
    rw [e] at h2
    obtain rfl := Option.some.inj h2
    have z : ∃ d ds, readD ρ x = some d ∧ ((seqA ρ y = some ds ∧ flatD d = true ∧ ds.all flatD = true) ∨ (seqL ρ y = some ds ∧ SeqAt.shaped d = true ∧ SeqAt.shaped (.list ds) = true)) ∧ q (.dat (.bool (!inB d ds))) := ⟨_, _, h1, .inr ⟨h4, h.shaped (by omega) i, h.lst.shaped hm g⟩, h3⟩
    refine .inl ?_
    unfold inR
    split
    · exact nomatch h4
    · exact z
  | none =>
    have e : seqA ρ y = seqT y := by unfold seqA; rw [h4]
    rw [e] at h2
    exact .inr ⟨_, _, h1, h2, h.shaped (by omega) i, h.tup.shaped hm g, h3⟩
end
end AW

/-! AW26: comprehensions that draw from the urn. -/
namespace AW
variable [HasT]
open PySem PySem.Spec PyProof.Rows L2
section
variable {X : Cx} {scope : Scope} {tg elt : Expr} {ifs : List Expr} {ρ : Nv} {is vs : List Nat} {Qf : List PyData → Nv → Prop}
theorem addR_int {ρ : Nv} {i j : Int} {q : AV → Prop} (h : q (.dat (.int (i + j)))) : addR ρ (.dat (.int i)) (.dat (.int j)) q := h
theorem set_same' {u : Nat} {s : SV} (h : ρ[u]? = some s) : ρ.set u s = ρ := by
  refine List.ext_getElem? fun i => ?_
  by_cases e : u = i
  · subst e
    rw [List.getElem?_set_self (get_lt h), h]
  · rw [List.getElem?_set_ne e]
theorem lcU_intro {α β : Type} {xs : List α} {g : α → PyData} {ds : List PyData} (u c : Nat) (P : α → β → Prop) (hh : β → PyData) {p : Bool} {d0 : List PyData} {b : Nat}
    (h1 : ds = xs.map g) (h2 : xs.length ≤ 1000000) (h3 : noHol ρ vs = true) (h4 : ρ[u]? = some (.hol p d0)) (h5 : Urn b d0)
    (h6 : ∀ (i : Nat) z d, xs[i]? = some z → Urn (b + c * i) d → Turn1 X scope tg ifs elt is vs (g z) (ρ.set u (.hol p d)) fun o ρ3 => ∃ y d', o = some (hh y) ∧ P z y ∧ ρ3 = ρ.set u (.hol p d') ∧ Urn (b + c * (i + 1)) d')
    (h7 : ∀ (ys : List β) d, ys.length = xs.length → (∀ (i : Nat) z y, xs[i]? = some z → ys[i]? = some y → P z y) → Urn (b + c * xs.length) d → Qf (ys.map hh) (ρ.set u (.hol p d))) :
    ds.length ≤ 1000000 ∧ noHol ρ vs = true ∧ ∃ W : Nat → List PyData → Nv → Prop, W 0 [] ρ ∧ (∀ i d acc ρ2, ds[i]? = some d → W i acc ρ2 → Turn1 X scope tg ifs elt is vs d ρ2 fun o ρ3 => W (i + 1) (addO acc o) ρ3) ∧ ∀ acc ρ2, W ds.length acc ρ2 → Qf acc ρ2 := by
  subst h1
  refine ⟨by simpa using h2, h3, fun i acc ρ2 => ∃ (ys : List β) (d : List PyData), acc = ys.map hh ∧ ys.length = i ∧ (∀ (j : Nat) z y, xs[j]? = some z → ys[j]? = some y → P z y) ∧ ρ2 = ρ.set u (.hol p d) ∧ Urn (b + c * i) d, ⟨[], d0, rfl, rfl, fun j z y _ h => by simp at h, (set_same' h4).symm, h5⟩, ?_, ?_⟩
  · rintro i d acc ρ2 hd ⟨ys, du, rfl, hl, hP, rfl, hU⟩
    obtain ⟨z, hz, rfl⟩ := getElem?_map_some hd
    have t := h6 i z du hz hU
    have imp : ∀ {o : Option PyData} {ρ3 : Nv}, (∃ y d', o = some (hh y) ∧ P z y ∧ ρ3 = ρ.set u (.hol p d') ∧ Urn (b + c * (i + 1)) d') → ∃ (ys' : List β) (d : List PyData), addO (ys.map hh) o = ys'.map hh ∧ ys'.length = i + 1 ∧ (∀ (j : Nat) z y, xs[j]? = some z → ys'[j]? = some y → P z y) ∧ ρ3 = ρ.set u (.hol p d) ∧ Urn (b + c * (i + 1)) d := by
      rintro o ρ3 ⟨y, d', rfl, hy, rfl, hU'⟩
      refine ⟨ys ++ [y], d', by simp [addO], by simp [hl], fun j z' y' hz' hy' => ?_, rfl, hU'⟩
      by_cases hj : j < ys.length
      · rw [List.getElem?_append_left hj] at hy'
        exact hP j z' y' hz' hy'
      · rw [List.getElem?_append_right (by omega)] at hy'
        have e0 : j - ys.length = 0 := by
          have := get_lt hy'
          simp at this
          omega
        rw [e0] at hy'
        have e1 : y = y' := by simpa using hy'
        have e2 : j = i := by omega
        subst e1
        subst e2
        rw [hz] at hz'
        cases hz'
        exact hy
    intro s0 H0 C cl fp σ H v R' Ev r kk
    refine t s0 H0 C cl fp σ H v R' Ev r fun σ' ρ' P o l y q => kk σ' ρ' P o l y fun s0 H0 C cl fp => ?_
    have q' := q s0 H0 C cl fp
    match ifs, q' with
    | [], q' =>
      simp only [TWi, ↓reduceIte] at q' ⊢
      exact fun s0 H0 C cl fp => EW.imp (q' s0 H0 C cl fp) fun z ρ4 ⟨d, hd, q3⟩ => ⟨d, hd, imp q3⟩
    | [c], q' =>
      refine TW.imp q' fun t ρ3 q2 => ?_
      cases t with
      | true =>
        simp only [↓reduceIte] at q2 ⊢
        exact fun s0 H0 C cl fp => EW.imp (q2 s0 H0 C cl fp) fun z ρ4 ⟨d, hd, q3⟩ => ⟨d, hd, imp q3⟩
      | false =>
        simp only [Bool.false_eq_true, ↓reduceIte] at q2 ⊢
        exact imp q2
  · rintro acc ρ2 ⟨ys, d, rfl, hl, hP, rfl, hU⟩
    rw [List.length_map] at hl hU
    exact h7 ys d hl hP hU
/-- some of the elements, by draws -/
theorem lcUF_intro {α : Type} {xs : List α} {g f : α → PyData} {ds : List PyData} {cnd : Expr} (u c : Nat) {p : Bool} {d0 : List PyData} {b : Nat}
    (h1 : ds = xs.map g) (h2 : xs.length ≤ 1000000) (h3 : noHol ρ vs = true) (h4 : ρ[u]? = some (.hol p d0)) (h5 : Urn b d0)
    (h6 : ∀ (i : Nat) z d, xs[i]? = some z → Urn (b + c * i) d → Turn1 X scope tg [cnd] elt is vs (g z) (ρ.set u (.hol p d)) fun o ρ3 => ∃ d', (o = none ∨ o = some (f z)) ∧ ρ3 = ρ.set u (.hol p d') ∧ Urn (b + c * (i + 1)) d')
    (h7 : ∀ (ys : List α) d, ys.Sublist xs → Urn (b + c * xs.length) d → Qf (ys.map f) (ρ.set u (.hol p d))) :
    ds.length ≤ 1000000 ∧ noHol ρ vs = true ∧ ∃ W : Nat → List PyData → Nv → Prop, W 0 [] ρ ∧ (∀ i d acc ρ2, ds[i]? = some d → W i acc ρ2 → Turn1 X scope tg [cnd] elt is vs d ρ2 fun o ρ3 => W (i + 1) (addO acc o) ρ3) ∧ ∀ acc ρ2, W ds.length acc ρ2 → Qf acc ρ2 := by
  subst h1
  refine ⟨by simpa using h2, h3, fun i acc ρ2 => ∃ (ys : List α) (d : List PyData), acc = ys.map f ∧ ys.Sublist (xs.take i) ∧ ρ2 = ρ.set u (.hol p d) ∧ Urn (b + c * i) d, ⟨[], d0, rfl, List.nil_sublist _, (set_same' h4).symm, h5⟩, ?_, ?_⟩
  · rintro i d acc ρ2 hd ⟨ys, du, rfl, hs, rfl, hU⟩
    obtain ⟨z, hz, rfl⟩ := getElem?_map_some hd
    have t := h6 i z du hz hU
    have imp : ∀ {o : Option PyData} {ρ3 : Nv}, (∃ d', (o = none ∨ o = some (f z)) ∧ ρ3 = ρ.set u (.hol p d') ∧ Urn (b + c * (i + 1)) d') → ∃ (ys' : List α) (d : List PyData), addO (ys.map f) o = ys'.map f ∧ ys'.Sublist (xs.take (i + 1)) ∧ ρ3 = ρ.set u (.hol p d) ∧ Urn (b + c * (i + 1)) d := by
      rintro o ρ3 ⟨d', ho, rfl, hU'⟩
      have e4 : xs.take (i + 1) = xs.take i ++ [z] := by rw [List.take_add_one, hz]; rfl
      rcases ho with rfl | rfl
      · exact ⟨ys, d', rfl, by rw [e4]; exact hs.trans (List.sublist_append_left _ _), rfl, hU'⟩
      · exact ⟨ys ++ [z], d', by simp [addO], by rw [e4]; exact List.Sublist.append hs (List.Sublist.refl _), rfl, hU'⟩
    intro s0 H0 C cl fp σ H v R' Ev r kk
    refine t s0 H0 C cl fp σ H v R' Ev r fun σ' ρ' P o l y q => kk σ' ρ' P o l y fun s0 H0 C cl fp => ?_
    have q' := q s0 H0 C cl fp
    refine TW.imp q' fun t ρ3 q2 => ?_
    cases t with
    | true =>
      simp only [↓reduceIte] at q2 ⊢
      exact fun s0 H0 C cl fp => EW.imp (q2 s0 H0 C cl fp) fun z ρ4 ⟨d, hd, q3⟩ => ⟨d, hd, imp q3⟩
    | false =>
      rw [if_neg Bool.false_ne_true] at q2 ⊢
      exact imp q2
  · rintro acc ρ2 ⟨ys, d, rfl, hs, rfl, hU⟩
    rw [List.length_map] at hs hU
    rw [List.take_length] at hs
    exact h7 ys d hs hU
theorem EW.revTM {e : Expr} {Q : QE} {k : Nat} {p1 p2 p3 pos : Pos} (h : EW X e ρ fun x ρ1 => ∃ (α : Type) (l : List α) (g : α → PyData), seqT x = some (l.map g) ∧ Q (.dat (.tuple (l.reverse.map g))) ρ1) : EW X (.Subscript e (.Slice none none (some (.UnaryOp .USub (.Constant (.int 1) k p1) p2)) p3) pos) ρ Q :=
  EW.revT (EW.imp h fun x ρ1 ⟨α, l, g, e, q⟩ => by
    match x, e with
    | .dat (.tuple ds), e =>
      obtain rfl : ds = _ := Option.some.inj e
      exact ⟨_, rfl, by rw [← List.map_reverse]; exact q⟩)
theorem EW.revLM {e : Expr} {Q : QE} {k : Nat} {p1 p2 p3 pos : Pos} (h : EW X e ρ fun x ρ1 => ∃ (α : Type) (l : List α) (g : α → PyData), seqL ρ1 x = some (l.map g) ∧ Q (.frs (l.reverse.map g)) ρ1) : EW X (.Subscript e (.Slice none none (some (.UnaryOp .USub (.Constant (.int 1) k p1) p2)) p3) pos) ρ Q :=
  EW.revL (EW.imp h fun x ρ1 ⟨α, l, g, e, q⟩ => ⟨_, e, by rw [← List.map_reverse]; exact q⟩)
end
end AW

/-! AW27: small helps for walks, the second part. -/
namespace AW
variable [HasT]
open PySem PySem.Spec PyProof.Rows L2
section
variable {X : Cx} {c : Expr} {bd : List Stmt} {ρ : Nv} {E : AEnds} {pos : Pos}
/-- if c: return ..: never gone into; the test may draw -/
theorem S1.iteF (h : TW X c ρ fun x ρ1 => x = false ∧ E.nx ρ1) : S1 X (.If c bd [] pos) ρ E :=
  S1.ite (TW.imp h fun z ρ1 ⟨e1, q⟩ => by
    subst e1
    exact SW.nil q)
end
theorem cells_intro {l : Nat} {c : Int} {Q : Nat → Prop} (hc : 1 ≤ c ∧ c ≤ 1000) (h : ∀ n : Nat, 1 ≤ n → (n : Int) ≤ c → Q n) : ∃ n : Nat, AV.dat (.int (if (if (l : Int) < c then (l : Int) else c) > 1 then (if (l : Int) < c then (l : Int) else c) else 1)) = AV.dat (.int n) ∧ n ≤ 1000000000 ∧ Q n := by
  have e : ∃ n : Nat, (if (if (l : Int) < c then (l : Int) else c) > 1 then (if (l : Int) < c then (l : Int) else c) else 1) = (n : Int) ∧ 1 ≤ n ∧ (n : Int) ≤ c := by
    by_cases h1 : (l : Int) < c
    · rw [if_pos h1]
      by_cases h2 : (l : Int) > 1
      · exact ⟨l, by rw [if_pos h2], by omega, by omega⟩
      · exact ⟨1, by rw [if_neg h2]; rfl, by omega, by omega⟩
    · rw [if_neg h1]
      by_cases h2 : c > 1
      · exact ⟨c.toNat, by rw [if_pos h2]; omega, by omega, by omega⟩
      · exact ⟨1, by rw [if_neg h2]; rfl, by omega, by omega⟩
  obtain ⟨n, e, h1, h2⟩ := e
  exact ⟨n, congrArg (fun i => AV.dat (.int i)) e, by omega, h n h1 h2⟩
theorem all_of_P {α : Type} {xs : List α} {ys : List Bool} (hl : ys.length = xs.length) (hP : ∀ (i : Nat) z y, xs[i]? = some z → ys[i]? = some y → y = true) : ys.all (fun z => z) = true := by
  rw [List.all_eq_true]
  intro y hy
  obtain ⟨i, hi⟩ := List.getElem?_of_mem hy
  have h1 := get_lt hi
  exact hP i _ y (List.getElem?_eq_getElem (by omega)) hi
theorem mem_of_P {α β : Type} {P : β → Prop} {xs : List α} {ys : List β} (hl : ys.length = xs.length) (hP : ∀ (i : Nat) z y, xs[i]? = some z → ys[i]? = some y → P y) : ∀ y ∈ ys, P y := by
  intro y hy
  obtain ⟨i, hi⟩ := List.getElem?_of_mem hy
  have h1 := get_lt hi
  exact hP i _ y (List.getElem?_eq_getElem (by omega)) hi
end AW

/-! AW28: lists of ours that hold typed data: pop, store, append. -/
namespace AW
variable [HasT]
open PySem PySem.Spec PyProof.Rows L2
section
variable {ρ : Nv} {i : Nat} {y : AV} {Q : QE} {q : Nv → Prop}
theorem pop_nat (h : ∃ (p : Bool) (α : Type) (l : List α) (g : α → PyData) (j : Nat), y = .dat (.int (j : Int)) ∧ ρ[i]? = some (.hol p (l.map g)) ∧ j < l.length ∧ l.length ≤ sizeLine ∧ ∀ z, l[j]? = some z → Q (.dat (g z)) (ρ.set i (.hol p ((l.eraseIdx j).map g)))) :
    ∃ p ds n j d, y = .dat (.int n) ∧ ρ[i]? = some (.hol p ds) ∧ (-(2 ^ 63) ≤ n ∧ n < 2 ^ 63) ∧ seqIndex? n ds.length = some j ∧ ds[j]? = some d ∧ Q (.dat d) (ρ.set i (.hol p (ds.eraseIdx j))) := by
  obtain ⟨p, α, l, g, j, h1, h2, h3, h4, h5⟩ := h
  have sl := sizeLine_eq
  have e := h5 l[j] (List.getElem?_eq_getElem h3)
  have e2 : (l.map g).eraseIdx j = (l.eraseIdx j).map g := by rw [List.eraseIdx_eq_take_drop_succ, List.eraseIdx_eq_take_drop_succ, List.map_append, List.map_take, List.map_drop]
  exact ⟨p, l.map g, j, j, g l[j], h1, h2, ⟨by omega, by omega⟩, by rw [seqIndex_of (by omega) (by rw [List.length_map]; omega)]; simp, by rw [List.getElem?_map, List.getElem?_eq_getElem h3]; rfl, by rw [e2]; exact e⟩
theorem set_nat {d : PyData} (h : ∃ (p : Bool) (α : Type) (l : List α) (g : α → PyData) (j : Nat) (v : α), y = .dat (.int (j : Int)) ∧ ρ[i]? = some (.hol p (l.map g)) ∧ d = g v ∧ j < l.length ∧ q (ρ.set i (.hol p ((l.set j v).map g)))) :
    ∃ n j p ds, y = .dat (.int n) ∧ ρ[i]? = some (.hol p ds) ∧ ixN ds.length n = some j ∧ q (ρ.set i (.hol p (ds.set j d))) := by
  obtain ⟨p, α, l, g, j, v, h1, h2, rfl, h3, h4⟩ := h
  refine ⟨j, j, p, l.map g, h1, h2, ?_, by rw [← List.map_set]; exact h4⟩
  unfold ixN
  rw [if_pos (by omega), List.length_map, if_pos (by omega)]
  simp
theorem app_map {d : PyData} (h : ∃ (p : Bool) (α : Type) (l : List α) (g : α → PyData) (z : α), ρ[i]? = some (.hol p (l.map g)) ∧ d = g z ∧ l.length < sizeLine ∧ q (ρ.set i (.hol p ((l ++ [z]).map g)))) :
    ∃ p ds, ρ[i]? = some (.hol p ds) ∧ ds.length < sizeLine ∧ q (ρ.set i (.hol p (ds ++ [d]))) := by
  obtain ⟨p, α, l, g, z, h1, rfl, h2, h3⟩ := h
  exact ⟨p, l.map g, h1, by simpa using h2, by rw [List.map_append] at h3; exact h3⟩
theorem ext_map {x : AV} (h : ∃ (p : Bool) (α : Type) (l m : List α) (g : α → PyData), ρ[i]? = some (.hol p (l.map g)) ∧ seqO ρ x = some (m.map g) ∧ l.length + m.length ≤ sizeLine ∧ q (ρ.set i (.hol p ((l ++ m).map g)))) :
    ∃ p ds es', ρ[i]? = some (.hol p ds) ∧ seqO ρ x = some es' ∧ ds.length + es'.length ≤ sizeLine ∧ q (ρ.set i (.hol p (ds ++ es'))) := by
  obtain ⟨p, α, l, m, g, h1, h2, h3, h4⟩ := h
  exact ⟨p, l.map g, m.map g, h1, h2, by simpa using h3, by rw [List.map_append] at h4; exact h4⟩
end
def appR (ρ : Nv) (i : Nat) (d : PyData) (q : Nv → Prop) : Prop := ∃ (p : Bool) (α : Type) (l : List α) (g : α → PyData) (z : α), ρ[i]? = some (.hol p (l.map g)) ∧ d = g z ∧ l.length < sizeLine ∧ q (ρ.set i (.hol p ((l ++ [z]).map g)))
def extR (ρ : Nv) (i : Nat) (x : AV) (q : Nv → Prop) : Prop := ∃ (p : Bool) (α : Type) (l m : List α) (g : α → PyData), ρ[i]? = some (.hol p (l.map g)) ∧ seqO ρ x = some (m.map g) ∧ l.length + m.length ≤ sizeLine ∧ q (ρ.set i (.hol p ((l ++ m).map g)))
def popR (ρ : Nv) (i : Nat) (y : AV) (Q : QE) : Prop := ∃ (p : Bool) (α : Type) (l : List α) (g : α → PyData) (j : Nat), y = .dat (.int (j : Int)) ∧ ρ[i]? = some (.hol p (l.map g)) ∧ j < l.length ∧ l.length ≤ sizeLine ∧ ∀ z, l[j]? = some z → Q (.dat (g z)) (ρ.set i (.hol p ((l.eraseIdx j).map g)))
def setR (ρ : Nv) (i : Nat) (y : AV) (d : PyData) (q : Nv → Prop) : Prop := ∃ (p : Bool) (α : Type) (l : List α) (g : α → PyData) (j : Nat) (v : α), y = .dat (.int (j : Int)) ∧ ρ[i]? = some (.hol p (l.map g)) ∧ d = g v ∧ j < l.length ∧ q (ρ.set i (.hol p ((l.set j v).map g)))
section
variable {X : Cx} {o e a : Expr} {ρ : Nv} {E : AEnds} {Q : QE} {pos p apos cpos : Pos}
theorem EW.appendM (h : EW X o ρ fun x ρ1 => ∃ i, x = .own i ∧ EWd X e ρ1 fun d ρ2 => appR ρ2 i d fun ρ3 => Q (.dat .none) ρ3)
    (hbase : attributeBase o "append" X.env (eval o X.env) = eval o X.env := by rfl) (hfew : ((backTo cpos (starEach [e] X.env)).all (fun x => !x.1) && (backToKw cpos (keywordEach [] X.env)).all (fun x => x.1.isSome) && decide ([e].length + ([] : List Keyword).length + (if ([] : List Keyword).isEmpty then 0 else 1) < 30)) = true := by rfl)
    (hline : (apos.endLine == cpos.line) = true := by rfl) (hs : starEach [e] X.env = (false, eval e X.env) :: starEach [] X.env := by rfl) (hplain : (backTo cpos (starEach [] X.env)).any (·.1) = false := by rfl) : EW X (.Call (.Attribute o "append" apos) [e] [] cpos) ρ Q :=
  EW.append (EW.imp h fun x ρ1 ⟨i, e, q⟩ => ⟨i, e, EW.imp q fun y ρ2 ⟨d, hd, q⟩ => ⟨d, hd, app_map (q := fun ρ3 => Q (.dat .none) ρ3) q⟩⟩) hbase hfew hline hs hplain
theorem EW.extendM (h : EW X o ρ fun x ρ1 => ∃ i, x = .own i ∧ EW X e ρ1 fun y ρ2 => extR ρ2 i y fun ρ3 => Q (.dat .none) ρ3)
    (hbase : attributeBase o "extend" X.env (eval o X.env) = eval o X.env := by rfl) (hfew : ((backTo cpos (starEach [e] X.env)).all (fun x => !x.1) && (backToKw cpos (keywordEach [] X.env)).all (fun x => x.1.isSome) && decide ([e].length + ([] : List Keyword).length + (if ([] : List Keyword).isEmpty then 0 else 1) < 30)) = true := by rfl)
    (hline : (apos.endLine == cpos.line) = true := by rfl) (hs : starEach [e] X.env = (false, eval e X.env) :: starEach [] X.env := by rfl) (hplain : (backTo cpos (starEach [] X.env)).any (·.1) = false := by rfl) : EW X (.Call (.Attribute o "extend" apos) [e] [] cpos) ρ Q :=
  EW.extend (EW.imp h fun x ρ1 ⟨i, e, q⟩ => ⟨i, e, EW.imp q fun y ρ2 q => ext_map (q := fun ρ3 => Q (.dat .none) ρ3) q⟩) hbase hfew hline hs hplain
theorem EW.popM (h : EW X o ρ fun x ρ1 => ∃ i, x = .own i ∧ EW X e ρ1 fun y ρ2 => popR ρ2 i y Q)
    (hbase : attributeBase o "pop" X.env (eval o X.env) = eval o X.env := by rfl) (hfew : ((backTo cpos (starEach [e] X.env)).all (fun x => !x.1) && (backToKw cpos (keywordEach [] X.env)).all (fun x => x.1.isSome) && decide ([e].length + ([] : List Keyword).length + (if ([] : List Keyword).isEmpty then 0 else 1) < 30)) = true := by rfl)
    (hline : (apos.endLine == cpos.line) = true := by rfl) (hs : starEach [e] X.env = (false, eval e X.env) :: starEach [] X.env := by rfl) (hplain : (backTo cpos (starEach [] X.env)).any (·.1) = false := by rfl) : EW X (.Call (.Attribute o "pop" apos) [e] [] cpos) ρ Q :=
  EW.pop1 (EW.imp h fun x ρ1 ⟨i, e, q⟩ => ⟨i, e, EW.imp q fun y ρ2 q => pop_nat q⟩) hbase hfew hline hs hplain
theorem S1.setItemM (h : EWd X e ρ fun d ρ1 => EW X o ρ1 fun x ρ2 => ∃ i, x = .own i ∧ EW X a ρ2 fun y ρ3 => setR ρ3 i y d E.nx)
    (ha : ∀ v, assign (.Subscript o a p) X.env v = (do let ov ← holding [v] (eval o X.env); let iv ← holding [v, ov] (eval a X.env); standAt p; holding [v, ov, iv] (PySem.setItem ov iv v); release [v, ov, iv] []) := by intro _; rfl)
    (hs : swapsWithSole [.Subscript o a p] e pos.line X.env = pure false := by rfl) (hw : swappedStores [.Subscript o a p] e X.env = pure none := by rfl) (h1 : (assignEach [.Subscript o a p] X.env).map (·.2) = [assign (.Subscript o a p) X.env] := by rfl) : S1 X (.Assign [.Subscript o a p] e pos) ρ E :=
  S1.setItem (EW.imp h fun x ρ1 ⟨d, hd, q⟩ => ⟨d, hd, EW.imp q fun y ρ2 ⟨i, e, q⟩ => ⟨i, e, EW.imp q fun y ρ3 q => set_nat q⟩⟩) ha hs hw h1
end
end AW

/-! AW29: data that may be shown: leaves of at most B signs, at most n parts, at most m deep. -/
namespace AW
variable [HasT]
open PySem PySem.Spec PyProof.Rows L2 PySem.StrLaws
structure Sm (B n m : Nat) (d : PyData) : Prop where
  lay : d.canLay0 = true
  sh : d.showable = true
  lv : d.leavesShort B = true
  bk : d.bulk ≤ n
  dp : d.depth ≤ m
structure SmAll (B n m : Nat) (ds : List PyData) : Prop where
  lay : PyData.canLayAll0 ds = true
  sh : PyData.showableAll ds = true
  lv : PyData.leavesShortAll B ds = true
  bk : PyData.bulkAll ds ≤ n
  dp : PyData.depthAll ds ≤ m
theorem Sm.mono {B n m n' m' : Nat} {d : PyData} (h : Sm B n m d) (hn : n ≤ n') (hm : m ≤ m') : Sm B n' m' d := ⟨h.lay, h.sh, h.lv, Nat.le_trans h.bk hn, Nat.le_trans h.dp hm⟩
theorem SmAll.mono {B n m n' m' : Nat} {ds : List PyData} (h : SmAll B n m ds) (hn : n ≤ n') (hm : m ≤ m') : SmAll B n' m' ds := ⟨h.lay, h.sh, h.lv, Nat.le_trans h.bk hn, Nat.le_trans h.dp hm⟩
theorem Sm.none {B : Nat} : Sm B 0 0 .none := ⟨rfl, rfl, rfl, Nat.le_refl _, Nat.le_refl _⟩
theorem Sm.bool {B : Nat} (b : Bool) : Sm B 0 0 (.bool b) := ⟨rfl, rfl, rfl, Nat.le_refl _, Nat.le_refl _⟩
theorem Sm.int {B : Nat} {i : Int} (k : Nat) (h : i.natAbs < 10 ^ k) (hk : k ≤ 250 ∧ 0 < k ∧ k + 1 ≤ B := by decide) : Sm B 0 0 (.int i) := by
  have h250 : i.natAbs < 10 ^ 250 := Nat.lt_of_lt_of_le h (Nat.pow_le_pow_right (by decide) hk.1)
  refine ⟨rfl, ?_, ?_, Nat.le_refl _, Nat.le_refl _⟩
  · have h2 : i.natAbs.log2 < 1000 := log2_lt (Nat.lt_of_lt_of_le h250 (by decide +kernel)) (by decide)
    simp only [PyData.showable, decide_eq_true_eq]
    omega
  · have e := int_text_length_le10 (k := k) hk.2.1 h
    simp only [PyData.leavesShort, decide_eq_true_eq]
    show (Str.ofString (toString i)).length ≤ B
    rw [PySem.ofString_length]
    omega
theorem Sm.str {B : Nat} {x : Str} (h : x.cps.toList.all (fun c => decide (c < 1114112)) = true) : Sm B x.length 0 (.str x) := by
  have h' : ∀ c ∈ x.cps.toList, c < 1114112 := fun c hc => by simpa using List.all_eq_true.mp h c hc
  refine ⟨?_, rfl, ?_, Nat.le_refl _, Nat.le_refl _⟩
  · simp only [PyData.canLay0, PyData.strOk]
    rw [Array.all_eq_true_iff_forall_mem]
    intro c hc
    have := h' c (by simpa using hc)
    simpa using this
  · simp only [PyData.leavesShort, List.all_eq_true, decide_eq_true_eq]
    intro c hc
    have := h' c hc
    have e : (16 : Nat) ^ 8 = 4294967296 := by decide
    omega
theorem SmAll.nil {B : Nat} : SmAll B 0 0 [] := ⟨rfl, rfl, rfl, Nat.le_refl _, Nat.le_refl _⟩
theorem SmAll.cons {B n m n' m' : Nat} {d : PyData} {ds : List PyData} (h : Sm B n m d) (t : SmAll B n' m' ds) : SmAll B (n + 1 + n') (max m m') (d :: ds) := by
  refine ⟨?_, ?_, ?_, ?_, ?_⟩
  · simp only [PyData.canLayAll0, h.lay, t.lay, Bool.and_self]
  · simp only [PyData.showableAll, h.sh, t.sh, Bool.and_self]
  · simp only [PyData.leavesShortAll, h.lv, t.lv, Bool.and_self]
  · have := h.bk; have := t.bk; simp only [PyData.bulkAll]; omega
  · have := h.dp; have := t.dp; simp only [PyData.depthAll]; omega
theorem SmAll.all {B n m : Nat} : ∀ {ds : List PyData}, (∀ d ∈ ds, Sm B n m d) → SmAll B (ds.length * (n + 1)) m ds
  | [], _ => SmAll.nil.mono (Nat.zero_le _) (Nat.zero_le _)
  | d :: ds, h => by
    refine (SmAll.cons (h d List.mem_cons_self) (SmAll.all fun e he => h e (List.mem_cons_of_mem _ he))).mono ?_ (by omega)
    rw [List.length_cons, Nat.add_mul]
    omega
theorem Sm.list {B n m : Nat} {ds : List PyData} (h : SmAll B n m ds) : Sm B n (m + 1) (.list ds) := by
  refine ⟨?_, ?_, ?_, ?_, ?_⟩
  · simpa only [PyData.canLay0] using h.lay
  · simpa only [PyData.showable] using h.sh
  · simpa only [PyData.leavesShort] using h.lv
  · simpa only [PyData.bulk] using h.bk
  · have := h.dp; simp only [PyData.depth]; omega
theorem Sm.tuple {B n m : Nat} {ds : List PyData} (h : SmAll B n m ds) : Sm B n (m + 1) (.tuple ds) := by
  refine ⟨?_, ?_, ?_, ?_, ?_⟩
  · simpa only [PyData.canLay0] using h.lay
  · simpa only [PyData.showable] using h.sh
  · simpa only [PyData.leavesShort] using h.lv
  · simpa only [PyData.bulk] using h.bk
  · have := h.dp; simp only [PyData.depth]; omega
theorem Sm.shaped {B n m : Nat} {d : PyData} (h : Sm B n m d) (hm : m ≤ 64) : SeqAt.shaped d = true := by
  unfold SeqAt.shaped
  have := h.dp
  rw [h.lay, Bool.true_and, decide_eq_true_eq]
  omega
theorem Sm.shw {B n m : Nat} {d : PyData} (h : Sm B n m d) (hB : 12 ≤ B) (hm : m ≤ 64) (hn : (B + 2) * n + B ≤ 16777216) : Shw d := by
  refine ⟨PyData.hasDict_of_canLay d h.lay, h.sh, ?_, Nat.le_trans h.dp hm⟩
  have e := PyData.shown_le_bulk B (by omega) d h.lv
  have b := h.bk
  have : (sizeLine : Nat) = 16777216 := sizeLine_eq
  have : (B + 2) * d.bulk ≤ (B + 2) * n := Nat.mul_le_mul_left _ b
  omega
theorem zipIdx_lt {α : Type} {l : List α} {p : α × Nat} (h : p ∈ l.zipIdx) : p.2 < l.length := by
  have := List.mem_zipIdx h
  omega
end AW

/-! AW30: f(e, ..) where e is a new list that the callee may change. -/
namespace AW
variable [HasT]
open PySem PySem.Spec PyProof.Rows L2
section
variable {K : PySem.W.Frag} {H H2 H' : Hp} {ρ ρ2 : Nv} {σ : L2.St}
theorem fresh_nv {v : V} {vs : List V} {a : Addr} {xs : List V} {ds rs : List PyData} (hv : v = .ref a) (ha : H2 a = some (.lst xs)) (hd : RpAll K H2 ds xs) (hr : RpAll K H2 rs vs) (t : LamX.Tabs HasT.T H2) :
    NvOk K H2 ((v :: vs).map some) (.hol true ds :: rs.map .dat) where
  len := by simp [hr.length]
  get := fun i s h => by
    cases i with
    | zero =>
      simp at h
      subst h
      exact ⟨some v, rfl, a, xs, by rw [hv], ha, hd⟩
    | succ i =>
      simp only [List.getElem?_cons_succ, List.getElem?_map] at h
      cases e : rs[i]? with
      | none => rw [e] at h; simp at h
      | some d =>
        rw [e] at h
        simp at h
        subst h
        obtain ⟨w, e1, r⟩ := hr.get e
        exact ⟨some w, by simp [e1], w, rfl, r⟩
  sep := fun i j b s1 s2 hij h1 h2 o1 o2 _ _ => by
    have key : ∀ (i : Nat) (p : Bool) (ds' : List PyData), (SV.hol true ds :: rs.map SV.dat)[i]? = some (.hol p ds') → i = 0 := fun i p ds' h => by
      cases i with
      | zero => rfl
      | succ i =>
        simp only [List.getElem?_cons_succ, List.getElem?_map] at h
        cases e : rs[i]? with
        | none => rw [e] at h; simp at h
        | some d => rw [e] at h; simp at h
    have a1 : i = 0 := by
      cases i with
      | zero => rfl
      | succ i =>
        simp only [List.getElem?_cons_succ, List.getElem?_map] at h1
        cases e : rs[i]? with
        | none => rw [e] at h1; simp at h1
        | some d => rw [e] at h1; simp at h1; subst h1; exact o1.elim
    have a2 : j = 0 := by
      cases j with
      | zero => rfl
      | succ j =>
        simp only [List.getElem?_cons_succ, List.getElem?_map] at h2
        cases e : rs[j]? with
        | none => rw [e] at h2; simp at h2
        | some d => rw [e] at h2; simp at h2; subst h2; exact o2.elim
    omega
  tb := t
theorem fresh_mine {v : V} {vs : List V} {a b : Addr} {ds rs : List PyData} (hv : v = .ref a) (m : Mine (.hol true ds :: rs.map .dat) ((v :: vs).map some) b) : b = a := by
  obtain ⟨i, s, h1, o, h2⟩ := m
  cases i with
  | zero =>
    simp [hv] at h2
    exact h2.symm
  | succ i =>
    simp only [List.getElem?_cons_succ, List.getElem?_map] at h1
    cases e : rs[i]? with
    | none => rw [e] at h1; simp at h1
    | some d => rw [e] at h1; simp at h1; subst h1; exact o.elim
theorem fresh_pex {v : V} {vs : List V} {a : Addr} {ds rs : List PyData} {as' : List SV} (E : NvOk K H σ ρ) (P : Pex K H ρ σ H2 ρ2) (hn : H a = none) (hv : v = .ref a) (N : NvOk K H2 ((v :: vs).map some) (.hol true ds :: rs.map .dat))
    (Pc : Pex K H2 (.hol true ds :: rs.map .dat) ((v :: vs).map some) H' as') : Pex K H ρ σ H' ρ2 where
  kp := fun b o h n t => Pc.kp b o (P.kp b o h n t) (fun m => by
    have := fresh_mine hv m
    subst this
    rw [hn] at h
    cases h) t
  th := fun b o h => let ⟨o1, h1⟩ := P.th b o h; Pc.th b o1 h1
  so := P.so
  os := P.os
  ok := by
    have st : Stb H2 H' := Pc.stb N
    refine ⟨P.ok.len, fun i s h => ?_, P.ok.sep, Pc.ok.tb⟩
    obtain ⟨w, e1, so⟩ := P.ok.get i s h
    refine ⟨w, e1, ?_⟩
    cases s with
    | un => trivial
    | dat d => obtain ⟨v, e2, r2⟩ := so; exact ⟨v, e2, Rp.mono st _ _ r2⟩
    | hol pp es =>
      obtain ⟨b, ws, e2, e3, r2⟩ := so
      refine ⟨b, ws, e2, ?_, RpAll.mono st _ _ r2⟩
      refine Pc.kp b _ e3 (fun m => ?_) ntb_lst
      have := fresh_mine hv m
      subst this
      have mm : Mine ρ2 σ b := ⟨i, _, h, trivial, by rw [e1, e2]⟩
      obtain ⟨zs, z, _⟩ := E.mine (P.mn mm)
      rw [hn] at z
      cases z
    | dic es =>
      obtain ⟨b, o, ws, e2, e3, k3, r2⟩ := so
      refine ⟨b, o, ws, e2, ?_, k3, RpAll.mono st _ _ r2⟩
      refine Pc.kp b _ e3 (fun m => ?_) k3.ntb
      have := fresh_mine hv m
      subst this
      have mm : Mine ρ2 σ b := ⟨i, _, h, trivial, by rw [e1, e2]⟩
      obtain ⟨zs, z, _⟩ := E.mine (P.mn mm)
      rw [hn] at z
      cases z
end
theorem EW.callF {X : Cx} {k : Nat} {x : Str} {A : ASp} {p pos : Pos} {e : Expr} {es : List Expr} {ρ : Nv} {Q : QE} (c : Cal X.prog X.w X.K X.mg X.base k x A) (C : Ctx X k) (hg : Gl X x) (h : EW X e ρ fun x ρ1 => ∃ ds, x = .frs ds ∧ EWds X es ρ1 fun rs ρ2 => A (.hol true ds :: rs.map .dat) fun y _ => Q y ρ2)
    (hdb : (x == ("__debug__" : Str)) = false := by decide) (he : starEach (e :: es) X.env = (false, eval e X.env) :: starEach es X.env := by rfl) (hpl : (backTo pos (starEach es X.env)).any (·.1) = false := by rfl) :
    EW X (.Call (.Name x p) (e :: es) [] pos) ρ Q := fun σ H R E kk pins s I => by
  obtain ⟨f, fd, ps, F, hm, hk, hb⟩ := c.ex
  refine (pe_G (E := E0) F C hg hm hk hb pass0 (pa_cons pe_W pa_W he) hdb he hpl).run pins s σ H R I (h σ H _ E fun v H1 y ρ1 P1 V1 ⟨ds, ey, q⟩ => ?_)
  subst ey
  refine q σ H1 _ P1.ok fun vs H2 rs ρ2 P2 V2 q2 => ?_
  obtain ⟨a, xs, hv, hn, ha, hd⟩ := V1.step E P1 P2
  rw [List.append_nil]
  have N := fresh_nv hv ha hd V2 P2.ok.tb
  refine ⟨_, _, N, fun i s h o => ?_, q2, fun y as' w H' q3 Pc V3 no => ?_⟩
  · cases i with
    | zero => simp at h; exact ⟨_, h.symm⟩
    | succ i =>
      simp only [List.getElem?_cons_succ, List.getElem?_map] at h
      cases e : rs[i]? with
      | none => rw [e] at h; simp at h
      | some d => rw [e] at h; simp at h; subst h; exact o.elim
  · have P3 := fresh_pex E (P1.trans P2) hn hv N Pc
    exact kk w H' y _ P3 (no.vok (fun a z => (P1.trans P2).free z) V3) q3
end AW

/-! AW31: several targets, items of lists of ours among them. -/
namespace AW
variable [HasT]
open PySem PySem.Spec PyProof.Rows L2
def GZ (X : Cx) (tg : Expr) (d : PyData) (ρ : Nv) (Q : Nv → Prop) : Prop := ∀ (σ : L2.St) (H : Hp) (v : V) (R : L2.St → Hp → Prop), NvOk X.K H σ ρ → Rp X.K H d v →
  (∀ σ' H' ρ', Pst X.K H ρ σ H' ρ' σ' → Q ρ' → R σ' H') → tGW X tg v σ H R
def GZs (X : Cx) (tgs : List Expr) (ds : List PyData) (ρ : Nv) (Q : Nv → Prop) : Prop := ∀ (σ : L2.St) (H : Hp) (vs : List V) (R : L2.St → Hp → Prop), NvOk X.K H σ ρ → RpAll X.K H ds vs →
  (∀ σ' H' ρ', Pst X.K H ρ σ H' ρ' σ' → Q ρ' → R σ' H') → ∃ t, PGs X tgs t ∧ t vs σ H R
section
variable {X : Cx} {o a e tg : Expr} {tgs : List Expr} {ρ : Nv} {E : AEnds} {QN : Nv → Prop} {pos p : Pos} {k : Nat} {d : PyData} {ds : List PyData} {is : List Nat}
theorem GZ.of (h : GW X tg d ρ is QN) : GZ X tg d ρ QN := fun σ H v R Ev r kk => h σ H v R Ev r fun σ' ρ' P _ _ _ q => kk σ' H ρ' P q
theorem GZ.sub (h : EW X o ρ fun x ρ2 => ∃ i, x = .own i ∧ EW X a ρ2 fun y ρ3 => setR ρ3 i y d QN)
    (ha : ∀ v, assign (.Subscript o a p) X.env v = (do let ov ← holding [v] (eval o X.env); let iv ← holding [v, ov] (eval a X.env); standAt p; holding [v, ov, iv] (PySem.setItem ov iv v); release [v, ov, iv] []) := by intro _; rfl) : GZ X (.Subscript o a p) d ρ QN := fun σ H v R Ev r kk pins s u I ru => by
  refine (pg_sub pe_W pe_W set_list ha).run pins s σ H v u R I ru (h σ H _ Ev fun w H2 x ρ2 P2 V2 ⟨i, ex, q2⟩ => ?_)
  subst ex
  refine q2 σ H2 _ P2.ok fun w H3 y ρ3 P3 V3 q3 => ?_
  obtain ⟨n, j, q, ds, ey, hi, hj, q4⟩ := set_nat (q := QN) q3
  subst ey
  obtain rfl := Rp.int_inv V3
  obtain ⟨m, vs, rfl, em, hm, r3⟩ := own_at P3.ok (V2.step Ev P2 P3) hi
  refine ⟨m, vs, n, j, rfl, rfl, hm, by rw [← r3.length]; exact hj, ?_⟩
  have rd : Rp X.K H3 d v := Rp.mono ((P2.trans P3).stb Ev) _ _ r
  exact kk _ _ _ ((P2.trans P3).trans (pex_mut P3.ok hi em (r3.set j rd))).pst q4
theorem GZs.nil (q : QN ρ) : GZs X [] [] ρ QN := fun σ H vs R Ev r k => by
  cases r
  exact ⟨_, pgs_nil, rfl, k σ H ρ (Pst.refl Ev) q⟩
theorem GZs.cons (h : GZ X tg d ρ fun ρ1 => GZs X tgs ds ρ1 QN) (hs : (assignEach (tg :: tgs) X.env).map (·.2) = assign tg X.env :: (assignEach tgs X.env).map (·.2) := by rfl) : GZs X (tg :: tgs) (d :: ds) ρ QN := fun σ H vs R Ev r k => by
  cases r with
  | cons r1 r2 =>
    refine ⟨_, pgs_cons pg_W (u := fun vs' σ' H' Q' => ∀ (pins : List (Addr × Obj)) (s : Shared) (us : List Value), L2.Inv X pins σ' H' s → Vals vs' us → wpAny (model X.prog X.w) X.A (assignInOrder ((assignEach tgs X.env).map (·.2)) us) (fun _ s' => ∃ σ2 H2, L2.Inv X pins σ2 H2 s' ∧ Q' σ2 H2) X.xe s) ⟨fun pins s σ' H' vs' us Q' I rv h => h pins s us I rv⟩ hs, _, _, rfl, ?_⟩
    refine h σ H _ _ Ev r1 fun σ1 H1 ρ1 P1 q1 => ?_
    obtain ⟨t, ht, hq⟩ := q1 σ1 H1 _ R P1.ok (RpAll.mono (P1.stb Ev) _ _ r2) fun σ2 H2 ρ2 P2 q2 => k σ2 H2 ρ2 (P1.trans P2) q2
    exact fun pins s us I rv => ht.run pins s σ1 H1 _ us R I rv hq
theorem GZ.tup {n : Nat} {j : Nat} (C : Ctx X k) (q : ∃ ds, d = .tuple ds ∧ ds.length = n ∧ GZs X tgs ds ρ QN) (hn : (assignEach tgs X.env).length = n := by rfl) (hst : (assignEach tgs X.env).findIdx? (·.1) = Option.none := by rfl) : GZ X (.Tuple tgs j pos) d ρ QN := fun σ H v R Ev r kk pins s u I ru => by
  obtain ⟨ds, rfl, hl, q⟩ := q
  cases r with
  | tuple r1 r2 =>
    obtain ⟨t, ht, hq⟩ := q σ H _ R Ev r2 kk
    exact (pg_tup C.calm ht hn hst).run pins s σ H _ u R I ru ⟨_, _, rfl, SqT.of r1, by rw [← r2.length]; exact hl, hq⟩
theorem S1.asgZ (h : EW X e ρ fun x ρ1 => ∃ d, asD x = some d ∧ GZ X tg d ρ1 E.nx) (hs : swapsWithSole [tg] e pos.line X.env = pure false := by rfl) (hw : swappedStores [tg] e X.env = pure none := by rfl) (h1 : (assignEach [tg] X.env).map (·.2) = [assign tg X.env] := by rfl) : S1 X (.Assign [tg] e pos) ρ E := fun σ H D Ev k1 k2 k3 k4 pins s I => by
  refine (ps_asg pe_W pg_W hs hw h1).run pins s σ H D I (EWd.run h Ev fun v H1 d ρ1 P1 r1 q1 => ?_)
  exact q1 σ H1 v _ P1.ok r1 fun σ' H' ρ' P' q => k1 _ _ _ (P1.pst.trans P') q
/-- a list, new or old, either way -/
theorem EW.ifL {c b : Expr} {α : Type} {g : α → PyData} {t : Bool} {x y : List α} {Q : QE} (h : TWb X c ρ t) (h1 : t = true → EW X a ρ fun z ρ1 => z = .frs (x.map g) ∧ ρ1 = ρ) (h2 : t = false → EW X b ρ fun z ρ1 => z = .frs (y.map g) ∧ ρ1 = ρ) (q : Q (.frs ((if t = true then x else y).map g)) ρ) : EW X (.IfExp c a b pos) ρ Q :=
  EW.ifP h h1 h2 (by cases t <;> exact q)
end
end AW

/-! AW32: ranges as lists of ints. -/
namespace AW
variable [HasT]
open PySem PySem.Spec PyProof.Rows L2
abbrev natsI (n : Nat) : List Int := (List.range n).map fun (i : Nat) => (i : Int)
theorem rngM (m : Int) (n : Nat) : rngD m n = ((List.range n).map fun (i : Nat) => m + (i : Int)).map PyData.int := by
  unfold rngD
  rw [List.map_map]
  rfl
theorem rngI (n : Nat) : rngD 0 n = (natsI n).map PyData.int := by
  rw [rngM, List.map_map, List.map_map]
  refine List.map_congr_left fun i _ => ?_
  show PyData.int (0 + (i : Int)) = PyData.int i
  rw [Int.zero_add]
section
variable {X : Cx} {a : Expr} {ρ : Nv} {Q : QE} {p p2 pos : Pos} {k : Nat}
theorem EW.tupRgM {pos2 : Pos} (C : Ctx X k) (h : EW X a ρ fun x ρ1 => ∃ n : Int, x = .dat (.int n) ∧ n ≤ 1000000 ∧ -1000000 ≤ n ∧ Q (.dat (.tuple ((natsI n.toNat).map PyData.int))) ρ1) (hg : Gl X "tuple" := by rfl) (hg2 : Gl X "range" := by rfl) (hs : starEach [.Call (.Name "range" p2) [a] [] p] X.env = (false, eval (.Call (.Name "range" p2) [a] [] p) X.env) :: starEach [] X.env := by rfl) (hs2 : starEach [a] X.env = (false, eval a X.env) :: starEach [] X.env := by rfl) :
    EW X (.Call (.Name "tuple" pos) [.Call (.Name "range" p2) [a] [] p] [] pos2) ρ Q :=
  EW.tupRg C (EW.imp h fun x ρ1 ⟨n, e, b1, b2, q⟩ => ⟨n, e, b1, b2, by rw [rngI]; exact q⟩) hg hg2 hs hs2
theorem EW.lstRgM {pos2 : Pos} (C : Ctx X k) (h : EW X a ρ fun x ρ1 => ∃ n : Int, x = .dat (.int n) ∧ n ≤ 1000000 ∧ -1000000 ≤ n ∧ Q (.frs ((natsI n.toNat).map PyData.int)) ρ1) (hg : Gl X "list" := by rfl) (hg2 : Gl X "range" := by rfl) (hs : starEach [.Call (.Name "range" p2) [a] [] p] X.env = (false, eval (.Call (.Name "range" p2) [a] [] p) X.env) :: starEach [] X.env := by rfl) (hs2 : starEach [a] X.env = (false, eval a X.env) :: starEach [] X.env := by rfl) :
    EW X (.Call (.Name "list" pos) [.Call (.Name "range" p2) [a] [] p] [] pos2) ρ Q :=
  EW.lstRg C (EW.imp h fun x ρ1 ⟨n, e, b1, b2, q⟩ => ⟨n, e, b1, b2, by rw [rngI]; exact q⟩) hg hg2 hs hs2
end
end AW

/-! AW33: isinstance of data and a built-in type. -/
namespace AW
variable [HasT]
open PySem PySem.Spec PyProof.Rows L2
def tyD : PyData → String
  | .none => "NoneType"
  | .bool _ => "bool"
  | .int _ => "int"
  | .str _ => "str"
  | .list _ => "list"
  | .tuple _ => "tuple"
  | .dict _ => "dict"
theorem tyx_of {K : PySem.W.Frag} {H : Hp} {d : PyData} {v : V} (h : Rp K H d v) : TyX K H v (.type (tyD d)) := by
  cases h with
  | none => exact .base .non
  | bool b => exact .base (.bl b)
  | int i => exact .base (.int i)
  | str x => exact .base (.str x)
  | list e r =>
    rcases e with ⟨o, e⟩ | ⟨its, n, e, _⟩
    · exact .base (.frz e)
    · exact .kList e rfl
  | tuple e r =>
    exact .base (.tup e)
  | dict e k r => exact .fDict e
theorem tyx_read {K : PySem.W.Frag} {H0 H : Hp} {ρ : Nv} {σ : L2.St} {x : AV} {v : V} {d : PyData} (E : NvOk K H σ ρ) (V : VOk K H0 H ρ σ x v) (h : readD ρ x = some d) : TyX K H v (.type (tyD d)) := by
  cases x with
  | dat d' =>
    obtain rfl : d' = d := Option.some.inj h
    exact tyx_of V
  | frs ds =>
    obtain rfl : PyData.list ds = d := Option.some.inj h
    obtain ⟨a, vs, rfl, _, e, _⟩ := V
    exact .base (.lst e)
  | own i =>
    obtain ⟨⟨p, ds, h1⟩, h2⟩ := V
    obtain ⟨a, vs, e, q, _⟩ := E.hol h1
    rw [h2] at e
    cases e
    have hd : d = .list ds := by
      have e1 : readD ρ (.own i) = some (.list ds) := by
        show (match ρ[i]? with | some (.hol _ ds) => some ds | _ => none).map PyData.list = _
        rw [h1]
        rfl
      rw [e1] at h
      exact (Option.some.inj h).symm
    subst hd
    exact .base (.lst q)
def isIntD : PyData → Bool
  | .int _ => true
  | .bool _ => true
  | _ => false
def isBoolD : PyData → Bool
  | .bool _ => true
  | _ => false
def isStrD : PyData → Bool
  | .str _ => true
  | _ => false
def isTupD : PyData → Bool
  | .tuple _ => true
  | _ => false
def isListD : PyData → Bool
  | .list _ => true
  | _ => false
theorem kit_int : ∀ d : PyData, kitB (tyD d) "int" = some (isIntD d)
  | .none => (by decide +kernel : kitB "NoneType" "int" = some false)
  | .bool _ => (by decide +kernel : kitB "bool" "int" = some true)
  | .int _ => (by decide +kernel : kitB "int" "int" = some true)
  | .str _ => (by decide +kernel : kitB "str" "int" = some false)
  | .list _ => (by decide +kernel : kitB "list" "int" = some false)
  | .tuple _ => (by decide +kernel : kitB "tuple" "int" = some false)
  | .dict _ => (by decide +kernel : kitB "dict" "int" = some false)
theorem kit_bool : ∀ d : PyData, kitB (tyD d) "bool" = some (isBoolD d)
  | .none => (by decide +kernel : kitB "NoneType" "bool" = some false)
  | .bool _ => (by decide +kernel : kitB "bool" "bool" = some true)
  | .int _ => (by decide +kernel : kitB "int" "bool" = some false)
  | .str _ => (by decide +kernel : kitB "str" "bool" = some false)
  | .list _ => (by decide +kernel : kitB "list" "bool" = some false)
  | .tuple _ => (by decide +kernel : kitB "tuple" "bool" = some false)
  | .dict _ => (by decide +kernel : kitB "dict" "bool" = some false)
theorem kit_str : ∀ d : PyData, kitB (tyD d) "str" = some (isStrD d)
  | .none => (by decide +kernel : kitB "NoneType" "str" = some false)
  | .bool _ => (by decide +kernel : kitB "bool" "str" = some false)
  | .int _ => (by decide +kernel : kitB "int" "str" = some false)
  | .str _ => (by decide +kernel : kitB "str" "str" = some true)
  | .list _ => (by decide +kernel : kitB "list" "str" = some false)
  | .tuple _ => (by decide +kernel : kitB "tuple" "str" = some false)
  | .dict _ => (by decide +kernel : kitB "dict" "str" = some false)
theorem kit_tuple : ∀ d : PyData, kitB (tyD d) "tuple" = some (isTupD d)
  | .none => (by decide +kernel : kitB "NoneType" "tuple" = some false)
  | .bool _ => (by decide +kernel : kitB "bool" "tuple" = some false)
  | .int _ => (by decide +kernel : kitB "int" "tuple" = some false)
  | .str _ => (by decide +kernel : kitB "str" "tuple" = some false)
  | .list _ => (by decide +kernel : kitB "list" "tuple" = some false)
  | .tuple _ => (by decide +kernel : kitB "tuple" "tuple" = some true)
  | .dict _ => (by decide +kernel : kitB "dict" "tuple" = some false)
theorem kit_list : ∀ d : PyData, kitB (tyD d) "list" = some (isListD d)
  | .none => (by decide +kernel : kitB "NoneType" "list" = some false)
  | .bool _ => (by decide +kernel : kitB "bool" "list" = some false)
  | .int _ => (by decide +kernel : kitB "int" "list" = some false)
  | .str _ => (by decide +kernel : kitB "str" "list" = some false)
  | .list _ => (by decide +kernel : kitB "list" "list" = some true)
  | .tuple _ => (by decide +kernel : kitB "tuple" "list" = some false)
  | .dict _ => (by decide +kernel : kitB "dict" "list" = some false)
section
variable {X : Cx} {e : Expr} {ρ : Nv} {Q : QE} {p p2 pos : Pos} {k : Nat}
theorem EW.isi {T : Str} {n : String} {f : PyData → Bool} (C : Ctx X k) (hk : ∀ d, kitB (tyD d) n = some (f d)) (hT : X.mg T = none) (hb : bootBuiltins T = some (.type n)) (h : EW X e ρ fun x ρ1 => ∃ d, readD ρ1 x = some d ∧ Q (.dat (.bool (f d))) ρ1) (hg : Gl X "isinstance" := by rfl) (hg2 : Gl X T := by rfl)
    (hn : T ≠ "__name__" := by decide) (hd : (T == ("__debug__" : Str)) = false := by decide)
    (he : starEach [e, .Name T p2] X.env = (false, eval e X.env) :: starEach [.Name T p2] X.env := by rfl) (he2 : starEach [.Name T p2] X.env = (false, eval (.Name T p2) X.env) :: starEach [] X.env := by rfl) (hpl : (backTo pos (starEach [.Name T p2] X.env)).any (·.1) = false := by rfl) :
    EW X (.Call (.Name "isinstance" p) [e, .Name T p2] [] pos) ρ Q := fun σ H R E kk pins s I =>
  (pe_callB call_isi hg C.blt.isinstance rfl (pa_cons pe_W (pa_cons (pe_bltn (v := .ty n) hg2 hT hb rfl hn hd) pa_nil he2) he) (by decide) (by decide) he hpl).run pins s σ H R I (h σ H _ E fun v H1 x ρ1 P1 V1 ⟨d, hd, q⟩ =>
    ⟨v, .ty n, .type (tyD d), .type n, f d, rfl, .ty n, tyx_read P1.ok V1 hd, kit_ty (hk d), kk _ H1 (.dat (.bool (f d))) ρ1 P1 (vdat (.bool _)) q⟩)
end
end AW

/-! AW34: list(range(a, b)). -/
namespace AW
variable [HasT]
open PySem PySem.Spec PyProof.Rows L2
abbrev ivI (m : Int) (n : Nat) : List Int := (List.range n).map fun (i : Nat) => m + (i : Int)
theorem rp_rgM {K : PySem.W.Frag} {H : Hp} {m n : Int} : RpAll K H ((ivI m (n - m).toNat).map PyData.int) (rgV m n) := by
  rw [← rngM]
  unfold rngD rgV
  exact rp_rg _
section
variable {X : Cx} {a b : Expr} {ρ : Nv} {Q : QE} {p p2 pos pos2 : Pos} {k : Nat}
theorem EW.lstRg2M (C : Ctx X k) (h : EW X a ρ fun x ρ1 => EW X b ρ1 fun y ρ2 => ∃ m n : Int, x = .dat (.int m) ∧ y = .dat (.int n) ∧ (-1000000 ≤ m ∧ m ≤ 1000000 ∧ -1000000 ≤ n ∧ n ≤ 1000000) ∧ Q (.frs ((ivI m (n - m).toNat).map PyData.int)) ρ2) (hg : Gl X "list" := by rfl) (hg2 : Gl X "range" := by rfl)
    (hs : starEach [.Call (.Name "range" p2) [a, b] [] p] X.env = (false, eval (.Call (.Name "range" p2) [a, b] [] p) X.env) :: starEach [] X.env := by rfl) (hs2 : starEach [a, b] X.env = (false, eval a X.env) :: starEach [b] X.env := by rfl) (hs3 : starEach [b] X.env = (false, eval b X.env) :: starEach [] X.env := by rfl) (hp : (backTo p (starEach [b] X.env)).any (·.1) = false := by rfl) :
    EW X (.Call (.Name "list" pos) [.Call (.Name "range" p2) [a, b] [] p] [] pos2) ρ Q := fun σ H R E kk pins s I => by
  refine (pe_listRg C.calm hg C.blt.list (prg_2 hg2 C.blt.range pe_W pe_W hs2 hs3 hp) hs).run pins s σ H R I (h σ H _ E fun v H1 x ρ1 P V q => q σ H1 _ P.ok fun u H2 y ρ2 P2 V2 ⟨m, n, e, e2, ⟨b1, b2, b3, b4⟩, qq⟩ => ?_)
  subst e
  subst e2
  obtain rfl := Rp.int_inv V
  obtain rfl := Rp.int_inv V2
  exact ⟨m, n, rfl, rfl, ⟨by omega, by omega, by omega, by omega, by omega⟩, fun l z => kk _ _ (.frs _) _ ((P.trans P2).trans (Pex.new P2.ok z)) ⟨l, _, rfl, (P.trans P2).free z, upd_same, rp_rgM⟩ qq⟩
end
end AW

/-! AW35: dicts with int keys, as data; max, min of a list. -/
namespace AW
variable [HasT]
open PySem PySem.Spec PyProof.Rows L2
abbrev kvI (es : List (Int × PyData)) : List (PyData × PyData) := es.map fun p => (PyData.int p.1, p.2)
def putP (es : List (Int × PyData)) (k : Int) (v : PyData) : List (Int × PyData) :=
  if (es.any fun kv => decide (kv.1 = k)) = true then es.map (fun kv => if kv.1 = k then (kv.1, v) else kv) else es ++ [(k, v)]
def mergeP (es more : List (Int × PyData)) : List (Int × PyData) := more.foldl (fun acc kv => putP acc kv.1 kv.2) es
inductive KP (K : PySem.W.Frag) (H : Hp) : List (Int × PyData) → List (Key × V) → Prop
  | nil : KP K H [] []
  | cons {i : Int} {d : PyData} {v : V} {es : List (Int × PyData)} {kvs : List (Key × V)} : Rp K H d v → KP K H es kvs → KP K H ((i, d) :: es) ((.inl i, v) :: kvs)
section
variable {K : PySem.W.Frag} {H H' : Hp}
theorem KP.any (k : Int) : ∀ {es : List (Int × PyData)} {kvs : List (Key × V)}, KP K H es kvs → (kvs.any fun kv => decide (kv.1 = .inl k)) = es.any fun kv => decide (kv.1 = k)
  | _, _, .nil => rfl
  | _, _, .cons (i := i) r t => by
    rw [List.any_cons, List.any_cons, KP.any k t]
    congr 1
    exact decide_eq_decide.mpr ⟨fun e => Sum.inl.inj e, fun e => by rw [show i = k from e]⟩
theorem KP.repl (k : Int) {d : PyData} {v : V} (r : Rp K H d v) : ∀ {es : List (Int × PyData)} {kvs : List (Key × V)}, KP K H es kvs →
    KP K H (es.map fun kv => if kv.1 = k then (kv.1, d) else kv) (kvs.map fun kv => if kv.1 = .inl k then (kv.1, v) else kv)
  | _, _, .nil => .nil
  | _, _, .cons (i := i) r1 t => by
    rw [List.map_cons, List.map_cons]
    by_cases e : i = k
    · subst e
      simp only [if_true]
      exact .cons r (KP.repl _ r t)
    · rw [if_neg (show ¬ (i, _).1 = k from e), if_neg (fun z => e (Sum.inl.inj z))]
      exact .cons r1 (KP.repl k r t)
theorem KP.snoc (k : Int) {d : PyData} {v : V} (r : Rp K H d v) : ∀ {es : List (Int × PyData)} {kvs : List (Key × V)}, KP K H es kvs → KP K H (es ++ [(k, d)]) (kvs ++ [(.inl k, v)])
  | _, _, .nil => .cons r .nil
  | _, _, .cons r1 t => .cons r1 (KP.snoc k r t)
theorem KP.put {es : List (Int × PyData)} {kvs : List (Key × V)} (h : KP K H es kvs) (k : Int) {d : PyData} {v : V} (r : Rp K H d v) : KP K H (putP es k d) (putK kvs (.inl k) v) := by
  unfold putP putK
  rw [h.any k]
  split
  · exact h.repl k r
  · exact h.snoc k r
theorem KP.merge : ∀ {more : List (Int × PyData)} {kmore : List (Key × V)} {es : List (Int × PyData)} {kvs : List (Key × V)}, KP K H more kmore → KP K H es kvs → KP K H (mergeP es more) (mergeK kvs kmore)
  | _, _, _, _, .nil, h => h
  | _, _, es, kvs, .cons (i := i) (d := d) (v := v) (es := m2) (kvs := k2) r t, h => show KP K H (mergeP (putP es i d) m2) (mergeK (putK kvs (.inl i) v) k2) from KP.merge t (h.put _ r)
theorem KP.keys : ∀ {es : List (Int × PyData)} {kvs : List (Key × V)}, KP K H es kvs → (kvI es).map (·.1) = kvs.map fun kv => keyD kv.1
  | _, _, .nil => rfl
  | _, _, .cons r t => by
    have := KP.keys t
    simp only [kvI, List.map_cons] at this ⊢
    rw [this]
    rfl
theorem KP.vals : ∀ {es : List (Int × PyData)} {kvs : List (Key × V)}, KP K H es kvs → RpAll K H ((kvI es).map (·.2)) (kvs.map (·.2))
  | _, _, .nil => .nil
  | _, _, .cons r t => .cons r (KP.vals t)
theorem KP.rp {es : List (Int × PyData)} {kvs : List (Key × V)} (h : KP K H es kvs) {a : Addr} {o : Obj} (e : H a = some (.frz o (.dK kvs))) : Rp K H (.dict (kvI es)) (.ref a) := .dict e h.keys h.vals
theorem KP.mono (s : Stb H H') : ∀ {es : List (Int × PyData)} {kvs : List (Key × V)}, KP K H es kvs → KP K H' es kvs
  | _, _, .nil => .nil
  | _, _, .cons r t => .cons (Rp.mono s _ _ r) (KP.mono s t)
theorem kp_pairs : ∀ {es : List (Int × PyData)} {xs : List V}, RpAll K H (es.map fun p => PyData.tuple [.int p.1, p.2]) xs → ∃ (ps : List Addr) (kvs : List (Key × V)), xs = ps.map V.ref ∧ Paired (fun p kv => SqT K H p [kV kv.1, kv.2]) ps kvs ∧ KP K H es kvs
  | [], _, h => by cases h; exact ⟨[], [], rfl, .nil, .nil⟩
  | (i, d) :: es, _, h => by
    rw [List.map_cons] at h
    cases h with
    | cons r t =>
      obtain ⟨ps, kvs, e, pr, kp⟩ := kp_pairs t
      cases r with
      | @tuple a ys _ q rr =>
        cases rr with
        | cons r1 r2 =>
          cases r2 with
          | cons r3 r4 =>
            cases r4
            obtain rfl := Rp.int_inv r1
            exact ⟨a :: ps, (.inl i, _) :: kvs, by rw [e] <;> rfl, .cons (SqT.of q) pr, .cons r3 kp⟩
theorem dit_dict {H1 : Hp} {d : Addr} {o : Obj} {kvs : List (Key × V)} {ds : List PyData} (h : H1 d = some (.frz o (.dK kvs))) (hk : ds = kvs.map fun kv => keyD kv.1) : DIt K H1 (Itk d o kvs) ds := fun H st => by
  have hl : ds.length = kvs.length := by rw [hk, List.length_map]
  have h' := st _ _ (show Imm (.frz o (.dK kvs)) from trivial) h
  refine ⟨fun i hi => ⟨h', by omega⟩, ⟨h', by omega⟩, fun i x H' z hy hz => ?_⟩
  obtain ⟨rfl, k, v, e, rfl⟩ := hy
  refine ⟨?_, .inl rfl⟩
  rw [hk, List.getElem?_map, e] at hz
  obtain rfl : keyD k = z := Option.some.inj hz
  cases k with
  | inl i => exact .int i
  | inr x => exact .str x
end
theorem tabs_stepD {T : List (Addr × Str)} {H H' : Hp} (h : ∀ b o, H b = some o → (∀ vs, o ≠ .dK vs) → H' b = some o) (t : LamX.Tabs T H) : LamX.Tabs T H' := fun p hp => by
  obtain ⟨ps, h1, h2, h3⟩ := t p hp
  refine ⟨ps, h _ _ h1 (fun vs z => by cases z), h2, fun pos cv hc => ?_⟩
  obtain ⟨c, e, hco⟩ := h3 pos cv hc
  exact ⟨c, e, h _ _ hco (fun vs z => by unfold LamX.CodeO at z; cases z)⟩
theorem upd2 {H : Hp} {p : Addr} {a b : HO} : upd (upd H p a) p b = upd H p b := by
  funext q
  by_cases e : q = p
  · subst e; rw [upd_same, upd_same]
  · rw [upd_ne e, upd_ne e, upd_ne e]
section
variable {X : Cx} {e tg iter ke ve : Expr} {ρ : Nv} {Q : QE} {p pos : Pos} {k : Nat}
theorem call_dictF (hcalm : X.calm = true) : CallR X (.type "dict") (fun xs H Q => ∃ (a : Addr) (ps : List Addr) (kvs : List (Key × V)), xs = [.ref a] ∧ SqL X.K H a (ps.map V.ref) ∧ Paired (fun p kv => SqT X.K H p [kV kv.1, kv.2]) ps kvs ∧
    ∀ p od, H p = none → Q (.ref p) (upd H p (.frz od (.dK (mergeK [] kvs))))) := by
  intro pins s σ H xs us Q I r q
  obtain ⟨a, ps, kvs, ex, hq, hp, q⟩ := q
  refine thn (call_dictP hcalm pins s σ H xs us (fun x H' => ∃ p, x = .ref p ∧ H p = none ∧ H' = upd H p (.dK (mergeK [] kvs))) I r ⟨a, ps, kvs, ex, hq, hp, fun p n => ⟨p, rfl, n, rfl⟩⟩) fun u s' z => ?_
  obtain ⟨x, H', I', rx, p, rfl, n, rfl⟩ := z
  obtain ⟨od, I2⟩ := I'.lock upd_same trivial
  rw [upd2] at I2
  exact ⟨_, _, I2, rx, q p od n⟩
theorem call_listF (hc : X.calm = true) : CallR X (.type "list") (fun xs H Q => ∃ p o kvs, xs = [.ref p] ∧ H p = some (.frz o (.dK kvs)) ∧ ∀ q, H q = none → Q (.ref q) (upd H q (.lst (kvs.map fun kv => kV kv.1)))) := by
  intro pins s σ H xs us Q I r h
  obtain ⟨p, o, kvs, e, hk, q⟩ := h
  subst e
  obtain ⟨u, eu, rx⟩ := vals1 r
  subst eu
  obtain rfl : u = Value.ref p := rx
  obtain ⟨lo, _, _, es, ep, vs, _, _, rk, hat⟩ := I.frzK hk
  obtain ⟨_, z, _⟩ := I.hok p _ hk
  have hl : kvs.length = vs.length := Paired.length rk
  refine PySem.W.kdl_call (PySem.W.kdl_dict (knd := mixKind X.prog X.w) (kvs := vs) (ep := ep) lo) (I.ok.hd hc) hat (by rw [← hl]; exact z) fun h' tk acc' c' hkeep hS hacc => ?_
  refine ⟨.ref s.heap.objs.size, upd H s.heap.objs.size (.lst (kvs.map fun kv => kV kv.1)), I.laid hkeep (Nat.le_refl _) (show ObjOk X.prog X.w _ _ _ (.lst (kvs.map fun kv => kV kv.1)) from ⟨?_, acc'.toList, c', ?_, ?_⟩), rfl, q _ (I.hok.fresh (Nat.le_refl _))⟩
  · rw [List.length_map]; exact z
  · refine vals_of_at (by have el : acc'.toList.length = acc'.size := Array.length_toList; rw [List.length_map, el, hacc.1, hl]) fun j x w h1 h2 => ?_
    obtain ⟨y1, y2, hky, hi⟩ := hacc.2 j w (by rw [← Array.getElem?_toList]; exact h2)
    have e1 := congrArg (fun l => (l.map kV)[j]?) (KV.keys rk)
    simp only [List.map_map, List.getElem?_map, hky] at e1
    rw [List.getElem?_map] at h1
    rw [show (fun kv : Key × V => kV kv.1) = (kV ∘ fun x => x.1) from rfl, e1] at h1
    cases h1
    exact keyIs_rel hi
  · rw [Array.toArray_toList]; exact hS
/-- dict(a list of pairs (int, data)) -/
def dicR : Nv → AV → (AV → Prop) → Prop := fun ρ x q => ∃ es : List (Int × PyData), seqL ρ x = some (es.map fun p => PyData.tuple [.int p.1, p.2]) ∧ q (.dat (.dict (kvI (mergeP [] es))))
theorem EW.dicC (C : Ctx X k) (h : EW X e ρ fun x ρ1 => dicR ρ1 x fun z => Q z ρ1) (hg : Gl X "dict" := by rfl) (he : starEach [e] X.env = (false, eval e X.env) :: starEach [] X.env := by rfl) (hpl : (backTo pos (starEach [] X.env)).any (·.1) = false := by rfl) : EW X (.Call (.Name "dict" p) [e] [] pos) ρ Q :=
  EW.t1 (call_dictF C.calm) (fun σ H0 H ρ x v q R E V ⟨es, hd, t⟩ kk => by
    obtain ⟨m, xs, rfl, r, rp⟩ := seqL_ok E V hd
    obtain ⟨ps, kvs, rfl, pr, kp⟩ := kp_pairs rp
    refine ⟨m, ps, kvs, rfl, r.sq, pr, fun a od n => kk _ _ _ (Pex.new E n) ?_ t⟩
    exact KP.rp ((KP.merge kp .nil).mono (Stb.new n)) upd_same) C.blt.dict (by decide +kernel) h hg (by decide) (by decide) he hpl
/-- list(a dict) -/
def lsdR : Nv → AV → (AV → Prop) → Prop := fun ρ x q => ∃ es : List (Int × PyData), x = .dat (.dict (kvI es)) ∧ q (.frs ((es.map (·.1)).map .int))
theorem EW.lsdC (C : Ctx X k) (h : EW X e ρ fun x ρ1 => lsdR ρ1 x fun z => Q z ρ1) (hg : Gl X "list" := by rfl) (he : starEach [e] X.env = (false, eval e X.env) :: starEach [] X.env := by rfl) (hpl : (backTo pos (starEach [] X.env)).any (·.1) = false := by rfl) : EW X (.Call (.Name "list" p) [e] [] pos) ρ Q :=
  EW.t1 (call_listF C.calm) (fun σ H0 H ρ x v q R E V ⟨es, ex, t⟩ kk => by
    subst ex
    cases V with
    | @dict a o kvs _ e1 e2 e3 =>
      refine ⟨a, o, kvs, rfl, e1, fun b n => kk _ _ _ (Pex.new E n) (frs_new n ?_) t⟩
      have : (kvs.map fun kv => kV kv.1) = (es.map (·.1)).map V.int := by
        have h1 : kvs.map (fun kv => keyD kv.1) = (es.map (·.1)).map PyData.int := by rw [← e2]; simp [kvI, Function.comp_def]
        clear e1 e2 e3 t kk
        generalize es.map (·.1) = ns at h1
        induction kvs generalizing ns with
        | nil => cases ns with
          | nil => rfl
          | cons n ns => simp at h1
        | cons c kvs ih =>
          cases ns with
          | nil => simp at h1
          | cons n ns =>
            simp only [List.map_cons, List.cons.injEq] at h1 ⊢
            obtain ⟨a1, a2⟩ := h1
            refine ⟨?_, ih ns a2⟩
            obtain ⟨c1, c2⟩ := c
            cases c1 with
            | inl i => cases a1; rfl
            | inr x => cases a1
      rw [this]
      exact RpAll.ints') C.blt.list (by decide +kernel) h hg (by decide) (by decide) he hpl
/-- {k: v} -/
theorem EW.disp1 (h : EW X ke ρ fun x ρ1 => EW X ve ρ1 fun y ρ2 => ∃ (i : Int) (d : PyData), x = .dat (.int i) ∧ y = .dat d ∧ Q (.dat (.dict (kvI [(i, d)]))) ρ2) : EW X (.Dict [some ke] [ve] pos) ρ Q := fun σ H R E kk pins s I => by
  refine thn ((pe_disp (pps_cons pe_W pe_W pps_nil) rfl rfl (by simp) (by simp)).run pins s σ H (fun x H' => ∃ p kvs, x = .ref p ∧ H' p = some (.dK kvs) ∧ ∀ od, R (.ref p) (upd H' p (.frz od (.dK kvs)))) I fun p n => ?_) fun u s' z => ?_
  · have E1 := E.new (o := .dK []) n
    refine h σ _ _ E1 fun v H1 x ρ1 P1 V1 q1 => q1 σ H1 _ P1.ok fun w H2 y ρ2 P2 V2 ⟨i, d, ex, ey, q⟩ => ?_
    subst ex
    subst ey
    obtain rfl := Rp.int_inv V1
    have nt : Ntb (.dK []) := fun ps z => by cases z
    have e1 : H1 p = some (.dK []) := P1.kp p _ upd_same (upd_mine E (Pex.new E n (o := .dK [])) n) nt
    have e2 : H2 p = some (.dK []) := P2.kp p _ e1 (upd_mine E ((Pex.new E n (o := .dK [])).trans P1) n) nt
    refine ⟨e2, [(.inl i, w)], rfl, by simp, p, _, rfl, upd_same, fun od => ?_⟩
    rw [upd2]
    have st : Stb H2 (upd H2 p (.frz od (.dK (mergeK [] [(.inl i, w)])))) := fun b o im hb => by rw [upd_ne (fun z => by rw [z, e2] at hb; cases hb; exact im)]; exact hb
    have P0 : Pex X.K H ρ σ H2 ρ2 := ((Pex.new E n).trans P1).trans P2
    refine kk _ _ (.dat (.dict (kvI [(i, d)]))) ρ2 ⟨fun b o hb m t => ?_, fun b o hb => ?_, P0.so, P0.os, ⟨P0.ok.len, fun j sv hj => ?_, P0.ok.sep, tabs_stepD (fun b o hb nl => ?_) P0.ok.tb⟩⟩ ?_ q
    · rw [upd_ne (fun z => by rw [z, n] at hb; cases hb)]
      exact P0.kp b o hb m t
    · by_cases z : b = p
      · subst z; exact ⟨_, upd_same⟩
      · rw [upd_ne z]; exact P0.th b o hb
    · obtain ⟨u, eu, so⟩ := P0.ok.get j sv hj
      refine ⟨u, eu, ?_⟩
      cases sv with
      | un => trivial
      | dat d => obtain ⟨v, e3, r3⟩ := so; exact ⟨v, e3, Rp.mono st _ _ r3⟩
      | hol p3 ds3 =>
        obtain ⟨b, ws3, rfl, q3, r3⟩ := so
        refine ⟨b, ws3, rfl, ?_, RpAll.mono st _ _ r3⟩
        rw [upd_ne (fun z => by rw [z, e2] at q3; cases q3)]
        exact q3
      | dic ds3 =>
        obtain ⟨b, o3, ws3, rfl, q3, k3, r3⟩ := so
        refine ⟨b, o3, ws3, rfl, ?_, k3, RpAll.mono st _ _ r3⟩
        rw [upd_ne (fun z => by subst z; exact upd_mine E P0 n ⟨j, _, hj, trivial, eu⟩)]
        exact q3
    · rw [upd_ne (fun z => by rw [z, e2] at hb; cases hb; exact nl _ rfl)]
      exact hb
    · exact KP.rp (KP.cons (Rp.mono st _ _ V2) .nil) upd_same
  · obtain ⟨x, H', I', rx, p, kvs, rfl, e, q⟩ := z
    obtain ⟨od, I2⟩ := I'.lock e trivial
    exact ⟨_, _, I2, rx, q od⟩
/-- for k in a dict -/
theorem IW.dict {Q : List PyData → Nv → Prop} (h : EW X iter ρ fun x ρ1 => ∃ es : List (Int × PyData), x = .dat (.dict (kvI es)) ∧ Q ((es.map (·.1)).map .int) ρ1) : IW X tg iter ρ Q := fun σ H R Ev kk => by
  intro pins s I
  refine (pi_keys pe_W).run pins s σ H R I (h σ H _ Ev fun v H1 x ρ1 P V ⟨es, e, q⟩ => ?_)
  subst e
  cases V with
  | @dict a o kvs _ e1 e2 e3 =>
    refine ⟨a, o, rfl, .inl ⟨kvs, e1, kk _ H1 _ ρ1 P (dit_dict e1 ?_) q⟩⟩
    rw [← e2]
    simp [kvI, Function.comp_def]
/-- max, min of a list of ints -/
def maxLR : Nv → AV → (AV → Prop) → Prop := fun ρ x q => ∃ ns : List Int, seqL ρ x = some (ns.map .int) ∧ 0 < ns.length ∧ ∀ m, m ∈ ns → (∀ y, y ∈ ns → y ≤ m) → q (.dat (.int m))
def minLR : Nv → AV → (AV → Prop) → Prop := fun ρ x q => ∃ ns : List Int, seqL ρ x = some (ns.map .int) ∧ 0 < ns.length ∧ ∀ m, m ∈ ns → (∀ y, y ∈ ns → m ≤ y) → q (.dat (.int m))
theorem EW.maxL (C : Ctx X k) (h : EW X e ρ fun x ρ1 => maxLR ρ1 x fun z => Q z ρ1) (hg : Gl X "max" := by rfl) (he : starEach [e] X.env = (false, eval e X.env) :: starEach [] X.env := by rfl) (hpl : (backTo pos (starEach [] X.env)).any (·.1) = false := by rfl) : EW X (.Call (.Name "max" p) [e] [] pos) ρ Q :=
  EW.b1 (cr_max C.calm) (fun σ H0 H ρ x v q R E V ⟨ns, hd, hl, t⟩ kk => by
    obtain ⟨m, xs, rfl, r, rp⟩ := seqL_ok E V hd
    obtain rfl := rp.ints
    exact ⟨m, ns, rfl, r.sq, hl, fun z h1 h2 => kk _ H _ (Pex.refl E) (vdat (.int _)) (t z h1 h2)⟩) C.blt.max (by decide +kernel) h hg (by decide) (by decide) he hpl
theorem EW.minL (C : Ctx X k) (h : EW X e ρ fun x ρ1 => minLR ρ1 x fun z => Q z ρ1) (hg : Gl X "min" := by rfl) (he : starEach [e] X.env = (false, eval e X.env) :: starEach [] X.env := by rfl) (hpl : (backTo pos (starEach [] X.env)).any (·.1) = false := by rfl) : EW X (.Call (.Name "min" p) [e] [] pos) ρ Q :=
  EW.b1 (cr_min C.calm) (fun σ H0 H ρ x v q R E V ⟨ns, hd, hl, t⟩ kk => by
    obtain ⟨m, xs, rfl, r, rp⟩ := seqL_ok E V hd
    obtain rfl := rp.ints
    exact ⟨m, ns, rfl, r.sq, hl, fun z h1 h2 => kk _ H _ (Pex.refl E) (vdat (.int _)) (t z h1 h2)⟩) C.blt.min (by decide +kernel) h hg (by decide) (by decide) he hpl
end
end AW

/-! AW36: dict comprehensions, d[k], sorted of a dict, sorted of many ints, max with a default, list.insert. -/
namespace AW
variable [HasT]
open PySem PySem.Spec PyProof.Rows L2
/-! ### d[k] -/
def getP (es : List (Int × PyData)) (k : Int) : Option PyData := (es.find? fun kv => decide (kv.1 = k)).map (·.2)
section
variable {K : PySem.W.Frag} {H H' : Hp}
theorem KP.get (k : Int) : ∀ {es : List (Int × PyData)} {kvs : List (Key × V)} {d : PyData}, KP K H es kvs → getP es k = some d → ∃ v, valV kvs (.inl k) = some v ∧ Rp K H d v
  | _, _, d, .nil, h => by cases h
  | _, _, d, .cons (i := i) (d := d') (v := v) (es := es) (kvs := kvs) r t, h => by
    unfold getP at h
    unfold valV
    by_cases e : i = k
    · subst e
      rw [List.find?_cons_of_pos (by simp)] at h ⊢
      obtain rfl : d' = d := Option.some.inj h
      exact ⟨v, rfl, r⟩
    · rw [List.find?_cons_of_neg (by simpa using e)] at h
      rw [List.find?_cons_of_neg (by simp only [decide_eq_true_eq]; exact fun z => e (show i = k from Sum.inl.inj z))]
      exact KP.get k t h
theorem KP.of : ∀ {es : List (Int × PyData)} {kvs : List (Key × V)}, (kvI es).map (·.1) = kvs.map (fun kv => keyD kv.1) → RpAll K H ((kvI es).map (·.2)) (kvs.map (·.2)) → KP K H es kvs
  | [], [], _, _ => .nil
  | [], _ :: _, h, _ => by simp [kvI] at h
  | _ :: _, [], h, _ => by simp [kvI] at h
  | (i, d) :: es, (k, v) :: kvs, h, r => by
    simp only [kvI, List.map_cons, List.cons.injEq] at h r
    obtain ⟨h1, h2⟩ := h
    cases k with
    | inl j =>
      obtain rfl : i = j := PyData.int.inj h1
      cases r with
      | cons r1 r2 => exact .cons r1 (KP.of h2 r2)
    | inr x => cases h1
end
section
variable {X : Cx} {o e a b tg iter ke ve : Expr} {ρ : Nv} {Q : QE} {p p2 pos pos2 apos cpos : Pos} {k : Nat} {scope : Scope} {is : List Nat}
theorem EW.dget (C : Ctx X k) (h : EW X o ρ fun x ρ1 => EW X e ρ1 fun y ρ2 => ∃ (es : List (Int × PyData)) (i : Int) (d : PyData), x = .dat (.dict (kvI es)) ∧ y = .dat (.int i) ∧ getP es i = some d ∧ Q (.dat d) ρ2) (hs : NoSl e := by intro _ _; rfl) : EW X (.Subscript o e pos) ρ Q := fun σ H R E kk pins s I => by
  refine (pe_dget (by have := C.units; omega) pe_W pe_W hs).run pins s σ H R I (h σ H _ E fun v H1 x ρ1 P1 V1 q => q σ H1 _ P1.ok fun w H2 y ρ2 P2 V2 ⟨es, i, d, ex, ey, hg, q2⟩ => ?_)
  subst ex
  subst ey
  obtain rfl := Rp.int_inv V2
  cases V1 with
  | @dict m od kvs _ e1 e2 e3 =>
    have st := P2.stb P1.ok
    have e1' := st _ _ (show Imm (.frz od (.dK kvs)) from trivial) e1
    obtain ⟨v, hv, rv⟩ := KP.get i ((KP.of e2 e3).mono st) hg
    exact ⟨m, v, rfl, .inl ⟨kvs, .inl i, .inr ⟨od, e1'⟩, rfl, hv.symm⟩, kk _ _ (.dat d) _ (P1.trans P2) rv q2⟩
/-! ### sorted -/
theorem kv_ints {prog : Program} {w : World} {kvs : List (Key × V)} {vs : List (Key × Value)} {es : List (Int × PyData)} (hk : (kvI es).map (·.1) = kvs.map fun kv => keyD kv.1) (kv : KV kvs vs) : ∀ (j : Nat) (v : Value), (∃ q x, vs[j]? = some (q, x) ∧ (mixKind prog w).is q v = true) → ∃ (n : Int) (t : Tok), (es.map (·.1))[j]? = some n ∧ v = Value.int n t := fun j v ⟨q, x, e, hq⟩ => by
  have e1 := congrArg (fun l => l[j]?) (KV.keys kv)
  simp only [List.getElem?_map, e, Option.map_some] at e1
  have e2 := congrArg (fun l => l[j]?) hk
  simp only [kvI, List.map_map, List.getElem?_map] at e2
  cases c : kvs[j]? with
  | none => rw [c] at e1; cases e1
  | some kv' =>
    rw [c] at e1 e2
    obtain rfl : kv'.1 = q := Option.some.inj e1
    cases c2 : es[j]? with
    | none => rw [c2] at e2; cases e2
    | some z =>
      rw [c2] at e2
      have e3 : PyData.int z.1 = keyD kv'.1 := Option.some.inj e2
      obtain ⟨k1, k2⟩ := kv'
      cases k1 with
      | inl n =>
        obtain rfl : z.1 = n := PyData.int.inj e3
        obtain ⟨t, rfl⟩ : ∃ t, v = Value.int z.1 t := keyIs_rel (k := .inl z.1) hq
        exact ⟨z.1, t, by rw [List.getElem?_map, c2] <;> rfl, rfl⟩
      | inr x => cases e3

theorem sorted_src {prog : Program} {w : World} {A : Around} {E : Value → Shared → Prop} {s : Shared} {T : String} {r d : Addr} {n : Nat} {P : Nat → Value → Prop} {OK : Heap → Prop} {ns : List Int} {Q : Value → Shared → Prop} (K : PySem.W.KdlSrc prog w T r d n P OK) (hh : A.handled = none) (hok : OK s.heap) (hn : n ≤ sizeLine)
    (hI : ∀ vs : List Value, vs.length = n → (∀ (j : Nat) (v : Value), vs[j]? = some v → P j v) → IntsAre vs ns)
    (h : ∀ (D : Addr) (h1 h2 : Heap) (tk : Nat) (ms : List Int) (out : List Value), (∀ b o, s.heap.get? b = some o → h1.get? b = some o) → h1.objs.size ≤ D → (∀ b o, h1.get? b = some o → h2.get? b = some o) → (∃ e, h2.get? D = some (seqObj "list" out.toArray e)) → IntsAre out ms → ms.Perm ns → ms.Pairwise (· ≤ ·) → Q (.ref D) { s with heap := h2, toks := tk }) :
    wpAny (model prog w) A (call (.builtin "sorted") [.ref r]) Q E s := by
  refine Calls.call_function_entry kind_sorted plain_sorted entry_sorted (args_sorted1 _) ?_
  unfold Builtin.«sorted»
  refine wpAny_bind (m := checkCount "sorted" 1 1 _) (wpAny_pure ?_)
  refine wpAny_bind (PySem.W.kdu_collect (A := A.in1) K hh hok hn fun h' tk acc hk hacc => ?_)
  have hl : acc.toList.length = n := by rw [Array.length_toList]; exact hacc.1
  refine wpAny_bind (wpAny_newList ?_ (by rw [hl]; exact hn))
  have hi := hI acc.toList hl (fun j v e => hacc.2 j v (by rw [← Array.getElem?_toList]; exact e))
  have hoL : (h'.push (seqObj "list" acc.toList.toArray 0)).get? h'.objs.size = some (seqObj "list" acc.toList.toArray 0) := Heap.get?_push_size _ rfl
  refine wpAny_bind (wpAny_holding (wpAny_call_entry slot_list_sort ⟨_, hoL, rfl⟩ entry_list_sort (SrtO.list_sort_ord SrtO.swo_int hoL (by rw [hl]; exact hn) (fun h2 => SrtO.ints_sortable hi h2) fun out hs hb => ⟨_, rfl, ?_⟩) (args_list_sort _)))
  obtain ⟨k1, k2, k3⟩ := SrtO.ints_out hi hs hb
  refine wpAny_pure ⟨_, rfl, h _ h' _ tk _ out hk (Nat.le_refl _) (fun b o e => ?_) (sortedHeap_at hoL) k1 k2 k3⟩
  have a2 : (h'.push (seqObj "list" acc.toList.toArray 0)).get? b = some o := Heap.get?_push_of_some _ e
  rw [sortedHeap_old (Nat.ne_of_lt (Heap.lt_size e)) (Heap.lt_size a2)]
  exact a2
theorem call_sortedD (hcalm : X.calm = true) : CallR X (.builtin "sorted") (fun xs H Q => ∃ p o kvs, ∃ es : List (Int × PyData), xs = [V.ref p] ∧ H p = some (.frz o (.dK kvs)) ∧ (kvI es).map (·.1) = kvs.map (fun kv => keyD kv.1) ∧
    ∀ (ms : List Int) (q : Addr), ms.Perm (es.map (·.1)) → ms.Pairwise (· ≤ ·) → H q = none → Q (.ref q) (upd H q (.lst (ms.map V.int)))) := by
  intro pins s σ H xs us Q I r h
  obtain ⟨p, o, kvs, es, e, hk, he, q⟩ := h
  subst e
  obtain ⟨u, eu, rx⟩ := vals1 r
  subst eu
  obtain rfl : u = Value.ref p := rx
  obtain ⟨lo, _, _, es', ep, vs, _, _, rk, hat⟩ := I.frzK hk
  obtain ⟨_, z, _⟩ := I.hok p _ hk
  have hl : kvs.length = vs.length := Paired.length rk
  have hel : es.length = vs.length := by rw [← hl]; simpa [kvI] using congrArg List.length he
  refine sorted_src (ns := es.map (·.1)) (PySem.W.kdl_dict (knd := mixKind X.prog X.w) (kvs := vs) (ep := ep) lo) (I.ok.hd hcalm) hat (by rw [← hl]; exact z) (fun ws hw hp => ?_) fun D h1 h2 tk ms out hk1 hD hkeep hd hi hp hs => ?_
  · refine ints_each (by rw [List.length_map, hw, hel]) fun j v e => ?_
    obtain ⟨k', x, e1, e2⟩ := hp j v e
    exact kv_ints he rk j v ⟨k', x, e1, e2⟩
  · obtain ⟨ee, hd⟩ := hd
    have hml : (ms.map V.int).length ≤ sizeLine := by rw [List.length_map, hp.length_eq, List.length_map, hel, ← hl]; exact z
    have I1 := I.kept (t' := tk) hk1
    exact ⟨.ref D, upd H D (.lst (ms.map V.int)), I1.laid (t' := tk) hkeep hD (show ObjOk X.prog X.w _ _ _ (.lst (ms.map V.int)) from ⟨hml, out, ee, vals_of_ints hi, hd⟩), rfl, q _ _ hp hs (I1.hok.fresh hD)⟩
/-- sorted(a dict), sorted(ints) -/
def srdR : Nv → AV → (AV → Prop) → Prop := fun ρ x q => ∃ es : List (Int × PyData), x = .dat (.dict (kvI es)) ∧ ∀ ms : List Int, ms.Perm (es.map (·.1)) → ms.Pairwise (· ≤ ·) → q (.frs (ms.map .int))
def sriR : Nv → AV → (AV → Prop) → Prop := fun ρ x q => ∃ ns : List Int, seqL ρ x = some (ns.map .int) ∧ ∀ ms : List Int, ms.Perm ns → ms.Pairwise (· ≤ ·) → q (.frs (ms.map .int))
theorem EW.sortD (C : Ctx X k) (h : EW X e ρ fun x ρ1 => srdR ρ1 x fun z => Q z ρ1) (hg : Gl X "sorted" := by rfl) (he : starEach [e] X.env = (false, eval e X.env) :: starEach [] X.env := by rfl) (hpl : (backTo pos (starEach [] X.env)).any (·.1) = false := by rfl) : EW X (.Call (.Name "sorted" p) [e] [] pos) ρ Q :=
  EW.b1 (call_sortedD C.calm) (fun σ H0 H ρ x v q R E V ⟨es, ex, t⟩ kk => by
    subst ex
    cases V with
    | @dict a o kvs _ e1 e2 e3 => exact ⟨a, o, kvs, es, rfl, e1, e2, fun ms b h1 h2 n => kk _ _ _ (Pex.new E n) (frs_new n RpAll.ints') (t ms h1 h2)⟩) C.blt.sorted (by decide +kernel) h hg (by decide) (by decide) he hpl
theorem EW.sortI (C : Ctx X k) (h : EW X e ρ fun x ρ1 => sriR ρ1 x fun z => Q z ρ1) (hg : Gl X "sorted" := by rfl) (he : starEach [e] X.env = (false, eval e X.env) :: starEach [] X.env := by rfl) (hpl : (backTo pos (starEach [] X.env)).any (·.1) = false := by rfl) : EW X (.Call (.Name "sorted" p) [e] [] pos) ρ Q :=
  EW.b1 cr_sortedI (fun σ H0 H ρ x v q R E V ⟨ns, hd, t⟩ kk => by
    obtain ⟨m, xs, rfl, r, rp⟩ := seqL_ok E V hd
    obtain rfl := rp.ints
    exact ⟨m, ns, rfl, r.sq, fun ms b h1 h2 n => kk _ _ _ (Pex.new E n) (frs_new n RpAll.ints') (t ms h1 h2)⟩) C.blt.sorted (by decide +kernel) h hg (by decide) (by decide) he hpl
/-! ### max(ints, default=d) -/
def maxDf (d : Int) : List Int → Int
  | [] => d
  | n :: ns => ns.foldl max n
theorem cr_maxDef (hc : X.calm = true) (hu : X.A.units + 1 < cLine) : CallRK X (.builtin "max") [Str.ofString "default"] (fun xs zs H Q => ∃ (a : Addr) (ns : List Int) (d : Int), xs = [.ref a] ∧ zs = [.int d] ∧ SqL X.K H a (ns.map V.int) ∧ Q (.int (maxDf d ns)) H) := by
  intro pins s σ H vs zs us ws Q I r rz h
  obtain ⟨a, ns, d, rfl, rfl, hs, q⟩ := h
  obtain rfl := Vals.ref1 r
  obtain ⟨w1, rfl, e1⟩ := vals1 rz
  obtain ⟨its, rv, hl, _⟩ := I.list hs
  have hi := rv.ints
  have h0 : PyData.depthAll (ns.map PyData.int) = 0 := depth_ints ns
  refine PySem.W.max_list_default (I.ok.hd hc) hl.isList (ints_readAll s.heap hi) ⟨fun x hx y hy => ?_, fun x hx => ?_⟩ (by rw [h0]; exact hu) (fun e h' tk hk => ?_) fun y ys i v h' tk bs e hv hr hk => ?_
  · obtain ⟨_, _, rfl⟩ := List.mem_map.mp hx
    obtain ⟨_, _, rfl⟩ := List.mem_map.mp hy
    rfl
  · obtain ⟨_, _, rfl⟩ := List.mem_map.mp hx
    intro z
    cases z
  · cases ns with
    | nil => exact ⟨.int d, H, I.kept hk, e1, q⟩
    | cons => cases e
  · cases ns with
    | nil => cases e
    | cons n ns =>
      simp only [List.map_cons, List.cons.injEq] at e
      obtain ⟨rfl, rfl⟩ := e
      rw [PySem.W.maxD_ints] at hr
      cases hr with
      | int i t => exact ⟨.int _, H, I.kept hk, ⟨t, rfl⟩, q⟩
theorem EW.maxDef (C : Ctx X k) {kp : Pos} (h : EW X a ρ fun x ρ1 => EW X b ρ1 fun y ρ2 => ∃ (ns : List Int) (d : Int), seqL ρ1 x = some (ns.map .int) ∧ y = .dat (.int d) ∧ ρ2 = ρ1 ∧ Q (.dat (.int (maxDf d ns))) ρ2) (hg : Gl X "max" := by rfl)
    (hs : starEach [a] X.env = (false, eval a X.env) :: starEach [] X.env := by rfl) (he : backTo pos (starEach [a] X.env) = (false, eval a X.env) :: backTo pos (starEach [] X.env) := by rfl) (hpl : (backTo pos (starEach [a] X.env)).any (·.1) = false := by rfl) :
    EW X (.Call (.Name "max" p) [a] [⟨some "default", b, kp⟩] pos) ρ Q := fun σ H R E kk pins s I => by
  refine (pe_callBK (ks := [Str.ofString "default"]) (cr_maxDef C.calm (by have := C.units; omega)) hg C.blt.max (by decide +kernel) (pa_cons pe_W pa_nil hs) (pk_cons pe_W pk_nil) (by decide) (by decide) he hpl rfl rfl rfl).run pins s σ H R I (h σ H _ E fun v H1 x ρ1 P1 V1 q1 => q1 σ H1 _ P1.ok fun w H2 y ρ2 P2 V2 ⟨ns, d, hx, ey, eρ, q2⟩ => ?_)
  subst ey
  subst eρ
  obtain rfl := Rp.int_inv V2
  obtain ⟨m, xs, rfl, r, rp⟩ := seqL_ok P2.ok (V1.step E P1 P2) hx
  obtain rfl := rp.ints
  exact ⟨m, ns, d, rfl, rfl, r.sq, kk _ _ (.dat (.int _)) _ (P1.trans P2) (vdat (.int _)) q2⟩
/-! ### xs.insert(i, y) -/
def insR (ρ : Nv) (i : Nat) (x : AV) (d : PyData) (q : Nv → Prop) : Prop := ∃ (p : Bool) (α : Type) (l : List α) (g : α → PyData) (j : Nat) (z : α), x = .dat (.int (j : Int)) ∧ ρ[i]? = some (.hol p (l.map g)) ∧ d = g z ∧ l.length < sizeLine ∧ j < 2 ^ 63 ∧ q (ρ.set i (.hol p ((l.take j ++ [z] ++ l.drop j).map g)))
theorem EW.insertM (h : EW X o ρ fun x ρ1 => ∃ i, x = .own i ∧ EW X a ρ1 fun y ρ2 => EWd X b ρ2 fun d ρ3 => insR ρ3 i y d fun ρ4 => Q (.dat .none) ρ4)
    (hbase : attributeBase o "insert" X.env (eval o X.env) = eval o X.env := by rfl) (hfew : ((backTo cpos (starEach [a, b] X.env)).all (fun x => !x.1) && (backToKw cpos (keywordEach [] X.env)).all (fun x => x.1.isSome) && decide ([a, b].length + ([] : List Keyword).length + (if ([] : List Keyword).isEmpty then 0 else 1) < 30)) = true := by rfl)
    (hline : (apos.endLine == cpos.line) = true := by rfl) (hs : starEach [a, b] X.env = (false, eval a X.env) :: starEach [b] X.env := by rfl) (hs2 : starEach [b] X.env = (false, eval b X.env) :: starEach [] X.env := by rfl) (hplain : (backTo cpos (starEach [b] X.env)).any (·.1) = false := by rfl) : EW X (.Call (.Attribute o "insert" apos) [a, b] [] cpos) ρ Q := fun σ H R Ev kk pins s I => by
  refine (pe_bm PySem.F.plainAttrs_list PySem.F.slot_list_insert PySem.F.type_list_insert mt_insert pe_W (pa_cons pe_W (pa_cons pe_W pa_nil hs2) hs) hbase hfew hline hs hplain).run pins s σ H R I (h σ H _ Ev fun v H1 x ρ1 P1 V1 ⟨i, ex, q⟩ => ?_)
  subst ex
  refine ⟨own_list P1.ok V1, q σ H1 _ P1.ok fun u H2 y ρ2 P2 V2 q2 => EWd.run q2 P2.ok fun t H3 d ρ3 P3 r3 ⟨pp, α, l, g, j, z, ey, hi, hd, hz, hj, q3⟩ => ?_⟩
  subst ey
  obtain rfl := Rp.int_inv V2
  obtain ⟨m, vs, rfl, em, hm, r⟩ := own_at P3.ok (V1.step Ev P1 (P2.trans P3)) hi
  have hl : vs.length = l.length := by rw [← r.length, List.length_map]
  refine ⟨m, vs, j, t, rfl, rfl, hm, by rw [hl]; exact hz, by omega, by omega, ?_⟩
  have rr : RpAll X.K H3 ((l.take j ++ [z] ++ l.drop j).map g) (vs.take ((j : Int).toNat) ++ [t] ++ vs.drop ((j : Int).toNat)) := by
    rw [Int.toNat_natCast, List.map_append, List.map_append, List.map_take, List.map_drop]
    exact ((r.take j).append (.cons (by rw [← hd]; exact r3) .nil)).append (r.drop j)
  exact kk _ _ _ _ (((P1.trans P2).trans P3).trans (pex_mut P3.ok hi em rr)) (vdat .none) q3
/-! ### {k: v for .. in ..} -/
/-- for every element of xs the key fk (an int) and the value fv -/
def dcM (X : Cx) (scope : Scope) (tg ke ve : Expr) (is vs : List Nat) (Q : QE) (ds : List PyData) (ρ : Nv) : Prop :=
  ∃ (α : Type) (xs : List α) (g : α → PyData) (fk : α → Int) (fv : α → PyData), ds = xs.map g ∧ xs.length ≤ 1000000 ∧ noHol ρ vs = true ∧
  (∀ x, x ∈ xs → ∀ s0 H0 C cl fp, GW (BX X scope s0 H0 C cl fp) tg (g x) (wipeN ρ vs) is fun ρ2 => ∀ s0 H0 C cl fp, EWd (BX X scope s0 H0 C cl fp) ke ρ2 fun y ρ3 => y = .int (fk x) ∧ ∀ s0 H0 C cl fp, EWd (BX X scope s0 H0 C cl fp) ve ρ3 fun z ρ4 => z = fv x ∧ restN ρ ρ4 vs = ρ) ∧
  Q (.dat (.dict (kvI (mergeP [] (xs.map fun x => (fk x, fv x)))))) ρ
theorem mergeP_snoc (es l : List (Int × PyData)) (k : Int) (v : PyData) : mergeP es (l ++ [(k, v)]) = putP (mergeP es l) k v := by
  unfold mergeP
  rw [List.foldl_append]
  rfl
theorem length_putP (es : List (Int × PyData)) (k : Int) (v : PyData) : (putP es k v).length ≤ es.length + 1 := by
  unfold putP
  split
  · rw [List.length_map]; omega
  · simp
theorem length_mergeP : ∀ (l es : List (Int × PyData)), (mergeP es l).length ≤ es.length + l.length
  | [], es => Nat.le_refl _
  | p :: l, es => by
    have h1 := length_mergeP l (putP es p.1 p.2)
    have h2 := length_putP es p.1 p.2
    have e : mergeP es (p :: l) = mergeP (putP es p.1 p.2) l := rfl
    rw [e]
    simp only [List.length_cons]
    omega
theorem KP.length {K : PySem.W.Frag} {H : Hp} : ∀ {es : List (Int × PyData)} {kvs : List (Key × V)}, KP K H es kvs → es.length = kvs.length
  | _, _, .nil => rfl
  | _, _, .cons _ t => by rw [List.length_cons, List.length_cons, t.length]
theorem pex_updK {K : PySem.W.Frag} {H H' : Hp} {σ : L2.St} {ρ' : Nv} {D : Addr} {kvs : List (Key × V)} (o' : HO) (E : NvOk K H σ ρ) (P0 : Pex K H ρ σ H' ρ') (nD : H D = none) (e2 : H' D = some (.dK kvs)) : Pex K H ρ σ (upd H' D o') ρ' := by
  have st : Stb H' (upd H' D o') := fun b o im hb => by rw [upd_ne (fun z => by rw [z, e2] at hb; cases hb; exact im)]; exact hb
  refine ⟨fun b o hb m t => ?_, fun b o hb => ?_, P0.so, P0.os, ⟨P0.ok.len, fun j sv hj => ?_, P0.ok.sep, tabs_stepD (fun b o hb nl => ?_) P0.ok.tb⟩⟩
  · rw [upd_ne (fun z => by rw [z, nD] at hb; cases hb)]
    exact P0.kp b o hb m t
  · by_cases z : b = D
    · subst z; exact ⟨_, upd_same⟩
    · rw [upd_ne z]; exact P0.th b o hb
  · obtain ⟨u, eu, so⟩ := P0.ok.get j sv hj
    refine ⟨u, eu, ?_⟩
    cases sv with
    | un => trivial
    | dat d => obtain ⟨v, e3, r3⟩ := so; exact ⟨v, e3, Rp.mono st _ _ r3⟩
    | hol p3 ds3 =>
      obtain ⟨b, ws3, rfl, q3, r3⟩ := so
      refine ⟨b, ws3, rfl, ?_, RpAll.mono st _ _ r3⟩
      rw [upd_ne (fun z => by rw [z, e2] at q3; cases q3)]
      exact q3
    | dic ds3 =>
      obtain ⟨b, o3, ws3, rfl, q3, k3, r3⟩ := so
      refine ⟨b, o3, ws3, rfl, ?_, k3, RpAll.mono st _ _ r3⟩
      rw [upd_ne (fun z => by subst z; exact upd_mine E P0 nD ⟨j, _, hj, trivial, eu⟩)]
      exact q3
  · rw [upd_ne (fun z => by rw [z, e2] at hb; cases hb; exact nl _ rfl)]
    exact hb
theorem dc_read {σ : L2.St} {H : Hp} {R : VK} {vs : List Nat} (hsub : ∀ j ∈ is, j ∈ vs) (Ev : NvOk X.K H σ ρ) (h : IW X tg iter ρ fun ds ρ1 => dcM X scope tg ke ve is vs Q ds ρ1)
    (kk : ∀ (D : Addr) (H1 H' : Hp) (kvs : List (Key × V)) (es : List (Int × PyData)) (ρ' : Nv), H1 D = none → H' D = some (.dK kvs) → KP X.K H' es kvs → (∀ b o, H b = some o → H1 b ≠ none) → Pex X.K H ρ σ H' ρ' → Q (.dat (.dict (kvI es))) ρ' → R (.ref D) H') : tDc (tIW X tg iter) (bG X scope tg) (bT X scope []) (bE X scope ke) (bE X scope ve) vs σ H R := by
  refine h σ H _ Ev fun J H1 ds ρ1 P1 dj ⟨α, xs, g, fk, fv, eds, hbig, nh, step, q⟩ => ?_
  intro D nD
  have E1 := P1.ok
  have hlen : ds.length = xs.length := by rw [eds, List.length_map]
  let Inv' : Nat → Hp → Prop := fun i Hk => i ≤ ds.length ∧ ∃ kvs, Hk D = some (.dK kvs) ∧ KP X.K Hk (mergeP [] ((xs.take i).map fun x => (fk x, fv x))) kvs ∧ Pex X.K H1 ρ1 σ Hk ρ1
  refine ⟨fun i m Hk => m = ds.length - i ∧ Inv' i Hk, ⟨ds.length, rfl, Nat.zero_le _, [], upd_same, .nil, Pex.new E1 nD⟩, fun i m Hk ⟨hm, hi, kvs, hD, kp, Pk⟩ => ?_⟩
  obtain ⟨g1, g2, g3⟩ := dj Hk (Pk.stb E1)
  by_cases hl : i < ds.length
  · refine .inr ⟨g1 i hl, Inv' (i + 1), fun H' z => ⟨ds.length - (i + 1), by omega, rfl, z⟩, fun x H' hy => ?_⟩
    obtain ⟨rx, ho⟩ := g3 i x H' ds[i] hy (List.getElem?_eq_getElem hl)
    have hxi : xs[i]? = some (xs[i]'(by omega)) := List.getElem?_eq_getElem (by omega)
    generalize hz : xs[i]'(by omega) = z at hxi
    have hzm : z ∈ xs := List.mem_of_getElem? hxi
    have hdz : ds[i] = g z := by subst eds; rw [List.getElem_map, hz]
    rw [hdz] at rx
    have P' : Pex X.K H1 ρ1 σ H' ρ1 ∧ H' D = some (.dK kvs) ∧ KP X.K H' (mergeP [] ((xs.take i).map fun x => (fk x, fv x))) kvs := by
      rcases ho with rfl | ⟨p, o, n, rfl⟩
      · exact ⟨Pk, hD, kp⟩
      · exact ⟨Pk.trans (Pex.new Pk.ok n), by rw [upd_ne (ne_of_none hD n)]; exact hD, kp.mono (Stb.new n)⟩
    obtain ⟨P', hD', kp'⟩ := P'
    have Ek := P'.ok
    have ntb : Ntb (.dK kvs) := fun ps z => by cases z
    have keepD : ∀ {H2 : Hp} {ρ2 : Nv} {σ2 : L2.St}, Pst X.K H' (wipeN ρ1 vs) (wipe σ vs) H2 ρ2 σ2 → H2 D = some (.dK kvs) ∧ KP X.K H2 (mergeP [] ((xs.take i).map fun x => (fk x, fv x))) kvs := fun {H2 ρ2 σ2} P =>
      ⟨P.kp D _ hD' (fun m => upd_mine E1 P' nD (mine_wipe m)) ntb, kp'.mono (P.stb (nv_wipe Ek))⟩
    intro s0 H0 C cl fp
    refine step z hzm s0 H0 C cl fp (wipe σ vs) H' x _ (nv_wipe Ek) rx fun σ2 ρ2 P2 o2 l2 y2 q2 => ?_
    have o2' : ∀ j, j ∉ vs → σ2[j]? = σ[j]? := fun j hj => by rw [o2 j (fun z => hj (hsub j z)), wipe_out hj]
    have ll : σ2.length = σ.length := by rw [l2, wipe_length]
    refine ⟨by rw [wipe_idem (σ := σ) o2' ll], ?_⟩
    have hol2 : ∀ {i : Nat} {s : SV}, ρ2[i]? = some s → Owns s → i ∉ vs ∧ ρ1[i]? = some s := by
      intro i s e o
      by_cases hi : i ∈ is
      · have := (y2 i).2 hi
        rw [e] at this
        cases s <;> first | exact o.elim | simp [holB] at this
      · rw [(y2 i).1 hi] at e
        rcases wipeN_get e with ⟨_, z⟩ | z
        · cases z; exact o.elim
        · exact z
    have close : ∀ {H3 : Hp} {ρ3 : Nv}, Pex X.K H' ρ2 σ2 H3 ρ3 → Pex X.K H1 ρ1 σ H3 (restN ρ1 ρ3 vs) := fun {H3 ρ3} P3 => by
      have PP := P2.trans P3.pst
      refine P'.trans (pex_rest Ek nh PP o2' (fun i s e o => ?_) (fun i s e o => ?_) ?_)
      · obtain ⟨t, e2, k⟩ := P3.so i s e o
        obtain ⟨hi, e3⟩ := hol2 e2 k.owns.2
        exact ⟨hi, t, e3, k⟩
      · have hi : i ∉ vs := fun hm => noOwn_at nh hm o e
        have h2 : ρ2[i]? = some s := by rw [(y2 i).1 (fun z => hi (hsub i z)), wipeN_out hi]; exact e
        exact P3.os i s h2 o
      · have := P3.ok.len
        have := Ek.len
        omega
    refine bT_of (QT := fun t ρ3 => t = true ∧ ρ3 = ρ2) (fun _ _ _ _ _ => ⟨rfl, rfl⟩) P2.ok fun t H3 ρ3 P3 ⟨et, eρ⟩ => ?_
    subst et
    subst eρ
    refine if_pos rfl ▸ ?_
    intro s1 H5 C1 cl1 fp1
    refine EWd.run (q2 s1 H5 C1 cl1 fp1) P3.ok fun v H4 y ρ4 P4 r4 ⟨ey, q4⟩ => ?_
    intro s1 H5 C1 cl1 fp1
    refine EWd.run (q4 s1 H5 C1 cl1 fp1) P4.ok fun w H6 y2 ρ5 P5 r5 ⟨ez, er⟩ => ?_
    subst ey
    subst ez
    obtain rfl := Rp.int_inv r4
    have k6 := keepD (P2.trans (P3.trans (P4.trans P5)).pst)
    have P6 := close (P3.trans (P4.trans P5))
    rw [er] at P6
    have nz : kvs.length < sizeLine := by
      have e1 := k6.2.length
      have e2 := length_mergeP ((xs.take i).map fun x => (fk x, fv x)) []
      have e3 : (xs.take i).length ≤ i := by rw [List.length_take]; omega
      have : (sizeLine : Nat) = 16777216 := sizeLine_eq
      rw [List.length_map] at e2
      simp only [List.length_nil] at e2
      omega
    refine ⟨kvs, .inl (fk z), rfl, k6.1, nz, hl, _, upd_same, ?_, pex_updK _ E1 P6 nD k6.1⟩
    have st : Stb H6 (upd H6 D (.dK (putK kvs (.inl (fk z)) w))) := fun b o im hb => by rw [upd_ne (fun z => by rw [z, k6.1] at hb; cases hb; exact im)]; exact hb
    have et : (xs.take (i + 1)).map (fun x => (fk x, fv x)) = (xs.take i).map (fun x => (fk x, fv x)) ++ [(fk z, fv z)] := by
      rw [List.take_add_one, hxi, List.map_append]
      rfl
    rw [et, mergeP_snoc]
    exact (k6.2.put _ r5).mono st
  · have he : i = ds.length := Nat.le_antisymm hi (Nat.le_of_not_lt hl)
    subst he
    rw [hlen, List.take_length] at kp
    exact .inl ⟨g2, kk D H1 Hk kvs _ ρ1 nD hD kp (fun b o hb hn => by obtain ⟨u, z⟩ := P1.th b o hb; rw [hn] at z; cases z) (P1.trans Pk) q⟩
theorem EW.dcM {own : List (Str × Nat)} (C : Ctx X k) (h : IW X tg iter ρ fun ds ρ1 => AW.dcM X scope tg ke ve is (own.map (·.2)) Q ds ρ1)
    (ok : BlkOk X.N X.env.scope scope own) (hsub : ∀ j ∈ is, j ∈ own.map (·.2)) (hs : ∀ x, foldedSetIterable iter X.env x = pure x := by intro _; rfl) : EW X (.DictComp ke ve [⟨tg, iter, [], 0⟩] scope pos) ρ Q := fun σ H R Ev kk pins s I => by
  refine thn ((pe_dc (g := bG X scope tg) (tt := bT X scope []) (tk := bE X scope ke) (tv := bE X scope ve) C.calm C.nd pi_W ok (fun s H C cl fp => ⟨fun pins s' σ' H' v u Q' I r h => h s H C cl fp pins s' u I r⟩) (fun s H C cl fp => ⟨fun pins s' σ' H' Q' I h => h s H C cl fp pins s' I⟩) (fun s H C cl fp => ⟨fun pins s' σ' H' Q' I h => h s H C cl fp pins s' I⟩) (fun s H C cl fp => ⟨fun pins s' σ' H' Q' I h => h s H C cl fp pins s' I⟩) hs).run pins s σ H
    (fun x H' => ∃ p kvs, x = .ref p ∧ H' p = some (.dK kvs) ∧ ∀ od, R (.ref p) (upd H' p (.frz od (.dK kvs)))) I
    (dc_read (Q := Q) hsub Ev h fun D H1 H' kvs es ρ' nD hD kp hmono P q => ⟨D, kvs, rfl, hD, fun od => ?_⟩)) fun u s' z => ?_
  · have nH : H D = none := by
      cases e : H D with
      | none => rfl
      | some o => exact absurd nD (hmono D o e)
    have st : Stb H' (upd H' D (.frz od (.dK kvs))) := fun b o im hb => by rw [upd_ne (fun z => by rw [z, hD] at hb; cases hb; exact im)]; exact hb
    exact kk _ _ (.dat (.dict (kvI es))) ρ' (pex_updK _ Ev P nH hD) (KP.rp (kp.mono st) upd_same) q
  · obtain ⟨x, H', I', rx, p, kvs, rfl, e, q⟩ := z
    obtain ⟨od, I2⟩ := I'.lock e trivial
    exact ⟨_, _, I2, rx, q od⟩
theorem dcM_intro {vs : List Nat} {α : Type} {xs : List α} {g : α → PyData} {fk : α → Int} {fv : α → PyData} {ds : List PyData} (h1 : ds = xs.map g) (h2 : xs.length ≤ 1000000) (h3 : noHol ρ vs = true)
    (h4 : ∀ x, x ∈ xs → ∀ s0 H0 C cl fp, GW (BX X scope s0 H0 C cl fp) tg (g x) (wipeN ρ vs) is fun ρ2 => ∀ s0 H0 C cl fp, EWd (BX X scope s0 H0 C cl fp) ke ρ2 fun y ρ3 => y = .int (fk x) ∧ ∀ s0 H0 C cl fp, EWd (BX X scope s0 H0 C cl fp) ve ρ3 fun z ρ4 => z = fv x ∧ restN ρ ρ4 vs = ρ)
    (h5 : Q (.dat (.dict (kvI (mergeP [] (xs.map fun x => (fk x, fv x)))))) ρ) : AW.dcM X scope tg ke ve is vs Q ds ρ := ⟨α, xs, g, fk, fv, h1, h2, h3, h4, h5⟩
end
end AW

/-! AW37: comprehensions over a list of ours that the comprehension leaves as it is. -/
namespace AW
variable [HasT]
open PySem PySem.Spec PyProof.Rows L2
section
variable {X : Cx} {scope : Scope} {e a b c tg iter elt : Expr} {ifs : List Expr} {ρ : Nv} {E : AEnds} {Q : QE} {pos p p2 pos' : Pos} {k : Nat} {d : PyData} {ds : List PyData} {is : List Nat}
/-- J gives the data ds, at this heap -/
def Dj (K : PySem.W.Frag) (H : Hp) (J : It) (ds : List PyData) : Prop := (∀ i, i < ds.length → J.go i H) ∧ J.stop ds.length H ∧
  ∀ i x H' d, J.yld i H x H' → ds[i]? = some d → Rp K H' d x ∧ (H' = H ∨ ∃ p o, H p = none ∧ H' = upd H p o)
/-- walks what the slot j holds, so long as it is left as it is -/
def IWo (X : Cx) (tg iter : Expr) (ρ : Nv) (j : Nat) (Q : List PyData → Prop) : Prop := ∀ (σ : L2.St) (H : Hp) (R : It → Hp → Prop), NvOk X.K H σ ρ →
  (∀ J ds, (∀ Hk ρk, Pex X.K H ρ σ Hk ρk → ρk[j]? = ρ[j]? → Dj X.K Hk J ds) → Q ds → R J H) → tIW X tg iter σ H R
theorem IWo.name {x : Str} {j : Nat} {q : Bool} {Q : List PyData → Prop} (h : ρ[j]? = some (.hol q ds)) (hQ : Q ds) (hN : X.N[j]? = some x := by rfl) (hv : Vis X.env.scope x := by first | exact .inl rfl | exact .inr (.inl rfl) | exact .inr (.inr rfl)) (hd : (x == ("__debug__" : Str)) = false := by decide) (hcd : (x == ("__classdict__" : Str)) = false := by decide) : IWo X tg (.Name x pos) ρ j Q := fun σ H R Ev kk => by
  intro pins s I
  have ew : EW X (.Name x pos) ρ fun y ρ1 => y = .own j ∧ ρ1 = ρ := EW.nameO h ⟨rfl, rfl⟩ hN hv hd hcd
  obtain ⟨m, vs, em, hm, rm⟩ := Ev.hol h
  refine (pi_list (pe_var hN hv hd hcd)).run pins s σ H R I ⟨_, em, m, rfl, ⟨vs, RdF.sq (.inl hm)⟩, ?_⟩
  refine kk _ ds (fun Hk ρk Pk hj => ?_) hQ
  rw [h] at hj
  obtain ⟨m', vs', em', hm', rm'⟩ := Pk.ok.hol hj
  rw [em] at em'
  cases em'
  have hs : SqL X.K Hk m vs' := RdF.sq (.inl hm')
  refine ⟨fun i hi => ?_, ⟨vs', hs, by rw [rm'.length]; exact Nat.le_refl _⟩, fun i x H' d hy hd => ?_⟩
  · rw [rm'.length] at hi
    exact ⟨vs', vs'[i], hs, List.getElem?_eq_getElem hi⟩
  · obtain ⟨rfl, hx⟩ := hy
    obtain ⟨v, hv, rv⟩ := rm'.get hd
    rw [hx vs' hs] at hv
    cases hv
    exact ⟨rv, .inl rfl⟩
theorem lc_readO {σ : L2.St} {H : Hp} {R : VK} {vs : List Nat} {j : Nat} (hsub : ∀ j ∈ is, j ∈ vs) (Ev : NvOk X.K H σ ρ)
    (h : IWo X tg iter ρ j fun ds => ds.length ≤ 1000000 ∧ noHol ρ vs = true ∧ ∃ W : Nat → List PyData → Nv → Prop, W 0 [] ρ ∧ (∀ i d acc ρ2, ds[i]? = some d → W i acc ρ2 → Turn1 X scope tg ifs elt is vs d ρ2 fun o ρ3 => W (i + 1) (addO acc o) ρ3) ∧ (∀ acc ρ2, W ds.length acc ρ2 → Q (.frs acc) ρ2) ∧ ∀ i acc ρ2, W i acc ρ2 → ρ2[j]? = ρ[j]?)
    (kk : ∀ v H' x ρ', Pex X.K H ρ σ H' ρ' → VOk X.K H H' ρ' σ x v → Q x ρ' → R v H') : tLc (tIW X tg iter) (bG X scope tg) (bT X scope ifs) (bE X scope elt) vs σ H R := by
  refine h σ H _ Ev fun J ds dj ⟨hbig, nh, W, w0, ws, wd, hW⟩ => ?_
  have P1 := Pex.refl Ev
  intro D nD
  have E1 := P1.ok
  -- the turns' state
  let Inv' : Nat → Hp → Prop := fun i Hk => i ≤ ds.length ∧ ∃ acc av ρk, acc.length ≤ i ∧ Hk D = some (.lst av) ∧ RpAll X.K Hk acc av ∧ Pex X.K H ρ σ Hk ρk ∧ W i acc ρk
  have nhk : ∀ {Hk : Hp} {ρk : Nv}, Pex X.K H ρ σ Hk ρk → noHol ρk vs = true := fun {Hk ρk} P => by
    refine List.all_eq_true.mpr fun j hj => ?_
    cases e : ρk[j]? with
    | none => rfl
    | some s =>
      cases s with
      | un => rfl
      | dat d => rfl
      | hol p es =>
        obtain ⟨es', z⟩ := P.sh j p es e
        exact (noHol_at nh hj z).elim
      | dic es =>
        obtain ⟨t, z, k⟩ := P.so j _ e trivial
        exact (noOwn_at nh hj k.owns.2 z).elim
  refine ⟨fun i m Hk => m = ds.length - i ∧ Inv' i Hk, ⟨ds.length, rfl, Nat.zero_le _, [], [], ρ, Nat.le_refl _, upd_same, .nil, Pex.new E1 nD, w0⟩, fun i m Hk ⟨hm, hi, acc, av, ρk, hal, hD, ra, Pk, wk⟩ => ?_⟩
  obtain ⟨g1, g2, g3⟩ := dj Hk ρk Pk (hW _ _ _ wk)
  have nmD : ∀ {ρ' : Nv}, (∀ b, Mine ρ' σ b → Mine ρk σ b) → ¬ Mine ρ' σ D := fun hm m => upd_mine E1 Pk nD (hm _ m)
  by_cases hl : i < ds.length
  · refine .inr ⟨g1 i hl, Inv' (i + 1), fun H' z => ⟨ds.length - (i + 1), by omega, rfl, z⟩, fun x H' hy => ?_⟩
    obtain ⟨rx, ho⟩ := g3 i x H' ds[i] hy (List.getElem?_eq_getElem hl)
    have P' : Pex X.K H ρ σ H' ρk ∧ H' D = some (.lst av) ∧ RpAll X.K H' acc av := by
      rcases ho with rfl | ⟨p, o, n, rfl⟩
      · exact ⟨Pk, hD, ra⟩
      · exact ⟨Pk.trans (Pex.new Pk.ok n), by rw [upd_ne (ne_of_none hD n)]; exact hD, RpAll.mono (Stb.new n) _ _ ra⟩
    obtain ⟨P', hD', ra'⟩ := P'
    have nk := nhk P'
    have Ek := P'.ok
    -- D through the turn
    have keepD : ∀ {H2 : Hp} {ρ2 : Nv} {σ2 : L2.St}, Pst X.K H' (wipeN ρk vs) (wipe σ vs) H2 ρ2 σ2 → H2 D = some (.lst av) ∧ RpAll X.K H2 acc av := fun {H2 ρ2 σ2} P => by
      refine ⟨P.kp D _ hD' (fun m => upd_mine E1 P' nD (mine_wipe m)) ntb_lst, RpAll.mono (P.stb (nv_wipe Ek)) _ _ ra'⟩
    intro s0 H0 C cl fp
    refine ws i _ acc ρk (List.getElem?_eq_getElem hl) wk s0 H0 C cl fp (wipe σ vs) H' x _ (nv_wipe Ek) rx fun σ2 ρ2 P2 o2 l2 y2 q2 => ?_
    have o2' : ∀ j, j ∉ vs → σ2[j]? = σ[j]? := fun j hj => by rw [o2 j (fun z => hj (hsub j z)), wipe_out hj]
    have ll : σ2.length = σ.length := by rw [l2, wipe_length]
    refine ⟨by rw [wipe_idem (σ := σ) o2' ll], ?_⟩
    -- the lists of the block are ours
    have hol2 : ∀ {i : Nat} {s : SV}, ρ2[i]? = some s → Owns s → i ∉ vs ∧ ρk[i]? = some s := by
      intro i s e o
      by_cases hi : i ∈ is
      · have := (y2 i).2 hi
        rw [e] at this
        cases s <;> first | exact o.elim | simp [holB] at this
      · rw [(y2 i).1 hi] at e
        rcases wipeN_get e with ⟨_, z⟩ | z
        · cases z; exact o.elim
        · exact z
    -- the block's slots and ours
    have close : ∀ {H3 : Hp} {ρ3 : Nv}, Pex X.K H' ρ2 σ2 H3 ρ3 → Pex X.K H ρ σ H3 (restN ρk ρ3 vs) := fun {H3 ρ3} P3 => by
      have PP := P2.trans P3.pst
      refine P'.trans (pex_rest Ek nk PP o2' (fun i s e o => ?_) (fun i s e o => ?_) ?_)
      · obtain ⟨t, e2, k⟩ := P3.so i s e o
        obtain ⟨hi, e3⟩ := hol2 e2 k.owns.2
        exact ⟨hi, t, e3, k⟩
      · have hi : i ∉ vs := fun hm => noOwn_at nk hm o e
        have h2 : ρ2[i]? = some s := by rw [(y2 i).1 (fun z => hi (hsub i z)), wipeN_out hi]; exact e
        exact P3.os i s h2 o
      · have := P3.ok.len
        have := Ek.len
        omega
    refine bT_of q2 P2.ok fun t H3 ρ3 P3 q3 => ?_
    have k3 := keepD (P2.trans P3.pst)
    cases t with
    | false =>
      refine (if_neg Bool.false_ne_true).symm ▸ ⟨hl, acc, av, _, Nat.le_succ_of_le hal, k3.1, k3.2, close P3, ?_⟩
      simpa [addO] using q3
    | true =>
      refine if_pos rfl ▸ ?_
      simp only [↓reduceIte] at q3
      intro s1 H5 C1 cl1 fp1
      refine EWd.run (q3 s1 H5 C1 cl1 fp1) P3.ok fun v H4 y ρ4 P4 r4 q4 => ?_
      have k4 := keepD (P2.trans (P3.trans P4).pst)
      have nz : av.length < sizeLine := by
        have e1 := k4.2.length
        have : (sizeLine : Nat) = 16777216 := sizeLine_eq
        omega
      refine ⟨av, k4.1, nz, hl, acc ++ [y], av ++ [v], _, by simpa using hal, upd_same, ?_, ?_, q4⟩
      · have P5 := close (P3.trans P4)
        have st : Stb H4 (upd H4 D (.lst (av ++ [v]))) := fun b o im hb => by rw [upd_ne (fun z => by rw [z, k4.1] at hb; cases hb; exact im)]; exact hb
        exact RpAll.append (RpAll.mono st _ _ k4.2) (.cons (Rp.mono st _ _ r4) .nil)
      · have P5 := close (P3.trans P4)
        have st : Stb H4 (upd H4 D (.lst (av ++ [v]))) := fun b o im hb => by rw [upd_ne (fun z => by rw [z, k4.1] at hb; cases hb; exact im)]; exact hb
        refine ⟨fun b o hb nm => ?_, fun b o hb => ?_, P5.so, P5.os, ⟨P5.ok.len, fun j s hj => ?_, P5.ok.sep, tabs_step (fun b o h nl => by rw [upd_ne (fun z => by rw [z, k4.1] at h; cases h; exact nl _ rfl)]; exact h) P5.ok.tb⟩⟩
        · rw [upd_ne (ne_of_none hb nD)]; exact P5.kp b o hb nm
        · rw [upd_ne (ne_of_none hb nD)]; exact P5.th b o hb
        · obtain ⟨w, ew, so⟩ := P5.ok.get j s hj
          refine ⟨w, ew, ?_⟩
          cases s with
          | un => trivial
          | dat d => obtain ⟨v', e3, r3⟩ := so; exact ⟨v', e3, Rp.mono st _ _ r3⟩
          | hol p es =>
            obtain ⟨a, ws', e3, q5, r3⟩ := so
            subst e3
            refine ⟨a, ws', rfl, ?_, RpAll.mono st _ _ r3⟩
            rw [upd_ne (fun z => by subst z; exact upd_mine E1 P5 nD ⟨j, _, hj, trivial, ew⟩)]
            exact q5
          | dic es =>
            obtain ⟨a, o, ws', e3, q5, k5, r3⟩ := so
            subst e3
            refine ⟨a, o, ws', rfl, ?_, k5, RpAll.mono st _ _ r3⟩
            rw [upd_ne (fun z => by subst z; exact upd_mine E1 P5 nD ⟨j, _, hj, trivial, ew⟩)]
            exact q5
  · have he : i = ds.length := Nat.le_antisymm hi (Nat.le_of_not_lt hl)
    subst he
    exact .inl ⟨g2, kk (.ref D) Hk (.frs acc) ρk (P1.trans Pk) ⟨D, av, rfl, P1.free nD, hD, ra⟩ (wd acc ρk wk)⟩

end
section
variable {X : Cx} {scope : Scope} {e a b c tg iter elt : Expr} {ifs : List Expr} {ρ : Nv} {E : AEnds} {Q : QE} {pos p p2 pos' : Pos} {k : Nat} {d : PyData} {is vs : List Nat}
theorem lcQ.ok' {α : Type} {xs : List α} {g : α → PyData} {f : α → Option PyData} {ifs : List Expr} {ds : List PyData} (h : lcQ X scope tg ifs elt is vs xs g f Q ds ρ) : ds.length ≤ 1000000 ∧ noHol ρ vs = true ∧ ∃ W : Nat → List PyData → Nv → Prop, W 0 [] ρ ∧ (∀ i d acc ρ2, ds[i]? = some d → W i acc ρ2 → Turn1 X scope tg ifs elt is vs d ρ2 fun o ρ3 => W (i + 1) (addO acc o) ρ3) ∧ (∀ acc ρ2, W ds.length acc ρ2 → Q (.frs acc) ρ2) ∧ ∀ i acc ρ2, W i acc ρ2 → ρ2 = ρ := by
  obtain ⟨rfl, hl, nh, ht, hq⟩ := h
  refine ⟨by simpa using hl, nh, fun i acc ρ2 => acc = (xs.take i).filterMap f ∧ ρ2 = ρ, ⟨by simp, rfl⟩, ?_, ?_, fun i acc ρ2 h => h.2⟩
  · rintro i d acc ρ2 hd ⟨rfl, rfl⟩
    obtain ⟨x, hx, rfl⟩ := getElem?_map_some hd
    intro s0 H0 C cl fp σ H v R' Ev r kk
    have imp : ∀ {o : Option PyData} {ρ3 : Nv}, o = f x ∧ ρ3 = ρ2 → (addO ((xs.take i).filterMap f) o = (xs.take (i + 1)).filterMap f ∧ ρ3 = ρ2) := by
      rintro o ρ3 ⟨rfl, rfl⟩
      refine ⟨?_, rfl⟩
      rw [List.take_add_one, hx, List.filterMap_append]
      cases e : f x with
      | none => simp [addO, e]
      | some y => simp [addO, e]
    refine ht x (List.mem_of_getElem? hx) s0 H0 C cl fp σ H v R' Ev r fun σ' ρ' P o l y q => kk σ' ρ' P o l y fun s0 H0 C cl fp => ?_
    have q' := q s0 H0 C cl fp
    match ifs, q' with
    | [], q' =>
      simp only [TWi, ↓reduceIte] at q' ⊢
      exact fun s0 H0 C cl fp => EW.imp (q' s0 H0 C cl fp) fun z ρ4 ⟨d, hd, q3⟩ => ⟨d, hd, imp q3⟩
    | [c], q' =>
      refine TW.imp q' fun t ρ3 q2 => ?_
      cases t with
      | true =>
        simp only [↓reduceIte] at q2 ⊢
        exact fun s0 H0 C cl fp => EW.imp (q2 s0 H0 C cl fp) fun z ρ4 ⟨d, hd, q3⟩ => ⟨d, hd, imp q3⟩
      | false =>
        simp only [Bool.false_eq_true, ↓reduceIte] at q2 ⊢
        exact imp q2
  · rintro acc ρ2 ⟨rfl, rfl⟩
    rw [List.length_map, List.take_of_length_le (Nat.le_refl _)]
    exact hq
theorem lcF.q' {ds : List PyData} {j : Nat} (h : AW.lcF X scope tg c elt is vs Q ds ρ) : ds.length ≤ 1000000 ∧ noHol ρ vs = true ∧ ∃ W : Nat → List PyData → Nv → Prop, W 0 [] ρ ∧ (∀ i d acc ρ2, ds[i]? = some d → W i acc ρ2 → Turn1 X scope tg [c] elt is vs d ρ2 fun o ρ3 => W (i + 1) (addO acc o) ρ3) ∧ (∀ acc ρ2, W ds.length acc ρ2 → Q (.frs acc) ρ2) ∧ ∀ i acc ρ2, W i acc ρ2 → ρ2[j]? = ρ[j]? := by
  obtain ⟨α, xs, g, f, q⟩ := h.q
  obtain ⟨a1, a2, W, a3, a4, a5, a6⟩ := q.ok'
  exact ⟨a1, a2, W, a3, a4, a5, fun i acc ρ2 h => by rw [a6 i acc ρ2 h]⟩
theorem lcM.q' {ds : List PyData} {j : Nat} (h : AW.lcM X scope tg elt is vs Q ds ρ) : ds.length ≤ 1000000 ∧ noHol ρ vs = true ∧ ∃ W : Nat → List PyData → Nv → Prop, W 0 [] ρ ∧ (∀ i d acc ρ2, ds[i]? = some d → W i acc ρ2 → Turn1 X scope tg [] elt is vs d ρ2 fun o ρ3 => W (i + 1) (addO acc o) ρ3) ∧ (∀ acc ρ2, W ds.length acc ρ2 → Q (.frs acc) ρ2) ∧ ∀ i acc ρ2, W i acc ρ2 → ρ2[j]? = ρ[j]? := by
  obtain ⟨α, xs, g, f, q⟩ := h.q
  obtain ⟨a1, a2, W, a3, a4, a5, a6⟩ := q.ok'
  exact ⟨a1, a2, W, a3, a4, a5, fun i acc ρ2 h => by rw [a6 i acc ρ2 h]⟩
theorem EW.lcFo {own : List (Str × Nat)} (j : Nat) (C : Ctx X k) (h : IWo X tg iter ρ j fun ds => AW.lcF X scope tg c elt is (own.map (·.2)) Q ds ρ)
    (ok : BlkOk X.N X.env.scope scope own) (hsub : ∀ j ∈ is, j ∈ own.map (·.2)) (hs : ∀ x, foldedSetIterable iter X.env x = pure x := by intro _; rfl) : EW X (.ListComp elt [⟨tg, iter, [c], 0⟩] scope pos) ρ Q := fun σ H R Ev kk pins s I =>
  (pe_lc (g := bG X scope tg) (tt := bT X scope [c]) (te := bE X scope elt) C.calm C.nd pi_W ok (fun s H C cl fp => ⟨fun pins s' σ' H' v u Q' I r h => h s H C cl fp pins s' u I r⟩) (fun s H C cl fp => ⟨fun pins s' σ' H' Q' I h => h s H C cl fp pins s' I⟩) (fun s H C cl fp => ⟨fun pins s' σ' H' Q' I h => h s H C cl fp pins s' I⟩) hs).run pins s σ H R I
    (lc_readO hsub Ev (fun σ H R Ev kk => h σ H R Ev fun J ds dj q => kk J ds dj q.q') kk)
theorem S1.asgLcFo {i : Nat} {x : Str} {own : List (Str × Nat)} (j : Nat) (C : Ctx X k) (h : IWo X tg iter ρ j fun ds => AW.lcF X scope tg c elt is (own.map (·.2)) (fun y ρ2 => asgR i ρ2 y E.nx) ds ρ)
    (hi : X.N[i]? = some x) (hyl : X.env.scope.names.lookup x = some .local) (hsw : swapsWith (.ListComp elt [⟨tg, iter, [c], 0⟩] scope pos) (some (.Name x p)) pos'.line X.env = pure true) (ok : BlkOk X.N X.env.scope scope own) (hsub : ∀ j ∈ is, j ∈ own.map (·.2))
    (hs : ∀ x, foldedSetIterable iter X.env x = pure x := by intro _; rfl) : S1 X (.Assign [.Name x p] (.ListComp elt [⟨tg, iter, [c], 0⟩] scope pos) pos') ρ E := fun σ H D Ev k1 k2 k3 k4 pins s I => by
  refine (ps_setLc (g := bG X scope tg) (tt := bT X scope [c]) (te := bE X scope elt) C.calm C.nd hi hyl hsw pi_W ok (fun s H C cl fp => ⟨fun pins s' σ' H' v u Q' I r h => h s H C cl fp pins s' u I r⟩) (fun s H C cl fp => ⟨fun pins s' σ' H' Q' I h => h s H C cl fp pins s' I⟩) (fun s H C cl fp => ⟨fun pins s' σ' H' Q' I h => h s H C cl fp pins s' I⟩) hs).run pins s σ H D I ?_
  refine lc_readO (Q := fun x ρ1 => asgR i ρ1 x E.nx) hsub Ev (fun σ H R Ev kk => h σ H R Ev fun J ds dj q => kk J ds dj q.q') fun v H1 y ρ1 P V q => ?_
  obtain ⟨ρ', P', q'⟩ := asg_run Ev P V q
  exact k1 _ _ _ P' q'
theorem EW.lcMo {own : List (Str × Nat)} (j : Nat) (C : Ctx X k) (h : IWo X tg iter ρ j fun ds => AW.lcM X scope tg elt is (own.map (·.2)) Q ds ρ)
    (ok : BlkOk X.N X.env.scope scope own) (hsub : ∀ j ∈ is, j ∈ own.map (·.2)) (hs : ∀ x, foldedSetIterable iter X.env x = pure x := by intro _; rfl) : EW X (.ListComp elt [⟨tg, iter, [], 0⟩] scope pos) ρ Q := fun σ H R Ev kk pins s I =>
  (pe_lc (g := bG X scope tg) (tt := bT X scope []) (te := bE X scope elt) C.calm C.nd pi_W ok (fun s H C cl fp => ⟨fun pins s' σ' H' v u Q' I r h => h s H C cl fp pins s' u I r⟩) (fun s H C cl fp => ⟨fun pins s' σ' H' Q' I h => h s H C cl fp pins s' I⟩) (fun s H C cl fp => ⟨fun pins s' σ' H' Q' I h => h s H C cl fp pins s' I⟩) hs).run pins s σ H R I
    (lc_readO hsub Ev (fun σ H R Ev kk => h σ H R Ev fun J ds dj q => kk J ds dj q.q') kk)
theorem S1.asgLcMo {i : Nat} {x : Str} {own : List (Str × Nat)} (j : Nat) (C : Ctx X k) (h : IWo X tg iter ρ j fun ds => AW.lcM X scope tg elt is (own.map (·.2)) (fun y ρ2 => asgR i ρ2 y E.nx) ds ρ)
    (hi : X.N[i]? = some x) (hyl : X.env.scope.names.lookup x = some .local) (hsw : swapsWith (.ListComp elt [⟨tg, iter, [], 0⟩] scope pos) (some (.Name x p)) pos'.line X.env = pure true) (ok : BlkOk X.N X.env.scope scope own) (hsub : ∀ j ∈ is, j ∈ own.map (·.2))
    (hs : ∀ x, foldedSetIterable iter X.env x = pure x := by intro _; rfl) : S1 X (.Assign [.Name x p] (.ListComp elt [⟨tg, iter, [], 0⟩] scope pos) pos') ρ E := fun σ H D Ev k1 k2 k3 k4 pins s I => by
  refine (ps_setLc (g := bG X scope tg) (tt := bT X scope []) (te := bE X scope elt) C.calm C.nd hi hyl hsw pi_W ok (fun s H C cl fp => ⟨fun pins s' σ' H' v u Q' I r h => h s H C cl fp pins s' u I r⟩) (fun s H C cl fp => ⟨fun pins s' σ' H' Q' I h => h s H C cl fp pins s' I⟩) (fun s H C cl fp => ⟨fun pins s' σ' H' Q' I h => h s H C cl fp pins s' I⟩) hs).run pins s σ H D I ?_
  refine lc_readO (Q := fun x ρ1 => asgR i ρ1 x E.nx) hsub Ev (fun σ H R Ev kk => h σ H R Ev fun J ds dj q => kk J ds dj q.q') fun v H1 y ρ1 P V q => ?_
  obtain ⟨ρ', P', q'⟩ := asg_run Ev P V q
  exact k1 _ _ _ P' q'
end
end AW

/-! AW38: zip of a tuple and a list, of a list and a tuple: any two iterators that are known by what they do next. -/
namespace AW
open PySem PySem.Spec PyProof.Rows L2
open PySem.Sem (wp)
/-- the iterator at i over l: it stands as u, what comes is r, then it stands as v -/
structure NxOk (prog : Program) (w : World) (i l : Addr) (u : Heap → Prop) (r : Option Value) (v : Heap → Prop) : Prop where
  fu : ∀ a b : Heap, u a → (∀ c o, c = i ∨ c = l → a.get? c = some o → b.get? c = some o) → u b
  fv : ∀ a b : Heap, v a → (∀ c o, c = i ∨ c = l → a.get? c = some o → b.get? c = some o) → v b
  it : ∀ a, v a → ∃ o, a.get? i = some o
  got : ∀ x, r = some x → ∀ (A : Around) (E : Value → Shared → Prop) (s : Shared) (Q : Value → Shared → Prop), u s.heap → (∀ b, v b → Heap.SameBut i s.heap b → Q x { s with heap := b }) → wpAny (model prog w) A (Builtin.SmallTypes.nextOf (.ref i)) Q E s
  no : r = none → ∀ (A : Around) (E : Value → Shared → Prop) (s : Shared) (Q : Value → Shared → Prop), A.handled = none → u s.heap → (∀ b e, Heap.ExtBut i s.heap b → (∃ o, b.get? e = some o ∧ o.cls = .type "StopIteration") → E (.ref e) { s with heap := b }) → wpAny (model prog w) A (Builtin.SmallTypes.nextOf (.ref i)) Q E s
theorem NxOk.tup {prog : Program} {w : World} {i l : Addr} {k : Nat} {its : Array Value} (hl : l ≠ i) : NxOk prog w i l (fun h => h.IsTupleIter i l k ∧ h.IsTuple l its) its[k]? (fun h => h.IsTupleIter i l (k + 1) ∧ h.IsTuple l its) where
  fu := fun a b x e => ⟨x.1.at fun o => e i o (.inl rfl), x.2.at fun o => e l o (.inr rfl)⟩
  fv := fun a b x e => ⟨x.1.at fun o => e i o (.inl rfl), x.2.at fun o => e l o (.inr rfl)⟩
  it := fun a x => let ⟨⟨o, e, _⟩, _⟩ := x; ⟨o, e⟩
  got := fun x hx A E s Q st q => RZ.nextOf_tuple_item st.1 st.2 hx fun b hb sb => q b ⟨hb, st.2.extBut sb.extBut hl⟩ sb
  no := fun hx A E s Q hh st q => RZ.nextOf_tuple_end hh st.1 st.2 hx q
theorem NxOk.lst {prog : Program} {w : World} {i l : Addr} {k : Nat} {its : Array Value} (hl : l ≠ i) : NxOk prog w i l (fun h => h.IsListIter i l k ∧ h.IsList l its) its[k]? (fun h => h.IsListIter i l (k + 1) ∧ h.IsList l its) where
  fu := fun a b x e => ⟨x.1.at fun o => e i o (.inl rfl), x.2.at fun o => e l o (.inr rfl)⟩
  fv := fun a b x e => ⟨x.1.at fun o => e i o (.inl rfl), x.2.at fun o => e l o (.inr rfl)⟩
  it := fun a x => let ⟨⟨o, e, _⟩, _⟩ := x; ⟨o, e⟩
  got := fun x hx A E s Q st q => wpAny_nextOf_list_item st.1 st.2 hx fun b hb sb => q b ⟨hb, st.2.extBut sb.extBut hl⟩ sb
  no := fun hx A E s Q hh st q => wpAny_nextOf_list_end hh st.1 st.2 hx q
section
variable {prog : Program} {w : World} {A : Around} {E : Value → Shared → Prop} {s : Shared} {zp tI tO j1 j2 m1 m2 : Addr} {u1 v1 u2 v2 : Heap → Prop} {r1 r2 : Option Value} {p q : Value}
/-- frames, by what is left alone -/
theorem NxOk.fu' (N : NxOk prog w j1 m1 u1 r1 v1) {a b : Heap} {c : Addr} (h : u1 a) (sb : Heap.ExtBut c a b) (h1 : j1 ≠ c) (h2 : m1 ≠ c) : u1 b :=
  N.fu a b h fun d o hd e => sb d o (by rcases hd with z | z <;> rw [z] <;> assumption) e
theorem NxOk.fv' (N : NxOk prog w j1 m1 u1 r1 v1) {a b : Heap} {c : Addr} (h : v1 a) (sb : Heap.ExtBut c a b) (h1 : j1 ≠ c) (h2 : m1 ≠ c) : v1 b :=
  N.fv a b h fun d o hd e => sb d o (by rcases hd with z | z <;> rw [z] <;> assumption) e
theorem zipG_item {x y : Value} {Q : Value → Shared → Prop} (D : ZipApart zp tI tO j1 j2 m1 m2) (N1 : NxOk prog w j1 m1 u1 (some x) v1) (N2 : NxOk prog w j2 m2 u2 (some y) v2)
    (gz : IsZip s.heap zp tI tO .none) (gI : IsPair s.heap tI (.ref j1) (.ref j2)) (gO : IsPair s.heap tO p q) (g1 : u1 s.heap) (g2 : u2 s.heap)
    (k : ∀ b, IsZip b zp tI tO (rawInt s.heap.objs.size) → IsPair b tO x y → v1 b → v2 b → IsPair b s.heap.objs.size x y → b.objs.size = s.heap.objs.size + 1 →
      (∀ c o, c ≠ zp → c ≠ tO → c ≠ j1 → c ≠ j2 → s.heap.get? c = some o → b.get? c = some o) → Q (.ref s.heap.objs.size) { s with heap := b }) :
    wpAny (model prog w) A (Builtin.«zip.__next__» ⟨[.ref zp], []⟩) (fun fin s' => ∃ v, fin = .done (.ret v) ∧ Q v s') E s := by
  show wpAny _ _ (field (.ref zp) 2 >>= _) _ _ _
  refine wpAny_bind (wpAny_field gz rfl (x := .bool false) rfl ?_)
  show wpAny _ _ (field (.ref zp) 3 >>= _) _ _ _
  refine wpAny_bind (wpAny_field gz rfl (x := .ref tI) rfl ?_)
  refine wpAny_bind (wpAny_seqItems gI rfl ?_)
  show wpAny _ _ (Builtin.SmallTypes.ownedTupleIsFree (.ref zp) >>= _) _ _ _
  refine wpAny_bind ?_
  (unfold Builtin.SmallTypes.ownedTupleIsFree)
  refine wpAny_bind (wpAny_field gz rfl (x := .none) rfl (wpAny_pure ?_))
  simp only [if_true]
  refine wpAny_bind (wpAny_rule ?_)
  refine wpAny_bind (wpAny_field gz rfl (x := .ref tO) rfl ?_)
  refine wpAny_bind (wpAny_setField_rec gz (by simp) fun b1 z1 e1 => ?_)
  replace z1 : IsZip b1 zp tI tO .ellipsis := z1
  refine wpAny_bind ?_
  simp only [List.forIn_cons, List.forIn_nil, List.zipIdx_cons, List.zipIdx_nil]
  refine wpAny_bind (wpAny_bind (wpAny_onRaise ?_))
  show wpAny _ _ (Builtin.SmallTypes.nextOf (.ref j1) >>= _) _ _ _
  refine wpAny_bind (N1.got x rfl _ _ _ _ (N1.fu' g1 e1.extBut D.i1z D.l1z) fun b2 n2 e2 => wpAny_pure ?_)
  have o2 : IsPair b2 tO p q := e2.extBut _ _ D.TOi1 (e1.extBut _ _ D.TOz gO)
  refine wpAny_bind (wpAny_seqItems o2 rfl ?_)
  refine wpAny_bind (wpAny_updateSeq_pair o2 fun b3 o3 e3 => ?_)
  replace o3 : IsPair b3 tO x q := o3
  refine wpAny_bind (wpAny_letGo (wpAny_pure ?_))
  refine wpAny_bind (wpAny_bind (wpAny_onRaise ?_))
  show wpAny _ _ (Builtin.SmallTypes.nextOf (.ref j2) >>= _) _ _ _
  refine wpAny_bind (N2.got y rfl _ _ _ _ (N2.fu' (N2.fu' (N2.fu' g2 e1.extBut D.i2z D.l2z) e2.extBut D.i12.symm D.l2i1) e3.extBut D.TOi2.symm D.l2TO) fun b4 n4 e4 => wpAny_pure ?_)
  have o4 : IsPair b4 tO x q := e4.extBut _ _ D.TOi2 o3
  refine wpAny_bind (wpAny_seqItems o4 rfl ?_)
  refine wpAny_bind (wpAny_updateSeq_pair o4 fun b5 o5 e5 => ?_)
  replace o5 : IsPair b5 tO x y := o5
  refine wpAny_bind (wpAny_letGo (wpAny_pure (wpAny_pure ?_)))
  refine wpAny_bind (wpAny_seqItems o5 rfl ?_)
  refine wpAny_bind (wpAny_newTuple ?_)
  have sz : b5.objs.size = s.heap.objs.size := by rw [e5.1, e4.1, e3.1, e2.1, e1.1]
  have z5 : IsZip b5 zp tI tO .ellipsis := e5.extBut _ _ D.TOz.symm (e4.extBut _ _ D.i2z.symm (e3.extBut _ _ D.TOz.symm (e2.extBut _ _ D.i1z.symm z1)))
  have kp : ∀ c o, c ≠ zp → c ≠ tO → c ≠ j1 → c ≠ j2 → s.heap.get? c = some o → b5.get? c = some o := fun c o c1 c2 c3 c4 e =>
    e5.extBut _ _ c2 (e4.extBut _ _ c4 (e3.extBut _ _ c2 (e2.extBut _ _ c3 (e1.extBut _ _ c1 e))))
  have n5 : v1 b5 := N1.fv' (N1.fv' (N1.fv' n2 e3.extBut D.TOi1.symm D.l1TO) e4.extBut D.i12 D.l1i2) e5.extBut D.TOi1.symm D.l1TO
  have n6 : v2 b5 := N2.fv' n4 e5.extBut D.TOi2.symm D.l2TO
  have lz : zp < b5.objs.size := Heap.lt_size z5
  have lO : tO < b5.objs.size := Heap.lt_size o5
  show wpAny _ _ (Builtin.SmallTypes.ownedTupleHandOut (.ref zp) (.ref b5.objs.size) >>= _) _ _ _
  refine wpAny_bind ?_
  (unfold Builtin.SmallTypes.ownedTupleHandOut)
  have z6 : IsZip (b5.push { cls := .type "tuple", data := .seq #[x, y] }) zp tI tO .ellipsis := Heap.get?_push_of_some _ z5
  refine wpAny_bind (wpAny_setField_rec z6 (by simp) fun b7 z7 e7 => ?_)
  replace z7 : IsZip b7 zp tI tO (rawInt b5.objs.size) := z7
  refine wpAny_setField_rec z7 (by simp) fun b8 z8 e8 => ?_
  replace z8 : IsZip b8 zp tI tO (rawInt b5.objs.size) := z8
  have up : ∀ c o, c ≠ zp → b5.get? c = some o → b8.get? c = some o := fun c o c1 e => e8.extBut _ _ c1 (e7.extBut _ _ c1 (Heap.get?_push_of_some _ e))
  have t8 : IsPair b8 b5.objs.size x y := e8.extBut _ _ (Nat.ne_of_gt lz) (e7.extBut _ _ (Nat.ne_of_gt lz) (Heap.get?_push_size _ rfl))
  have s8 : b8.objs.size = b5.objs.size + 1 := by rw [e8.1, e7.1, Heap.size_push]
  have w1 : v1 b8 := N1.fv _ _ n5 fun c o hc e => up c o (by rcases hc with z | z <;> rw [z]; exact D.i1z; exact D.l1z) e
  have w2 : v2 b8 := N2.fv _ _ n6 fun c o hc e => up c o (by rcases hc with z | z <;> rw [z]; exact D.i2z; exact D.l2z) e
  rw [sz] at z8 t8 s8
  refine wpAny_pure ⟨_, rfl, ?_⟩
  show Q (.ref b5.objs.size) _
  rw [sz]
  exact k b8 z8 (up _ _ D.TOz o5) w1 w2 t8 s8 fun c o c1 c2 c3 c4 e => up c o c1 (kp c o c1 c2 c3 c4 e)
theorem zipG_end {Q : Fin → Shared → Prop} (hh : A.handled = none) (D : ZipApart zp tI tO j1 j2 m1 m2) (N1 : NxOk prog w j1 m1 u1 r1 v1) (N2 : NxOk prog w j2 m2 u2 r2 v2) (he : r1 = none ∨ r2 = none)
    (gz : IsZip s.heap zp tI tO .none) (gI : IsPair s.heap tI (.ref j1) (.ref j2)) (gO : IsPair s.heap tO p q) (g1 : u1 s.heap) (g2 : u2 s.heap)
    (k : ∀ b e, (∀ c o, c ≠ zp → c ≠ tO → c ≠ j1 → c ≠ j2 → s.heap.get? c = some o → b.get? c = some o) → (∃ o, b.get? e = some o ∧ o.cls = .type "StopIteration") → E (.ref e) { s with heap := b }) :
    wpAny (model prog w) A (Builtin.«zip.__next__» ⟨[.ref zp], []⟩) Q E s := by
  show wpAny _ _ (field (.ref zp) 2 >>= _) _ _ _
  refine wpAny_bind (wpAny_field gz rfl (x := .bool false) rfl ?_)
  show wpAny _ _ (field (.ref zp) 3 >>= _) _ _ _
  refine wpAny_bind (wpAny_field gz rfl (x := .ref tI) rfl ?_)
  refine wpAny_bind (wpAny_seqItems gI rfl ?_)
  show wpAny _ _ (Builtin.SmallTypes.ownedTupleIsFree (.ref zp) >>= _) _ _ _
  refine wpAny_bind ?_
  (unfold Builtin.SmallTypes.ownedTupleIsFree)
  refine wpAny_bind (wpAny_field gz rfl (x := .none) rfl (wpAny_pure ?_))
  simp only [if_true]
  refine wpAny_bind (wpAny_rule ?_)
  refine wpAny_bind (wpAny_field gz rfl (x := .ref tO) rfl ?_)
  refine wpAny_bind (wpAny_setField_rec gz (by simp) fun b1 z1 e1 => ?_)
  replace z1 : IsZip b1 zp tI tO .ellipsis := z1
  refine wpAny_bind ?_
  simp only [List.forIn_cons, List.forIn_nil, List.zipIdx_cons, List.zipIdx_nil]
  refine wpAny_bind (wpAny_bind (wpAny_onRaise ?_))
  show wpAny _ _ (Builtin.SmallTypes.nextOf (.ref j1) >>= _) _ _ _
  cases c1 : r1 with
  | none =>
    refine wpAny_bind (N1.no c1 _ _ _ _ hh (N1.fu' g1 e1.extBut D.i1z D.l1z) fun b2 e e2 he => ?_)
    obtain ⟨oe, ho, hc⟩ := he
    have z2 : IsZip b2 zp tI tO .ellipsis := e2 _ _ D.i1z.symm z1
    have ne : e ≠ zp := fun x => by subst x; rw [z2] at ho; cases ho; simp at hc
    refine wpAny_setField_rec z2 (by simp) fun b3 _ e3 => k b3 e (fun c o c1 _ c3 _ x => e3.extBut _ _ c1 (e2 _ _ c3 (e1.extBut _ _ c1 x))) ⟨oe, e3.extBut _ _ ne ho, hc⟩
  | some x =>
    have c2 : r2 = none := he.resolve_left (fun z => by rw [z] at c1; cases c1)
    refine wpAny_bind (N1.got x c1 _ _ _ _ (N1.fu' g1 e1.extBut D.i1z D.l1z) fun b2 n2 e2 => wpAny_pure ?_)
    have o2 : IsPair b2 tO p q := e2.extBut _ _ D.TOi1 (e1.extBut _ _ D.TOz gO)
    refine wpAny_bind (wpAny_seqItems o2 rfl ?_)
    refine wpAny_bind (wpAny_updateSeq_pair o2 fun b3 o3 e3 => ?_)
    refine wpAny_bind (wpAny_letGo (wpAny_pure ?_))
    refine wpAny_bind (wpAny_bind (wpAny_onRaise ?_))
    show wpAny _ _ (Builtin.SmallTypes.nextOf (.ref j2) >>= _) _ _ _
    refine wpAny_bind (N2.no c2 _ _ _ _ hh (N2.fu' (N2.fu' (N2.fu' g2 e1.extBut D.i2z D.l2z) e2.extBut D.i12.symm D.l2i1) e3.extBut D.TOi2.symm D.l2TO) fun b4 e e4 he => ?_)
    obtain ⟨oe, ho, hc⟩ := he
    have z4 : IsZip b4 zp tI tO .ellipsis := e4 _ _ D.i2z.symm (e3.extBut _ _ D.TOz.symm (e2.extBut _ _ D.i1z.symm z1))
    have ne : e ≠ zp := fun x => by subst x; rw [z4] at ho; cases ho; simp at hc
    refine wpAny_setField_rec z4 (by simp) fun b5 _ e5 => k b5 e (fun c o c1 c2 c3 c4 x => e5.extBut _ _ c1 (e4 _ _ c4 (e3.extBut _ _ c2 (e2.extBut _ _ c3 (e1.extBut _ _ c1 x))))) ⟨oe, e5.extBut _ _ ne ho, hc⟩
theorem nextG_item {x y : Value} {Q : Option Value → Shared → Prop} (D : ZipApart zp tI tO j1 j2 m1 m2) (N1 : NxOk prog w j1 m1 u1 (some x) v1) (N2 : NxOk prog w j2 m2 u2 (some y) v2)
    (gz : IsZip s.heap zp tI tO .none) (gI : IsPair s.heap tI (.ref j1) (.ref j2)) (gO : IsPair s.heap tO p q) (g1 : u1 s.heap) (g2 : u2 s.heap)
    (k : ∀ b, IsZip b zp tI tO (rawInt s.heap.objs.size) → IsPair b tO x y → v1 b → v2 b → IsPair b s.heap.objs.size x y → b.objs.size = s.heap.objs.size + 1 →
      (∀ c o, c ≠ zp → c ≠ tO → c ≠ j1 → c ≠ j2 → s.heap.get? c = some o → b.get? c = some o) → Q (some (.ref s.heap.objs.size)) { s with heap := b }) : wpAny (model prog w) A (pyNext (.ref zp)) Q E s := by
  have ty : s.TypeIs (.ref zp) "zip" := ⟨_, gz, rfl⟩
  unfold pyNext
  exact wpAny_bind (wpAny_attempt (wpAny_callSpecial?_slot (name := Str.ofString "__next__") ty F.slot_zip_next
    (wpAny_call_entry F.slot_zip_next ty F.entry_zip_next (zipG_item D N1 N2 gz gI gO g1 g2 fun b a1 a2 a3 a4 a5 a6 a7 => wpAny_pure (k b a1 a2 a3 a4 a5 a6 a7)) (F.args_zip_next_1 _))))
theorem nextG_end {Q : Option Value → Shared → Prop} (hh : A.handled = none) (D : ZipApart zp tI tO j1 j2 m1 m2) (N1 : NxOk prog w j1 m1 u1 r1 v1) (N2 : NxOk prog w j2 m2 u2 r2 v2) (he : r1 = none ∨ r2 = none)
    (gz : IsZip s.heap zp tI tO .none) (gI : IsPair s.heap tI (.ref j1) (.ref j2)) (gO : IsPair s.heap tO p q) (g1 : u1 s.heap) (g2 : u2 s.heap)
    (k : ∀ b, (∀ c o, c ≠ zp → c ≠ tO → c ≠ j1 → c ≠ j2 → s.heap.get? c = some o → b.get? c = some o) → Q none { s with heap := b }) : wpAny (model prog w) A (pyNext (.ref zp)) Q E s := by
  have ty : s.TypeIs (.ref zp) "zip" := ⟨_, gz, rfl⟩
  unfold pyNext
  refine wpAny_bind (wpAny_attempt (wpAny_callSpecial?_slot (name := Str.ofString "__next__") ty F.slot_zip_next
    (wpAny_call_entry F.slot_zip_next ty F.entry_zip_next (zipG_end hh D N1 N2 he gz gI gO g1 g2 fun b e kp ex => ?_) (F.args_zip_next_1 _))))
  obtain ⟨o, ho, hc⟩ := ex
  refine wpAny_bind (wpAny_isInstance (T := "StopIteration") (b := true) ⟨o, ho, hc⟩ isSubtype_stop ?_)
  exact wpAny_pure (k _ kp)
end
/-! ### the zip object -/
abbrev zg1 (c1 : String) (h : Heap) (a : Addr) : Heap := h.push { cls := .type c1, data := .fields #[.ref a, .int 0 0] }
abbrev zg2 (c1 c2 : String) (h : Heap) (a b : Addr) : Heap := (zg1 c1 h a).push { cls := .type c2, data := .fields #[.ref b, .int 0 0] }
abbrev zg3 (c1 c2 : String) (h : Heap) (a b : Addr) : Heap := (zg2 c1 c2 h a b).push { cls := .type "tuple", data := .seq #[.ref h.objs.size, .ref (zg1 c1 h a).objs.size] }
abbrev zg4 (c1 c2 : String) (h : Heap) (a b : Addr) : Heap := (zg3 c1 c2 h a b).push { cls := .type "tuple", data := .seq #[.none, .none] }
abbrev zg5 (c1 c2 : String) (h : Heap) (a b : Addr) : Heap := (zg4 c1 c2 h a b).push { cls := .type "zip", data := .fields #[.none, .bool false, .bool false, .ref (zg2 c1 c2 h a b).objs.size, .ref (zg3 c1 c2 h a b).objs.size] }
theorem meets_zipTL (a b : Addr) (xs ys : Array Value) : Meets (Builtin.«zip.__new__» ⟨[.type "zip", .ref a, .ref b], []⟩) (fun _ R s => s.heap.IsTuple a xs ∧ s.heap.IsList b ys ∧
    R (.ok (.ret (.ref (zg4 "tuple_iterator" "list_iterator" s.heap a b).objs.size))) { s with heap := zg5 "tuple_iterator" "list_iterator" s.heap a b }) :=
  .of_wp fun prog w A R s h => by
    obtain ⟨hp, g, d, tk, os⟩ := s
    obtain ⟨x1, x2, h⟩ := h
    have hsub := sub_zip
    have y1 : Heap.IsTuple (Shared.heap ⟨hp, g, d, tk, os⟩) a xs := x1
    have y2 : Heap.IsList (Shared.heap ⟨zg1 "tuple_iterator" hp a, g, d, tk, os⟩) b ys := Heap.IsList.push x2 _
    wp_walk using wpAny_pyIter_tuple y1, wpAny_pyIter_list y2
    exact ⟨_, rfl, h⟩
theorem meets_zipLT (a b : Addr) (xs ys : Array Value) : Meets (Builtin.«zip.__new__» ⟨[.type "zip", .ref a, .ref b], []⟩) (fun _ R s => s.heap.IsList a xs ∧ s.heap.IsTuple b ys ∧
    R (.ok (.ret (.ref (zg4 "list_iterator" "tuple_iterator" s.heap a b).objs.size))) { s with heap := zg5 "list_iterator" "tuple_iterator" s.heap a b }) :=
  .of_wp fun prog w A R s h => by
    obtain ⟨hp, g, d, tk, os⟩ := s
    obtain ⟨x1, x2, h⟩ := h
    have hsub := sub_zip
    have y1 : Heap.IsList (Shared.heap ⟨hp, g, d, tk, os⟩) a xs := x1
    have y2 : Heap.IsTuple (Shared.heap ⟨zg1 "list_iterator" hp a, g, d, tk, os⟩) b ys := Heap.IsTuple.push x2 _
    wp_walk using wpAny_pyIter_list y1, wpAny_pyIter_tuple y2
    exact ⟨_, rfl, h⟩
section
variable {prog : Program} {w : World} {A : Around} {E : Value → Shared → Prop} {s : Shared} {a b : Addr} {xs ys : Array Value} {Q : Value → Shared → Prop}
/-- where the parts of the new zip stand -/
theorem zg_at (c1 c2 : String) (h : Heap) (a b : Addr) : IsZip (zg5 c1 c2 h a b) (h.objs.size + 4) (h.objs.size + 2) (h.objs.size + 3) .none ∧ IsPair (zg5 c1 c2 h a b) (h.objs.size + 2) (.ref h.objs.size) (.ref (h.objs.size + 1)) ∧ IsPair (zg5 c1 c2 h a b) (h.objs.size + 3) .none .none ∧
    (zg5 c1 c2 h a b).get? h.objs.size = some { cls := .type c1, data := .fields #[.ref a, .int 0 0] } ∧ (zg5 c1 c2 h a b).get? (h.objs.size + 1) = some { cls := .type c2, data := .fields #[.ref b, .int 0 0] } ∧ (zg4 c1 c2 h a b).objs.size = h.objs.size + 4 ∧ ∀ c o, h.get? c = some o → (zg5 c1 c2 h a b).get? c = some o := by
  have s1 : (zg1 c1 h a).objs.size = h.objs.size + 1 := Heap.size_push ..
  have s2 : (zg2 c1 c2 h a b).objs.size = h.objs.size + 2 := (Heap.size_push ..).trans (by rw [s1])
  have s3 : (zg3 c1 c2 h a b).objs.size = h.objs.size + 3 := (Heap.size_push ..).trans (by rw [s2])
  have s4 : (zg4 c1 c2 h a b).objs.size = h.objs.size + 4 := (Heap.size_push ..).trans (by rw [s3])
  have k4 : ∀ c o, (zg4 c1 c2 h a b).get? c = some o → (zg5 c1 c2 h a b).get? c = some o := fun c o e => Heap.get?_push_of_some _ e
  have k3 : ∀ c o, (zg3 c1 c2 h a b).get? c = some o → (zg5 c1 c2 h a b).get? c = some o := fun c o e => k4 c o (Heap.get?_push_of_some _ e)
  have k2 : ∀ c o, (zg2 c1 c2 h a b).get? c = some o → (zg5 c1 c2 h a b).get? c = some o := fun c o e => k3 c o (Heap.get?_push_of_some _ e)
  have k1 : ∀ c o, (zg1 c1 h a).get? c = some o → (zg5 c1 c2 h a b).get? c = some o := fun c o e => k2 c o (Heap.get?_push_of_some _ e)
  have p5 : (zg5 c1 c2 h a b).get? (zg4 c1 c2 h a b).objs.size = some { cls := .type "zip", data := .fields #[.none, .bool false, .bool false, .ref (zg2 c1 c2 h a b).objs.size, .ref (zg3 c1 c2 h a b).objs.size] } := Heap.get?_push_size _ rfl
  have p4 := k4 _ _ (show (zg4 c1 c2 h a b).get? (zg3 c1 c2 h a b).objs.size = some { cls := .type "tuple", data := .seq #[.none, .none] } from Heap.get?_push_size _ rfl)
  have p3 := k3 _ _ (show (zg3 c1 c2 h a b).get? (zg2 c1 c2 h a b).objs.size = some { cls := .type "tuple", data := .seq #[.ref h.objs.size, .ref (zg1 c1 h a).objs.size] } from Heap.get?_push_size _ rfl)
  have p2 := k2 _ _ (show (zg2 c1 c2 h a b).get? (zg1 c1 h a).objs.size = some { cls := .type c2, data := .fields #[.ref b, .int 0 0] } from Heap.get?_push_size _ rfl)
  have p1 := k1 _ _ (show (zg1 c1 h a).get? h.objs.size = some { cls := .type c1, data := .fields #[.ref a, .int 0 0] } from Heap.get?_push_size _ rfl)
  rw [s2, s3, s4] at p5
  rw [s3] at p4
  rw [s1, s2] at p3
  rw [s1] at p2
  exact ⟨p5, p3, p4, p1, p2, s4, fun c o e => k1 c o (Heap.get?_push_of_some _ e)⟩
theorem call_zipTL (x1 : s.heap.IsTuple a xs) (x2 : s.heap.IsList b ys)
    (k : ∀ h', IsZip h' (s.heap.objs.size + 4) (s.heap.objs.size + 2) (s.heap.objs.size + 3) .none → IsPair h' (s.heap.objs.size + 2) (.ref s.heap.objs.size) (.ref (s.heap.objs.size + 1)) → IsPair h' (s.heap.objs.size + 3) .none .none → h'.IsTupleIter s.heap.objs.size a 0 → h'.IsListIter (s.heap.objs.size + 1) b 0 →
      (∀ c o, s.heap.get? c = some o → h'.get? c = some o) → Q (.ref (s.heap.objs.size + 4)) { s with heap := h' }) : wpAny (model prog w) A (call (.type "zip") [.ref a, .ref b]) Q E s := by
  obtain ⟨p5, p3, p4, p1, p2, s4, kp⟩ := zg_at "tuple_iterator" "list_iterator" s.heap a b
  refine callType_new F.called_zip (by decide) (F.typeCall_zip_2 _ _) (F.newCall_zip_2 _ _) (fun x => F.args_object_init_3 x _ _) F.entry_zip_new (meets_zipTL a b xs ys) ⟨x1, x2, ?_⟩
  show _ ∧ _
  rw [s4]
  exact ⟨⟨_, p5, rfl⟩, k _ p5 p3 p4 ⟨_, p1, rfl, rfl⟩ ⟨_, p2, rfl, rfl⟩ kp⟩
theorem call_zipLT (x1 : s.heap.IsList a xs) (x2 : s.heap.IsTuple b ys)
    (k : ∀ h', IsZip h' (s.heap.objs.size + 4) (s.heap.objs.size + 2) (s.heap.objs.size + 3) .none → IsPair h' (s.heap.objs.size + 2) (.ref s.heap.objs.size) (.ref (s.heap.objs.size + 1)) → IsPair h' (s.heap.objs.size + 3) .none .none → h'.IsListIter s.heap.objs.size a 0 → h'.IsTupleIter (s.heap.objs.size + 1) b 0 →
      (∀ c o, s.heap.get? c = some o → h'.get? c = some o) → Q (.ref (s.heap.objs.size + 4)) { s with heap := h' }) : wpAny (model prog w) A (call (.type "zip") [.ref a, .ref b]) Q E s := by
  obtain ⟨p5, p3, p4, p1, p2, s4, kp⟩ := zg_at "list_iterator" "tuple_iterator" s.heap a b
  refine callType_new F.called_zip (by decide) (F.typeCall_zip_2 _ _) (F.newCall_zip_2 _ _) (fun x => F.args_object_init_3 x _ _) F.entry_zip_new (meets_zipLT a b xs ys) ⟨x1, x2, ?_⟩
  show _ ∧ _
  rw [s4]
  exact ⟨⟨_, p5, rfl⟩, k _ p5 p3 p4 ⟨_, p1, rfl, rfl⟩ ⟨_, p2, rfl, rfl⟩ kp⟩
end
/-! ### walked -/
/-- what is walked: S1 at a, S2 at b -/
def ItG (S1 S2 : Hp → List V → Prop) : It :=
  ⟨fun i H => ∃ (xs ys : List V) (x y : V), S1 H xs ∧ S2 H ys ∧ xs[i]? = some x ∧ ys[i]? = some y,
    fun i H v H' => ∃ T x y, v = .ref T ∧ H T = none ∧ H' = upd H T (.tup [x, y]) ∧ (∀ xs, S1 H xs → xs[i]? = some x) ∧ ∀ ys, S2 H ys → ys[i]? = some y,
    fun i H => ∃ xs ys : List V, S1 H xs ∧ S2 H ys ∧ (xs.length ≤ i ∨ ys.length ≤ i)⟩
/-- how a sequence is read in a state, and its iterator -/
structure SqW (P : Program) (w : World) (K : PySem.W.Frag) (l : Addr) (S : Hp → List V → Prop) (Ic : Heap → Addr → Nat → Prop) (Sq : Heap → Array Value → Prop) : Prop where
  rd : ∀ (X : Cx), X.prog = P → X.w = w → X.K = K → ∀ (pins : List (Addr × Obj)) (s : Shared) (σ : L2.St) (H : Hp) (xs : List V), L2.Inv X pins σ H s → S H xs → ∃ its : List Value, Vals xs its ∧ Sq s.heap its.toArray ∧ ∀ ys, S H ys → ys = xs
  nx : ∀ (i : Addr) (k : Nat) (its : Array Value), l ≠ i → NxOk P w i l (fun h => Ic h i k ∧ Sq h its) its[k]? (fun h => Ic h i (k + 1) ∧ Sq h its)
  ob : ∀ h i k, Ic h i k → ∃ o vs, h.get? i = some o ∧ o.data = .fields vs
  at_ : ∀ h h' i k, Ic h i k → (∀ o, h.get? i = some o → h'.get? i = some o) → Ic h' i k
theorem SqW.tup {P : Program} {w : World} {K : PySem.W.Frag} {l : Addr} : SqW P w K l (fun H xs => SqT K H l xs) (fun h i k => h.IsTupleIter i l k) (fun h its => h.IsTuple l its) where
  rd := fun X hP hw hK pins s σ H xs I h => by
    subst hP hw hK
    obtain ⟨its, rv, p, _⟩ := I.tuple h
    exact ⟨its, rv, p, fun ys hy => I.tuple_inj hy h⟩
  nx := fun i k its hl => .tup hl
  ob := fun h i k x => let ⟨o, e, _, d⟩ := x; ⟨o, _, e, d⟩
  at_ := fun h h' i k x e => x.at e
theorem SqW.lst {P : Program} {w : World} {K : PySem.W.Frag} {l : Addr} : SqW P w K l (fun H xs => SqL K H l xs) (fun h i k => h.IsListIter i l k) (fun h its => h.IsList l its) where
  rd := fun X hP hw hK pins s σ H xs I h => by
    subst hP hw hK
    obtain ⟨its, rv, p, _⟩ := I.list h
    exact ⟨its, rv, p.isList, fun ys hy => I.list_inj hy h⟩
  nx := fun i k its hl => .lst hl
  ob := fun h i k x => let ⟨o, e, _, d⟩ := x; ⟨o, _, e, d⟩
  at_ := fun h h' i k x e => x.at e
theorem turnG {P : Program} {w : World} {K : PySem.W.Frag} {elts : List Expr} {kk : Nat} {tpos : Pos} {a b zp tI tO j1 j2 : Addr} {S1 S2 : Hp → List V → Prop} {I1 I2 : Heap → Addr → Nat → Prop} {Q1 Q2 : Heap → Array Value → Prop} (W1 : SqW P w K a S1 I1 Q1) (W2 : SqW P w K b S2 I2 Q2) (D : ZipApart zp tI tO j1 j2 a b) :
    Turn P w K (.Tuple elts kk tpos) (ItG S1 S2) [zp, tI, tO, j1, j2] zp (fun i h => IsZip h zp tI tO .none ∧ IsPair h tI (.ref j1) (.ref j2) ∧ (∃ x y, IsPair h tO x y) ∧ I1 h j1 i ∧ I2 h j2 i) where
  mem := by simp
  obj := fun i h st c hc => by
    obtain ⟨gz, gI, ⟨x, y, gO⟩, g1, g2⟩ := st
    obtain ⟨o1, w1, e1, d1⟩ := W1.ob _ _ _ g1
    obtain ⟨o2, w2, e2, d2⟩ := W2.ob _ _ _ g2
    simp only [List.mem_cons, List.not_mem_nil, or_false] at hc
    rcases hc with z | z | z | z | z <;> rw [z]
    · exact ⟨_, gz, fun v y => nomatch y⟩
    · exact ⟨_, gI, fun v y => nomatch y⟩
    · exact ⟨_, gO, fun v y => nomatch y⟩
    · exact ⟨o1, e1, fun v y => by rw [d1] at y; cases y⟩
    · exact ⟨o2, e2, fun v y => by rw [d2] at y; cases y⟩
  keep := fun i h h' st k => by
    obtain ⟨gz, gI, ⟨x, y, gO⟩, g1, g2⟩ := st
    exact ⟨k zp (by simp) _ gz, k tI (by simp) _ gI, ⟨x, y, k tO (by simp) _ gO⟩, W1.at_ _ _ _ _ g1 fun o => k j1 (by simp) o, W2.at_ _ _ _ _ g2 fun o => k j2 (by simp) o⟩
  item := by
    intro X hP hw hK hc i pins s σ H E I hf st hg
    obtain ⟨gz, gI, ⟨x0, y0, gO⟩, g1, g2⟩ := st
    obtain ⟨xs, ys, x, y, q1, q2, hx, hy⟩ := hg
    obtain ⟨its1, rv1, p1, inj1⟩ := W1.rd X hP hw hK pins s σ H xs I q1
    obtain ⟨its2, rv2, p2, inj2⟩ := W2.rd X hP hw hK pins s σ H ys I q2
    obtain ⟨c1, hc1, rc1⟩ := rv1.get hx
    obtain ⟨c2, hc2, rc2⟩ := rv2.get hy
    subst hP hw hK
    have lz : zp < s.heap.objs.size := Heap.lt_size gz
    have n1 := W1.nx j1 i its1.toArray D.l1i1
    have n2 := W2.nx j2 i its2.toArray D.l2i2
    rw [show its1.toArray[i]? = some c1 from by simpa using hc1] at n1
    rw [show its2.toArray[i]? = some c2 from by simpa using hc2] at n2
    refine nextG_item D n1 n2 gz gI gO ⟨g1, p1⟩ ⟨g2, p2⟩ fun b1 z1 o1 m1 m2 t1 sz kp => ?_
    refine ⟨_, rfl, wpAny_letOwnedTupleGo_zip (s := { s with heap := b1 }) z1 fun b2 z2 sb => ?_⟩
    have t2 : b2.get? s.heap.objs.size = some { cls := .type "tuple", data := .seq #[c1, c2] } := (sb.2 _ (Nat.ne_of_gt lz)).trans t1
    have new : ObjOk X.prog X.w (upd H s.heap.objs.size (.tup [x, y])) b2 s.heap.objs.size (.tup [x, y]) := ⟨by show 2 ≤ sizeLine; decide, [c1, c2], .cons rc1 (.cons rc2 .nil), ⟨_, t2, rfl, _, rfl⟩⟩
    have out : ∀ c, c ∉ [zp, tI, tO, j1, j2] → c ≠ zp ∧ c ≠ tO ∧ c ≠ j1 ∧ c ≠ j2 := fun c hc => by simp only [List.mem_cons, List.not_mem_nil, or_false, not_or] at hc; exact ⟨hc.1, hc.2.2.1, hc.2.2.2.1, hc.2.2.2.2⟩
    have J : L2.Inv X pins σ (upd H s.heap.objs.size (.tup [x, y])) { s with heap := b2 } :=
      I.turnedNew (t' := s.toks) (ch := [zp, tI, tO, j1, j2]) (fun c o hb e => (sb.2 c (out c hb).1).trans (kp c o (out c hb).1 (out c hb).2.1 (out c hb).2.2.1 (out c hb).2.2.2 e)) hf (Nat.le_refl _) new
    refine ⟨.ref s.heap.objs.size, _, J, rfl, ⟨_, x, y, rfl, I.hok.fresh (Nat.le_refl _), rfl, fun l hl => by rw [inj1 l hl]; exact hx, fun l hl => by rw [inj2 l hl]; exact hy⟩, ⟨z2, ?_, ⟨c1, c2, ?_⟩, ?_, ?_⟩, fun c hcm => ?_⟩
    · exact (sb.2 _ D.TIz).trans (kp _ _ D.TIz D.TITO D.TIi1 D.TIi2 gI)
    · exact (sb.2 _ D.TOz).trans o1
    · exact W1.at_ _ _ _ _ m1.1 fun o e => (sb.2 _ D.i1z).trans e
    · exact W2.at_ _ _ _ _ m2.1 fun o e => (sb.2 _ D.i2z).trans e
    · obtain ⟨o3, _, e3, _⟩ := W1.ob _ _ _ g1
      obtain ⟨o4, _, e4, _⟩ := W2.ob _ _ _ g2
      have lt : c < s.heap.objs.size := by
        have hcm' := hcm
        simp only [List.mem_cons, List.not_mem_nil, or_false] at hcm'
        rcases hcm' with z | z | z | z | z <;> rw [z]
        · exact lz
        · exact Heap.lt_size gI
        · exact Heap.lt_size gO
        · exact Heap.lt_size e3
        · exact Heap.lt_size e4
      rw [upd_ne (Nat.ne_of_lt lt)]
      exact (hf c hcm).1
  done := by
    intro X hP hw hK hc i pins s σ H E I hf st hg
    obtain ⟨gz, gI, ⟨x0, y0, gO⟩, g1, g2⟩ := st
    obtain ⟨xs, ys, q1, q2, hend⟩ := hg
    obtain ⟨its1, rv1, p1, _⟩ := W1.rd X hP hw hK pins s σ H xs I q1
    obtain ⟨its2, rv2, p2, _⟩ := W2.rd X hP hw hK pins s σ H ys I q2
    have l1 := rv1.length
    have l2 := rv2.length
    subst hP hw hK
    have n1 := W1.nx j1 i its1.toArray D.l1i1
    have n2 := W2.nx j2 i its2.toArray D.l2i2
    have he : its1.toArray[i]? = none ∨ its2.toArray[i]? = none := by
      rcases hend with z | z
      · exact .inl (by simp; omega)
      · exact .inr (by simp; omega)
    have out : ∀ c, c ∉ [zp, tI, tO, j1, j2] → c ≠ zp ∧ c ≠ tO ∧ c ≠ j1 ∧ c ≠ j2 := fun c hc => by simp only [List.mem_cons, List.not_mem_nil, or_false, not_or] at hc; exact ⟨hc.1, hc.2.2.1, hc.2.2.2.1, hc.2.2.2.2⟩
    exact nextG_end (I.ok.hd hc) D n1 n2 he gz gI gO ⟨g1, p1⟩ ⟨g2, p2⟩ fun b1 kp => ⟨rfl, I.turnedL (t' := s.toks) (ch := [zp, tI, tO, j1, j2]) (fun c o hb e => kp c o (out c hb).1 (out c hb).2.1 (out c hb).2.2.1 (out c hb).2.2.2 e) hf⟩
  self := fun A i s Q E st h => wpAny_pyIter_zip st.1 h
def iZipG (K : PySem.W.Frag) (ta : TA) : TI := fun σ H R => ta σ H fun vs H1 => ∃ a b xs ys, vs = [.ref a, .ref b] ∧ ((SqT K H1 a xs ∧ SqL K H1 b ys ∧ R (ItG (fun H l => SqT K H a l) (fun H l => SqL K H b l)) H1) ∨ (SqL K H1 a xs ∧ SqT K H1 b ys ∧ R (ItG (fun H l => SqL K H a l) (fun H l => SqT K H b l)) H1))
theorem pi_zipG {X : Cx} {e e2 : Expr} {ta : TA} {p pos tpos : Pos} {elts : List Expr} {kk : Nat} (hg : Gl X "zip") (hm : X.mg "zip" = none) (ha : PA X [e, e2] ta)
    (hs : starEach [e, e2] X.env = (false, eval e X.env) :: starEach [e2] X.env := by rfl) (hpl : (backTo pos (starEach [e2] X.env)).any (·.1) = false := by rfl) :
    PI X (.Tuple elts kk tpos) (.Call (.Name "zip" p) [e, e2] [] pos) (iZipG X.K ta) := by
  refine ⟨fun pins s σ H R I h => ?_⟩
  refine Call_ (ld_blt I hg hm PyProof.Rows.boot_zip (PyProof.Rows.callWith_type1 (thn (ha.run pos pins s σ H _ I h) fun us s1 ⟨vs, H1, I1, r1, q1⟩ => ?_) hs hpl))
  obtain ⟨a, b, xs, ys, ex, q1⟩ := q1
  subst ex
  obtain ⟨c1, c2, rfl, e1, e2⟩ := vals2 r1
  obtain rfl : c1 = Value.ref a := e1
  obtain rfl : c2 = Value.ref b := e2
  have fr : ∀ c, c ∈ [s1.heap.objs.size + 4, s1.heap.objs.size + 2, s1.heap.objs.size + 3, s1.heap.objs.size, s1.heap.objs.size + 1] → FpOk X pins H1 c := fun c hcm => by
    have le : s1.heap.objs.size ≤ c := by
      simp only [List.mem_cons, List.not_mem_nil, or_false] at hcm
      rcases hcm with z | z | z | z | z <;> rw [z] <;> first | exact Nat.le_add_right _ _ | exact Nat.le_refl _
    exact I1.fpOk le (I1.hok.fresh le)
  rcases q1 with ⟨q1, q2, q⟩ | ⟨q1, q2, q⟩
  · obtain ⟨its1, rv1, p1, _⟩ := I1.tuple q1
    obtain ⟨its2, rv2, p2, _⟩ := I1.list q2
    obtain ⟨o1, ho1, _⟩ := id p1
    refine call_zipTL (xs := its1.toArray) (ys := its2.toArray) p1 p2.isList fun h' gz gI gO g1 g2 kp => wpAny_pyIter_zip gz ?_
    exact ⟨s1.heap.objs.size + 4, _, _, _, H1, rfl, I1.kept (t' := s1.toks) kp, turnG .tup .lst (PySem.W.ktu_apart s1.heap.objs.size a b (Heap.lt_size ho1) p2.lt), ⟨gz, gI, ⟨_, _, gO⟩, g1, g2⟩, fr, q⟩
  · obtain ⟨its1, rv1, p1, _⟩ := I1.list q1
    obtain ⟨its2, rv2, p2, _⟩ := I1.tuple q2
    obtain ⟨o2, ho2, _⟩ := id p2
    refine call_zipLT (xs := its1.toArray) (ys := its2.toArray) p1.isList p2 fun h' gz gI gO g1 g2 kp => wpAny_pyIter_zip gz ?_
    exact ⟨s1.heap.objs.size + 4, _, _, _, H1, rfl, I1.kept (t' := s1.toks) kp, turnG .lst .tup (PySem.W.ktu_apart s1.heap.objs.size a b p1.lt (Heap.lt_size ho2)), ⟨gz, gI, ⟨_, _, gO⟩, g1, g2⟩, fr, q⟩
section
variable [HasT]
theorem dit_zipG {K : PySem.W.Frag} {H1 : Hp} {S1 S2 : Hp → List V → Prop} {xs ys : List V} {ds es : List PyData} (h : ∀ H, Stb H1 H → S1 H xs) (g : ∀ H, Stb H1 H → S2 H ys) (r : RpAll K H1 ds xs) (t : RpAll K H1 es ys) : DIt K H1 (ItG S1 S2) (zipD ds es) := fun H st => by
  have hm := h H st
  have hn := g H st
  have hl : (zipD ds es).length = min xs.length ys.length := by simp [zipD, r.length, t.length]
  rw [hl]
  refine ⟨fun i hi => ⟨xs, ys, xs[i], ys[i], hm, hn, List.getElem?_eq_getElem _, List.getElem?_eq_getElem _⟩, ⟨xs, ys, hm, hn, by omega⟩, fun i x H' d ⟨T, y, z, e, nn, eH, hy, hz⟩ hd => ?_⟩
  subst e
  subst eH
  obtain ⟨d1, d2, h1, h2, rfl⟩ := zipD_get hd
  obtain ⟨v1, hv1, rv1⟩ := r.get h1
  obtain ⟨v2, hv2, rv2⟩ := t.get h2
  rw [hy xs hm] at hv1
  rw [hz ys hn] at hv2
  cases hv1
  cases hv2
  exact ⟨pair_new nn (Rp.mono st _ _ rv1) (Rp.mono st _ _ rv2), .inr ⟨T, _, nn, rfl⟩⟩
/-- a tuple and a list, a list and a tuple -/
def zipOkG : PyData → PyData → Option (List PyData)
  | .tuple ds, .list es => some (zipD ds es)
  | .list ds, .tuple es => some (zipD ds es)
  | _, _ => none
variable {X : Cx} {a b : Expr} {ρ : Nv} {p pos : Pos} {k : Nat}
theorem IW.zipG {elts : List Expr} {kk : Nat} {tpos : Pos} {Q : List PyData → Nv → Prop} (C : Ctx X k) (h : EWds X [a, b] ρ fun ds ρ1 => ∃ d e zs, ds = [d, e] ∧ zipOkG d e = some zs ∧ Q zs ρ1) (hg : Gl X "zip" := by rfl) (hs : starEach [a, b] X.env = (false, eval a X.env) :: starEach [b] X.env := by rfl) (hpl : (backTo pos (starEach [b] X.env)).any (·.1) = false := by rfl) : IW X (.Tuple elts kk tpos) (.Call (.Name "zip" p) [a, b] [] pos) ρ Q := fun σ H R Ev kk pins s I => by
  refine (pi_zipG hg C.blt.zip pa_W hs hpl).run pins s σ H R I (h σ H _ Ev fun vs H1 ds ρ1 P r ⟨d, e, zs, e1, e2, q⟩ => ?_)
  subst e1
  match d, e, e2, r with
  | .tuple ds, .list es, e2, .cons (.tuple h1 r1) (.cons (.list h2 r2) .nil) =>
    cases e2
    exact ⟨_, _, _, _, rfl, .inl ⟨SqT.of h1, h2.sq, kk _ H1 _ ρ1 P (dit_zipG (fun H st => st.tup (SqT.of h1)) (fun H st => (st.lst h2).sq) r1 r2) q⟩⟩
  | .list ds, .tuple es, e2, .cons (.list h1 r1) (.cons (.tuple h2 r2) .nil) =>
    cases e2
    exact ⟨_, _, _, _, rfl, .inr ⟨h1.sq, SqT.of h2, kk _ H1 _ ρ1 P (dit_zipG (fun H st => (st.lst h1).sq) (fun H st => st.tup (SqT.of h2)) r1 r2) q⟩⟩
end
end AW

/-! AW39: enumerate(zip(a tuple, a tuple)): the zip's own pair may still be out, or gone. -/
namespace AW
open PySem PySem.Spec PyProof.Rows L2
open PySem.Sem (wp)
/-- a zip, whatever it knows of the pair that it gave last -/
abbrev IsZf (h : Heap) (zp tI tO : Addr) (f0 : Value) (fl : Bool) : Prop :=
  h.get? zp = some { cls := .type "zip", dict := none, data := .fields #[f0, .bool fl, .bool false, .ref tI, .ref tO], slots := #[] }
def Fz (f0 : Value) : Prop := f0 = .none ∨ ∃ T : Nat, f0 = rawInt T
section
variable {prog : Program} {w : World} {A : Around} {E : Value → Shared → Prop} {s : Shared} {zp tI tO j1 j2 m1 m2 e : Addr} {u1 v1 u2 v2 : Heap → Prop} {r1 r2 : Option Value} {p q f0 : Value} {fl : Bool}
theorem alive_any {a : Addr} {Q : Option Obj → Shared → Prop} (h : Q (s.heap.get? a) s) : wpAny (model prog w) A (loadIfAlive a) Q E s := fun _ _ _ => h
theorem isFree_any {Q : Bool → Shared → Prop} (gz : IsZf s.heap zp tI tO f0 fl) (hf : Fz f0) (k1 : Q true s) (k2 : ∀ b, IsZf b zp tI tO f0 true → Heap.SameBut zp s.heap b → Q false { s with heap := b }) :
    wpAny (model prog w) A (Builtin.SmallTypes.ownedTupleIsFree (.ref zp)) Q E s := by
  (unfold Builtin.SmallTypes.ownedTupleIsFree)
  refine wpAny_bind (wpAny_field gz rfl (x := f0) rfl ?_)
  rcases hf with rfl | ⟨T, rfl⟩
  · exact wpAny_pure k1
  · show wpAny _ _ (loadIfAlive (((T : Nat) : Int).toNat) >>= _) _ _ _
    refine wpAny_bind (alive_any ?_)
    cases c : s.heap.get? (((T : Nat) : Int).toNat) with
    | none =>
      simp only [Option.isNone_none, if_true]
      exact wpAny_pure k1
    | some o =>
      simp only [Option.isNone_some, if_false, Bool.false_eq_true]
      refine wpAny_bind (wpAny_field gz rfl (x := .bool fl) rfl ?_)
      cases fl with
      | true =>
        rw [if_neg (show ¬ ((Value.bool true != Value.bool true) = true) from fun z => Bool.false_ne_true z)]
        exact wpAny_pure (k2 s.heap gz (Heap.SameBut.refl _ _))
      | false =>
        rw [if_pos (show (Value.bool false != Value.bool true) = true by rfl)]
        exact wpAny_bind (wpAny_setField_rec gz (by simp) fun b z1 sb => wpAny_pure (k2 b z1 sb))
theorem zipF_item {x y : Value} {Q : Value → Shared → Prop} (D : ZipApart zp tI tO j1 j2 m1 m2) (N1 : NxOk prog w j1 m1 u1 (some x) v1) (N2 : NxOk prog w j2 m2 u2 (some y) v2)
    (gz : IsZf s.heap zp tI tO f0 fl) (hf : Fz f0) (gI : IsPair s.heap tI (.ref j1) (.ref j2)) (gO : IsPair s.heap tO p q) (g1 : u1 s.heap) (g2 : u2 s.heap)
    (k : ∀ b f1 fl1, Fz f1 → IsZf b zp tI tO f1 fl1 → (∃ p q, IsPair b tO p q) → v1 b → v2 b → IsPair b s.heap.objs.size x y → b.objs.size = s.heap.objs.size + 1 →
      (∀ c o, c ≠ zp → c ≠ tO → c ≠ j1 → c ≠ j2 → s.heap.get? c = some o → b.get? c = some o) → Q (.ref s.heap.objs.size) { s with heap := b }) :
    wpAny (model prog w) A (Builtin.«zip.__next__» ⟨[.ref zp], []⟩) (fun fin s' => ∃ v, fin = .done (.ret v) ∧ Q v s') E s := by
  show wpAny _ _ (field (.ref zp) 2 >>= _) _ _ _
  refine wpAny_bind (wpAny_field gz rfl (x := .bool false) rfl ?_)
  show wpAny _ _ (field (.ref zp) 3 >>= _) _ _ _
  refine wpAny_bind (wpAny_field gz rfl (x := .ref tI) rfl ?_)
  refine wpAny_bind (wpAny_seqItems gI rfl ?_)
  show wpAny _ _ (Builtin.SmallTypes.ownedTupleIsFree (.ref zp) >>= _) _ _ _
  refine wpAny_bind (isFree_any gz hf ?_ fun b1 z1 e1 => ?_)
  · simp only [if_true]
    refine wpAny_bind (wpAny_rule ?_)
    refine wpAny_bind (wpAny_field gz rfl (x := .ref tO) rfl ?_)
    refine wpAny_bind (wpAny_setField_rec gz (by simp) fun b1 z1 e1 => ?_)
    replace z1 : IsZf b1 zp tI tO .ellipsis fl := z1
    refine wpAny_bind ?_
    simp only [List.forIn_cons, List.forIn_nil, List.zipIdx_cons, List.zipIdx_nil]
    refine wpAny_bind (wpAny_bind (wpAny_onRaise ?_))
    show wpAny _ _ (Builtin.SmallTypes.nextOf (.ref j1) >>= _) _ _ _
    refine wpAny_bind (N1.got x rfl _ _ _ _ (N1.fu' g1 e1.extBut D.i1z D.l1z) fun b2 n2 e2 => wpAny_pure ?_)
    have o2 : IsPair b2 tO p q := e2.extBut _ _ D.TOi1 (e1.extBut _ _ D.TOz gO)
    refine wpAny_bind (wpAny_seqItems o2 rfl ?_)
    refine wpAny_bind (wpAny_updateSeq_pair o2 fun b3 o3 e3 => ?_)
    replace o3 : IsPair b3 tO x q := o3
    refine wpAny_bind (wpAny_letGo (wpAny_pure ?_))
    refine wpAny_bind (wpAny_bind (wpAny_onRaise ?_))
    show wpAny _ _ (Builtin.SmallTypes.nextOf (.ref j2) >>= _) _ _ _
    refine wpAny_bind (N2.got y rfl _ _ _ _ (N2.fu' (N2.fu' (N2.fu' g2 e1.extBut D.i2z D.l2z) e2.extBut D.i12.symm D.l2i1) e3.extBut D.TOi2.symm D.l2TO) fun b4 n4 e4 => wpAny_pure ?_)
    have o4 : IsPair b4 tO x q := e4.extBut _ _ D.TOi2 o3
    refine wpAny_bind (wpAny_seqItems o4 rfl ?_)
    refine wpAny_bind (wpAny_updateSeq_pair o4 fun b5 o5 e5 => ?_)
    replace o5 : IsPair b5 tO x y := o5
    refine wpAny_bind (wpAny_letGo (wpAny_pure (wpAny_pure ?_)))
    refine wpAny_bind (wpAny_seqItems o5 rfl ?_)
    refine wpAny_bind (wpAny_newTuple ?_)
    have sz : b5.objs.size = s.heap.objs.size := by rw [e5.1, e4.1, e3.1, e2.1, e1.1]
    have z5 : IsZf b5 zp tI tO .ellipsis fl := e5.extBut _ _ D.TOz.symm (e4.extBut _ _ D.i2z.symm (e3.extBut _ _ D.TOz.symm (e2.extBut _ _ D.i1z.symm z1)))
    have kp : ∀ c o, c ≠ zp → c ≠ tO → c ≠ j1 → c ≠ j2 → s.heap.get? c = some o → b5.get? c = some o := fun c o c1 c2 c3 c4 e =>
      e5.extBut _ _ c2 (e4.extBut _ _ c4 (e3.extBut _ _ c2 (e2.extBut _ _ c3 (e1.extBut _ _ c1 e))))
    have n5 : v1 b5 := N1.fv' (N1.fv' (N1.fv' n2 e3.extBut D.TOi1.symm D.l1TO) e4.extBut D.i12 D.l1i2) e5.extBut D.TOi1.symm D.l1TO
    have n6 : v2 b5 := N2.fv' n4 e5.extBut D.TOi2.symm D.l2TO
    have lz : zp < b5.objs.size := Heap.lt_size z5
    show wpAny _ _ (Builtin.SmallTypes.ownedTupleHandOut (.ref zp) (.ref b5.objs.size) >>= _) _ _ _
    refine wpAny_bind ?_
    (unfold Builtin.SmallTypes.ownedTupleHandOut)
    have z6 : IsZf (b5.push { cls := .type "tuple", data := .seq #[x, y] }) zp tI tO .ellipsis fl := Heap.get?_push_of_some _ z5
    refine wpAny_bind (wpAny_setField_rec z6 (by simp) fun b7 z7 e7 => ?_)
    replace z7 : IsZf b7 zp tI tO (rawInt b5.objs.size) fl := z7
    refine wpAny_setField_rec z7 (by simp) fun b8 z8 e8 => ?_
    replace z8 : IsZf b8 zp tI tO (rawInt b5.objs.size) false := z8
    have up : ∀ c o, c ≠ zp → b5.get? c = some o → b8.get? c = some o := fun c o c1 e => e8.extBut _ _ c1 (e7.extBut _ _ c1 (Heap.get?_push_of_some _ e))
    have t8 : IsPair b8 b5.objs.size x y := e8.extBut _ _ (Nat.ne_of_gt lz) (e7.extBut _ _ (Nat.ne_of_gt lz) (Heap.get?_push_size _ rfl))
    have s8 : b8.objs.size = b5.objs.size + 1 := by rw [e8.1, e7.1, Heap.size_push]
    have w1 : v1 b8 := N1.fv _ _ n5 fun c o hc e => up c o (by rcases hc with z | z <;> rw [z]; exact D.i1z; exact D.l1z) e
    have w2 : v2 b8 := N2.fv _ _ n6 fun c o hc e => up c o (by rcases hc with z | z <;> rw [z]; exact D.i2z; exact D.l2z) e
    rw [sz] at z8 t8 s8
    refine wpAny_pure ⟨_, rfl, ?_⟩
    show Q (.ref b5.objs.size) _
    rw [sz]
    exact k b8 _ _ (.inr ⟨_, rfl⟩) z8 ⟨_, _, up _ _ D.TOz o5⟩ w1 w2 t8 s8 fun c o c1 c2 c3 c4 e => up c o c1 (kp c o c1 c2 c3 c4 e)
  · simp only [if_false, Bool.false_eq_true]
    refine wpAny_bind ?_
    rw [← Array.forIn_toList]
    simp only [List.forIn_cons, List.forIn_nil]
    refine wpAny_bind (wpAny_bind (wpAny_holding ?_))
    show wpAny _ _ (Builtin.SmallTypes.nextOf (.ref j1) >>= _) _ _ _
    refine wpAny_bind (N1.got x rfl _ _ { s with heap := b1 } _ (N1.fu' g1 e1.extBut D.i1z D.l1z) fun b2 n2 e2 => wpAny_pure ?_)
    refine wpAny_pure ?_
    refine wpAny_bind (wpAny_bind (wpAny_holding ?_))
    show wpAny _ _ (Builtin.SmallTypes.nextOf (.ref j2) >>= _) _ _ _
    refine wpAny_bind (N2.got y rfl _ _ { s with heap := b2 } _ (N2.fu' (N2.fu' g2 e1.extBut D.i2z D.l2z) e2.extBut D.i12.symm D.l2i1) fun b3 n3 e3 => wpAny_pure ?_)
    refine wpAny_pure (wpAny_pure ?_)
    show wpAny _ _ (newTuple [x, y] >>= _) _ _ _
    refine wpAny_bind (wpAny_newTuple ?_)
    have sz : b3.objs.size = s.heap.objs.size := by rw [e3.1, e2.1, e1.1]
    have z3 : IsZf b3 zp tI tO f0 true := e3.extBut _ _ D.i2z.symm (e2.extBut _ _ D.i1z.symm z1)
    have kp : ∀ c o, c ≠ zp → c ≠ j1 → c ≠ j2 → s.heap.get? c = some o → b3.get? c = some o := fun c o c1 c2 c3 e => e3.extBut _ _ c3 (e2.extBut _ _ c2 (e1.extBut _ _ c1 e))
    have n4 : v1 b3 := N1.fv' n2 e3.extBut D.i12 D.l1i2
    refine wpAny_pure ⟨_, rfl, ?_⟩
    show Q (.ref b3.objs.size) _
    have t4 : IsPair (b3.push { cls := .type "tuple", data := .seq #[x, y] }) b3.objs.size x y := Heap.get?_push_size _ rfl
    have s4 : (b3.push { cls := .type "tuple", data := .seq #[x, y] }).objs.size = b3.objs.size + 1 := Heap.size_push ..
    rw [sz] at t4 s4 ⊢
    exact k _ _ _ hf (Heap.get?_push_of_some _ z3) ⟨_, _, Heap.get?_push_of_some _ (kp _ _ D.TOz D.TOi1 D.TOi2 gO)⟩ (N1.fv _ _ n4 fun c o _ e => Heap.get?_push_of_some _ e) (N2.fv _ _ n3 fun c o _ e => Heap.get?_push_of_some _ e) t4 s4 fun c o c1 _ c3 c4 e => Heap.get?_push_of_some _ (kp c o c1 c3 c4 e)
theorem zipF_end {Q : Fin → Shared → Prop} (hh : A.handled = none) (D : ZipApart zp tI tO j1 j2 m1 m2) (N1 : NxOk prog w j1 m1 u1 r1 v1) (N2 : NxOk prog w j2 m2 u2 r2 v2) (he : r1 = none ∨ r2 = none)
    (gz : IsZf s.heap zp tI tO f0 fl) (hf : Fz f0) (gI : IsPair s.heap tI (.ref j1) (.ref j2)) (gO : IsPair s.heap tO p q) (g1 : u1 s.heap) (g2 : u2 s.heap)
    (k : ∀ b e, (∀ c o, c ≠ zp → c ≠ tO → c ≠ j1 → c ≠ j2 → s.heap.get? c = some o → b.get? c = some o) → (∃ o, b.get? e = some o ∧ o.cls = .type "StopIteration") → E (.ref e) { s with heap := b }) :
    wpAny (model prog w) A (Builtin.«zip.__next__» ⟨[.ref zp], []⟩) Q E s := by
  show wpAny _ _ (field (.ref zp) 2 >>= _) _ _ _
  refine wpAny_bind (wpAny_field gz rfl (x := .bool false) rfl ?_)
  show wpAny _ _ (field (.ref zp) 3 >>= _) _ _ _
  refine wpAny_bind (wpAny_field gz rfl (x := .ref tI) rfl ?_)
  refine wpAny_bind (wpAny_seqItems gI rfl ?_)
  show wpAny _ _ (Builtin.SmallTypes.ownedTupleIsFree (.ref zp) >>= _) _ _ _
  refine wpAny_bind (isFree_any gz hf ?_ fun b1 z1 e1 => ?_)
  · simp only [if_true]
    refine wpAny_bind (wpAny_rule ?_)
    refine wpAny_bind (wpAny_field gz rfl (x := .ref tO) rfl ?_)
    refine wpAny_bind (wpAny_setField_rec gz (by simp) fun b1 z1 e1 => ?_)
    replace z1 : IsZf b1 zp tI tO .ellipsis fl := z1
    refine wpAny_bind ?_
    simp only [List.forIn_cons, List.forIn_nil, List.zipIdx_cons, List.zipIdx_nil]
    refine wpAny_bind (wpAny_bind (wpAny_onRaise ?_))
    show wpAny _ _ (Builtin.SmallTypes.nextOf (.ref j1) >>= _) _ _ _
    cases c1 : r1 with
    | none =>
      refine wpAny_bind (N1.no c1 _ _ _ _ hh (N1.fu' g1 e1.extBut D.i1z D.l1z) fun b2 e e2 he => ?_)
      obtain ⟨oe, ho, hc⟩ := he
      have z2 : IsZf b2 zp tI tO .ellipsis fl := e2 _ _ D.i1z.symm z1
      have ne : e ≠ zp := fun x => by subst x; rw [z2] at ho; cases ho; simp at hc
      refine wpAny_setField_rec z2 (by simp) fun b3 _ e3 => k b3 e (fun c o c1 _ c3 _ x => e3.extBut _ _ c1 (e2 _ _ c3 (e1.extBut _ _ c1 x))) ⟨oe, e3.extBut _ _ ne ho, hc⟩
    | some x =>
      have c2 : r2 = none := he.resolve_left (fun z => by rw [z] at c1; cases c1)
      refine wpAny_bind (N1.got x c1 _ _ _ _ (N1.fu' g1 e1.extBut D.i1z D.l1z) fun b2 n2 e2 => wpAny_pure ?_)
      have o2 : IsPair b2 tO p q := e2.extBut _ _ D.TOi1 (e1.extBut _ _ D.TOz gO)
      refine wpAny_bind (wpAny_seqItems o2 rfl ?_)
      refine wpAny_bind (wpAny_updateSeq_pair o2 fun b3 o3 e3 => ?_)
      refine wpAny_bind (wpAny_letGo (wpAny_pure ?_))
      refine wpAny_bind (wpAny_bind (wpAny_onRaise ?_))
      show wpAny _ _ (Builtin.SmallTypes.nextOf (.ref j2) >>= _) _ _ _
      refine wpAny_bind (N2.no c2 _ _ _ _ hh (N2.fu' (N2.fu' (N2.fu' g2 e1.extBut D.i2z D.l2z) e2.extBut D.i12.symm D.l2i1) e3.extBut D.TOi2.symm D.l2TO) fun b4 e e4 he => ?_)
      obtain ⟨oe, ho, hc⟩ := he
      have z4 : IsZf b4 zp tI tO .ellipsis fl := e4 _ _ D.i2z.symm (e3.extBut _ _ D.TOz.symm (e2.extBut _ _ D.i1z.symm z1))
      have ne : e ≠ zp := fun x => by subst x; rw [z4] at ho; cases ho; simp at hc
      refine wpAny_setField_rec z4 (by simp) fun b5 _ e5 => k b5 e (fun c o c1 c2 c3 c4 x => e5.extBut _ _ c1 (e4 _ _ c4 (e3.extBut _ _ c2 (e2.extBut _ _ c3 (e1.extBut _ _ c1 x))))) ⟨oe, e5.extBut _ _ ne ho, hc⟩
  · simp only [if_false, Bool.false_eq_true]
    refine wpAny_bind ?_
    rw [← Array.forIn_toList]
    simp only [List.forIn_cons, List.forIn_nil]
    refine wpAny_bind (wpAny_bind (wpAny_holding ?_))
    show wpAny _ _ (Builtin.SmallTypes.nextOf (.ref j1) >>= _) _ _ _
    cases c1 : r1 with
    | none =>
      refine wpAny_bind (N1.no c1 _ _ { s with heap := b1 } _ hh (N1.fu' g1 e1.extBut D.i1z D.l1z) fun b2 e e2 he => ?_)
      exact k b2 e (fun c o c1 _ c3 _ x => e2 _ _ c3 (e1.extBut _ _ c1 x)) he
    | some x =>
      have c2 : r2 = none := he.resolve_left (fun z => by rw [z] at c1; cases c1)
      refine wpAny_bind (N1.got x c1 _ _ { s with heap := b1 } _ (N1.fu' g1 e1.extBut D.i1z D.l1z) fun b2 n2 e2 => wpAny_pure ?_)
      refine wpAny_pure ?_
      refine wpAny_bind (wpAny_bind (wpAny_holding ?_))
      show wpAny _ _ (Builtin.SmallTypes.nextOf (.ref j2) >>= _) _ _ _
      refine wpAny_bind (N2.no c2 _ _ { s with heap := b2 } _ hh (N2.fu' (N2.fu' g2 e1.extBut D.i2z D.l2z) e2.extBut D.i12.symm D.l2i1) fun b3 e e3 he => ?_)
      exact k b3 e (fun c o c1 _ c3 c4 x => e3 _ _ c4 (e2.extBut _ _ c3 (e1.extBut _ _ c1 x))) he
end
end AW

/-! AW40: for i, (x, y) in enumerate(zip(a tuple, a tuple)). -/
namespace AW
open PySem PySem.Spec PyProof.Rows L2
open PySem.Sem (wp)
section
variable {prog : Program} {w : World} {A : Around} {E : Value → Shared → Prop} {s : Shared} {zp tI tO j1 j2 m1 m2 e : Addr} {u1 v1 u2 v2 : Heap → Prop} {r1 r2 : Option Value} {p q f0 old : Value} {fl : Bool} {i : Int}
theorem nextZ_item {x y : Value} {Q : Value → Shared → Prop} (D : ZipApart zp tI tO j1 j2 m1 m2) (N1 : NxOk prog w j1 m1 u1 (some x) v1) (N2 : NxOk prog w j2 m2 u2 (some y) v2)
    (gz : IsZf s.heap zp tI tO f0 fl) (hf : Fz f0) (gI : IsPair s.heap tI (.ref j1) (.ref j2)) (gO : IsPair s.heap tO p q) (g1 : u1 s.heap) (g2 : u2 s.heap)
    (k : ∀ b f1 fl1, Fz f1 → IsZf b zp tI tO f1 fl1 → (∃ p q, IsPair b tO p q) → v1 b → v2 b → IsPair b s.heap.objs.size x y → b.objs.size = s.heap.objs.size + 1 →
      (∀ c o, c ≠ zp → c ≠ tO → c ≠ j1 → c ≠ j2 → s.heap.get? c = some o → b.get? c = some o) → Q (.ref s.heap.objs.size) { s with heap := b }) : wpAny (model prog w) A (Builtin.SmallTypes.nextOf (.ref zp)) Q E s := by
  have ty : s.TypeIs (.ref zp) "zip" := ⟨_, gz, rfl⟩
  (unfold Builtin.SmallTypes.nextOf)
  exact wpAny_bind (wpAny_callSpecial?_slot (name := Str.ofString "__next__") ty F.slot_zip_next (wpAny_call_entry F.slot_zip_next ty F.entry_zip_next
    (zipF_item D N1 N2 gz hf gI gO g1 g2 fun b f1 fl1 a1 a2 a3 a4 a5 a6 a7 a8 => wpAny_pure (k b f1 fl1 a1 a2 a3 a4 a5 a6 a7 a8)) (F.args_zip_next_1 _)))
theorem nextZ_end {Q : Value → Shared → Prop} (hh : A.handled = none) (D : ZipApart zp tI tO j1 j2 m1 m2) (N1 : NxOk prog w j1 m1 u1 r1 v1) (N2 : NxOk prog w j2 m2 u2 r2 v2) (he : r1 = none ∨ r2 = none)
    (gz : IsZf s.heap zp tI tO f0 fl) (hf : Fz f0) (gI : IsPair s.heap tI (.ref j1) (.ref j2)) (gO : IsPair s.heap tO p q) (g1 : u1 s.heap) (g2 : u2 s.heap)
    (k : ∀ b e, (∀ c o, c ≠ zp → c ≠ tO → c ≠ j1 → c ≠ j2 → s.heap.get? c = some o → b.get? c = some o) → (∃ o, b.get? e = some o ∧ o.cls = .type "StopIteration") → E (.ref e) { s with heap := b }) : wpAny (model prog w) A (Builtin.SmallTypes.nextOf (.ref zp)) Q E s := by
  have ty : s.TypeIs (.ref zp) "zip" := ⟨_, gz, rfl⟩
  (unfold Builtin.SmallTypes.nextOf)
  exact wpAny_bind (wpAny_callSpecial?_slot (name := Str.ofString "__next__") ty F.slot_zip_next (wpAny_call_entry F.slot_zip_next ty F.entry_zip_next (zipF_end hh D N1 N2 he gz hf gI gO g1 g2 k) (F.args_zip_next_1 _)))
theorem enumZ_item {x y : Value} {Q : Option Value → Shared → Prop} (D : ZipApart zp tI tO j1 j2 m1 m2) (N1 : NxOk prog w j1 m1 u1 (some x) v1) (N2 : NxOk prog w j2 m2 u2 (some y) v2)
    (he : IsEnum s.heap e zp i old) (nz : e ≠ zp) (nO : e ≠ tO) (n1 : e ≠ j1) (n2 : e ≠ j2)
    (gz : IsZf s.heap zp tI tO f0 fl) (hf : Fz f0) (gI : IsPair s.heap tI (.ref j1) (.ref j2)) (gO : IsPair s.heap tO p q) (g1 : u1 s.heap) (g2 : u2 s.heap)
    (k : ∀ b0 b f1 fl1, Fz f1 → IsZf b0 zp tI tO f1 fl1 → (∃ p q, IsPair b0 tO p q) → v1 b0 → v2 b0 → IsPair b0 s.heap.objs.size x y → b0.objs.size = s.heap.objs.size + 1 →
      (∀ c o, c ≠ zp → c ≠ tO → c ≠ j1 → c ≠ j2 → s.heap.get? c = some o → b0.get? c = some o) → IsEnumOut b e zp (i + 1) (.ref s.heap.objs.size) (s.heap.objs.size + 1) →
      b.get? (s.heap.objs.size + 1) = some { cls := .type "tuple", data := .seq #[.int i s.toks, .ref s.heap.objs.size] } → (∀ c o, c ≠ e → b0.get? c = some o → b.get? c = some o) →
      Q (some (.ref (s.heap.objs.size + 1))) { s with heap := b, toks := s.toks + 1 }) : wpAny (model prog w) A (pyNext (.ref e)) Q E s := by
  have ty : s.TypeIs (.ref e) "enumerate" := ⟨_, he, rfl⟩
  unfold pyNext
  refine wpAny_bind (wpAny_attempt (wpAny_callSpecial?_slot (name := Str.ofString "__next__") ty F.slot_enumerate_next (wpAny_call_entry F.slot_enumerate_next ty F.entry_enumerate_next ?_ (F.args_enumerate_next_1 _))))
  show wpAny _ _ (field (.ref e) 2 >>= _) _ _ _
  refine wpAny_bind (wpAny_field he rfl (x := .ref zp) rfl ?_)
  refine wpAny_bind (nextZ_item D N1 N2 gz hf gI gO g1 g2 fun b0 f1 fl1 a1 a2 a3 a4 a5 a6 a7 a8 => ?_)
  have d0 : IsEnum b0 e zp i old := a8 _ _ nz nO n1 n2 he
  have le : e < b0.objs.size := Heap.lt_size d0
  show wpAny _ _ (field (.ref e) 3 >>= _) _ _ _
  refine wpAny_bind (wpAny_field d0 rfl (x := rawInt i) rfl ?_)
  show wpAny _ _ (field (.ref e) 4 >>= _) _ _ _
  refine wpAny_bind (wpAny_field d0 rfl (x := .none) rfl ?_)
  show wpAny _ _ (mkInt i >>= _) _ _ _
  refine wpAny_bind (wpAny_mkInt ?_)
  show wpAny _ _ (setField (.ref e) 3 (rawInt (i + 1)) >>= _) _ _ _
  refine wpAny_bind (wpAny_setField_rec d0 (by simp) fun b1 d1 s1 => ?_)
  replace d1 : IsEnum b1 e zp (i + 1) old := d1
  replace s1 : Heap.SameBut e b0 b1 := s1
  show wpAny _ _ (setField (.ref e) 4 .none >>= _) _ _ _
  refine wpAny_bind (wpAny_setField_rec d1 (by simp) fun b2 d2 s2 => ?_)
  replace d2 : IsEnum b2 e zp (i + 1) old := d2
  replace s2 : Heap.SameBut e b1 b2 := s2
  refine wpAny_bind (wpAny_newTuple ?_)
  have sz : b2.objs.size = s.heap.objs.size + 1 := by rw [s2.1, s1.1, a7]
  have d3 : IsEnum (b2.push { cls := .type "tuple", data := .seq #[.int i s.toks, .ref s.heap.objs.size] }) e zp (i + 1) old := Heap.get?_push_of_some _ d2
  have t3 : (b2.push { cls := .type "tuple", data := .seq #[.int i s.toks, .ref s.heap.objs.size] }).get? b2.objs.size = some { cls := .type "tuple", data := .seq #[.int i s.toks, .ref s.heap.objs.size] } := Heap.get?_push_size _ rfl
  have k3 : ∀ c o, c ≠ e → b0.get? c = some o → (b2.push { cls := .type "tuple", data := .seq #[.int i s.toks, .ref s.heap.objs.size] }).get? c = some o := fun c o hc ho => Heap.get?_push_of_some _ (s2.extBut _ _ hc (s1.extBut _ _ hc ho))
  have l3 : e ≠ b2.objs.size := by rw [s2.1, s1.1]; exact Nat.ne_of_lt le
  show wpAny _ _ (Builtin.SmallTypes.ownedTupleIsFree (.ref e) >>= _) _ _ { s with heap := b2.push { cls := .type "tuple", data := .seq #[.int i s.toks, .ref s.heap.objs.size] }, toks := s.toks + 1 }
  generalize b2.push { cls := .type "tuple", data := .seq #[.int i s.toks, .ref s.heap.objs.size] } = b3 at *
  refine wpAny_bind ?_
  (unfold Builtin.SmallTypes.ownedTupleIsFree)
  refine wpAny_bind (wpAny_field d3 rfl (x := .none) rfl (wpAny_pure ?_))
  simp only [if_true]
  refine wpAny_bind (wpAny_rule ?_)
  refine wpAny_bind (wpAny_field d3 rfl (x := old) rfl ?_)
  refine wpAny_bind (wpAny_setField_rec d3 (by simp) fun b4 d4 s4 => ?_)
  replace d4 : IsEnum b4 e zp (i + 1) (.ref s.heap.objs.size) := d4
  replace s4 : Heap.SameBut e b3 b4 := s4
  show wpAny _ _ (Builtin.SmallTypes.ownedTupleHandOut (.ref e) (.ref b2.objs.size) >>= _) _ _ _
  refine wpAny_bind ?_
  (unfold Builtin.SmallTypes.ownedTupleHandOut)
  refine wpAny_bind (wpAny_setField_rec d4 (by simp) fun b5 d5 s5 => ?_)
  replace d5 : IsEnumOut b5 e zp (i + 1) (.ref s.heap.objs.size) b2.objs.size := d5
  replace s5 : Heap.SameBut e b4 b5 := s5
  refine wpAny_setField_rec d5 (by simp) fun b6 d6 s6 => ?_
  replace d6 : IsEnumOut b6 e zp (i + 1) (.ref s.heap.objs.size) b2.objs.size := d6
  replace s6 : Heap.SameBut e b5 b6 := s6
  have t6 := s6.extBut _ _ l3.symm (s5.extBut _ _ l3.symm (s4.extBut _ _ l3.symm t3))
  have k6 : ∀ c o, c ≠ e → b0.get? c = some o → b6.get? c = some o := fun c o hc ho => s6.extBut _ _ hc (s5.extBut _ _ hc (s4.extBut _ _ hc (k3 c o hc ho)))
  rw [sz] at d6 t6
  refine wpAny_bind (wpAny_letGo (wpAny_pure ⟨_, rfl, ?_⟩))
  rw [sz]
  exact wpAny_pure (k b0 b6 f1 fl1 a1 a2 a3 a4 a5 a6 a7 a8 d6 t6 k6)
theorem enumZ_end {Q : Option Value → Shared → Prop} (hh : A.handled = none) (D : ZipApart zp tI tO j1 j2 m1 m2) (N1 : NxOk prog w j1 m1 u1 r1 v1) (N2 : NxOk prog w j2 m2 u2 r2 v2) (hn : r1 = none ∨ r2 = none)
    (he : IsEnum s.heap e zp i old) (gz : IsZf s.heap zp tI tO f0 fl) (hf : Fz f0) (gI : IsPair s.heap tI (.ref j1) (.ref j2)) (gO : IsPair s.heap tO p q) (g1 : u1 s.heap) (g2 : u2 s.heap)
    (k : ∀ b, (∀ c o, c ≠ zp → c ≠ tO → c ≠ j1 → c ≠ j2 → s.heap.get? c = some o → b.get? c = some o) → Q none { s with heap := b }) : wpAny (model prog w) A (pyNext (.ref e)) Q E s := by
  have ty : s.TypeIs (.ref e) "enumerate" := ⟨_, he, rfl⟩
  unfold pyNext
  refine wpAny_bind (wpAny_attempt (wpAny_callSpecial?_slot (name := Str.ofString "__next__") ty F.slot_enumerate_next (wpAny_call_entry F.slot_enumerate_next ty F.entry_enumerate_next ?_ (F.args_enumerate_next_1 _))))
  show wpAny _ _ (field (.ref e) 2 >>= _) _ _ _
  refine wpAny_bind (wpAny_field he rfl (x := .ref zp) rfl (wpAny_bind (nextZ_end hh D N1 N2 hn gz hf gI gO g1 g2 fun b a kp ex => ?_)))
  obtain ⟨o, ho, hc⟩ := ex
  exact wpAny_bind (wpAny_isInstance (T := "StopIteration") (b := true) ⟨o, ho, hc⟩ isSubtype_stop (wpAny_pure (k b kp)))
end
end AW

/-! AW41: loops over enumerate(zip(a tuple, a tuple)). -/
namespace AW
open PySem PySem.Spec PyProof.Rows L2
/-- pairs of S1, S2 with their numbers -/
def ItEZ (S1 S2 : Hp → List V → Prop) : It :=
  ⟨fun i H => ∃ (xs ys : List V) (x y : V), S1 H xs ∧ S2 H ys ∧ xs[i]? = some x ∧ ys[i]? = some y,
    fun i H v H' => ∃ T T2 x y, v = .ref T2 ∧ H T = none ∧ (upd H T (.tup [x, y])) T2 = none ∧ H' = upd (upd H T (.tup [x, y])) T2 (.tup [.int (i : Nat), .ref T]) ∧ (∀ xs, S1 H xs → xs[i]? = some x) ∧ ∀ ys, S2 H ys → ys[i]? = some y,
    fun i H => ∃ xs ys : List V, S1 H xs ∧ S2 H ys ∧ (xs.length ≤ i ∨ ys.length ≤ i)⟩
theorem turnEZ {P : Program} {w : World} {K : PySem.W.Frag} {elts : List Expr} {kk : Nat} {tpos : Pos} {a b e zp tI tO j1 j2 : Addr} {S1 S2 : Hp → List V → Prop} {I1 I2 : Heap → Addr → Nat → Prop} {Q1 Q2 : Heap → Array Value → Prop} (W1 : SqW P w K a S1 I1 Q1) (W2 : SqW P w K b S2 I2 Q2) (D : ZipApart zp tI tO j1 j2 a b)
    (nz : e ≠ zp) (nI : e ≠ tI) (nO : e ≠ tO) (ne1 : e ≠ j1) (ne2 : e ≠ j2) :
    Turn P w K (.Tuple elts kk tpos) (ItEZ S1 S2) [e, zp, tI, tO, j1, j2] e (fun i h => (∃ old, IsEnum h e zp ((i : Nat) : Int) old) ∧ (∃ f0 fl, Fz f0 ∧ IsZf h zp tI tO f0 fl) ∧ IsPair h tI (.ref j1) (.ref j2) ∧ (∃ x y, IsPair h tO x y) ∧ I1 h j1 i ∧ I2 h j2 i) where
  mem := by simp
  obj := fun i h st c hc => by
    obtain ⟨⟨old, he⟩, ⟨f0, fl, hf, gz⟩, gI, ⟨x, y, gO⟩, g1, g2⟩ := st
    obtain ⟨o1, w1, e1, d1⟩ := W1.ob _ _ _ g1
    obtain ⟨o2, w2, e2, d2⟩ := W2.ob _ _ _ g2
    simp only [List.mem_cons, List.not_mem_nil, or_false] at hc
    rcases hc with z | z | z | z | z | z <;> rw [z]
    · exact ⟨_, he, fun v y => nomatch y⟩
    · exact ⟨_, gz, fun v y => nomatch y⟩
    · exact ⟨_, gI, fun v y => nomatch y⟩
    · exact ⟨_, gO, fun v y => nomatch y⟩
    · exact ⟨o1, e1, fun v y => by rw [d1] at y; cases y⟩
    · exact ⟨o2, e2, fun v y => by rw [d2] at y; cases y⟩
  keep := fun i h h' st k => by
    obtain ⟨⟨old, he⟩, ⟨f0, fl, hf, gz⟩, gI, ⟨x, y, gO⟩, g1, g2⟩ := st
    exact ⟨⟨old, k e (by simp) _ he⟩, ⟨f0, fl, hf, k zp (by simp) _ gz⟩, k tI (by simp) _ gI, ⟨x, y, k tO (by simp) _ gO⟩, W1.at_ _ _ _ _ g1 fun o => k j1 (by simp) o, W2.at_ _ _ _ _ g2 fun o => k j2 (by simp) o⟩
  item := by
    intro X hP hw hK hc i pins s σ H E I hf st hg
    obtain ⟨⟨old, he⟩, ⟨f0, fl, hz, gz⟩, gI, ⟨x0, y0, gO⟩, g1, g2⟩ := st
    obtain ⟨xs, ys, x, y, q1, q2, hx, hy⟩ := hg
    obtain ⟨its1, rv1, p1, inj1⟩ := W1.rd X hP hw hK pins s σ H xs I q1
    obtain ⟨its2, rv2, p2, inj2⟩ := W2.rd X hP hw hK pins s σ H ys I q2
    obtain ⟨c1, hc1, rc1⟩ := rv1.get hx
    obtain ⟨c2, hc2, rc2⟩ := rv2.get hy
    subst hP hw hK
    have n1 := W1.nx j1 i its1.toArray D.l1i1
    have n2 := W2.nx j2 i its2.toArray D.l2i2
    rw [show its1.toArray[i]? = some c1 from by simpa using hc1] at n1
    rw [show its2.toArray[i]? = some c2 from by simpa using hc2] at n2
    obtain ⟨o3, _, e3, _⟩ := W1.ob _ _ _ g1
    obtain ⟨o4, _, e4, _⟩ := W2.ob _ _ _ g2
    have small : ∀ c ∈ [e, zp, tI, tO, j1, j2], c < s.heap.objs.size := fun c hcm => by
      simp only [List.mem_cons, List.not_mem_nil, or_false] at hcm
      rcases hcm with z | z | z | z | z | z <;> rw [z]
      · exact Heap.lt_size he
      · exact Heap.lt_size gz
      · exact Heap.lt_size gI
      · exact Heap.lt_size gO
      · exact Heap.lt_size e3
      · exact Heap.lt_size e4
    have out : ∀ c, c ∉ [e, zp, tI, tO, j1, j2] → c ≠ e ∧ c ≠ zp ∧ c ≠ tO ∧ c ≠ j1 ∧ c ≠ j2 := fun c hc => by simp only [List.mem_cons, List.not_mem_nil, or_false, not_or] at hc; exact ⟨hc.1, hc.2.1, hc.2.2.2.1, hc.2.2.2.2.1, hc.2.2.2.2.2⟩
    refine enumZ_item D n1 n2 he nz nO ne1 ne2 gz hz gI gO ⟨g1, p1⟩ ⟨g2, p2⟩ fun b0 b1 f1 fl1 a1 z1 o1 m1 m2 t1 sz kp d1 t2 kb => ?_
    refine ⟨_, rfl, wpAny_letOwnedTupleGo_enum (s := { s with heap := b1, toks := s.toks + 1 }) d1 fun b2 d2 sb => ?_⟩
    have lt_e : e < s.heap.objs.size := small e (by simp)
    have new0 : ObjOk X.prog X.w (upd H s.heap.objs.size (.tup [x, y])) b0 s.heap.objs.size (.tup [x, y]) := ⟨by show 2 ≤ sizeLine; decide, [c1, c2], .cons rc1 (.cons rc2 .nil), ⟨_, t1, rfl, _, rfl⟩⟩
    have J0 : L2.Inv X pins σ (upd H s.heap.objs.size (.tup [x, y])) { s with heap := b0 } :=
      I.turnedNew (t' := s.toks) (ch := [e, zp, tI, tO, j1, j2]) (fun c o hb hc => kp c o (out c hb).2.1 (out c hb).2.2.1 (out c hb).2.2.2.1 (out c hb).2.2.2.2 hc) hf (Nat.le_refl _) new0
    have f2 : ∀ c ∈ [e], FpOk X pins (upd H s.heap.objs.size (.tup [x, y])) c := fun c hcm => by
      have hc' : c ∈ [e, zp, tI, tO, j1, j2] := by rw [List.mem_singleton.mp hcm]; simp
      exact ⟨by rw [upd_ne (Nat.ne_of_lt (small c hc'))]; exact (hf c hc').1, (hf c hc').2⟩
    have t3 : b2.get? (s.heap.objs.size + 1) = some { cls := .type "tuple", data := .seq #[.int ((i : Nat) : Int) s.toks, .ref s.heap.objs.size] } := (sb.2 _ (Nat.ne_of_gt (Nat.lt_succ_of_lt lt_e))).trans t2
    have k2 : ∀ c o, c ≠ e → b0.get? c = some o → b2.get? c = some o := fun c o hc ho => (sb.2 c hc).trans (kb c o hc ho)
    have new1 : ObjOk X.prog X.w (upd (upd H s.heap.objs.size (.tup [x, y])) (s.heap.objs.size + 1) (.tup [.int (i : Nat), .ref s.heap.objs.size])) b2 (s.heap.objs.size + 1) (.tup [.int (i : Nat), .ref s.heap.objs.size]) :=
      ⟨by show 2 ≤ sizeLine; decide, [.int (i : Nat) s.toks, .ref s.heap.objs.size], .cons ⟨_, rfl⟩ (.cons rfl .nil), ⟨_, t3, rfl, _, rfl⟩⟩
    have J1 : L2.Inv X pins σ (upd (upd H s.heap.objs.size (.tup [x, y])) (s.heap.objs.size + 1) (.tup [.int (i : Nat), .ref s.heap.objs.size])) { s with heap := b2, toks := s.toks + 1 } :=
      J0.turnedNew (t' := s.toks + 1) (ch := [e]) (fun c o hb hc => k2 c o (fun z => hb (by rw [z]; simp)) hc) f2 (by show b0.objs.size ≤ _; rw [sz]; exact Nat.le_refl _) new1
    have fr : H s.heap.objs.size = none := I.hok.fresh (Nat.le_refl _)
    have fr2 : (upd H s.heap.objs.size (.tup [x, y])) (s.heap.objs.size + 1) = none := by rw [upd_ne (Nat.succ_ne_self _)]; exact I.hok.fresh (Nat.le_succ _)
    refine ⟨.ref (s.heap.objs.size + 1), _, J1, rfl, ⟨_, _, x, y, rfl, fr, fr2, rfl, fun l hl => by rw [inj1 l hl]; exact hx, fun l hl => by rw [inj2 l hl]; exact hy⟩, ⟨⟨.ref s.heap.objs.size, ?_⟩, ⟨f1, fl1, a1, k2 _ _ nz.symm z1⟩, ?_, ?_, ?_, ?_⟩, fun c hcm => ?_⟩
    · rw [show ((i + 1 : Nat) : Int) = (i : Int) + 1 by omega]
      exact d2
    · exact k2 _ _ nI.symm (kp _ _ D.TIz D.TITO D.TIi1 D.TIi2 gI)
    · obtain ⟨x1, y1, o1⟩ := o1
      exact ⟨x1, y1, k2 _ _ nO.symm o1⟩
    · exact W1.at_ _ _ _ _ m1.1 fun o ho => k2 _ _ ne1.symm ho
    · exact W2.at_ _ _ _ _ m2.1 fun o ho => k2 _ _ ne2.symm ho
    · have l := small c hcm
      rw [upd_ne (Nat.ne_of_lt (Nat.lt_succ_of_lt l)), upd_ne (Nat.ne_of_lt l)]
      exact (hf c hcm).1
  done := by
    intro X hP hw hK hc i pins s σ H E I hf st hg
    obtain ⟨⟨old, he⟩, ⟨f0, fl, hz, gz⟩, gI, ⟨x0, y0, gO⟩, g1, g2⟩ := st
    obtain ⟨xs, ys, q1, q2, hend⟩ := hg
    obtain ⟨its1, rv1, p1, _⟩ := W1.rd X hP hw hK pins s σ H xs I q1
    obtain ⟨its2, rv2, p2, _⟩ := W2.rd X hP hw hK pins s σ H ys I q2
    have l1 := rv1.length
    have l2 := rv2.length
    subst hP hw hK
    have n1 := W1.nx j1 i its1.toArray D.l1i1
    have n2 := W2.nx j2 i its2.toArray D.l2i2
    have hn : its1.toArray[i]? = none ∨ its2.toArray[i]? = none := by
      rcases hend with z | z
      · exact .inl (by simp; omega)
      · exact .inr (by simp; omega)
    have out : ∀ c, c ∉ [e, zp, tI, tO, j1, j2] → c ≠ zp ∧ c ≠ tO ∧ c ≠ j1 ∧ c ≠ j2 := fun c hc => by simp only [List.mem_cons, List.not_mem_nil, or_false, not_or] at hc; exact ⟨hc.2.1, hc.2.2.2.1, hc.2.2.2.2.1, hc.2.2.2.2.2⟩
    exact enumZ_end (I.ok.hd hc) D n1 n2 hn he gz hz gI gO ⟨g1, p1⟩ ⟨g2, p2⟩ fun b1 kp => ⟨rfl, I.turnedL (t' := s.toks) (ch := [e, zp, tI, tO, j1, j2]) (fun c o hb hc => kp c o (out c hb).1 (out c hb).2.1 (out c hb).2.2.1 (out c hb).2.2.2 hc) hf⟩
  self := fun A i s Q E st h => let ⟨⟨_, he⟩, _⟩ := st; wpAny_pyIter_enum he h
/-! ### the enumerate object over a zip -/
theorem meets_enumZ {zp tI tO : Addr} : Meets (Builtin.«enumerate.__new__» ⟨[.type "enumerate", .ref zp], []⟩) (fun _ R s => IsZip s.heap zp tI tO .none ∧
    R (.ok (.ret (.ref s.heap.objs.size))) { s with heap := s.heap.push { cls := .type "enumerate", data := .fields #[.none, .bool false, .ref zp, rawInt 0, .none, .none] } }) := .of_wp fun prog w A R s h => by
  obtain ⟨hp, gs, dr, tk, os⟩ := s
  obtain ⟨hG, hR⟩ := h
  have hsub := sub_enumerate
  have go : ∀ {A' : Around} {E' : Value → Shared → Prop} {Q' : Value → Shared → Prop}, Q' (.ref zp) ⟨hp, gs, dr, tk, os⟩ → wpAny (model prog w) A' (pyIter (.ref zp)) Q' E' ⟨hp, gs, dr, tk, os⟩ := fun q => wpAny_pyIter_zip hG q
  wp_walk using go
  refine wpAny_stack_any fun st => wpAny_pure ?_
  split
  · rename_i cc _ _ _ _ _
    cases (cc == Value.type "enumerate") <;> (wp_walk using go; exact ⟨_, rfl, hR⟩)
  · wp_walk using go
    exact ⟨_, rfl, hR⟩
theorem call_enumZ {prog : Program} {w : World} {A : Around} {E : Value → Shared → Prop} {s : Shared} {zp tI tO : Addr} {Q : Value → Shared → Prop} (gz : IsZip s.heap zp tI tO .none)
    (k : ∀ h', IsEnum h' s.heap.objs.size zp 0 .none → (∀ c o, s.heap.get? c = some o → h'.get? c = some o) → Q (.ref s.heap.objs.size) { s with heap := h' }) : wpAny (model prog w) A (call (.type "enumerate") [.ref zp]) Q E s := by
  refine callType_new F.called_enumerate (by decide) (F.typeCall_enumerate_1 _) (F.newCall_enumerate_1 _) (fun x => F.args_object_init_2 x _) F.entry_enumerate_new meets_enumZ ⟨gz, ?_⟩
  have hl := Heap.get?_push_size s.heap (o := { cls := .type "enumerate", data := .fields #[.none, .bool false, .ref zp, rawInt 0, .none, .none] }) rfl
  exact ⟨⟨_, hl, rfl⟩, k _ hl fun c o e => Heap.get?_push_of_some _ e⟩
def iEnumZ (K : PySem.W.Frag) (ta : TA) : TI := fun σ H R => ta σ H fun vs H1 => ∃ a b xs ys, vs = [.ref a, .ref b] ∧ SqT K H1 a xs ∧ SqT K H1 b ys ∧ R (ItEZ (fun H l => SqT K H a l) (fun H l => SqT K H b l)) H1
theorem pi_enumZ {X : Cx} {e e2 : Expr} {ta : TA} {p pos p2 pos2 tpos : Pos} {elts : List Expr} {kk : Nat} (hg0 : Gl X "enumerate") (hm0 : X.mg "enumerate" = none) (hg : Gl X "zip") (hm : X.mg "zip" = none) (ha : PA X [e, e2] ta)
    (hs0 : starEach [.Call (.Name "zip" p2) [e, e2] [] pos2] X.env = (false, eval (.Call (.Name "zip" p2) [e, e2] [] pos2) X.env) :: starEach [] X.env := by rfl)
    (hs : starEach [e, e2] X.env = (false, eval e X.env) :: starEach [e2] X.env := by rfl) (hpl : (backTo pos2 (starEach [e2] X.env)).any (·.1) = false := by rfl) :
    PI X (.Tuple elts kk tpos) (.Call (.Name "enumerate" p) [.Call (.Name "zip" p2) [e, e2] [] pos2] [] pos) (iEnumZ X.K ta) := by
  refine ⟨fun pins s σ H R I h => ?_⟩
  refine Call_ (ld_blt I hg0 hm0 boot_enumerate (PyProof.Rows.callWith_type1 (args_cons ?_ hs0) hs0 rfl))
  refine Call_ (ld_blt I hg hm PyProof.Rows.boot_zip (PyProof.Rows.callWith_type1 (thn (ha.run pos2 pins s σ H _ I h) fun us s1 ⟨vs, H1, I1, r1, q1⟩ => ?_) hs hpl))
  obtain ⟨a, b, xs, ys, ex, q1, q2, q⟩ := q1
  subst ex
  obtain ⟨c1, c2, rfl, e1, e2⟩ := vals2 r1
  obtain rfl : c1 = Value.ref a := e1
  obtain rfl : c2 = Value.ref b := e2
  obtain ⟨its1, rv1, p1, _⟩ := I1.tuple q1
  obtain ⟨its2, rv2, p2, _⟩ := I1.tuple q2
  obtain ⟨o1, ho1, _⟩ := id p1
  obtain ⟨o2, ho2, _⟩ := id p2
  refine RZ.call_zipT (show s1.heap.IsTuple a its1.toArray from p1) (show s1.heap.IsTuple b its2.toArray from p2) fun h' gz gI gO g1 g2 hsz kp => args_nil ?_
  refine call_enumZ (s := { s1 with heap := h' }) gz fun h2 he kp2 => wpAny_pyIter_enum he ?_
  have he' : IsEnum h2 (s1.heap.objs.size + 5) (s1.heap.objs.size + 4) 0 .none := by rw [← hsz]; exact he
  have I2 : L2.Inv X pins σ H1 { s1 with heap := h2 } := I1.kept (t' := s1.toks) fun c o e => kp2 c o (kp c o e)
  have ap := PySem.W.ktu_apart s1.heap.objs.size a b (Heap.lt_size ho1) (Heap.lt_size ho2)
  have T0 := turnEZ (elts := elts) (kk := kk) (tpos := tpos) (P := X.prog) (w := X.w) (K := X.K) (a := a) (b := b) .tup .tup ap (e := s1.heap.objs.size + 5) (Nat.ne_of_gt (by omega)) (Nat.ne_of_gt (by omega)) (Nat.ne_of_gt (by omega)) (Nat.ne_of_gt (by omega)) (Nat.ne_of_gt (by omega))
  refine ⟨s1.heap.objs.size + 5, [s1.heap.objs.size + 5, s1.heap.objs.size + 4, s1.heap.objs.size + 2, s1.heap.objs.size + 3, s1.heap.objs.size, s1.heap.objs.size + 1], _, _, H1, congrArg Value.ref hsz, I2, T0, ⟨⟨.none, he'⟩, ⟨.none, false, .inl rfl, kp2 _ _ gz⟩, kp2 _ _ gI, ⟨_, _, kp2 _ _ gO⟩, g1.at fun o => kp2 _ o, g2.at fun o => kp2 _ o⟩, fun c hcm => ?_, q⟩
  have le : s1.heap.objs.size ≤ c := by
    simp only [List.mem_cons, List.not_mem_nil, or_false] at hcm
    rcases hcm with z | z | z | z | z | z <;> rw [z] <;> first | exact Nat.le_add_right _ _ | exact Nat.le_refl _
  exact I1.fpOk le (I1.hok.fresh le)
section
variable [HasT]
/-- J gives the data ds, two new objects at a time -/
def DIt2 (K : PySem.W.Frag) (H1 : Hp) (J : It) (ds : List PyData) : Prop := ∀ H, Stb H1 H → (∀ i, i < ds.length → J.go i H) ∧ J.stop ds.length H ∧
  ∀ i x H' d, J.yld i H x H' → ds[i]? = some d → Rp K H' d x ∧ ∃ p o q o', H p = none ∧ (upd H p o) q = none ∧ H' = upd (upd H p o) q o'
def IW2 (X : Cx) (tg iter : Expr) (ρ : Nv) (Q : List PyData → Nv → Prop) : Prop := ∀ (σ : L2.St) (H : Hp) (R : It → Hp → Prop), NvOk X.K H σ ρ →
  (∀ J H' ds ρ', Pex X.K H ρ σ H' ρ' → DIt2 X.K H' J ds → Q ds ρ' → R J H') → tIW X tg iter σ H R
theorem dit_enumZ {K : PySem.W.Frag} {H1 : Hp} {m n : Addr} {xs ys : List V} {ds es : List PyData} (h : SqT K H1 m xs) (g : SqT K H1 n ys) (r : RpAll K H1 ds xs) (t : RpAll K H1 es ys) : DIt2 K H1 (ItEZ (fun H l => SqT K H m l) (fun H l => SqT K H n l)) (enumD (zipD ds es)) := fun H st => by
  have hm : SqT K H m xs := st.tup h
  have hn : SqT K H n ys := st.tup g
  have hl : (enumD (zipD ds es)).length = min xs.length ys.length := by rw [enumD_length]; simp [zipD, r.length, t.length]
  rw [hl]
  refine ⟨fun i hi => ⟨xs, ys, xs[i], ys[i], hm, hn, List.getElem?_eq_getElem _, List.getElem?_eq_getElem _⟩, ⟨xs, ys, hm, hn, by omega⟩, fun i x H' d ⟨T, T2, y, z, e, nn, nn2, eH, hy, hz⟩ hd => ?_⟩
  subst e
  subst eH
  obtain ⟨d0, h0, rfl⟩ := enumD_get hd
  obtain ⟨d1, d2, h1, h2, rfl⟩ := zipD_get h0
  obtain ⟨v1, hv1, rv1⟩ := r.get h1
  obtain ⟨v2, hv2, rv2⟩ := t.get h2
  rw [hy xs hm] at hv1
  rw [hz ys hn] at hv2
  cases hv1
  cases hv2
  exact ⟨pair_new nn2 (.int _) (pair_new nn (Rp.mono st _ _ rv1) (Rp.mono st _ _ rv2)), T, _, T2, _, nn, nn2, rfl⟩
variable {X : Cx} {a b tg iter : Expr} {bd : List Stmt} {ρ : Nv} {E : AEnds} {p pos p2 pos2 : Pos} {k : Nat} {is : List Nat}
theorem IW2.enumZ {elts : List Expr} {kk : Nat} {tpos : Pos} {Q : List PyData → Nv → Prop} (C : Ctx X k) (h : EWds X [a, b] ρ fun ds ρ1 => ∃ l m, ds = [.tuple l, .tuple m] ∧ Q (enumD (zipD l m)) ρ1) (hg0 : Gl X "enumerate" := by rfl) (hg : Gl X "zip" := by rfl)
    (hs0 : starEach [.Call (.Name "zip" p2) [a, b] [] pos2] X.env = (false, eval (.Call (.Name "zip" p2) [a, b] [] pos2) X.env) :: starEach [] X.env := by rfl)
    (hs : starEach [a, b] X.env = (false, eval a X.env) :: starEach [b] X.env := by rfl) (hpl : (backTo pos2 (starEach [b] X.env)).any (·.1) = false := by rfl) :
    IW2 X (.Tuple elts kk tpos) (.Call (.Name "enumerate" p) [.Call (.Name "zip" p2) [a, b] [] pos2] [] pos) ρ Q := fun σ H R Ev kk pins s I => by
  refine (pi_enumZ hg0 C.blt.enumerate hg C.blt.zip pa_W hs0 hs hpl).run pins s σ H R I (h σ H _ Ev fun vs H1 ds ρ1 P r ⟨l, m, e1, q⟩ => ?_)
  subst e1
  match r with
  | .cons (.tuple h1 r1) (.cons (.tuple h2 r2) .nil) => exact ⟨_, _, _, _, rfl, SqT.of h1, SqT.of h2, kk _ H1 _ ρ1 P (dit_enumZ (SqT.of h1) (SqT.of h2) r1 r2) q⟩
theorem S1.for2 (C : Ctx X k) (h : IW2 X tg iter ρ fun ds ρ1 => ∃ R : Nat → Nv → Prop, R 0 ρ1 ∧ (∀ i d ρ2, ds[i]? = some d → R i ρ2 → GW X tg d ρ2 is fun ρ3 => SW X bd ρ3 { E with nx := R (i + 1), ct := R (i + 1), bk := E.nx }) ∧ ∀ ρ2, R ds.length ρ2 → E.nx ρ2)
    (hp : PassesOwn (model X.prog X.w) X.A X.env X.xe) (hs : ∀ x, foldedSetIterable iter X.env x = pure x := by intro _; rfl) : S1 X (.For tg iter bd [] pos) ρ E := fun σ H D Ev k1 k2 k3 k4 pins s I => by
  refine (ps_for hp C.calm pi_W pg_W pss_W hs).run pins s σ H D I (h σ H _ Ev fun J H1 ds ρ1 P1 dj ⟨R, r0, rs, rd⟩ => ?_)
  have E1 := P1.ok
  refine ⟨fun i m σk Hk => i ≤ ds.length ∧ m = ds.length - i ∧ ∃ ρk, Pst X.K H1 ρ1 σ Hk ρk σk ∧ R i ρk, ⟨ds.length, Nat.zero_le _, rfl, ρ1, Pst.refl E1, r0⟩, fun i m σk Hk ⟨hi, hm, ρk, Pk, rk⟩ => ?_⟩
  obtain ⟨g1, g2, g3⟩ := dj Hk (Pk.stb E1)
  by_cases hl : i < ds.length
  · refine .inr ⟨g1 i hl, fun σ' H' => ∃ ρ', Pst X.K H1 ρ1 σ H' ρ' σ' ∧ R (i + 1) ρ', fun σ' H' ⟨ρ', P', r'⟩ => ⟨ds.length - (i + 1), by omega, hl, rfl, ρ', P', r'⟩, fun x H' hy => ?_⟩
    obtain ⟨rx, pp, o, qq, o', np, nq, rfl⟩ := g3 i x H' ds[i] hy (List.getElem?_eq_getElem hl)
    have PN := Pst.new (o := o) Pk.ok np
    have P' : Pst X.K H1 ρ1 σ (upd (upd Hk pp o) qq o') ρk σk := (Pk.trans PN).trans (Pst.new PN.ok nq)
    refine rs i _ ρk (List.getElem?_eq_getElem hl) rk σk _ x _ P'.ok rx fun σ2 ρ2 P2 _ _ _ q2 => ?_
    have PP := P'.trans P2
    have PA := P1.pst.trans PP
    refine q2 σ2 _ _ PP.ok (fun σ3 H3 ρ3 P3 q3 => ⟨ρ3, PP.trans P3, q3⟩) (fun v σ3 H3 x3 ρ3 P3 V3 q3 => k2 v σ3 H3 x3 ρ3 (PA.trans P3) (V3.back fun a n => PA.free n) q3) (fun σ3 H3 ρ3 P3 q3 => k1 σ3 H3 ρ3 (PA.trans P3) q3) (fun σ3 H3 ρ3 P3 q3 => ⟨ρ3, PP.trans P3, q3⟩)
  · have he : i = ds.length := Nat.le_antisymm hi (Nat.le_of_not_lt hl)
    subst he
    exact .inl ⟨g2, k1 σk Hk ρk (P1.pst.trans Pk) (rd ρk rk)⟩
theorem S1.forM2 (C : Ctx X k) (h : IW2 X tg iter ρ fun ds ρ1 => ∃ (α : Type) (xs : List α) (g : α → PyData), ds = xs.map g ∧ ∃ R : List α → Nv → Prop, R [] ρ1 ∧ (∀ pre z post ρ2, xs = pre ++ z :: post → R pre ρ2 → GW X tg (g z) ρ2 is fun ρ3 => SW X bd ρ3 { E with nx := R (pre ++ [z]), ct := R (pre ++ [z]), bk := E.nx }) ∧ ∀ ρ2, R xs ρ2 → E.nx ρ2)
    (hp : PassesOwn (model X.prog X.w) X.A X.env X.xe) (hs : ∀ x, foldedSetIterable iter X.env x = pure x := by intro _; rfl) : S1 X (.For tg iter bd [] pos) ρ E :=
  S1.for2 (is := is) C (fun σ H R Ev kk => h σ H R Ev fun J H' ds ρ' P dj ⟨α, xs, g, e, R, r0, rs, rd⟩ => kk J H' ds ρ' P dj (by
    subst e
    refine ⟨fun i ρ => R (xs.take i) ρ, r0 ,  fun i d ρ2 hd hR => ?_, fun ρ2 hR => ?_⟩
    · obtain ⟨z, hz, rfl⟩ := getElem?_map_some hd
      have hi := (List.getElem?_eq_some_iff.mp hz).1
      have e1 : xs = xs.take i ++ z :: xs.drop (i + 1) := by
        have e2 := List.take_append_drop i xs
        rw [List.drop_eq_getElem_cons hi] at e2
        have e3 : xs[i] = z := (List.getElem?_eq_some_iff.mp hz).2
        rw [e3] at e2
        exact e2.symm
      have e4 : xs.take (i + 1) = xs.take i ++ [z] := by rw [List.take_add_one, hz]; rfl
      have q := rs _ z _ ρ2 e1 hR
      rw [← e4] at q
      exact q
    · rw [List.length_map, List.take_length] at hR
      exact rd ρ2 hR)) hp hs
theorem enumZ_map {α β : Type} (l : List α) (m : List β) (g : α → PyData) (h : β → PyData) : enumD (zipD (l.map g) (m.map h)) = (l.zip m).zipIdx.map fun z => PyData.tuple [eN z.2, .tuple [g z.1.1, h z.1.2]] := by
  rw [zipD_map, enumD_map]
end
end AW

/-! AW42: own errors: raised, handed on. -/
namespace AW
variable [HasT]
open PySem PySem.Spec PyProof.Rows L2

/-- which errors: the class's name, its field, what it keeps -/
abbrev ErrP := Str → Str → PyData → Nv → Prop
def ErrAt (K : PySem.W.Frag) (mg : Str → Option Value) (Er : ErrP) (cls : Value) (dd : Option Addr) (ρ : Nv) (H : Hp) : Prop :=
  ∃ (x f : Str) (d : PyData) (C a : Addr) (v : V), Er x f d ρ ∧ mg x = some (.ref C) ∧ cls = .ref C ∧ dd = some a ∧ H a = some (.xd [(f, v)]) ∧ Rp K H d v
theorem ErrAt.imp {K : PySem.W.Frag} {mg : Str → Option Value} {Er Er' : ErrP} {cls : Value} {dd : Option Addr} {ρ ρ' : Nv} {H : Hp} (h : ErrAt K mg Er cls dd ρ H) (i : ∀ x f d, Er x f d ρ → Er' x f d ρ') : ErrAt K mg Er' cls dd ρ' H := by
  obtain ⟨x, f, d, C, a, v, e, r⟩ := h
  exact ⟨x, f, d, C, a, v, i _ _ _ e, r⟩
/-- an expression that may raise -/
def EWx (X : Cx) (e : Expr) (ρ : Nv) (Q : QE) (Er : ErrP) : Prop := ∀ (σ : L2.St) (H : Hp) (R : VK) (W : WX), Takes X W → NvOk X.K H σ ρ →
  (∀ v H' x ρ', Pex X.K H ρ σ H' ρ' → VOk X.K H H' ρ' σ x v → Q x ρ' → R v H') →
  (∀ cls dd H' ρ', Pex X.K H ρ σ H' ρ' → ErrAt X.K X.mg Er cls dd ρ' H' → W cls dd σ H') → tW X e σ H R
/-- statements that may raise -/
def SWx (X : Cx) (sts : List Stmt) (ρ : Nv) (E : AEnds) (Er : ErrP) : Prop := ∀ (σ : L2.St) (H : Hp) (D : Ends) (W : WX), Takes X W → NvOk X.K H σ ρ →
  (∀ σ' H' ρ', Pst X.K H ρ σ H' ρ' σ' → E.nx ρ' → D.nx σ' H') → (∀ v σ' H' x ρ', Pst X.K H ρ σ H' ρ' σ' → VOk X.K H H' ρ' σ' x v → E.rt x ρ' → D.rt v H') →
  (∀ σ' H' ρ', Pst X.K H ρ σ H' ρ' σ' → E.bk ρ' → D.bk σ' H') → (∀ σ' H' ρ', Pst X.K H ρ σ H' ρ' σ' → E.ct ρ' → D.ct σ' H') →
  (∀ cls dd σ' H' ρ', Pst X.K H ρ σ H' ρ' σ' → ErrAt X.K X.mg Er cls dd ρ' H' → W cls dd σ' H') → tSW X sts D σ H
section
variable {X : Cx} {st : Stmt} {sts bd : List Stmt} {e c : Expr} {es : List Expr} {ρ : Nv} {Q : QE} {E : AEnds} {Er : ErrP} {p p1 p2 pos pos' : Pos} {k : Nat}
theorem EWx.of (h : EW X e ρ Q) : EWx X e ρ Q Er := fun σ H R W tk Ev k1 k2 => h σ H R Ev k1
theorem SWx.of (h : SW X sts ρ E) : SWx X sts ρ E Er := fun σ H D W tk Ev k1 k2 k3 k4 k5 => h σ H D Ev k1 k2 k3 k4
theorem SWx.cons (h : S1 X st ρ { E with nx := fun ρ' => SWx X sts ρ' E Er }) : SWx X (st :: sts) ρ E Er := fun σ H D W tk Ev k1 k2 k3 k4 k5 pins s I => by
  refine (pss_cons ps_W pss_W).run pins s σ H D I (h σ H _ Ev (fun σ' H' ρ' P q => ?_) k2 k3 k4)
  exact q σ' H' D W tk P.ok (fun σ2 H2 ρ2 P2 q2 => k1 _ _ _ (P.trans P2) q2) (fun v σ2 H2 x ρ2 P2 V q2 => k2 v σ2 H2 x ρ2 (P.trans P2) (V.back fun a n => P.free n) q2)
    (fun σ2 H2 ρ2 P2 q2 => k3 _ _ _ (P.trans P2) q2) (fun σ2 H2 ρ2 P2 q2 => k4 _ _ _ (P.trans P2) q2) (fun cls dd σ2 H2 ρ2 P2 q2 => k5 _ _ _ _ _ (P.trans P2) q2)
theorem SWx.expr (h : EWx X e ρ (fun _ ρ1 => SWx X sts ρ1 E Er) Er) (hs : swapsWith e Option.none pos.line X.env = pure false := by rfl) : SWx X (.Expr e pos :: sts) ρ E Er := fun σ H D W tk Ev k1 k2 k3 k4 k5 pins s I => by
  refine (pss_cons (ps_expr pe_W hs) pss_W).run pins s σ H D I (h σ H _ W tk Ev (fun v H' x ρ' P V q => ?_) fun cls dd H' ρ' P er => k5 _ _ _ _ _ P.pst er)
  exact q σ H' D W tk P.ok (fun σ2 H2 ρ2 P2 q2 => k1 _ _ _ (P.pst.trans P2) q2) (fun v σ2 H2 x ρ2 P2 V q2 => k2 v σ2 H2 x ρ2 (P.pst.trans P2) (V.back fun a n => P.free n) q2)
    (fun σ2 H2 ρ2 P2 q2 => k3 _ _ _ (P.pst.trans P2) q2) (fun σ2 H2 ρ2 P2 q2 => k4 _ _ _ (P.pst.trans P2) q2) (fun cls dd σ2 H2 ρ2 P2 q2 => k5 _ _ _ _ _ (P.pst.trans P2) q2)
theorem SWx.ret (h : EWx X e ρ E.rt Er) : SWx X (.Return (some e) pos :: sts) ρ E Er := fun σ H D W tk Ev k1 k2 k3 k4 k5 pins s I => by
  refine (pss_cons (ps_ret pe_W) pss_W).run pins s σ H D I (h σ H _ W tk Ev (fun v H' x ρ' P V q => k2 v σ H' x ρ' P.pst V q) fun cls dd H' ρ' P er => k5 _ _ _ _ _ P.pst er)
theorem SWx.asg {i : Nat} {x : Str} (C : Ctx X k) (h : EWx X e ρ (fun y ρ1 => asgR i ρ1 y fun ρ2 => SWx X sts ρ2 E Er) Er) (hi : X.N[i]? = some x := by rfl) (hx : Loc X.env.scope x := by first | exact .inl rfl | exact .inr rfl) (hs : swapsWith e (some (.Name x pos')) pos.line X.env = pure false := by rfl)
    (hf : X.fn x = true ∨ X.env.scope.names.lookup x = some .local := by first | exact .inl rfl | exact .inr rfl) : SWx X (.Assign [.Name x pos'] e pos :: sts) ρ E Er := fun σ H D W tk Ev k1 k2 k3 k4 k5 pins s I => by
  refine (pss_cons (ps_set C.nd hi hx pe_W hs hf) pss_W).run pins s σ H D I (h σ H _ W tk Ev (fun v H1 y ρ1 P V q => ?_) fun cls dd H' ρ' P er => k5 _ _ _ _ _ P.pst er)
  obtain ⟨ρ', P', q⟩ := asg_run Ev P V q
  exact q _ _ D W tk P'.ok (fun σ2 H2 ρ2 P2 q2 => k1 _ _ _ (P'.trans P2) q2) (fun v σ2 H2 x ρ2 P2 V q2 => k2 v σ2 H2 x ρ2 (P'.trans P2) (V.back fun a n => P'.free n) q2)
    (fun σ2 H2 ρ2 P2 q2 => k3 _ _ _ (P'.trans P2) q2) (fun σ2 H2 ρ2 P2 q2 => k4 _ _ _ (P'.trans P2) q2) (fun cls dd σ2 H2 ρ2 P2 q2 => k5 _ _ _ _ _ (P'.trans P2) q2)
/-- if c: bd, with what follows behind both -/
theorem SWx.ite (h : TW X c ρ fun t ρ1 => if t = true then SWx X bd ρ1 { E with nx := fun ρ2 => SWx X sts ρ2 E Er } Er else SWx X sts ρ1 E Er) : SWx X (.If c bd [] pos :: sts) ρ E Er := fun σ H D W tk Ev k1 k2 k3 k4 k5 pins s I => by
  refine (pss_cons (ps_if pt_W pss_W pss_nil) pss_W).run pins s σ H D I (h σ H _ Ev fun t H1 ρ1 P q => ?_)
  cases t with
  | true =>
    have q : SWx X bd ρ1 { E with nx := fun ρ2 => SWx X sts ρ2 E Er } Er := by simpa using q
    refine if_pos rfl ▸ q σ H1 _ W tk P.ok (fun σ2 H2 ρ2 P2 q2 => ?_) (fun v σ2 H2 x ρ2 P2 V q2 => k2 v σ2 H2 x ρ2 (P.pst.trans P2) (V.back fun a n => P.free n) q2)
      (fun σ2 H2 ρ2 P2 q2 => k3 _ _ _ (P.pst.trans P2) q2) (fun σ2 H2 ρ2 P2 q2 => k4 _ _ _ (P.pst.trans P2) q2) (fun cls dd σ2 H2 ρ2 P2 q2 => k5 _ _ _ _ _ (P.pst.trans P2) q2)
    have T := P.pst.trans P2
    exact q2 σ2 H2 D W tk P2.ok (fun σ2 H2 ρ2 P2 q2 => k1 _ _ _ (T.trans P2) q2) (fun v σ2 H2 x ρ2 P2 V q2 => k2 v σ2 H2 x ρ2 (T.trans P2) (V.back fun a n => T.free n) q2)
      (fun σ2 H2 ρ2 P2 q2 => k3 _ _ _ (T.trans P2) q2) (fun σ2 H2 ρ2 P2 q2 => k4 _ _ _ (T.trans P2) q2) (fun cls dd σ2 H2 ρ2 P2 q2 => k5 _ _ _ _ _ (T.trans P2) q2)
  | false =>
    have q : SWx X sts ρ1 E Er := by simpa using q
    refine (if_neg Bool.false_ne_true).symm ▸ q σ H1 D W tk P.ok (fun σ2 H2 ρ2 P2 q2 => k1 _ _ _ (P.pst.trans P2) q2) (fun v σ2 H2 x ρ2 P2 V q2 => k2 v σ2 H2 x ρ2 (P.pst.trans P2) (V.back fun a n => P.free n) q2)
      (fun σ2 H2 ρ2 P2 q2 => k3 _ _ _ (P.pst.trans P2) q2) (fun σ2 H2 ρ2 P2 q2 => k4 _ _ _ (P.pst.trans P2) q2) (fun cls dd σ2 H2 ρ2 P2 q2 => k5 _ _ _ _ _ (P.pst.trans P2) q2)
end

/-! ### an own class of errors -/
/-- B.__init__(self, ..), B an own class without own __init__ over ValueError -/
structure BaseC (K : PySem.W.Frag) (V : Addr) : Prop where
  sp : PySem.W.specialIn K (.ref V) "__getattribute__" = some (some (.builtin "type.__getattribute__"))
  rd : PySem.W.readsIn K V (.type "type") = true
  vl : PySem.W.findCls K (.ref V) (.type "type") "__init__" = some (.val (.builtin "ValueError.__init__"))
theorem pe_baseinit {X : Cx} {V : Addr} {nm : Str} {e : Expr} {es : List Expr} {ta : TA} {p1 p2 pos : Pos} {pl : Sem Bool} (B : BaseC X.K V) (hg : Gl X nm) (hm : X.mg nm = some (.ref V)) (ha : PA X (e :: es) ta)
    (hdb : (nm == ("__debug__" : Str)) = false := by decide)
    (hc : eval (.Call (.Attribute (.Name nm p1) "__init__" p2) (e :: es) [] pos) X.env = (do
      let ov ← eval (.Name nm p1) X.env
      standAt p2.atName
      let (f, first) ← holding [ov] (getMethod ov "__init__" pl)
      callWith pos f first (backTo pos (starEach (e :: es) X.env)) (backToKw pos (keywordEach [] X.env))) := by rfl)
    (he : starEach (e :: es) X.env = (false, eval e X.env) :: starEach es X.env := by rfl) (hpl : (backTo pos (starEach es X.env)).any (·.1) = false := by rfl) :
    PE X (.Call (.Attribute (.Name nm p1) "__init__" p2) (e :: es) [] pos) (tVeI X.K ta) := ⟨fun pins s σ H Q I h => by
  refine PySem.W.methodCall_KW (ld_glob I hg hm ?_ hdb) hc
  refine PySem.W.method_cls I.kIn B.sp (PySem.W.cls_value I.kIn B.rd B.vl (by rfl) ?_)
  show wpAny _ _ (callWith pos (Value.builtin "ValueError.__init__") [] (backTo pos (starEach (e :: es) X.env)) []) _ _ _
  refine PyProof.Rows.callWith_method1 (thn (ha.run pos pins _ σ H _ (I.tok _) h) ?_) he hpl
  rintro us s1 ⟨vs, H1, I1, r1, a, C, ws, ev, hl, T, ea, q⟩
  subst ev
  cases r1 with
  | @cons _ u0 _ ur ra rw' =>
    obtain rfl : u0 = Value.ref a := ra
    refine oinit_ok T I1 ea (by rw [← Paired.length rw', sizeLine_eq]; omega) fun s' J => ⟨.non, H1, J, rfl, q⟩⟩
/-- what __init__(self, y) does: the one field -/
def spInit (K : PySem.W.Frag) (f : Str) : Sp := fun vs H Q _ => ∃ (a C : Addr) (v : V), vs = [.ref a, v] ∧ OexC K C ∧ PySem.W.findIn K (.ref C) f = some none ∧ H a = some (exo a C none) ∧
  ∀ dx, H dx = none → dx ≠ a → Q .non (upd (upd H dx (exd dx [(f, v)])) a (exo a C (some dx)))
/-- the body of such an __init__ -/
def initB (y f msg : Str) (j : Nat) (p1 p2 p3 p4 p5 p6 p7 p8 p9 p10 : Pos) : List Stmt :=
  [.Expr (.Call (.Attribute (.Name "VoteError" p1) "__init__" p2) [.Name "self" p3, .Constant (.str msg) j p4] [] p5) p6, .Assign [.Attribute (.Name "self" p7) f p8] (.Name y p9) p10]
theorem ok_init {P : Program} {w : World} {K : PySem.W.Frag} {mg : Str → Option Value} {base : Heap} {f : Addr} {qual y fld msg : Str} {j : Nat} {p1 p2 p3 p4 p5 p6 p7 p8 p9 p10 : Pos} {params : Arguments} {scope : Scope} {dV kV doc pm cdv ct oc : Value} {an od : Option Addr}
    {osl : Array (Option Value)} {V : Addr} (B : BaseC K V) (hm : mg "VoteError" = some (.ref V)) (lk : K.lookup f = some ⟨oc, od, .func (PySem.W.fnOf "__init__" qual params (initB y fld msg j p1 p2 p3 p4 p5 p6 p7 p8 p9 p10) scope dV kV doc pm an cdv ct), osl⟩) (hcd : PySem.W.codeIn K cdv qual = true)
    (S : FnScope ["self", y] ["self", y] scope) (hg : scope.names.lookup ("VoteError" : Str) = some .globalImplicit)
    (hc : ∀ env : Env, eval (.Call (.Attribute (.Name "VoteError" p1) "__init__" p2) [.Name "self" p3, .Constant (.str msg) j p4] [] p5) env = (do
      let ov ← eval (.Name "VoteError" p1) env
      standAt p2.atName
      let (f, first) ← holding [ov] (getMethod ov "__init__" (do return (← importBound (.Name "VoteError" p1) env).getD true))
      callWith p5 f first (backTo p5 (starEach [.Name "self" p3, .Constant (.str msg) j p4] env)) (backToKw p5 (keywordEach [] env)))) (vs : Vis scope "self") (vy : Vis scope y) (d2 : (y == ("__debug__" : Str)) = false) (d3 : (y == ("__classdict__" : Str)) = false) :
    FnOk P w K mg base CX0 1 f (PySem.W.fnOf "__init__" qual params (initB y fld msg j p1 p2 p3 p4 p5 p6 p7 p8 p9 p10) scope dV kV doc pm an cdv ct) ["self", y] (spInit K fld) := by
  refine fn_of lk hcd S (fun vs H Q E h => by obtain ⟨a, C, v, rfl, _⟩ := h; rfl) fun A outer s H vs' Q E hr h => ?_
  refine ⟨_, pss_cons (ps_expr (pe_baseinit B hg hm (pa_cons (pe_var (i := 0) rfl vs) (pa_cons pe_str pa_nil)) (by decide) (hc _))) (pss_one (ps_ost (pe_var (i := 0) rfl vs) (pe_var (i := 1) rfl vy d2 d3))), ?_⟩
  obtain ⟨a, C, v, rfl, T, hno, ea, q⟩ := h
  refine ⟨.ref a, rfl, a, C, [.str msg], rfl, by simp, T, ea, ?_⟩
  exact ⟨v, rfl, .ref a, rfl, a, C, rfl, T, hno, .inl ⟨ea, fun dx n ne => q dx n ne⟩⟩
/-- a class of errors with one field, known by its name -/
structure ErrC (P : Program) (w : World) (K : PySem.W.Frag) (mg : Str → Option Value) (base : Heap) (x f : Str) (C : Addr) : Prop where
  gl : mg x = some (.ref C)
  oex : OexC K C
  no : PySem.W.findIn K (.ref C) f = some none
  ini : ∃ (fI : Addr) (fd : FuncData) (ps : List Str), PySem.W.findIn K (.ref C) "__init__" = some (some (.ref fI)) ∧ PySem.W.typeIn K (.ref fI) = some (.type "function") ∧ Binds K fd ps [] ∧ FnOk P w K mg base CX0 1 fI fd ps (spInit K f)
section
variable {X : Cx} {sts : List Stmt} {e : Expr} {ρ : Nv} {E : AEnds} {Er : ErrP} {p pos pos' : Pos} {k : Nat} {x f : Str} {C : Addr}
/-- raise X(e) -/
theorem SWx.raise (EC : ErrC X.prog X.w X.K X.mg X.base x f C) (Cx : Ctx X k) (h2 : 2 ≤ k) (hg : Gl X x) (h : EWd X e ρ fun d ρ1 => Er x f d ρ1) (hdb : (x == ("__debug__" : Str)) = false := by decide)
    (he : starEach [e] X.env = (false, eval e X.env) :: starEach [] X.env := by rfl) : SWx X (.Raise (some (.Call (.Name x p) [e] [] pos)) none pos' :: sts) ρ E Er := fun σ H D W tk Ev k1 k2 k3 k4 k5 pins s I => by
  obtain ⟨fI, fd, ps, i1, i2, hb, F⟩ := EC.ini
  refine (pss_cons (ps_raise Cx.calm tk (pmk_oex EC.oex i1 i2 F (Cx.room.mono h2) hb .nil pass0 hg EC.gl (pa_cons pe_W pa_nil he) hdb he rfl)) pss_W).run pins s σ H D I ?_
  refine EWd.run h Ev fun v H1 d ρ1 P1 r1 er => ?_
  refine ⟨by simp, fun a na => ⟨a, C, v, rfl, EC.oex, EC.no, upd_same, fun dx ndx nda => ?_⟩⟩
  have nd : H1 dx = none := by rw [upd_ne nda] at ndx; exact ndx
  refine ⟨rfl, dx, [(f, v)], upd_same, by rw [upd_ne nda, upd_same], nd, ?_⟩
  have eh : upd (del (upd (upd (upd H1 a (exo a C none)) dx (exd dx [(f, v)])) a (exo a C (some dx))) a) dx (.xd [(f, v)]) = upd H1 dx (.xd [(f, v)]) := by
    funext b
    by_cases hb : b = dx
    · subst hb; rw [upd_same, upd_same]
    · rw [upd_ne hb, upd_ne hb]
      by_cases ha : b = a
      · subst ha; rw [del_same, na]
      · rw [del_ne ha, upd_ne ha, upd_ne hb, upd_ne ha]
  rw [eh]
  have PN := P1.trans (Pex.new (o := .xd [(f, v)]) P1.ok nd)
  exact k5 _ _ _ _ _ PN.pst ⟨x, f, d, C, dx, v, er, EC.gl, rfl, rfl, upd_same, Rp.mono ((Pex.new (o := .xd [(f, v)]) P1.ok nd).stb P1.ok) _ _ r1⟩
end

/-! ### promises with errors -/
abbrev ASx := List SV → (AV → List SV → Prop) → ErrP → Prop
def toSx (K : PySem.W.Frag) (mg : Str → Option Value) (A : ASx) : Sp := fun vs H Q E => ∃ (as : List SV) (R : AV → List SV → Prop) (Er : ErrP), NvOk K H (vs.map some) as ∧ Pinned as ∧ A as R Er ∧
  (∀ x as' v H', R x as' → Pex K H as (vs.map some) H' as' → VOk K H H' as' (vs.map some) x v → notOwn x → Q v H') ∧
  ∀ cls dd as' H', Pex K H as (vs.map some) H' as' → ErrAt K mg Er cls dd as' H' → E cls dd H'
structure CalX (P : Program) (w : World) (K : PySem.W.Frag) (mg : Str → Option Value) (base : Heap) (k : Nat) (x : Str) (A : ASx) : Prop where
  ex : ∃ (f : Addr) (fd : FuncData) (ps : List Str), FnG P w K mg base (L2.CX P w) k f fd ps (toSx K mg A) ∧ mg x = some (.ref f) ∧ PySem.W.keepIn K (.ref f) = true ∧ Binds K fd ps []
theorem fnAx {P : Program} {w : World} {K : PySem.W.Frag} {mg : Str → Option Value} {base : Heap} {k : Nat} {f : Addr} {x qual : Str} {st : Stmt} {fd : FuncData} {N ps : List Str} {A : ASx} (F : Fun K x qual st f fd) (S : FnScope N ps (defScope st)) (hN : ps.length ≤ N.length) (hB : Blt mg)
    (len : ∀ as R Er, A as R Er → as.length = ps.length)
    (hbody : ∀ (cdv : Value) (B : Around) (outer : List Env) (s : Shared) (H : Hp) (E : XK), Ctx (cxOf (L2.CX P w) P w K mg base N qual (defScope st) f cdv B outer s H E) k → ∀ as R Er, A as R Er →
      SWx (cxOf (L2.CX P w) P w K mg base N qual (defScope st) f cdv B outer s H E) (defBody st) (as ++ List.replicate (N.length - as.length) .un) (ends as R) (fun x f d ρ' => Er x f d (fin as ρ'))) : FnG P w K mg base (L2.CX P w) (k + 1) f fd ps (toSx K mg A) := by
  refine fnG F S (fun vs H Q E h => ?_) fun cdv hcd B outer s H vs Q E g hr hsp => ?_
  · obtain ⟨as, R, Er, h1, _, h3, _⟩ := h
    have l := h1.len
    rw [List.length_map] at l
    rw [← l]
    exact len as R Er h3
  · obtain ⟨as, R, Er, h1, hp, h3, q, qe⟩ := hsp
    have hl : as.length ≤ N.length := by rw [len as R Er h3]; exact hN
    refine hbody cdv B outer s H E ⟨hB, hr, g, rfl, S.nd⟩ as R Er h3 (L2.start N vs) H _ (fun cls d _ H' => E cls d H') (takes_of rfl rfl rfl rfl) (nv_start h1 hl) (fun σ' H' ρ' P z => ?_) (fun v σ' H' y ρ' P V z => ?_) (fun _ _ _ _ z => z.elim) (fun _ _ _ _ z => z.elim) (fun cls dd σ' H' ρ' P er => ?_)
    · exact q _ _ _ _ z (pex_fin h1 hp hl P) .none trivial
    · have PF := pex_fin h1 hp hl P
      cases y with
      | dat d => exact q _ _ _ _ z PF V trivial
      | frs ds => exact q _ _ _ _ z PF V trivial
      | own i =>
        obtain ⟨ds, h2, z⟩ := z
        obtain ⟨a, ws, e1, e2, r⟩ := P.ok.hol h2
        obtain ⟨_, e3⟩ := V
        rw [e1] at e3
        cases e3
        refine q _ _ _ _ z PF ⟨a, ws, rfl, ?_, e2, r⟩ trivial
        rcases P.mn a ⟨i, _, h2, trivial, e1⟩ with m | m
        · exfalso
          obtain ⟨j, s, g1, o1, g2⟩ := mine_start h1 m
          obtain ⟨es, rfl⟩ := hp j s g1 o1
          obtain ⟨⟨fs, z1⟩, z2⟩ := P.pn j es (by rw [List.getElem?_append_left (get_lt g1)]; exact g1)
          have hj : j ≠ i := fun e => by rw [e, h2] at z1; cases z1
          refine P.ok.sep j i a _ _ hj z1 h2 trivial trivial (z2.trans ?_) e1
          have l : as.length = vs.length := by simpa using h1.len
          unfold L2.start
          rw [List.getElem?_append_left (by simpa using l ▸ get_lt g1)]
          exact g2
        · exact m
    · exact qe _ _ _ _ (pex_fin h1 hp hl P) (er.imp fun _ _ _ z => z)
section
variable {X : Cx} {k : Nat} {x : Str} {A : ASx} {p pos : Pos} {e : Expr} {es : List Expr} {ρ : Nv} {Q : QE} {Er : ErrP}
theorem EWx.call (c : CalX X.prog X.w X.K X.mg X.base k x A) (C : Ctx X k) (hg : Gl X x) (h : EWgs X (e :: es) ρ fun gs ρ1 => (owns gs).Nodup ∧ A (svs ρ1 gs) (fun y as' => Q y (bck ρ1 gs as')) fun x f d as' => Er x f d (bck ρ1 gs as'))
    (hdb : (x == ("__debug__" : Str)) = false := by decide) (he : starEach (e :: es) X.env = (false, eval e X.env) :: starEach es X.env := by rfl) (hpl : (backTo pos (starEach es X.env)).any (·.1) = false := by rfl) :
    EWx X (.Call (.Name x p) (e :: es) [] pos) ρ Q Er := fun σ H R W tk Ev k1 k2 pins s I => by
  obtain ⟨f, fd, ps, F, hm, hk, hb⟩ := c.ex
  refine wpAny_Call_Name_kw (ld_glob I hg hm ?_ hdb)
  refine PySem.W.callWith_K (h₀ := X.base) I.ok.mod.kin hk (thn (pa_W.run pos pins s σ H _ I (h σ H (fun vs H1 => ∃ gs ρ1, Pex X.K H ρ σ H1 ρ1 ∧ GsOk X.K H1 ρ1 σ gs vs ∧ (owns gs).Nodup ∧ A (svs ρ1 gs) (fun y as' => Q y (bck ρ1 gs as')) fun x f d as' => Er x f d (bck ρ1 gs as')) Ev fun vs H1 gs ρ1 P1 G1 q => ⟨gs, ρ1, P1, G1, q⟩)) ?_) he hpl
  rintro us s1 ⟨vs, H1, I1, r, gs, ρ1, P1, G1, n, q⟩
  refine ⟨I1.kIn, ?_⟩
  have sp : toSx X.K X.mg A vs H1 R (fun cls dd H' => W cls dd σ H') := by
    refine ⟨svs ρ1 gs, _, _, G1.nv P1.ok n, fun i s h o => svs_owns h o, q, fun y as' v H' q2 P2 V2 no => ?_, fun cls dd as' H' P2 er => ?_⟩
    · exact k1 v H' y _ (P1.trans (G1.pex P1.ok n P2)) (no.vok (fun a z => P1.free z) V2) q2
    · exact k2 cls dd H' _ (P1.trans (G1.pex P1.ok n P2)) (er.imp fun _ _ _ z => z)
  have hl : (us ++ []).length = ps.length := by rw [List.append_nil, ← r.length]; exact F.len _ _ _ _ sp
  have bt := hb s1 us I1.kIn hl
  rw [List.append_nil] at bt
  refine wpAny_call (codeAny_mono (F.run _ _ s1 H1 ⟨us, []⟩ us vs R _ C.grd C.room I1.env0 bt r sp) fun r s' hq => ?_)
  match r, hq with
  | .error e, hq => exact tk e s' (XE.of_call I1 (fun _ _ _ z => z) hq)
  | .ok (.ret u), hq => exact I1.after hq
  | .ok .next, hq => exact False.elim hq
  | .ok .brk, hq => exact False.elim hq
  | .ok .cont, hq => exact False.elim hq
end
end AW

/-! AW43: a caught error that is kept behind its suite. -/
namespace AW
open PySem PySem.Spec PyProof.Rows L2
/-- the caught error at a: its class, its dict -/
def KeO (cls : Value) (dd : Option Addr) (a : Addr) : HO := .ext fun h => ∃ (o : Obj) (vs : Array Value), h.get? a = some o ∧ Zc cls dd o ∧ o.data = .fields vs
section
variable {X : Cx} {pins : List (Addr × Obj)} {σ : L2.St} {H : Hp} {s : Shared} {a : Addr} {cls : Value} {dd : Option Addr}
theorem keO_at (I : L2.Inv X pins σ H s) (e : H a = some (KeO cls dd a)) : ∃ (o : Obj) (vs : Array Value), s.heap.get? a = some o ∧ Zc cls dd o ∧ o.data = .fields vs := (I.hok a _ e).1
theorem keepX {o : Obj} {vs : Array Value} (I : L2.Inv X pins σ H s) (e : s.heap.get? a = some o) (z : Zc cls dd o) (hd : o.data = .fields vs) (na : H a = none) (nL : a ≠ X.env.locals) (n0 : ∀ b u, X.s_0.heap.get? b = some u → b ≠ a) (np : ∀ p ∈ X.pn ++ pins, p.1 ≠ a) :
    L2.Inv X pins σ (upd H a (KeO cls dd a)) s := by
  have st : ∀ {b : Addr} {u : HO}, H b = some u → upd H a (KeO cls dd a) b = some u := fun {b u} q => by rw [upd_ne (ne_of_none q na)]; exact q
  refine ⟨I.ok, I.os, I.bare, ⟨I.base.keep, I.base.slot, fun b u q n hx => ?_, I.base.there, fun b xs q => st (I.base.tups b xs q), fun b u xs q => st (I.base.frzs b u xs q), fun b ps q => ?_⟩, I.loc, I.cell, ?_, fun y c q => ?_, fun p hp => ?_, fun b u q => ?_, I.len⟩
  · rw [upd_ne (n0 b u q)]
    exact I.base.free b u q n hx
  · obtain ⟨more, z⟩ := I.base.tbls b ps q
    exact ⟨more, st z⟩
  · rw [upd_ne nL.symm]
    exact I.free
  · rw [upd_ne (fun z => ?_)]
    · exact I.freeC y c q
    · subst z
      obtain ⟨w, oc, ho, hdc⟩ := I.cell y c q
      rw [e] at ho
      cases ho
      rw [hd] at hdc
      cases hdc
  · obtain ⟨p1, p2, p3, p4, p5⟩ := I.pin p hp
    exact ⟨p1, by rw [upd_ne (np p hp)]; exact p2, p3, p4, p5⟩
  · by_cases hb : b = a
    · subst hb
      rw [upd_same] at q
      cases q
      exact ⟨⟨o, vs, e, z, hd⟩, ⟨o, e⟩, fun _ _ ⟨o2, v2, q2, r2⟩ k => ⟨o2, v2, k o2 q2, r2⟩⟩
    · rw [upd_ne hb] at q
      exact (I.hok b u q).stay (fun _ _ _ y => y) (fun _ y => st y) fun _ _ y => st y
end

/-- what the clause wants: its suite, then what follows, the error known -/
def wKeep (K : PySem.W.Frag) (c : Value) (i : Nat) (ts : Addr → TS) (D : Ends) : WX := fun cls dd σ H => PySem.W.exmOne K cls c = some true ∧
  ∀ a, H a = none → ts a { nx := fun σ' H' => D.nx (σ'.set i none) (upd H' a (KeO cls dd a)), rt := fun _ _ => False } (σ.set i (some (.ref a))) H
section
variable {X : Cx} {x n : Str} {c : Value} {i : Nat} {body sts : List Stmt} {st : Stmt} {np p q : Pos} {tb : WX → TS} {ts : Addr → TS}
theorem ps_try_keep (e1 : X.stack = X.env :: X.outer) (e2 : X.env.frame = some X.env.locals) (e3 : X.ex = []) (nd : X.N.Nodup) (hi : X.N[i]? = some n) (lc : X.env.kindOf n = some .local) (nm : Names X x c)
    (hb : ∀ (W : WX) (pn : List (Addr × Obj)) (xe : Value → Shared → Prop), Takes (X.tr pn xe) W → PSs (X.tr pn xe) body (tb W))
    (hq : ∀ (a : Addr) (pn : List (Addr × Obj)), PSs (X.suite a pn) (st :: sts) (ts a)) :
    PS X (.Try body [.ExceptHandler (some (.Name x np)) (some n) (st :: sts) q] [] [] p) (fun D σ H => tb (wKeep X.K c i ts D) D σ H) := by
  refine ⟨fun pins s σ H D I h => ?_⟩
  have ok := I.ok
  have fr : X.A.frames = some (X.env :: X.outer) := e1 ▸ ok.frames
  have own : Loc X.env.scope n := .inl lc
  have body_ := (hb (wKeep X.K c i ts D) (X.pn ++ pins) (fun e t1 => wpAny (model X.prog X.w) X.A (noteFrame e X.env) (fun _ t2 => wpAny (model X.prog X.w) X.A (setFlight e none) (fun _ t3 =>
    wpAny (model X.prog X.w) X.A (handleBy e X.env [.ExceptHandler (some (.Name x np)) (some n) (st :: sts) q]) (SP X pins D) X.xe t3) X.xe t2) X.xe t1) ?caught).run [] s σ H D (I.toTry _) h
  case caught =>
    rintro u s' ⟨a, B, sI, pins', σ', H', cls, dd, rfl, J', nb, up, sky, na, os, ag, hex, hsuite⟩
    have J : L2.Inv X pins σ' H' sI := J'.ofTry ok
    have sky2 : Sky B (X.env :: X.outer) a (Zc cls dd) X.env.locals s'.heap := e1 ▸ sky
    show wpAny (model X.prog X.w) X.A (noteFrame (.ref a) X.env) _ _ _
    refine Sky.land Zc.steady fr e2 sky2 fun g1 fly1 up1 => ?_
    have J1 : L2.Inv X pins σ' H' { s' with heap := g1 } := J.landed nb fly1.1 (up.trans up1) os ag
    obtain ⟨o1, vs1, at1, zc1, dt1⟩ := fly1.there
    have off : a ∉ frs (X.env :: X.outer) := fun hm => by
      obtain ⟨_, o', q', hn⟩ := fly1.2.2.1.mem hm
      rw [at1] at q'
      cases q'
      exact hn _ dt1
    have nL : a ≠ X.env.locals := fun z => off (List.mem_filterMap.mpr ⟨X.env, List.mem_cons_self, by rw [e2, z]⟩)
    have nF : a ∉ X.fs := fun hm => by
      obtain ⟨e, he, y⟩ := List.mem_filterMap.mp hm
      exact off (List.mem_filterMap.mpr ⟨e, List.mem_cons_of_mem _ he, y⟩)
    -- what stood ahead of the error is not the error
    have old : ∀ b u, sI.heap.get? b = some u → b ≠ a := fun b u y z => by
      subst z
      have y2 := nb b u y (by rw [e1]; exact off)
      rw [fly1.2.1] at y2
      cases y2
    have n0 : ∀ b u, X.s_0.heap.get? b = some u → b ≠ a := fun b u y => by
      obtain ⟨u', y'⟩ := J.base.there b u y (by rw [e3]; exact fun z => nomatch z)
      exact old b u' y'
    have npn : ∀ t ∈ X.pn ++ pins, t.1 ≠ a := fun t ht => old _ _ (J.pin t ht).1
    have S1 := J1.suite at1 dt1 na nL nF
    refine wpAny_handleBy_cons (codeAny_handlers_test ?_) (by intro y; cases y)
    have ty : PySem.W.Looks (model X.prog X.w) g1 (typeOf (.ref a)) cls := fun A Q E s k y => wpAny_typeOf_ref (k _ _ at1) (by rw [zc1.1]; exact y)
    have mt := PySem.W.exm_one (M := model X.prog X.w) (J1.kIn) ty hex
    have cl : ∀ {Q : Value → Shared → Prop} {E : Value → Shared → Prop}, Q c { s' with heap := g1 } → wpAny (model X.prog X.w) (X.A.mark (some (.ref a))) (eval (.Name x np) X.env) Q E { s' with heap := g1 } := fun {Q E} y => by
      obtain ⟨hg, hdbg, hm | ⟨hm, hv, hnn⟩⟩ := nm
      · exact ld_glob (X := X.suite a ((a, o1) :: (X.pn ++ pins))) S1 hg hm y hdbg
      · exact ld_blt (X := X.suite a ((a, o1) :: (X.pn ++ pins))) S1 hg hm hv y hnn hdbg
    refine cl (mt.here (codeAny_handlers_suite_as ?_))
    refine HandSPX.lands_againZ fly1 fun g2 fly2 up2 => ?_
    have J2 : L2.Inv X pins σ' H' { s' with heap := g2 } := J.landed nb fly2.1 ((up.trans up1).trans up2) os ag
    obtain ⟨o2, vs2, at2, zc2, dt2⟩ := fly2.there
    have S2 := J2.suite at2 dt2 na nL nF
    refine store_ok (X := X.suite a ((a, o2) :: (X.pn ++ pins))) (v := .ref a) S2 nd hi own rfl (fun t5 S5 => ?_) (.inr lc)
    refine wpAny_mono ((hq a ((a, o2) :: (X.pn ++ pins))).run [] t5 _ H' _ S5 (hsuite a na)) (fun f t6 hsp => ?_) (fun _ _ z => False.elim z)
    match f, hsp with
    | .next, ⟨σ6, H6, S6, q6⟩ =>
      obtain ⟨at6, na6, _⟩ := S6.pin (a, o2) (List.mem_append_left _ List.mem_cons_self)
      exact gone_ok (keepX (S6.unsuite ok) at6 zc2 dt2 na6 nL n0 npn) nd hi lc fun t7 J7 => ⟨_, _, J7, q6⟩
    | .brk, ⟨_, _, _, z⟩ => exact z.elim
    | .cont, ⟨_, _, _, z⟩ => exact z.elim
    | .ret _, ⟨_, _, _, _, _, z⟩ => exact z.elim
  refine wpAny_Try_except (wpAny_mono body_ (fun f t1 hsp => ?_) fun e t1 he => he)
  match f, hsp with
  | .next, ⟨σ', H', J', y⟩ => exact wpAny_execs_nil ⟨σ', H', J'.ofTry ok, y⟩
  | .brk, ⟨σ', H', J', y⟩ => exact ⟨σ', H', J'.ofTry ok, y⟩
  | .cont, ⟨σ', H', J', y⟩ => exact ⟨σ', H', J'.ofTry ok, y⟩
  | .ret u, ⟨v, σ', H', J', r, y⟩ => exact ⟨v, σ', H', J'.ofTry ok, r, y⟩
end

/-! ### what is asked of it -/
section
variable {X : Cx} {D : Addr}
theorem keO_inst {pins : List (Addr × Obj)} {σ : L2.St} {H : Hp} {s : Shared} {a dx : Addr} {fs : List (Str × L2.V)} (I : L2.Inv X pins σ H s) (e : H a = some (KeO (.ref D) (some dx) a)) (ed : H dx = some (.xd fs)) :
    ∃ (o od : Obj) (mA : Str → Option Value), PySem.W.InstAt s.heap a o D (some od) ∧ (∀ f, RelO (fs.lookup f) (mA f)) ∧ ∀ f, PySem.W.lookIn f od = some (mA f) := by
  obtain ⟨o, vs, ho, hz, hd⟩ := keO_at I e
  have hx : ObjOk X.prog X.w H s.heap dx (.xd fs) := I.hok dx _ ed
  obtain ⟨mA, hns, hr⟩ := hx
  obtain ⟨od, hod, hl⟩ := lookIn_ns hns
  exact ⟨o, od, mA, ⟨ho, hz.1, by unfold PySem.W.notCls; rw [hd] <;> rfl, by rw [hz.2]; exact hod⟩, hr, hl⟩
/-- isinstance(err, C), C a class -/
def rKe (K : PySem.W.Frag) : List L2.V → Hp → VK → Prop := fun xs H Q => ∃ (D a dx : Addr) (fs : List (Str × L2.V)) (c : L2.V) (u : Value) (b : Bool), ExcC K D ∧ xs = [.ref a, c] ∧ ClsV c u ∧ H a = some (KeO (.ref D) (some dx) a) ∧ H dx = some (.xd fs) ∧ PySem.W.kitOne K (.ref D) u = some b ∧ Q (.bl b) H
theorem call_ke : CallR X (.builtin "isinstance") (rKe X.K) := fun pins s σ H xs us Q I r h => by
  obtain ⟨D, a, dx, fs, c, u, b, C, rfl, hc, ea, ed, e, y⟩ := h
  obtain ⟨o, od, mA, J, _, _⟩ := keO_inst I ea ed
  obtain ⟨cd, hcl, _⟩ := PySem.W.any_some C.hd
  cases r with
  | cons rx rr =>
    cases rr with
    | cons rt rr =>
      cases rr
      cases rx
      have eu := hc.eq rt
      subst eu
      exact PySem.W.kia_one (PySem.W.kitx_exc (by rw [hcl]; rfl) C.hg C.hk C.hs C.ha C.hn C.ht C.hm) I.kIn J e (fun z => nomatch z) fun tk => ⟨.bl b, H, I.kept (t' := tk) fun _ _ z => z, rfl, y⟩
/-- isinstance(err, (C, ..)) -/
def rKeT (K : PySem.W.Frag) : List L2.V → Hp → VK → Prop := fun xs H Q => ∃ (D a dx tp : Addr) (fs : List (Str × L2.V)) (cs : List L2.V) (us : List Value) (b : Bool), ExcC K D ∧ xs = [.ref a, .ref tp] ∧ H tp = some (.tup cs) ∧ Paired ClsV cs us ∧ H a = some (KeO (.ref D) (some dx) a) ∧ H dx = some (.xd fs) ∧
  PySem.W.kitAny K (.ref D) us = some b ∧ Q (.bl b) H
theorem call_keT : CallR X (.builtin "isinstance") (rKeT X.K) := fun pins s σ H xs us Q I r h => by
  obtain ⟨D, a, dx, tp, fs, cs, us', b, C, rfl, et, hc, ea, ed, e, y⟩ := h
  obtain ⟨o, od, mA, J, _, _⟩ := keO_inst I ea ed
  obtain ⟨cd, hcl, _⟩ := PySem.W.any_some C.hd
  obtain ⟨its, rv, ⟨⟨k1, k2, k3, k4⟩, ho, hcls, nn, hdd⟩, _⟩ := I.tuple (.inl (.inl et))
  simp only at hcls hdd
  subst hcls hdd
  have eu := ClsV.all hc rv
  subst eu
  cases r with
  | cons rx rr =>
    cases rr with
    | cons rt rr =>
      cases rr
      cases rx
      cases rt
      exact PySem.W.kia_tup (PySem.W.kitx_exc (by rw [hcl]; rfl) C.hg C.hk C.hs C.ha C.hn C.ht C.hm) I.kIn J ho e (fun z => nomatch z) fun tk => ⟨.bl b, H, I.kept (t' := tk) fun _ _ z => z, rfl, y⟩
/-- err.f -/
def tKeF (K : PySem.W.Frag) (f : Str) (te : TE) : TE := fun σ H Q => te σ H fun x H1 => ∃ (D a dx : Addr) (fs : List (Str × L2.V)) (v : L2.V), XfC K D ∧ PySem.W.findIn K (.ref D) f = some none ∧ x = .ref a ∧ H1 a = some (KeO (.ref D) (some dx) a) ∧ H1 dx = some (.xd fs) ∧ fs.lookup f = some v ∧ Q v H1
theorem pe_keF {e : Expr} {te : TE} {pos : Pos} {f : Str} (he : PE X e te) (hb : attributeBase e f X.env (eval e X.env) = eval e X.env := by rfl) : PE X (.Attribute e f pos) (tKeF X.K f te) := ⟨fun pins s σ H Q I h => by
  refine attr_of hb (thn (he.run pins s σ H _ I h) ?_)
  rintro u s1 ⟨x, H1, I1, rx, D, a, dx, fs, v, T, hno, rfl, ea, ed, l, y⟩
  obtain rfl : u = Value.ref a := rx
  obtain ⟨o, od, mA, J, hr, hl⟩ := keO_inst I1 ea ed
  obtain ⟨u, hu, ru⟩ := RelO.some_of (v := v) (o := mA f) (by rw [← l]; exact hr f)
  exact HandSPX.exc_get I1.kIn J T.ga T.gg T.exC (PySem.W.findObj_own T.hdC hno rfl (by rw [hl, hu])) (handed_of ru) ⟨v, H1, I1.tok _, ru, y⟩⟩
/-- l.count(y) -/
def rCnt (K : PySem.W.Frag) : L2.V → List L2.V → Hp → VK → Prop := fun x xs H Q => ∃ (a : Addr) (ys : List L2.V) (y : L2.V), x = .ref a ∧ xs = [y] ∧ SqL K H a ys ∧ flatV y = true ∧ ys.all flatV = true ∧ Q (.int (ys.countP (eqV · y) : Nat)) H
theorem countU {y : L2.V} : ∀ {ys : List L2.V} {us : List Value}, Vals ys us → ys.all flatV = true → us.countP (eqU y) = ys.countP (eqV · y)
  | _, _, .nil, _ => rfl
  | z :: zs, u :: us, .cons r t, f => by
    rw [List.all_cons, Bool.and_eq_true] at f
    rw [List.countP_cons, List.countP_cons, countU t f.2, eqU_of r f.1]
theorem mt_count : MtR X "list.count" (rCnt X.K) := fun pins s σ H x xs v us Q I rx rxs h => by
  obtain ⟨a, ys, y, rfl, rfl, hs, fy, fys, q⟩ := h
  cases rx
  cases rxs with
  | cons ry rt =>
    rename_i uy ut
    cases rt
    obtain ⟨its, rv, ⟨⟨k1, k2, k3, k4⟩, n, ho, hc, hdn, hd⟩, hlen⟩ := I.list hs
    simp only at hc hd
    subst hc hd
    refine call_meets PySem.F.slot_list_count ⟨_, ho, rfl⟩ PySem.F.entry_list_count (PySem.F.args_list_count_2 _ _) (SeqAt.list_countAt a its.toArray n k2 k4 uy (eqU y)) ⟨ho, fun u hu => mem_eqAt ry fy rv fys u (by simpa using hu), ?_⟩
    exact ⟨.int (ys.countP (eqV · y) : Nat), H, I.tok _, ⟨_, by rw [← countU rv fys]⟩, q⟩
end
end AW

/-! AW44: a lambda handed to a def that calls it within a try. -/
namespace AW
variable [HasT]
open PySem PySem.Spec PyProof.Rows L2
def Kept (H H' : Hp) : Prop := ∀ b o, H b = some o → H' b = some o
section
variable {X : Cx} {pins : List (Addr × Obj)} {σ : L2.St} {H : Hp} {s : Shared}
/-- as lam_new, with what is known of the function's own object -/
theorem lam_new2 {c P : Addr} {params : Arguments} {body : Expr} {scope : Scope} {lp : Pos} {E Q : Value → Shared → Prop} (I : L2.Inv X pins σ H s) (TB : LamX.TabB X.base X.mg c P) (at_c : X.env.code = .ref c) (T : LamX.TabS H P (X.env.qual ++ "<lambda>")) (nodef : defaultsOf params X.env = ([], []))
    (caps : ∀ y ∈ scope.names, y.2 = .free → ∃ c, X.env.cells.lookup y.1 = some c)
    (h : ∀ (f c' : Addr) (pm ctv : Value) (H1 : Hp) (s' : Shared), L2.Inv X pins σ H1 s' → Grw H P (X.env.qual ++ "<lambda>") H1 → LamX.TabS H1 P (X.env.qual ++ "<lambda>") →
      s'.heap.get? f = some (PySem.W.kla_obj "<lambda>" (X.env.qual ++ "<lambda>") params body scope (cloFrom X.env.cells scope.names []) pm c' ctv) → H1 c' = some (LamX.CodeO c' (X.env.qual ++ "<lambda>")) → H1 f = none → f ∉ frs X.stack → Q (.ref f) s') :
    wpAny (model X.prog X.w) X.A (eval (.Lambda params body scope lp) X.env) Q E s := by
  obtain ⟨ps, hP, trip, known⟩ := T
  have obP : s.heap.get? P = some { cls := .none, data := .fields ps } := I.hok P _ hP
  have bmP := TB.bm.keeps I.bk
  have gl := I.mod.glob.keeps I.bk
  have offF : ∀ f : Addr, s.heap.objs.size ≤ f → f ∉ frs X.stack := fun f le z => by
    rcases List.mem_cons.mp (I.stkSub _ z) with y | y
    · have l0 := I.lt
      rw [← y] at l0
      exact absurd (Nat.lt_of_lt_of_le l0 le) (Nat.lt_irrefl _)
    · exact I.nofs le y
  refine PySem.W.kla_eval nodef ?_
  cases found : codeAmong lp ps.toList with
  | some cv =>
    obtain ⟨c', rfl, hco⟩ := known lp cv found
    refine PySem.W.kla_makeFunctionHit (mg := X.mg) (c := c) (P := P) (ps := ps) (closure_ok caps) I.ok.glob gl at_c (TB.code.keeps I.bk) obP trip found bmP fun ctv g tk up le => ?_
    refine h g.objs.size c' ((X.mg "__name__").getD .none) ctv H _ (I.kept fun b o e => Heap.get?_push_of_some _ (up b o e)) (.inl rfl) ⟨ps, hP, trip, known⟩ (Heap.get?_push_size _ rfl) hco (I.hok.fresh le) (offF _ le)
  | none =>
    refine PySem.W.kla_makeFunction (mg := X.mg) (c := c) (P := P) (ps := ps) (closure_ok caps) I.ok.glob gl at_c (TB.code.keeps I.bk) obP trip found TB.gP bmP fun c' ctv g tk up ge lt rec tab => ?_
    obtain ⟨c2, oc, vs, t, e2, hoc, hd, hv⟩ := rec
    cases e2
    have free : H c' = none := I.hok.fresh ge
    have ne : P ≠ c' := ne_of_none hP free
    have le : s.heap.objs.size ≤ g.objs.size := Nat.le_trans ge (Nat.le_of_lt lt)
    have J := LamX.inv_table (t' := tk) (more := #[rawInt lp.line, rawInt lp.col, .ref c']) (h' := g.push (PySem.W.kla_obj "<lambda>" (X.env.qual ++ "<lambda>") params body scope (cloFrom X.env.cells scope.names []) ((X.mg "__name__").getD .none) c' ctv)) I hP
      (fun b o hb e => Heap.get?_push_of_some _ (up b o hb e)) (Heap.get?_push_of_some _ tab) ge ⟨oc, vs, t, Heap.get?_push_of_some _ hoc, hd, hv⟩
    have eL : (ps ++ #[rawInt lp.line, rawInt lp.col, .ref c']).toList = ps.toList ++ [rawInt lp.line, rawInt lp.col, .ref c'] := by simp
    refine h g.objs.size c' ((X.mg "__name__").getD .none) ctv _ _ J (.inr ⟨_, c', free, fun z => ne z.symm, rfl⟩) ⟨_, by rw [upd_ne ne, upd_same], by rw [eL]; exact PySem.TriplesOk_snoc _ _ _ _ trip, fun pos cv hcv => ?_⟩ (Heap.get?_push_size _ rfl) upd_same ?_ (offF _ le)
    · rw [eL] at hcv
      rcases LamX.among_app _ trip hcv with z | z
      · obtain ⟨c0, e1, e2⟩ := known pos cv z
        refine ⟨c0, e1, ?_⟩
        rw [upd_ne (ne_of_none e2 free), upd_ne (fun y => by rw [y, hP] at e2; unfold LamX.CodeO at e2; cases e2)]
        exact e2
      · exact ⟨c', z, upd_same⟩
    · have lP := Heap.lt_size obP
      rw [upd_ne (Nat.ne_of_gt lt), upd_ne (Nat.ne_of_gt (Nat.lt_of_lt_of_le lP le))]
      exact I.hok.fresh le
/-- the lambda is called by the def that was given it -/
theorem act_ok {Ng : List Str} {qg : Str} {sg : Scope} {g f c' : Addr} {cdg pm ctv : Value} {params : Arguments} {body : Expr} {scope : Scope} {k : Nat} {a : Str} {pn : List (Addr × Obj)} {xe : Value → Shared → Prop} {W : WX} {Eg : XK} {tb : XK → TE} {p1 p2 : Pos}
    (I : L2.Inv X pins σ H s) (L : LamX.LamS X.env.scope scope) (hf : s.heap.get? f = some (PySem.W.kla_obj "<lambda>" (X.env.qual ++ "<lambda>") params body scope (cloFrom X.env.cells scope.names []) pm c' ctv)) (fn : H f = none) (fo : f ∉ frs X.stack)
    (nopar : bindArgs (PySem.W.kla_fn "<lambda>" (X.env.qual ++ "<lambda>") params body scope (cloFrom X.env.cells scope.names []) pm (.ref c') ctv) ⟨[], []⟩ = pure [])
    (tk : Takes ((cxOf CX0 X.prog X.w X.K X.mg X.base Ng qg sg g cdg X.A X.stack s H Eg).tr pn xe) W) (hr : Room (k + 1) (X.A.deeper (envOfC qg sg s.heap.objs.size g cdg))) (gr : X.A.guards = some [])
    (hbody : ∀ (E : XK) (B : Around) (out : List Env) (t : Shared) (G : Hp), B.guards = some [] → Room k (B.deeper (LamX.lamEnv X scope t.heap.objs.size f c')) → PE (LamX.lamCx X B out t G E scope f c') body (tb E))
    (hN : Ng[0]? = some a) (hv : Vis sg a) (d1 : (a == ("__debug__" : Str)) = false) (d2 : (a == ("__classdict__" : Str)) = false) :
    PE ((cxOf CX0 X.prog X.w X.K X.mg X.base Ng qg sg g cdg X.A X.stack s H Eg).tr pn xe) (.Call (.Name a p1) [] [] p2) (fun τ G Q => τ[0]? = some (some (.ref f)) ∧ G c' = some (LamX.CodeO c' (X.env.qual ++ "<lambda>")) ∧ ∃ E : XK, (∀ cls d G', E cls d G' → W cls d τ G') ∧ tb E σ G Q) := ⟨fun pz sz τ G Q IZ h => by
  obtain ⟨at0, hc, E, hW, ht⟩ := h
  refine wpAny_Call_Name_kw (thn ((pe_var (pos := p1) (i := 0) hN hv d1 d2).run pz sz τ G (fun v H1 => v = .ref f ∧ H1 = G) IZ ⟨.ref f, at0, rfl, rfl⟩) ?_)
  rintro u s1 ⟨v, H1, I1, r1, rfl, eG⟩
  rw [eG] at I1
  obtain rfl : u = Value.ref f := r1
  have un : L2.Un (frs X.stack) [] H G s.heap s1.heap := I1.base
  have of1 := un.keep f _ hf fn fo (fun z => nomatch z)
  refine PySem.W.callWith_F0 ⟨_, _, _, _, of1⟩ ?_
  obtain ⟨⟨oc, vs, t, co1, co2, co3⟩, _, _⟩ := I1.hok c' _ hc
  have run : codeAny (model X.prog X.w) (X.A.deeper (envOfC qg sg s.heap.objs.size g cdg)) (.call (.ref f) ⟨[], []⟩) (CR (L2.CX X.prog X.w) (envOfC qg sg s.heap.objs.size g cdg :: X.stack) X.prog X.w G s1 Q E) s1 := by
    refine PySem.W.kla_callFunE hr.depth of1 rfl L.co L.gen rfl ⟨c', oc, vs, t, rfl, co1, co2, co3⟩ ?_
    rw [nopar]
    refine wpAny_pure (wpAny_newFunctionEnv (fun y hy => (L.own y hy).2) (fun y hy => absurd hy (by simp)) (fun h₁ ns sb => ⟨I1.nolimit.fresh _ sb, ?_⟩) L.kind)
    have J := LamX.lam_start2 (E := E) (f := f) (c' := c') (tk := s1.toks + ([] : List (Str × Value)).length) I L I1.env0 hr.hd un ns fun b o e => sb.extBut b o (Nat.ne_of_lt (Heap.lt_size e)) (Heap.get?_push_of_some _ e)
    refine PySem.W.kla_codeExpr (wpAny_mono ((hbody E (X.A.deeper (envOfC qg sg s.heap.objs.size g cdg)) _ s1 G gr (hr.deeper _)).run [] _ _ G Q J ht) ?_ fun e s' y => y)
    rintro v s' ⟨w', H', J', rv, q⟩
    exact ⟨w', H', J'.os, J'.bare, J'.base, J'.hok, rv, q⟩
  refine wpAny_call (codeAny_mono run fun r s' hq => ?_)
  match r, hq with
  | .error e, hq => exact tk e s' (XE.of_call I1 hW hq)
  | .ok (.ret u), hq => exact I1.after hq
  | .ok .next, hq => exact False.elim hq
  | .ok .brk, hq => exact False.elim hq
  | .ok .cont, hq => exact False.elim hq⟩
end

/-- what the def makes of the reading of the lambda that it is given: ("told", value), or (tag, what the error keeps) -/
def TTo (mg : Str → Option Value) (Tag : Str → Str → Str → Prop) : (XK → Hp → VK → Prop) → Hp → VK → Prop := fun tl H Q => ∀ (E : XK) (Q' : VK),
  (∀ cls dd H', (∃ (x f tag : Str) (C dx : Addr) (v : L2.V), Tag x f tag ∧ mg x = some (.ref C) ∧ cls = .ref C ∧ dd = some dx ∧ H' dx = some (.xd [(f, v)]) ∧ ∀ (H2 : Hp) (p : Addr), Kept H' H2 → H' p = none → H2 p = some (.tup [.str tag, v]) → Q (.ref p) H2) → E cls dd H') →
  (∀ v H', (∀ (H2 : Hp) (p : Addr), Kept H' H2 → H' p = none → H2 p = some (.tup [.str "told", v]) → Q (.ref p) H2) → Q' v H') → tl E H Q'
structure Told (P : Program) (w : World) (K : PySem.W.Frag) (mg : Str → Option Value) (base : Heap) (x : Str) (Tag : Str → Str → Str → Prop) : Prop where
  ex : ∃ (g : Addr) (fd : FuncData) (a : Str) (Ng : List Str) (st : Stmt), Fun K x x st g fd ∧ FnScope Ng [a] (defScope st) ∧ Ng[0]? = some a ∧ Vis (defScope st) a ∧ (a == ("__debug__" : Str)) = false ∧ (a == ("__classdict__" : Str)) = false ∧ mg x = some (.ref g) ∧ PySem.W.keepIn K (.ref g) = true ∧ Binds K fd [a] [] ∧
    ∀ (cdv : Value) (A : Around) (outer : List Env) (s : Shared) (H : Hp) (Q : VK) (tl : XK → Hp → VK → Prop) (f c' : Addr) (q : Str), fd.code = cdv →
      (∀ (W : WX) (pn : List (Addr × Obj)) (xe : Value → Shared → Prop) (p1 p2 : Pos), Takes ((cxOf CX0 P w K mg base Ng x (defScope st) g cdv A outer s H E0).tr pn xe) W →
        PE ((cxOf CX0 P w K mg base Ng x (defScope st) g cdv A outer s H E0).tr pn xe) (.Call (.Name a p1) [] [] p2) (fun τ G Q => τ[0]? = some (some (.ref f)) ∧ G c' = some (LamX.CodeO c' q) ∧ ∃ E : XK, (∀ cls d G', E cls d G' → W cls d τ G') ∧ tl E G Q)) →
      H c' = some (LamX.CodeO c' q) → (∀ H1, Kept H H1 → TTo mg Tag tl H1 Q) → tSW (cxOf CX0 P w K mg base Ng x (defScope st) g cdv A outer s H E0) (defBody st) { nx := fun _ H' => Q .non H', rt := Q } (L2.start Ng [.ref f]) H
section
variable {K : PySem.W.Frag} {H H1 H2 : Hp} {ρ : Nv} {σ : L2.St}
theorem Pex.kept (E : NvOk K H σ ρ) (k : Kept H H1) : Pex K H ρ σ H1 ρ := by
  have st : Stb H H1 := fun a o _ e => k a o e
  refine ⟨fun b o e _ _ => k b o e, fun b o e => ⟨o, k b o e⟩, fun _ s h o => ⟨s, h, .refl o⟩, fun _ s h o => ⟨s, h, .refl o⟩, ⟨E.len, fun i s h => ?_, E.sep, E.tb.ext k⟩⟩
  obtain ⟨w, e, so⟩ := E.get i s h
  refine ⟨w, e, ?_⟩
  cases s with
  | un => trivial
  | dat d => obtain ⟨v, e2, r⟩ := so; exact ⟨v, e2, Rp.mono st _ _ r⟩
  | hol p ds => obtain ⟨a, vs, e2, z, r⟩ := so; exact ⟨a, vs, e2, k _ _ z, RpAll.mono st _ _ r⟩
  | dic ds => obtain ⟨a, o, vs, e2, z, k2, r⟩ := so; exact ⟨a, o, vs, e2, k _ _ z, k2, RpAll.mono st _ _ r⟩
end
section
variable {X : Cx} {ρ : Nv} {Q : QE} {p pos lp : Pos} {k : Nat} {c P : Addr} {x : Str} {params : Arguments} {body : Expr} {scope : Scope} {Tag : Str → Str → Str → Prop}
/-- x(lambda: body) -/
theorem EW.told (T : Told X.prog X.w X.K X.mg X.base x Tag) (C : Ctx X k) (j : Nat) (hj : j + 2 ≤ k) (TB : LamX.TabB X.base X.mg c P) (at_c : X.env.code = .ref c) (hm : (P, X.env.qual ++ "<lambda>") ∈ HasT.T) (hu : ∀ p ∈ HasT.T, p.1 = P → p.2 = X.env.qual ++ "<lambda>")
    (L : LamX.LamS X.env.scope scope) (nodef : defaultsOf params X.env = ([], [])) (nopar : ∀ (q : Str) (cl : List (Str × Addr)) (pm cv ctv : Value), bindArgs (PySem.W.kla_fn "<lambda>" q params body scope cl pm cv ctv) ⟨[], []⟩ = pure []) (hg : Gl X x)
    (h : ∀ (B : Around) (out : List Env) (t : Shared) (G : Hp) (E : XK) (f c' : Addr), Ctx (LamX.lamCx X B out t G E scope f c') j → EWx (LamX.lamCx X B out t G E scope f c') body ρ (fun y ρ1 => ∃ d, y = .dat d ∧ Q (.dat (.tuple [.str "told", d])) ρ1) fun x f d ρ1 => ∃ tag, Tag x f tag ∧ Q (.dat (.tuple [.str tag, d])) ρ1)
    (hdb : (x == ("__debug__" : Str)) = false := by decide) : EW X (.Call (.Name x p) [.Lambda params body scope lp] [] pos) ρ Q := fun σ H R Ev kk pins s I => by
  obtain ⟨g, fd, a, Ng, st, F, S, hN, hv, d1, d2, hmx, hk, hb, run⟩ := T.ex
  refine wpAny_Call_Name_kw (ld_glob I hg hmx ?_ hdb)
  refine PySem.W.callWith_K (h₀ := X.base) I.ok.mod.kin hk ?_ (by rfl) (by rfl)
  show wpAny _ _ (spliced ((false, eval (.Lambda params body scope lp) X.env) :: backTo pos (starEach [] X.env))) _ _ s
  obtain ⟨ps, hP, tz⟩ := Ev.tb _ hm
  refine Calls.spliced_cons (lam_new2 I TB at_c ⟨ps, hP, tz⟩ nodef (L.has I.ok) fun f c' pm' ctv H1 s1 I1 gw T1 hf hco fn fo => Calls.spliced_nil ⟨I1.kIn, ?_⟩)
  have P1 : Pex X.K H ρ σ H1 ρ := Pex.grw Ev gw hP T1 hu
  obtain ⟨oc, od, kV, doc, pm, an, cdv, ct, osl, rfl, lk, hcd⟩ := F.ex
  have call_ : codeAny (model X.prog X.w) X.A (.call (.ref g) ⟨[.ref f], []⟩) (CR CX0 X.stack X.prog X.w H1 s1 R E0) s1 := by
    refine LamX.run_ofS (k := j + 1) (N := Ng) (ps := [a]) (us := [.ref f]) (vs := [.ref f]) lk hcd S (C.room.mono hj) I1.env0 (hb s1 [.ref f] I1.kIn rfl) (.cons rfl .nil) rfl fun hr => ⟨_, pss_W, ?_⟩
    -- the reading of the lambda's body
    refine run cdv X.A X.stack s1 H1 R (fun E G Q' => ∀ (B : Around) (out : List Env) (t : Shared) (G0 : Hp), B.guards = some [] → Room j (B.deeper (LamX.lamEnv X scope t.heap.objs.size f c')) → tW (LamX.lamCx X B out t G0 E scope f c') body σ G Q') f c' _ rfl (fun W pn xe p1 p2 tk => ?_) hco ?_
    · exact act_ok (tb := fun E τ G Q' => ∀ (B : Around) (out : List Env) (t : Shared) (G0 : Hp), B.guards = some [] → Room j (B.deeper (LamX.lamEnv X scope t.heap.objs.size f c')) → tW (LamX.lamCx X B out t G0 E scope f c') body τ G Q') I1 L hf fn fo (nopar _ _ _ _ _) tk hr C.grd (fun E B out t G0 bg br => ⟨fun pz sz τ G Q' IZ ht => ht B out t G0 bg br pz sz IZ⟩) hN hv d1 d2
    · intro HK kpK E Q' hE hQ B out t G0 bg br
      have P1 := P1.trans (Pex.kept P1.ok kpK)
      refine h B out t G0 _ f c' ⟨C.blt, br, bg, rfl, C.nd⟩ σ HK _ _ (takes_of rfl rfl rfl rfl) P1.ok (fun v H2 y ρ2 P2 V2 q2 => ?_) fun cls dd H2 ρ2 P2 er => ?_
      · obtain ⟨d, rfl, q2⟩ := q2
        refine hQ _ _ fun H3 q kp nq at3 => ?_
        have PK := Pex.kept P2.ok kp
        have st := PK.stb P2.ok
        refine kk (.ref q) H3 _ _ ((P1.trans P2).trans PK) ?_ q2
        exact Rp.tuple at3 (.cons (.str _) (.cons (Rp.mono st _ _ V2) .nil))
      · obtain ⟨x', f', d, C', dx, v, ⟨tag, tg, q2⟩, e1, e2, e3, e4, r⟩ := er
        refine hE _ _ _ ⟨x', f', tag, C', dx, v, tg, e1, e2, e3, e4, fun H3 q kp nq at3 => ?_⟩
        have PK := Pex.kept P2.ok kp
        have st := PK.stb P2.ok
        refine kk (.ref q) H3 _ _ ((P1.trans P2).trans PK) ?_ q2
        exact Rp.tuple at3 (.cons (.str _) (.cons (Rp.mono st _ _ r) .nil))
  refine wpAny_call (codeAny_mono call_ fun r s2 hq => ?_)
  match r, hq with
  | .error e, hq => exact (show False from hq).elim
  | .ok (.ret u), hq => exact I1.after hq
  | .ok .next, hq => exact False.elim hq
  | .ok .brk, hq => exact False.elim hq
  | .ok .cont, hq => exact False.elim hq
end
end AW

/-! AW45: steps on the heap for the defs that ask within a try; classes of errors by their pieces. -/
namespace AW
variable [HasT]
open PySem PySem.Spec PyProof.Rows L2
section
variable {X : Cx} {σ : L2.St} {H : Hp} {Q : VK} {D : Ends} {st : Stmt} {sts : List Stmt} {t : TS} {te : TE} {e : Expr}
theorem tSW_cons (h : PS X st t) (q : t { D with nx := tSW X sts D } σ H) : tSW X (st :: sts) D σ H := fun pins s I => (pss_cons h pss_W).run pins s σ H D I q
theorem tSW_nil (h : D.nx σ H) : tSW X [] D σ H := fun pins s I => pss_nil.run pins s σ H D I h
end
/-- isinstance(slot i, C) -/
def isT (K : PySem.W.Frag) (i : Nat) (C : Addr) : TE := tCB (rKe K) (tCons (tVar i) (tCons (tC (.ref C)) tNil))
def isTy (K : PySem.W.Frag) (i : Nat) (n : String) : TE := tCB (rKe K) (tCons (tVar i) (tCons (tC (.ty n)) tNil))
section
variable {X : Cx} {σ : L2.St} {H : Hp} {Q : VK} {i : Nat} {C D a dx : Addr} {fs : List (Str × L2.V)} {b : Bool} {x y : Str} {p0 p1 p2 p3 : Pos}
theorem pe_isT (hg : Gl X "isinstance") (hm : X.mg "isinstance" = none) (hN : X.N[i]? = some x) (hv : Vis X.env.scope x) (hgy : Gl X y) (hmy : X.mg y = some (.ref C)) (d1 : (x == ("__debug__" : Str)) = false) (d2 : (x == ("__classdict__" : Str)) = false) (d3 : (y == ("__debug__" : Str)) = false) :
    PE X (.Call (.Name "isinstance" p0) [.Name x p1, .Name y p2] [] p3) (isT X.K i C) :=
  pe_callB call_ke hg hm rfl (pa_cons (pe_var hN hv d1 d2) (pa_cons (pe_glob hgy hmy (rfl : RelV (.ref C) (.ref C)) d3) pa_nil))
theorem pe_isTy {n : String} (hg : Gl X "isinstance") (hm : X.mg "isinstance" = none) (hN : X.N[i]? = some x) (hv : Vis X.env.scope x) (hgy : Gl X y) (hmy : X.mg y = none) (hb : bootBuiltins y = some (.type n)) (hn : y ≠ "__name__") (d1 : (x == ("__debug__" : Str)) = false) (d2 : (x == ("__classdict__" : Str)) = false) (d3 : (y == ("__debug__" : Str)) = false) :
    PE X (.Call (.Name "isinstance" p0) [.Name x p1, .Name y p2] [] p3) (isTy X.K i n) :=
  pe_callB call_ke hg hm rfl (pa_cons (pe_var hN hv d1 d2) (pa_cons (pe_bltn hgy hmy hb (rfl : RelV (.ty n) (.type n)) hn d3) pa_nil))
structure ErV (K : PySem.W.Frag) (H : Hp) (D a dx : Addr) (fs : List (Str × L2.V)) : Prop where
  exc : ExcC K D
  xf : XfC K D
  ob : H a = some (KeO (.ref D) (some dx) a)
  di : H dx = some (.xd fs)
theorem ErV.new {K : PySem.W.Frag} {p : Addr} {o : HO} (h : ErV K H D a dx fs) (n : H p = none) : ErV K (upd H p o) D a dx fs := ⟨h.exc, h.xf, by rw [upd_ne (ne_of_none h.ob n)]; exact h.ob, by rw [upd_ne (ne_of_none h.di n)]; exact h.di⟩
theorem isT_ok {K : PySem.W.Frag} (at_ : σ[i]? = some (some (.ref a))) (E : ErV K H D a dx fs) (k : PySem.W.kitOne K (.ref D) (.ref C) = some b) (q : Q (.bl b) H) : isT K i C σ H Q :=
  ⟨.ref a, at_, D, a, dx, fs, .ref C, .ref C, b, E.exc, rfl, .own C, E.ob, E.di, k, q⟩
theorem isTy_ok {K : PySem.W.Frag} {n : String} (at_ : σ[i]? = some (some (.ref a))) (E : ErV K H D a dx fs) (k : PySem.W.kitOne K (.ref D) (.type n) = some b) (q : Q (.bl b) H) : isTy K i n σ H Q :=
  ⟨.ref a, at_, D, a, dx, fs, .ty n, .type n, b, E.exc, rfl, .ty n, E.ob, E.di, k, q⟩
end

/-! ### classes of errors by their pieces -/
def mth : Stmt → Nat → Stmt
  | .ClassDef _ _ _ body _ _ _ _ _ _ _, i => body.getD i (.Pass ⟨0, 0, 0, 0⟩)
  | s, _ => s
theorem errC_mk {P : Program} {w : World} {K : PySem.W.Frag} {mg : Str → Option Value} {base : Heap} {x f y msg q : Str} {st : Stmt} {C V fI : Addr} {fd : FuncData} {j : Nat} {p1 p2 p3 p4 p5 p6 p7 p8 p9 p10 : Pos} (gl : mg x = some (.ref C)) (O : OexC K C) (no : PySem.W.findIn K (.ref C) f = some none)
    (i1 : PySem.W.findIn K (.ref C) "__init__" = some (some (.ref fI))) (i2 : PySem.W.typeIn K (.ref fI) = some (.type "function")) (B : BaseC K V) (hm : mg "VoteError" = some (.ref V)) (F : Fun K "__init__" q st fI fd)
    (hb : defBody st = initB y f msg j p1 p2 p3 p4 p5 p6 p7 p8 p9 p10) (S : FnScope ["self", y] ["self", y] (defScope st)) (hg : (defScope st).names.lookup ("VoteError" : Str) = some .globalImplicit) (vs : Vis (defScope st) "self") (vy : Vis (defScope st) y) (d2 : (y == ("__debug__" : Str)) = false) (d3 : (y == ("__classdict__" : Str)) = false)
    (hc : ∀ env : Env, eval (.Call (.Attribute (.Name "VoteError" p1) "__init__" p2) [.Name "self" p3, .Constant (.str msg) j p4] [] p5) env = (do
      let ov ← eval (.Name "VoteError" p1) env
      standAt p2.atName
      let (f, first) ← holding [ov] (getMethod ov "__init__" (do return (← importBound (.Name "VoteError" p1) env).getD true))
      callWith p5 f first (backTo p5 (starEach [.Name "self" p3, .Constant (.str msg) j p4] env)) (backToKw p5 (keywordEach [] env))))
    (bd : Binds K fd ["self", y] []) : ErrC P w K mg base x f C := by
  obtain ⟨oc, od, kV, doc, pm, an, cdv, ct, osl, rfl, lk, hcd⟩ := F.ex
  refine ⟨gl, O, no, fI, _, _, i1, i2, bd, ?_⟩
  rw [hb] at lk ⊢
  exact ok_init B hm lk hcd S hg hc vs vy d2 d3
/-- what is told of exceptions of a class -/
def excB (K : PySem.W.Frag) (D : Addr) : Bool := decide (PySem.W.findIn K (.ref D) "__getattribute__" = some (some (.builtin "BaseException.__getattribute__"))) && decide (PySem.W.findIn K (.ref D) "__getattr__" = some none) && decide (PySem.W.subIn K (.ref D) (.type "BaseException") = some true) && PySem.W.hasDictIn K D &&
  decide (PySem.W.findIn K (.ref D) "__class__" = some (some (.builtin "object.__class__"))) && decide (PySem.W.specialIn K (.builtin "object.__class__") "__get__" = some (some (.builtin "getset_descriptor.__get__"))) && decide (PySem.W.takesIn K (.builtin "object.__class__") = some true) && decide (PySem.W.mroIn K D (.type "object") = some true)
theorem excB_ok {K : PySem.W.Frag} {D : Addr} (h : excB K D = true) : ExcC K D := by
  simp only [excB, Bool.and_eq_true, decide_eq_true_eq] at h
  obtain ⟨⟨⟨⟨⟨⟨⟨h1, h2⟩, h3⟩, h4⟩, h5⟩, h6⟩, h7⟩, h8⟩ := h
  exact ⟨h1, h2, h3, h4, h5, h6, h7, h8⟩
theorem exc_xf {K : PySem.W.Frag} {D : Addr} (h : ExcC K D) : XfC K D := ⟨h.hg, h.hk, h.hs, h.hd⟩
def kitsB (K : PySem.W.Frag) (V : Addr) (Cs : List Addr) : Bool := Cs.zipIdx.all fun p => excB K p.1 && decide (PySem.W.exmOne K (.ref p.1) (.ref V) = some true) && decide (PySem.W.kitOne K (.ref p.1) (.type "ValueError") = some true) &&
  Cs.zipIdx.all fun q => decide (PySem.W.kitOne K (.ref p.1) (.ref q.1) = some (p.2 == q.2))
theorem kits_at {K : PySem.W.Frag} {V : Addr} {Cs : List Addr} (h : kitsB K V Cs = true) {i : Nat} {D : Addr} (e : Cs[i]? = some D) : ExcC K D ∧ PySem.W.exmOne K (.ref D) (.ref V) = some true ∧ PySem.W.kitOne K (.ref D) (.type "ValueError") = some true ∧ ∀ (j : Nat) (C : Addr), Cs[j]? = some C → PySem.W.kitOne K (.ref D) (.ref C) = some (i == j) := by
  have mem : ∀ {k : Nat} {A : Addr}, Cs[k]? = some A → (A, k) ∈ Cs.zipIdx := fun {k A} q => by
    rw [List.mem_zipIdx_iff_getElem?]
    exact q
  have h1 := List.all_eq_true.mp h _ (mem e)
  simp only [Bool.and_eq_true, decide_eq_true_eq] at h1
  obtain ⟨⟨⟨a, b⟩, c⟩, d⟩ := h1
  refine ⟨excB_ok a, b, c, fun j C q => ?_⟩
  have h2 := List.all_eq_true.mp d _ (mem q)
  simpa using h2
end AW

/-! AW46: what raises at its first part; promises joined. -/
namespace AW
variable [HasT]
open PySem PySem.Spec PyProof.Rows L2
section
variable {X : Cx} {scope : Scope} {e a b c tg iter elt : Expr} {es : List Expr} {ifs : List Expr} {ρ : Nv} {E : AEnds} {Q : QE} {Er : ErrP} {pos p p2 pos' : Pos} {k : Nat} {x : Str} {A : ASp}
/-- always raises -/
abbrev EWr (X : Cx) (e : Expr) (ρ : Nv) (Er : ErrP) : Prop := EWx X e ρ (fun _ _ => False) Er
theorem EWr.tW {σ : L2.St} {H : Hp} {W : WX} (h : EWr X e ρ Er) (tk : Takes X W) (Ev : NvOk X.K H σ ρ) (k2 : ∀ cls dd H' ρ', Pex X.K H ρ σ H' ρ' → ErrAt X.K X.mg Er cls dd ρ' H' → W cls dd σ H') {R : VK} : tW X e σ H R :=
  h σ H R W tk Ev (fun _ _ _ _ _ _ q => q.elim) k2
/-- f(e, ..) where e raises -/
theorem EWr.arg (C : Cal X.prog X.w X.K X.mg X.base k x A) (Cx : Ctx X k) (hg : Gl X x) (h : EWr X e ρ Er) (hdb : (x == ("__debug__" : Str)) = false := by decide) (he : starEach (e :: es) X.env = (false, eval e X.env) :: starEach es X.env := by rfl) (hpl : (backTo pos (starEach es X.env)).any (·.1) = false := by rfl) :
    EWr X (.Call (.Name x p) (e :: es) [] pos) ρ Er := fun σ H R W tk Ev k1 k2 pins s I => by
  obtain ⟨f, fd, ps, F, hm, hk, hb⟩ := C.ex
  refine (pe_G (E := E0) F Cx hg hm hk hb pass0 (pa_cons pe_W pa_W he) hdb he hpl).run pins s σ H R I ?_
  exact EWr.tW h tk Ev k2
/-- a comprehension over what raises -/
theorem EWr.lc {own : List (Str × Nat)} (C : Ctx X k) (h : EWr X iter ρ Er) (ok : BlkOk X.N X.env.scope scope own) (hs : ∀ x, foldedSetIterable iter X.env x = pure x := by intro _; rfl) : EWr X (.ListComp elt [⟨tg, iter, ifs, 0⟩] scope pos) ρ Er := fun σ H R W tk Ev k1 k2 pins s I => by
  refine (pe_lc (g := bG X scope tg) (tt := bT X scope ifs) (te := bE X scope elt) C.calm C.nd pi_W ok (fun s H C cl fp => ⟨fun pins s' σ' H' v u Q' I r h => h s H C cl fp pins s' u I r⟩) (fun s H C cl fp => ⟨fun pins s' σ' H' Q' I h => h s H C cl fp pins s' I⟩) (fun s H C cl fp => ⟨fun pins s' σ' H' Q' I h => h s H C cl fp pins s' I⟩) hs).run pins s σ H R I ?_
  intro pins s I
  refine wpAny_mono (EWr.tW h tk Ev k2 (R := fun _ _ => False) pins s I) (fun v s1 z => ?_) fun _ _ z => z
  obtain ⟨_, _, _, _, z⟩ := z
  exact z.elim
theorem EWx.imp {Q' : QE} {Er' : ErrP} (h : EWx X e ρ Q Er) (hq : ∀ x ρ1, Q x ρ1 → Q' x ρ1) (he : ∀ x f d ρ1, Er x f d ρ1 → Er' x f d ρ1) : EWx X e ρ Q' Er' := fun σ H R W tk Ev k1 k2 =>
  h σ H R W tk Ev (fun v H' x ρ' P V q => k1 v H' x ρ' P V (hq _ _ q)) fun cls dd H' ρ' P er => k2 cls dd H' ρ' P (er.imp fun x f d => he x f d ρ')
theorem EWr.wide (h : EWr X e ρ Er) : EWx X e ρ Q Er := h.imp (fun _ _ z => z.elim) fun _ _ _ _ z => z
end
/-- both promises -/
theorem fnX_join {P : Program} {w : World} {K : PySem.W.Frag} {mg : Str → Option Value} {base : Heap} {k : Nat} {f : Addr} {fd : FuncData} {ps : List Str} {A : ASp} {B : ASx} (F : FnG P w K mg base CX0 k f fd ps (toSp K A)) (G : FnG P w K mg base (L2.CX P w) k f fd ps (toSx K mg B)) :
    FnG P w K mg base (L2.CX P w) k f fd ps (toSx K mg fun as R Er => A as R ∨ B as R Er) := by
  refine ⟨fun vs H Q E h => ?_, fun Ar outer s H args us vs Q E g hr e0 hb r h => ?_⟩
  · obtain ⟨as, R, Er, h1, h2, h3 | h3, h4, h5⟩ := h
    · exact F.len vs H Q E ⟨as, R, h1, h2, h3, h4⟩
    · exact G.len vs H Q E ⟨as, R, Er, h1, h2, h3, h4, h5⟩
  · obtain ⟨as, R, Er, h1, h2, h3 | h3, h4, h5⟩ := h
    · refine codeAny_mono (F.run Ar outer s H args us vs Q E g hr e0 hb r ⟨as, R, h1, h2, h3, h4⟩) fun res s' hq => ?_
      match res, hq with
      | .ok (.ret u), hq => exact hq
      | .ok .next, hq => exact hq.elim
      | .ok .brk, hq => exact hq.elim
      | .ok .cont, hq => exact hq.elim
      | .error e, hq => exact (show False from hq).elim
    · exact G.run Ar outer s H args us vs Q E g hr e0 hb r ⟨as, R, Er, h1, h2, h3, h4, h5⟩
/-- a promise of what is returned, one of what is raised -/
abbrev jn (A : ASp) (B : ASx) : ASx := fun as R Er => A as R ∨ B as R Er
end AW

/-! AW47: what is told of a lambda, by a property; short texts as marks. -/
namespace AW
variable [HasT]
open PySem PySem.Spec PyProof.Rows L2
section
variable {X : Cx} {ρ : Nv} {Q : QE} {p pos lp : Pos} {k : Nat} {c P : Addr} {x : Str} {params : Arguments} {body : Expr} {scope : Scope} {Tag : Str → Str → Str → Prop}
theorem EW.toldP {Pd : PyData → Prop} (T : Told X.prog X.w X.K X.mg X.base x Tag) (C : Ctx X k) (j : Nat) (hj : j + 2 ≤ k) (TB : LamX.TabB X.base X.mg c P) (at_c : X.env.code = .ref c) (hm : (P, X.env.qual ++ "<lambda>") ∈ HasT.T) (hu : ∀ p ∈ HasT.T, p.1 = P → p.2 = X.env.qual ++ "<lambda>")
    (L : LamX.LamS X.env.scope scope) (nodef : defaultsOf params X.env = ([], [])) (nopar : ∀ (q : Str) (cl : List (Str × Addr)) (pm cv ctv : Value), bindArgs (PySem.W.kla_fn "<lambda>" q params body scope cl pm cv ctv) ⟨[], []⟩ = pure []) (hg : Gl X x)
    (h : ∀ (B : Around) (out : List Env) (t : Shared) (G : Hp) (E : XK) (f c' : Addr), Ctx (LamX.lamCx X B out t G E scope f c') j → EWx (LamX.lamCx X B out t G E scope f c') body ρ (fun y ρ1 => ρ1 = ρ ∧ ∃ d, y = .dat d ∧ Pd (.tuple [.str "told", d])) fun x f d ρ1 => ρ1 = ρ ∧ ∃ tag, Tag x f tag ∧ Pd (.tuple [.str tag, d]))
    (q : ∀ d, Pd d → Q (.dat d) ρ) (hdb : (x == ("__debug__" : Str)) = false := by decide) : EW X (.Call (.Name x p) [.Lambda params body scope lp] [] pos) ρ Q :=
  EW.told T C j hj TB at_c hm hu L nodef nopar hg (fun B out t G E f c' CL => (h B out t G E f c' CL).imp (fun y ρ1 ⟨e, d, e2, pd⟩ => ⟨d, e2, by rw [e]; exact q _ pd⟩) fun x f d ρ1 ⟨e, tag, tg, pd⟩ => ⟨tag, tg, by rw [e]; exact q _ pd⟩) hdb
end
/-- short texts as marks -/
inductive Tg where
  | told | size | long | sum | odd | replica | weights | other
  deriving DecidableEq
def Tg.s : Tg → Str
  | .told => "told" | .size => "size" | .long => "long" | .sum => "sum" | .odd => "odd" | .replica => "replica" | .weights => "weights" | .other => "other"
def eG (t : Tg) : PyData := .str t.s
theorem EncOk.tg : EncOk 0 eG := ⟨fun a b => by cases a <;> cases b <;> decide, fun a => by cases a <;> decide +kernel, fun a => by cases a <;> decide +kernel⟩
end AW

/-! AW48: small things. -/
namespace AW
variable [HasT]
open PySem PySem.Spec PyProof.Rows L2
theorem CalX.mono {P : Program} {w : World} {K : PySem.W.Frag} {mg : Str → Option Value} {base : Heap} {j k : Nat} {x : Str} {A : ASx} (c : CalX P w K mg base j x A) (h : j ≤ k) : CalX P w K mg base k x A := by
  obtain ⟨f, fd, ps, F, r⟩ := c.ex
  exact ⟨f, fd, ps, F.mono h, r⟩

/-! ### a tuple times an int, 0 and 1 among them -/
theorem tuple_mul0 (l : Addr) (items : Array Value) (n : Nat) (dd : Option Addr) (sl : Array (Option Value)) (x : Int) (u : Tok) (c0 : (decide (x < -(2 ^ 63)) || decide (x ≥ 2 ^ 63)) = false) (c1 : (items.isEmpty || x == 1) = false) (c2 : (decide (x ≤ 0) || items.isEmpty) = true) :
    Meets (Builtin.«tuple.__mul__» ⟨[.ref l, .int x u], []⟩) (fun _ R s => s.heap.get? l = some { cls := .type "tuple", dict := dd, data := .seq items n, slots := sl } ∧
      R (.ok (.ret (Value.ref s.heap.objs.size))) { s with heap := s.heap.push { cls := Value.type "tuple", data := Data.seq #[] }, toks := s.toks }) :=
  .of_wp fun prog w A R s h => by
    obtain ⟨hp, g, d, tk, os⟩ := s
    obtain ⟨hl, h⟩ := h
    have f1 := AutoSeq1.idx_int
    wp_walk using wpAny_loadPart' hl
    repeat (first
      | (refine wpAny_ite_false (decide_eq_false (by rw [c0]; exact Bool.false_ne_true)) ?_; wp_walk using wpAny_loadPart' hl)
      | (refine wpAny_ite_false (decide_eq_false (by rw [c1]; exact Bool.false_ne_true)) ?_; wp_walk using wpAny_loadPart' hl)
      | (refine wpAny_ite_true (decide_eq_true c2) ?_; wp_walk using wpAny_loadPart' hl))
    exact ⟨_, rfl, h⟩
theorem tuple_mul1 (l : Addr) (items : Array Value) (n : Nat) (dd : Option Addr) (sl : Array (Option Value)) (x : Int) (u : Tok) (c0 : (decide (x < -(2 ^ 63)) || decide (x ≥ 2 ^ 63)) = false) (c1 : (items.isEmpty || x == 1) = true) :
    Meets (Builtin.«tuple.__mul__» ⟨[.ref l, .int x u], []⟩) (fun _ R s => s.heap.get? l = some { cls := .type "tuple", dict := dd, data := .seq items n, slots := sl } ∧
      R (.ok (.ret (Value.ref l))) s) :=
  .of_wp fun prog w A R s h => by
    obtain ⟨hp, g, d, tk, os⟩ := s
    obtain ⟨hl, h⟩ := h
    have f1 := AutoSeq1.idx_int
    wp_walk using wpAny_loadPart' hl
    repeat (first
      | (refine wpAny_ite_false (decide_eq_false (by rw [c0]; exact Bool.false_ne_true)) ?_; wp_walk using wpAny_loadPart' hl)
      | (refine wpAny_ite_true (decide_eq_true c1) ?_; wp_walk using wpAny_loadPart' hl))
    exact ⟨_, rfl, h⟩

def rRepT2 (K : PySem.W.Frag) : R2 := fun x y H Q => ∃ l k xs, x = .ref l ∧ y = .int k ∧ SqT K H l xs ∧ xs ≠ [] ∧ -1000 ≤ k ∧ k ≤ 1000 ∧ xs.length ≤ 1000 ∧ (k = 1 → Q (.ref l) H) ∧ (k ≠ 1 → ∀ p, H p = none → Q (.ref p) (upd H p (.tup (List.replicate k.toNat xs).flatten)))
theorem op_repT2 {X : Cx} : OpR X (binaryOp .Mult) (rRepT2 X.K) := by
  intro pins s σ H x y v u Q I rx ry h
  obtain ⟨l, k, xs, rfl, rfl, hT, hne, h0, h2, hz, q1, q2⟩ := h
  by_cases hk2 : 2 ≤ k
  · exact op_repT pins s σ H _ _ v u Q I rx ry ⟨l, k, xs, rfl, rfl, hT, hne, hk2, h2, hz, q2 (by omega)⟩
  cases rx
  obtain ⟨t, rfl⟩ := ry
  obtain ⟨its, r, ⟨⟨cls, dd, data, sl⟩, ho, hc, n, hd⟩, hs⟩ := I.tuple hT
  simp only at hc hd
  subst hc hd
  have hle : its.length = xs.length := r.length.symm
  have hn : its ≠ [] := fun e => hne (by
    rw [e] at hle
    exact List.eq_nil_of_length_eq_zero hle.symm)
  have hi : its.toArray.isEmpty = false := by
    cases its with
    | nil => exact absurd rfl hn
    | cons a b => rfl
  have c0 : (decide (k < -(2 ^ 63)) || decide (k ≥ 2 ^ 63)) = false := by
    rw [decide_eq_false (by omega), decide_eq_false (by omega)] <;> rfl
  by_cases hk1 : k = 1
  · subst hk1
    refine wpAny_binaryOp_repeat_ref (T := "tuple") (U := "int") (by decide) ⟨_, ho, rfl⟩ (fun s' => typeIs_int s' 1 t) noFill_tuple_mul F.fills_int_mul F.slot_int_rmul repeat_tuple F.slot_int_index.lookup
      (call_meets F.slot_int_rmul (typeIs_int s 1 t) F.entry_int_rmul (F.args_int_rmul_2 _ _) (int_rmul_tuple 1 t l its.toArray n dd sl)
        ⟨ho, rfl, ⟨_, ho, rfl⟩, call_meets F.slot_tuple_mul ⟨_, ho, rfl⟩ F.entry_tuple_mul (F.args_tuple_mul_2 _ _) (tuple_mul1 l its.toArray n dd sl 1 t c0 (by rw [hi]; rfl)) ⟨ho, ?_⟩⟩)
    exact ⟨.ref l, H, I, rfl, q1 rfl⟩
  · have c1 : (its.toArray.isEmpty || k == 1) = false := by
      rw [hi, Bool.false_or]
      exact beq_eq_false_iff_ne.mpr (by omega)
    have c2 : (decide (k ≤ 0) || its.toArray.isEmpty) = true := by
      rw [hi, Bool.or_false]
      exact decide_eq_true (by omega)
    refine wpAny_binaryOp_repeat_ref (T := "tuple") (U := "int") (by decide) ⟨_, ho, rfl⟩ (fun s' => typeIs_int s' k t) noFill_tuple_mul F.fills_int_mul F.slot_int_rmul repeat_tuple F.slot_int_index.lookup
      (call_meets F.slot_int_rmul (typeIs_int s k t) F.entry_int_rmul (F.args_int_rmul_2 _ _) (int_rmul_tuple k t l its.toArray n dd sl)
        ⟨ho, rfl, ⟨_, ho, rfl⟩, call_meets F.slot_tuple_mul ⟨_, ho, rfl⟩ F.entry_tuple_mul (F.args_tuple_mul_2 _ _) (tuple_mul0 l its.toArray n dd sl k t c0 c1 c2) ⟨ho, ?_⟩⟩)
    have e0 : (List.replicate k.toNat xs).flatten = [] := by rw [show k.toNat = 0 by omega] <;> rfl
    have q := q2 hk1
    rw [e0] at q
    refine ⟨.ref s.heap.objs.size, _, I.laid (t' := s.toks) (o := .tup []) (fun b ob q => Heap.get?_push_of_some _ q) (Nat.le_refl _) ?_, rfl, q _ (I.hok.fresh (Nat.le_refl _))⟩
    exact ⟨Nat.zero_le _, [], .nil, IsTup.new _ _⟩
/-- a tuple times an int -/
def mulTR : R2A := fun _ x y q => ∃ (xs : List PyData) (k : Int), x = .dat (.tuple xs) ∧ y = .dat (.int k) ∧ xs ≠ [] ∧ -1000 ≤ k ∧ k ≤ 1000 ∧ xs.length ≤ 1000 ∧ q (.dat (.tuple (List.replicate k.toNat xs).flatten))
theorem op_mulTA {X : Cx} : OpA X (binaryOp .Mult) mulTR := fun pins s σ H0 H ρ x y v u vv uu q I E V U rv ru hq => by
  obtain ⟨xs, k, rfl, rfl, hne, h0, h2, hz, hq⟩ := hq
  obtain ⟨a, vs, rfl, r1, p1⟩ := seqT_ok (ds := xs) V rfl
  obtain rfl := Rp.int_inv U
  refine thn (op_repT2 pins s σ H _ _ vv uu (fun w H' => Pex X.K H ρ σ H' ρ ∧ VOk X.K H H' ρ σ (.dat (.tuple (List.replicate k.toNat xs).flatten)) w) I rv ru ⟨a, k, vs, rfl, rfl, r1, fun e => hne (p1.nil_iff.mp e), h0, h2, by rw [← p1.length]; exact hz, fun e => ?_, fun _ p n => ⟨Pex.new E n, tup_new n (p1.rep _)⟩⟩) fun w s' h => epa_new E h hq
  subst e
  refine ⟨Pex.refl E, ?_⟩
  rw [show (List.replicate (1 : Int).toNat xs).flatten = xs by simp]
  exact vdat (show Rp X.K H (.tuple xs) (.ref a) from V)
section
variable {X : Cx} {a b : Expr} {ρ : Nv} {Q : QE} {pos : Pos}
theorem EW.mulT (h : EW X a ρ fun x ρ1 => EW X b ρ1 fun y ρ2 => mulTR ρ2 x y fun z => Q z ρ2) : EW X (.BinOp a .Mult b pos) ρ Q := EW.op op_mulTA h
end
end AW

/-! AW49: data of any kind, dicts among them, as they are shown. -/
namespace AW
open PySem PySem.Spec PyProof.Rows L2
/-- a dict that is read does not stand at the place of the modules' own dict -/
def SysOk (h : Heap) (as : List Addr) : Prop := ∀ o, h.get? sysModules = some o → o.cls = .type "dict" → sysModules ∉ as
theorem SysOk.sub {h : Heap} {as bs : List Addr} (g : SysOk h as) (s : ∀ b ∈ bs, b ∈ as) : SysOk h bs := fun o e c m => g o e c (s _ m)
section
variable {pg : Program} {w : World} {h₀ : Heap}
mutual
theorem kShow : ∀ {v : Value} {d : PyData} {as : List Addr}, Reads h₀ v d as → d.showable = true → SysOk h₀ as → d.shown.length ≤ sizeLine → ∃ bs, ReadAtMost h₀ d.depth bs ∧ ReprK pg w bs h₀ d.depth v d.shown
  | _, _, _, .none, _, _, _ => by
    refine ⟨[], (fun _ z => nomatch z), ?_⟩
    rw [show PyData.shown .none = "None" from by simp only [PyData.shown]]
    exact .of_is ReprIs.none _ _ _
  | _, _, _, .bool b, _, _, _ => by
    refine ⟨[], (fun _ z => nomatch z), ?_⟩
    have e := ReprK.of_is (prog := pg) (w := w) (ReprIs.bool b) [] h₀ 0
    simp only [PyData.shown]
    exact e
  | _, _, _, .int i t, sh, _, _ => by
    refine ⟨[], (fun _ z => nomatch z), ?_⟩
    have sh2 := sh
    simp only [PyData.showable, decide_eq_true_eq] at sh2
    simp only [PyData.shown]
    exact .of_is (ReprIs.int t (by simpa using sh2)) _ _ _
  | _, _, _, .str x t, _, _, fits => by
    refine ⟨[], (fun _ z => nomatch z), ?_⟩
    have f2 := fits
    simp only [PyData.shown] at f2 ⊢
    exact .of_is (ReprIs.str x t f2) _ _ _
  | _, _, _, .list (a := a) (vs := vs) (xs := xs) g1 g2 g3 g4, sh, ok, fits => by
    have f2 := fits
    have s2 := sh
    simp only [PyData.shown] at f2
    simp only [PyData.showable] at s2
    obtain ⟨bs, hb, hk⟩ := kShowAll g4 s2 (ok.sub fun b hb => List.mem_cons_of_mem _ hb) fun t ht => Nat.le_trans (listText_mem_le ht) f2
    have whole : Reads h₀ (.ref a) (.list xs) _ := .list g1 g2 g3 g4
    have nin : a ∉ bs := not_mem_of_deeper whole (by simp only [PyData.depth]; omega) hb
    refine ⟨a :: bs, ReadAtMost.cons whole (by simp only [PyData.depth]; omega) hb, ?_⟩
    simp only [PyData.depth, PyData.shown]
    obtain ⟨items⟩ := vs
    match items, g3, g4, hk with
    | [], g3, g4, hk =>
      have g5 : ReadsAll h₀ [] xs _ := g4
      cases g5
      simp only [PyData.shownAll, listText_nil]
      exact ReprK.listEmpty g1 g2 g3
    | x :: l, g3, g4, hk => exact ReprK.list g1 g2 g3 nin (by simpa using hk.length_eq) fun i y e => hk.item i y (by simpa using e)
  | _, _, _, .tuple (a := a) (xs := xs) g1 g2 g3 g4, sh, ok, fits => by
    have f2 := fits
    have s2 := sh
    simp only [PyData.shown] at f2
    simp only [PyData.showable] at s2
    obtain ⟨bs, hb, hk⟩ := kShowAll g4 s2 ok fun t ht => Nat.le_trans (tupleText_mem_le ht) f2
    have whole : Reads h₀ (.ref a) (.tuple xs) _ := .tuple g1 g2 g3 g4
    refine ⟨a :: bs, ReadAtMost.cons whole (by simp only [PyData.depth]; omega) hb, ?_⟩
    simp only [PyData.depth, PyData.shown]
    exact ReprK.tuple g1 g2 g3 (not_mem_of_deeper whole (by simp only [PyData.depth]; omega) hb) hk
  | _, _, _, .dict (a := a) (o := o) (es := es) (kvs := kvs) (as := as1) (bs := bs1) g1 g2 g3 g4 g5, sh, ok, fits => by
    have f2 := fits
    have s2 := sh
    simp only [PyData.shown] at f2
    simp only [PyData.showable] at s2
    obtain ⟨sk, sv⟩ := PyData.showableKv_split kvs s2
    obtain ⟨b1, hb1, k1⟩ := kShowAll g4 sk (ok.sub fun b hb => List.mem_cons_of_mem _ (List.mem_append_left _ hb)) fun t ht => by
      obtain ⟨p, hp, hl⟩ := PyData.shownKv_key_le kvs t ht
      exact Nat.le_trans hl (Nat.le_trans (dictText_mem_le hp) f2)
    obtain ⟨b2, hb2, k2⟩ := kShowAll g5 sv (ok.sub fun b hb => List.mem_cons_of_mem _ (List.mem_append_right _ hb)) fun t ht => by
      obtain ⟨p, hp, hl⟩ := PyData.shownKv_val_le kvs t ht
      exact Nat.le_trans hl (Nat.le_trans (dictText_mem_le hp) f2)
    have whole : Reads h₀ (.ref a) (.dict kvs) _ := .dict g1 g2 g3 g4 g5
    have both : ReadAtMost h₀ (PyData.depthKv kvs) (b1 ++ b2) := (hb1.mono (PyData.depthAll_keys_le kvs)).append (hb2.mono (PyData.depthAll_vals_le kvs))
    have nsys : (a == sysModules) = false := by
      refine beq_eq_false_iff_ne.mpr fun e => ?_
      subst e
      exact ok o g1 g2 List.mem_cons_self
    refine ⟨a :: (b1 ++ b2), ReadAtMost.cons whole (by simp only [PyData.depth]; omega) both, ?_⟩
    simp only [PyData.depth, PyData.shown, PyData.shownKv_eq]
    have m1 := k1.more_le (d' := PyData.depthKv kvs) (as' := b1 ++ b2) (fun b hb => List.mem_append_left _ hb) (PyData.depthAll_keys_le kvs)
    have m2 := k2.more_le (d' := PyData.depthKv kvs) (as' := b1 ++ b2) (fun b hb => List.mem_append_right _ hb) (PyData.depthAll_vals_le kvs)
    exact ReprK.dict g1 g2 g3 nsys (not_mem_of_deeper whole (by simp only [PyData.depth]; omega) both) (ReprEntriesK.of_two es.toList _ _ m1 m2)
theorem kShowAll : ∀ {vs : List Value} {ds : List PyData} {as : List Addr}, ReadsAll h₀ vs ds as → PyData.showableAll ds = true → SysOk h₀ as → (∀ t ∈ PyData.shownAll ds, t.length ≤ sizeLine) → ∃ bs, ReadAtMost h₀ (PyData.depthAll ds) bs ∧ ReprAllK pg w bs h₀ (PyData.depthAll ds) vs (PyData.shownAll ds)
  | _, _, _, .nil, _, _, _ => by
    refine ⟨[], (fun _ z => nomatch z), ?_⟩
    simp only [PyData.shownAll]
    exact .nil
  | _, _, _, .cons (d := d) (ds := ds) r rs, sh, ok, fits => by
    have s2 := sh
    simp only [PyData.showableAll, Bool.and_eq_true] at s2
    have f2 := fits
    simp only [PyData.shownAll, List.mem_cons, forall_eq_or_imp] at f2
    obtain ⟨b1, hb1, k1⟩ := kShow r s2.1 (ok.sub fun b hb => List.mem_append_left _ hb) f2.1
    obtain ⟨b2, hb2, k2⟩ := kShowAll rs s2.2 (ok.sub fun b hb => List.mem_append_right _ hb) f2.2
    refine ⟨b1 ++ b2, ?_, ?_⟩
    · refine (hb1.mono ?_).append (hb2.mono ?_)
      · simp only [PyData.depthAll]; exact Nat.le_max_left _ _
      · simp only [PyData.depthAll]; exact Nat.le_max_right _ _
    · simp only [PyData.depthAll, PyData.shownAll]
      exact .cons ((k1.more fun b hb => List.mem_append_left _ hb).level_le (Nat.le_max_left _ _)) (k2.more_le (fun b hb => List.mem_append_right _ hb) (Nat.le_max_right _ _))
end
/-- repr of what is read -/
theorem repr_any {a : Addr} {d : PyData} {as : List Addr} {A : Around} {E : Value → Shared → Prop} {s : Shared} {Q : Value → Shared → Prop} (r : Reads h₀ (.ref a) d as) (sh : d.showable = true) (ok : SysOk h₀ as) (fits : d.shown.length ≤ sizeLine) (hg : A.guards = some []) (hu : A.units + (d.depth + 1) < cLine) (hk : ∀ b o, h₀.get? b = some o → s.heap.get? b = some o)
    (hQ : ∀ h' u tk, (∀ b o, s.heap.get? b = some o → h'.get? b = some o) → Q (.str d.shown u) { s with heap := h', toks := tk }) : wpAny (model pg w) A (call (.builtin "repr") [.ref a]) Q E s := by
  have hu1 : A.units + 1 < cLine := by omega
  have fin : ∀ h' u tk, (∀ b o, s.heap.get? b = some o → h'.get? b = some o) → ∃ x t, Value.str d.shown u = .str x t ∧ Q (.str d.shown u) { s with heap := h', toks := tk } := fun h' u tk k => ⟨_, _, rfl, hQ h' u tk k⟩
  cases r with
  | list g1 g2 g3 g4 =>
    rename_i o vs n xs bs
    have f2 := fits
    have s2 := sh
    simp only [PyData.shown] at f2
    simp only [PyData.showable] at s2
    obtain ⟨b1, hb, hk1⟩ := kShowAll (pg := pg) (w := w) g4 s2 (ok.sub fun b hb => List.mem_cons_of_mem _ hb) fun t ht => Nat.le_trans (listText_mem_le ht) f2
    have nin : a ∉ b1 := not_mem_of_deeper (.list g1 g2 g3 g4) (by simp only [PyData.depth]; omega) hb
    simp only [PyData.depth] at hu
    simp only [PyData.shown] at fin
    refine call_repr_slot hu1 ⟨o, hk _ _ g1, g2⟩ F.slot_list_repr.toG ?_
    obtain ⟨items⟩ := vs
    match items, g3, g4, hk1 with
    | [], g3, g4, hk1 =>
      have g5 : ReadsAll h₀ [] xs _ := g4
      cases g5
      simp only [PyData.shownAll, listText_nil] at fin
      exact call_list_repr_empty ⟨o, hk _ _ g1, g2⟩ (hk _ _ g1) g3 (fin s.heap _ _ fun _ _ e => e)
    | x :: l, g3, g4, hk1 => exact call_list_reprK g1 g2 g3 nin (by simpa using hk1.length_eq) (fun i y e => hk1.item i y (by simpa using e)) hg (fun b _ => Clear.nil b) (by show A.units + 1 + _ < cLine; omega) hk fin f2
  | tuple g1 g2 g3 g4 =>
    rename_i o vs n xs
    have f2 := fits
    have s2 := sh
    simp only [PyData.shown] at f2
    simp only [PyData.showable] at s2
    obtain ⟨b1, hb, hk1⟩ := kShowAll (pg := pg) (w := w) g4 s2 ok fun t ht => Nat.le_trans (tupleText_mem_le ht) f2
    simp only [PyData.depth] at hu
    simp only [PyData.shown] at fin
    refine call_repr_slot hu1 ⟨o, hk _ _ g1, g2⟩ F.slot_tuple_repr ?_
    exact call_tuple_reprK g1 g2 g3 (not_mem_of_deeper (.tuple g1 g2 g3 g4) (by simp only [PyData.depth]; omega) hb) hk1 hg (fun b _ => Clear.nil b) (by show A.units + 1 + _ < cLine; omega) hk fin f2
  | dict g1 g2 g3 g4 g5 =>
    rename_i o es n kvs as1 bs1
    have f2 := fits
    have s2 := sh
    simp only [PyData.shown] at f2
    simp only [PyData.showable] at s2
    obtain ⟨sk, sv⟩ := PyData.showableKv_split kvs s2
    obtain ⟨b1, hb1, k1⟩ := kShowAll (pg := pg) (w := w) g4 sk (ok.sub fun b hb => List.mem_cons_of_mem _ (List.mem_append_left _ hb)) fun t ht => by
      obtain ⟨p, hp, hl⟩ := PyData.shownKv_key_le kvs t ht
      exact Nat.le_trans hl (Nat.le_trans (dictText_mem_le hp) f2)
    obtain ⟨b2, hb2, k2⟩ := kShowAll (pg := pg) (w := w) g5 sv (ok.sub fun b hb => List.mem_cons_of_mem _ (List.mem_append_right _ hb)) fun t ht => by
      obtain ⟨p, hp, hl⟩ := PyData.shownKv_val_le kvs t ht
      exact Nat.le_trans hl (Nat.le_trans (dictText_mem_le hp) f2)
    have both : ReadAtMost h₀ (PyData.depthKv kvs) (b1 ++ b2) := (hb1.mono (PyData.depthAll_keys_le kvs)).append (hb2.mono (PyData.depthAll_vals_le kvs))
    have nsys : (a == sysModules) = false := by
      refine beq_eq_false_iff_ne.mpr fun e => ?_
      subst e
      exact ok o g1 g2 List.mem_cons_self
    have m1 := k1.more_le (d' := PyData.depthKv kvs) (as' := b1 ++ b2) (fun b hb => List.mem_append_left _ hb) (PyData.depthAll_keys_le kvs)
    have m2 := k2.more_le (d' := PyData.depthKv kvs) (as' := b1 ++ b2) (fun b hb => List.mem_append_right _ hb) (PyData.depthAll_vals_le kvs)
    simp only [PyData.depth] at hu
    simp only [PyData.shown, PyData.shownKv_eq] at fin
    rw [PyData.shownKv_eq] at f2
    refine call_repr_slot hu1 ⟨o, hk _ _ g1, g2⟩ F.slot_dict_repr ?_
    exact call_dict_reprK g1 g2 g3 nsys (not_mem_of_deeper (.dict g1 g2 g3 g4 g5) (by simp only [PyData.depth]; omega) both) (ReprEntriesK.of_two es.toList _ _ m1 m2) hg (fun b _ => Clear.nil b) (by show A.units + 1 + _ < cLine; omega) hk fin f2
end

/-! ### data is read -/
theorem sysOk_list {h : Heap} {a : Addr} {o : Obj} {as : List Addr} (ho : h.get? a = some o) (hc : o.cls = .type "list") (g : SysOk h as) : SysOk h (a :: as) := fun u e c m => by
  rcases List.mem_cons.mp m with z | z
  · rw [z, ho] at e
    cases e
    rw [hc] at c
    exact absurd c (by simp)
  · exact g u e c z
theorem sysOk_dict {h : Heap} {a : Addr} {as : List Addr} (ha : (a == sysModules) = false) (g : SysOk h as) : SysOk h (a :: as) := fun u e c m => by
  rcases List.mem_cons.mp m with z | z
  · rw [← z] at ha
    simp at ha
  · exact g u e c z
theorem sysOk_app {h : Heap} {as bs : List Addr} (g : SysOk h as) (g2 : SysOk h bs) : SysOk h (as ++ bs) := fun u e c m => by
  rcases List.mem_append.mp m with z | z
  · exact g u e c z
  · exact g2 u e c z
theorem sysOk_nil {h : Heap} : SysOk h [] := fun _ _ _ m => nomatch m
theorem key_reads {h : Heap} {k : Key} {v : Value} (e : keyIs k v = true) : Reads h v (keyD k) [] := by
  rcases keyIs_shape e with ⟨i, t, rfl, rfl⟩ | ⟨x, t, rfl, rfl⟩
  · exact .int _ _
  · exact .str _ _
section
variable {h : Heap} {pg : Program} {w : World}
theorem keys_read : ∀ {es : List (PyData × PyData)} {kvs : List (Key × V)} {vs : List (Key × Value)} {en : List DictEntry}, es.map (·.1) = kvs.map (fun kv => keyD kv.1) → KV kvs vs → Pairs (mixKind pg w) en vs → ReadsAll h (en.map (·.key)) (es.map (·.1)) []
  | [], [], _, _, _, .nil, .nil => .nil
  | (k, d) :: es, kv :: kvs, _, _, e, .cons r t, .cons p1 p2 p3 => by
    simp only [List.map_cons, List.cons.injEq] at e
    have q := keys_read (es := es) e.2 t p3
    have q1 := key_reads (h := h) (k := kv.1) (by rw [r.1]; exact p1)
    have q2 := ReadsAll.cons q1 q
    simp only [List.map_cons]
    rw [e.1]
    exact q2
  | [], _ :: _, _, _, e, _, _ => by simp at e
  | _ :: _, [], _, _, e, _, _ => by simp at e
theorem vals_read : ∀ {kvs : List (Key × V)} {vs : List (Key × Value)} {en : List DictEntry}, KV kvs vs → Pairs (mixKind pg w) en vs → Vals (kvs.map (·.2)) (en.map (·.val))
  | [], _, _, .nil, .nil => .nil
  | kv :: kvs, _, _, .cons r t, .cons p1 p2 p3 => by
    simp only [List.map_cons]
    refine .cons ?_ (vals_read t p3)
    rw [p2]
    exact r.2
end
section
variable {X : Cx} {pins : List (Addr × Obj)} {σ : L2.St} {H : Hp} {s : Shared}
mutual
theorem rp_reads (I : L2.Inv X pins σ H s) : ∀ (d : PyData) (v : V) (u : Value), Rp X.K H d v → RelV v u → ∃ as, Reads s.heap u d as ∧ SysOk s.heap as
  | .none, _, _, h, r => by
    cases h
    cases r
    exact ⟨[], .none, sysOk_nil⟩
  | .bool b, _, _, h, r => by
    cases h
    cases r
    exact ⟨[], .bool b, sysOk_nil⟩
  | .int i, _, _, h, r => by
    cases h
    obtain ⟨t, rfl⟩ := r
    exact ⟨[], .int i t, sysOk_nil⟩
  | .str x, _, _, h, r => by
    cases h
    obtain ⟨t, rfl⟩ := r
    exact ⟨[], .str x t, sysOk_nil⟩
  | .list ds, _, _, h, r => by
    cases h with
    | list hs ha =>
      cases r
      obtain ⟨its, rv, ⟨o, n, ho, hc, _, hd⟩, _⟩ := I.list hs.sq
      obtain ⟨as, hr, g⟩ := rpAll_reads I ds _ its ha rv
      exact ⟨_, .list ho hc hd hr, sysOk_list ho hc g⟩
  | .tuple ds, _, _, h, r => by
    cases h with
    | tuple hs ha =>
      cases r
      obtain ⟨its, rv, ⟨o, ho, hc, n, hd⟩, _⟩ := I.tuple (SqT.of hs)
      obtain ⟨as, hr, g⟩ := rpAll_reads I ds _ its ha rv
      exact ⟨_, .tuple ho hc hd hr, g⟩
  | .dict es, _, _, h, r => by
    cases h with
    | dict e k ra =>
      rename_i a o kvs
      cases r
      obtain ⟨_, _, hsys, vs, kv, o2, en, ep, ho, hx, hd, _, pr, _⟩ := I.hok _ _ e
      obtain ⟨bs, hb, g⟩ := rpAllE_reads I es _ _ ra (vals_read kv pr)
      refine ⟨_, .dict ho hx.1 hd (keys_read k kv pr) hb, ?_⟩
      exact sysOk_dict hsys (sysOk_app sysOk_nil g)
theorem rpAll_reads (I : L2.Inv X pins σ H s) : ∀ (ds : List PyData) (vs : List V) (us : List Value), RpAll X.K H ds vs → Vals vs us → ∃ as, ReadsAll s.heap us ds as ∧ SysOk s.heap as
  | [], _, _, h, r => by
    cases h
    cases r
    exact ⟨[], .nil, sysOk_nil⟩
  | d :: ds, _, _, h, r => by
    cases h with
    | cons h1 h2 =>
      cases r with
      | cons r1 r2 =>
        obtain ⟨as, q1, g1⟩ := rp_reads I d _ _ h1 r1
        obtain ⟨bs, q2, g2⟩ := rpAll_reads I ds _ _ h2 r2
        exact ⟨_, .cons q1 q2, sysOk_app g1 g2⟩
theorem rpAllE_reads (I : L2.Inv X pins σ H s) : ∀ (es : List (PyData × PyData)) (vs : List V) (us : List Value), RpAll X.K H (es.map (·.2)) vs → Vals vs us → ∃ as, ReadsAll s.heap us (es.map (·.2)) as ∧ SysOk s.heap as
  | [], _, _, h, r => by
    cases h
    cases r
    exact ⟨[], .nil, sysOk_nil⟩
  | (k, d) :: es, _, _, h, r => by
    cases h with
    | cons h1 h2 =>
      cases r with
      | cons r1 r2 =>
        obtain ⟨as, q1, g1⟩ := rp_reads I d _ _ h1 r1
        obtain ⟨bs, q2, g2⟩ := rpAllE_reads I es _ _ h2 r2
        exact ⟨_, .cons q1 q2, sysOk_app g1 g2⟩
end
end

/-! ### repr of any data -/
def rReprG (K : PySem.W.Frag) : List V → Hp → VK → Prop := fun vs H Q => ∃ v d, vs = [v] ∧ Rp K H d v ∧ d.showable = true ∧ d.shown.length ≤ sizeLine ∧ d.depth ≤ 60 ∧ Q (.str d.shown) H
section
variable [HasT] {X : Cx} {e a b c : Expr} {es : List Expr} {ρ : Nv} {Q : QE} {pos p p2 : Pos} {k : Nat}
theorem cr_reprG (C : Ctx X k) : CallR X (.builtin "repr") (rReprG X.K) := fun pins s σ H vs us Q I r h => by
  obtain ⟨v, d, rfl, hd, sh, fits, dp, q⟩ := h
  obtain ⟨u, rfl, ru⟩ := vals1 r
  have un := C.units
  have big : ∀ {a : Addr}, RelV (.ref a) u → Rp X.K H d (.ref a) → wpAny (model X.prog X.w) X.A (call (.builtin "repr") [u]) (EP X pins σ Q) X.xe s := by
    intro a ra hd
    obtain ⟨as, rd, ok⟩ := rp_reads I d _ u hd ra
    obtain rfl : u = Value.ref a := ra
    exact repr_any rd sh ok fits C.grd (by omega) (fun _ _ z => z) fun h' u tk hk => ⟨.str _, H, I.kept hk, ⟨_, rfl⟩, q⟩
  cases hd with
  | none => obtain rfl : u = Value.none := ru; exact PySem.P.repr_of_none ⟨.str _, H, I.tok _, ⟨_, rfl⟩, q⟩
  | bool b => obtain rfl : u = Value.bool b := ru; exact PySem.P.repr_of_bool ⟨.str _, H, I.tok _, ⟨_, rfl⟩, q⟩
  | int i => obtain ⟨t, rfl⟩ := ru; exact PySem.P.repr_of_int (by simpa [PyData.showable] using sh) ⟨.str _, H, I.tok _, ⟨_, rfl⟩, q⟩
  | str x => obtain ⟨t, rfl⟩ := ru; exact PySem.P.repr_of_str ⟨.str _, H, I.tok _, ⟨_, rfl⟩, q⟩ fits
  | list h1 h2 => exact big ru (.list h1 h2)
  | tuple h1 h2 => exact big ru (.tuple h1 h2)
  | dict h1 h2 h3 => exact big ru (.dict h1 h2 h3)
/-- may be shown, dicts among it -/
structure ShwG (d : PyData) : Prop where
  sh : d.showable = true
  len : d.shown.length ≤ sizeLine
  dp : d.depth ≤ 60
def reprG : Nv → AV → (AV → Prop) → Prop := fun _ x q => ∃ d, x = .dat d ∧ ShwG d ∧ q (.dat (.str d.shown))
theorem EW.reprG (C : Ctx X k) (h : EW X e ρ fun x ρ1 => AW.reprG ρ1 x fun z => Q z ρ1) (hg : Gl X "repr" := by rfl) (he : starEach [e] X.env = (false, eval e X.env) :: starEach [] X.env := by rfl) (hpl : (backTo pos (starEach [] X.env)).any (·.1) = false := by rfl) : EW X (.Call (.Name "repr" p) [e] [] pos) ρ Q :=
  EW.b1 (cr_reprG C) (fun σ H0 H ρ x v q R E V ⟨d, hd, w, t⟩ kk => by subst hd; exact ⟨v, d, rfl, V, w.sh, w.len, w.dp, kk _ H _ (Pex.refl E) (vdat (.str _)) t⟩) C.blt.repr (by decide +kernel) h hg (by decide) (by decide) he hpl
end
end AW

/-! AW50: dict displays with a text as their key; none. -/
namespace AW
variable [HasT]
open PySem PySem.Spec PyProof.Rows L2
section
variable {X : Cx} {ke ve : Expr} {ρ : Nv} {Q : QE} {pos : Pos}
/-- {k: v} -/
theorem EW.disp1S (h : EW X ke ρ fun x ρ1 => EW X ve ρ1 fun y ρ2 => ∃ (i : Str) (d : PyData), x = .dat (.str i) ∧ y = .dat d ∧ Q (.dat (.dict [(.str i, d)])) ρ2) : EW X (.Dict [some ke] [ve] pos) ρ Q := fun σ H R E kk pins s I => by
  refine thn ((pe_disp (pps_cons pe_W pe_W pps_nil) rfl rfl (by simp) (by simp)).run pins s σ H (fun x H' => ∃ p kvs, x = .ref p ∧ H' p = some (.dK kvs) ∧ ∀ od, R (.ref p) (upd H' p (.frz od (.dK kvs)))) I fun p n => ?_) fun u s' z => ?_
  · have E1 := E.new (o := .dK []) n
    refine h σ _ _ E1 fun v H1 x ρ1 P1 V1 q1 => q1 σ H1 _ P1.ok fun w H2 y ρ2 P2 V2 ⟨i, d, ex, ey, q⟩ => ?_
    subst ex
    subst ey
    obtain rfl := Rp.str_inv V1
    have nt : Ntb (.dK []) := fun ps z => by cases z
    have e1 : H1 p = some (.dK []) := P1.kp p _ upd_same (upd_mine E (Pex.new E n (o := .dK [])) n) nt
    have e2 : H2 p = some (.dK []) := P2.kp p _ e1 (upd_mine E ((Pex.new E n (o := .dK [])).trans P1) n) nt
    refine ⟨e2, [(.inr i, w)], rfl, by simp, p, _, rfl, upd_same, fun od => ?_⟩
    rw [upd2]
    have st : Stb H2 (upd H2 p (.frz od (.dK (mergeK [] [(.inr i, w)])))) := fun b o im hb => by rw [upd_ne (fun z => by rw [z, e2] at hb; cases hb; exact im)]; exact hb
    have P0 : Pex X.K H ρ σ H2 ρ2 := ((Pex.new E n).trans P1).trans P2
    refine kk _ _ (.dat (.dict [(.str i, d)])) ρ2 ⟨fun b o hb m t => ?_, fun b o hb => ?_, P0.so, P0.os, ⟨P0.ok.len, fun j sv hj => ?_, P0.ok.sep, tabs_stepD (fun b o hb nl => ?_) P0.ok.tb⟩⟩ ?_ q
    · rw [upd_ne (fun z => by rw [z, n] at hb; cases hb)]
      exact P0.kp b o hb m t
    · by_cases z : b = p
      · subst z; exact ⟨_, upd_same⟩
      · rw [upd_ne z]; exact P0.th b o hb
    · obtain ⟨u, eu, so⟩ := P0.ok.get j sv hj
      refine ⟨u, eu, ?_⟩
      cases sv with
      | un => trivial
      | dat d => obtain ⟨v, e3, r3⟩ := so; exact ⟨v, e3, Rp.mono st _ _ r3⟩
      | hol p3 ds3 =>
        obtain ⟨b, ws3, rfl, q3, r3⟩ := so
        refine ⟨b, ws3, rfl, ?_, RpAll.mono st _ _ r3⟩
        rw [upd_ne (fun z => by rw [z, e2] at q3; cases q3)]
        exact q3
      | dic ds3 =>
        obtain ⟨b, o3, ws3, rfl, q3, k3, r3⟩ := so
        refine ⟨b, o3, ws3, rfl, ?_, k3, RpAll.mono st _ _ r3⟩
        rw [upd_ne (fun z => by subst z; exact upd_mine E P0 n ⟨j, _, hj, trivial, eu⟩)]
        exact q3
    · rw [upd_ne (fun z => by rw [z, e2] at hb; cases hb; exact nl _ rfl)]
      exact hb
    · exact Rp.dict upd_same rfl (.cons (Rp.mono st _ _ V2) .nil)
  · obtain ⟨x, H', I', rx, p, kvs, rfl, e, q⟩ := z
    obtain ⟨od, I2⟩ := I'.lock e trivial
    exact ⟨_, _, I2, rx, q od⟩
/-- {} -/
theorem EW.disp0 (h : Q (.dat (.dict [])) ρ) : EW X (.Dict [] [] pos) ρ Q := fun σ H R E kk pins s I => by
  refine thn (pe_dnewK.run pins s σ H (fun x H' => ∃ p, x = .ref p ∧ H p = none ∧ H' = upd H p (.dK [])) I fun p n => ⟨p, rfl, n, rfl⟩) fun u s' z => ?_
  obtain ⟨x, H', I', rx, p, rfl, n, rfl⟩ := z
  obtain ⟨od, I2⟩ := I'.lock upd_same trivial
  have e2 : upd (upd H p (.dK [])) p (.frz od (.dK [])) = upd H p (.frz od (.dK [])) := upd_upd
  rw [e2] at I2
  exact ⟨_, _, I2, rx, kk _ _ _ _ (Pex.new E n) (vdat (Rp.dict (es := []) (kvs := []) upd_same rfl .nil)) h⟩
end
end AW

/-! AW51: data of any kind that may be shown: leaves of at most 301 signs, at most n parts, at most m deep. -/
namespace AW
variable [HasT]
open PySem PySem.Spec PyProof.Rows L2 PySem.StrLaws
structure Gd (n m : Nat) (d : PyData) : Prop where
  sh : d.showable = true
  lv : d.leavesShort 301 = true
  bk : d.bulk ≤ n
  dp : d.depth ≤ m
structure GdAll (n m : Nat) (ds : List PyData) : Prop where
  sh : PyData.showableAll ds = true
  lv : PyData.leavesShortAll 301 ds = true
  bk : PyData.bulkAll ds ≤ n
  dp : PyData.depthAll ds ≤ m
theorem Gd.of {n m : Nat} {d : PyData} (h : Sm 301 n m d) : Gd n m d := ⟨h.sh, h.lv, h.bk, h.dp⟩
theorem GdAll.of {n m : Nat} {ds : List PyData} (h : SmAll 301 n m ds) : GdAll n m ds := ⟨h.sh, h.lv, h.bk, h.dp⟩
theorem Gd.mono {n m n' m' : Nat} {d : PyData} (h : Gd n m d) (hn : n ≤ n') (hm : m ≤ m') : Gd n' m' d := ⟨h.sh, h.lv, Nat.le_trans h.bk hn, Nat.le_trans h.dp hm⟩
theorem GdAll.mono {n m n' m' : Nat} {ds : List PyData} (h : GdAll n m ds) (hn : n ≤ n') (hm : m ≤ m') : GdAll n' m' ds := ⟨h.sh, h.lv, Nat.le_trans h.bk hn, Nat.le_trans h.dp hm⟩
theorem Gd.none : Gd 0 0 .none := .of .none
theorem Gd.bool (b : Bool) : Gd 0 0 (.bool b) := .of (.bool b)
theorem Gd.int {i : Int} (k : Nat) (h : i.natAbs < 10 ^ k) (hk : k ≤ 250 ∧ 0 < k ∧ k + 1 ≤ 301 := by decide) : Gd 0 0 (.int i) := .of (.int k h hk)
theorem Gd.str {x : Str} (h : x.cps.toList.all (fun c => decide (c < 1114112)) = true) : Gd x.length 0 (.str x) := .of (.str h)
theorem GdAll.nil : GdAll 0 0 [] := .of .nil
theorem GdAll.cons {n m n' m' : Nat} {d : PyData} {ds : List PyData} (h : Gd n m d) (t : GdAll n' m' ds) : GdAll (n + 1 + n') (max m m') (d :: ds) := by
  obtain ⟨a1, a2, a3, a4⟩ := h
  obtain ⟨b1, b2, b3, b4⟩ := t
  refine ⟨?_, ?_, ?_, ?_⟩
  · simp only [PyData.showableAll, a1, b1, Bool.and_self]
  · simp only [PyData.leavesShortAll, a2, b2, Bool.and_self]
  · simp only [PyData.bulkAll]; omega
  · simp only [PyData.depthAll]; omega
theorem GdAll.all {n m : Nat} : ∀ {ds : List PyData}, (∀ d ∈ ds, Gd n m d) → GdAll (ds.length * (n + 1)) m ds
  | [], _ => GdAll.nil.mono (Nat.zero_le _) (Nat.zero_le _)
  | d :: ds, h => by
    refine (GdAll.cons (h d List.mem_cons_self) (GdAll.all fun e he => h e (List.mem_cons_of_mem _ he))).mono ?_ (by omega)
    rw [List.length_cons, Nat.add_mul]
    omega
theorem Gd.list {n m : Nat} {ds : List PyData} (h : GdAll n m ds) : Gd n (m + 1) (.list ds) := by
  obtain ⟨b1, b2, b3, b4⟩ := h
  exact ⟨by simpa only [PyData.showable] using b1, by simpa only [PyData.leavesShort] using b2, by simpa only [PyData.bulk] using b3, by simp only [PyData.depth]; omega⟩
theorem Gd.tuple {n m : Nat} {ds : List PyData} (h : GdAll n m ds) : Gd n (m + 1) (.tuple ds) := by
  obtain ⟨b1, b2, b3, b4⟩ := h
  exact ⟨by simpa only [PyData.showable] using b1, by simpa only [PyData.leavesShort] using b2, by simpa only [PyData.bulk] using b3, by simp only [PyData.depth]; omega⟩
theorem Gd.dict0 : Gd 0 1 (.dict []) := ⟨by decide +kernel, by decide +kernel, by decide +kernel, by decide +kernel⟩
theorem Gd.dict1 {n m : Nat} {d : PyData} {x : Str} (hx : x.cps.toList.all (fun c => decide (c < 1114112)) = true) (h : Gd n m d) : Gd (x.length + n + 2) (m + 1) (.dict [(.str x, d)]) := by
  obtain ⟨a1, a2, a3, a4⟩ := h
  obtain ⟨k1, k2, k3, k4⟩ := Gd.str hx
  refine ⟨?_, ?_, ?_, ?_⟩
  · simp only [PyData.showable, PyData.showableKv] at k1 ⊢
    simp [a1]
  · simp only [PyData.leavesShort, PyData.leavesShortKv] at k2 ⊢
    simp only [k2, a2, Bool.and_self]
  · simp only [PyData.bulk, PyData.bulkKv] at k3 ⊢
    omega
  · simp only [PyData.depth, PyData.depthKv] at k4 ⊢
    omega
theorem Gd.shw {n m : Nat} {d : PyData} (h : Gd n m d) (hm : m ≤ 60) (hn : n ≤ 50000) : ShwG d := by
  refine ⟨h.sh, ?_, Nat.le_trans h.dp hm⟩
  have e := PyData.shown_le_bulk 301 (by decide) d h.lv
  have b := h.bk
  have : (sizeLine : Nat) = 16777216 := sizeLine_eq
  have : (301 + 2) * d.bulk ≤ 303 * 50000 := Nat.mul_le_mul_left _ (Nat.le_trans b hn)
  omega
theorem Gd.tupI {ws : List Int} (k : Nat) (h : ∀ x ∈ ws, x.natAbs < 10 ^ k) (hk : k ≤ 250 ∧ 0 < k ∧ k + 1 ≤ 301 := by decide) : Gd ws.length 1 (.tuple (ws.map .int)) :=
  (Gd.tuple (GdAll.all (n := 0) (m := 0) (ds := ws.map .int) fun d hd => by
    obtain ⟨n, hn, rfl⟩ := List.mem_map.mp hd
    exact .int k (h n hn) hk)).mono (by simp) (Nat.le_refl _)
end AW

/-! AW52: values of any kind: ints of some hundred figures, plain texts; they grow by steps. -/
namespace AW
variable [HasT]
open PySem PySem.Spec PyProof.Rows L2 PySem.StrLaws
mutual
def okL (B : Nat) : PyData → Bool
  | .none => true
  | .bool _ => true
  | .int i => decide (i.natAbs ≤ 10 ^ 100 + B)
  | .str x => x.cps.toList.all fun c => decide (c < 128)
  | .list ds => okAll B ds
  | .tuple ds => okAll B ds
  | .dict kv => okKv B kv
def okAll (B : Nat) : List PyData → Bool
  | [] => true
  | d :: ds => okL B d && okAll B ds
def okKv (B : Nat) : List (PyData × PyData) → Bool
  | [] => true
  | (k, v) :: r => okL B k && okL B v && okKv B r
end
section
variable {B B' : Nat}
theorem ok_int {i : Int} (hB : B ≤ 10 ^ 100) (h : i.natAbs ≤ 10 ^ 100 + B) : Gd 0 0 (.int i) := .int 101 (by
  have e : (10 : Nat) ^ 101 = 10 * 10 ^ 100 := by rw [Nat.pow_succ, Nat.mul_comm]
  have p : 0 < (10 : Nat) ^ 100 := Nat.pow_pos (by decide)
  omega)
theorem ok_str {x : Str} (h : okL B (.str x) = true) : x.cps.toList.all (fun c => decide (c < 1114112)) = true := by
  simp only [okL] at h
  rw [List.all_eq_true] at h ⊢
  intro c hc
  have := of_decide_eq_true (h c hc)
  exact decide_eq_true (by omega)
mutual
theorem okL_sh (hB : B ≤ 10 ^ 100) : ∀ d : PyData, okL B d = true → d.showable = true ∧ d.leavesShort 301 = true
  | .none, _ => ⟨Gd.none.sh, Gd.none.lv⟩
  | .bool b, _ => ⟨(Gd.bool b).sh, (Gd.bool b).lv⟩
  | .int i, h => by
    have g := ok_int hB (of_decide_eq_true (show decide (i.natAbs ≤ 10 ^ 100 + B) = true from h))
    exact ⟨g.sh, g.lv⟩
  | .str x, h => ⟨(Gd.str (ok_str h)).sh, (Gd.str (ok_str h)).lv⟩
  | .list ds, h => by
    obtain ⟨a, b⟩ := okAll_sh hB ds (by simpa only [okL] using h)
    exact ⟨by simpa only [PyData.showable] using a, by simpa only [PyData.leavesShort] using b⟩
  | .tuple ds, h => by
    obtain ⟨a, b⟩ := okAll_sh hB ds (by simpa only [okL] using h)
    exact ⟨by simpa only [PyData.showable] using a, by simpa only [PyData.leavesShort] using b⟩
  | .dict kv, h => by
    obtain ⟨a, b⟩ := okKv_sh hB kv (by simpa only [okL] using h)
    exact ⟨by simpa only [PyData.showable] using a, by simpa only [PyData.leavesShort] using b⟩
theorem okAll_sh (hB : B ≤ 10 ^ 100) : ∀ ds : List PyData, okAll B ds = true → PyData.showableAll ds = true ∧ PyData.leavesShortAll 301 ds = true
  | [], _ => ⟨by simp only [PyData.showableAll], by simp only [PyData.leavesShortAll]⟩
  | d :: ds, h => by
    simp only [okAll, Bool.and_eq_true] at h
    obtain ⟨a, b⟩ := okL_sh hB d h.1
    obtain ⟨a2, b2⟩ := okAll_sh hB ds h.2
    exact ⟨by simp only [PyData.showableAll, a, a2, Bool.and_self], by simp only [PyData.leavesShortAll, b, b2, Bool.and_self]⟩
theorem okKv_sh (hB : B ≤ 10 ^ 100) : ∀ kv : List (PyData × PyData), okKv B kv = true → PyData.showableKv kv = true ∧ PyData.leavesShortKv 301 kv = true
  | [], _ => ⟨by simp only [PyData.showableKv], by simp only [PyData.leavesShortKv]⟩
  | (k, v) :: r, h => by
    simp only [okKv, Bool.and_eq_true] at h
    obtain ⟨a, b⟩ := okL_sh hB k h.1.1
    obtain ⟨a2, b2⟩ := okL_sh hB v h.1.2
    obtain ⟨a3, b3⟩ := okKv_sh hB r h.2
    exact ⟨by simp only [PyData.showableKv, a, a2, a3, Bool.and_self], by simp only [PyData.leavesShortKv, b, b2, b3, Bool.and_self]⟩
end
mutual
theorem okL_mono (hB : B ≤ B') : ∀ d : PyData, okL B d = true → okL B' d = true
  | .none, _ => rfl
  | .bool b, _ => rfl
  | .int i, h => by
    have := of_decide_eq_true (show decide (i.natAbs ≤ 10 ^ 100 + B) = true from h)
    exact decide_eq_true (p := i.natAbs ≤ 10 ^ 100 + B') (by omega)
  | .str x, h => h
  | .list ds, h => by simpa only [okL] using okAll_mono hB ds (by simpa only [okL] using h)
  | .tuple ds, h => by simpa only [okL] using okAll_mono hB ds (by simpa only [okL] using h)
  | .dict kv, h => by simpa only [okL] using okKv_mono hB kv (by simpa only [okL] using h)
theorem okAll_mono (hB : B ≤ B') : ∀ ds : List PyData, okAll B ds = true → okAll B' ds = true
  | [], _ => rfl
  | d :: ds, h => by
    simp only [okAll, Bool.and_eq_true] at h ⊢
    exact ⟨okL_mono hB d h.1, okAll_mono hB ds h.2⟩
theorem okKv_mono (hB : B ≤ B') : ∀ kv : List (PyData × PyData), okKv B kv = true → okKv B' kv = true
  | [], _ => rfl
  | (k, v) :: r, h => by
    simp only [okKv, Bool.and_eq_true] at h ⊢
    exact ⟨⟨okL_mono hB k h.1.1, okL_mono hB v h.1.2⟩, okKv_mono hB r h.2⟩
end
theorem okAll_mem : ∀ {ds : List PyData}, okAll B ds = true ↔ ∀ d ∈ ds, okL B d = true
  | [] => by simp [okAll]
  | d :: ds => by simp only [okAll, Bool.and_eq_true, List.mem_cons, forall_eq_or_imp, okAll_mem (ds := ds)]
theorem bulk_app : ∀ (xs ys : List PyData), PyData.bulkAll (xs ++ ys) = PyData.bulkAll xs + PyData.bulkAll ys
  | [], ys => by simp only [List.nil_append, PyData.bulkAll, Nat.zero_add]
  | x :: xs, ys => by simp only [List.cons_append, PyData.bulkAll, bulk_app xs ys]; omega
theorem depth_app : ∀ (xs ys : List PyData), PyData.depthAll (xs ++ ys) = max (PyData.depthAll xs) (PyData.depthAll ys)
  | [], ys => by simp only [List.nil_append, PyData.depthAll, Nat.zero_max]
  | x :: xs, ys => by simp only [List.cons_append, PyData.depthAll, depth_app xs ys]; omega
theorem bulk_mem : ∀ {xs : List PyData} {d : PyData}, d ∈ xs → d.bulk + 1 ≤ PyData.bulkAll xs ∧ d.depth ≤ PyData.depthAll xs
  | x :: xs, d, h => by
    simp only [PyData.bulkAll, PyData.depthAll]
    rcases List.mem_cons.mp h with rfl | h
    · omega
    · have := bulk_mem h
      omega
end
/-- a value of any kind: its ints are at most 10 ** 100 + B, its texts plain; n parts, m deep -/
structure Bg (B n m : Nat) (d : PyData) : Prop where
  ok : okL B d = true
  bk : d.bulk ≤ n
  dp : d.depth ≤ m
structure BgAll (B n m : Nat) (ds : List PyData) : Prop where
  ok : okAll B ds = true
  bk : PyData.bulkAll ds ≤ n
  dp : PyData.depthAll ds ≤ m
section
variable {B n m B' n' m' : Nat} {d : PyData} {ds : List PyData}
theorem Bg.gd (h : Bg B n m d) (hB : B ≤ 10 ^ 100) : Gd n m d := ⟨(okL_sh hB d h.ok).1, (okL_sh hB d h.ok).2, h.bk, h.dp⟩
theorem Bg.mono (h : Bg B n m d) (hB : B ≤ B') (hn : n ≤ n') (hm : m ≤ m') : Bg B' n' m' d := ⟨okL_mono hB d h.ok, Nat.le_trans h.bk hn, Nat.le_trans h.dp hm⟩
theorem BgAll.mono (h : BgAll B n m ds) (hB : B ≤ B') (hn : n ≤ n') (hm : m ≤ m') : BgAll B' n' m' ds := ⟨okAll_mono hB ds h.ok, Nat.le_trans h.bk hn, Nat.le_trans h.dp hm⟩
theorem Bg.none : Bg B 0 0 .none := ⟨rfl, Gd.none.bk, Gd.none.dp⟩
theorem Bg.bool (b : Bool) : Bg B 0 0 (.bool b) := ⟨rfl, (Gd.bool b).bk, (Gd.bool b).dp⟩
theorem Bg.int {i : Int} (h : i.natAbs ≤ 10 ^ 100 + B) : Bg B 0 0 (.int i) := ⟨decide_eq_true (p := i.natAbs ≤ 10 ^ 100 + B) h, by simp only [PyData.bulk]; exact Nat.le_refl _, by simp only [PyData.depth]; exact Nat.le_refl _⟩
theorem Bg.str {x : Str} (h : x.cps.toList.all (fun c => decide (c < 128)) = true) : Bg B x.length 0 (.str x) := ⟨h, by simp only [PyData.bulk]; exact Nat.le_refl _, by simp only [PyData.depth]; exact Nat.le_refl _⟩
theorem BgAll.nil : BgAll B 0 0 [] := ⟨rfl, by simp only [PyData.bulkAll]; exact Nat.le_refl _, by simp only [PyData.depthAll]; exact Nat.le_refl _⟩
theorem BgAll.cons (h : Bg B n m d) (t : BgAll B n' m' ds) : BgAll B (n + 1 + n') (max m m') (d :: ds) := by
  obtain ⟨a1, a2, a3⟩ := h
  obtain ⟨b1, b2, b3⟩ := t
  exact ⟨by simp only [okAll, a1, b1, Bool.and_self], by simp only [PyData.bulkAll]; omega, by simp only [PyData.depthAll]; omega⟩
theorem BgAll.app {xs ys : List PyData} (h : BgAll B n m xs) (t : BgAll B n' m' ys) : BgAll B (n + n') (max m m') (xs ++ ys) := by
  obtain ⟨a1, a2, a3⟩ := h
  obtain ⟨b1, b2, b3⟩ := t
  refine ⟨okAll_mem.mpr fun d hd => ?_, by rw [bulk_app]; omega, by rw [depth_app]; omega⟩
  rcases List.mem_append.mp hd with q | q
  · exact okAll_mem.mp a1 d q
  · exact okAll_mem.mp b1 d q
theorem Bg.list (h : BgAll B n m ds) : Bg B n (m + 1) (.list ds) := ⟨by simpa only [okL] using h.ok, by simpa only [PyData.bulk] using h.bk, by have := h.dp; simp only [PyData.depth]; omega⟩
theorem Bg.tuple (h : BgAll B n m ds) : Bg B n (m + 1) (.tuple ds) := ⟨by simpa only [okL] using h.ok, by simpa only [PyData.bulk] using h.bk, by have := h.dp; simp only [PyData.depth]; omega⟩
theorem Bg.dict0 : Bg B 0 1 (.dict []) := ⟨rfl, Gd.dict0.bk, Gd.dict0.dp⟩
theorem Bg.dict1 {x : Str} (hx : x.cps.toList.all (fun c => decide (c < 128)) = true) (h : Bg B n m d) : Bg B (x.length + n + 2) (m + 1) (.dict [(.str x, d)]) := by
  obtain ⟨a1, a2, a3⟩ := h
  obtain ⟨k1, k2, k3⟩ := Bg.str (B := B) hx
  refine ⟨?_, ?_, ?_⟩
  · simp only [okL, okKv, Bool.and_true, Bool.and_eq_true] at k1 ⊢
    exact ⟨k1, a1⟩
  · simp only [PyData.bulk, PyData.bulkKv] at k2 ⊢
    omega
  · simp only [PyData.depth, PyData.depthKv] at k3 ⊢
    omega
theorem Bg.parts (h : Bg B n m (.tuple ds)) : BgAll B n (m - 1) ds ∧ 1 ≤ m := by
  obtain ⟨a1, a2, a3⟩ := h
  simp only [okL] at a1
  simp only [PyData.bulk] at a2
  simp only [PyData.depth] at a3
  exact ⟨⟨a1, a2, by omega⟩, by omega⟩
theorem BgAll.sub {es : List PyData} (h : BgAll B n m ds) (hs : ∀ d ∈ es, d ∈ ds) (hb : PyData.bulkAll es ≤ n') : BgAll B n' m es := by
  refine ⟨okAll_mem.mpr fun d hd => okAll_mem.mp h.ok d (hs d hd), hb, ?_⟩
  have : ∀ l : List PyData, (∀ d ∈ l, d.depth ≤ m) → PyData.depthAll l ≤ m := fun l => by
    induction l with
    | nil => intro _; simp only [PyData.depthAll]; exact Nat.zero_le _
    | cons x l ih =>
      intro q
      simp only [PyData.depthAll]
      exact Nat.max_le.mpr ⟨q x List.mem_cons_self, ih fun d hd => q d (List.mem_cons_of_mem _ hd)⟩
  exact this es fun d hd => Nat.le_trans (bulk_mem (hs d hd)).2 h.dp
theorem BgAll.mem (h : BgAll B n m ds) {d : PyData} (hd : d ∈ ds) : Bg B n m d := ⟨okAll_mem.mp h.ok d hd, by have := (bulk_mem hd).1; have := h.bk; omega, Nat.le_trans (bulk_mem hd).2 h.dp⟩
end
end AW

/-! AW53: a tuple of anything is asked whether it has parts; texts in capitals. -/
namespace AW
variable [HasT]
open PySem PySem.Spec PyProof.Rows L2
section
variable {X : Cx} {o : Expr} {ρ : Nv} {Q : QE} {apos pos : Pos} {k : Nat}
/-- x != () -/
def neNil : R2A := fun _ x y q => ∃ ds : List PyData, x = .dat (.tuple ds) ∧ y = .dat (.tuple []) ∧ q (.dat (.bool (!ds.isEmpty)))
theorem opNn (C : Ctx X k) : OpA X (compareOp .NotEq) neNil := fun pins s σ H0 H ρ x y v u vv uu q I E V U rv ru hq => by
  obtain ⟨ds, rfl, rfl, hq⟩ := hq
  obtain ⟨m, xs, rfl, r1, p1⟩ := seqT_ok (ds := ds) V rfl
  obtain ⟨n, ys, rfl, r2, p2⟩ := seqT_ok (ds := []) U rfl
  cases rv
  cases ru
  obtain ⟨as, v1, t1, _⟩ := I.tuple r1
  obtain ⟨bs, v2, t2, _⟩ := I.tuple r2
  have l1 : as.length = ds.length := by rw [← v1.length, ← p1.length]
  have l2 : bs = [] := List.eq_nil_of_length_eq_zero (by rw [← v2.length, ← p2.length]; rfl)
  subst l2
  refine SeqAt.RcNeAt.tuples (e := fun _ => true) (show s.heap.IsTuple m as.toArray from t1) (show s.heap.IsTuple n #[] from t2) (by have := C.units; omega) (fun j _ h2 => absurd h2 (Nat.not_lt_zero j)) _ _ _ _ ?_
  refine ⟨.bl (!ds.isEmpty), H, _, ρ, I, ?_, Pex.refl E, vdat (.bool _), rfl, hq⟩
  have e : (!((List.range (min as.toArray.size (#[] : Array Value).size)).all (fun _ => true) && as.toArray.size == (#[] : Array Value).size)) = !ds.isEmpty := by
    cases ds with
    | nil =>
      have : as = [] := List.eq_nil_of_length_eq_zero l1
      subst this
      rfl
    | cons d ds =>
      have hz : as.length ≠ 0 := by rw [l1]; simp
      simp [hz]
  rw [e]
  exact rfl
theorem neNil_ok {ρ : Nv} {ds : List PyData} {q : AV → Prop} (h : q (.dat (.bool (!ds.isEmpty)))) : neNil ρ (.dat (.tuple ds)) (.dat (.tuple [])) q := ⟨ds, rfl, rfl, h⟩
/-- x.upper() -/
theorem EW.upper (h : EW X o ρ fun x ρ1 => ∃ z : Str, x = .dat (.str z) ∧ z.length ≤ 5592405 ∧ Q (.dat (.str (Txt.upper z))) ρ1) (hbase : attributeBase o "upper" X.env (eval o X.env) = eval o X.env := by rfl) (hline : (apos.endLine == pos.line) = true := by rfl) :
    EW X (.Call (.Attribute o "upper" apos) [] [] pos) ρ Q := fun σ H R E kk pins s I =>
  (pe_upper pe_W hbase hline).run pins s σ H R I (h σ H _ E fun v H1 x ρ1 P1 V1 ⟨z, ex, hl, q1⟩ => by
    subst ex
    obtain rfl := Rp.str_inv V1
    exact ⟨⟨z, rfl⟩, z, rfl, rfl, hl, kk _ H1 _ _ P1 (vdat (.str _)) q1⟩)
end
/-! ### truth values as ints -/
section
variable {X : Cx} {a b e : Expr} {ρ : Nv} {Q : QE} {pos p : Pos} {k : Nat}
abbrev bi (b : Bool) : Int := if b = true then 1 else 0
def addBI : R2A := fun _ x y q => ∃ (t : Bool) (i : Int), x = .dat (.bool t) ∧ y = .dat (.int i) ∧ q (.dat (.int (bi t + i)))
def subBI : R2A := fun _ x y q => ∃ (t : Bool) (i : Int), x = .dat (.bool t) ∧ y = .dat (.int i) ∧ q (.dat (.int (bi t - i)))
def subIB : R2A := fun _ x y q => ∃ (i : Int) (t : Bool), x = .dat (.int i) ∧ y = .dat (.bool t) ∧ q (.dat (.int (i - bi t)))
theorem opAddBI : OpA X (binaryOp .Add) addBI := fun pins s σ H0 H ρ x y v u vv uu q I E V U rv ru hq => by
  obtain ⟨t, i, rfl, rfl, hq⟩ := hq
  obtain rfl := Rp.bool_inv V
  obtain rfl := Rp.int_inv U
  cases rv
  obtain ⟨z, rfl⟩ := ru
  exact PySem.IntBool.add_bool_int ⟨.int _, H, _, ρ, I.tok _, ⟨_, rfl⟩, Pex.refl E, vdat (.int _), rfl, hq⟩
theorem opSubBI : OpA X (binaryOp .Sub) subBI := fun pins s σ H0 H ρ x y v u vv uu q I E V U rv ru hq => by
  obtain ⟨t, i, rfl, rfl, hq⟩ := hq
  obtain rfl := Rp.bool_inv V
  obtain rfl := Rp.int_inv U
  cases rv
  obtain ⟨z, rfl⟩ := ru
  exact PySem.IntBool.sub_bool_int ⟨.int _, H, _, ρ, I.tok _, ⟨_, rfl⟩, Pex.refl E, vdat (.int _), rfl, hq⟩
theorem opSubIB : OpA X (binaryOp .Sub) subIB := fun pins s σ H0 H ρ x y v u vv uu q I E V U rv ru hq => by
  obtain ⟨i, t, rfl, rfl, hq⟩ := hq
  obtain rfl := Rp.int_inv V
  obtain rfl := Rp.bool_inv U
  cases ru
  obtain ⟨z, rfl⟩ := rv
  exact PySem.IntBool.sub_int_bool ⟨.int _, H, _, ρ, I.tok _, ⟨_, rfl⟩, Pex.refl E, vdat (.int _), rfl, hq⟩
theorem call_str_bool : CallR X (.type "str") (fun xs H Q => ∃ t : Bool, xs = [.bl t] ∧ Q (.str (if t then "True" else "False")) H) := by
  intro pins s σ H xs us Q I r h
  obtain ⟨t, rfl, q⟩ := h
  obtain ⟨u, rfl, r1⟩ := vals1 r
  cases r1
  exact PySem.P.str_of_bool ⟨.str _, H, I.tok _, ⟨_, rfl⟩, q⟩
def strBR : Nv → AV → (AV → Prop) → Prop := fun _ x q => ∃ t : Bool, x = .dat (.bool t) ∧ q (.dat (.str (if t then "True" else "False")))
theorem EW.strB (C : Ctx X k) (h : EW X e ρ fun x ρ1 => strBR ρ1 x fun z => Q z ρ1) (hg : Gl X "str" := by rfl) (he : starEach [e] X.env = (false, eval e X.env) :: starEach [] X.env := by rfl) (hpl : (backTo pos (starEach [] X.env)).any (·.1) = false := by rfl) : EW X (.Call (.Name "str" p) [e] [] pos) ρ Q :=
  EW.t1 call_str_bool (fun σ H0 H ρ x v q R E V ⟨i, ex, t⟩ kk => by subst ex; obtain rfl := Rp.bool_inv V; exact ⟨i, rfl, kk _ H _ (Pex.refl E) (vdat (.str _)) t⟩) C.blt.str (by decide +kernel) h hg (by decide) (by decide) he hpl
end
/-! ### plain texts -/
abbrev Asc (x : Str) : Prop := x.cps.toList.all (fun c => decide (c < 128)) = true
theorem asc_mem {x : Str} : Asc x ↔ ∀ c ∈ x.cps.toList, c < 128 := by
  show (List.all _ _ = true) ↔ _
  rw [List.all_eq_true]
  exact ⟨fun h c hc => of_decide_eq_true (h c hc), fun h c hc => decide_eq_true (h c hc)⟩
theorem asc_upper {x : Str} (h : Asc x) : Asc (Txt.upper x) ∧ (Txt.upper x).length = x.length := by
  have hx := asc_mem.mp h
  rw [PyProof.Rows.upper_ascii hx]
  refine ⟨asc_mem.mpr fun c hc => ?_, ?_⟩
  · have hc' : c ∈ x.cps.toList.map PyProof.Rows.up1 := by simpa using hc
    obtain ⟨b, hb, rfl⟩ := List.mem_map.mp hc'
    have := hx b hb
    unfold PyProof.Rows.up1
    split <;> omega
  · show (x.cps.map _).size = x.cps.size
    exact Array.size_map
theorem asc_app {x y : Str} (h : Asc x) (g : Asc y) : Asc (x ++ y) := by
  refine asc_mem.mpr fun c hc => ?_
  have e : (x ++ y).cps.toList = x.cps.toList ++ y.cps.toList := by
    show (x.cps ++ y.cps).toList = _
    exact Array.toList_append
  rw [e] at hc
  rcases List.mem_append.mp hc with q | q
  · exact asc_mem.mp h c q
  · exact asc_mem.mp g c q
theorem len_app (x y : Str) : (x ++ y).length = x.length + y.length := by
  show (x.cps ++ y.cps).size = _
  exact Array.size_append
theorem len_bulk : ∀ ds : List PyData, ds.length ≤ PyData.bulkAll ds
  | [] => Nat.zero_le _
  | d :: ds => by
    have := len_bulk ds
    simp only [PyData.bulkAll, List.length_cons]
    omega
theorem asc_slice {x : Str} (h : Asc x) (l u : Option Int) : Asc (Txt.slice x l u) := by
  unfold Txt.slice
  split
  · exact h
  · refine asc_mem.mpr fun c hc => ?_
    have hc2 := List.mem_toArray.mp (Array.mem_toList_iff.mp hc)
    obtain ⟨i, _, hi⟩ := List.mem_filterMap.mp hc2
    obtain ⟨hlt, e⟩ := Array.getElem?_eq_some_iff.mp hi
    exact asc_mem.mp h c (by rw [← e]; simp)
end AW

/-! AW54: sorted(set(..)) of a tuple of ints. -/
namespace AW
variable [HasT]
open PySem PySem.Spec PyProof.Rows L2
section
variable {X : Cx} {e : Expr} {ρ : Nv} {Q : QE} {pos p p2 pos2 : Pos} {k : Nat}
theorem nodup_lt : ∀ (n : Nat) (L : List Int), L.Nodup → (∀ j ∈ L, 0 ≤ j ∧ j < (n : Int)) → L.length ≤ n
  | 0, L, _, h => by
    cases L with
    | nil => exact Nat.le_refl _
    | cons x L => have := h x List.mem_cons_self; omega
  | n + 1, L, nd, h => by
    by_cases c : (n : Int) ∈ L
    · have e := List.length_erase_of_mem c
      have := nodup_lt n (L.erase (n : Int)) (nd.erase _) fun j hj => by
        have h1 := h j (List.mem_of_mem_erase hj)
        have h2 : j ≠ n := fun z => by subst z; exact nd.not_mem_erase hj
        omega
      omega
    · have := nodup_lt n L nd fun j hj => by
        have h1 := h j hj
        have h2 : j ≠ n := fun z => c (z ▸ hj)
        omega
      omega
/-- set(t), t a tuple of ints -/
def rSetTI (K : PySem.W.Frag) (w : World) : List V → Hp → VK → Prop := fun xs H Q => ∃ (l : Addr) (ns : List Int), xs = [.ref l] ∧ SqT K H l (ns.map V.int) ∧ ns.length ≤ 4000 ∧ ∀ (q : Addr) (c : Nat), H q = none → (∃ L : List Int, L.Nodup ∧ L.length = c ∧ ∀ j ∈ L, j ∈ ns) → Q (.ref q) (upd H q (SetO w q (fun j => decide (j ∈ ns)) c))
theorem cr_setTI (hc : X.calm = true) : CallR X (.type "set") (rSetTI X.K X.w) := by
  intro pins s σ H xs us Q I r h
  obtain ⟨l, ns, rfl, hq, hl, q⟩ := h
  obtain rfl := Vals.ref1 r
  obtain ⟨its, rv, pt, hz⟩ := I.tuple hq
  have hi : IntsAre its.toArray.toList ns := ints_of_vals rv
  refine call_set_tupI ns (I.ok.hd hc) (show s.heap.IsTuple l its.toArray from pt) hi (by unfold scanBound; omega) fun h' tk c R1 hcn k => ?_
  refine ⟨.ref _, upd H s.heap.objs.size (SetO X.w s.heap.objs.size (fun j => decide (j ∈ ns)) c), I.laid (t' := tk) k (Nat.le_refl _) (setO_new R1), rfl, q _ c (I.hok.fresh (Nat.le_refl _)) ?_⟩
  obtain ⟨o, es, ep, t, _, _, _, _, nd, hm, _, _, hn, _, _⟩ := R1
  exact ⟨es.toList.map keyOf, nd, by rw [List.length_map, Array.length_toList]; exact hn, fun j hj => of_decide_eq_true ((hm j).mpr hj)⟩
theorem EW.sortSet (C : Ctx X k) (h : EW X e ρ fun x ρ1 => ∃ ns : List Int, seqT x = some (ns.map PyData.int) ∧ ns.length ≤ 4000 ∧ (∀ j ∈ ns, 0 ≤ j ∧ j < 60) ∧ ∀ out : List Int, out.Pairwise (· < ·) → (∀ j, j ∈ out ↔ j ∈ ns) → Q (.frs (out.map PyData.int)) ρ1)
    (hg : Gl X "sorted" := by rfl) (hg2 : Gl X "set" := by rfl) (he : starEach [e] X.env = (false, eval e X.env) :: starEach [] X.env := by rfl) (he2 : starEach [.Call (.Name "set" p2) [e] [] pos2] X.env = (false, eval (.Call (.Name "set" p2) [e] [] pos2) X.env) :: starEach [] X.env := by rfl) (hpl : (backTo pos (starEach [] X.env)).any (·.1) = false := by rfl) (hpl2 : (backTo pos2 (starEach [] X.env)).any (·.1) = false := by rfl) :
    EW X (.Call (.Name "sorted" p) [.Call (.Name "set" p2) [e] [] pos2] [] pos) ρ Q := fun σ H R E kk pins s I =>
  (pe_callB (cr_sortedSet C.calm) hg C.blt.sorted (by decide +kernel) (pa_cons (pe_callTy (cr_setTI C.calm) hg2 C.blt.set (by decide +kernel) (pa_cons pe_W pa_nil he) (by decide) (by decide) he hpl2) pa_nil he2) (by decide) (by decide) he2 hpl).run pins s σ H R I (h σ H _ E fun v H1 x ρ1 P1 V1 ⟨ns, hd, hl, h60, q1⟩ => by
    obtain ⟨m, xs, rfl, r, rp⟩ := seqT_ok V1 hd
    obtain rfl := rp.ints
    refine ⟨m, ns, rfl, r, hl, fun qa c n ⟨L, L1, L2, L3⟩ => ?_⟩
    have hc := nodup_lt 60 L L1 fun j hj => h60 j (L3 j hj)
    refine ⟨qa, _, c, rfl, upd_same, by omega, fun out pa hpw hmem _ n2 => ?_⟩
    have P2 := Pex.new P1.ok n (o := SetO X.w qa (fun j => decide (j ∈ ns)) c)
    have P3 := Pex.new P2.ok n2 (o := .lst (out.map V.int))
    refine kk _ _ (.frs (out.map PyData.int)) ρ1 ((P1.trans P2).trans P3) ((frs_new n2 RpAll.ints').back fun a z => (P1.trans P2).free z) (q1 out hpw fun j => ?_)
    rw [hmem j, decide_eq_true_eq])
end
end AW

/-! AW55: a dict of ours that is changed: made, read, asked, stored into, counted; keys are ints, texts or tuples of them. -/
namespace AW
variable [HasT]
open PySem PySem.Spec PyProof.Rows L2

/-! ### looking up and storing, as data -/
section
variable {κ α : Type} [DecidableEq κ]
def dgt (es : List (κ × α)) (k : κ) : Option α := (es.find? fun e => decide (e.1 = k)).map (·.2)
def dpt (es : List (κ × α)) (k : κ) (v : α) : List (κ × α) :=
  if (es.any fun e => decide (e.1 = k)) = true then es.map (fun e => if e.1 = k then (e.1, v) else e) else es ++ [(k, v)]
theorem dgt_nil {k : κ} : dgt ([] : List (κ × α)) k = none := rfl
theorem dgt_pos {p : κ × α} {r : List (κ × α)} {k : κ} (e : p.1 = k) : dgt (p :: r) k = some p.2 := by simp [dgt, List.find?_cons, e]
theorem dgt_neg {p : κ × α} {r : List (κ × α)} {k : κ} (e : ¬ p.1 = k) : dgt (p :: r) k = dgt r k := by simp [dgt, List.find?_cons, e]
end
section
variable {κ : Type} [DecidableEq κ] {K : PySem.W.Frag} {H H' : Hp}
/-- what is found on both sides -/
def RpO (K : PySem.W.Frag) (H : Hp) : Option PyData → Option V → Prop
  | none, none => True
  | some d, some v => Rp K H d v
  | _, _ => False
theorem dgt_ok (k : κ) : ∀ {es : List (κ × PyData)} {kvs : List (κ × V)}, es.map (·.1) = kvs.map (·.1) → RpAll K H (es.map (·.2)) (kvs.map (·.2)) → RpO K H (dgt es k) (valV kvs k)
  | [], [], _, _ => trivial
  | [], _ :: _, h, _ => by simp at h
  | _ :: _, [], h, _ => by simp at h
  | (i, d) :: es, (j, v) :: kvs, h, r => by
    simp only [List.map_cons, List.cons.injEq] at h r
    obtain ⟨rfl, h2⟩ := h
    cases r with
    | cons r1 r2 =>
      by_cases e : i = k
      · rw [dgt_pos e, valV_pos e]; exact r1
      · rw [dgt_neg e, valV_neg e]; exact dgt_ok k h2 r2
theorem any_key (k : κ) {es : List (κ × PyData)} {kvs : List (κ × V)} (h : es.map (·.1) = kvs.map (·.1)) : (es.any fun e => decide (e.1 = k)) = (kvs.any fun e => decide (e.1 = k)) := by
  have a : (es.map (·.1)).any (fun x => decide (x = k)) = (kvs.map (·.1)).any (fun x => decide (x = k)) := by rw [h]
  rw [List.any_map, List.any_map] at a
  exact a
theorem rep_ok (k : κ) {d : PyData} {v : V} (rv : Rp K H d v) : ∀ {es : List (κ × PyData)} {kvs : List (κ × V)}, es.map (·.1) = kvs.map (·.1) → RpAll K H (es.map (·.2)) (kvs.map (·.2)) →
    (es.map (fun e => if e.1 = k then (e.1, d) else e)).map (·.1) = (kvs.map (fun e => if e.1 = k then (e.1, v) else e)).map (·.1) ∧ RpAll K H ((es.map (fun e => if e.1 = k then (e.1, d) else e)).map (·.2)) ((kvs.map (fun e => if e.1 = k then (e.1, v) else e)).map (·.2))
  | [], [], _, _ => ⟨rfl, .nil⟩
  | [], _ :: _, h, _ => by simp at h
  | _ :: _, [], h, _ => by simp at h
  | (i, d') :: es, (j, v') :: kvs, h, r => by
    simp only [List.map_cons, List.cons.injEq] at h r
    obtain ⟨rfl, h2⟩ := h
    cases r with
    | cons r1 r2 =>
      obtain ⟨a, b⟩ := rep_ok k rv h2 r2
      by_cases e : i = k
      · simp only [List.map_cons, e, if_true]
        exact ⟨by rw [a], .cons rv b⟩
      · simp only [List.map_cons, if_neg e]
        exact ⟨by rw [a], .cons r1 b⟩
theorem dpt_ok (k : κ) {d : PyData} {v : V} (rv : Rp K H d v) {es : List (κ × PyData)} {kvs : List (κ × V)} (h : es.map (·.1) = kvs.map (·.1)) (r : RpAll K H (es.map (·.2)) (kvs.map (·.2))) :
    (dpt es k d).map (·.1) = (putK kvs k v).map (·.1) ∧ RpAll K H ((dpt es k d).map (·.2)) ((putK kvs k v).map (·.2)) := by
  unfold dpt putK
  rw [any_key k h]
  by_cases e : (kvs.any fun e => decide (e.1 = k)) = true
  · rw [if_pos e, if_pos e]
    exact rep_ok k rv h r
  · rw [if_neg e, if_neg e]
    refine ⟨by simp [h], ?_⟩
    simp only [List.map_append, List.map_cons, List.map_nil]
    exact r.append (.cons rv .nil)
end

/-! ### keys -/
inductive DLk : Dd → PyData → Option PyData → Prop
  | k {es : List (Key × PyData)} {k : Key} : DLk (.k es) (keyD k) (dgt es k)
  | t {es : List (List Key × PyData)} {ks : List Key} : DLk (.t es) (.tuple (ks.map keyD)) (dgt es ks)
inductive DPd : Dd → PyData → PyData → Dd → Prop
  | k {es : List (Key × PyData)} {k : Key} {d : PyData} : es.length < sizeLine → DPd (.k es) (keyD k) d (.k (dpt es k d))
  | t {es : List (List Key × PyData)} {ks : List Key} {d : PyData} : es.length < sizeLine → DPd (.t es) (.tuple (ks.map keyD)) d (.t (dpt es ks d))
def Dd.many : Dd → Nat
  | .k es => es.length
  | .t es => es.length
section
variable {K : PySem.W.Frag} {H H' : Hp} {D D' : Dd} {o : HO} {vs : List V} {a : Addr} {kd d : PyData} {od : Option PyData} {y v : V}
theorem rp_key : ∀ {k : Key} {v : V}, Rp K H (keyD k) v → v = kV k
  | .inl _, _, h => by cases h; rfl
  | .inr _, _, h => by cases h; rfl
theorem rp_keys : ∀ {ks : List Key} {vs : List V}, RpAll K H (ks.map keyD) vs → vs = ks.map kV
  | [], _, h => by cases h; rfl
  | k :: ks, _, h => by
    cases h with
    | cons r t => rw [List.map_cons, ← rp_keys t, ← rp_key r]
theorem dlk_ok (dk : DcOk D o vs) (e : H a = some o) (r : RpAll K H D.vals vs) (ry : Rp K H kd y) (l : DLk D kd od) : ∃ ov, DGet H a y ov ∧ RpO K H od ov := by
  cases l with
  | k =>
    obtain ⟨kvs, rfl, h1, rfl⟩ := dk
    obtain rfl := rp_key ry
    exact ⟨_, .k e, dgt_ok _ h1 r⟩
  | t =>
    obtain ⟨kvs, rfl, h1, rfl⟩ := dk
    cases ry with
    | tuple q t =>
      obtain rfl := rp_keys t
      exact ⟨_, .t e q, dgt_ok _ h1 r⟩
theorem dpd_ok (dk : DcOk D o vs) (e : H a = some o) (r : RpAll K H D.vals vs) (ry : Rp K H kd y) (rv : Rp K H d v) (l : DPd D kd d D') : ∃ o' vs', DPut H a y v (upd H a o') ∧ DcOk D' o' vs' ∧ RpAll K H D'.vals vs' := by
  cases l with
  | k hz =>
    obtain ⟨kvs, rfl, h1, rfl⟩ := dk
    obtain rfl := rp_key ry
    have hl := congrArg List.length h1
    simp only [List.length_map] at hl
    obtain ⟨a1, a2⟩ := dpt_ok (K := K) (H := H) _ rv h1 r
    exact ⟨_, _, .k e (by omega), ⟨_, rfl, a1, rfl⟩, a2⟩
  | t hz =>
    obtain ⟨kvs, rfl, h1, rfl⟩ := dk
    cases ry with
    | tuple q t =>
      obtain rfl := rp_keys t
      have hl := congrArg List.length h1
      simp only [List.length_map] at hl
      obtain ⟨a1, a2⟩ := dpt_ok (K := K) (H := H) _ rv h1 r
      exact ⟨_, _, .t e q (by omega), ⟨_, rfl, a1, rfl⟩, a2⟩
theorem not_dc (h1 : ∀ kvs, o ≠ .dK kvs) (h2 : ∀ kvs, o ≠ .dT kvs) : ¬ DcOk D o vs := by
  cases D with
  | k es => exact fun ⟨kvs, e, _⟩ => h1 kvs e
  | t es => exact fun ⟨kvs, e, _⟩ => h2 kvs e
theorem tabs_stepDT {T : List (Addr × Str)} (h : ∀ b o, H b = some o → (∀ kvs, o ≠ .dK kvs) → (∀ kvs, o ≠ .dT kvs) → H' b = some o) (t : LamX.Tabs T H) : LamX.Tabs T H' := fun p hp => by
  obtain ⟨ps, h1, h2, h3⟩ := t p hp
  refine ⟨ps, h _ _ h1 (fun vs z => by cases z) (fun vs z => by cases z), h2, fun pos cv hc => ?_⟩
  obtain ⟨c, e, hco⟩ := h3 pos cv hc
  exact ⟨c, e, h _ _ hco (fun vs z => by unfold LamX.CodeO at z; cases z) (fun vs z => by unfold LamX.CodeO at z; cases z)⟩
/-- the dict of slot i as it is behind a store -/
theorem pex_mutD {ρ : Nv} {σ : L2.St} {i : Nat} {o' : HO} (E : NvOk K H σ ρ) (h : ρ[i]? = some (.dic D)) (e : σ[i]? = some (some (.ref a))) (dk : DcOk D' o' vs) (r : RpAll K H D'.vals vs) : Pex K H ρ σ (upd H a o') (ρ.set i (.dic D')) := by
  obtain ⟨a', oo, ws, e', q, dk0, _⟩ := E.dic h
  rw [e] at e'
  cases e'
  have st : Stb H (upd H a o') := fun b u im hb => by rw [upd_ne (fun z => by rw [z, q] at hb; cases hb; exact dk0.nimm im)]; exact hb
  have hl := get_lt h
  refine ⟨fun b u hb nm => ?_, fun b u hb => ?_, fun j s' hj w => ?_, fun j s' hj w => ?_, ⟨by simp [E.len], fun j s hj => ?_, fun j l b s1 s2 hne h1 h2 o1 o2 e1 e2 => ?_, ?_⟩⟩
  · rw [upd_ne (fun z => nm (by subst z; exact ⟨i, _, h, trivial, e⟩))]; exact fun _ => hb
  · by_cases z : b = a
    · subst z; exact ⟨_, upd_same⟩
    · exact ⟨u, by rw [upd_ne z]; exact hb⟩
  · rcases get_set hj with ⟨rfl, z, _⟩ | ⟨_, hj⟩
    · cases z; exact ⟨_, h, trivial⟩
    · exact ⟨s', hj, .refl w⟩
  · by_cases z : j = i
    · subst z
      rw [h] at hj
      cases hj
      exact ⟨.dic D', by rw [List.getElem?_set_self hl], trivial⟩
    · exact ⟨s', by rw [List.getElem?_set_ne (Ne.symm z)]; exact hj, .refl w⟩
  · rcases get_set hj with ⟨rfl, rfl, _⟩ | ⟨hne, hj⟩
    · exact ⟨_, e, a, o', vs, rfl, upd_same, dk, RpAll.mono st _ _ r⟩
    · obtain ⟨w, e2, so⟩ := E.get j s hj
      refine ⟨w, e2, ?_⟩
      cases s with
      | un => trivial
      | dat d => obtain ⟨v, e3, r3⟩ := so; exact ⟨v, e3, Rp.mono st _ _ r3⟩
      | hol p3 ds3 =>
        obtain ⟨b, ws3, rfl, q3, r3⟩ := so
        refine ⟨b, ws3, rfl, ?_, RpAll.mono st _ _ r3⟩
        rw [upd_ne (fun z => by subst z; exact E.sep j i b _ _ hne hj h trivial trivial e2 e)]
        exact q3
      | dic ds3 =>
        obtain ⟨b, o3, ws3, rfl, q3, k3, r3⟩ := so
        refine ⟨b, o3, ws3, rfl, ?_, k3, RpAll.mono st _ _ r3⟩
        rw [upd_ne (fun z => by subst z; exact E.sep j i b _ _ hne hj h trivial trivial e2 e)]
        exact q3
  · rcases get_set h1 with ⟨rfl, z1, _⟩ | ⟨n1, g1⟩
    · cases z1
      rcases get_set h2 with ⟨rfl, _, _⟩ | ⟨n2, g2⟩
      · exact hne rfl
      · exact E.sep _ _ b _ _ hne h g2 trivial o2 e1 e2
    · rcases get_set h2 with ⟨rfl, z2, _⟩ | ⟨n2, g2⟩
      · cases z2
        exact E.sep _ _ b _ _ hne g1 h o1 trivial e1 e2
      · exact E.sep _ _ b _ _ hne g1 g2 o1 o2 e1 e2
  · refine tabs_stepDT (fun b u hb n1 n2 => ?_) E.tb
    by_cases z : b = a
    · subst z
      rw [q] at hb
      cases hb
      exact absurd dk0 (not_dc n1 n2)
    · rw [upd_ne z]; exact hb
end

/-! ### the rules -/
section
variable {X : Cx} {e a b c v : Expr} {es : List Expr} {ρ : Nv} {E : AEnds} {Q : QE} {QT : Bool → Nv → Prop} {pos p p2 pos' px : Pos} {k j : Nat} {x : Str}
/-- d[k], d a dict of ours -/
theorem EW.dgetO {D0 : Dd} (C : Ctx X k) (h0 : ρ[j]? = some (.dic D0)) (h : EW X e ρ fun y ρ1 => ∃ D kd d, y = .dat kd ∧ ρ1[j]? = some (.dic D) ∧ DLk D kd (some d) ∧ Q (.dat d) ρ1)
    (hN : X.N[j]? = some x := by rfl) (hv : Vis X.env.scope x := by first | exact .inl rfl | exact .inr (.inl rfl) | exact .inr (.inr rfl)) (hd : (x == ("__debug__" : Str)) = false := by decide) (hcd : (x == ("__classdict__" : Str)) = false := by decide)
    (hs : NoSl e := by intro _ _; rfl) : EW X (.Subscript (.Name x p) e pos) ρ Q := fun σ H R Ev kk pins s I => by
  obtain ⟨m, o0, vs0, e0, _⟩ := Ev.dic h0
  refine (pe_dget (by have := C.units; omega) (pe_var hN hv hd hcd) pe_W hs).run pins s σ H R I ⟨_, e0, h σ H _ Ev fun w H1 y ρ1 P1 V1 ⟨D, kd, d, ey, h1, l, q⟩ => ?_⟩
  subst ey
  obtain ⟨m', o1, vs1, e1, q1, dk, r⟩ := P1.ok.dic h1
  rw [e0] at e1
  cases e1
  obtain ⟨ov, g, ro⟩ := dlk_ok dk q1 r V1 l
  cases ov with
  | none => exact ro.elim
  | some u => exact ⟨m, u, rfl, g, kk _ _ (.dat d) _ P1 ro q⟩
/-- k in d, k not in d -/
theorem EW.inO (C : Ctx X k) (h : EW X e ρ fun y ρ1 => ∃ D kd od, y = .dat kd ∧ ρ1[j]? = some (.dic D) ∧ DLk D kd od ∧ Q (.dat (.bool od.isSome)) ρ1)
    (hN : X.N[j]? = some x := by rfl) (hv : Vis X.env.scope x := by first | exact .inl rfl | exact .inr (.inl rfl) | exact .inr (.inr rfl)) (hd : (x == ("__debug__" : Str)) = false := by decide) (hcd : (x == ("__classdict__" : Str)) = false := by decide)
    (h1 : behindInMarks .In (.Name x p) = false := by rfl) : EW X (.Compare e [.In] [.Name x p] pos) ρ Q := fun σ H R Ev kk pins s I => by
  refine (pe_cmp (pc_din (by have := C.units; omega) pe_W (pe_var hN hv hd hcd)) h1).run pins s σ H R I (h σ H _ Ev fun w H1 y ρ1 P1 V1 ⟨D, kd, od, ey, hj, l, q⟩ => ?_)
  subst ey
  obtain ⟨m, o1, vs1, e1, q1, dk, r⟩ := P1.ok.dic hj
  obtain ⟨ov, g, ro⟩ := dlk_ok dk q1 r V1 l
  have eo : od.isSome = ov.isSome := by cases od <;> cases ov <;> first | rfl | exact ro.elim
  rw [eo] at q
  exact ⟨_, e1, m, ov, rfl, g, kk _ _ _ _ P1 (vdat (.bool _)) q⟩
theorem EW.ninO (C : Ctx X k) (h : EW X e ρ fun y ρ1 => ∃ D kd od, y = .dat kd ∧ ρ1[j]? = some (.dic D) ∧ DLk D kd od ∧ Q (.dat (.bool (!od.isSome))) ρ1)
    (hN : X.N[j]? = some x := by rfl) (hv : Vis X.env.scope x := by first | exact .inl rfl | exact .inr (.inl rfl) | exact .inr (.inr rfl)) (hd : (x == ("__debug__" : Str)) = false := by decide) (hcd : (x == ("__classdict__" : Str)) = false := by decide)
    (h1 : behindInMarks .NotIn (.Name x p) = false := by rfl) : EW X (.Compare e [.NotIn] [.Name x p] pos) ρ Q := fun σ H R Ev kk pins s I => by
  refine (pe_cmp (pc_dnotin (by have := C.units; omega) pe_W (pe_var hN hv hd hcd)) h1).run pins s σ H R I (h σ H _ Ev fun w H1 y ρ1 P1 V1 ⟨D, kd, od, ey, hj, l, q⟩ => ?_)
  subst ey
  obtain ⟨m, o1, vs1, e1, q1, dk, r⟩ := P1.ok.dic hj
  obtain ⟨ov, g, ro⟩ := dlk_ok dk q1 r V1 l
  have eo : od.isSome = ov.isSome := by cases od <;> cases ov <;> first | rfl | exact ro.elim
  rw [eo] at q
  exact ⟨_, e1, m, ov, rfl, g, kk _ _ _ _ P1 (vdat (.bool _)) q⟩
/-- d[k] = e -/
theorem S1.putO (C : Ctx X k) (h : EW X v ρ fun z ρ1 => ∃ d D0, asD z = some d ∧ ρ1[j]? = some (.dic D0) ∧ EW X e ρ1 fun y ρ2 => ∃ D D' kd, y = .dat kd ∧ ρ2[j]? = some (.dic D) ∧ DPd D kd d D' ∧ E.nx (ρ2.set j (.dic D')))
    (hN : X.N[j]? = some x := by rfl) (hv : Vis X.env.scope x := by first | exact .inl rfl | exact .inr (.inl rfl) | exact .inr (.inr rfl)) (hd : (x == ("__debug__" : Str)) = false := by decide) (hcd : (x == ("__classdict__" : Str)) = false := by decide)
    (hs : swapsWith v (some (.Subscript (.Name x p) e pos')) pos.line X.env = pure false := by rfl) : S1 X (.Assign [.Subscript (.Name x p) e pos'] v pos) ρ E := fun σ H DD Ev k1 k2 k3 k4 pins s I => by
  refine (ps_dput (by have := C.units; omega) (pe_var hN hv hd hcd) pe_W pe_W hs).run pins s σ H DD I (EWd.run (Q := fun d ρ1 => ∃ D0, ρ1[j]? = some (.dic D0) ∧ EW X e ρ1 fun y ρ2 => ∃ D D' kd, y = .dat kd ∧ ρ2[j]? = some (.dic D) ∧ DPd D kd d D' ∧ E.nx (ρ2.set j (.dic D'))) (EW.imp h fun z ρ1 ⟨d, D0, hz, hj, q⟩ => ⟨d, hz, D0, hj, q⟩) Ev fun w H1 d ρ1 P1 r1 ⟨D0, hj0, q1⟩ => ?_)
  obtain ⟨m, o0, vs0, e0, _⟩ := P1.ok.dic hj0
  refine ⟨_, e0, q1 σ H1 _ P1.ok fun u H2 y ρ2 P2 V2 ⟨D, D', kd, ey, hj, l, q2⟩ => ?_⟩
  subst ey
  obtain ⟨m', o1, vs1, e1, qq, dk, r⟩ := P2.ok.dic hj
  rw [e0] at e1
  cases e1
  obtain ⟨o', vs', g, dk', r'⟩ := dpd_ok dk qq r V2 (Rp.mono (P2.stb P1.ok) _ _ r1) l
  exact ⟨m, _, rfl, g, k1 _ _ _ ((P1.trans P2).trans (pex_mutD P2.ok hj e0 dk' r')).pst q2⟩
/-- d = {} whose keys will be ints or texts; tuples of them -/
theorem S1.dnewK {i : Nat} (C : Ctx X k) (h : pinB ρ i = false ∧ E.nx (ρ.set i (.dic (.k [])))) (hi : X.N[i]? = some x := by rfl) (hx : Loc X.env.scope x := by first | exact .inl rfl | exact .inr rfl) (hs : swapsWith (.Dict [] [] p) (some (.Name x pos')) pos.line X.env = pure false := by rfl)
    (hf : X.fn x = true ∨ X.env.scope.names.lookup x = some .local := by first | exact .inl rfl | exact .inr rfl) : S1 X (.Assign [.Name x pos'] (.Dict [] [] p) pos) ρ E := fun σ H D Ev k1 k2 k3 k4 pins s I => by
  refine (ps_set C.nd hi hx pe_dnewK hs hf).run pins s σ H D I fun m n => ?_
  exact k1 _ _ _ (pst_asg (s := .dic (.k [])) Ev (Pex.new Ev n) h.1 ⟨m, _, [], rfl, upd_same, ⟨[], rfl, rfl, rfl⟩, .nil⟩ (fun _ _ z => by cases z) (fun _ _ => ⟨m, rfl, n⟩)) h.2
theorem S1.dnewT {i : Nat} (C : Ctx X k) (h : pinB ρ i = false ∧ E.nx (ρ.set i (.dic (.t [])))) (hi : X.N[i]? = some x := by rfl) (hx : Loc X.env.scope x := by first | exact .inl rfl | exact .inr rfl) (hs : swapsWith (.Dict [] [] p) (some (.Name x pos')) pos.line X.env = pure false := by rfl)
    (hf : X.fn x = true ∨ X.env.scope.names.lookup x = some .local := by first | exact .inl rfl | exact .inr rfl) : S1 X (.Assign [.Name x pos'] (.Dict [] [] p) pos) ρ E := fun σ H D Ev k1 k2 k3 k4 pins s I => by
  refine (ps_set C.nd hi hx pe_dnewT hs hf).run pins s σ H D I fun m n => ?_
  exact k1 _ _ _ (pst_asg (s := .dic (.t [])) Ev (Pex.new Ev n) h.1 ⟨m, _, [], rfl, upd_same, ⟨[], rfl, rfl, rfl⟩, .nil⟩ (fun _ _ z => by cases z) (fun _ _ => ⟨m, rfl, n⟩)) h.2
/-- len(d) -/
theorem call_len_dD : CallR X (.builtin "len") (fun xs H Q => ∃ m, xs = [.ref m] ∧ ((∃ kvs : List (Key × V), H m = some (.dK kvs) ∧ Q (.int ((kvs.length : Nat) : Int)) H) ∨ ∃ kvs : List (List Key × V), H m = some (.dT kvs) ∧ Q (.int ((kvs.length : Nat) : Int)) H)) := by
  intro pins s σ H xs us Q I r h
  obtain ⟨m, rfl, ⟨kvs, hm, q⟩ | ⟨kvs, hm, q⟩⟩ := h
  · obtain ⟨u, rfl, rx⟩ := vals1 r
    obtain rfl : u = .ref m := rx
    exact d_len I (.inl hm) fun t s' I' => ⟨.int ((kvs.length : Nat) : Int), H, I', ⟨t, rfl⟩, q⟩
  · exact call_len_dT pins s σ H _ _ Q I r ⟨m, kvs, rfl, hm, q⟩
theorem EW.lenO {D : Dd} (C : Ctx X k) (h0 : ρ[j]? = some (.dic D)) (h : Q (.dat (.int (D.many : Nat))) ρ)
    (hN : X.N[j]? = some x := by rfl) (hv : Vis X.env.scope x := by first | exact .inl rfl | exact .inr (.inl rfl) | exact .inr (.inr rfl)) (hd : (x == ("__debug__" : Str)) = false := by decide) (hcd : (x == ("__classdict__" : Str)) = false := by decide)
    (hg : Gl X "len" := by rfl) (he : starEach [.Name x p2] X.env = (false, eval (.Name x p2) X.env) :: starEach [] X.env := by rfl) (hpl : (backTo pos (starEach [] X.env)).any (·.1) = false := by rfl) : EW X (.Call (.Name "len" p) [.Name x p2] [] pos) ρ Q := fun σ H R Ev kk pins s I => by
  obtain ⟨m, o, vs, e0, q, dk, r⟩ := Ev.dic h0
  refine (pe_callB call_len_dD hg C.blt.len PySem.boot_len (pa_cons (pe_var hN hv hd hcd) pa_nil he) (by decide) (by decide) he hpl).run pins s σ H R I ⟨_, e0, m, rfl, ?_⟩
  cases D with
  | k es =>
    obtain ⟨kvs, rfl, h1, rfl⟩ := dk
    have hl := congrArg List.length h1
    simp only [List.length_map] at hl
    refine .inl ⟨kvs, q, ?_⟩
    rw [← hl]
    exact kk _ _ _ _ (Pex.refl Ev) (vdat (.int _)) h
  | t es =>
    obtain ⟨kvs, rfl, h1, rfl⟩ := dk
    have hl := congrArg List.length h1
    simp only [List.length_map] at hl
    refine .inr ⟨kvs, q, ?_⟩
    rw [← hl]
    exact kk _ _ _ _ (Pex.refl Ev) (vdat (.int _)) h
end
end AW

/-! AW56: keys that are ints and tuples of ints; list.index of texts; {tuple: value}; a, b, c = data, {tuple: value}, list. -/
namespace AW
variable [HasT]
open PySem PySem.Spec PyProof.Rows L2
theorem keyT (w : List Int) : (w.map Sum.inl : List Key).map keyD = w.map PyData.int := by rw [List.map_map] <;> rfl
theorem DLk.int {es : List (Key × PyData)} {i : Int} : DLk (.k es) (.int i) (dgt es (.inl i)) := DLk.k (k := .inl i)
theorem DPd.int {es : List (Key × PyData)} {i : Int} {d : PyData} (h : es.length < sizeLine) : DPd (.k es) (.int i) d (.k (dpt es (.inl i) d)) := DPd.k (k := .inl i) h
theorem DLk.ints {es : List (List Key × PyData)} {w : List Int} : DLk (.t es) (.tuple (w.map .int)) (dgt es (w.map .inl)) := by
  have h : DLk (.t es) (.tuple ((w.map Sum.inl : List Key).map keyD)) (dgt es (w.map .inl)) := DLk.t
  rw [keyT] at h
  exact h
theorem DPd.ints {es : List (List Key × PyData)} {w : List Int} {d : PyData} (h : es.length < sizeLine) : DPd (.t es) (.tuple (w.map .int)) d (.t (dpt es (w.map .inl) d)) := by
  have h : DPd (.t es) (.tuple ((w.map Sum.inl : List Key).map keyD)) d (.t (dpt es (w.map .inl) d)) := DPd.t h
  rw [keyT] at h
  exact h
section
variable {X : Cx} {e o a b c v kx vx : Expr} {es : List Expr} {ρ : Nv} {E : AEnds} {Q : QE} {pos p p2 pos' px apos cpos dpos : Pos} {k j : Nat} {x : Str}
/-- l.index(z), l a list of texts, z among them -/
theorem EW.indexS (h : EW X o ρ fun x ρ1 => ∃ zs : List Str, seqL ρ1 x = some (zs.map .str) ∧ EW X e ρ1 fun y ρ2 => ∃ (z : Str) (j : Nat), seqL ρ2 x = some (zs.map .str) ∧ y = .dat (.str z) ∧ zs[j]? = some z ∧ (∀ m < j, ∀ w, zs[m]? = some w → w ≠ z) ∧ Q (.dat (.int (j : Nat))) ρ2)
    (hbase : attributeBase o "index" X.env (eval o X.env) = eval o X.env := by rfl) (hfew : ((backTo cpos (starEach [e] X.env)).all (fun x => !x.1) && (backToKw cpos (keywordEach [] X.env)).all (fun x => x.1.isSome) && decide ([e].length + ([] : List Keyword).length + (if ([] : List Keyword).isEmpty then 0 else 1) < 30)) = true := by rfl)
    (hline : (apos.endLine == cpos.line) = true := by rfl) (hs : starEach [e] X.env = (false, eval e X.env) :: starEach [] X.env := by rfl) (hplain : (backTo cpos (starEach [] X.env)).any (·.1) = false := by rfl) : EW X (.Call (.Attribute o "index" apos) [e] [] cpos) ρ Q := fun σ H R Ev kk pins s I => by
  refine (pe_bm PySem.F.plainAttrs_list PySem.F.slot_list_index PySem.F.type_list_index mt_index pe_W (pa_cons pe_W pa_nil hs) hbase hfew hline hs hplain).run pins s σ H R I (h σ H _ Ev fun v H1 x ρ1 P1 V1 ⟨zs, h1, q⟩ => ?_)
  obtain ⟨m, xs, rfl, r1, p1⟩ := seqL_ok P1.ok V1 h1
  refine ⟨Or.inl ⟨rfl, xs, r1.sq⟩, q σ H1 _ P1.ok fun u H2 y ρ2 P2 V2 ⟨z, j, h2, ey, hj, hm, q2⟩ => ?_⟩
  subst ey
  obtain rfl := Rp.str_inv V2
  obtain ⟨m', ys, em, r2, p2⟩ := seqL_ok P2.ok (V1.step Ev P1 P2) h2
  cases em
  obtain rfl := p2.strs
  refine ⟨m, _, _, j, .str z, rfl, rfl, r2.sq, rfl, List.all_eq_true.mpr fun y hy => ?_, by rw [List.getElem?_map, hj]; rfl, by simp [eqV], fun n z' hn hz => ?_, kk _ _ _ _ (P1.trans P2) (vdat (.int _)) q2⟩
  · obtain ⟨w, _, rfl⟩ := List.mem_map.mp hy
    rfl
  · rw [List.getElem?_map] at hz
    cases hw : zs[n]? with
    | none => rw [hw] at hz; cases hz
    | some w =>
      rw [hw] at hz
      cases hz
      have := hm n hn w hw
      simpa [eqV] using this
/-- {k: v} whose key is a tuple -/
def tDispT (tk tv : TE) : TE := fun σ H Q => ∀ p, H p = none → tk σ (upd H p (.dT [])) fun x H1 => tv σ H1 fun y H2 => H2 p = some (.dT []) ∧ ∃ (ks : List Key) (b : Addr), x = .ref b ∧ H2 b = some (.tup (ks.map kV)) ∧ Q (.ref p) (upd H2 p (.dT [(ks, y)]))
theorem pe_dispT {tk tv : TE} (hu : X.A.units + 1 < cLine) (hk : PE X kx tk) (hv : PE X vx tv) : PE X (.Dict [some kx] [vx] pos) (tDispT tk tv) := by
  refine ⟨fun pins s σ H Q I q => ?_⟩
  have hn := I.hok.fresh (Nat.le_refl s.heap.objs.size)
  have I1 := I.laid (a := s.heap.objs.size) (o := .dT []) (h' := s.heap.push { cls := .type "dict", data := .dict #[] }) (t' := s.toks) (fun _ _ q => Heap.get?_push_of_some _ q) (Nat.le_refl _) (dt_empty s.heap I.big)
  rw [arm_eval_Dict, zip_pairTrees [some kx] [vx] X.env pos rfl rfl, dictDisplay_pairs _ (by simp [pairTrees]) (by simp [pairTrees])]
  refine wpAny_bind (wpAny_standAt (wpAny_bind ?_))
  unfold subDict
  refine wpAny_bind (wpAny_alloc (wpAny_bind (wpAny_holding ?_)))
  rw [if_pos (by simp [pairTrees])]
  refine wpAny_bind (pairTrees_cons_walk (thn (hk.run pins _ σ _ _ I1 (q _ hn)) fun u1 s1 ⟨x, H1, J1, rx, q1⟩ => thn (hv.run pins s1 σ H1 _ J1 q1) fun u2 s2 ⟨y, H2, J2, ry, e, ks, bb, ex, eb, q2⟩ => pairTrees_nil_walk ?_))
  subst ex
  cases (show u1 = Value.ref bb from rx)
  refine wpAny_holding ?_
  rw [List.forIn_cons]
  obtain ⟨z, hd, xs, rel, dd⟩ := dt_of J2.hok e
  cases rel
  refine wpAny_bind (wpAny_bind (wpAny_bind ?_))
  refine wpAny_dictSet_heap (hsz := by rw [sizeLine_eq]; exact Nat.zero_le _) (knd := tupleKind (mixKind X.prog X.w)) (show X.A.units < cLine by omega) (key_of J2.hok eb) dd fun h' dd' hs => ?_
  refine wpAny_pure (wpAny_pure (wpAny_pure (wpAny_pure (wpAny_pure ?_))))
  obtain ⟨ob, es', ep, hq, h2, h3, h4, _, h5⟩ := dd'
  refine ⟨.ref s.heap.objs.size, upd H2 s.heap.objs.size (.dT [(ks, y)]), d_write (ob := .dT [(ks, y)]) J2 (by rw [e]; exact True.intro) hs ⟨ob, hq⟩ ⟨by rw [sizeLine_eq]; show 1 ≤ _; omega, hd, _, ?_, ob, es', ep, hq, h2, h3, h4, h5⟩, rfl, q2⟩
  refine Paired.cons ⟨rfl, ?_, ry⟩ .nil
  rw [upd_ne (ne_of eb e (fun z => nomatch z))]
  exact eb
end
end AW

/-! AW57: x, y, z = data, {tuple: value}, a new list (one of the names is a cell: a tuple is made and taken apart). -/
namespace AW
variable [HasT]
open PySem PySem.Spec PyProof.Rows L2
section
variable {K : PySem.W.Frag} {H H' : Hp} {ρ : Nv} {σ : L2.St}
/-- what is changed is no one's: the slots stand -/
theorem NvOk.aside {p : Addr} {o o' : HO} (E : NvOk K H σ ρ) (nm : ¬ Mine ρ σ p) (hp : H p = some o) (ni : ¬ Imm o) (n1 : ∀ ps, o ≠ .tbl ps) (n2 : ∀ u, o ≠ .ext u) : NvOk K (upd H p o') σ ρ := by
  have st : Stb H (upd H p o') := fun b u im h => by
    rw [upd_ne (fun z => by rw [z, hp] at h; cases h; exact ni im)]; exact h
  refine ⟨E.len, fun i s h => ?_, E.sep, ?_⟩
  · obtain ⟨w, e1, so⟩ := E.get i s h
    refine ⟨w, e1, ?_⟩
    cases s with
    | un => trivial
    | dat d => obtain ⟨v, e2, r2⟩ := so; exact ⟨v, e2, Rp.mono st _ _ r2⟩
    | hol pp es =>
      obtain ⟨b, ws, e2, e3, r2⟩ := so
      refine ⟨b, ws, e2, ?_, RpAll.mono st _ _ r2⟩
      rw [upd_ne (fun z => by subst z; exact nm ⟨i, _, h, trivial, by rw [e1, e2]⟩)]
      exact e3
    | dic es =>
      obtain ⟨b, u, ws, e2, e3, k3, r2⟩ := so
      refine ⟨b, u, ws, e2, ?_, k3, RpAll.mono st _ _ r2⟩
      rw [upd_ne (fun z => by subst z; exact nm ⟨i, _, h, trivial, by rw [e1, e2]⟩)]
      exact e3
  · intro q hq
    obtain ⟨ps, h1, h2, h3⟩ := E.tb q hq
    refine ⟨ps, by rw [upd_ne (fun z => by rw [z, hp] at h1; exact n1 _ (Option.some.inj h1))]; exact h1, h2, fun pos cv hc => ?_⟩
    obtain ⟨c, e, hco⟩ := h3 pos cv hc
    refine ⟨c, e, ?_⟩
    have hco' := hco
    unfold LamX.CodeO at hco' ⊢
    rw [upd_ne (fun z => by rw [z, hp] at hco'; exact n2 _ (Option.some.inj hco'))]
    exact hco'
theorem mine_dat {i : Nat} {d : PyData} {w : Option V} {b : Addr} (h : Mine (ρ.set i (.dat d)) (σ.set i w) b) : Mine ρ σ b := by
  obtain ⟨l, s, h1, o, h2⟩ := h
  rcases get_set h1 with ⟨_, z, _⟩ | ⟨hne, h1⟩
  · subst z; exact o.elim
  · rw [List.getElem?_set_ne (Ne.symm hne)] at h2
    exact ⟨l, s, h1, o, h2⟩
theorem mine_dic {i : Nat} {D : Dd} {p b : Addr} (hl : ρ.length = σ.length) (h : Mine (ρ.set i (.dic D)) (σ.set i (some (.ref p))) b) : b = p ∨ Mine ρ σ b := by
  obtain ⟨l, s, h1, o, h2⟩ := h
  rcases get_set h1 with ⟨rfl, z, hb⟩ | ⟨hne, h1⟩
  · rw [List.getElem?_set_self (by rw [← hl]; exact hb)] at h2
    cases h2
    exact .inl rfl
  · rw [List.getElem?_set_ne (Ne.symm hne)] at h2
    exact .inr ⟨l, s, h1, o, h2⟩
end
section
variable {X : Cx} {a c kx vx : Expr} {ρ : Nv} {E : AEnds} {pos dpos tpos pt2 px py pz : Pos} {k kt k2 : Nat}
theorem S1.asg3D {i j l : Nat} {x y z : Str} (C : Ctx X k) (h : EWd X a ρ fun d ρ1 => EW X kx ρ1 fun kv ρ2 => ∃ ks : List Key, kv = .dat (.tuple (ks.map keyD)) ∧ EWd X vx ρ2 fun dv ρ3 => EW X c ρ3 fun cv ρ4 => ∃ ds, cv = .frs ds ∧ pinB ρ4 i = false ∧ pinB ρ4 j = false ∧ pinB ρ4 l = false ∧ E.nx (((ρ4.set i (.dat d)).set j (.dic (.t [(ks, dv)]))).set l (.hol false ds)))
    (hij : i ≠ j) (hil : i ≠ l) (hjl : j ≠ l) (hi : X.N[i]? = some x := by rfl) (hj : X.N[j]? = some y := by rfl) (hl : X.N[l]? = some z := by rfl)
    (lx : Loc X.env.scope x := by first | exact .inl rfl | exact .inr rfl) (ly : Loc X.env.scope y := by first | exact .inl rfl | exact .inr rfl) (lz : Loc X.env.scope z := by first | exact .inl rfl | exact .inr rfl)
    (fx : X.fn x = true ∨ X.env.scope.names.lookup x = some .local := by first | exact .inl rfl | exact .inr rfl) (fy : X.fn y = true ∨ X.env.scope.names.lookup y = some .local := by first | exact .inl rfl | exact .inr rfl) (fz : X.fn z = true ∨ X.env.scope.names.lookup z = some .local := by first | exact .inl rfl | exact .inr rfl)
    (hs : swapsWithSole [.Tuple [.Name x px, .Name y py, .Name z pz] kt tpos] (.Tuple [a, .Dict [some kx] [vx] dpos, c] k2 pt2) pos.line X.env = pure false := by rfl)
    (hw : swappedStores [.Tuple [.Name x px, .Name y py, .Name z pz] kt tpos] (.Tuple [a, .Dict [some kx] [vx] dpos, c] k2 pt2) X.env = pure none := by rfl)
    (s1 : starEach [a, .Dict [some kx] [vx] dpos, c] X.env = (false, eval a X.env) :: starEach [.Dict [some kx] [vx] dpos, c] X.env := by rfl)
    (s2 : starEach [.Dict [some kx] [vx] dpos, c] X.env = (false, eval (.Dict [some kx] [vx] dpos) X.env) :: starEach [c] X.env := by rfl) (s3 : starEach [c] X.env = (false, eval c X.env) :: starEach [] X.env := by rfl) :
    S1 X (.Assign [.Tuple [.Name x px, .Name y py, .Name z pz] kt tpos] (.Tuple [a, .Dict [some kx] [vx] dpos, c] k2 pt2) pos) ρ E := fun σ H D Ev k1 k2' k3 k4 pins s I => by
  refine (ps_asg (pe_tup (pa_cons pe_W (pa_cons (pe_dispT (by have := C.units; omega) pe_W pe_W) (pa_cons pe_W pa_nil s3) s2) s1)) (pg_tup C.calm (pgs_cons (pg_name C.nd hi lx fx) (pgs_cons (pg_name C.nd hj ly fy) (pgs_cons (pg_name C.nd hl lz fz) pgs_nil)))) hs hw).run pins s σ H D I ?_
  refine EWd.run h Ev fun v1 H1 d ρ1 P1 r1 q1 => ?_
  intro p hp
  have n1 : ¬ Mine ρ1 σ p := fun m => by obtain ⟨o, e, _⟩ := P1.ok.mine m; rw [hp] at e; cases e
  have ntD : Ntb (.dT []) := fun ps z => by cases z
  have Pn : Pex X.K H1 ρ1 σ (upd H1 p (.dT [])) ρ1 := Pex.new P1.ok hp
  refine q1 σ _ _ Pn.ok fun w2 H2 kv ρ2 P2 V2 ⟨ks, ek, q2⟩ => ?_
  subst ek
  cases V2 with
  | @tuple bb xs _ eb tb =>
    obtain rfl := rp_keys tb
    refine EWd.run q2 P2.ok fun v3 H3 dv ρ3 P3 r3 q3 => ?_
    have e2 : H2 p = some (.dT []) := P2.kp p _ upd_same n1 ntD
    have n2 : ¬ Mine ρ2 σ p := fun m => n1 (P2.mn m)
    have e3 : H3 p = some (.dT []) := P3.kp p _ e2 n2 ntD
    have n3 : ¬ Mine ρ3 σ p := fun m => n2 (P3.mn m)
    refine ⟨e3, ks, bb, rfl, P3.stb P2.ok _ _ trivial eb, ?_⟩
    have E4 : NvOk X.K (upd H3 p (.dT [(ks, v3)])) σ ρ3 := P3.ok.aside n3 e3 id (fun ps z => by cases z) (fun u z => by cases z)
    have P13 := (Pn.trans P2).trans P3
    have ne1 : ∀ {b o}, H1 b = some o → b ≠ p := fun h z => by rw [z, hp] at h; cases h
    have P4 : Pex X.K H1 ρ1 σ (upd H3 p (.dT [(ks, v3)])) ρ3 := ⟨fun b o h nm nt => by rw [upd_ne (ne1 h)]; exact P13.kp b o h nm nt, fun b o h => by obtain ⟨o', h'⟩ := P13.th b o h; exact ⟨o', by rw [upd_ne (ne1 h)]; exact h'⟩, P13.so, P13.os, E4⟩
    refine q3 σ _ _ E4 fun v5 H5 cv ρ5 P5 V5 ⟨ds, ec, pi, pj, pl, q5⟩ => ?_
    subst ec
    obtain ⟨m, vs, rfl, hm0, hm, rm⟩ := V5
    have hmp : m ≠ p := fun z => by rw [z, upd_same] at hm0; cases hm0
    have e5 : H5 p = some (.dT [(ks, v3)]) := P5.kp p _ upd_same n3 (fun ps z => by cases z)
    refine ⟨by rw [sizeLine_eq]; show 3 ≤ _; omega, fun t ht => ?_⟩
    have Pt : Pex X.K H5 ρ5 σ (upd H5 t (.tup [v1, .ref p, .ref m])) ρ5 := Pex.new P5.ok ht
    have PA := (P1.trans P4).trans (P5.trans Pt)
    have st3 : Stb H3 (upd H3 p (.dT [(ks, v3)])) := fun b u im h => by
      rw [upd_ne (fun z => by rw [z, e3] at h; cases h; exact im)]; exact h
    have stE : Stb (upd H3 p (.dT [(ks, v3)])) (upd H5 t (.tup [v1, .ref p, .ref m])) := (P5.stb E4).trans (Pt.stb P5.ok)
    have r1' := Rp.mono ((P4.stb P1.ok).trans stE) _ _ r1
    have r3' := Rp.mono (st3.trans stE) _ _ r3
    have e6 : upd H5 t (.tup [v1, .ref p, .ref m]) p = some (.dT [(ks, v3)]) := by rw [upd_ne (ne_of_none e5 ht)]; exact e5
    have m6 : upd H5 t (.tup [v1, .ref p, .ref m]) m = some (.lst vs) := by rw [upd_ne (ne_of_none hm ht)]; exact hm
    have np5 : ¬ Mine ρ5 σ p := fun z => n3 (P5.mn z)
    have nm5 : ¬ Mine ρ5 σ m := fun z => by obtain ⟨o, e, _⟩ := E4.mine (P5.mn z); rw [hm0] at e; cases e
    have hpH : H p = none := P1.free hp
    have hmH : H m = none := P1.free (P4.free hm0)
    have S1' := pst_set (s := .dat d) (v := v1) PA.pst pi ⟨v1, rfl, r1'⟩ (fun _ _ z => by cases z)
    have S2' := pst_set (s := .dic (.t [(ks, dv)])) (v := .ref p) (i := j) S1' (by unfold pinB; rw [List.getElem?_set_ne hij]; exact pj) ⟨p, _, [v3], rfl, e6, ⟨[(ks, v3)], rfl, rfl, rfl⟩, .cons r3' .nil⟩ (fun _ _ z => by cases z) (fun _ _ => ⟨p, rfl, hpH, fun z => np5 (mine_dat z)⟩)
    have S3' := pst_set (s := .hol false ds) (v := .ref m) (i := l) S2' (by unfold pinB; rw [List.getElem?_set_ne hjl, List.getElem?_set_ne hil]; exact pl) ⟨m, vs, rfl, m6, RpAll.mono (Pt.stb P5.ok) _ _ rm⟩ (fun _ _ z => by cases z; exact ⟨rfl, m, rfl, hmH, fun z => by
      rcases mine_dic S1'.ok.len z with z | z
      · exact hmp z
      · exact nm5 (mine_dat z)⟩)
    exact ⟨t, _, rfl, SqT.of upd_same, rfl, v1, _, rfl, .ref p, _, rfl, .ref m, _, rfl, rfl, k1 _ _ _ S3' q5⟩
end
end AW

/-! AW58: a slot is forgotten; a name that is a list or a tuple is walked. -/
namespace AW
variable [HasT]
open PySem PySem.Spec PyProof.Rows L2
section
variable {X : Cx} {sts : List Stmt} {tg : Expr} {ρ : Nv} {E : AEnds} {pos : Pos}
theorem SW.wipe (i : Nat) (np : pinB ρ i = false) (hq : SW X sts (ρ.set i .un) E) : SW X sts ρ E := fun σ H D Ev k1 k2 k3 k4 pins s I => by
  have P : Pst X.K H ρ σ H (ρ.set i .un) σ := by
    refine ⟨fun b o hb nm _ => hb, fun b o hb => ⟨o, hb⟩, fun b ⟨j, s', hj, o, ej⟩ => ?_, fun j es hj => ?_, ⟨by simp [Ev.len], fun j s' hj => ?_, fun j l b s1 s2 hne h1 h2 o1 o2 e1 e2 => ?_, Ev.tb⟩⟩
    · rcases get_set hj with ⟨_, z, _⟩ | ⟨_, hj⟩
      · subst z; exact o.elim
      · exact .inl ⟨j, s', hj, o, ej⟩
    · have hne : i ≠ j := fun z => by subst z; exact not_pin np hj
      exact ⟨⟨es, by rw [List.getElem?_set_ne hne]; exact hj⟩, rfl⟩
    · rcases get_set hj with ⟨rfl, rfl, hb⟩ | ⟨hne, hj⟩
      · obtain ⟨s0, h0⟩ : ∃ s0, ρ[j]? = some s0 := ⟨_, List.getElem?_eq_getElem hb⟩
        obtain ⟨w, e, _⟩ := Ev.get j s0 h0
        exact ⟨w, e, trivial⟩
      · exact Ev.get j s' hj
    · rcases get_set h1 with ⟨_, z, _⟩ | ⟨_, h1⟩
      · subst z; exact o1.elim
      · rcases get_set h2 with ⟨_, z, _⟩ | ⟨_, h2⟩
        · subst z; exact o2.elim
        · exact Ev.sep j l b _ _ hne h1 h2 o1 o2 e1 e2
  exact hq σ _ D P.ok (fun σ2 H2 ρ2 P2 q2 => k1 _ _ _ (P.trans P2) q2) (fun v σ2 H2 x ρ2 P2 V q2 => k2 v σ2 H2 x ρ2 (P.trans P2) (V.back fun a n => P.free n) q2) (fun σ2 H2 ρ2 P2 q2 => k3 _ _ _ (P.trans P2) q2) (fun σ2 H2 ρ2 P2 q2 => k4 _ _ _ (P.trans P2) q2) pins s I
theorem IW.nameS {Q : List PyData → Nv → Prop} {i : Nat} {x : Str} {d : PyData} {ds : List PyData} (h : ρ[i]? = some (.dat d)) (hd : d = .list ds ∨ d = .tuple ds) (q : Q ds ρ) (hN : X.N[i]? = some x := by rfl) (hv : Vis X.env.scope x := by first | exact .inl rfl | exact .inr (.inl rfl) | exact .inr (.inr rfl)) (h1 : (x == ("__debug__" : Str)) = false := by decide) (hcd : (x == ("__classdict__" : Str)) = false := by decide) : IW X tg (.Name x pos) ρ Q := by
  rcases hd with rfl | rfl
  · exact IW.list (EW.nameD h ⟨_, rfl, q⟩ hN hv h1 hcd)
  · exact IW.tup (EW.nameD h ⟨_, rfl, q⟩ hN hv h1 hcd)
end
end AW

/-! AW59: x.extend(y), y a list that is not changed any more. -/
namespace AW
variable [HasT]
open PySem PySem.Spec PyProof.Rows L2
section
variable {X : Cx} {o e : Expr} {ρ : Nv} {Q : QE} {apos cpos : Pos} {k : Nat}
def rExtF (K : PySem.W.Frag) : V → List V → Hp → VK → Prop := fun x vs H Q => ∃ l b xs zs, x = .ref l ∧ vs = [.ref b] ∧ H l = some (.lst xs) ∧ RdF K H b zs ∧ xs.length + zs.length ≤ sizeLine ∧ Q .non (upd H l (.lst (xs ++ zs)))
theorem mt_extF : MtM X "list.extend" (rExtF X.K) := by
  intro pins s σ H x vs v us Q I rx rv h
  obtain ⟨l, b, xs, zs, rfl, rfl, hl, hb, hz, q⟩ := h
  cases rx
  obtain ⟨u, rfl, ru⟩ := rv.one
  cases ru
  obtain ⟨z1, as, n1, r1, le, e1⟩ := I.lstM hl
  obtain ⟨z2, bs, n2, r2, e2⟩ := rd_list I hb
  have c1 := r1.length
  have c2 := r2.length
  have few : as.toArray.size + bs.toArray.size ≤ sizeLine := by
    simp only [List.size_toArray]
    omega
  have short : ¬ (!as.toArray.isEmpty && Builtin.List.listTooLong (as.toArray.size + bs.toArray.size)) = true := by
    intro z
    rw [notLongL few, Bool.and_false] at z
    exact Bool.false_ne_true z
  refine call_meets PySem.F.slot_list_extend ⟨_, e1, rfl⟩ PySem.F.entry_list_extend (PySem.F.args_list_extend_2 _ _) (AutoSeq1.list_extend_list_list_0 l as.toArray n1 b bs.toArray n2 short (by simp only [List.size_toArray]; omega) (by omega)) ⟨e1, e2, ?_⟩
  exact ⟨.non, _, I.lset (its' := as ++ bs) hl e1 (by simp) (r1.append r2) (by simp only [List.length_append]; omega), rfl, q⟩
/-- what is put behind: data -/
def extFR (ρ : Nv) (i : Nat) (y : AV) (q : Nv → Prop) : Prop := ∃ (p : Bool) (α : Type) (l m : List α) (g : α → PyData), ρ[i]? = some (.hol p (l.map g)) ∧ y = .dat (.list (m.map g)) ∧ l.length + m.length ≤ sizeLine ∧ q (ρ.set i (.hol p ((l ++ m).map g)))
theorem EW.extendF (h : EW X o ρ fun x ρ1 => ∃ i, x = .own i ∧ EW X e ρ1 fun y ρ2 => extFR ρ2 i y fun ρ3 => Q (.dat .none) ρ3)
    (hbase : attributeBase o "extend" X.env (eval o X.env) = eval o X.env := by rfl) (hfew : ((backTo cpos (starEach [e] X.env)).all (fun x => !x.1) && (backToKw cpos (keywordEach [] X.env)).all (fun x => x.1.isSome) && decide ([e].length + ([] : List Keyword).length + (if ([] : List Keyword).isEmpty then 0 else 1) < 30)) = true := by rfl)
    (hline : (apos.endLine == cpos.line) = true := by rfl) (hs : starEach [e] X.env = (false, eval e X.env) :: starEach [] X.env := by rfl) (hplain : (backTo cpos (starEach [] X.env)).any (·.1) = false := by rfl) : EW X (.Call (.Attribute o "extend" apos) [e] [] cpos) ρ Q := fun σ H R Ev kk pins s I => by
  refine (pe_bm PySem.F.plainAttrs_list PySem.F.slot_list_extend PySem.F.type_list_extend mt_extF pe_W (pa_cons pe_W pa_nil hs) hbase hfew hline hs hplain).run pins s σ H R I (h σ H _ Ev fun v H1 x ρ1 P1 V1 ⟨i, ex, q⟩ => ?_)
  subst ex
  refine ⟨own_list P1.ok V1, q σ H1 _ P1.ok fun u H2 y ρ2 P2 V2 ⟨p, α, l, m, g, hi, hy, hz, q2⟩ => ?_⟩
  subst hy
  obtain ⟨a, vs, rfl, em, hm, r⟩ := own_at P2.ok (V1.step Ev P1 P2) hi
  cases V2 with
  | list e2 r2 =>
    have c1 := r.length
    have c2 := r2.length
    simp only [List.length_map] at c1 c2
    refine ⟨a, _, vs, _, rfl, rfl, hm, .inr e2, by omega, ?_⟩
    have rr := r.append r2
    rw [← List.map_append] at rr
    exact kk _ _ _ _ ((P1.trans P2).trans (pex_mut P2.ok hi em rr)) (vdat .none) q2
end
end AW

/-! AW60: k in d, k not in d as tests. -/
namespace AW
variable [HasT]
open PySem PySem.Spec PyProof.Rows L2
section
variable {X : Cx} {e : Expr} {ρ : Nv} {QT : Bool → Nv → Prop} {pos p : Pos} {k j : Nat} {x : Str}
theorem TW.inO (C : Ctx X k) (h : EW X e ρ fun y ρ1 => ∃ D kd od, y = .dat kd ∧ ρ1[j]? = some (.dic D) ∧ DLk D kd od ∧ QT od.isSome ρ1)
    (hN : X.N[j]? = some x := by rfl) (hv : Vis X.env.scope x := by first | exact .inl rfl | exact .inr (.inl rfl) | exact .inr (.inr rfl)) (hd : (x == ("__debug__" : Str)) = false := by decide) (hcd : (x == ("__classdict__" : Str)) = false := by decide)
    (h1 : behindInMarks .In (.Name x p) = false := by rfl) : TW X (.Compare e [.In] [.Name x p] pos) ρ QT := fun σ H R Ev kk pins s I => by
  refine (pt_cmp (pc_din (by have := C.units; omega) pe_W (pe_var hN hv hd hcd)) h1).run pins s σ H R I (h σ H _ Ev fun w H1 y ρ1 P1 V1 ⟨D, kd, od, ey, hj, l, q⟩ => ?_)
  subst ey
  obtain ⟨m, o1, vs1, e1, q1, dk, r⟩ := P1.ok.dic hj
  obtain ⟨ov, g, ro⟩ := dlk_ok dk q1 r V1 l
  have eo : od.isSome = ov.isSome := by cases od <;> cases ov <;> first | rfl | exact ro.elim
  rw [eo] at q
  exact ⟨_, e1, m, ov, rfl, g, _, rfl, kk _ _ _ P1 q⟩
theorem TW.ninO (C : Ctx X k) (h : EW X e ρ fun y ρ1 => ∃ D kd od, y = .dat kd ∧ ρ1[j]? = some (.dic D) ∧ DLk D kd od ∧ QT (!od.isSome) ρ1)
    (hN : X.N[j]? = some x := by rfl) (hv : Vis X.env.scope x := by first | exact .inl rfl | exact .inr (.inl rfl) | exact .inr (.inr rfl)) (hd : (x == ("__debug__" : Str)) = false := by decide) (hcd : (x == ("__classdict__" : Str)) = false := by decide)
    (h1 : behindInMarks .NotIn (.Name x p) = false := by rfl) : TW X (.Compare e [.NotIn] [.Name x p] pos) ρ QT := fun σ H R Ev kk pins s I => by
  refine (pt_cmp (pc_dnotin (by have := C.units; omega) pe_W (pe_var hN hv hd hcd)) h1).run pins s σ H R I (h σ H _ Ev fun w H1 y ρ1 P1 V1 ⟨D, kd, od, ey, hj, l, q⟩ => ?_)
  subst ey
  obtain ⟨m, o1, vs1, e1, q1, dk, r⟩ := P1.ok.dic hj
  obtain ⟨ov, g, ro⟩ := dlk_ok dk q1 r V1 l
  have eo : od.isSome = ov.isSome := by cases od <;> cases ov <;> first | rfl | exact ro.elim
  rw [eo] at q
  exact ⟨_, e1, m, ov, rfl, g, _, rfl, kk _ _ _ P1 q⟩
end
end AW

/-! AW61: x, y, z = a, b, c (plain names of the def). -/
namespace AW
variable [HasT]
open PySem PySem.Spec PyProof.Rows L2
section
variable {X : Cx} {a b c : Expr} {ρ : Nv} {E : AEnds} {pos : Pos} {k : Nat}
theorem S1.par3 {i j l : Nat} {x y z : Str} {px py pz pt pt2 : Pos} {kt k2} (C : Ctx X k) (h : EW X a ρ fun x ρ1 => EW X b ρ1 fun y ρ2 => EW X c ρ2 fun z ρ3 => asgV i ρ3 x fun ρ4 => asgV j ρ4 y fun ρ5 => asgV l ρ5 z E.nx)
    (hi : X.N[i]? = some x) (hj : X.N[j]? = some y) (hl : X.N[l]? = some z) (hij : i ≠ j) (hil : i ≠ l) (hjl : j ≠ l) (hx : X.env.scope.names.lookup x = some .local) (hy : X.env.scope.names.lookup y = some .local) (hz : X.env.scope.names.lookup z = some .local)
    (hw : swappedStores [.Tuple [.Name x px, .Name y py, .Name z pz] kt pt] (.Tuple [a, b, c] k2 pt2) X.env = pure (some [x, y, z])) (hs : swapsWithSole [.Tuple [.Name x px, .Name y py, .Name z pz] kt pt] (.Tuple [a, b, c] k2 pt2) pos.line X.env = pure false := by rfl)
    (s1 : starEach [a, b, c] X.env = (false, eval a X.env) :: starEach [b, c] X.env := by rfl) (s2 : starEach [b, c] X.env = (false, eval b X.env) :: starEach [c] X.env := by rfl) (s3 : starEach [c] X.env = (false, eval c X.env) :: starEach [] X.env := by rfl) :
    S1 X (.Assign [.Tuple [.Name x px, .Name y py, .Name z pz] kt pt] (.Tuple [a, b, c] k2 pt2) pos) ρ E := fun σ H D Ev k1 k2' k3 k4 pins s I => by
  refine (ps_par3 C.calm C.nd hi hj hl hij hil hjl hx hy hz (pa_cons pe_W (pa_cons pe_W (pa_cons pe_W pa_nil s3) s2) s1) hw hs).run pins s σ H D I (h σ H _ Ev fun v H1 x ρ1 P1 V1 q1 => q1 σ H1 _ P1.ok fun w H2 y ρ2 P2 V2 q2 => q2 σ H2 _ P2.ok fun u H3 z ρ3 P3 V3 q3 => ⟨v, w, u, rfl, ?_⟩)
  have P := (P1.trans P2).trans P3
  have old : ∀ b, Mine ρ3 σ b → ∃ o, H1 b = some o := fun b m => let ⟨o, e, _⟩ := P1.ok.mine (P2.mn (P3.mn m)); ⟨o, e⟩
  obtain ⟨ρ4, P4, q4, m4⟩ := asgV_run P.pst (fun a z => z) (V1.step Ev P1 (P2.trans P3)) (fun a n m => by obtain ⟨o, e, _⟩ := Ev.mine (P.mn m); rw [n] at e; cases e) q3
  have at1 : ∀ b, Mine ρ4 (σ.set i (some v)) b → ∃ o, H1 b = some o := fun b m => by
    rcases m4 b m with e | ⟨⟨ds, rfl⟩, rfl⟩
    · exact old b e
    · obtain ⟨a, vs, e, _, e2, _⟩ := V1
      cases e
      exact ⟨_, e2⟩
  obtain ⟨ρ5, P5, q5, m5⟩ := asgV_run P4 (fun a n => P1.free n) (V2.step P1.ok P2 P3) (fun a n m => by obtain ⟨o, e⟩ := at1 a m; rw [n] at e; cases e) q4
  have at2 : ∀ b, Mine ρ5 ((σ.set i (some v)).set j (some w)) b → ∃ o, H2 b = some o := fun b m => by
    rcases m5 b m with e | ⟨⟨ds, rfl⟩, rfl⟩
    · obtain ⟨o, e2⟩ := at1 b e
      exact P2.th b o e2
    · obtain ⟨a, vs, e, _, e2, _⟩ := V2
      cases e
      exact ⟨_, e2⟩
  obtain ⟨ρ6, P6, q6, _⟩ := asgV_run P5 (fun a n => P1.free (P2.free n)) V3 (fun a n m => by obtain ⟨o, e⟩ := at2 a m; rw [n] at e; cases e) q5
  exact k1 _ _ _ P6 q6
end
end AW

/-! AW62: is, is not of truth values. -/
namespace AW
variable [HasT]
open PySem PySem.Spec PyProof.Rows L2
section
variable {X : Cx}
def isBR : R2A := fun _ x y q => ∃ a b : Bool, x = .dat (.bool a) ∧ y = .dat (.bool b) ∧ q (.dat (.bool (decide (a = b))))
def notBR : R2A := fun _ x y q => ∃ a b : Bool, x = .dat (.bool a) ∧ y = .dat (.bool b) ∧ q (.dat (.bool (!decide (a = b))))
theorem opA_isB : OpA X (compareOp .Is) isBR := fun pins s σ H0 H ρ x y v u vv uu q I E V U rv ru ⟨a, b, ex, ey, hq⟩ => by
  subst ex
  subst ey
  obtain rfl := Rp.bool_inv V
  obtain rfl := Rp.bool_inv U
  exact thn (op_isBl pins s σ H _ _ vv uu (fun w H' => H' = H ∧ w = .bl (decide (a = b))) I rv ru ⟨a, b, rfl, rfl, rfl, rfl⟩) fun w s' ⟨z, H', I', r', e1, e2⟩ => by subst e1; subst e2; exact ⟨_, _, _, ρ, I', r', Pex.refl E, vdat (.bool _), rfl, hq⟩
theorem opA_isNotB : OpA X (compareOp .IsNot) notBR := fun pins s σ H0 H ρ x y v u vv uu q I E V U rv ru ⟨a, b, ex, ey, hq⟩ => by
  subst ex
  subst ey
  obtain rfl := Rp.bool_inv V
  obtain rfl := Rp.bool_inv U
  exact thn (op_notBl pins s σ H _ _ vv uu (fun w H' => H' = H ∧ w = .bl (!decide (a = b))) I rv ru ⟨a, b, rfl, rfl, rfl, rfl⟩) fun w s' ⟨z, H', I', r', e1, e2⟩ => by subst e1; subst e2; exact ⟨_, _, _, ρ, I', r', Pex.refl E, vdat (.bool _), rfl, hq⟩
end
end AW

/-! AW63: a lambda handed to a def that tells of it in marks (texts or ints), and drops what is returned. -/
namespace AW
variable [HasT]
open PySem PySem.Spec PyProof.Rows L2
inductive Mk where
  | s (x : Str)
  | i (n : Int)
def Mk.d : Mk → PyData
  | .s x => .str x
  | .i n => .int n
def Mk.v : Mk → L2.V
  | .s x => .str x
  | .i n => .int n
theorem Mk.rp {K : PySem.W.Frag} {H : Hp} (m : Mk) : Rp K H m.d m.v := by
  cases m with
  | s x => exact .str x
  | i n => exact .int n
/-- what the def makes of the reading of the lambda that it is given: (word, None), or (mark, what the error keeps) -/
def TToG (mg : Str → Option Value) (Tag : Str → Str → Mk → Prop) (wd : Str) : (XK → Hp → VK → Prop) → Hp → VK → Prop := fun tl H Q => ∀ (E : XK) (Q' : VK),
  (∀ cls dd H', (∃ (x f : Str) (tag : Mk) (C dx : Addr) (v : L2.V), Tag x f tag ∧ mg x = some (.ref C) ∧ cls = .ref C ∧ dd = some dx ∧ H' dx = some (.xd [(f, v)]) ∧ ∀ (H2 : Hp) (p : Addr), Kept H' H2 → H' p = none → H2 p = some (.tup [tag.v, v]) → Q (.ref p) H2) → E cls dd H') →
  (∀ v H', (∀ (H2 : Hp) (p : Addr), Kept H' H2 → H' p = none → H2 p = some (.tup [.str wd, .non]) → Q (.ref p) H2) → Q' v H') → tl E H Q'
structure ToldG (P : Program) (w : World) (K : PySem.W.Frag) (mg : Str → Option Value) (base : Heap) (x : Str) (Tag : Str → Str → Mk → Prop) (wd : Str) : Prop where
  ex : ∃ (g : Addr) (fd : FuncData) (a : Str) (Ng : List Str) (st : Stmt), Fun K x x st g fd ∧ FnScope Ng [a] (defScope st) ∧ Ng[0]? = some a ∧ Vis (defScope st) a ∧ (a == ("__debug__" : Str)) = false ∧ (a == ("__classdict__" : Str)) = false ∧ mg x = some (.ref g) ∧ PySem.W.keepIn K (.ref g) = true ∧ Binds K fd [a] [] ∧
    ∀ (cdv : Value) (A : Around) (outer : List Env) (s : Shared) (H : Hp) (Q : VK) (tl : XK → Hp → VK → Prop) (f c' : Addr) (q : Str), fd.code = cdv →
      (∀ (W : WX) (pn : List (Addr × Obj)) (xe : Value → Shared → Prop) (p1 p2 : Pos), Takes ((cxOf CX0 P w K mg base Ng x (defScope st) g cdv A outer s H E0).tr pn xe) W →
        PE ((cxOf CX0 P w K mg base Ng x (defScope st) g cdv A outer s H E0).tr pn xe) (.Call (.Name a p1) [] [] p2) (fun τ G Q => τ[0]? = some (some (.ref f)) ∧ G c' = some (LamX.CodeO c' q) ∧ ∃ E : XK, (∀ cls d G', E cls d G' → W cls d τ G') ∧ tl E G Q)) →
      H c' = some (LamX.CodeO c' q) → (∀ H1, Kept H H1 → TToG mg Tag wd tl H1 Q) → tSW (cxOf CX0 P w K mg base Ng x (defScope st) g cdv A outer s H E0) (defBody st) { nx := fun _ H' => Q .non H', rt := Q } (L2.start Ng [.ref f]) H
section
variable {X : Cx} {ρ : Nv} {Q : QE} {p pos lp : Pos} {k : Nat} {c P : Addr} {x : Str} {params : Arguments} {body : Expr} {scope : Scope} {Tag : Str → Str → Mk → Prop} {wd : Str}
/-- x(lambda: body) -/
theorem EW.toldG (T : ToldG X.prog X.w X.K X.mg X.base x Tag wd) (C : Ctx X k) (j : Nat) (hj : j + 2 ≤ k) (TB : LamX.TabB X.base X.mg c P) (at_c : X.env.code = .ref c) (hm : (P, X.env.qual ++ "<lambda>") ∈ HasT.T) (hu : ∀ p ∈ HasT.T, p.1 = P → p.2 = X.env.qual ++ "<lambda>")
    (L : LamX.LamS X.env.scope scope) (nodef : defaultsOf params X.env = ([], [])) (nopar : ∀ (q : Str) (cl : List (Str × Addr)) (pm cv ctv : Value), bindArgs (PySem.W.kla_fn "<lambda>" q params body scope cl pm cv ctv) ⟨[], []⟩ = pure []) (hg : Gl X x)
    (h : ∀ (B : Around) (out : List Env) (t : Shared) (G : Hp) (E : XK) (f c' : Addr), Ctx (LamX.lamCx X B out t G E scope f c') j → EWx (LamX.lamCx X B out t G E scope f c') body ρ (fun _ ρ1 => Q (.dat (.tuple [.str wd, .none])) ρ1) fun x f d ρ1 => ∃ tag, Tag x f tag ∧ Q (.dat (.tuple [tag.d, d])) ρ1)
    (hdb : (x == ("__debug__" : Str)) = false := by decide) : EW X (.Call (.Name x p) [.Lambda params body scope lp] [] pos) ρ Q := fun σ H R Ev kk pins s I => by
  obtain ⟨g, fd, a, Ng, st, F, S, hN, hv, d1, d2, hmx, hk, hb, run⟩ := T.ex
  refine wpAny_Call_Name_kw (ld_glob I hg hmx ?_ hdb)
  refine PySem.W.callWith_K (h₀ := X.base) I.ok.mod.kin hk ?_ (by rfl) (by rfl)
  show wpAny _ _ (spliced ((false, eval (.Lambda params body scope lp) X.env) :: backTo pos (starEach [] X.env))) _ _ s
  obtain ⟨ps, hP, tz⟩ := Ev.tb _ hm
  refine Calls.spliced_cons (lam_new2 I TB at_c ⟨ps, hP, tz⟩ nodef (L.has I.ok) fun f c' pm' ctv H1 s1 I1 gw T1 hf hco fn fo => Calls.spliced_nil ⟨I1.kIn, ?_⟩)
  have P1 : Pex X.K H ρ σ H1 ρ := Pex.grw Ev gw hP T1 hu
  obtain ⟨oc, od, kV, doc, pm, an, cdv, ct, osl, rfl, lk, hcd⟩ := F.ex
  have call_ : codeAny (model X.prog X.w) X.A (.call (.ref g) ⟨[.ref f], []⟩) (CR CX0 X.stack X.prog X.w H1 s1 R E0) s1 := by
    refine LamX.run_ofS (k := j + 1) (N := Ng) (ps := [a]) (us := [.ref f]) (vs := [.ref f]) lk hcd S (C.room.mono hj) I1.env0 (hb s1 [.ref f] I1.kIn rfl) (.cons rfl .nil) rfl fun hr => ⟨_, pss_W, ?_⟩
    -- the reading of the lambda's body
    refine run cdv X.A X.stack s1 H1 R (fun E G Q' => ∀ (B : Around) (out : List Env) (t : Shared) (G0 : Hp), B.guards = some [] → Room j (B.deeper (LamX.lamEnv X scope t.heap.objs.size f c')) → tW (LamX.lamCx X B out t G0 E scope f c') body σ G Q') f c' _ rfl (fun W pn xe p1 p2 tk => ?_) hco ?_
    · exact act_ok (tb := fun E τ G Q' => ∀ (B : Around) (out : List Env) (t : Shared) (G0 : Hp), B.guards = some [] → Room j (B.deeper (LamX.lamEnv X scope t.heap.objs.size f c')) → tW (LamX.lamCx X B out t G0 E scope f c') body τ G Q') I1 L hf fn fo (nopar _ _ _ _ _) tk hr C.grd (fun E B out t G0 bg br => ⟨fun pz sz τ G Q' IZ ht => ht B out t G0 bg br pz sz IZ⟩) hN hv d1 d2
    · intro HK kpK E Q' hE hQ B out t G0 bg br
      have P1 := P1.trans (Pex.kept P1.ok kpK)
      refine h B out t G0 _ f c' ⟨C.blt, br, bg, rfl, C.nd⟩ σ HK _ _ (takes_of rfl rfl rfl rfl) P1.ok (fun v H2 y ρ2 P2 V2 q2 => ?_) fun cls dd H2 ρ2 P2 er => ?_
      · refine hQ _ _ fun H3 q kp nq at3 => ?_
        have PK := Pex.kept P2.ok kp
        have st := PK.stb P2.ok
        refine kk (.ref q) H3 _ _ ((P1.trans P2).trans PK) ?_ q2
        exact Rp.tuple at3 (.cons (.str _) (.cons .none .nil))
      · obtain ⟨x', f', d, C', dx, v, ⟨tag, tg, q2⟩, e1, e2, e3, e4, r⟩ := er
        refine hE _ _ _ ⟨x', f', tag, C', dx, v, tg, e1, e2, e3, e4, fun H3 q kp nq at3 => ?_⟩
        have PK := Pex.kept P2.ok kp
        have st := PK.stb P2.ok
        refine kk (.ref q) H3 _ _ ((P1.trans P2).trans PK) ?_ q2
        exact Rp.tuple at3 (.cons tag.rp (.cons (Rp.mono st _ _ r) .nil))
  refine wpAny_call (codeAny_mono call_ fun r s2 hq => ?_)
  match r, hq with
  | .error e, hq => exact (show False from hq).elim
  | .ok (.ret u), hq => exact I1.after hq
  | .ok .next, hq => exact False.elim hq
  | .ok .brk, hq => exact False.elim hq
  | .ok .cont, hq => exact False.elim hq
theorem EW.toldGP {Pd : PyData → Prop} (T : ToldG X.prog X.w X.K X.mg X.base x Tag wd) (C : Ctx X k) (j : Nat) (hj : j + 2 ≤ k) (TB : LamX.TabB X.base X.mg c P) (at_c : X.env.code = .ref c) (hm : (P, X.env.qual ++ "<lambda>") ∈ HasT.T) (hu : ∀ p ∈ HasT.T, p.1 = P → p.2 = X.env.qual ++ "<lambda>")
    (L : LamX.LamS X.env.scope scope) (nodef : defaultsOf params X.env = ([], [])) (nopar : ∀ (q : Str) (cl : List (Str × Addr)) (pm cv ctv : Value), bindArgs (PySem.W.kla_fn "<lambda>" q params body scope cl pm cv ctv) ⟨[], []⟩ = pure []) (hg : Gl X x)
    (h : ∀ (B : Around) (out : List Env) (t : Shared) (G : Hp) (E : XK) (f c' : Addr), Ctx (LamX.lamCx X B out t G E scope f c') j → EWx (LamX.lamCx X B out t G E scope f c') body ρ (fun _ ρ1 => ρ1 = ρ ∧ Pd (.tuple [.str wd, .none])) fun x f d ρ1 => ρ1 = ρ ∧ ∃ tag, Tag x f tag ∧ Pd (.tuple [tag.d, d]))
    (q : ∀ d, Pd d → Q (.dat d) ρ) (hdb : (x == ("__debug__" : Str)) = false := by decide) : EW X (.Call (.Name x p) [.Lambda params body scope lp] [] pos) ρ Q :=
  EW.toldG T C j hj TB at_c hm hu L nodef nopar hg (fun B out t G E f c' CL => (h B out t G E f c' CL).imp (fun y ρ1 ⟨e, pd⟩ => by rw [e]; exact q _ pd) fun x f d ρ1 ⟨e, tag, tg, pd⟩ => ⟨tag, tg, by rw [e]; exact q _ pd⟩) hdb
end
end AW

/-! AW64: list.remove of data of any depth. -/
namespace PySem.SeqAt
open MeetsSeq MeetsSeq2 MeetsSeq3 SeqRoads2
open AutoSeq1 (wpAny_loadPart')
theorem remove_loopAt (l : Addr) (items : Array Value) (n : Nat) (x : Value) (e : Value → Bool) (j : Nat) (hj : j < items.size) (hit : e items[j] = true) (k : Nat) (hs1 : items.size ≤ sizeLine) :
    ∀ i : Nat, j - i = k → i ≤ j → (∀ m (hm : m < items.size), i ≤ m → m < j → e items[m] = false) → Meets (Builtin.«list.remove.loop» ⟨[.ref l, x, rawInt i], []⟩)
      (fun A R s => s.heap.get? l = some { cls := .type "list", dict := none, data := .seq items n, slots := #[] } ∧ (∀ y, y ∈ items → EqAt A.in1 s y x (e y)) ∧ R (.ok (.ret .none)) { s with heap := s.heap.update l (Obj.mapSeq fun xs => xs.eraseIdxIfInBounds j) }) := by
  induction k with
  | zero =>
    intro i hk hij hno prog w A R s h
    obtain ⟨hp, g, d, tk, os⟩ := s; obtain ⟨hl, he, h⟩ := h
    have hij' : i = j := by omega
    subst hij'
    wp_walk using wpAny_loadPart' hl
    have hi : items[((i : Nat) : Int).toNat]? = some items[i] := by simp [hj]
    rw [hi]
    refine wpAny_bind (he _ (Array.getElem_mem hj) prog w _ _ ?_)
    rw [hit]
    have hz' : (items.eraseIdxIfInBounds i).size ≤ sizeLine + 1 := Nat.le_trans (size_erased items _) (Nat.le_succ_of_le hs1)
    wp_walk using (wpAny_updateSeq hl rfl (hz := hs1) (_hz' := hz')), wpAny_loadPart' hl
    simpa using h
  | succ k ih =>
    intro i hk hij hno prog w A R s h
    obtain ⟨hp, g, d, tk, os⟩ := s; obtain ⟨hl, he, h⟩ := h
    have hlt : i < items.size := by omega
    wp_walk using wpAny_loadPart' hl
    have hi : items[((i : Nat) : Int).toNat]? = some items[i] := by simp [hlt]
    have hc : ((i : Int) + 1) = ((i + 1 : Nat) : Int) := by push_cast; rfl
    rw [hi]
    refine wpAny_bind (he _ (Array.getElem_mem hlt) prog w _ _ ?_)
    rw [hno i hlt (Nat.le_refl _) (by omega)]
    wp_walk
    rw [hc]
    exact ⟨plainId_quiet plain_remove_loop _, codeAny_builtin entry_remove_loop (by
      rw [Around.under_plainId plain_remove_loop _]
      exact ih (i + 1) (by omega) (by omega) (fun m hm h1 h2 => hno m hm (by omega) h2) prog w A R _ ⟨hl, he, h⟩)⟩
theorem list_removeAt (l : Addr) (items : Array Value) (n : Nat) (x : Value) (e : Value → Bool) (j : Nat) (hj : j < items.size)
    (hit : e items[j] = true) (hno : ∀ m (hm : m < items.size), m < j → e items[m] = false) (hs1 : items.size ≤ sizeLine) :
    Meets (Builtin.«list.remove» ⟨[.ref l, x], []⟩)
      (fun A R s => s.heap.get? l = some { cls := .type "list", dict := none, data := .seq items n, slots := #[] } ∧ (∀ y, y ∈ items → EqAt A.in1 s y x (e y)) ∧ R (.ok (.ret .none)) { s with heap := s.heap.update l (Obj.mapSeq fun xs => xs.eraseIdxIfInBounds j) }) := by
  intro prog w A R s h
  obtain ⟨hp, g, d, tk, os⟩ := s; obtain ⟨hl, he, h⟩ := h
  wp_walk using wpAny_loadPart' hl
  exact ⟨plainId_quiet plain_remove_loop _, codeAny_builtin entry_remove_loop (by
    rw [Around.under_plainId plain_remove_loop _]
    exact remove_loopAt l items n x e j hj hit _ hs1 0 rfl (Nat.zero_le _) (fun m hm _ h2 => hno m hm h2) prog w A R _ ⟨hl, he, h⟩)⟩
end PySem.SeqAt
namespace AW
variable [HasT]
open PySem PySem.Spec PyProof.Rows L2
def rRemD (K : PySem.W.Frag) : V → List V → Hp → VK → Prop := fun x xs H Q => ∃ (a : Addr) (y : V) (d : PyData) (ds : List PyData) (vs : List V) (j : Nat) (z : PyData), x = V.ref a ∧ xs = [y] ∧ H a = some (.lst vs) ∧ DpAll K H vs ds ∧ Dp K H y d ∧
  SeqAt.shaped (.list ds) = true ∧ SeqAt.shaped d = true ∧ ds[j]? = some z ∧ PyData.eqv z d = true ∧ (∀ (m : Nat) (z' : PyData), m < j → ds[m]? = some z' → PyData.eqv z' d = false) ∧ Q .non (upd H a (.lst (vs.eraseIdx j)))
theorem mt_removeD {X : Cx} (hu : X.A.units + 65 < cLine) : MtR X "list.remove" (rRemD X.K) := by
  intro pins s σ H x xs v us Q I rx rxs h
  obtain ⟨a, y, d, ds, vs, j, z, rfl, rfl, hH, ha, hy, sl, sd, hz, hzj, hno, q⟩ := h
  cases rx
  cases rxs with
  | cons ry rt =>
    rename_i uy ut
    cases rt
    obtain ⟨bs, r1⟩ := Dp.reads I d y uy hy ry
    have hxs : PyData.canLayAll0 ds = true := SeqAt.canLay_of_shaped sl
    have hroom : X.A.units + 1 + min (PyData.depthAll ds) d.depth < cLine := room_in_shaped sd hu
    obtain ⟨zl, its, n, rv, hlen, ho⟩ := I.lstM hH
    obtain ⟨as, h4⟩ := Dp.readsAll I ds _ its ha rv
    have hn : its.length = ds.length := SeqAt.ReadsAll.length ds its as h4
    have hmap : its.map (SeqAt.readOf s.heap) = ds := SeqAt.readsAll_map ds its as hxs h4
    obtain ⟨hjd, _⟩ := List.getElem?_eq_some_iff.mp hz
    have hjl : j < its.length := by omega
    have hj : j < its.toArray.size := by simpa using hjl
    have hsz : its.toArray.size ≤ sizeLine := by rw [List.size_toArray, ← hlen]; exact zl
    have at_ : ∀ (m : Nat) (hm : m < its.toArray.size) (z' : PyData), ds[m]? = some z' → SeqAt.readOf s.heap its.toArray[m] = z' := by
      intro m hm z' hz'
      have hml : m < its.length := by simpa using hm
      rw [← hmap, List.getElem?_map, List.getElem?_eq_getElem hml] at hz'
      have e1 : SeqAt.readOf s.heap its[m] = z' := Option.some.inj (show some (SeqAt.readOf s.heap its[m]) = some z' from hz')
      simpa using e1
    refine call_meets PySem.F.slot_list_remove ⟨_, ho, rfl⟩ PySem.F.entry_list_remove (PySem.F.args_list_remove_2 _ _)
      (SeqAt.list_removeAt a its.toArray n uy (fun u => PyData.eqv (SeqAt.readOf s.heap u) d) j hj ?_ ?_ hsz) ⟨ho, SeqAt.items_eqAt (vs := its.toArray) (show ReadsAll s.heap its.toArray.toList ds as from h4) r1 hxs (SeqAt.canLay_of_shaped sd) hroom, ?_⟩
    · show PyData.eqv (SeqAt.readOf s.heap its.toArray[j]) d = true
      rw [at_ j hj z hz]
      exact hzj
    · intro m hm hmj
      have hmd : m < ds.length := by omega
      have hz' : ds[m]? = some ds[m] := List.getElem?_eq_getElem hmd
      show PyData.eqv (SeqAt.readOf s.heap its.toArray[m]) d = false
      rw [at_ m hm _ hz']
      exact hno m _ hmj hz'
    · refine ⟨.non, _, I.lset (its' := its.eraseIdx j) hH ho ?_ (rv.eraseIdx j) ?_, rfl, q⟩
      · show its.toArray.eraseIdxIfInBounds j = (its.eraseIdx j).toArray
        rw [List.eraseIdxIfInBounds_toArray]
      · exact Nat.le_trans (List.length_eraseIdx_le _ _) zl
/-- the first one equal to d goes -/
def remR (ρ : Nv) (i : Nat) (d : PyData) (q : Nv → Prop) : Prop := ∃ (p : Bool) (ds : List PyData) (j : Nat) (z : PyData), ρ[i]? = some (.hol p ds) ∧ SeqAt.shaped (.list ds) = true ∧ SeqAt.shaped d = true ∧ ds[j]? = some z ∧ PyData.eqv z d = true ∧
  (∀ (m : Nat) (z' : PyData), m < j → ds[m]? = some z' → PyData.eqv z' d = false) ∧ q (ρ.set i (.hol p (ds.eraseIdx j)))
section
variable {X : Cx} {o e : Expr} {ρ : Nv} {Q : QE} {apos cpos : Pos} {k : Nat}
theorem EW.remove (C : Ctx X k) (h : EW X o ρ fun x ρ1 => ∃ i, x = .own i ∧ EWd X e ρ1 fun d ρ2 => remR ρ2 i d fun ρ3 => Q (.dat .none) ρ3)
    (hbase : attributeBase o "remove" X.env (eval o X.env) = eval o X.env := by rfl) (hfew : ((backTo cpos (starEach [e] X.env)).all (fun x => !x.1) && (backToKw cpos (keywordEach [] X.env)).all (fun x => x.1.isSome) && decide ([e].length + ([] : List Keyword).length + (if ([] : List Keyword).isEmpty then 0 else 1) < 30)) = true := by rfl)
    (hline : (apos.endLine == cpos.line) = true := by rfl) (hs : starEach [e] X.env = (false, eval e X.env) :: starEach [] X.env := by rfl) (hplain : (backTo cpos (starEach [] X.env)).any (·.1) = false := by rfl) : EW X (.Call (.Attribute o "remove" apos) [e] [] cpos) ρ Q := fun σ H R Ev kk pins s I => by
  refine (pe_bm PySem.F.plainAttrs_list PySem.F.slot_list_remove PySem.F.type_list_remove (mt_removeD (by have := C.units; omega)) pe_W (pa_cons pe_W pa_nil hs) hbase hfew hline hs hplain).run pins s σ H R I (h σ H _ Ev fun v H1 x ρ1 P1 V1 ⟨i, ex, q⟩ => ?_)
  subst ex
  refine ⟨own_list P1.ok V1, EWd.run q P1.ok fun u H2 d ρ2 P2 r2 ⟨q, ds, j, z, hi, sl, sd, hz, hzj, hno, q2⟩ => ?_⟩
  obtain ⟨m, vs, rfl, em, hm, r⟩ := own_at P2.ok (V1.step Ev P1 P2) hi
  refine ⟨m, u, d, ds, vs, j, z, rfl, rfl, hm, RpAll.dp ds _ r (by simpa [PyData.hasDict] using nodict_of_shaped sl), Rp.dp d _ r2 (nodict_of_shaped sd), sl, sd, hz, hzj, hno, ?_⟩
  exact kk _ _ _ _ ((P1.trans P2).trans (pex_mut P2.ok hi em (r.eraseIdx j))) (vdat .none) q2
/-- typed -/
theorem remM {α : Type} [DecidableEq α] {m : Nat} {g : α → PyData} (h : EncOk m g) (hm : m ≤ 63) {i : Nat} {d : PyData} {q : Nv → Prop} (z : ∃ (p : Bool) (l : List α) (j : Nat) (a : α), ρ[i]? = some (.hol p (l.map g)) ∧ d = g a ∧ l[j]? = some a ∧ (∀ n < j, l[n]? ≠ some a) ∧ q (ρ.set i (.hol p ((l.eraseIdx j).map g)))) : remR ρ i d q := by
  obtain ⟨p, l, j, a, h1, rfl, h3, h4, h5⟩ := z
  refine ⟨p, l.map g, j, g a, h1, h.lst.shaped (by omega) l, h.shaped (by omega) a, by rw [List.getElem?_map, h3]; rfl, by rw [h.inj]; simp, fun n z' hn hz => ?_, ?_⟩
  · rw [List.getElem?_map] at hz
    cases e : l[n]? with
    | none => rw [e] at hz; cases hz
    | some b =>
      rw [e] at hz
      cases hz
      rw [h.inj]
      refine decide_eq_false fun c => h4 n hn ?_
      rw [e, c]
  · have e : (l.map g).eraseIdx j = (l.eraseIdx j).map g := by
      clear h1 h3 h4 h5
      induction l generalizing j with
      | nil => rfl
      | cons x l ih =>
        cases j with
        | zero => rfl
        | succ j => simp only [List.map_cons, List.eraseIdx_cons_succ, ih]
    rw [e]
    exact h5
end
end AW

/-! AW65: texts as lists of signs: split, join, walked, index, int, times, slices. -/
namespace AW
variable [HasT]
open PySem PySem.Spec PyProof.Rows L2
abbrev eX (a : List Nat) : PyData := .str (SX.S a)
/-- a text cut at each sign c -/
def splC (c : Nat) (a : List Nat) : List (List Nat) := TL.spl [c] 0 [] a
theorem RpAll.txts {K : PySem.W.Frag} {H : Hp} {ns : List Str} {vs : List V} : RpAll K H (ns.map PyData.str) vs → vs = ns.map V.str := RpAll.strs
section
variable {X : Cx} {o e a b tg iter : Expr} {ρ : Nv} {Q : QE} {pos p apos cpos : Pos} {k : Nat}
/-- x.split(c) -/
theorem EW.splitS (h : EW X o ρ fun x ρ1 => ∃ z : List Nat, x = .dat (eX z) ∧ z.length + 2 ≤ sizeLine ∧ EW X e ρ1 fun y ρ2 => ∃ c : Nat, c < 256 ∧ y = .dat (eX [c]) ∧ Q (.frs ((splC c z).map eX)) ρ2)
    (hs : starEach [e] X.env = [(false, eval e X.env)] := by rfl) (hbase : attributeBase o "split" X.env (eval o X.env) = eval o X.env := by rfl) (hline : (apos.endLine == pos.line) = true := by rfl) : EW X (.Call (.Attribute o "split" apos) [e] [] pos) ρ Q := fun σ H R Ev kk pins s I =>
  (pe_split pe_W pe_W hs hbase hline).run pins s σ H R I (h σ H _ Ev fun v H1 x ρ1 P1 V1 ⟨z, ex, hz, q⟩ => by
    subst ex
    obtain rfl := Rp.str_inv V1
    refine ⟨⟨_, rfl⟩, q σ H1 _ P1.ok fun u H2 y ρ2 P2 V2 ⟨c, hc, ey, q2⟩ => ?_⟩
    subst ey
    obtain rfl := Rp.str_inv V2
    refine ⟨_, _, rfl, rfl, rfl, by rw [SX.S_len]; exact hz, fun p n => ?_⟩
    rw [SX.split_S (by simp) (by simp [hc])]
    have e : ((splC c z).map SX.S).map V.str = ((splC c z).map SX.S).map V.str := rfl
    refine kk _ _ (.frs ((splC c z).map eX)) ρ2 ((P1.trans P2).trans (Pex.new P2.ok n)) ((frs_new n ?_).back fun a z => (P1.trans P2).free z) q2
    have r : RpAll X.K H2 (((splC c z).map SX.S).map PyData.str) (((splC c z).map SX.S).map V.str) := RpAll.strs'
    rw [List.map_map] at r
    exact r)
/-- c.join(texts) -/
theorem EW.joinS (h : EW X o ρ fun x ρ1 => ∃ z : List Nat, x = .dat (eX z) ∧ EW X e ρ1 fun y ρ2 => ∃ ys : List (List Nat), seqA ρ2 y = some (ys.map eX) ∧ (ys.map List.length).sum + ys.length * z.length ≤ 16777216 ∧ Q (.dat (eX (TL.joinL z ys))) ρ2)
    (hs : starEach [e] X.env = [(false, eval e X.env)] := by rfl) (hbase : attributeBase o "join" X.env (eval o X.env) = eval o X.env := by rfl) (hline : (apos.endLine == pos.line) = true := by rfl) : EW X (.Call (.Attribute o "join" apos) [e] [] pos) ρ Q := fun σ H R Ev kk pins s I =>
  (pe_join pe_W pe_W hs hbase hline).run pins s σ H R I (h σ H _ Ev fun v H1 x ρ1 P1 V1 ⟨z, ex, q⟩ => by
    subst ex
    obtain rfl := Rp.str_inv V1
    refine ⟨⟨_, rfl⟩, q σ H1 _ P1.ok fun u H2 y ρ2 P2 V2 ⟨ys, hy, hz, q2⟩ => ?_⟩
    obtain ⟨m, xs, rfl, r, rp⟩ := seqA_ok P2.ok V2 hy
    have rp' : RpAll X.K H2 ((ys.map SX.S).map PyData.str) xs := by rw [List.map_map]; exact rp
    obtain rfl := rp'.strs
    refine ⟨_, m, ys.map SX.S, rfl, rfl, r, ?_, ?_⟩
    · rw [SX.lens, List.length_map, SX.S_len]; exact hz
    · rw [SX.join_S]
      exact kk _ _ (.dat (eX (TL.joinL z ys))) ρ2 (P1.trans P2) (vdat (.str _)) q2)
/-- x.index(y): the first place -/
theorem EW.findS (h : EW X o ρ fun x ρ1 => ∃ z : Str, x = .dat (.str z) ∧ EW X e ρ1 fun y ρ2 => ∃ (u : Str) (i : Nat) (rest : List Nat), y = .dat (.str u) ∧ Builtin.Str.occurrences z u 0 z.length 1 = i :: rest ∧ Q (.dat (.int (i : Nat))) ρ2)
    (hs : starEach [e] X.env = [(false, eval e X.env)] := by rfl) (hbase : attributeBase o "index" X.env (eval o X.env) = eval o X.env := by rfl) (hline : (apos.endLine == pos.line) = true := by rfl) : EW X (.Call (.Attribute o "index" apos) [e] [] pos) ρ Q := fun σ H R Ev kk pins s I =>
  (pe_m1 PySem.F.slot_str_index PySem.F.type_str_index mt_sindex pe_W pe_W hs hbase hline).run pins s σ H R I (h σ H _ Ev fun v H1 x ρ1 P1 V1 ⟨z, ex, q⟩ => by
    subst ex
    obtain rfl := Rp.str_inv V1
    refine ⟨⟨_, rfl⟩, q σ H1 _ P1.ok fun w H2 y ρ2 P2 V2 ⟨u, i, rest, ey, ho, q2⟩ => ?_⟩
    subst ey
    obtain rfl := Rp.str_inv V2
    exact ⟨z, u, i, rest, rfl, rfl, ho, kk _ _ _ _ (P1.trans P2) (vdat (.int _)) q2⟩)
/-- int(x), x figures alone -/
theorem EW.intS (C : Ctx X k) (h : EW X e ρ fun x ρ1 => ∃ a : List Nat, x = .dat (eX a) ∧ a.all (fun c => decide (48 ≤ c) && decide (c ≤ 57)) = true ∧ a ≠ [] ∧ a.length ≤ 640 ∧ Q (.dat (.int ((NumText.digitsVal a : Nat) : Int))) ρ1)
    (hg : Gl X "int" := by rfl) (he : starEach [e] X.env = (false, eval e X.env) :: starEach [] X.env := by rfl) (hpl : (backTo pos (starEach [] X.env)).any (·.1) = false := by rfl) : EW X (.Call (.Name "int" p) [e] [] pos) ρ Q :=
  EW.t1 (t := fun ρ x q => ∃ a : List Nat, x = .dat (eX a) ∧ a.all (fun c => decide (48 ≤ c) && decide (c ≤ 57)) = true ∧ a ≠ [] ∧ a.length ≤ 640 ∧ q (.dat (.int ((NumText.digitsVal a : Nat) : Int)))) call_int_str (fun σ H0 H ρ x v q R E V ⟨a, ex, h1, h2, h3, t⟩ kk => by
    subst ex
    obtain rfl := Rp.str_inv V
    exact ⟨_, _, rfl, SX.int_S h1 h2 (by omega), by rw [SX.S_len]; exact h3, kk _ H _ (Pex.refl E) (vdat (.int _)) t⟩) C.blt.int (by decide +kernel) h hg (by decide) (by decide) he hpl
/-- a text is walked sign by sign -/
def signsD (a : List Nat) : List PyData := a.map fun c => eX [c]
theorem dit_str {K : PySem.W.Frag} {H1 : Hp} {a : List Nat} : DIt K H1 (Its (SX.S a)) (signsD a) := fun H st => by
  refine ⟨fun i hi => (show i < (SX.S a).cps.size by simpa [signsD] using hi), by show (SX.S a).cps.size ≤ (signsD a).length; simp [signsD], fun i x H' d hy hd => ?_⟩
  obtain ⟨rfl, c, hc, rfl⟩ := hy
  have hc' : a[i]? = some c := by simpa using hc
  unfold signsD at hd
  rw [List.getElem?_map, hc'] at hd
  cases hd
  exact ⟨.str _, .inl rfl⟩
theorem IW.strS {Q : List PyData → Nv → Prop} (h : EW X iter ρ fun x ρ1 => ∃ a : List Nat, x = .dat (eX a) ∧ Q (signsD a) ρ1) : IW X tg iter ρ Q := fun σ H R Ev kk pins s I => by
  refine (pi_str pe_W).run pins s σ H R I (h σ H _ Ev fun v H1 x ρ1 P V ⟨a, e, q⟩ => ?_)
  subst e
  obtain rfl := Rp.str_inv V
  exact ⟨_, rfl, kk _ H1 _ ρ1 P dit_str q⟩
/-- a text times a number -/
def mulSR : R2A := fun _ x y q => ∃ (a : List Nat) (n : Nat), x = .dat (eX a) ∧ y = .dat (.int (n : Nat)) ∧ a ≠ [] ∧ 2 ≤ n ∧ n ≤ 1000 ∧ a.length ≤ 1000 ∧ q (.dat (eX (List.replicate n a).flatten))
theorem rep_fold (a : List Nat) : ∀ n : Nat, ∀ acc : Array Nat, ((List.replicate n a.toArray).foldl (· ++ ·) acc).toList = acc.toList ++ (List.replicate n a).flatten
  | 0, acc => by simp
  | n + 1, acc => by
    rw [List.replicate_succ, List.foldl_cons, rep_fold a n, List.replicate_succ, List.flatten_cons]
    simp
theorem op_mulS : OpR X (binaryOp .Mult) (fun x y H Q => ∃ (a : List Nat) (n : Nat), x = .str (SX.S a) ∧ y = .int (n : Nat) ∧ a ≠ [] ∧ 2 ≤ n ∧ n ≤ 1000 ∧ a.length ≤ 1000 ∧ Q (.str (SX.S (List.replicate n a).flatten)) H) := by
  intro pins s σ H x y v u Q I rx ry ⟨a, n, e1, e2, ha, h2, hn, hl, q⟩
  subst e1; subst e2
  obtain ⟨t, rfl⟩ := rx
  obtain ⟨t', rfl⟩ := ry
  have al : 0 < a.length := List.length_pos_iff.mpr ha
  have hm : a.length * n ≤ 1000 * 1000 := Nat.mul_le_mul hl hn
  have hs := sizeLine_eq
  have e : (SX.S (List.replicate n a).flatten) = ⟨(List.replicate ((n : Nat) : Int).toNat (SX.S a).cps).foldl (· ++ ·) #[]⟩ := by
    refine TL.ext_tl ?_
    show (List.replicate n a).flatten = ((List.replicate ((n : Nat) : Int).toNat a.toArray).foldl (· ++ ·) #[]).toList
    rw [rep_fold]
    simp
  refine PySem.P.mul_str ?_ (fun _ _ => ?_) (fun _ _ => ?_) ?_
  · rw [decide_eq_false (by omega), decide_eq_false (by omega)]; rfl
  · rw [SX.S_len]
    have h1 : (1000 : Int) ≤ (2 ^ 63 - 1) / (n : Int) := (Int.le_ediv_iff_mul_le (by omega)).2 (by omega)
    omega
  · unfold Builtin.Str.tooLong
    rw [SX.S_len]
    have : a.length * ((n : Nat) : Int).toNat = a.length * n := by simp
    rw [this]
    simp
    omega
  · have b1 : ((n : Int) == 1) = false := beq_eq_false_iff_ne.mpr (by omega)
    have b2 : ((SX.S a).length == 0) = false := by rw [SX.S_len]; exact beq_eq_false_iff_ne.mpr (by omega)
    rw [if_neg (by omega), b1, b2, if_neg (by decide), ← e]
    refine ⟨?_, .str _, H, I.tok _, ⟨_, rfl⟩, q⟩
    have hfl : (List.replicate n a).flatten.length = n * a.length := by simp
    have : n * a.length ≤ 1000 * 1000 := Nat.mul_le_mul hn hl
    rw [SX.S_len, hfl]
    omega
theorem EW.mulS (h : EW X a ρ fun x ρ1 => EW X b ρ1 fun y ρ2 => mulSR ρ2 x y fun z => Q z ρ2) : EW X (.BinOp a .Mult b pos) ρ Q := EW.op (fun pins s σ H0 H ρ x y v u vv uu q I E V U rv ru ⟨a, n, ex, ey, h1, h2, h3, h4, hq⟩ => by
  subst ex; subst ey
  obtain rfl := Rp.str_inv V
  obtain rfl := Rp.int_inv U
  exact thn (op_mulS pins s σ H _ _ vv uu (fun w H' => H' = H ∧ w = .str (SX.S (List.replicate n a).flatten)) I rv ru ⟨a, n, rfl, rfl, h1, h2, h3, h4, rfl, rfl⟩) fun w s' ⟨z, H', I', r', e1, e2⟩ => by subst e1; subst e2; exact ⟨_, _, _, ρ, I', r', Pex.refl E, vdat (.str _), rfl, hq⟩) h
/-! ### ends in typed form -/
theorem addS {x y : AV} {q : AV → Prop} (h : ∃ a b : List Nat, x = .dat (eX a) ∧ y = .dat (eX b) ∧ a.length + b.length ≤ sizeLine ∧ q (.dat (eX (a ++ b)))) : addR ρ x y q := by
  obtain ⟨a, b, rfl, rfl, hl, h⟩ := h
  refine ⟨by rw [SX.S_len, SX.S_len]; exact hl, ?_⟩
  rw [SX.S_cat]
  exact h
theorem lenS {x : AV} {q : AV → Prop} (h : ∃ a : List Nat, x = .dat (eX a) ∧ a.length ≤ sizeLine ∧ q (.dat (.int (a.length : Nat)))) : lenR ρ x q := by
  obtain ⟨a, rfl, hl, h⟩ := h
  refine ⟨by rw [SX.S_len]; exact hl, ?_⟩
  rw [SX.S_len]
  exact h
theorem slS_to {x : AV} {hi : Option Int} {q : AV → Prop} (h : ∃ (a : List Nat) (j : Nat), hi = some (j : Int) ∧ x = .dat (eX a) ∧ a.length ≤ sizeLine ∧ q (.dat (eX (a.take j)))) : sliceR ρ x none hi q := by
  obtain ⟨a, j, rfl, rfl, hl, h⟩ := h
  refine ⟨by rw [SX.S_len]; exact hl, ?_⟩
  rw [SX.slice_to (Int.natCast_nonneg _)]
  exact h
theorem slS_from {x : AV} {lo : Option Int} {q : AV → Prop} (h : ∃ (a : List Nat) (j : Nat), lo = some (j : Int) ∧ x = .dat (eX a) ∧ a.length ≤ sizeLine ∧ q (.dat (eX (a.drop j)))) : sliceR ρ x lo none q := by
  obtain ⟨a, j, rfl, rfl, hl, h⟩ := h
  refine ⟨by rw [SX.S_len]; exact hl, ?_⟩
  rw [SX.slice_from (Int.natCast_nonneg _)]
  exact h
theorem ixS {x y : AV} {q : AV → Prop} (h : ∃ (a : List Nat) (j : Nat), x = .dat (eX a) ∧ y = .dat (.int (j : Nat)) ∧ j < a.length ∧ a.length ≤ sizeLine ∧ q (.dat (eX [a.getD j 0]))) : ixR ρ x y q := by
  obtain ⟨a, j, rfl, rfl, hj, hl, h⟩ := h
  refine ⟨a.getD j 0, by rw [SX.S_len]; exact hl, ?_, h⟩
  have e : (ixN (SX.S a).cps.toList.length (j : Int)) = some j := by
    unfold ixN
    rw [if_pos (by omega), if_pos (by simp; exact hj)]
    rfl
  unfold L2.atI
  rw [e]
  simp [hj]
theorem inQ_sign {x y : AV} {q : AV → Prop} (h : ∃ (c : Nat) (a : List Nat), x = .dat (eX [c]) ∧ y = .dat (eX a) ∧ q (.dat (.bool (decide (c ∈ a))))) : inQ false ρ x y q := by
  obtain ⟨c, a, rfl, rfl, h⟩ := h
  refine .inl ?_
  show q _
  rw [if_neg (by simp), SX.in_one]
  exact h
theorem notQ_sign {x y : AV} {q : AV → Prop} (h : ∃ (c : Nat) (a : List Nat), x = .dat (eX [c]) ∧ y = .dat (eX a) ∧ q (.dat (.bool (decide (¬ c ∈ a))))) : inQ true ρ x y q := by
  obtain ⟨c, a, rfl, rfl, h⟩ := h
  refine .inl ?_
  show q _
  rw [if_pos rfl, SX.in_one, ← decide_not]
  exact h
end
end AW
namespace AW
variable [HasT]
open PySem PySem.Spec PyProof.Rows L2
theorem EW.strX {X : Cx} {ρ : Nv} {Q : QE} {pos : Pos} {z : Str} {j : Nat} (a : List Nat) (e : z = SX.S a) (q : Q (.dat (eX a)) ρ) : EW X (.Constant (.str z) j pos) ρ Q := EW.str (by rw [e]; exact q)
theorem inQ_signC {ρ : Nv} {x y : AV} {q : AV → Prop} (a : List Nat) {z : Str} (e : z = SX.S a) (h : ∃ c : Nat, x = .dat (eX [c]) ∧ y = .dat (.str z) ∧ q (.dat (.bool (decide (c ∈ a))))) : inQ false ρ x y q := by
  obtain ⟨c, h1, h2, h3⟩ := h
  exact inQ_sign ⟨c, a, h1, by rw [h2, e], h3⟩
theorem eqX {ρ : Nv} {x y : AV} {q : AV → Prop} (h : ∃ a b : List Nat, x = .dat (eX a) ∧ y = .dat (eX b) ∧ q (.dat (.bool (decide (a = b))))) : eqT ρ x y q := by
  obtain ⟨a, b, rfl, rfl, h⟩ := h
  refine eqT_str ?_
  rw [show decide (SX.S a = SX.S b) = decide (a = b) from decide_eq_decide.mpr ⟨SX.S_inj, fun e => by rw [e]⟩]
  exact h
theorem neX {ρ : Nv} {x y : AV} {q : AV → Prop} (h : ∃ a b : List Nat, x = .dat (eX a) ∧ y = .dat (eX b) ∧ q (.dat (.bool (decide (¬ a = b))))) : neT ρ x y q := by
  obtain ⟨a, b, rfl, rfl, h⟩ := h
  refine neT_str ?_
  rw [show decide (¬ SX.S a = SX.S b) = decide (¬ a = b) from decide_eq_decide.mpr ⟨fun n e => n (by rw [e]), fun n e => n (SX.S_inj e)⟩]
  exact h
end AW

/-! AW66: a loop whose body may raise. -/
namespace AW
variable [HasT]
open PySem PySem.Spec PyProof.Rows L2
section
variable {X : Cx} {st : Stmt} {sts bd : List Stmt} {tg iter : Expr} {ρ : Nv} {E : AEnds} {Er : ErrP} {pos : Pos} {k : Nat} {is : List Nat}
theorem SWx.for (C : Ctx X k) (h : IW X tg iter ρ fun ds ρ1 => ∃ R : Nat → Nv → Prop, R 0 ρ1 ∧ (∀ i d ρ2, ds[i]? = some d → R i ρ2 → GW X tg d ρ2 is fun ρ3 => SWx X bd ρ3 { E with nx := R (i + 1), ct := R (i + 1), bk := fun ρ4 => SWx X sts ρ4 E Er } Er) ∧ ∀ ρ2, R ds.length ρ2 → SWx X sts ρ2 E Er)
    (hp : PassesOwn (model X.prog X.w) X.A X.env X.xe) (hs : ∀ x, foldedSetIterable iter X.env x = pure x := by intro _; rfl) : SWx X (.For tg iter bd [] pos :: sts) ρ E Er := fun σ H D W tk Ev k1 k2 k3 k4 k5 pins s I => by
  have go : ∀ σ' H' ρ', Pst X.K H ρ σ H' ρ' σ' → SWx X sts ρ' E Er → tSW X sts D σ' H' := fun σ' H' ρ' P q =>
    q σ' H' D W tk P.ok (fun σ2 H2 ρ2 P2 q2 => k1 _ _ _ (P.trans P2) q2) (fun v σ2 H2 x ρ2 P2 V q2 => k2 v σ2 H2 x ρ2 (P.trans P2) (V.back fun a n => P.free n) q2)
      (fun σ2 H2 ρ2 P2 q2 => k3 _ _ _ (P.trans P2) q2) (fun σ2 H2 ρ2 P2 q2 => k4 _ _ _ (P.trans P2) q2) (fun cls dd σ2 H2 ρ2 P2 q2 => k5 _ _ _ _ _ (P.trans P2) q2)
  refine (pss_cons (ps_for hp C.calm pi_W pg_W pss_W hs) pss_W).run pins s σ H D I (h σ H _ Ev fun J H1 ds ρ1 P1 dj ⟨R, r0, rs, rd⟩ => ?_)
  have E1 := P1.ok
  refine ⟨fun i m σk Hk => i ≤ ds.length ∧ m = ds.length - i ∧ ∃ ρk, Pst X.K H1 ρ1 σ Hk ρk σk ∧ R i ρk, ⟨ds.length, Nat.zero_le _, rfl, ρ1, Pst.refl E1, r0⟩, fun i m σk Hk ⟨hi, hm, ρk, Pk, rk⟩ => ?_⟩
  obtain ⟨g1, g2, g3⟩ := dj Hk (Pk.stb E1)
  by_cases hl : i < ds.length
  · refine .inr ⟨g1 i hl, fun σ' H' => ∃ ρ', Pst X.K H1 ρ1 σ H' ρ' σ' ∧ R (i + 1) ρ', fun σ' H' ⟨ρ', P', r'⟩ => ⟨ds.length - (i + 1), by omega, hl, rfl, ρ', P', r'⟩, fun x H' hy => ?_⟩
    obtain ⟨rx, ho⟩ := g3 i x H' ds[i] hy (List.getElem?_eq_getElem hl)
    have P' : Pst X.K H1 ρ1 σ H' ρk σk := by
      rcases ho with rfl | ⟨p, o, n, rfl⟩
      · exact Pk
      · exact Pk.trans (Pst.new Pk.ok n)
    refine rs i _ ρk (List.getElem?_eq_getElem hl) rk σk H' x _ P'.ok rx fun σ2 ρ2 P2 _ _ _ q2 => ?_
    have PP := P'.trans P2
    have PA := P1.pst.trans PP
    exact q2 σ2 H' _ W tk PP.ok (fun σ3 H3 ρ3 P3 q3 => ⟨ρ3, PP.trans P3, q3⟩) (fun v σ3 H3 x3 ρ3 P3 V3 q3 => k2 v σ3 H3 x3 ρ3 (PA.trans P3) (V3.back fun a n => PA.free n) q3) (fun σ3 H3 ρ3 P3 q3 => go σ3 H3 ρ3 (PA.trans P3) q3) (fun σ3 H3 ρ3 P3 q3 => ⟨ρ3, PP.trans P3, q3⟩)
      fun cls dd σ3 H3 ρ3 P3 er => k5 _ _ _ _ _ (PA.trans P3) er
  · have he : i = ds.length := Nat.le_antisymm hi (Nat.le_of_not_lt hl)
    subst he
    exact .inl ⟨g2, go σk Hk ρk (P1.pst.trans Pk) (rd ρk rk)⟩
theorem SWx.forM (C : Ctx X k) (h : IW X tg iter ρ fun ds ρ1 => ∃ (α : Type) (xs : List α) (g : α → PyData), ds = xs.map g ∧ ∃ R : List α → Nv → Prop, R [] ρ1 ∧ (∀ pre z post ρ2, xs = pre ++ z :: post → R pre ρ2 → GW X tg (g z) ρ2 is fun ρ3 => SWx X bd ρ3 { E with nx := R (pre ++ [z]), ct := R (pre ++ [z]), bk := fun ρ4 => SWx X sts ρ4 E Er } Er) ∧ ∀ ρ2, R xs ρ2 → SWx X sts ρ2 E Er)
    (hp : PassesOwn (model X.prog X.w) X.A X.env X.xe) (hs : ∀ x, foldedSetIterable iter X.env x = pure x := by intro _; rfl) : SWx X (.For tg iter bd [] pos :: sts) ρ E Er :=
  SWx.for (is := is) C (fun σ H R Ev kk => h σ H R Ev fun J H' ds ρ' P dj ⟨α, xs, g, e, R, r0, rs, rd⟩ => kk J H' ds ρ' P dj (by
    subst e
    refine ⟨fun i ρ => R (xs.take i) ρ, r0, fun i d ρ2 hd hR => ?_, fun ρ2 hR => ?_⟩
    · rw [List.getElem?_map] at hd
      cases hz : xs[i]? with
      | none => rw [hz] at hd; cases hd
      | some z =>
        rw [hz] at hd
        cases hd
        obtain ⟨hi, e3⟩ := List.getElem?_eq_some_iff.mp hz
        have e1 : xs = xs.take i ++ z :: xs.drop (i + 1) := by
          have e2 := List.take_append_drop i xs
          rw [List.drop_eq_getElem_cons hi, e3] at e2
          exact e2.symm
        have e4 : xs.take (i + 1) = xs.take i ++ [z] := by rw [List.take_add_one, hz]; rfl
        have q := rs _ z _ ρ2 e1 hR
        rw [← e4] at q
        exact q
    · rw [List.length_map, List.take_length] at hR
      exact rd ρ2 hR)) hp hs
/-- a text of the module -/
theorem EW.globX {Q : QE} {x : Str} {z : Str} (a : List Nat) (e : z = SX.S a) (hg : Gl X x) (hm : ∃ u, X.mg x = some u ∧ Sca (.str z) u) (q : Q (.dat (eX a)) ρ) (hd : (x == ("__debug__" : Str)) = false := by decide) : EW X (.Name x pos) ρ Q := EW.glob hg hm (by rw [e]; exact q) hd
end
end AW

/-! AW67: for .. in enumerate(e), where e raises. -/
namespace AW
variable [HasT]
open PySem PySem.Spec PyProof.Rows L2
theorem SWx.forEnumX {X : Cx} {sts bd : List Stmt} {e : Expr} {elts : List Expr} {kk k : Nat} {ρ : Nv} {E : AEnds} {Er : ErrP} {p tpos pos pos2 : Pos} (C : Ctx X k) (h : EWx X e ρ (fun _ _ => False) Er) (hp : PassesOwn (model X.prog X.w) X.A X.env X.xe) (hg : Gl X "enumerate" := by rfl) (hs : starEach [e] X.env = [(false, eval e X.env)] := by rfl)
    (hf : ∀ x, foldedSetIterable (.Call (.Name "enumerate" p) [e] [] pos) X.env x = pure x := by intro _; rfl) : SWx X (.For (.Tuple elts kk tpos) (.Call (.Name "enumerate" p) [e] [] pos) bd [] pos2 :: sts) ρ E Er := fun σ H D W tk Ev k1 k2 k3 k4 k5 pins s I =>
  (pss_cons (ps_for hp C.calm (pi_enum hg C.blt.enumerate (pa_cons pe_W pa_nil (by rw [hs]; rfl)) hs) pg_W pss_W hf) pss_W).run pins s σ H D I (h σ H _ W tk Ev (fun v H1 x ρ1 P V f => f.elim) fun cls dd H' ρ' P er => k5 _ _ _ _ _ P.pst er)
end AW
namespace AW
variable [HasT]
open PySem PySem.Spec PyProof.Rows L2
/-- a if c else b, each branch to its own end -/
theorem EW.ifQ {X : Cx} {a b c : Expr} {ρ : Nv} {Q : QE} {pos : Pos} {t : Bool} (h : TWb X c ρ t) (h1 : t = true → EW X a ρ Q) (h2 : t = false → EW X b ρ Q) : EW X (.IfExp c a b pos) ρ Q :=
  EW.ifExp (TW.imp h fun z ρ1 ⟨e1, e2⟩ => by
    subst e1
    subst e2
    cases z with
    | true => exact h1 rfl
    | false => exact h2 rfl)
end AW

/-! the law's defs -/
namespace VM
open PySem PySem.Spec PyProof.Rows L2 AW
def top (i : Nat) : Stmt := PySem.Challenge.pw_votemoves_k62_texts_of_ways_changed.main.body.getD i (.Pass ⟨0, 0, 0, 0⟩)
abbrev s_VoteError : Stmt := top 1
abbrev s_BadMembers : Stmt := top 2
abbrev s_BadText : Stmt := top 3
abbrev s_is_integer : Stmt := top 6
abbrev s_is_weights : Stmt := top 7
abbrev s_number_in : Stmt := top 13
abbrev s_numbers_in : Stmt := top 14
abbrev s_rows_in : Stmt := top 15
abbrev s_read_way : Stmt := top 16
abbrev s__law_urn : Stmt := top 18
abbrev s__law_take : Stmt := top 19
abbrev s__law_of : Stmt := top 20
abbrev s__law_votes : Stmt := top 21
abbrev s__law_odd : Stmt := top 22
abbrev s__law_votes_text : Stmt := top 23
abbrev s__law_number : Stmt := top 24
abbrev s__law_row_votes : Stmt := top 25
abbrev s__law_read_steps : Stmt := top 26
abbrev s__law_reads : Stmt := top 27
abbrev s__law_spoilt : Stmt := top 28
abbrev s__law_right : Stmt := top 29
abbrev s_law : Stmt := top 30
end VM

/-! the draws: a state from the script, a number below a bound, one of some -/
namespace VM
variable [AW.HasT]
open PySem PySem.Spec PyProof.Rows L2 AW
section
variable {P : Program} {w : World} {K : PySem.W.Frag} {mg : Str → Option Value} {base : Heap}
abbrev N__law_urn : List Str := ["_law_script", "_law_k", "_law_cell", "_law_great"]
theorem sc__law_urn : FnScope N__law_urn ["_law_script", "_law_k"] (defScope s__law_urn) := ⟨rfl, rfl, rfl, by decide +kernel, rfl, by decide +kernel, by decide +kernel⟩
def intsD (ns : List Int) : PyData := .list (ns.map .int)
def a__law_urn : ASp := fun as R => ∃ (ns : List Int) (k : Nat), as = [.dat (intsD ns), .dat (.int k)] ∧ k < 1000 ∧ ∀ ds, Urn 0 ds → R (.frs ds) as
theorem atI_ints {ns : List Int} {k : Nat} (h : k < ns.length) : L2.atI (ns.map PyData.int) (k : Nat) = some (.int (ns.getD k 0)) := by
  have e : (ns.map PyData.int)[k]? = some (.int (ns.getD k 0)) := by
    rw [List.getElem?_map, List.getD_eq_getElem?_getD, List.getElem?_eq_getElem h]; rfl
  exact atI_nat e
theorem ok__law_urn {f : Addr} {fd : FuncData} (F : Fun K "_law_urn" "_law_urn" s__law_urn f fd) (B : Blt mg) : FnG P w K mg base CX0 1 f fd ["_law_script", "_law_k"] (toSp K a__law_urn) := by
  refine fnA F sc__law_urn (by decide) B (fun as R h => ?_) fun cdv A outer s H E C as R h => ?_
  · obtain ⟨_, _, rfl, _⟩ := h; rfl
  obtain ⟨ns, k, rfl, hk, hR⟩ := h
  refine SW.cut (fun ρ => ∃ cell : Int, ρ = [.dat (intsD ns), .dat (.int k), .dat (.int cell), .un]) ?_ ?_
  · refine S1.asg (i := 2) C ?_ -- _law_cell =
    refine EW.ifExp ?_
    refine TW.cmp (opA_intB op_lt) ?_ (nomark _)
    refine EW.nameD (i := 1) rfl ?_ -- _law_k
    refine EW.len C ?_
    refine EW.nameD (i := 0) rfl ?_ -- _law_script
    refine ⟨_, rfl, ?_⟩
    refine ite_dec (fun h1 => ?_) (fun h1 => ?_)
    · -- then
      refine EW.ix ?_
      refine EW.nameD (i := 0) rfl ?_ -- _law_script
      refine EW.nameD (i := 1) rfl ?_ -- _law_k
      refine ⟨_, _, rfl, atI_ints (by simpa using h1), ?_⟩
      exact ⟨rfl, _, rfl⟩
    · -- else
      refine EW.add ?_
      refine EW.mul ?_
      refine EW.int ?_
      refine EW.nameD (i := 1) rfl ?_ -- _law_k
      refine ⟨.l (by omega) (by omega), ?_⟩
      refine EW.int ?_
      exact ⟨rfl, _, rfl⟩
  rintro ρ ⟨cell, rfl⟩
  refine SW.cut (fun ρ => ∃ g : Int, 0 ≤ g ∧ ρ = [.dat (intsD ns), .dat (.int k), .dat (.int cell), .dat (.int g)]) ?_ ?_
  · refine S1.asg (i := 3) C ?_ -- _law_great =
    refine EW.mul ?_
    refine EW.mod ?_
    refine EW.abs C ?_
    refine EW.nameD (i := 2) rfl ?_ -- _law_cell
    refine ⟨_, rfl, ?_⟩
    refine EW.pow ?_
    refine EW.pow ?_
    refine EW.int ?_
    refine EW.int ?_
    refine ⟨powOk 4 (by omega) (by omega) (by omega) (by omega), ?_⟩
    refine EW.int ?_
    refine ⟨powOk 200 (by decide) (by decide) (by omega) (by omega), ?_⟩
    refine ⟨(by decide : (0 : Int) < _), ?_⟩
    refine EW.intC C ?_
    refine EW.cmp (opA_intB op_ge) ?_ (nomark _)
    refine EW.abs C ?_
    refine EW.nameD (i := 2) rfl ?_ -- _law_cell
    refine ⟨_, rfl, ?_⟩
    refine EW.pow ?_
    refine EW.int ?_
    refine EW.int ?_
    refine ⟨powOk 4 (by omega) (by omega) (by omega) (by omega), ?_⟩
    have b2 : ∀ b : Bool, 0 ≤ b2n b ∧ b2n b ≤ 1 := fun b => by cases b <;> decide
    have mb : ∀ (i : Int) (b : Bool), CMulA i (b2n b) := fun i b => .r (by have := (b2 b).1; omega) (by have := (b2 b).2; omega)
    refine ⟨mb _ _, ?_⟩
    exact ⟨rfl, _, Int.mul_nonneg (Int.emod_nonneg _ (by decide)) (b2 _).1, rfl⟩
  rintro ρ ⟨g, hg, rfl⟩
  refine SW.cons ?_
  refine S1.ret ?_
  refine EW.list ?_
  refine EWds.cons ?_
  refine EW.nameD (i := 3) rfl ?_ -- _law_great
  refine ⟨_, rfl, ?_⟩
  refine EWds.cons ?_
  refine EW.mod ?_
  refine EW.add ?_
  refine EW.add ?_
  refine EW.mul ?_
  refine EW.mod ?_
  refine EW.nameD (i := 2) rfl ?_ -- _law_cell
  refine EW.int ?_
  refine ⟨(by decide : (0 : Int) < _), ?_⟩
  refine EW.int ?_
  refine ⟨.r (by omega) (by omega), ?_⟩
  refine EW.mul ?_
  refine EW.mul ?_
  refine EW.int ?_
  refine EW.nameD (i := 1) rfl ?_ -- _law_k
  refine ⟨.l (by omega) (by omega), ?_⟩
  refine EW.nameD (i := 1) rfl ?_ -- _law_k
  refine ⟨.r (by omega) (by omega), ?_⟩
  refine EW.int ?_
  refine EW.int ?_
  refine ⟨(by decide : (0 : Int) < _), ?_⟩
  refine ⟨_, rfl, ?_⟩
  refine EWds.cons ?_
  refine EW.int ?_
  refine ⟨_, rfl, ?_⟩
  refine EWds.nil ?_
  refine ⟨(by decide : (3 : Nat) ≤ sizeLine), ?_⟩
  refine hR _ ⟨_, _, _, rfl, hg, Int.emod_nonneg _ (by decide), ?_, by decide, by decide⟩
  exact Int.lt_trans (Int.emod_lt_of_pos _ (by decide)) (by decide)
abbrev N__law_take : List Str := ["_law_urn_here", "_law_many", "_law_digit", "_law_prime", "_law_mixed"]
theorem sc__law_take : FnScope N__law_take ["_law_urn_here", "_law_many"] (defScope s__law_take) := ⟨rfl, rfl, rfl, by decide +kernel, rfl, by decide +kernel, by decide +kernel⟩
def a__law_take : ASp := fun as R => ∃ (b : Nat) (ds : List PyData) (many : Int), as = [.hol true ds, .dat (.int many)] ∧ Urn b ds ∧ b < 1000000000000 ∧ 0 < many ∧ many < (2 ^ 250 : Nat) ∧
  ∀ v ds', 0 ≤ v → v < many → Urn (b + 1) ds' → R (.dat (.int v)) [.hol true ds', .dat (.int many)]
theorem ok__law_take {f : Addr} {fd : FuncData} (F : Fun K "_law_take" "_law_take" s__law_take f fd) (B : Blt mg) : FnG P w K mg base CX0 1 f fd ["_law_urn_here", "_law_many"] (toSp K a__law_take) := by
  refine fnA F sc__law_take (by decide) B (fun as R h => ?_) fun cdv A outer s H E C as R h => ?_
  · obtain ⟨_, _, _, rfl, _⟩ := h; rfl
  obtain ⟨b, ds, many, rfl, ⟨g, m, c, rfl, hg, hm, hm1, hc, hcb⟩, hb, hp, hl, hR⟩ := h
  have divOk : ∀ i, CDivA i many := fun i => .big 250 hp hl (by decide) (by decide)
  refine SW.cons ?_
  refine S1.ite ?_
  refine TW.cmp (opA_intB op_gt) ?_ (nomark _)
  refine EW.ix ?_
  refine EW.nameO (i := 0) rfl ?_ -- _law_urn_here
  refine EW.int ?_
  refine ⟨_, _, rfl, rfl, ?_⟩
  refine EW.int ?_
  refine ite_dec (fun h1 => ?_) (fun h1 => ?_)
  · -- then
    refine SW.cons ?_
    refine S1.asg (i := 2) C ?_ -- _law_digit =
    refine EW.mod ?_
    refine EW.ix ?_
    refine EW.nameO (i := 0) rfl ?_ -- _law_urn_here
    refine EW.int ?_
    refine ⟨_, _, rfl, rfl, ?_⟩
    refine EW.nameD (i := 1) rfl ?_ -- _law_many
    refine ⟨hp, ?_⟩
    refine ⟨rfl, ?_⟩
    refine SW.cons ?_
    refine S1.setItem ?_
    refine EW.fdiv ?_
    refine EW.ix ?_
    refine EW.nameO (i := 0) rfl ?_ -- _law_urn_here
    refine EW.int ?_
    refine ⟨_, _, rfl, rfl, ?_⟩
    refine EW.nameD (i := 1) rfl ?_ -- _law_many
    refine ⟨divOk _, ?_⟩
    refine ⟨_, rfl, ?_⟩
    refine EW.nameO (i := 0) rfl ?_ -- _law_urn_here
    refine ⟨_, rfl, ?_⟩
    refine EW.int ?_
    refine ⟨_, _, _, _, rfl, rfl, rfl, ?_⟩
    refine SW.cons ?_
    refine S1.ret ?_
    refine EW.nameD (i := 2) rfl ?_ -- _law_digit
    exact hR _ _ (Int.emod_nonneg _ (by omega)) (Int.emod_lt_of_pos _ hp) ⟨_, _, _, rfl, Int.ediv_nonneg hg (by omega), hm, hm1, hc, by omega⟩
  refine SW.nil ?_
  refine SW.cons ?_
  refine S1.setItem ?_
  refine EW.add ?_
  refine EW.ix ?_
  refine EW.nameO (i := 0) rfl ?_ -- _law_urn_here
  refine EW.int ?_
  refine ⟨_, _, rfl, rfl, ?_⟩
  refine EW.int ?_
  refine ⟨_, rfl, ?_⟩
  refine EW.nameO (i := 0) rfl ?_ -- _law_urn_here
  refine ⟨_, rfl, ?_⟩
  refine EW.int ?_
  refine ⟨_, _, _, _, rfl, rfl, rfl, ?_⟩
  refine SW.cut (fun ρ => ∃ q : Int, 0 < q ∧ q < 2147483648 ∧ ρ = [.hol true [.int g, .int m, .int (c + 1)], .dat (.int many), .un, .dat (.int q), .un]) ?_ ?_
  · refine S1.asg (i := 3) C ?_ -- _law_prime =
    refine EW.ix ?_
    refine EW.list ?_
    refine EWds.cons ?_
    refine EW.int ?_
    refine ⟨_, rfl, ?_⟩
    refine EWds.cons ?_
    refine EW.int ?_
    refine ⟨_, rfl, ?_⟩
    refine EWds.cons ?_
    refine EW.int ?_
    refine ⟨_, rfl, ?_⟩
    refine EWds.cons ?_
    refine EW.int ?_
    refine ⟨_, rfl, ?_⟩
    refine EWds.cons ?_
    refine EW.int ?_
    refine ⟨_, rfl, ?_⟩
    refine EWds.nil ?_
    refine ⟨by decide, ?_⟩
    refine EW.mod ?_
    refine EW.ix ?_
    refine EW.nameO (i := 0) rfl ?_ -- _law_urn_here
    refine EW.int ?_
    refine ⟨_, _, rfl, rfl, ?_⟩
    refine EW.int ?_
    refine ⟨(by decide : (0 : Int) < _), ?_⟩
    have key : ∃ q : Int, 0 < q ∧ q < 2147483648 ∧ L2.atI [PyData.int 2147483647, .int 2147483629, .int 2147483587, .int 2147483579, .int 2147483563] ((c + 1) % 5) = some (.int q) := by
      have m0 := Int.emod_nonneg (c + 1) (by decide : (5 : Int) ≠ 0)
      have m1 := Int.emod_lt_of_pos (c + 1) (by decide : (0 : Int) < 5)
      have cases5 : (c + 1) % 5 = 0 ∨ (c + 1) % 5 = 1 ∨ (c + 1) % 5 = 2 ∨ (c + 1) % 5 = 3 ∨ (c + 1) % 5 = 4 := by omega
      rcases cases5 with e | e | e | e | e <;> rw [e] <;> exact ⟨_, by decide, by decide, rfl⟩
    obtain ⟨q, q0, q1, hat⟩ := key
    exact ⟨_, _, rfl, hat, rfl, q, q0, q1, rfl⟩
  rintro ρ ⟨q, hq, hq1, rfl⟩
  refine SW.cut (fun ρ => ∃ x : Int, 0 ≤ x ∧ x < 2147483648 ∧ ρ = [.hol true [.int g, .int m, .int (c + 1)], .dat (.int many), .un, .dat (.int q), .dat (.int x)]) ?_ ?_
  · refine S1.asg (i := 4) C ?_ -- _law_mixed =
    refine EW.mod ?_
    refine EW.pow ?_
    refine EW.add ?_
    refine EW.add ?_
    refine EW.ix ?_
    refine EW.nameO (i := 0) rfl ?_ -- _law_urn_here
    refine EW.int ?_
    refine ⟨_, _, rfl, rfl, ?_⟩
    refine EW.mul ?_
    refine EW.mul ?_
    refine EW.int ?_
    refine EW.ix ?_
    refine EW.nameO (i := 0) rfl ?_ -- _law_urn_here
    refine EW.int ?_
    refine ⟨_, _, rfl, rfl, ?_⟩
    refine ⟨.l (by omega) (by omega), ?_⟩
    refine EW.ix ?_
    refine EW.nameO (i := 0) rfl ?_ -- _law_urn_here
    refine EW.int ?_
    refine ⟨_, _, rfl, rfl, ?_⟩
    refine ⟨.r (by omega) (by omega), ?_⟩
    refine EW.int ?_
    refine EW.int ?_
    have z0 : 0 ≤ 50021 * (c + 1) * (c + 1) := Int.mul_nonneg (by omega) (by omega)
    have z1 : 50021 * (c + 1) * (c + 1) ≤ 50021 * 1000000000001 * 1000000000001 := Int.mul_le_mul (by omega) (by omega) (by omega) (by omega)
    refine ⟨powOk 200 (by omega) (by omega) (by omega) (by omega), ?_⟩
    refine EW.nameD (i := 3) rfl ?_ -- _law_prime
    refine ⟨hq, ?_⟩
    exact ⟨rfl, _, Int.emod_nonneg _ (by omega), Int.lt_trans (Int.emod_lt_of_pos _ hq) hq1, rfl⟩
  rintro ρ ⟨x, hx, hx1, rfl⟩
  refine SW.cons ?_
  refine S1.ret ?_
  refine EW.mod ?_
  refine EW.fdiv ?_
  refine EW.mod ?_
  refine EW.mul ?_
  refine EW.nameD (i := 4) rfl ?_ -- _law_mixed
  refine EW.add ?_
  refine EW.mod ?_
  refine EW.nameD (i := 4) rfl ?_ -- _law_mixed
  refine EW.int ?_
  refine ⟨(by decide : (0 : Int) < _), ?_⟩
  refine EW.mul ?_
  refine EW.int ?_
  refine EW.ix ?_
  refine EW.nameO (i := 0) rfl ?_ -- _law_urn_here
  refine EW.int ?_
  refine ⟨_, _, rfl, rfl, ?_⟩
  refine ⟨.l (by omega) (by omega), ?_⟩
  refine ⟨.l (by omega) (by omega), ?_⟩
  refine EW.int ?_
  refine ⟨(by decide : (0 : Int) < _), ?_⟩
  refine EW.int ?_
  refine ⟨.small (by decide) (by decide), ?_⟩
  refine EW.nameD (i := 1) rfl ?_ -- _law_many
  refine ⟨hp, ?_⟩
  exact hR _ _ (Int.emod_nonneg _ (by omega)) (Int.emod_lt_of_pos _ hp) ⟨_, _, _, rfl, hg, hm, hm1, by omega, by omega⟩
end
end VM

/-! encodings of weights and sets, margins -/
namespace VM
variable [AW.HasT]
open PySem PySem.Spec PyProof.Rows L2 AW
def tupI (ws : List Int) : PyData := .tuple (ws.map .int)
abbrev intN (i : Nat) : PyData := .int (i : Int)
def tupN (g : List Nat) : PyData := .tuple (g.map intN)
theorem okI : EncOk 1 tupI := EncOk.int.tup.of fun _ => rfl
theorem okN : EncOk 1 tupN := EncOk.nat.tup.of fun _ => rfl
theorem okTN : EncOk 2 (eT tupN) := okN.tup
theorem okLN : EncOk 2 (eL tupN) := okN.lst
theorem tupI_map {α : Type} (l : List α) (f : α → Int) : PyData.tuple (l.map fun z => .int (f z)) = tupI (l.map f) := by
  unfold tupI
  rw [List.map_map]
  rfl
theorem inB_nat (i : Nat) : ∀ g : List Nat, inB (.int i) (g.map intN) = decide (i ∈ g)
  | [] => rfl
  | j :: g => by
    have t := inB_nat i g
    unfold inB at t ⊢
    simp only [List.map_cons, List.any_cons, t]
    have e : PyData.eqv (intN j) (.int i) = decide (i = j) := by
      show ((j : Int) == (i : Int)) = _
      by_cases h : i = j
      · subst h; simp
      · simp only [h, decide_false, beq_eq_false_iff_ne, ne_eq]; omega
    rw [e]
    by_cases h : i = j <;> by_cases h2 : i ∈ g <;> simp [h, h2]
theorem flat_nat : ∀ g : List Nat, (g.map intN).all flatD = true
  | [] => rfl
  | j :: g => by simpa [flatD, intN] using flat_nat g
theorem rngD_nat (n : Nat) : rngD 0 n = (List.range n).map intN := by
  unfold rngD intN
  simp
theorem atI_int {ws : List Int} {i : Nat} (h : i < ws.length) : L2.atI (ws.map PyData.int) (i : Nat) = some (.int (ws.getD i 0)) := by
  have e : (ws.map PyData.int)[i]? = some (.int (ws.getD i 0)) := by
    rw [List.getElem?_map, List.getD_eq_getElem?_getD, List.getElem?_eq_getElem h]; rfl
  exact atI_nat e
def margI (ws : List Int) (g : List Nat) : Int := 2 * (g.map fun i => ws.getD i 0).sum - ws.sum
end VM

/-! drawn votes -/
namespace VM
variable [AW.HasT]
open PySem PySem.Spec PyProof.Rows L2 AW
section
variable {P : Program} {w : World} {K : PySem.W.Frag} {mg : Str → Option Value} {base : Heap}
theorem atI_in {xs : List PyData} {v : Int} (h0 : 0 ≤ v) (h1 : v < xs.length) : ∃ d, L2.atI xs v = some d ∧ d ∈ xs := by
  obtain ⟨j, rfl⟩ := Int.eq_ofNat_of_zero_le h0
  have hj : j < xs.length := by omega
  exact ⟨xs[j], atI_nat (List.getElem?_eq_getElem hj), List.getElem_mem hj⟩
theorem ixN_in {n : Nat} {v : Int} (h0 : 0 ≤ v) (h1 : v < n) : ixN n v = some v.toNat := by
  unfold ixN
  rw [if_pos h0, if_pos h1]
abbrev N__law_of : List Str := ["_law_urn_here", "_law_some"]
theorem sc__law_of : FnScope N__law_of ["_law_urn_here", "_law_some"] (defScope s__law_of) := ⟨rfl, rfl, rfl, by decide +kernel, rfl, by decide +kernel, by decide +kernel⟩
def a__law_of : ASp := fun as R => ∃ (b : Nat) (ds xs : List PyData), as = [.hol true ds, .dat (.list xs)] ∧ Urn b ds ∧ b < 1000000000000 ∧ xs ≠ [] ∧ xs.length ≤ 1000000 ∧ ∀ d ds', d ∈ xs → Urn (b + 1) ds' → R (.dat d) [.hol true ds', .dat (.list xs)]
theorem ok__law_of {f : Addr} {fd : FuncData} (F : Fun K "_law_of" "_law_of" s__law_of f fd) (B : Blt mg) (c__law_take : Cal P w K mg base 1 "_law_take" a__law_take) : FnG P w K mg base CX0 2 f fd ["_law_urn_here", "_law_some"] (toSp K a__law_of) := by
  refine fnA F sc__law_of (by decide) B (fun as R h => ?_) fun cdv A outer s H E C as R h => ?_
  · obtain ⟨_, _, _, rfl, _⟩ := h; rfl
  obtain ⟨b, ds, xs, rfl, hU, hb, hne, hl, hR⟩ := h
  have l0 : 0 < xs.length := List.length_pos_iff.mpr hne
  refine SW.cons ?_
  refine S1.ret ?_
  refine EW.ix ?_
  refine EW.nameD (i := 1) rfl ?_ -- _law_some
  refine EW.call c__law_take C rfl ?_
  refine EWgs.cons ?_
  refine EW.nameO (i := 0) rfl ?_ -- _law_urn_here
  refine ⟨_, rfl, ?_⟩
  refine EWgs.cons ?_
  refine EW.len C ?_
  refine EW.nameD (i := 1) rfl ?_ -- _law_some
  refine ⟨_, rfl, ?_⟩
  refine ⟨_, rfl, ?_⟩
  refine EWgs.nil ?_
  refine ⟨(by decide : [0].Nodup), ?_⟩
  refine ⟨b, ds, xs.length, rfl, hU, hb, by omega, by omega, fun v ds' h0 h1 hU' => ?_⟩
  obtain ⟨d, hd, hm⟩ := atI_in h0 h1
  refine ⟨_, _, rfl, hd, ?_⟩
  exact hR d ds' hm hU'
end
end VM

/-! margins, in plain Lean -/
namespace VM
variable [AW.HasT]
open PySem PySem.Spec PyProof.Rows L2 AW
def S (f : Nat → Int) (n : Nat) : Int := ((List.range n).map f).sum
theorem S_succ (f : Nat → Int) (n : Nat) : S f (n + 1) = S f n + f n := by
  unfold S
  rw [List.range_succ, List.map_append, List.sum_append]
  simp
theorem S_congr {f g : Nat → Int} : ∀ {n : Nat}, (∀ i, i < n → f i = g i) → S f n = S g n
  | 0, _ => rfl
  | n + 1, h => by rw [S_succ, S_succ, S_congr fun i hi => h i (Nat.lt_succ_of_lt hi), h n (Nat.lt_succ_self n)]
theorem S_add (f g : Nat → Int) : ∀ n : Nat, S (fun i => f i + g i) n = S f n + S g n
  | 0 => rfl
  | n + 1 => by rw [S_succ, S_succ, S_succ, S_add f g n]; omega
theorem S_getD : ∀ ws : List Int, S (fun i => ws.getD i 0) ws.length = ws.sum := by
  intro ws
  unfold S
  congr 1
  refine List.ext_getElem? fun i => ?_
  rw [List.getElem?_map]
  by_cases h : i < ws.length
  · rw [List.getElem?_range h]
    simp [h]
  · rw [List.getElem?_eq_none (by simp; omega), List.getElem?_eq_none (by omega)]
    rfl
theorem sum_perm {f : Nat → Int} {l m : List Nat} (h : l.Perm m) : (l.map f).sum = (m.map f).sum := by
  induction h with
  | nil => rfl
  | cons x _ ih => simp [ih]
  | swap x y l => simp only [List.map_cons, List.sum_cons]; omega
  | trans _ _ ih1 ih2 => exact ih1.trans ih2
theorem gang_perm {g : List Nat} {n : Nat} (nd : g.Nodup) (lt : ∀ i ∈ g, i < n) : g.Perm ((List.range n).filter fun i => decide (i ∈ g)) := by
  rw [List.perm_ext_iff_of_nodup nd (List.nodup_range.filter _)]
  intro i
  simp only [List.mem_filter, List.mem_range, decide_eq_true_eq]
  exact ⟨fun h => ⟨lt i h, h⟩, fun h => h.2⟩
theorem sum_filter (f : Nat → Int) (p : Nat → Bool) : ∀ n : Nat, (((List.range n).filter p).map f).sum = S (fun i => if p i = true then f i else 0) n
  | 0 => rfl
  | n + 1 => by
    rw [S_succ, ← sum_filter f p n, List.range_succ, List.filter_append, List.map_append, List.sum_append]
    by_cases h : p n = true <;> simp [h]
theorem sum_gang {f : Nat → Int} {g : List Nat} {n : Nat} (nd : g.Nodup) (lt : ∀ i ∈ g, i < n) : (g.map f).sum = S (fun i => if i ∈ g then f i else 0) n := by
  rw [sum_perm (gang_perm nd lt), sum_filter]
  exact S_congr fun i _ => by by_cases h : i ∈ g <;> simp [h]
/-- the sum with signs -/
def sg (ws : List Int) (g : List Nat) (i : Nat) : Int := if i ∈ g then ws.getD i 0 else -ws.getD i 0
theorem marg_signs {ws : List Int} {g : List Nat} (nd : g.Nodup) (lt : ∀ i ∈ g, i < ws.length) : margI ws g = S (sg ws g) ws.length := by
  unfold margI
  rw [sum_gang nd lt, ← S_getD ws]
  generalize ws.length = n
  induction n with
  | zero => rfl
  | succ n ih =>
    simp only [S_succ]
    have e : sg ws g n = 2 * (if n ∈ g then ws.getD n 0 else 0) - ws.getD n 0 := by
      unfold sg
      split <;> omega
    rw [e, ← ih]
    omega
/-- the law's own margin -/
def gapI (ws : List Int) (g : List Nat) : Int := S (sg ws g) ws.length
theorem gapI_eq {ws : List Int} {g : List Nat} (nd : g.Nodup) (lt : ∀ i ∈ g, i < ws.length) : gapI ws g = margI ws g := (marg_signs nd lt).symm
theorem gang_len {g : List Nat} {n : Nat} (nd : g.Nodup) (lt : ∀ i ∈ g, i < n) : g.length ≤ n := by
  rw [(gang_perm nd lt).length_eq]
  exact Nat.le_trans (List.length_filter_le _ _) (by simp)
theorem S_bound {f : Nat → Int} {M : Int} : ∀ {n : Nat}, (∀ i, i < n → -M ≤ f i ∧ f i ≤ M) → -(n * M) ≤ S f n ∧ S f n ≤ n * M
  | 0, _ => by simp [S]
  | n + 1, h => by
    have t := S_bound (n := n) fun i hi => h i (Nat.lt_succ_of_lt hi)
    have h1 := h n (Nat.lt_succ_self n)
    rw [S_succ]
    have e : ((n + 1 : Nat) : Int) * M = n * M + M := by push_cast; rw [Int.add_mul]; omega
    omega
theorem marg_bound {ws : List Int} {g : List Nat} {M : Int} (nd : g.Nodup) (lt : ∀ i ∈ g, i < ws.length) (h : ∀ x ∈ ws, 0 ≤ x ∧ x ≤ M) : -(ws.length * M) ≤ margI ws g ∧ margI ws g ≤ ws.length * M := by
  rw [marg_signs nd lt]
  refine S_bound fun i hi => ?_
  have e : ws.getD i 0 = ws[i] := by rw [List.getD_eq_getElem?_getD, List.getElem?_eq_getElem hi]; rfl
  have := h _ (List.getElem_mem hi)
  unfold sg
  rw [e]
  split <;> omega
end VM

/-! all sets in order, as lists of places -/
namespace VM
variable [AW.HasT]
open PySem PySem.Spec PyProof.Rows L2 AW
/-- as the loop makes them -/
def setsI : Nat → List (List Int)
  | 0 => [[]]
  | n + 1 => setsI n ++ (setsI n).map (· ++ [(n : Int)])
theorem setsI_length : ∀ n, (setsI n).length = 2 ^ n
  | 0 => rfl
  | n + 1 => by simp only [setsI, List.length_append, List.length_map, setsI_length n]; omega
theorem setsI_len {n : Nat} : ∀ g ∈ setsI n, g.length ≤ n := by
  induction n with
  | zero => intro g h; simp [setsI] at h; subst h; simp
  | succ n ih =>
    intro g h
    simp only [setsI, List.mem_append, List.mem_map] at h
    rcases h with h | ⟨g', h, rfl⟩
    · have := ih g h; omega
    · have := ih g' h; simp; omega
theorem setsI_in : ∀ {n : Nat} {g : List Int}, g ∈ setsI n → ∀ i ∈ g, 0 ≤ i ∧ i < n
  | 0, g, h, i, hi => by
    simp [setsI] at h
    subst h
    simp at hi
  | n + 1, g, h, i, hi => by
    simp only [setsI, List.mem_append, List.mem_map] at h
    rcases h with h | ⟨g', h, rfl⟩
    · have := setsI_in h i hi; omega
    · rcases List.mem_append.mp hi with hi | hi
      · have := setsI_in h i hi; omega
      · obtain rfl := List.mem_singleton.mp hi; omega
theorem setsI_nodup : ∀ {n : Nat} {g : List Int}, g ∈ setsI n → g.Nodup
  | 0, g, h => by
    simp [setsI] at h
    subst h
    exact List.nodup_nil
  | n + 1, g, h => by
    simp only [setsI, List.mem_append, List.mem_map] at h
    rcases h with h | ⟨g', h, rfl⟩
    · exact setsI_nodup h
    · rw [List.nodup_append]
      refine ⟨setsI_nodup h, List.nodup_cons.mpr ⟨List.not_mem_nil, List.nodup_nil⟩, fun a ha b hb e => ?_⟩
      obtain rfl := List.mem_singleton.mp hb
      have := setsI_in h a ha
      omega
theorem mem_sortG {gs : List (List Int)} {g : List Int} : g ∈ sortG gs ↔ g ∈ gs := (List.mergeSort_perm gs _).mem_iff
theorem sortG_length (gs : List (List Int)) : (sortG gs).length = gs.length := (List.mergeSort_perm gs _).length_eq
/-- the sets in the order that all_sets gives -/
def allN (n : Nat) : List (List Nat) := (sortG (setsI n)).map fun g => g.map Int.toNat
theorem enc_nat {g : List Int} (h : ∀ i ∈ g, 0 ≤ i) : encG g = tupN (g.map Int.toNat) := by
  unfold encG tupN
  congr 1
  rw [List.map_map]
  refine List.map_congr_left fun i hi => ?_
  have := h i hi
  show PyData.int i = .int ((i.toNat : Nat) : Int)
  congr 1
  omega
theorem allN_enc (n : Nat) : (sortG (setsI n)).map encG = (allN n).map tupN := by
  unfold allN
  rw [List.map_map]
  exact List.map_congr_left fun g hg => enc_nat fun i hi => (setsI_in (mem_sortG.mp hg) i hi).1
theorem allN_length (n : Nat) : (allN n).length = 2 ^ n := by
  unfold allN
  rw [List.length_map, sortG_length, setsI_length]
theorem allN_lt {n : Nat} {g : List Nat} (h : g ∈ allN n) : ∀ i ∈ g, i < n := fun i hi => by
  unfold allN at h
  obtain ⟨g', hg, rfl⟩ := List.mem_map.mp h
  obtain ⟨j, hj, rfl⟩ := List.mem_map.mp hi
  have := setsI_in (mem_sortG.mp hg) j hj
  omega
theorem nodup_toNat : ∀ {g : List Int}, (∀ i ∈ g, 0 ≤ i) → g.Nodup → (g.map Int.toNat).Nodup
  | [], _, _ => List.nodup_nil
  | i :: g, h, n => by
    obtain ⟨n1, n2⟩ := List.nodup_cons.mp n
    rw [List.map_cons, List.nodup_cons]
    refine ⟨fun z => ?_, nodup_toNat (fun j hj => h j (List.mem_cons_of_mem _ hj)) n2⟩
    obtain ⟨j, hj, e⟩ := List.mem_map.mp z
    have h1 := h i List.mem_cons_self
    have h2 := h j (List.mem_cons_of_mem _ hj)
    have : j = i := by omega
    subst this
    exact n1 hj
theorem allN_nodup {n : Nat} {g : List Nat} (h : g ∈ allN n) : g.Nodup := by
  unfold allN at h
  obtain ⟨g', hg, rfl⟩ := List.mem_map.mp h
  exact nodup_toNat (fun i hi => (setsI_in (mem_sortG.mp hg) i hi).1) (setsI_nodup (mem_sortG.mp hg))
theorem allN_small {n : Nat} (h : n ≤ 19) : (allN n).length ≤ 1000000 := by
  rw [allN_length]
  exact Nat.le_trans (Nat.pow_le_pow_right (by decide) h) (by decide)
theorem allN_glen {n : Nat} {g : List Nat} (hg : g ∈ allN n) (h : n ≤ 1000000) : g.length ≤ 1000000 := Nat.le_trans (gang_len (allN_nodup hg) (allN_lt hg)) h
theorem allN_glen' {n : Nat} {g : List Nat} (hg : g ∈ allN n) : g.length ≤ n := gang_len (allN_nodup hg) (allN_lt hg)
theorem gapI_allN {ws : List Int} {g : List Nat} (hg : g ∈ allN ws.length) : gapI ws g = margI ws g := gapI_eq (allN_nodup hg) (allN_lt hg)
theorem gapI_allN' {n : Nat} {ws : List Int} {g : List Nat} (hg : g ∈ allN n) (hn : n = ws.length) : gapI ws g = margI ws g := by
  subst hn; exact gapI_allN hg
def tiesN (ws : List Int) : List (List Nat) := (allN ws.length).filter fun g => decide (margI ws g = 0)
theorem pow19 {n : Nat} (h : n ≤ 19) : 2 ^ n ≤ 524288 := Nat.le_trans (Nat.pow_le_pow_right (by decide) h) (by decide)
theorem filt_map (p : List Nat → Bool) (l : List (List Nat)) : l.filterMap (fun g => if p g = true then some (tupN g) else none) = (l.filter p).map tupN := by
  induction l with
  | nil => rfl
  | cons g l ih => by_cases h : p g = true <;> simp [h, ih]
def marginsN (ws : List Int) : List Int := (allN ws.length).map (margI ws)
end VM

/-! numbers with a bit for each set -/
namespace VM
variable [AW.HasT]
open PySem PySem.Spec PyProof.Rows L2 AW
def bitsN : List Bool → Nat
  | [] => 0
  | b :: l => (if b = true then 1 else 0) + 2 * bitsN l
theorem testBit_bitsN : ∀ (l : List Bool) (i : Nat), (bitsN l).testBit i = l.getD i false
  | [], i => by simp [bitsN]
  | b :: l, 0 => by
    rw [Nat.testBit_zero]
    unfold bitsN
    cases b <;> simp <;> omega
  | b :: l, i + 1 => by
    rw [Nat.testBit_succ, List.getD_cons_succ, ← testBit_bitsN l i]
    congr 1
    show ((if b = true then 1 else 0) + 2 * bitsN l) / 2 = bitsN l
    cases b <;> simp <;> omega
def maskZ (p : Int → Bool) (ms : List Int) : Int := ((ms.zipIdx.filter fun z => p z.1).map fun z => 1 * 2 ^ ((z.2 : Int)).toNat).sum
theorem marginsN_length (ws : List Int) : (marginsN ws).length = 2 ^ ws.length := by
  unfold marginsN
  rw [List.length_map, allN_length]
theorem maskZ_bits (p : Int → Bool) : ∀ (ms : List Int) (k : Nat), (((ms.zipIdx k).filter fun z => p z.1).map fun z => (1 : Int) * 2 ^ ((z.2 : Int)).toNat).sum = ((2 ^ k * bitsN (ms.map p) : Nat) : Int)
  | [], k => by simp [bitsN]
  | m :: ms, k => by
    have t := maskZ_bits p ms (k + 1)
    rw [List.zipIdx_cons, List.filter_cons]
    by_cases h : p m = true
    · rw [if_pos h, List.map_cons, List.sum_cons, t, List.map_cons, h]
      have e : 2 ^ k * bitsN (true :: ms.map p) = 2 ^ k + 2 ^ (k + 1) * bitsN (ms.map p) := by
        show 2 ^ k * (1 + 2 * bitsN (ms.map p)) = _
        rw [Nat.mul_add, Nat.mul_one, Nat.pow_succ, Nat.mul_assoc]
      rw [e]
      push_cast
      simp
    · rw [if_neg h, t, List.map_cons, (by simpa using h : p m = false)]
      have e : 2 ^ k * bitsN (false :: ms.map p) = 2 ^ (k + 1) * bitsN (ms.map p) := by
        show 2 ^ k * (0 + 2 * bitsN (ms.map p)) = _
        rw [Nat.zero_add, Nat.pow_succ, Nat.mul_assoc]
      rw [e]
theorem maskZ_eq (p : Int → Bool) (ms : List Int) : maskZ p ms = (bitsN (ms.map p) : Nat) := by
  have := maskZ_bits p ms 0
  rw [Nat.pow_zero, Nat.one_mul] at this
  exact this
theorem bitOr_nat (b c : Nat) : Builtin.bitOr (b : Int) (c : Int) = ((b ||| c : Nat) : Int) := by
  unfold Builtin.bitOr Builtin.bitAnd Builtin.bitNot
  have e1 : decide ((0 : Int) ≤ -(b : Int) - 1) = false := by simp; omega
  have e2 : decide ((0 : Int) ≤ -(c : Int) - 1) = false := by simp; omega
  rw [e1, e2]
  have e3 : (-(-(b : Int) - 1) - 1) = (b : Int) := by omega
  have e4 : (-(-(c : Int) - 1) - 1) = (c : Int) := by omega
  simp only [e3, e4, Int.toNat_natCast]
  omega
theorem bitAndNot (a d : Nat) : (Builtin.bitAnd (a : Int) (Builtin.bitNot (d : Int)) = 0) ↔ (a &&& d = a) := by
  unfold Builtin.bitAnd Builtin.bitNot
  have e1 : decide ((0 : Int) ≤ (a : Int)) = true := by simp
  have e2 : decide ((0 : Int) ≤ -(d : Int) - 1) = false := by simp; omega
  rw [e1, e2]
  have e3 : (-(-(d : Int) - 1) - 1) = (d : Int) := by omega
  simp only [e3, Int.toNat_natCast]
  have := @Nat.and_le_left a d
  omega
theorem and_eq_iff (a d : Nat) : a &&& d = a ↔ ∀ i, a.testBit i = true → d.testBit i = true := by
  constructor
  · intro h i hi
    rw [← h, Nat.testBit_and] at hi
    simp at hi
    exact hi.2
  · intro h
    refine Nat.eq_of_testBit_eq fun i => ?_
    rw [Nat.testBit_and]
    cases e : a.testBit i with
    | false => rfl
    | true => rw [h i e]; rfl
theorem bitsN_inj {l m : List Bool} (hl : l.length = m.length) (h : bitsN l = bitsN m) : l = m := by
  refine List.ext_getElem hl fun i h1 h2 => ?_
  have e : l.getD i false = m.getD i false := by rw [← testBit_bitsN, ← testBit_bitsN, h]
  rw [List.getD_eq_getElem?_getD, List.getD_eq_getElem?_getD, List.getElem?_eq_getElem h1, List.getElem?_eq_getElem h2] at e
  exact e
def jointI (ws vs : List Int) : List Int := (ws.zip vs).map fun p => p.1 + p.2
/-- the sets that clash -/
def clashN (ws vs : List Int) : List (List Nat) := (allN ws.length).filter fun g => decide (margI ws g > 0) && decide (0 > margI vs g)
def safeP (ws vs : List Int) : Prop := clashN ws vs = []
instance (ws vs : List Int) : Decidable (safeP ws vs) := inferInstanceAs (Decidable (clashN ws vs = []))
def sameP (ws vs : List Int) : Prop := ∀ g ∈ allN ws.length, decide (margI ws g > 0) = decide (margI vs g > 0)
instance (ws vs : List Int) : Decidable (sameP ws vs) := inferInstanceAs (Decidable (∀ g ∈ allN ws.length, _))
def posM (m : Int) : Bool := decide (m > 0)
def zerM (m : Int) : Bool := decide (m = 0)
def decM (ws : List Int) : Nat := bitsN ((marginsN ws).map posM)
def tieM (ws : List Int) : Nat := bitsN ((marginsN ws).map zerM)
theorem getD_margins {n : Nat} {ws : List Int} (hn : n = ws.length) (p : Int → Bool) (i : Nat) : ((marginsN ws).map p).getD i false = match (allN n)[i]? with | some g => p (margI ws g) | none => false := by
  subst hn
  unfold marginsN
  rw [List.getD_eq_getElem?_getD, List.getElem?_map, List.getElem?_map]
  cases (allN ws.length)[i]? <;> rfl
theorem agree_safe {ws vs : List Int} (hl : ws.length = vs.length) : (decM ws &&& (decM vs ||| tieM vs) = decM ws) ↔ safeP ws vs := by
  rw [and_eq_iff]
  unfold safeP clashN
  rw [List.filter_eq_nil_iff]
  unfold decM tieM
  constructor
  · intro h g hg
    obtain ⟨i, hi⟩ := List.getElem?_of_mem hg
    have := h i
    rw [Nat.testBit_or, testBit_bitsN, testBit_bitsN, testBit_bitsN, getD_margins rfl, getD_margins hl, getD_margins hl, hi] at this
    simp only [posM, zerM, decide_eq_true_eq, Bool.or_eq_true] at this
    simp only [Bool.and_eq_true, decide_eq_true_eq]
    omega
  · intro h i
    rw [Nat.testBit_or, testBit_bitsN, testBit_bitsN, testBit_bitsN, getD_margins rfl, getD_margins hl, getD_margins hl]
    cases hi : (allN ws.length)[i]? with
    | none => simp
    | some g =>
      have := h g (List.mem_of_getElem? hi)
      simp only [Bool.and_eq_true, decide_eq_true_eq] at this
      simp only [posM, zerM, decide_eq_true_eq, Bool.or_eq_true]
      omega
theorem same_iff {ws vs : List Int} (hl : ws.length = vs.length) : (decM ws = decM vs) ↔ sameP ws vs := by
  constructor
  · intro h g hg
    obtain ⟨i, hi⟩ := List.getElem?_of_mem hg
    have e := congrArg (fun n => Nat.testBit n i) h
    simp only [decM, testBit_bitsN, getD_margins rfl, getD_margins hl] at e
    rw [← hl, hi] at e
    exact e
  · intro h
    refine Nat.eq_of_testBit_eq fun i => ?_
    unfold decM
    rw [testBit_bitsN, testBit_bitsN, getD_margins rfl, getD_margins hl]
    cases hi : (allN ws.length)[i]? with
    | none => rfl
    | some g => exact h g (List.mem_of_getElem? hi)
end VM

/-! weights and sets may be shown -/
namespace VM
variable [AW.HasT]
open PySem PySem.Spec PyProof.Rows L2 AW
/-- numbers of at most 45 figures -/
def Sz (ws : List Int) : Prop := ∀ x ∈ ws, x.natAbs < 10 ^ 45
theorem smI {ws : List Int} (h : Sz ws) : Sm 60 ws.length 1 (tupI ws) :=
  Sm.tuple ((SmAll.all (n := 0) (m := 0) fun d hd => by
    obtain ⟨x, hx, rfl⟩ := List.mem_map.mp hd
    exact Sm.int 45 (h x hx)).mono (by simp) (Nat.le_refl _))
theorem smN {g : List Nat} (h : ∀ i ∈ g, i < 1000) : Sm 60 g.length 1 (tupN g) :=
  Sm.tuple ((SmAll.all (n := 0) (m := 0) fun d hd => by
    obtain ⟨x, hx, rfl⟩ := List.mem_map.mp hd
    have := h x hx
    exact Sm.int 3 (by simp; omega)).mono (by simp) (Nat.le_refl _))
theorem smNs {gs : List (List Nat)} {n : Nat} (hn : n ≤ 1000) (h : ∀ g ∈ gs, g ∈ allN n) : SmAll 60 (gs.length * (n + 1)) 1 (gs.map tupN) :=
  (SmAll.all (n := n) (m := 1) fun d hd => by
    obtain ⟨g, hg, rfl⟩ := List.mem_map.mp hd
    exact (smN fun i hi => Nat.lt_of_lt_of_le (allN_lt (h g hg) i hi) hn).mono (allN_glen' (h g hg)) (Nat.le_refl _)).mono (by simp) (Nat.le_refl _)
theorem clash_mem {ws vs : List Int} {g : List Nat} (h : g ∈ clashN ws vs) : g ∈ allN ws.length := (List.mem_filter.mp h).1
theorem clash_len {ws vs : List Int} : (clashN ws vs).length ≤ 2 ^ ws.length := by
  rw [← allN_length]
  exact List.length_filter_le _ _
theorem pow12 {n : Nat} (h : n ≤ 12) : 2 ^ n ≤ 4096 := Nat.le_trans (Nat.pow_le_pow_right (by decide) h) (by decide)
theorem smClash {ws vs : List Int} (h : ws.length ≤ 12) : SmAll 60 53248 1 ((clashN ws vs).map tupN) := by
  refine (smNs (n := ws.length) (by omega) fun g => clash_mem).mono ?_ (Nat.le_refl _)
  have h1 := clash_len (ws := ws) (vs := vs)
  have h2 := pow12 h
  exact Nat.le_trans (Nat.mul_le_mul (Nat.le_trans h1 h2) (show ws.length + 1 ≤ 13 by omega)) (by decide)
/-- the first clashing set -/
def firstD (gs : List (List Nat)) : PyData := if decide (¬ gs = []) = true then tupN (gs.getD 0 []) else .none
theorem smFirst {gs : List (List Nat)} {n : Nat} (hn : n ≤ 12) (h : ∀ g ∈ gs, g ∈ allN n) : Sm 60 12 1 (firstD gs) := by
  unfold firstD
  cases gs with
  | nil => exact Sm.none.mono (by decide) (by decide)
  | cons g gs =>
    rw [if_pos (by simp)]
    have hg := h g List.mem_cons_self
    exact (smN fun i hi => by have := allN_lt hg i hi; omega).mono (Nat.le_trans (allN_glen' hg) hn) (Nat.le_refl _)
theorem Sz.joint {ws vs : List Int} (h1 : ∀ x ∈ ws, x.natAbs < 10 ^ 44) (h2 : ∀ x ∈ vs, x.natAbs < 10 ^ 44) : Sz (jointI ws vs) := fun x hx => by
  unfold jointI at hx
  obtain ⟨p, hp, rfl⟩ := List.mem_map.mp hx
  have a := h1 _ (List.of_mem_zip hp).1
  have b := h2 _ (List.of_mem_zip hp).2
  omega
theorem jointI_length {ws vs : List Int} (hl : ws.length = vs.length) : (jointI ws vs).length = ws.length := by
  unfold jointI
  simp
  omega
theorem joint_enum {ws vs : List Int} (hl : ws.length = vs.length) : (ws.zipIdx.map fun p => p.1 + vs.getD p.2 0) = jointI ws vs := by
  unfold jointI
  refine List.ext_getElem? fun i => ?_
  rw [List.getElem?_map, List.getElem?_map, List.getElem?_zipIdx]
  by_cases h : i < ws.length
  · rw [List.getElem?_eq_getElem h, List.getElem?_eq_getElem (by simp; omega)]
    simp
    rw [List.getElem?_eq_getElem (by omega)]
    rfl
  · rw [List.getElem?_eq_none (by omega), List.getElem?_eq_none (by simp; omega)]
    rfl
end VM

/-! lists of weights -/
namespace VM
variable [AW.HasT]
open PySem PySem.Spec PyProof.Rows L2 AW
def VtL (L : List (List Int)) : Prop := ∀ l ∈ L, 1 ≤ l.length ∧ l.length ≤ 12 ∧ (∀ w ∈ l, 0 ≤ w) ∧ 0 < l.sum
/-- no change of neighbours makes a set clash -/
def goesL (L : List (List Int)) : Bool := (L.zip (L.drop 1)).all fun q => decide (safeP q.1 q.2)
theorem goesL_agree {L : List (List Int)} {n : Nat} (h : ∀ l ∈ L, l.length = n) : ((L.zip (L.drop 1)).all fun z => decide (decM z.1 &&& (decM z.2 ||| tieM z.2) = decM z.1)) = goesL L := by
  refine all_congr_mem fun q hq => ?_
  have h1 := h _ (List.of_mem_zip hq).1
  have h2 := h _ (List.mem_of_mem_drop (List.of_mem_zip hq).2)
  exact decide_eq_decide.mpr (agree_safe (h1.trans h2.symm))
end VM

/-! texts of weights: what they write -/
namespace VM
variable [AW.HasT]
open PySem PySem.Spec PyProof.Rows L2 AW
def digs : List Nat := [48, 49, 50, 51, 52, 53, 54, 55, 56, 57]
theorem digs_eq : ("0123456789" : Str) = SX.S digs := by decide
theorem mem_digs {c : Nat} : c ∈ digs ↔ 48 ≤ c ∧ c ≤ 57 := by
  simp only [digs, List.mem_cons, List.not_mem_nil, or_false]
  omega
def isNum (a : List Nat) : Bool := decide (1 ≤ a.length ∧ a.length ≤ 40) && (a.all (fun c => decide (c ∈ digs)) && !(decide (a.getD 0 0 = 48) && decide (¬ a = [48])))
/-- the number that a word writes -/
def numW (a : List Nat) : Option Nat := if isNum a = true then some (NumText.digitsVal a) else none
def eO : Option Nat → PyData
  | none => .none
  | some n => .int (n : Nat)
theorem okO : EncOk 0 eO := ⟨fun a b => by
  cases a with
  | none => cases b <;> rfl
  | some x => cases b with
    | none => rfl
    | some y =>
      have e := Inj.nat x y
      show PyData.eqv (eN x) (eN y) = _
      rw [e]
      exact decide_eq_decide.mpr ⟨fun h => by rw [h], fun h => Option.some.inj h⟩, fun a => by cases a <;> rfl, fun a => by cases a <;> exact Nat.le_refl _⟩
def numsW (ws : List (List Nat)) : Option (List Nat) := if none ∈ ws.map numW then none else some (ws.map fun w => (numW w).getD 0)
def numsD : Option (List Nat) → PyData
  | none => .none
  | some l => tupN l
theorem nums_some {ws : List (List Nat)} (h : ¬ none ∈ ws.map numW) : (ws.map numW).map eO = (ws.map fun w => (numW w).getD 0).map intN := by
  rw [List.map_map, List.map_map]
  refine List.map_congr_left fun w hw => ?_
  show eO (numW w) = intN ((numW w).getD 0)
  cases e : numW w with
  | none => exact absurd (List.mem_map.mpr ⟨w, hw, e⟩) h
  | some n => rfl
def goodW : Option (List Nat) → Bool
  | none => false
  | some l => decide (1 ≤ l.length ∧ l.length ≤ 12) && l.any fun n => decide (0 < n)
theorem num_lt {a : List Nat} {n : Nat} (h : numW a = some n) : n < 10 ^ 40 := by
  unfold numW at h
  split at h
  · rename_i h1
    cases h
    unfold isNum at h1
    rw [Bool.and_eq_true, Bool.and_eq_true] at h1
    have hl := of_decide_eq_true h1.1
    have hd := h1.2.1
    have main : ∀ (l : List Nat) (acc : Nat), l.all (fun c => decide (c ∈ digs)) = true → l.foldl (fun acc c => acc * 10 + (c - 48)) acc < (acc + 1) * 10 ^ l.length := by
      intro l
      induction l with
      | nil => intro acc _; simp
      | cons c l ih =>
        intro acc hc
        rw [List.all_cons, Bool.and_eq_true] at hc
        have c1 := mem_digs.1 (of_decide_eq_true hc.1)
        have := ih (acc * 10 + (c - 48)) hc.2
        rw [List.foldl_cons]
        refine Nat.lt_of_lt_of_le this ?_
        rw [List.length_cons, Nat.pow_succ, Nat.mul_comm (10 ^ l.length) 10, ← Nat.mul_assoc]
        exact Nat.mul_le_mul_right _ (by omega)
    have := main a 0 hd
    refine Nat.lt_of_lt_of_le this ?_
    rw [Nat.zero_add, Nat.one_mul]
    exact Nat.pow_le_pow_right (by decide) hl.2
  · cases h
/-- row by row: what is read, or the first row that cannot stand there -/
def badRow (f : List (List Nat)) (x : Option (List Nat)) : Bool := !goodW x || (decide (¬ f = []) && decide (¬ (x.getD []).length = (f.getD 0 []).length))
def wayR : List (List Nat) → List (List Nat) → Nat ⊕ List (List Nat)
  | [], f => .inr f
  | r :: rs, f => if badRow f (numsW (splC 32 r)) = true then .inl f.length else wayR rs (f ++ [(numsW (splC 32 r)).getD []])
end VM
namespace VM
variable [AW.HasT]
open PySem PySem.Spec PyProof.Rows L2 AW
theorem num_no {a : List Nat} {b c : Bool} (hb : b = (decide (1 ≤ a.length) && decide (a.length ≤ 40))) (hc : c = a.all fun c => decide (c ∈ digs)) (h : (!b || !c) = true) : numW a = none := by
  unfold numW
  rw [if_neg]
  unfold isNum
  subst hb; subst hc
  intro z
  rw [Bool.and_eq_true, Bool.and_eq_true] at z
  have z1 := of_decide_eq_true z.1
  rw [z.2.1, decide_eq_true z1.1, decide_eq_true z1.2] at h
  cases h
theorem num_yes {a : List Nat} {b c : Bool} (hb : b = (decide (1 ≤ a.length) && decide (a.length ≤ 40))) (hc : c = a.all fun c => decide (c ∈ digs)) (h : (!b || !c) = false) : 1 ≤ a.length ∧ a.length ≤ 40 ∧ (a.all fun c => decide (c ∈ digs)) = true ∧ ∀ t : Bool, t = (decide (a.getD 0 0 = 48) && decide (¬ a = [48])) → eO (numW a) = if t = true then PyData.none else .int ((NumText.digitsVal a : Nat) : Int) := by
  rw [Bool.or_eq_false_iff] at h
  have h1 : b = true := by simpa using h.1
  have h2 : c = true := by simpa using h.2
  rw [hb, Bool.and_eq_true] at h1
  have l1 := of_decide_eq_true h1.1
  have l2 := of_decide_eq_true h1.2
  rw [hc] at h2
  refine ⟨l1, l2, h2, fun t ht => ?_⟩
  unfold numW isNum
  rw [h2, decide_eq_true (show 1 ≤ a.length ∧ a.length ≤ 40 from ⟨l1, l2⟩), ← ht]
  cases t <;> rfl
theorem digs_fig {a : List Nat} (h : (a.all fun c => decide (c ∈ digs)) = true) : (a.all fun c => decide (48 ≤ c) && decide (c ≤ 57)) = true := by
  rw [List.all_eq_true] at h ⊢
  intro c hc
  have := mem_digs.1 (of_decide_eq_true (h c hc))
  rw [decide_eq_true this.1, decide_eq_true this.2]
  rfl
end VM
namespace VM
variable [AW.HasT]
open PySem PySem.Spec PyProof.Rows L2 AW
theorem pre_one {c x : Nat} {r : List Nat} : TL.pre [c] (x :: r) = decide (x = c) := by
  unfold TL.pre
  simp only [List.length_cons, List.length_nil, List.take_succ_cons, List.take_zero]
  by_cases h : x = c <;> simp [h]
theorem spl_cons {c x : Nat} {acc r : List Nat} : TL.spl [c] 0 acc (x :: r) = if x = c then acc :: TL.spl [c] 0 [] r else TL.spl [c] 0 (acc ++ [x]) r := by
  by_cases h : x = c
  · rw [if_pos h, TL.spl_hit (by rw [pre_one]; exact decide_eq_true h)]
    rfl
  · rw [if_neg h, TL.spl_miss (by rw [pre_one]; exact decide_eq_false h)]
theorem spl_parts {c : Nat} : ∀ (l acc : List Nat), c ∉ acc → ∀ r ∈ TL.spl [c] 0 acc l, c ∉ r ∧ r.length ≤ acc.length + l.length
  | [], acc, h, r, hr => by
    rw [TL.spl_nil] at hr
    obtain rfl := List.mem_singleton.mp hr
    exact ⟨h, by simp⟩
  | x :: l, acc, h, r, hr => by
    rw [spl_cons] at hr
    split at hr
    · rcases List.mem_cons.mp hr with rfl | hr
      · exact ⟨h, by simp only [List.length_cons]; omega⟩
      · obtain ⟨a, b⟩ := spl_parts l [] (by simp) r hr
        exact ⟨a, by simp only [List.length_nil, List.length_cons] at b ⊢; omega⟩
    · rename_i hx
      obtain ⟨a, b⟩ := spl_parts l (acc ++ [x]) (by simp only [List.mem_append, List.mem_singleton]; rintro (z | z) <;> first | exact h z | exact hx z.symm) r hr
      exact ⟨a, by simp only [List.length_append, List.length_cons, List.length_nil] at b ⊢; omega⟩
theorem spl_count {c : Nat} : ∀ (l acc : List Nat), (TL.spl [c] 0 acc l).length = l.count c + 1
  | [], acc => by rw [TL.spl_nil]; rfl
  | x :: l, acc => by
    rw [spl_cons, List.count_cons]
    by_cases h : x = c
    · rw [if_pos h, List.length_cons, spl_count l]; simp [h]
    · rw [if_neg h, spl_count l]; simp [h]
theorem splC_free {c : Nat} {a r : List Nat} (h : r ∈ splC c a) : c ∉ r := (spl_parts a [] (by simp) r h).1
theorem splC_len {c : Nat} {a r : List Nat} (h : r ∈ splC c a) : r.length ≤ a.length := by
  have := (spl_parts a [] (by simp) r h).2
  simpa using this
theorem splC_length (c : Nat) (a : List Nat) : (splC c a).length = a.count c + 1 := spl_count a []
theorem splC_size (c : Nat) (a : List Nat) : 1 ≤ (splC c a).length ∧ (splC c a).length ≤ a.length + 1 := by
  rw [splC_length]
  have := List.count_le_length (a := c) (l := a)
  omega
theorem splC_one {c : Nat} {r : List Nat} (h : c ∉ r) : splC c r = [r] := by
  have := TL.spl_last1 (S := []) (acc := []) h
  simpa [splC] using this
theorem splC_more {c : Nat} {a : List Nat} : 1 < (splC c a).length ↔ c ∈ a := by
  rw [splC_length, ← List.count_pos_iff]
  omega
theorem splC_head {c : Nat} {a : List Nat} : (splC c a).getD 0 [] ∈ splC c a := by
  have h := (splC_size c a).1
  rw [List.getD_eq_getElem?_getD, List.getElem?_eq_getElem (by omega)]
  exact List.getElem_mem _
/-- what read_weights reads -/
def readV (a : List Nat) : Nat ⊕ List Nat :=
  if badRow [] (numsW (splC 32 ((splC 10 a).getD 0 []))) = true then .inl 0 else if 1 < (splC 10 a).length then .inl 1 else .inr ((numsW (splC 32 ((splC 10 a).getD 0 []))).getD [])
theorem way_head (a : List Nat) : wayR (splC 10 ((splC 10 a).getD 0 [])) [] = if badRow [] (numsW (splC 32 ((splC 10 a).getD 0 []))) = true then .inl 0 else .inr [(numsW (splC 32 ((splC 10 a).getD 0 []))).getD []] := by
  rw [splC_one (splC_free splC_head)]
  unfold wayR
  split
  · rfl
  · rfl
theorem nums_dec (ws : List (List Nat)) : numsD (numsW ws) = if decide (¬ none ∈ ws.map numW) = true then PyData.tuple (ws.map fun y => eO (numW y)) else .none := by
  unfold numsW
  by_cases h : none ∈ ws.map numW
  · rw [if_pos h, if_neg (by simpa using h)]
    rfl
  · rw [if_neg h, if_pos (decide_eq_true h)]
    have e := nums_some h
    rw [List.map_map] at e
    show PyData.tuple _ = _
    rw [← e]
    rfl
end VM
namespace VM
variable [AW.HasT]
open PySem PySem.Spec PyProof.Rows L2 AW
theorem int_len (a : List Nat) : (decide ((1 : Int) ≤ ((a.length : Nat) : Int)) && decide (((a.length : Nat) : Int) ≤ 40)) = (decide (1 ≤ a.length) && decide (a.length ≤ 40)) := by
  rw [show decide ((1 : Int) ≤ ((a.length : Nat) : Int)) = decide (1 ≤ a.length) from decide_eq_decide.mpr (by omega), show decide (((a.length : Nat) : Int) ≤ 40) = decide (a.length ≤ 40) from decide_eq_decide.mpr (by omega)]
theorem num_noI {a : List Nat} (h : (!(decide ((1 : Int) ≤ ((a.length : Nat) : Int)) && decide (((a.length : Nat) : Int) ≤ 40)) || !a.all fun z => decide (z ∈ digs)) = true) : numW a = none := num_no (int_len a) rfl h
theorem num_yesI {a : List Nat} (h : (!(decide ((1 : Int) ≤ ((a.length : Nat) : Int)) && decide (((a.length : Nat) : Int) ≤ 40)) || !a.all fun z => decide (z ∈ digs)) = false) : 1 ≤ a.length ∧ a.length ≤ 40 ∧ (a.all fun c => decide (c ∈ digs)) = true ∧ ∀ t : Bool, t = (decide (a.getD 0 0 = 48) && decide (¬ a = [48])) → eO (numW a) = if t = true then PyData.none else .int ((NumText.digitsVal a : Nat) : Int) := num_yes (int_len a) rfl h
end VM
namespace VM
variable [AW.HasT]
open PySem PySem.Spec PyProof.Rows L2 AW
theorem nums_decB (ws : List (List Nat)) (t : Bool) (ht : t = true ↔ ¬ none ∈ ws.map numW) : (if t = true then PyData.tuple (ws.map fun y => eO (numW y)) else .none) = numsD (numsW ws) := by
  rw [nums_dec]
  by_cases h : none ∈ ws.map numW
  · rw [if_neg (fun z => ht.1 z h), if_neg (by simpa using h)]
  · rw [if_pos (ht.2 h), if_pos (decide_eq_true h)]
end VM
namespace VM
variable [AW.HasT]
open PySem PySem.Spec PyProof.Rows L2 AW
def rowD (x : Option (List Nat)) : PyData := if goodW x = true then numsD x else .none
theorem eo_ints {ws : List (List Nat)} (h : ¬ none ∈ ws.map numW) : (ws.map fun y => eO (numW y)) = (ws.map fun w => (((numW w).getD 0 : Nat) : Int)).map PyData.int := by
  rw [List.map_map]
  refine List.map_congr_left fun w hw => ?_
  show eO (numW w) = PyData.int (((numW w).getD 0 : Nat) : Int)
  cases e : numW w with
  | none => exact absurd (List.mem_map.mpr ⟨w, hw, e⟩) h
  | some n => rfl
theorem sum_pos_iff : ∀ l : List Nat, 0 < (l.map fun n : Nat => (n : Int)).sum ↔ (l.any fun n => decide (0 < n)) = true
  | [] => by simp
  | a :: l => by
    have ih := sum_pos_iff l
    have nn : ∀ m : List Nat, 0 ≤ (m.map fun n : Nat => (n : Int)).sum := fun m => by
      induction m with
      | nil => simp
      | cons x m ihm => rw [List.map_cons, List.sum_cons]; omega
    have n1 := nn l
    rw [List.map_cons, List.sum_cons, List.any_cons, Bool.or_eq_true, ← ih, decide_eq_true_eq]
    omega
theorem row_decB {ws : List (List Nat)} (hw : ws ≠ []) (t : Bool) (ht : t = true ↔ (¬ none ∈ ws.map numW ∧ ws.length < 13 ∧ 0 < (ws.map fun w => (((numW w).getD 0 : Nat) : Int)).sum)) : (if t = true then PyData.tuple (ws.map fun y => eO (numW y)) else .none) = rowD (numsW ws) := by
  have h1 : 1 ≤ ws.length := List.length_pos_iff.mpr hw
  have key : t = true ↔ goodW (numsW ws) = true := by
    rw [ht]
    unfold numsW
    by_cases h : none ∈ ws.map numW
    · rw [if_pos h]
      exact ⟨fun z => absurd h z.1, fun z => by cases z⟩
    · rw [if_neg h]
      have e := sum_pos_iff (ws.map fun w => (numW w).getD 0)
      rw [List.map_map] at e
      show _ ↔ (decide (1 ≤ (ws.map fun w => (numW w).getD 0).length ∧ (ws.map fun w => (numW w).getD 0).length ≤ 12) && (ws.map fun w => (numW w).getD 0).any fun n => decide (0 < n)) = true
      rw [Bool.and_eq_true, ← e, decide_eq_true_eq, List.length_map]
      exact ⟨fun ⟨_, b, c⟩ => ⟨⟨h1, by omega⟩, c⟩, fun ⟨⟨_, b⟩, c⟩ => ⟨h, by omega, c⟩⟩
  unfold rowD
  by_cases g : goodW (numsW ws) = true
  · rw [if_pos (key.2 g), if_pos g]
    obtain ⟨h, _⟩ := ht.1 (key.2 g)
    rw [nums_dec, if_pos (decide_eq_true h)]
  · rw [if_neg (fun z => g (key.1 z)), if_neg g]
/-- what the law expects of read_weights -/
def dueV : Nat ⊕ List Nat → PyData
  | .inl n => .tuple [.str "bad", .int (n : Nat)]
  | .inr l => .tuple [.str "told", tupN l]
theorem readV_cases (a : List Nat) : readV a = if goodW (numsW (splC 32 ((splC 10 a).getD 0 []))) = true then (if 10 ∈ a then .inl 1 else .inr ((numsW (splC 32 ((splC 10 a).getD 0 []))).getD [])) else .inl 0 := by
  unfold readV
  have e : badRow [] (numsW (splC 32 ((splC 10 a).getD 0 []))) = !goodW (numsW (splC 32 ((splC 10 a).getD 0 []))) := by unfold badRow; simp
  rw [e]
  cases goodW (numsW (splC 32 ((splC 10 a).getD 0 []))) with
  | true => 
    rw [if_neg (by simp), if_pos rfl]
    by_cases h : 10 ∈ a
    · rw [if_pos (splC_more.2 h), if_pos h]
    · rw [if_neg (fun z => h (splC_more.1 z)), if_neg h]
  | false => rw [if_pos (show (!false) = true from rfl), if_neg (by simp)]
end VM

/-! _law_votes_text -/
namespace VM
variable [AW.HasT]
open PySem PySem.Spec PyProof.Rows L2 AW
local macro_rules | `(tactic| walk_at "sd") => `(tactic| first | omega | assumption | exact pin_nH rfl (by assumption) | rfl | trivial | (show (0 : Int) < _; omega) | (have sl0 := sizeLine_eq; omega) | (simp only [List.length_map, List.length_append, List.length_cons, List.length_nil, List.length_range, List.length_zipIdx, List.length_zip]; omega) | exact allN_small (by omega) | exact allN_lt (by assumption) | exact fun i hi => Nat.lt_of_lt_of_le (allN_lt (by assumption) i hi) (by omega) | exact allN_glen (by assumption) (by omega) | (simp; done) | (have sl0 := sizeLine_eq; simp; omega) | decide)
local macro_rules | `(tactic| walk_at "mul") => `(tactic| first | exact CMulA.l (by omega) (by omega) | exact CMulA.r (by omega) (by omega) | exact CMulA.l (by decide) (by decide) | exact CMulA.r (by decide) (by decide))
local macro_rules | `(tactic| walk_at "div") => `(tactic| first | exact CDivA.small (by omega) (by omega))
local macro_rules | `(tactic| walk_at "pow") => `(tactic| first | exact powOk 8 (by omega) (by omega) (by omega) (by omega))
local macro_rules | `(tactic| walk_at "slc") => `(tactic| (show sliceR _ _ _ _ _; first | refine slT_drop 1 ⟨_, _, rfl, rfl, ?_⟩ | refine slT_dropLast ⟨_, _, rfl, ?_⟩ | refine slT_take ⟨_, _, _, rfl, rfl, ?_⟩ | refine slT_dropV ⟨_, _, _, rfl, rfl, ?_⟩ | refine slL_drop 1 ⟨_, _, rfl, rfl, ?_⟩ | refine slL_dropLast ⟨_, _, rfl, ?_⟩ | refine slL_take ⟨_, _, _, rfl, rfl, ?_⟩ | refine slL_dropV ⟨_, _, _, rfl, rfl, ?_⟩))
local macro_rules | `(tactic| walk_at "eq") => `(tactic| (show eqT _ _ _ _; first | refine eqT_int ?_ | refine eqT_bool ?_ | refine eqT_str ?_ | refine eqT_enc okI ⟨_, _, rfl, rfl, ?_⟩ | refine eqT_enc okN ⟨_, _, rfl, rfl, ?_⟩ | refine eqT_enc okTN ⟨_, _, rfl, rfl, ?_⟩ | refine eqT_enc okLN ⟨_, _, rfl, rfl, ?_⟩ | refine eqT_nilT EncOk.int ⟨_, rfl, rfl, ?_⟩ | refine eqT_nilL EncOk.int ⟨_, rfl, rfl, ?_⟩ | refine eqT_nilT okN ⟨_, rfl, rfl, ?_⟩ | refine eqT_nilL okN ⟨_, rfl, rfl, ?_⟩ | refine eqT_nilT okI ⟨_, rfl, rfl, ?_⟩ | refine eqT_nilL okI ⟨_, rfl, rfl, ?_⟩))
local macro_rules | `(tactic| walk_at "ne") => `(tactic| (show neT _ _ _ _; first | refine neT_int ?_ | refine neT_bool ?_ | refine neT_str ?_ | refine neT_enc okI ⟨_, _, rfl, rfl, ?_⟩ | refine neT_enc okN ⟨_, _, rfl, rfl, ?_⟩ | refine neT_enc okTN ⟨_, _, rfl, rfl, ?_⟩ | refine neT_enc okLN ⟨_, _, rfl, rfl, ?_⟩ | refine neT_nilT EncOk.int ⟨_, rfl, rfl, ?_⟩ | refine neT_nilL EncOk.int ⟨_, rfl, rfl, ?_⟩ | refine neT_nilT okN ⟨_, rfl, rfl, ?_⟩ | refine neT_nilL okN ⟨_, rfl, rfl, ?_⟩ | refine neT_nilT okI ⟨_, rfl, rfl, ?_⟩ | refine neT_nilL okI ⟨_, rfl, rfl, ?_⟩))
local macro_rules | `(tactic| walk_at "in") => `(tactic| (show inQ _ _ _ _ _; first | refine inQ_nat ⟨_, _, rfl, rfl, ?_⟩ | refine inQ_int ⟨_, _, rfl, rfl, ?_⟩ | refine inQ_enc okN ⟨_, _, rfl, rfl, ?_⟩ | refine inQ_enc okI ⟨_, _, rfl, rfl, ?_⟩))
local macro_rules | `(tactic| walk_at "notin") => `(tactic| (show inQ _ _ _ _ _; first | refine notQ_nat ⟨_, _, rfl, rfl, ?_⟩ | refine notQ_int ⟨_, _, rfl, rfl, ?_⟩ | refine notQ_enc okN ⟨_, _, rfl, rfl, ?_⟩ | refine notQ_enc okI ⟨_, _, rfl, rfl, ?_⟩))
section
variable {P : Program} {w : World} {K : PySem.W.Frag} {mg : Str → Option Value} {base : Heap}
--BEGIN
theorem strN {ρ : Nv} {x : AV} {q : AV → Prop} (h : ∃ i : Int, x = .dat (.int i) ∧ (0 ≤ i ∧ i < 10 ^ 40) ∧ q (.dat (eX (TL.numL i.toNat)))) : strCR ρ x q := by
  obtain ⟨i, rfl, ⟨h0, h1⟩, h⟩ := h
  refine ⟨i, rfl, ?_, ?_⟩
  · have : i.natAbs < 2 ^ 200 := by
      have e : (10 : Nat) ^ 40 ≤ 2 ^ 200 := by decide
      have e2 : (i.natAbs : Int) < ((10 ^ 40 : Nat) : Int) := by
        rw [Int.natCast_pow]
        omega
      omega
    rcases Nat.eq_zero_or_pos i.natAbs with z | z
    · rw [z]; decide
    · exact Nat.lt_trans ((Nat.log2_lt (by omega)).2 this) (by decide)
  · have e : Str.ofString (toString i) = SX.S (TL.numL i.toNat) := by
      rw [← SX.num_S, Int.toNat_of_nonneg h0]
    show q (.dat (.str (Str.ofString (toString i))))
    rw [e]
    exact h
def votesX (ws : List Int) : List Nat := TL.joinL [32] (ws.map fun w => TL.numL w.toNat)
theorem joinL_len (s : List Nat) : ∀ L : List (List Nat), (TL.joinL s L).length ≤ (L.map List.length).sum + L.length * s.length
  | [] => by simp [TL.joinL]
  | [a] => by simp [TL.joinL]
  | a :: b :: L => by
    have ih := joinL_len s (b :: L)
    show (a ++ (s ++ TL.joinL s (b :: L))).length ≤ _
    simp only [List.length_append, List.map_cons, List.sum_cons, List.length_cons] at ih ⊢
    rw [Nat.add_mul (L.length + 1) 1] 
    omega
theorem num_len {w : Int} (h : 0 ≤ w ∧ w < 10 ^ 40) : (TL.numL w.toNat).length ≤ 40 := TL.numL_len (by decide) (by
  have : ((w.toNat : Nat) : Int) < ((10 ^ 40 : Nat) : Int) := by
    rw [Int.toNat_of_nonneg h.1, Int.natCast_pow]
    exact h.2
  exact Int.ofNat_lt.mp this)
theorem num_sum : ∀ {ws : List Int}, (∀ w ∈ ws, 0 ≤ w ∧ w < 10 ^ 40) → ((ws.map fun w => TL.numL w.toNat).map List.length).sum ≤ 40 * ws.length
  | [], _ => by simp
  | w :: ws, h => by
    have a := num_len (h w List.mem_cons_self)
    have b := num_sum fun v hv => h v (List.mem_cons_of_mem _ hv)
    simp only [List.map_cons, List.sum_cons, List.length_cons] at b ⊢
    omega
theorem votesX_len {ws : List Int} (h : ∀ w ∈ ws, 0 ≤ w ∧ w < 10 ^ 40) : (votesX ws).length ≤ 41 * ws.length := by
  have a := joinL_len [32] (ws.map fun w => TL.numL w.toNat)
  have b := num_sum h
  unfold votesX
  simp only [List.length_map, List.length_cons, List.length_nil] at a b ⊢
  omega
abbrev N__law_votes_text : List Str := ["_law_votes_here", "_law_vote"]
theorem sc__law_votes_text : FnScope N__law_votes_text ["_law_votes_here"] (defScope s__law_votes_text) := ⟨rfl, rfl, rfl, by decide +kernel, rfl, by decide +kernel, by decide +kernel⟩
def a__law_votes_text : ASp := fun as R => ∃ ws : List Int, as = [.dat (tupI ws)] ∧ (∀ w ∈ ws, 0 ≤ w ∧ w < 10 ^ 40) ∧ ws.length ≤ 1000 ∧ R (.dat (eX (votesX ws))) as
theorem ok__law_votes_text {f : Addr} {fd : FuncData} (F : Fun K "_law_votes_text" "_law_votes_text" s__law_votes_text f fd) (B : Blt mg) : FnG P w K mg base CX0 1 f fd ["_law_votes_here"] (toSp K a__law_votes_text) := by
  refine fnA F sc__law_votes_text (by decide) B (fun as R h => ?_) fun cdv A outer s H E C as R h => ?_
  · obtain ⟨_, rfl, _⟩ := h; rfl
  obtain ⟨ws, rfl, hw, hl, h⟩ := h
  refine SW.cons ?_
  refine S1.ret ?_
  refine EW.joinS ?_
  refine EW.strX [32] (by decide) ?_
  refine ⟨_, rfl, ?_⟩
  refine EW.lcM (own := [("_law_vote", 1)]) (is := [1]) C ?_ (blkOk_by (N := N__law_votes_text) (sc := defScope s__law_votes_text) (by decide +kernel)) (by decide)
  refine IW.tup ?_
  first | refine EW.nameD (i := 0) rfl ?_ | refine EW.nameO (i := 0) rfl ?_ -- _law_votes_here
  refine ⟨_, rfl, ?_⟩
  apply lcM_intro rfl
  · walk_at "sd"
  · rfl
  · intro y hy s0 H0 C0 cl fp
    refine GW.name C.nd (i := 1) ⟨by walk_at "sd", ?_⟩
    intro s0 H0 C0 cl fp
    refine EW.strC (C.blk ..) ?_
    first | refine EW.nameD (i := 1) rfl ?_ | refine EW.nameO (i := 1) rfl ?_ -- _law_vote
    refine strN ⟨_, rfl, hw y hy, ?_⟩
    exact ⟨_, rfl, rfl, rfl⟩
  refine ⟨ws.map fun w => TL.numL w.toNat, (by show some _ = some _; rw [List.map_map] <;> rfl), by have := num_sum hw; simp only [List.length_map, List.length_cons, List.length_nil] at this ⊢; omega, ?_⟩
  exact h
--END
end
end VM

/-! _law_spoilt -/
namespace VM
variable [AW.HasT]
open PySem PySem.Spec PyProof.Rows L2 AW
local macro_rules | `(tactic| walk_at "sd") => `(tactic| first | omega | assumption | exact pin_nH rfl (by assumption) | rfl | trivial | (show (0 : Int) < _; omega) | (have sl0 := sizeLine_eq; omega) | (simp only [List.length_map, List.length_append, List.length_cons, List.length_nil, List.length_range, List.length_zipIdx, List.length_zip]; omega) | exact allN_small (by omega) | exact allN_lt (by assumption) | exact fun i hi => Nat.lt_of_lt_of_le (allN_lt (by assumption) i hi) (by omega) | exact allN_glen (by assumption) (by omega) | (simp; done) | (have sl0 := sizeLine_eq; simp; omega) | decide)
local macro_rules | `(tactic| walk_at "mul") => `(tactic| first | exact CMulA.l (by omega) (by omega) | exact CMulA.r (by omega) (by omega) | exact CMulA.l (by decide) (by decide) | exact CMulA.r (by decide) (by decide))
local macro_rules | `(tactic| walk_at "div") => `(tactic| first | exact CDivA.small (by omega) (by omega))
local macro_rules | `(tactic| walk_at "pow") => `(tactic| first | exact powOk 8 (by omega) (by omega) (by omega) (by omega))
local macro_rules | `(tactic| walk_at "slc") => `(tactic| (show sliceR _ _ _ _ _; first | refine slT_drop 1 ⟨_, _, rfl, rfl, ?_⟩ | refine slT_dropLast ⟨_, _, rfl, ?_⟩ | refine slT_take ⟨_, _, _, rfl, rfl, ?_⟩ | refine slT_dropV ⟨_, _, _, rfl, rfl, ?_⟩ | refine slL_drop 1 ⟨_, _, rfl, rfl, ?_⟩ | refine slL_dropLast ⟨_, _, rfl, ?_⟩ | refine slL_take ⟨_, _, _, rfl, rfl, ?_⟩ | refine slL_dropV ⟨_, _, _, rfl, rfl, ?_⟩))
local macro_rules | `(tactic| walk_at "eq") => `(tactic| (show eqT _ _ _ _; first | refine eqT_int ?_ | refine eqT_bool ?_ | refine eqT_str ?_ | refine eqT_enc okI ⟨_, _, rfl, rfl, ?_⟩ | refine eqT_enc okN ⟨_, _, rfl, rfl, ?_⟩ | refine eqT_enc okTN ⟨_, _, rfl, rfl, ?_⟩ | refine eqT_enc okLN ⟨_, _, rfl, rfl, ?_⟩ | refine eqT_nilT EncOk.int ⟨_, rfl, rfl, ?_⟩ | refine eqT_nilL EncOk.int ⟨_, rfl, rfl, ?_⟩ | refine eqT_nilT okN ⟨_, rfl, rfl, ?_⟩ | refine eqT_nilL okN ⟨_, rfl, rfl, ?_⟩ | refine eqT_nilT okI ⟨_, rfl, rfl, ?_⟩ | refine eqT_nilL okI ⟨_, rfl, rfl, ?_⟩))
local macro_rules | `(tactic| walk_at "ne") => `(tactic| (show neT _ _ _ _; first | refine neT_int ?_ | refine neT_bool ?_ | refine neT_str ?_ | refine neT_enc okI ⟨_, _, rfl, rfl, ?_⟩ | refine neT_enc okN ⟨_, _, rfl, rfl, ?_⟩ | refine neT_enc okTN ⟨_, _, rfl, rfl, ?_⟩ | refine neT_enc okLN ⟨_, _, rfl, rfl, ?_⟩ | refine neT_nilT EncOk.int ⟨_, rfl, rfl, ?_⟩ | refine neT_nilL EncOk.int ⟨_, rfl, rfl, ?_⟩ | refine neT_nilT okN ⟨_, rfl, rfl, ?_⟩ | refine neT_nilL okN ⟨_, rfl, rfl, ?_⟩ | refine neT_nilT okI ⟨_, rfl, rfl, ?_⟩ | refine neT_nilL okI ⟨_, rfl, rfl, ?_⟩))
local macro_rules | `(tactic| walk_at "in") => `(tactic| (show inQ _ _ _ _ _; first | refine inQ_nat ⟨_, _, rfl, rfl, ?_⟩ | refine inQ_int ⟨_, _, rfl, rfl, ?_⟩ | refine inQ_enc okN ⟨_, _, rfl, rfl, ?_⟩ | refine inQ_enc okI ⟨_, _, rfl, rfl, ?_⟩))
local macro_rules | `(tactic| walk_at "notin") => `(tactic| (show inQ _ _ _ _ _; first | refine notQ_nat ⟨_, _, rfl, rfl, ?_⟩ | refine notQ_int ⟨_, _, rfl, rfl, ?_⟩ | refine notQ_enc okN ⟨_, _, rfl, rfl, ?_⟩ | refine notQ_enc okI ⟨_, _, rfl, rfl, ?_⟩))
section
variable {P : Program} {w : World} {K : PySem.W.Frag} {mg : Str → Option Value} {base : Heap}
--BEGIN
local macro_rules | `(tactic| walk_at "lnx") => `(tactic| (have := sizeLine_eq; first | omega | (simp only [List.length_take, List.length_drop, List.length_append, List.length_cons, List.length_nil, List.length_reverse]; omega)))
theorem txt_mem {L : List (List Nat)} {k : Nat} {d : PyData} (hd : d ∈ L.map eX) (hk : ∀ x ∈ L, x.length ≤ k) : ∃ x, d = eX x ∧ x.length ≤ k := by
  obtain ⟨x, hx, rfl⟩ := List.mem_map.mp hd
  exact ⟨x, rfl, hk x hx⟩
theorem txt_sep {d : PyData} (hd : d ∈ [eX [32], eX [10]]) : ∃ c, d = eX [c] ∧ c < 256 := by
  simp only [List.mem_cons, List.not_mem_nil, or_false] at hd
  rcases hd with rfl | rfl
  · exact ⟨32, rfl, by decide⟩
  · exact ⟨10, rfl, by decide⟩
theorem spl_sum {c : Nat} : ∀ (l acc : List Nat), ((TL.spl [c] 0 acc l).map List.length).sum ≤ acc.length + l.length
  | [], acc => by rw [TL.spl_nil]; simp
  | x :: l, acc => by
    rw [spl_cons]
    split
    · have := spl_sum (c := c) l []
      rw [List.map_cons, List.sum_cons]
      simp only [List.length_nil, List.length_cons] at this ⊢
      omega
    · have := spl_sum (c := c) l (acc ++ [x])
      simp only [List.length_append, List.length_cons, List.length_nil] at this ⊢
      omega
theorem wd_sum (c : Nat) (a : List Nat) : ((splC c a).map List.length).sum ≤ a.length := by
  have := spl_sum (c := c) a []
  rw [List.length_nil, Nat.zero_add] at this
  exact this
theorem take_sum (n : Nat) (L : List (List Nat)) : ((L.take n).map List.length).sum ≤ (L.map List.length).sum := by
  have e : L.take n ++ L.drop n = L := List.take_append_drop n L
  have : (L.map List.length).sum = ((L.take n).map List.length).sum + ((L.drop n).map List.length).sum := by
    rw [← List.sum_append, ← List.map_append, e]
  omega
theorem drop_sum (n : Nat) (L : List (List Nat)) : ((L.drop n).map List.length).sum ≤ (L.map List.length).sum := by
  have e : L.take n ++ L.drop n = L := List.take_append_drop n L
  have : (L.map List.length).sum = ((L.take n).map List.length).sum + ((L.drop n).map List.length).sum := by
    rw [← List.sum_append, ← List.map_append, e]
  omega
theorem jn_size {c : Nat} {a : List Nat} {L : List (List Nat)} (h1 : (L.map List.length).sum ≤ 2 * a.length + 41) (h2 : L.length ≤ a.length + 3) (ha : a.length ≤ 6000) : (L.map List.length).sum + L.length * ([c] : List Nat).length ≤ 16777216 := by
  simp only [List.length_cons, List.length_nil]
  omega
theorem jn_len {c : Nat} {a : List Nat} {L : List (List Nat)} (h1 : (L.map List.length).sum ≤ 2 * a.length + 41) (h2 : L.length ≤ a.length + 3) : (TL.joinL [c] L).length ≤ 3 * a.length + 100 := by
  have := joinL_len [c] L
  simp only [List.length_cons, List.length_nil] at this
  omega
theorem sp3 {c : Nat} {a : List Nat} (i j : Nat) : ((((splC c a).take i ++ (splC c a).drop j).map List.length).sum ≤ 2 * a.length + 41) ∧ ((splC c a).take i ++ (splC c a).drop j).length ≤ a.length + 3 + a.length := by
  have h1 := take_sum i (splC c a)
  have h2 := drop_sum j (splC c a)
  have h3 := wd_sum c a
  have h4 := (splC_size c a).2
  refine ⟨by rw [List.map_append, List.sum_append]; omega, ?_⟩
  simp only [List.length_append, List.length_take, List.length_drop]
  omega
theorem sp4 {c : Nat} {a : List Nat} (i j : Nat) (h : i ≤ j + 1) : ((((splC c a).take i ++ (splC c a).drop j).map List.length).sum ≤ 2 * a.length + 41) ∧ ((splC c a).take i ++ (splC c a).drop j).length ≤ a.length + 3 := by
  have h4 := (splC_size c a).2
  refine ⟨(sp3 i j).1, ?_⟩
  simp only [List.length_append, List.length_take, List.length_drop]
  omega
theorem sp5 {c : Nat} {a : List Nat} : (((splC c a).reverse.map List.length).sum ≤ 2 * a.length + 41) ∧ (splC c a).reverse.length ≤ a.length + 3 := by
  have h3 := wd_sum c a
  have h4 := (splC_size c a).2
  refine ⟨by rw [List.map_reverse, List.sum_reverse]; omega, by rw [List.length_reverse]; omega⟩
theorem sp6 {c : Nat} {a o : List Nat} (ho : o.length ≤ 41) (i : Nat) : ((((splC c a).take i ++ [o] ++ (splC c a).drop (i + 1)).map List.length).sum ≤ 2 * a.length + 41) ∧ ((splC c a).take i ++ [o] ++ (splC c a).drop (i + 1)).length ≤ a.length + 3 := by
  have h1 := take_sum i (splC c a)
  have h2 := drop_sum (i + 1) (splC c a)
  have h3 := wd_sum c a
  have h4 := (splC_size c a).2
  refine ⟨by simp only [List.map_append, List.sum_append, List.map_cons, List.map_nil, List.sum_cons, List.sum_nil]; omega, ?_⟩
  simp only [List.length_append, List.length_take, List.length_drop, List.length_cons, List.length_nil]
  omega
theorem gd2 {sg : List Nat} (h : sg.length ≤ 2) : ∀ i : Nat, ([sg, []].getD i []).length ≤ 2
  | 0 => h
  | 1 => Nat.zero_le _
  | i + 2 => by simp
abbrev N__law_spoilt : List Str := ["_law_urn_here", "_law_said", "_law_way", "_law_at", "_law_sign", "_law_parts_of", "_law_words", "_law_spot", "_law_odd_here"]
theorem sc__law_spoilt : FnScope N__law_spoilt ["_law_urn_here", "_law_said"] (defScope s__law_spoilt) := ⟨rfl, rfl, rfl, by decide +kernel, rfl, by decide +kernel, by decide +kernel⟩
def a__law_spoilt : ASp := fun as R => ∃ (b : Nat) (ds : List PyData) (a : List Nat), as = [.hol true ds, .dat (eX a)] ∧ Urn b ds ∧ b < 100000000000 ∧ a.length ≤ 6000 ∧ ∀ a' ds2, a'.length ≤ 3 * a.length + 100 → Urn (b + 10) ds2 → R (.dat (eX a')) [.hol true ds2, .dat (eX a)]
theorem ok__law_spoilt {f : Addr} {fd : FuncData} (F : Fun K "_law_spoilt" "_law_spoilt" s__law_spoilt f fd) (B : Blt mg) (c__law_of : Cal P w K mg base 2 "_law_of" a__law_of) (c__law_take : Cal P w K mg base 1 "_law_take" a__law_take) : FnG P w K mg base CX0 3 f fd ["_law_urn_here", "_law_said"] (toSp K a__law_spoilt) := by
  replace c__law_take := c__law_take.mono (show 1 ≤ 2 by decide)
  refine fnA F sc__law_spoilt (by decide) B (fun as R h => ?_) fun cdv A outer s H E C as R h => ?_
  · obtain ⟨_, _, _, rfl, _⟩ := h; rfl
  obtain ⟨b, ds, a, rfl, hU, hb, hl, h⟩ := h
  refine SW.cons ?_
  refine S1.par (i := 2) (j := 3) C ?_ rfl rfl (by decide) rfl rfl rfl
  refine EW.call c__law_take C rfl ?_
  refine EWgs.cons ?_
  first | refine EW.nameD (i := 0) rfl ?_ | refine EW.nameO (i := 0) rfl ?_ -- _law_urn_here
  refine ⟨_, rfl, ?_⟩
  refine EWgs.cons ?_
  refine EW.int ?_
  refine ⟨_, rfl, ?_⟩
  refine EWgs.nil ?_
  refine ⟨(by decide : [0].Nodup), ?_⟩
  refine ⟨_, _, _, rfl, hU, by walk_at "sd", by walk_at "sd", by walk_at "sd", fun v ds v0 v1 hU => ?_⟩
  obtain ⟨way, rfl⟩ : ∃ k : Nat, v = (k : Int) := ⟨v.toNat, by omega⟩
  refine EW.call c__law_take C rfl ?_
  refine EWgs.cons ?_
  first | refine EW.nameD (i := 0) rfl ?_ | refine EW.nameO (i := 0) rfl ?_ -- _law_urn_here
  refine ⟨_, rfl, ?_⟩
  refine EWgs.cons ?_
  refine EW.add ?_
  refine EW.len C ?_
  first | refine EW.nameD (i := 1) rfl ?_ | refine EW.nameO (i := 1) rfl ?_ -- _law_said
  refine lenS ⟨_, rfl, by walk_at "sd", ?_⟩
  refine EW.int ?_
  first | refine addR_int ?_ | skip
  refine ⟨_, rfl, ?_⟩
  refine EWgs.nil ?_
  refine ⟨(by decide : [0].Nodup), ?_⟩
  refine ⟨_, _, _, rfl, hU, by walk_at "sd", by walk_at "sd", by walk_at "sd", fun v ds at0 at1 hU => ?_⟩
  obtain ⟨at_, rfl⟩ : ∃ k : Nat, v = (k : Int) := ⟨v.toNat, by omega⟩
  refine ⟨by walk_at "sd", by walk_at "sd", ?_⟩
  show SW _ _ [.hol true ds, .dat (eX a), .dat (.int (way : Nat)), .dat (.int (at_ : Nat)), .un, .un, .un, .un, .un] _
  refine SW.cons ?_
  refine S1.asg (i := 4) C ?_ -- _law_sign =
  refine EW.call c__law_of C rfl ?_
  refine EWgs.cons ?_
  first | refine EW.nameD (i := 0) rfl ?_ | refine EW.nameO (i := 0) rfl ?_ -- _law_urn_here
  refine ⟨_, rfl, ?_⟩
  refine EWgs.cons ?_
  refine EW.list ?_
  refine EWds.cons ?_
  refine EW.strX [48] (by decide) ?_
  refine ⟨_, rfl, ?_⟩
  refine EWds.cons ?_
  refine EW.strX [49] (by decide) ?_
  refine ⟨_, rfl, ?_⟩
  refine EWds.cons ?_
  refine EW.strX [57] (by decide) ?_
  refine ⟨_, rfl, ?_⟩
  refine EWds.cons ?_
  refine EW.strX [45] (by decide) ?_
  refine ⟨_, rfl, ?_⟩
  refine EWds.cons ?_
  refine EW.strX [32] (by decide) ?_
  refine ⟨_, rfl, ?_⟩
  refine EWds.cons ?_
  refine EW.strX [10] (by decide) ?_
  refine ⟨_, rfl, ?_⟩
  refine EWds.cons ?_
  refine EW.strX [97] (by decide) ?_
  refine ⟨_, rfl, ?_⟩
  refine EWds.cons ?_
  refine EW.strX [46] (by decide) ?_
  refine ⟨_, rfl, ?_⟩
  refine EWds.cons ?_
  refine EW.strX [65] (by decide) ?_
  refine ⟨_, rfl, ?_⟩
  refine EWds.cons ?_
  refine EW.strX [48, 48] (by decide) ?_
  refine ⟨_, rfl, ?_⟩
  refine EWds.cons ?_
  refine EW.strX [9] (by decide) ?_
  refine ⟨_, rfl, ?_⟩
  refine EWds.cons ?_
  refine EW.strX [122] (by decide) ?_
  refine ⟨_, rfl, ?_⟩
  refine EWds.nil ?_
  refine ⟨(by decide : (12 : Nat) ≤ sizeLine), ?_⟩
  refine ⟨_, rfl, ?_⟩
  refine EWgs.nil ?_
  refine ⟨(by decide : [0].Nodup), ?_⟩
  refine ⟨_, _, _, rfl, hU, by walk_at "sd", by walk_at "sd", by walk_at "sd", fun d ds hd hU => ?_⟩
  obtain ⟨sg, rfl, hsg⟩ := txt_mem (L := [[48], [49], [57], [45], [32], [10], [97], [46], [65], [48, 48], [9], [122]]) (k := 2) hd (by decide)
  --
  refine ⟨by walk_at "sd", ?_⟩
  show SW _ _ [.hol true ds, .dat (eX a), .dat (.int (way : Nat)), .dat (.int (at_ : Nat)), .dat (eX sg), .un, .un, .un, .un] _
  refine SW.cons ?_
  apply S1.iteP
  · refine TW.cmp (opA_intB op_lt) ?_ (nomark _)
    first | refine EW.nameD (i := 2) rfl ?_ | refine EW.nameO (i := 2) rfl ?_ -- _law_way
    refine EW.int ?_
    exact ⟨rfl, rfl⟩
  · intro h1
    try refine SW.demote (i := 4) rfl ?_
    refine SW.cons ?_
    refine S1.ret ?_
    apply EW.ifQ
    · refine TW.cmp (opE C) ?_ (nomark _)
      first | refine EW.nameD (i := 2) rfl ?_ | refine EW.nameO (i := 2) rfl ?_ -- _law_way
      refine EW.int ?_
      walk_at "eq"
      exact ⟨rfl, rfl⟩
    · intro hi
      --
      refine EW.add ?_
      refine EW.add ?_
      refine EW.slice ?_
      first | refine EW.nameD (i := 1) rfl ?_ | refine EW.nameO (i := 1) rfl ?_ -- _law_said
      refine EWoN ?_
      refine EWoS ?_
      first | refine EW.nameD (i := 3) rfl ?_ | refine EW.nameO (i := 3) rfl ?_ -- _law_at
      refine ⟨_, rfl, ?_⟩
      refine slS_to ⟨_, _, rfl, rfl, by walk_at "sd", ?_⟩
      first | refine EW.nameD (i := 4) rfl ?_ | refine EW.nameO (i := 4) rfl ?_ -- _law_sign
      refine addS ⟨_, _, rfl, rfl, by walk_at "lnx", ?_⟩
      refine EW.slice ?_
      first | refine EW.nameD (i := 1) rfl ?_ | refine EW.nameO (i := 1) rfl ?_ -- _law_said
      refine EWoS ?_
      first | refine EW.nameD (i := 3) rfl ?_ | refine EW.nameO (i := 3) rfl ?_ -- _law_at
      refine ⟨_, rfl, ?_⟩
      refine EWoN ?_
      refine slS_from ⟨_, _, rfl, rfl, by walk_at "sd", ?_⟩
      refine addS ⟨_, _, rfl, rfl, by walk_at "lnx", ?_⟩
      exact h _ _ (by walk_at "lnx") (hU.mono (by omega))
    · intro hi
      have w3 := of_decide_eq_true h1
      have w0 := of_decide_eq_false hi
      have hg2 := gd2 hsg (way - 1)
      refine EW.add ?_
      refine EW.add ?_
      refine EW.slice ?_
      first | refine EW.nameD (i := 1) rfl ?_ | refine EW.nameO (i := 1) rfl ?_ -- _law_said
      refine EWoN ?_
      refine EWoS ?_
      first | refine EW.nameD (i := 3) rfl ?_ | refine EW.nameO (i := 3) rfl ?_ -- _law_at
      refine ⟨_, rfl, ?_⟩
      refine slS_to ⟨_, _, rfl, rfl, by walk_at "sd", ?_⟩
      refine EW.ix ?_
      refine EW.list ?_
      refine EWds.cons ?_
      first | refine EW.nameD (i := 4) rfl ?_ | refine EW.nameO (i := 4) rfl ?_ -- _law_sign
      refine ⟨_, rfl, ?_⟩
      refine EWds.cons ?_
      refine EW.str ?_
      refine ⟨_, rfl, ?_⟩
      refine EWds.nil ?_
      refine ⟨(by decide : (2 : Nat) ≤ sizeLine), ?_⟩
      refine EW.sub ?_
      first | refine EW.nameD (i := 2) rfl ?_ | refine EW.nameO (i := 2) rfl ?_ -- _law_way
      refine EW.int ?_
      refine ⟨trivial, ?_⟩
      refine ixR_nat ([] : List Nat) ⟨[sg, []], eX, way - 1, (by show AV.dat (.int _) = .dat (.int _); congr 2; omega), rfl, (by simp only [List.length_cons, List.length_nil]; omega), ?_⟩
      refine addS ⟨_, _, rfl, rfl, by walk_at "lnx", ?_⟩
      refine EW.slice ?_
      first | refine EW.nameD (i := 1) rfl ?_ | refine EW.nameO (i := 1) rfl ?_ -- _law_said
      refine EWoS ?_
      refine EW.add ?_
      first | refine EW.nameD (i := 3) rfl ?_ | refine EW.nameO (i := 3) rfl ?_ -- _law_at
      refine EW.int ?_
      first | refine addR_int ?_ | skip
      refine ⟨_, rfl, ?_⟩
      refine EWoN ?_
      refine slS_from ⟨_, _, (show some ((at_ : Int) + 1) = some ((at_ + 1 : Nat) : Int) from rfl), rfl, by walk_at "sd", ?_⟩
      refine addS ⟨_, _, rfl, rfl, by walk_at "lnx", ?_⟩
      exact h _ _ (by walk_at "lnx") (hU.mono (by omega))
  intro h1
  refine SW.nil ?_
  refine SW.cons ?_
  refine S1.asg (i := 5) C ?_ -- _law_parts_of =
  refine EW.call c__law_of C rfl ?_
  refine EWgs.cons ?_
  first | refine EW.nameD (i := 0) rfl ?_ | refine EW.nameO (i := 0) rfl ?_ -- _law_urn_here
  refine ⟨_, rfl, ?_⟩
  refine EWgs.cons ?_
  refine EW.list ?_
  refine EWds.cons ?_
  refine EW.strX [32] (by decide) ?_
  refine ⟨_, rfl, ?_⟩
  refine EWds.cons ?_
  refine EW.strX [10] (by decide) ?_
  refine ⟨_, rfl, ?_⟩
  refine EWds.nil ?_
  refine ⟨(by decide : (2 : Nat) ≤ sizeLine), ?_⟩
  refine ⟨_, rfl, ?_⟩
  refine EWgs.nil ?_
  refine ⟨(by decide : [0].Nodup), ?_⟩
  refine ⟨_, _, _, rfl, hU, by walk_at "sd", by walk_at "sd", by walk_at "sd", fun d ds hd hU => ?_⟩
  obtain ⟨c, rfl, hc⟩ := txt_sep hd
  --
  refine ⟨by walk_at "sd", ?_⟩
  show SW _ _ [.hol true ds, .dat (eX a), .dat (.int (way : Nat)), .dat (.int (at_ : Nat)), .dat (eX sg), .dat (eX [c]), .un, .un, .un] _
  refine SW.cons ?_
  refine S1.asg (i := 6) C ?_ -- _law_words =
  refine EW.splitS ?_
  first | refine EW.nameD (i := 1) rfl ?_ | refine EW.nameO (i := 1) rfl ?_ -- _law_said
  refine ⟨_, rfl, by walk_at "sd", ?_⟩
  first | refine EW.nameD (i := 5) rfl ?_ | refine EW.nameO (i := 5) rfl ?_ -- _law_parts_of
  refine ⟨_, hc, rfl, ?_⟩
  --
  refine ⟨by walk_at "sd", ?_⟩
  show SW _ _ _ _
  have hwz := splC_size c a
  show SW _ _ [.hol true ds, .dat (eX a), .dat (.int (way : Nat)), .dat (.int (at_ : Nat)), .dat (eX sg), .dat (eX [c]), .hol false ((splC c a).map eX), .un, .un] _
  refine SW.cons ?_
  refine S1.asg (i := 7) C ?_ -- _law_spot =
  refine EW.call c__law_take C rfl ?_
  refine EWgs.cons ?_
  first | refine EW.nameD (i := 0) rfl ?_ | refine EW.nameO (i := 0) rfl ?_ -- _law_urn_here
  refine ⟨_, rfl, ?_⟩
  refine EWgs.cons ?_
  refine EW.len C ?_
  first | refine EW.nameD (i := 6) rfl ?_ | refine EW.nameO (i := 6) rfl ?_ -- _law_words
  first | refine lenR_map ⟨_, _, _, rfl, ?_⟩ | refine ⟨_, rfl, ?_⟩
  refine ⟨_, rfl, ?_⟩
  refine EWgs.nil ?_
  refine ⟨(by decide : [0].Nodup), ?_⟩
  refine ⟨_, _, _, rfl, hU, by walk_at "sd", by walk_at "sd", by walk_at "sd", fun v ds sp0 sp1 hU => ?_⟩
  obtain ⟨sp, rfl⟩ : ∃ k : Nat, v = (k : Int) := ⟨v.toNat, by omega⟩
  --
  refine ⟨by walk_at "sd", ?_⟩
  show SW _ _ [.hol true ds, .dat (eX a), .dat (.int (way : Nat)), .dat (.int (at_ : Nat)), .dat (eX sg), .dat (eX [c]), .hol false ((splC c a).map eX), .dat (.int (sp : Nat)), .un] _
  refine SW.cons ?_
  apply S1.iteP
  · refine TW.cmp (opE C) ?_ (nomark _)
    first | refine EW.nameD (i := 2) rfl ?_ | refine EW.nameO (i := 2) rfl ?_ -- _law_way
    refine EW.int ?_
    walk_at "eq"
    exact ⟨rfl, rfl⟩
  · intro h1
    refine SW.cons ?_
    refine S1.ret ?_
    refine EW.joinS ?_
    first | refine EW.nameD (i := 5) rfl ?_ | refine EW.nameO (i := 5) rfl ?_ -- _law_parts_of
    refine ⟨_, rfl, ?_⟩
    refine EW.add ?_
    refine EW.slice ?_
    first | refine EW.nameD (i := 6) rfl ?_ | refine EW.nameO (i := 6) rfl ?_ -- _law_words
    refine EWoN ?_
    refine EWoS ?_
    first | refine EW.nameD (i := 7) rfl ?_ | refine EW.nameO (i := 7) rfl ?_ -- _law_spot
    refine ⟨_, rfl, ?_⟩
    refine slL_take ⟨_, eX, _, rfl, rfl, ?_⟩
    refine EW.slice ?_
    first | refine EW.nameD (i := 6) rfl ?_ | refine EW.nameO (i := 6) rfl ?_ -- _law_words
    refine EWoS ?_
    refine EW.add ?_
    first | refine EW.nameD (i := 7) rfl ?_ | refine EW.nameO (i := 7) rfl ?_ -- _law_spot
    refine EW.int ?_
    first | refine addR_int ?_ | skip
    refine ⟨_, rfl, ?_⟩
    refine EWoN ?_
    refine slL_dropV ⟨_, eX, _, (show some ((sp : Int) + 1) = some ((sp + 1 : Nat) : Int) from rfl), rfl, ?_⟩
    refine addR_lst ⟨_, _, eX, rfl, rfl, by walk_at "lnx", ?_⟩
    refine ⟨_, rfl, jn_size (sp4 sp (sp + 1) (by omega)).1 (sp4 sp (sp + 1) (by omega)).2 hl, ?_⟩
    exact h _ _ (jn_len (sp4 sp (sp + 1) (by omega)).1 (sp4 sp (sp + 1) (by omega)).2) (hU.mono (by omega))
  intro h1
  refine SW.nil ?_
  refine SW.cons ?_
  apply S1.iteP
  · refine TW.cmp (opE C) ?_ (nomark _)
    first | refine EW.nameD (i := 2) rfl ?_ | refine EW.nameO (i := 2) rfl ?_ -- _law_way
    refine EW.int ?_
    walk_at "eq"
    exact ⟨rfl, rfl⟩
  · intro h1
    refine SW.cons ?_
    refine S1.ret ?_
    refine EW.joinS ?_
    first | refine EW.nameD (i := 5) rfl ?_ | refine EW.nameO (i := 5) rfl ?_ -- _law_parts_of
    refine ⟨_, rfl, ?_⟩
    refine EW.add ?_
    refine EW.slice ?_
    first | refine EW.nameD (i := 6) rfl ?_ | refine EW.nameO (i := 6) rfl ?_ -- _law_words
    refine EWoN ?_
    refine EWoS ?_
    refine EW.add ?_
    first | refine EW.nameD (i := 7) rfl ?_ | refine EW.nameO (i := 7) rfl ?_ -- _law_spot
    refine EW.int ?_
    first | refine addR_int ?_ | skip
    refine ⟨_, rfl, ?_⟩
    refine slL_take ⟨_, eX, _, (show some ((sp : Int) + 1) = some ((sp + 1 : Nat) : Int) from rfl), rfl, ?_⟩
    refine EW.slice ?_
    first | refine EW.nameD (i := 6) rfl ?_ | refine EW.nameO (i := 6) rfl ?_ -- _law_words
    refine EWoS ?_
    first | refine EW.nameD (i := 7) rfl ?_ | refine EW.nameO (i := 7) rfl ?_ -- _law_spot
    refine ⟨_, rfl, ?_⟩
    refine EWoN ?_
    refine slL_dropV ⟨_, eX, _, rfl, rfl, ?_⟩
    refine addR_lst ⟨_, _, eX, rfl, rfl, by walk_at "lnx", ?_⟩
    refine ⟨_, rfl, jn_size (sp4 (sp + 1) sp (by omega)).1 (sp4 (sp + 1) sp (by omega)).2 hl, ?_⟩
    exact h _ _ (jn_len (sp4 (sp + 1) sp (by omega)).1 (sp4 (sp + 1) sp (by omega)).2) (hU.mono (by omega))
  intro h1
  refine SW.nil ?_
  refine SW.cons ?_
  apply S1.iteP
  · refine TW.cmp (opE C) ?_ (nomark _)
    first | refine EW.nameD (i := 2) rfl ?_ | refine EW.nameO (i := 2) rfl ?_ -- _law_way
    refine EW.int ?_
    walk_at "eq"
    exact ⟨rfl, rfl⟩
  · intro h1
    refine SW.cons ?_
    refine S1.ret ?_
    refine EW.joinS ?_
    first | refine EW.nameD (i := 5) rfl ?_ | refine EW.nameO (i := 5) rfl ?_ -- _law_parts_of
    refine ⟨_, rfl, ?_⟩
    refine EW.revLM ?_
    first | refine EW.nameD (i := 6) rfl ?_ | refine EW.nameO (i := 6) rfl ?_ -- _law_words
    refine ⟨_, _, _, rfl, ?_⟩
    refine ⟨_, rfl, jn_size sp5.1 sp5.2 hl, ?_⟩
    exact h _ _ (jn_len sp5.1 sp5.2) (hU.mono (by omega))
  intro h1
  refine SW.nil ?_
  refine SW.cons ?_
  apply S1.iteP
  · refine TW.cmp (opE C) ?_ (nomark _)
    first | refine EW.nameD (i := 2) rfl ?_ | refine EW.nameO (i := 2) rfl ?_ -- _law_way
    refine EW.int ?_
    walk_at "eq"
    exact ⟨rfl, rfl⟩
  · intro h1
    refine SW.cons ?_
    refine S1.asg (i := 8) C ?_ -- _law_odd_here =
    refine EW.call c__law_of C rfl ?_
    refine EWgs.cons ?_
    first | refine EW.nameD (i := 0) rfl ?_ | refine EW.nameO (i := 0) rfl ?_ -- _law_urn_here
    refine ⟨_, rfl, ?_⟩
    refine EWgs.cons ?_
    refine EW.list ?_
    refine EWds.cons ?_
    refine EW.str ?_
    refine ⟨_, rfl, ?_⟩
    refine EWds.cons ?_
    refine EW.strX [48] (by decide) ?_
    refine ⟨_, rfl, ?_⟩
    refine EWds.cons ?_
    refine EW.strX [45, 49] (by decide) ?_
    refine ⟨_, rfl, ?_⟩
    refine EWds.cons ?_
    refine EW.strX [48, 49] (by decide) ?_
    refine ⟨_, rfl, ?_⟩
    refine EWds.cons ?_
    refine EW.add ?_
    refine EW.strX [49] (by decide) ?_
    refine EW.mulS ?_
    refine EW.strX [48] (by decide) ?_
    refine EW.int ?_
    refine ⟨_, 39, rfl, rfl, by decide, by decide, by decide, by decide, ?_⟩
    refine addS ⟨_, _, rfl, rfl, by walk_at "sd", ?_⟩
    refine ⟨_, rfl, ?_⟩
    refine EWds.cons ?_
    refine EW.add ?_
    refine EW.strX [49] (by decide) ?_
    refine EW.mulS ?_
    refine EW.strX [48] (by decide) ?_
    refine EW.int ?_
    refine ⟨_, 40, rfl, rfl, by decide, by decide, by decide, by decide, ?_⟩
    refine addS ⟨_, _, rfl, rfl, by walk_at "sd", ?_⟩
    refine ⟨_, rfl, ?_⟩
    refine EWds.cons ?_
    refine EW.mulS ?_
    refine EW.strX [48] (by decide) ?_
    refine EW.int ?_
    refine ⟨_, 12, rfl, rfl, by decide, by decide, by decide, by decide, ?_⟩
    refine ⟨_, rfl, ?_⟩
    refine EWds.cons ?_
    refine EW.strX [97, 32, 48] (by decide) ?_
    refine ⟨_, rfl, ?_⟩
    refine EWds.cons ?_
    refine EW.strX [49, 32, 49] (by decide) ?_
    refine ⟨_, rfl, ?_⟩
    refine EWds.nil ?_
    refine ⟨(by decide : (9 : Nat) ≤ sizeLine), ?_⟩
    refine ⟨_, rfl, ?_⟩
    refine EWgs.nil ?_
    refine ⟨(by decide : [0].Nodup), ?_⟩
    refine ⟨_, _, _, rfl, hU, by walk_at "sd", by walk_at "sd", by walk_at "sd", fun d ds hd hU => ?_⟩
    obtain ⟨od, rfl, hod⟩ := txt_mem (L := [[], [48], [45, 49], [48, 49], [49] ++ (List.replicate 39 [48]).flatten, [49] ++ (List.replicate 40 [48]).flatten, (List.replicate 12 [48]).flatten, [97, 32, 48], [49, 32, 49]]) (k := 41) hd (by decide)
    --
    refine ⟨by walk_at "sd", ?_⟩
    try refine SW.demote (i := 8) rfl ?_
    show SW _ _ [.hol true ds, .dat (eX a), .dat (.int (way : Nat)), .dat (.int (at_ : Nat)), .dat (eX sg), .dat (eX [c]), .hol false ((splC c a).map eX), .dat (.int (sp : Nat)), .dat (eX od)] _
    refine SW.cons ?_
    refine S1.ret ?_
    refine EW.joinS ?_
    first | refine EW.nameD (i := 5) rfl ?_ | refine EW.nameO (i := 5) rfl ?_ -- _law_parts_of
    refine ⟨_, rfl, ?_⟩
    refine EW.add ?_
    refine EW.add ?_
    refine EW.slice ?_
    first | refine EW.nameD (i := 6) rfl ?_ | refine EW.nameO (i := 6) rfl ?_ -- _law_words
    refine EWoN ?_
    refine EWoS ?_
    first | refine EW.nameD (i := 7) rfl ?_ | refine EW.nameO (i := 7) rfl ?_ -- _law_spot
    refine ⟨_, rfl, ?_⟩
    refine slL_take ⟨_, eX, _, rfl, rfl, ?_⟩
    refine EW.list ?_
    refine EWds.cons ?_
    first | refine EW.nameD (i := 8) rfl ?_ | refine EW.nameO (i := 8) rfl ?_ -- _law_odd_here
    refine ⟨_, rfl, ?_⟩
    refine EWds.nil ?_
    refine ⟨(by decide : (1 : Nat) ≤ sizeLine), ?_⟩
    refine addR_lst ⟨_, [_], eX, rfl, rfl, by walk_at "lnx", ?_⟩
    refine EW.slice ?_
    first | refine EW.nameD (i := 6) rfl ?_ | refine EW.nameO (i := 6) rfl ?_ -- _law_words
    refine EWoS ?_
    refine EW.add ?_
    first | refine EW.nameD (i := 7) rfl ?_ | refine EW.nameO (i := 7) rfl ?_ -- _law_spot
    refine EW.int ?_
    first | refine addR_int ?_ | skip
    refine ⟨_, rfl, ?_⟩
    refine EWoN ?_
    refine slL_dropV ⟨_, eX, _, (show some ((sp : Int) + 1) = some ((sp + 1 : Nat) : Int) from rfl), rfl, ?_⟩
    refine addR_lst ⟨_, _, eX, rfl, rfl, by walk_at "lnx", ?_⟩
    refine ⟨_, rfl, jn_size (sp6 hod sp).1 (sp6 hod sp).2 hl, ?_⟩
    exact h _ _ (jn_len (sp6 hod sp).1 (sp6 hod sp).2) (hU.mono (by omega))
  intro h1
  refine SW.nil ?_
  refine SW.cons ?_
  refine S1.ret ?_
  apply EW.ifQ
  · refine TW.cmp (opE C) ?_ (nomark _)
    first | refine EW.nameD (i := 2) rfl ?_ | refine EW.nameO (i := 2) rfl ?_ -- _law_way
    refine EW.int ?_
    walk_at "eq"
    exact ⟨rfl, rfl⟩
  · intro hi
    --
    refine EW.add ?_
    first | refine EW.nameD (i := 1) rfl ?_ | refine EW.nameO (i := 1) rfl ?_ -- _law_said
    refine EW.call c__law_of C rfl ?_
    refine EWgs.cons ?_
    first | refine EW.nameD (i := 0) rfl ?_ | refine EW.nameO (i := 0) rfl ?_ -- _law_urn_here
    refine ⟨_, rfl, ?_⟩
    refine EWgs.cons ?_
    refine EW.list ?_
    refine EWds.cons ?_
    refine EW.strX [32] (by decide) ?_
    refine ⟨_, rfl, ?_⟩
    refine EWds.cons ?_
    refine EW.strX [10] (by decide) ?_
    refine ⟨_, rfl, ?_⟩
    refine EWds.cons ?_
    refine EW.strX [32, 49] (by decide) ?_
    refine ⟨_, rfl, ?_⟩
    refine EWds.cons ?_
    refine EW.strX [10, 49] (by decide) ?_
    refine ⟨_, rfl, ?_⟩
    refine EWds.cons ?_
    refine EW.strX [10, 97, 32, 48] (by decide) ?_
    refine ⟨_, rfl, ?_⟩
    refine EWds.cons ?_
    refine EW.strX [10, 122, 122, 122, 32, 51] (by decide) ?_
    refine ⟨_, rfl, ?_⟩
    refine EWds.nil ?_
    refine ⟨(by decide : (6 : Nat) ≤ sizeLine), ?_⟩
    refine ⟨_, rfl, ?_⟩
    refine EWgs.nil ?_
    refine ⟨(by decide : [0].Nodup), ?_⟩
    refine ⟨_, _, _, rfl, hU, by walk_at "sd", by walk_at "sd", by walk_at "sd", fun d ds hd hU => ?_⟩
    obtain ⟨tl, rfl, htl⟩ := txt_mem (L := [[32], [10], [32, 49], [10, 49], [10, 97, 32, 48], [10, 122, 122, 122, 32, 51]]) (k := 6) hd (by decide)
    refine addS ⟨_, _, rfl, rfl, by walk_at "lnx", ?_⟩
    exact h (a ++ tl) _ (by rw [List.length_append]; omega) (hU.mono (by omega))
  · intro hi
    --
    refine EW.add ?_
    first | refine EW.nameD (i := 5) rfl ?_ | refine EW.nameO (i := 5) rfl ?_ -- _law_parts_of
    first | refine EW.nameD (i := 1) rfl ?_ | refine EW.nameO (i := 1) rfl ?_ -- _law_said
    refine addS ⟨_, _, rfl, rfl, by walk_at "lnx", ?_⟩
    exact h _ _ (by walk_at "lnx") (hU.mono (by omega))
--END
end
end VM

/-! _law_reads: what a lambda tells, or the one class of its error -/
namespace VM
variable [AW.HasT]
open PySem PySem.Spec PyProof.Rows L2 AW
theorem kept_new {H H1 : Hp} {p : Addr} {o : HO} (k : Kept H H1) (n : H1 p = none) : Kept H (upd H1 p o) := fun b u e => by
  have e1 := k b u e
  rw [upd_ne (ne_of_none e1 n)]
  exact e1
theorem kept_none {H H1 : Hp} {p : Addr} (k : Kept H H1) (n : H1 p = none) : H p = none := by
  cases e : H p with
  | none => rfl
  | some o => rw [k p o e] at n; cases n
theorem lst_new {H : Hp} {a p : Addr} {o : HO} {xs : List V} (h : H a = some (.lst xs)) (n : H p = none) : upd H p o a = some (.lst xs) := by
  rw [upd_ne (ne_of_none h n)]
  exact h
theorem le_line {n : Nat} (h : n ≤ 100) : n ≤ sizeLine := by
  have := sizeLine_eq
  omega
theorem if_no {c : Bool} {A B : Prop} (h : c = false) (b : B) : if c = true then A else B := by
  rw [h]
  exact b
theorem if_yes {c : Bool} {A B : Prop} (h : c = true) (a : A) : if c = true then A else B := by
  rw [h]
  exact a
section
variable {P : Program} {w : World} {K : PySem.W.Frag} {mg : Str → Option Value} {base : Heap}
--BEGIN
abbrev N__law_reads : List Str := ["_law_ask", "_law_caught", "error", "_law_is_plain"]
theorem sc__law_reads : FnScope N__law_reads ["_law_ask"] (defScope s__law_reads) := ⟨rfl, rfl, rfl, by decide +kernel, rfl, by decide +kernel, by decide +kernel⟩
def TagR (x f tag : Str) : Prop := x = "BadText" ∧ f = "row" ∧ tag = "bad"
theorem ok__law_reads {g C0 C1 V : Addr} {fd : FuncData} (F : Fun K "_law_reads" "_law_reads" s__law_reads g fd) (B : Blt mg) (hm : mg "_law_reads" = some (.ref g)) (hVE : mg "ValueError" = none) (mV : mg "VoteError" = some (.ref V))
    (m0 : mg "BadText" = some (.ref C0)) (m1 : mg "BadMembers" = some (.ref C1))
    (n0 : PySem.W.findIn K (.ref C0) "row" = some none) (n1 : PySem.W.findIn K (.ref C1) "value" = some none)
    (kit : kitsB K V [C0, C1] = true) : Told P w K mg base "_law_reads" TagR := by
  refine ⟨g, fd, "_law_ask", N__law_reads, s__law_reads, F, sc__law_reads, rfl, .inl rfl, rfl, rfl, hm, F.kp, F.binds fun _ _ _ _ _ _ us hl => match us, hl with | [_], _ => rfl, fun cdv A outer s H Q tl f c' q hcd hact hc hT => ?_⟩
  refine tSW_cons (ps_set (i := 1) sc__law_reads.nd rfl (.inl rfl) pe_non) ?_
  show tSW _ _ _ [some (.ref f), some .non, none, none] H
  replace hT := hT H (fun b o e => e)
  refine tSW_cons (ps_try_keep (i := 2) rfl rfl rfl sc__law_reads.nd rfl rfl ⟨rfl, by decide, .inl mV⟩ (fun W pn xe tk => pss_one (ps_ret (pe_tup (pa_cons pe_str (pa_cons (hact W pn xe _ _ tk) pa_nil))))) (fun a pn => pss_one (ps_set (i := 1) sc__law_reads.nd rfl (.inl rfl) (pe_var (i := 2) rfl (.inl rfl))))) ?_
  refine ⟨rfl, hc, _, fun cls d G' z => z, ?_⟩
  refine hT _ _ (fun cls dd H' hx => ?_) (fun v H' hq => ?_)
  · obtain ⟨x, fl, tag, C, dx, v, ⟨rfl, rfl, rfl⟩, hmx, rfl, rfl, hdx, hq⟩ := hx
    obtain rfl : C0 = C := by rw [m0] at hmx; cases hmx; rfl
    obtain ⟨ex, em, kv, kk⟩ := kits_at kit (i := 0) rfl
    have k0 := kk 0 _ rfl
    have k1 := kk 1 _ rfl
    clear kk kit
    refine ⟨em, fun a na => ⟨_, rfl, ?_⟩⟩
    have E0 : ErV K (upd H' a (KeO (.ref C0) (some dx) a)) C0 a dx [("row", v)] := ⟨ex, exc_xf ex, upd_same, by rw [upd_ne (ne_of_none hdx na)]; exact hdx⟩
    have kp0 : Kept H' (upd H' a (KeO (.ref C0) (some dx) a)) := kept_new (fun b o e => e) na
    clear hdx
    show tSW _ _ _ [some (.ref f), some (.ref a), none, none] (upd H' a (KeO (.ref C0) (some dx) a))
    generalize upd H' a (KeO (.ref C0) (some dx) a) = G0 at E0 kp0 ⊢
    refine tSW_cons (ps_set (i := 3) sc__law_reads.nd rfl (.inl rfl) (pe_and (pe_isT rfl B.isinstance (i := 1) rfl (.inl rfl) rfl m0 rfl rfl rfl) (pe_and (pe_isTy rfl B.isinstance (i := 1) rfl (.inl rfl) rfl hVE rfl (by decide) rfl rfl rfl) (pe_one (pe_not (pe_isT rfl B.isinstance (i := 1) rfl (.inl rfl) rfl m1 rfl rfl rfl)))))) ?_
    refine isT_ok rfl E0 k0 ⟨_, rfl, if_yes rfl ?_⟩
    refine isTy_ok rfl E0 kv ⟨_, rfl, if_yes rfl ?_⟩
    refine isT_ok rfl E0 k1 ⟨_, rfl, ?_⟩
    show tSW _ _ _ [some (.ref f), some (.ref a), none, some (.bl true)] G0
    refine tSW_cons (ps_ret (pe_ifExp (pt_val (pe_var (i := 3) rfl (.inl rfl))) (pe_tup (pa_cons pe_str (pa_cons (pe_keF (pe_var (i := 1) rfl (.inl rfl))) pa_nil))) (pe_tup (pa_cons pe_str (pa_cons pe_non pa_nil))))) ?_
    refine ⟨_, rfl, _, rfl, if_yes rfl ?_⟩
    exact ⟨_, rfl, C0, a, dx, _, v, E0.xf, n0, rfl, E0.ob, E0.di, by simp [List.lookup], le_line (show 2 ≤ 100 by decide), fun p np => hq _ p (kept_new kp0 np) (kept_none kp0 np) upd_same⟩
  · exact ⟨le_line (show 2 ≤ 100 by decide), fun p np => hq _ p (kept_new (fun b o e => e) np) np upd_same⟩
--END
end
end VM

/-! rows_in -/
namespace VM
variable [AW.HasT]
open PySem PySem.Spec PyProof.Rows L2 AW
local macro_rules | `(tactic| walk_at "sd") => `(tactic| first | omega | assumption | exact pin_nH rfl (by assumption) | rfl | trivial | (show (0 : Int) < _; omega) | (have sl0 := sizeLine_eq; omega) | (simp only [List.length_map, List.length_append, List.length_cons, List.length_nil, List.length_range, List.length_zipIdx, List.length_zip]; omega) | exact allN_small (by omega) | exact allN_lt (by assumption) | exact fun i hi => Nat.lt_of_lt_of_le (allN_lt (by assumption) i hi) (by omega) | exact allN_glen (by assumption) (by omega) | (simp; done) | (have sl0 := sizeLine_eq; simp; omega) | decide)
local macro_rules | `(tactic| walk_at "mul") => `(tactic| first | exact CMulA.l (by omega) (by omega) | exact CMulA.r (by omega) (by omega) | exact CMulA.l (by decide) (by decide) | exact CMulA.r (by decide) (by decide))
local macro_rules | `(tactic| walk_at "div") => `(tactic| first | exact CDivA.small (by omega) (by omega))
local macro_rules | `(tactic| walk_at "pow") => `(tactic| first | exact powOk 8 (by omega) (by omega) (by omega) (by omega))
local macro_rules | `(tactic| walk_at "slc") => `(tactic| (show sliceR _ _ _ _ _; first | refine slT_drop 1 ⟨_, _, rfl, rfl, ?_⟩ | refine slT_dropLast ⟨_, _, rfl, ?_⟩ | refine slT_take ⟨_, _, _, rfl, rfl, ?_⟩ | refine slT_dropV ⟨_, _, _, rfl, rfl, ?_⟩ | refine slL_drop 1 ⟨_, _, rfl, rfl, ?_⟩ | refine slL_dropLast ⟨_, _, rfl, ?_⟩ | refine slL_take ⟨_, _, _, rfl, rfl, ?_⟩ | refine slL_dropV ⟨_, _, _, rfl, rfl, ?_⟩))
local macro_rules | `(tactic| walk_at "eq") => `(tactic| (show eqT _ _ _ _; first | refine eqT_int ?_ | refine eqT_bool ?_ | refine eqT_str ?_ | refine eqT_enc okI ⟨_, _, rfl, rfl, ?_⟩ | refine eqT_enc okN ⟨_, _, rfl, rfl, ?_⟩ | refine eqT_enc okTN ⟨_, _, rfl, rfl, ?_⟩ | refine eqT_enc okLN ⟨_, _, rfl, rfl, ?_⟩ | refine eqT_nilT EncOk.int ⟨_, rfl, rfl, ?_⟩ | refine eqT_nilL EncOk.int ⟨_, rfl, rfl, ?_⟩ | refine eqT_nilT okN ⟨_, rfl, rfl, ?_⟩ | refine eqT_nilL okN ⟨_, rfl, rfl, ?_⟩ | refine eqT_nilT okI ⟨_, rfl, rfl, ?_⟩ | refine eqT_nilL okI ⟨_, rfl, rfl, ?_⟩))
local macro_rules | `(tactic| walk_at "ne") => `(tactic| (show neT _ _ _ _; first | refine neT_int ?_ | refine neT_bool ?_ | refine neT_str ?_ | refine neT_enc okI ⟨_, _, rfl, rfl, ?_⟩ | refine neT_enc okN ⟨_, _, rfl, rfl, ?_⟩ | refine neT_enc okTN ⟨_, _, rfl, rfl, ?_⟩ | refine neT_enc okLN ⟨_, _, rfl, rfl, ?_⟩ | refine neT_nilT EncOk.int ⟨_, rfl, rfl, ?_⟩ | refine neT_nilL EncOk.int ⟨_, rfl, rfl, ?_⟩ | refine neT_nilT okN ⟨_, rfl, rfl, ?_⟩ | refine neT_nilL okN ⟨_, rfl, rfl, ?_⟩ | refine neT_nilT okI ⟨_, rfl, rfl, ?_⟩ | refine neT_nilL okI ⟨_, rfl, rfl, ?_⟩))
local macro_rules | `(tactic| walk_at "in") => `(tactic| (show inQ _ _ _ _ _; first | refine inQ_nat ⟨_, _, rfl, rfl, ?_⟩ | refine inQ_int ⟨_, _, rfl, rfl, ?_⟩ | refine inQ_enc okN ⟨_, _, rfl, rfl, ?_⟩ | refine inQ_enc okI ⟨_, _, rfl, rfl, ?_⟩))
local macro_rules | `(tactic| walk_at "notin") => `(tactic| (show inQ _ _ _ _ _; first | refine notQ_nat ⟨_, _, rfl, rfl, ?_⟩ | refine notQ_int ⟨_, _, rfl, rfl, ?_⟩ | refine notQ_enc okN ⟨_, _, rfl, rfl, ?_⟩ | refine notQ_enc okI ⟨_, _, rfl, rfl, ?_⟩))
section
variable {P : Program} {w : World} {K : PySem.W.Frag} {mg : Str → Option Value} {base : Heap}
--BEGIN
abbrev N_rows_in : List Str := ["text"]
theorem sc_rows_in : FnScope N_rows_in ["text"] (defScope s_rows_in) := ⟨rfl, rfl, rfl, by decide +kernel, rfl, by decide +kernel, by decide +kernel⟩
def a_rows_in : ASp := fun as R => ∃ a : List Nat, as = [.dat (eX a)] ∧ a.length ≤ 1000000 ∧ R (.frs ((splC 10 a).map eX)) as
theorem ok_rows_in {f : Addr} {fd : FuncData} (F : Fun K "rows_in" "rows_in" s_rows_in f fd) (B : Blt mg) (g_FEED : ∃ u, mg "FEED" = some u ∧ Sca (.str "\n") u) : FnG P w K mg base CX0 1 f fd ["text"] (toSp K a_rows_in) := by
  refine fnA F sc_rows_in (by decide) B (fun as R h => ?_) fun cdv A outer s H E C as R h => ?_
  · obtain ⟨_, rfl, _⟩ := h; rfl
  obtain ⟨a, rfl, hl, h⟩ := h
  refine SW.cons ?_
  apply S1.iteP
  · refine TW.not ?_
    refine TW.val ?_
    refine EW.isi C kit_str C.blt.str rfl ?_
    first | refine EW.nameD (i := 0) rfl ?_ | refine EW.nameO (i := 0) rfl ?_ -- text
    refine ⟨_, rfl, ?_⟩
    exact ⟨rfl, rfl⟩
  · intro h1
    exact absurd h1 (by walk_at "sd")
  intro h1
  refine SW.nil ?_
  refine SW.cons ?_
  refine S1.ret ?_
  refine EW.splitS ?_
  first | refine EW.nameD (i := 0) rfl ?_ | refine EW.nameO (i := 0) rfl ?_ -- text
  refine ⟨_, rfl, by walk_at "sd", ?_⟩
  refine EW.globX [10] (by decide) rfl g_FEED ?_
  refine ⟨_, (by decide), rfl, ?_⟩
  exact h
--END
end
end VM



/-! rows_in -/
namespace VM
variable [AW.HasT]
open PySem PySem.Spec PyProof.Rows L2 AW
local macro_rules | `(tactic| walk_at "sd") => `(tactic| first | omega | assumption | exact pin_nH rfl (by assumption) | rfl | trivial | (show (0 : Int) < _; omega) | (have sl0 := sizeLine_eq; omega) | (simp only [List.length_map, List.length_append, List.length_cons, List.length_nil, List.length_range, List.length_zipIdx, List.length_zip]; omega) | exact allN_small (by omega) | exact allN_lt (by assumption) | exact fun i hi => Nat.lt_of_lt_of_le (allN_lt (by assumption) i hi) (by omega) | exact allN_glen (by assumption) (by omega) | (simp; done) | (have sl0 := sizeLine_eq; simp; omega) | decide)
local macro_rules | `(tactic| walk_at "mul") => `(tactic| first | exact CMulA.l (by omega) (by omega) | exact CMulA.r (by omega) (by omega) | exact CMulA.l (by decide) (by decide) | exact CMulA.r (by decide) (by decide))
local macro_rules | `(tactic| walk_at "div") => `(tactic| first | exact CDivA.small (by omega) (by omega))
local macro_rules | `(tactic| walk_at "pow") => `(tactic| first | exact powOk 8 (by omega) (by omega) (by omega) (by omega))
local macro_rules | `(tactic| walk_at "slc") => `(tactic| (show sliceR _ _ _ _ _; first | refine slT_drop 1 ⟨_, _, rfl, rfl, ?_⟩ | refine slT_dropLast ⟨_, _, rfl, ?_⟩ | refine slT_take ⟨_, _, _, rfl, rfl, ?_⟩ | refine slT_dropV ⟨_, _, _, rfl, rfl, ?_⟩ | refine slL_drop 1 ⟨_, _, rfl, rfl, ?_⟩ | refine slL_dropLast ⟨_, _, rfl, ?_⟩ | refine slL_take ⟨_, _, _, rfl, rfl, ?_⟩ | refine slL_dropV ⟨_, _, _, rfl, rfl, ?_⟩))
local macro_rules | `(tactic| walk_at "eq") => `(tactic| (show eqT _ _ _ _; first | refine eqT_int ?_ | refine eqT_bool ?_ | refine eqT_str ?_ | refine eqT_enc okI ⟨_, _, rfl, rfl, ?_⟩ | refine eqT_enc okN ⟨_, _, rfl, rfl, ?_⟩ | refine eqT_enc okTN ⟨_, _, rfl, rfl, ?_⟩ | refine eqT_enc okLN ⟨_, _, rfl, rfl, ?_⟩ | refine eqT_nilT EncOk.int ⟨_, rfl, rfl, ?_⟩ | refine eqT_nilL EncOk.int ⟨_, rfl, rfl, ?_⟩ | refine eqT_nilT okN ⟨_, rfl, rfl, ?_⟩ | refine eqT_nilL okN ⟨_, rfl, rfl, ?_⟩ | refine eqT_nilT okI ⟨_, rfl, rfl, ?_⟩ | refine eqT_nilL okI ⟨_, rfl, rfl, ?_⟩))
local macro_rules | `(tactic| walk_at "ne") => `(tactic| (show neT _ _ _ _; first | refine neT_int ?_ | refine neT_bool ?_ | refine neT_str ?_ | refine neT_enc okI ⟨_, _, rfl, rfl, ?_⟩ | refine neT_enc okN ⟨_, _, rfl, rfl, ?_⟩ | refine neT_enc okTN ⟨_, _, rfl, rfl, ?_⟩ | refine neT_enc okLN ⟨_, _, rfl, rfl, ?_⟩ | refine neT_nilT EncOk.int ⟨_, rfl, rfl, ?_⟩ | refine neT_nilL EncOk.int ⟨_, rfl, rfl, ?_⟩ | refine neT_nilT okN ⟨_, rfl, rfl, ?_⟩ | refine neT_nilL okN ⟨_, rfl, rfl, ?_⟩ | refine neT_nilT okI ⟨_, rfl, rfl, ?_⟩ | refine neT_nilL okI ⟨_, rfl, rfl, ?_⟩))
local macro_rules | `(tactic| walk_at "in") => `(tactic| (show inQ _ _ _ _ _; first | refine inQ_nat ⟨_, _, rfl, rfl, ?_⟩ | refine inQ_int ⟨_, _, rfl, rfl, ?_⟩ | refine inQ_enc okN ⟨_, _, rfl, rfl, ?_⟩ | refine inQ_enc okI ⟨_, _, rfl, rfl, ?_⟩))
local macro_rules | `(tactic| walk_at "notin") => `(tactic| (show inQ _ _ _ _ _; first | refine notQ_nat ⟨_, _, rfl, rfl, ?_⟩ | refine notQ_int ⟨_, _, rfl, rfl, ?_⟩ | refine notQ_enc okN ⟨_, _, rfl, rfl, ?_⟩ | refine notQ_enc okI ⟨_, _, rfl, rfl, ?_⟩))
section
variable {P : Program} {w : World} {K : PySem.W.Frag} {mg : Str → Option Value} {base : Heap}
--BEGIN
theorem ifT_yes {c : Bool} {A B : Prop} (h : c = true) (a : A) : if c = true then A else B := by
  rw [h]
  exact a
theorem ifT_no {c : Bool} {A B : Prop} (h : c = false) (b : B) : if c = true then A else B := by
  rw [h]
  exact b
def x_rows_in : ASx := fun as R Er => ∃ d : PyData, as = [.dat d] ∧ isStrD d = false ∧ Er "BadText" "row" (.int 0) as
theorem okx_rows_in {f : Addr} {fd : FuncData} (F : Fun K "rows_in" "rows_in" s_rows_in f fd) (B : Blt mg) (e_BadText : ∃ C, ErrC P w K mg base "BadText" "row" C) : FnG P w K mg base (L2.CX P w) 3 f fd ["text"] (toSx K mg x_rows_in) := by
  refine fnAx F sc_rows_in (by decide) B (fun as R Er h => ?_) fun cdv A outer s H E C as R Er h => ?_
  · obtain ⟨_, rfl, _⟩ := h; rfl
  obtain ⟨d, rfl, hd, h⟩ := h
  obtain ⟨_, e_BadText⟩ := e_BadText
  refine SWx.ite ?_
  refine TW.not ?_
  refine TW.val ?_
  refine EW.isi C kit_str C.blt.str rfl ?_
  refine EW.nameD (i := 0) rfl ?_
  refine ⟨_, rfl, ?_⟩
  refine ifT_yes (by rw [hd] <;> rfl) ?_
  refine SWx.raise e_BadText C (by decide) rfl ?_
  refine EW.int ?_
  exact ⟨_, rfl, h⟩
--END
end
end VM

/-! number_in -/
namespace VM
variable [AW.HasT]
open PySem PySem.Spec PyProof.Rows L2 AW
local macro_rules | `(tactic| walk_at "sd") => `(tactic| first | omega | assumption | exact pin_nH rfl (by assumption) | rfl | trivial | (show (0 : Int) < _; omega) | (have sl0 := sizeLine_eq; omega) | (simp only [List.length_map, List.length_append, List.length_cons, List.length_nil, List.length_range, List.length_zipIdx, List.length_zip]; omega) | exact allN_small (by omega) | exact allN_lt (by assumption) | exact fun i hi => Nat.lt_of_lt_of_le (allN_lt (by assumption) i hi) (by omega) | exact allN_glen (by assumption) (by omega) | (simp; done) | (have sl0 := sizeLine_eq; simp; omega) | decide)
local macro_rules | `(tactic| walk_at "mul") => `(tactic| first | exact CMulA.l (by omega) (by omega) | exact CMulA.r (by omega) (by omega) | exact CMulA.l (by decide) (by decide) | exact CMulA.r (by decide) (by decide))
local macro_rules | `(tactic| walk_at "div") => `(tactic| first | exact CDivA.small (by omega) (by omega))
local macro_rules | `(tactic| walk_at "pow") => `(tactic| first | exact powOk 8 (by omega) (by omega) (by omega) (by omega))
local macro_rules | `(tactic| walk_at "slc") => `(tactic| (show sliceR _ _ _ _ _; first | refine slT_drop 1 ⟨_, _, rfl, rfl, ?_⟩ | refine slT_dropLast ⟨_, _, rfl, ?_⟩ | refine slT_take ⟨_, _, _, rfl, rfl, ?_⟩ | refine slT_dropV ⟨_, _, _, rfl, rfl, ?_⟩ | refine slL_drop 1 ⟨_, _, rfl, rfl, ?_⟩ | refine slL_dropLast ⟨_, _, rfl, ?_⟩ | refine slL_take ⟨_, _, _, rfl, rfl, ?_⟩ | refine slL_dropV ⟨_, _, _, rfl, rfl, ?_⟩))
local macro_rules | `(tactic| walk_at "eq") => `(tactic| (show eqT _ _ _ _; first | refine eqT_int ?_ | refine eqT_bool ?_ | refine eqT_str ?_ | refine eqT_enc okI ⟨_, _, rfl, rfl, ?_⟩ | refine eqT_enc okN ⟨_, _, rfl, rfl, ?_⟩ | refine eqT_enc okTN ⟨_, _, rfl, rfl, ?_⟩ | refine eqT_enc okLN ⟨_, _, rfl, rfl, ?_⟩ | refine eqT_nilT EncOk.int ⟨_, rfl, rfl, ?_⟩ | refine eqT_nilL EncOk.int ⟨_, rfl, rfl, ?_⟩ | refine eqT_nilT okN ⟨_, rfl, rfl, ?_⟩ | refine eqT_nilL okN ⟨_, rfl, rfl, ?_⟩ | refine eqT_nilT okI ⟨_, rfl, rfl, ?_⟩ | refine eqT_nilL okI ⟨_, rfl, rfl, ?_⟩))
local macro_rules | `(tactic| walk_at "ne") => `(tactic| (show neT _ _ _ _; first | refine neT_int ?_ | refine neT_bool ?_ | refine neT_str ?_ | refine neT_enc okI ⟨_, _, rfl, rfl, ?_⟩ | refine neT_enc okN ⟨_, _, rfl, rfl, ?_⟩ | refine neT_enc okTN ⟨_, _, rfl, rfl, ?_⟩ | refine neT_enc okLN ⟨_, _, rfl, rfl, ?_⟩ | refine neT_nilT EncOk.int ⟨_, rfl, rfl, ?_⟩ | refine neT_nilL EncOk.int ⟨_, rfl, rfl, ?_⟩ | refine neT_nilT okN ⟨_, rfl, rfl, ?_⟩ | refine neT_nilL okN ⟨_, rfl, rfl, ?_⟩ | refine neT_nilT okI ⟨_, rfl, rfl, ?_⟩ | refine neT_nilL okI ⟨_, rfl, rfl, ?_⟩))
local macro_rules | `(tactic| walk_at "in") => `(tactic| (show inQ _ _ _ _ _; first | refine inQ_nat ⟨_, _, rfl, rfl, ?_⟩ | refine inQ_int ⟨_, _, rfl, rfl, ?_⟩ | refine inQ_enc okN ⟨_, _, rfl, rfl, ?_⟩ | refine inQ_enc okI ⟨_, _, rfl, rfl, ?_⟩))
local macro_rules | `(tactic| walk_at "notin") => `(tactic| (show inQ _ _ _ _ _; first | refine notQ_nat ⟨_, _, rfl, rfl, ?_⟩ | refine notQ_int ⟨_, _, rfl, rfl, ?_⟩ | refine notQ_enc okN ⟨_, _, rfl, rfl, ?_⟩ | refine notQ_enc okI ⟨_, _, rfl, rfl, ?_⟩))
section
variable {P : Program} {w : World} {K : PySem.W.Frag} {mg : Str → Option Value} {base : Heap}
--BEGIN
abbrev N_number_in : List Str := ["word", "digit"]
theorem sc_number_in : FnScope N_number_in ["word"] (defScope s_number_in) := ⟨rfl, rfl, rfl, by decide +kernel, rfl, by decide +kernel, by decide +kernel⟩
def a_number_in : ASp := fun as R => ∃ a : List Nat, as = [.dat (eX a)] ∧ a.length ≤ 1000000 ∧ R (.dat (eO (numW a))) as
theorem ok_number_in {f : Addr} {fd : FuncData} (F : Fun K "number_in" "number_in" s_number_in f fd) (B : Blt mg) (g_MOST_DIGITS : ∃ u, mg "MOST_DIGITS" = some u ∧ Sca (.int 40) u) (g_DIGITS : ∃ u, mg "DIGITS" = some u ∧ Sca (.str "0123456789") u) : FnG P w K mg base CX0 1 f fd ["word"] (toSp K a_number_in) := by
  refine fnA F sc_number_in (by decide) B (fun as R h => ?_) fun cdv A outer s H E C as R h => ?_
  · obtain ⟨_, rfl, _⟩ := h; rfl
  obtain ⟨a, rfl, hl, h⟩ := h
  refine SW.cons ?_
  apply S1.iteP
  · refine TWw.tw ?_
    apply TWw.orP
    · refine TW.not ?_
      apply TW.chainP (opA_intB op_le) (opA_intB op_le)
      · refine EW.int ?_
        refine EW.len C ?_
        first | refine EW.nameD (i := 0) rfl ?_ | refine EW.nameO (i := 0) rfl ?_ -- word
        refine lenS ⟨_, rfl, by walk_at "sd", ?_⟩
        refine ⟨rfl, rfl, fun hc => ?_⟩
        refine EW.glob rfl g_MOST_DIGITS ?_
        exact ⟨rfl, rfl⟩
      case m1 => exact mono_intB
      case m2 => exact mono_intB
      exact ⟨rfl, rfl⟩
    · intro hb1
      refine TWw.or1 ?_
      refine TW.not ?_
      refine TW.val ?_
      refine EW.all C ?_
      refine EW.lcM (own := [("digit", 1)]) (is := [1]) C ?_ (blkOk_by (N := N_number_in) (sc := defScope s_number_in) (by decide +kernel)) (by decide)
      refine IW.strS ?_
      first | refine EW.nameD (i := 0) rfl ?_ | refine EW.nameO (i := 0) rfl ?_ -- word
      refine ⟨_, rfl, ?_⟩
      apply lcM_intro rfl
      · walk_at "sd"
      · rfl
      · intro y hy s0 H0 C0 cl fp
        refine GW.name C.nd (i := 1) ⟨by walk_at "sd", ?_⟩
        intro s0 H0 C0 cl fp
        refine EW.cmp (opI (C.blk ..)) ?_ rfl
        first | refine EW.nameD (i := 1) rfl ?_ | refine EW.nameO (i := 1) rfl ?_ -- digit
        refine EW.globX [48, 49, 50, 51, 52, 53, 54, 55, 56, 57] (by decide) rfl g_DIGITS ?_
        refine inQ_sign ⟨_, digs, rfl, rfl, ?_⟩
        exact ⟨_, rfl, rfl, rfl⟩
      first | refine allR_map ⟨_, _, _, rfl, ?_⟩ | refine ⟨_, rfl, ?_⟩
      exact ⟨rfl, rfl⟩
    exact ⟨rfl, rfl⟩
  · intro h1
    refine SW.cons ?_
    refine S1.ret ?_
    refine EW.nonE ?_
    rw [num_noI h1] at h
    exact h
  intro h1
  refine SW.nil ?_
  show SW _ _ _ _
  obtain ⟨l1, l2, hd, he⟩ := num_yesI h1
  show SW _ _ [.dat (eX a), .un] _
  refine SW.cons ?_
  refine S1.ret ?_
  apply EW.ifD
  · refine TWw.tw ?_
    apply TWw.andP
    · refine TW.cmp (opE C) ?_ (nomark _)
      refine EW.ix ?_
      first | refine EW.nameD (i := 0) rfl ?_ | refine EW.nameO (i := 0) rfl ?_ -- word
      refine EW.int ?_
      refine ixS ⟨_, (0 : Nat), rfl, rfl, by omega, by walk_at "sd", ?_⟩
      refine EW.strX [48] (by decide) ?_
      refine eqX ⟨_, _, rfl, rfl, ?_⟩
      exact ⟨rfl, rfl⟩
    · intro hb1
      refine TWw.and1 ?_
      refine TW.cmp (opN C) ?_ (nomark _)
      first | refine EW.nameD (i := 0) rfl ?_ | refine EW.nameO (i := 0) rfl ?_ -- word
      refine EW.strX [48] (by decide) ?_
      refine neX ⟨_, _, rfl, rfl, ?_⟩
      exact ⟨rfl, rfl⟩
    exact ⟨rfl, rfl⟩
  · intro hi
    --
    refine EW.nonE ?_
    exact ⟨rfl, rfl⟩
  · intro hi
    --
    refine EW.intS C ?_
    first | refine EW.nameD (i := 0) rfl ?_ | refine EW.nameO (i := 0) rfl ?_ -- word
    refine ⟨_, rfl, digs_fig hd, by intro z; subst z; simp at l1, by omega, ?_⟩
    exact ⟨rfl, rfl⟩
  rw [he (decide ([a.getD 0 0] = [48]) && decide (¬ a = [48])) (by simp)] at h
  exact h
--END
end
end VM

/-! numbers_in -/
namespace VM
variable [AW.HasT]
open PySem PySem.Spec PyProof.Rows L2 AW
local macro_rules | `(tactic| walk_at "sd") => `(tactic| first | omega | assumption | exact pin_nH rfl (by assumption) | rfl | trivial | (show (0 : Int) < _; omega) | (have sl0 := sizeLine_eq; omega) | (simp only [List.length_map, List.length_append, List.length_cons, List.length_nil, List.length_range, List.length_zipIdx, List.length_zip]; omega) | exact allN_small (by omega) | exact allN_lt (by assumption) | exact fun i hi => Nat.lt_of_lt_of_le (allN_lt (by assumption) i hi) (by omega) | exact allN_glen (by assumption) (by omega) | (simp; done) | (have sl0 := sizeLine_eq; simp; omega) | decide)
local macro_rules | `(tactic| walk_at "mul") => `(tactic| first | exact CMulA.l (by omega) (by omega) | exact CMulA.r (by omega) (by omega) | exact CMulA.l (by decide) (by decide) | exact CMulA.r (by decide) (by decide))
local macro_rules | `(tactic| walk_at "div") => `(tactic| first | exact CDivA.small (by omega) (by omega))
local macro_rules | `(tactic| walk_at "pow") => `(tactic| first | exact powOk 8 (by omega) (by omega) (by omega) (by omega))
local macro_rules | `(tactic| walk_at "slc") => `(tactic| (show sliceR _ _ _ _ _; first | refine slT_drop 1 ⟨_, _, rfl, rfl, ?_⟩ | refine slT_dropLast ⟨_, _, rfl, ?_⟩ | refine slT_take ⟨_, _, _, rfl, rfl, ?_⟩ | refine slT_dropV ⟨_, _, _, rfl, rfl, ?_⟩ | refine slL_drop 1 ⟨_, _, rfl, rfl, ?_⟩ | refine slL_dropLast ⟨_, _, rfl, ?_⟩ | refine slL_take ⟨_, _, _, rfl, rfl, ?_⟩ | refine slL_dropV ⟨_, _, _, rfl, rfl, ?_⟩))
local macro_rules | `(tactic| walk_at "eq") => `(tactic| (show eqT _ _ _ _; first | refine eqT_int ?_ | refine eqT_bool ?_ | refine eqT_str ?_ | refine eqT_enc okI ⟨_, _, rfl, rfl, ?_⟩ | refine eqT_enc okN ⟨_, _, rfl, rfl, ?_⟩ | refine eqT_enc okTN ⟨_, _, rfl, rfl, ?_⟩ | refine eqT_enc okLN ⟨_, _, rfl, rfl, ?_⟩ | refine eqT_nilT EncOk.int ⟨_, rfl, rfl, ?_⟩ | refine eqT_nilL EncOk.int ⟨_, rfl, rfl, ?_⟩ | refine eqT_nilT okN ⟨_, rfl, rfl, ?_⟩ | refine eqT_nilL okN ⟨_, rfl, rfl, ?_⟩ | refine eqT_nilT okI ⟨_, rfl, rfl, ?_⟩ | refine eqT_nilL okI ⟨_, rfl, rfl, ?_⟩))
local macro_rules | `(tactic| walk_at "ne") => `(tactic| (show neT _ _ _ _; first | refine neT_int ?_ | refine neT_bool ?_ | refine neT_str ?_ | refine neT_enc okI ⟨_, _, rfl, rfl, ?_⟩ | refine neT_enc okN ⟨_, _, rfl, rfl, ?_⟩ | refine neT_enc okTN ⟨_, _, rfl, rfl, ?_⟩ | refine neT_enc okLN ⟨_, _, rfl, rfl, ?_⟩ | refine neT_nilT EncOk.int ⟨_, rfl, rfl, ?_⟩ | refine neT_nilL EncOk.int ⟨_, rfl, rfl, ?_⟩ | refine neT_nilT okN ⟨_, rfl, rfl, ?_⟩ | refine neT_nilL okN ⟨_, rfl, rfl, ?_⟩ | refine neT_nilT okI ⟨_, rfl, rfl, ?_⟩ | refine neT_nilL okI ⟨_, rfl, rfl, ?_⟩))
local macro_rules | `(tactic| walk_at "in") => `(tactic| (show inQ _ _ _ _ _; first | refine inQ_nat ⟨_, _, rfl, rfl, ?_⟩ | refine inQ_int ⟨_, _, rfl, rfl, ?_⟩ | refine inQ_enc okN ⟨_, _, rfl, rfl, ?_⟩ | refine inQ_enc okI ⟨_, _, rfl, rfl, ?_⟩))
local macro_rules | `(tactic| walk_at "notin") => `(tactic| (show inQ _ _ _ _ _; first | refine notQ_nat ⟨_, _, rfl, rfl, ?_⟩ | refine notQ_int ⟨_, _, rfl, rfl, ?_⟩ | refine notQ_enc okN ⟨_, _, rfl, rfl, ?_⟩ | refine notQ_enc okI ⟨_, _, rfl, rfl, ?_⟩))
section
variable {P : Program} {w : World} {K : PySem.W.Frag} {mg : Str → Option Value} {base : Heap}
--BEGIN
abbrev N_numbers_in : List Str := ["words", "found", "word"]
theorem sc_numbers_in : FnScope N_numbers_in ["words"] (defScope s_numbers_in) := ⟨rfl, rfl, rfl, by decide +kernel, rfl, by decide +kernel, by decide +kernel⟩
def a_numbers_in : ASp := fun as R => ∃ ws : List (List Nat), as = [.dat (.list (ws.map eX))] ∧ ws.length ≤ 100000 ∧ (∀ w ∈ ws, w.length ≤ 1000000) ∧ R (.dat (numsD (numsW ws))) as
theorem ok_numbers_in {f : Addr} {fd : FuncData} (F : Fun K "numbers_in" "numbers_in" s_numbers_in f fd) (B : Blt mg) (c_number_in : Cal P w K mg base 1 "number_in" a_number_in) : FnG P w K mg base CX0 2 f fd ["words"] (toSp K a_numbers_in) := by
  refine fnA F sc_numbers_in (by decide) B (fun as R h => ?_) fun cdv A outer s H E C as R h => ?_
  · obtain ⟨_, rfl, _⟩ := h; rfl
  obtain ⟨ws, rfl, hl, hw, h⟩ := h
  try refine SW.demote (i := 2) rfl ?_
  refine SW.cons ?_
  refine S1.asg (i := 1) C ?_ -- found =
  refine EW.tupC C ?_
  refine EW.lcM (own := [("word", 2)]) (is := [2]) C ?_ (blkOk_by (N := N_numbers_in) (sc := defScope s_numbers_in) (by decide +kernel)) (by decide)
  refine IW.list ?_
  first | refine EW.nameD (i := 0) rfl ?_ | refine EW.nameO (i := 0) rfl ?_ -- words
  refine ⟨_, rfl, ?_⟩
  apply lcM_intro rfl
  · walk_at "sd"
  · rfl
  · intro y hy s0 H0 C0 cl fp
    refine GW.name C.nd (i := 2) ⟨by walk_at "sd", ?_⟩
    intro s0 H0 C0 cl fp
    refine EW.call c_number_in (C.blk ..) rfl ?_
    refine EWgs.cons ?_
    first | refine EW.nameD (i := 2) rfl ?_ | refine EW.nameO (i := 2) rfl ?_ -- word
    refine ⟨_, rfl, ?_⟩
    refine EWgs.nil ?_
    refine ⟨List.nodup_nil, ?_⟩
    refine ⟨y, rfl, hw y hy, ?_⟩
    exact ⟨_, rfl, rfl, rfl⟩
  first | refine ⟨_, rfl, ?_⟩ | refine ⟨_, hs _, ?_⟩
  --
  refine ⟨by walk_at "sd", ?_⟩
  show SW _ _ [.dat (.list (ws.map eX)), .dat (.tuple (ws.map fun y => eO (numW y))), .un] _
  refine SW.cons ?_
  refine S1.ret ?_
  apply EW.ifD
  · refine TW.cmp (opJ C) ?_ rfl
    refine EW.nonE ?_
    first | refine EW.nameD (i := 1) rfl ?_ | refine EW.nameO (i := 1) rfl ?_ -- found
    refine notQ_enc okO ⟨none, ws.map numW, rfl, (by show some _ = some _; rw [List.map_map] <;> rfl), ?_⟩
    exact ⟨rfl, rfl⟩
  · intro hi
    --
    first | refine EW.nameD (i := 1) rfl ?_ | refine EW.nameO (i := 1) rfl ?_ -- found
    exact ⟨rfl, rfl⟩
  · intro hi
    --
    refine EW.nonE ?_
    exact ⟨rfl, rfl⟩
  show R (.dat (if _ = true then _ else _)) _
  rw [nums_decB ws _ (by simp)]
  exact h
--END
end
end VM

/-! is_integer, of any data -/
namespace VM
variable [AW.HasT]
open PySem PySem.Spec PyProof.Rows L2 AW
section
variable {P : Program} {w : World} {K : PySem.W.Frag} {mg : Str → Option Value} {base : Heap}
def natD : PyData → Bool
  | .int i => decide (i ≥ 0)
  | _ => false
abbrev N_is_integer : List Str := ["value"]
theorem sc_is_integer : FnScope N_is_integer ["value"] (defScope s_is_integer) := ⟨rfl, rfl, rfl, by decide +kernel, rfl, by decide +kernel, by decide +kernel⟩
def a_is_integer : ASp := fun as R => ∃ d : PyData, as = [.dat d] ∧ R (.dat (.bool (natD d))) as
theorem ok_is_integer {f : Addr} {fd : FuncData} (F : Fun K "is_integer" "is_integer" s_is_integer f fd) (B : Blt mg) : FnG P w K mg base CX0 1 f fd ["value"] (toSp K a_is_integer) := by
  refine fnA F sc_is_integer (by decide) B (fun as R h => ?_) fun cdv A outer s H E C as R h => ?_
  · obtain ⟨_, rfl, _⟩ := h; rfl
  obtain ⟨d, rfl, h⟩ := h
  refine SW.cons ?_
  refine S1.ret ?_
  refine EW.and ?_
  refine EW.isi C kit_int C.blt.int rfl ?_
  refine EW.nameD (i := 0) rfl ?_
  refine ⟨_, rfl, ?_⟩
  cases d with
  | int i =>
    refine EW.and ?_
    refine EW.not ?_
    refine EW.isi C kit_bool C.blt.bool rfl ?_
    refine EW.nameD (i := 0) rfl ?_
    refine ⟨_, rfl, ?_⟩
    refine EW.one ?_
    refine EW.cmp (opA_intB op_ge) ?_ (nomark _)
    refine EW.nameD (i := 0) rfl ?_
    refine EW.int ?_
    exact h
  | bool b =>
    refine EW.and ?_
    refine EW.not ?_
    refine EW.isi C kit_bool C.blt.bool rfl ?_
    refine EW.nameD (i := 0) rfl ?_
    exact ⟨_, rfl, h⟩
  | none => exact h
  | str x => exact h
  | list ds => exact h
  | tuple ds => exact h
  | dict es => exact h
end
end VM

/-! is_weights -/
namespace VM
variable [AW.HasT]
open PySem PySem.Spec PyProof.Rows L2 AW
local macro_rules | `(tactic| walk_at "sd") => `(tactic| first | omega | assumption | exact pin_nH rfl (by assumption) | rfl | trivial | (show (0 : Int) < _; omega) | (have sl0 := sizeLine_eq; omega) | (simp only [List.length_map, List.length_append, List.length_cons, List.length_nil, List.length_range, List.length_zipIdx, List.length_zip]; omega) | exact allN_small (by omega) | exact allN_lt (by assumption) | exact fun i hi => Nat.lt_of_lt_of_le (allN_lt (by assumption) i hi) (by omega) | exact allN_glen (by assumption) (by omega) | (simp; done) | (have sl0 := sizeLine_eq; simp; omega) | decide)
local macro_rules | `(tactic| walk_at "mul") => `(tactic| first | exact CMulA.l (by omega) (by omega) | exact CMulA.r (by omega) (by omega) | exact CMulA.l (by decide) (by decide) | exact CMulA.r (by decide) (by decide))
local macro_rules | `(tactic| walk_at "div") => `(tactic| first | exact CDivA.small (by omega) (by omega))
local macro_rules | `(tactic| walk_at "pow") => `(tactic| first | exact powOk 8 (by omega) (by omega) (by omega) (by omega))
local macro_rules | `(tactic| walk_at "slc") => `(tactic| (show sliceR _ _ _ _ _; first | refine slT_drop 1 ⟨_, _, rfl, rfl, ?_⟩ | refine slT_dropLast ⟨_, _, rfl, ?_⟩ | refine slT_take ⟨_, _, _, rfl, rfl, ?_⟩ | refine slT_dropV ⟨_, _, _, rfl, rfl, ?_⟩ | refine slL_drop 1 ⟨_, _, rfl, rfl, ?_⟩ | refine slL_dropLast ⟨_, _, rfl, ?_⟩ | refine slL_take ⟨_, _, _, rfl, rfl, ?_⟩ | refine slL_dropV ⟨_, _, _, rfl, rfl, ?_⟩))
local macro_rules | `(tactic| walk_at "eq") => `(tactic| (show eqT _ _ _ _; first | refine eqT_int ?_ | refine eqT_bool ?_ | refine eqT_str ?_ | refine eqT_enc okI ⟨_, _, rfl, rfl, ?_⟩ | refine eqT_enc okN ⟨_, _, rfl, rfl, ?_⟩ | refine eqT_enc okTN ⟨_, _, rfl, rfl, ?_⟩ | refine eqT_enc okLN ⟨_, _, rfl, rfl, ?_⟩ | refine eqT_nilT EncOk.int ⟨_, rfl, rfl, ?_⟩ | refine eqT_nilL EncOk.int ⟨_, rfl, rfl, ?_⟩ | refine eqT_nilT okN ⟨_, rfl, rfl, ?_⟩ | refine eqT_nilL okN ⟨_, rfl, rfl, ?_⟩ | refine eqT_nilT okI ⟨_, rfl, rfl, ?_⟩ | refine eqT_nilL okI ⟨_, rfl, rfl, ?_⟩))
local macro_rules | `(tactic| walk_at "ne") => `(tactic| (show neT _ _ _ _; first | refine neT_int ?_ | refine neT_bool ?_ | refine neT_str ?_ | refine neT_enc okI ⟨_, _, rfl, rfl, ?_⟩ | refine neT_enc okN ⟨_, _, rfl, rfl, ?_⟩ | refine neT_enc okTN ⟨_, _, rfl, rfl, ?_⟩ | refine neT_enc okLN ⟨_, _, rfl, rfl, ?_⟩ | refine neT_nilT EncOk.int ⟨_, rfl, rfl, ?_⟩ | refine neT_nilL EncOk.int ⟨_, rfl, rfl, ?_⟩ | refine neT_nilT okN ⟨_, rfl, rfl, ?_⟩ | refine neT_nilL okN ⟨_, rfl, rfl, ?_⟩ | refine neT_nilT okI ⟨_, rfl, rfl, ?_⟩ | refine neT_nilL okI ⟨_, rfl, rfl, ?_⟩))
local macro_rules | `(tactic| walk_at "in") => `(tactic| (show inQ _ _ _ _ _; first | refine inQ_nat ⟨_, _, rfl, rfl, ?_⟩ | refine inQ_int ⟨_, _, rfl, rfl, ?_⟩ | refine inQ_enc okN ⟨_, _, rfl, rfl, ?_⟩ | refine inQ_enc okI ⟨_, _, rfl, rfl, ?_⟩))
local macro_rules | `(tactic| walk_at "notin") => `(tactic| (show inQ _ _ _ _ _; first | refine notQ_nat ⟨_, _, rfl, rfl, ?_⟩ | refine notQ_int ⟨_, _, rfl, rfl, ?_⟩ | refine notQ_enc okN ⟨_, _, rfl, rfl, ?_⟩ | refine notQ_enc okI ⟨_, _, rfl, rfl, ?_⟩))
section
variable {P : Program} {w : World} {K : PySem.W.Frag} {mg : Str → Option Value} {base : Heap}
--BEGIN
theorem all_nat {ws : List Int} (h : ∀ w ∈ ws, 0 ≤ w) : (ws.all fun y => natD (PyData.int y)) = true := List.all_eq_true.mpr fun w hw => decide_eq_true (h w hw)
theorem any_posW : ∀ {l : List Int}, (∀ w ∈ l, 0 ≤ w) → 0 < l.sum → (l.any fun w => decide (w > 0)) = true
  | [], _, h => by simp at h
  | a :: l, hw, h => by
    rw [List.any_cons]
    by_cases c : a > 0
    · simp [c]
    · have := hw a List.mem_cons_self
      rw [List.sum_cons] at h
      rw [any_posW (fun w hx => hw w (List.mem_cons_of_mem _ hx)) (by omega), Bool.or_true]
abbrev N_is_weights : List Str := ["value", "weight"]
theorem sc_is_weights : FnScope N_is_weights ["value"] (defScope s_is_weights) := ⟨rfl, rfl, rfl, by decide +kernel, rfl, by decide +kernel, by decide +kernel⟩
def a_is_weights : ASp := fun as R => ∃ ws : List Int, as = [.dat (tupI ws)] ∧ 1 ≤ ws.length ∧ ws.length ≤ 12 ∧ (∀ w ∈ ws, 0 ≤ w) ∧ 0 < ws.sum ∧ R (.dat (.bool true)) as
theorem ok_is_weights {f : Addr} {fd : FuncData} (F : Fun K "is_weights" "is_weights" s_is_weights f fd) (B : Blt mg) (c_is_integer : Cal P w K mg base 1 "is_integer" a_is_integer) (g_MOST_REPLICAS : ∃ u, mg "MOST_REPLICAS" = some u ∧ Sca (.int 12) u) : FnG P w K mg base CX0 2 f fd ["value"] (toSp K a_is_weights) := by
  refine fnA F sc_is_weights (by decide) B (fun as R h => ?_) fun cdv A outer s H E C as R h => ?_
  · obtain ⟨_, rfl, _⟩ := h; rfl
  obtain ⟨ws, rfl, hn1, hn, hw, hs, h⟩ := h
  refine SW.cons ?_
  apply S1.iteP
  · refine TWw.tw ?_
    apply TWw.orP
    · refine TW.not ?_
      refine TW.val ?_
      refine EW.isi C kit_tuple C.blt.tuple rfl ?_
      first | refine EW.nameD (i := 0) rfl ?_ | refine EW.nameO (i := 0) rfl ?_ -- value
      refine ⟨_, rfl, ?_⟩
      exact ⟨rfl, rfl⟩
    · intro hb1
      refine TWw.or1 ?_
      refine TW.not ?_
      apply TW.chainP (opA_intB op_le) (opA_intB op_le)
      · refine EW.int ?_
        refine EW.len C ?_
        first | refine EW.nameD (i := 0) rfl ?_ | refine EW.nameO (i := 0) rfl ?_ -- value
        first | refine lenR_map ⟨_, _, _, rfl, ?_⟩ | refine ⟨_, rfl, ?_⟩
        refine ⟨rfl, rfl, fun hc => ?_⟩
        refine EW.glob rfl g_MOST_REPLICAS ?_
        exact ⟨rfl, rfl⟩
      case m1 => exact mono_intB
      case m2 => exact mono_intB
      exact ⟨rfl, rfl⟩
    exact ⟨rfl, rfl⟩
  · intro h1
    exact absurd h1 (by have e : isTupD (tupI ws) = true := rfl
                        have e1 : (1 : Int) ≤ ws.length := by omega
                        have e2 : (ws.length : Int) ≤ 12 := by omega
                        simp only [e, e1, e2]; decide)
  intro h1
  refine SW.nil ?_
  try refine SW.demote (i := 1) rfl ?_
  refine SW.cons ?_
  refine S1.ret ?_
  apply EW.andP
  · refine EW.all C ?_
    refine EW.lcM (own := [("weight", 1)]) (is := [1]) C ?_ (blkOk_by (N := N_is_weights) (sc := defScope s_is_weights) (by decide +kernel)) (by decide)
    refine IW.tup ?_
    first | refine EW.nameD (i := 0) rfl ?_ | refine EW.nameO (i := 0) rfl ?_ -- value
    refine ⟨_, rfl, ?_⟩
    apply lcM_intro rfl
    · walk_at "sd"
    · rfl
    · intro y hy s0 H0 C0 cl fp
      refine GW.name C.nd (i := 1) ⟨by walk_at "sd", ?_⟩
      intro s0 H0 C0 cl fp
      refine EW.call c_is_integer (C.blk ..) rfl ?_
      refine EWgs.cons ?_
      first | refine EW.nameD (i := 1) rfl ?_ | refine EW.nameO (i := 1) rfl ?_ -- weight
      refine ⟨_, rfl, ?_⟩
      refine EWgs.nil ?_
      refine ⟨List.nodup_nil, ?_⟩
      refine ⟨_, rfl, ?_⟩
      exact ⟨_, rfl, rfl, rfl⟩
    first | refine allR_map ⟨_, _, _, rfl, ?_⟩ | refine ⟨_, rfl, ?_⟩
    exact ⟨rfl, rfl⟩
  · intro hb1
    refine EW.one ?_
    refine EW.any C ?_
    refine EW.lcM (own := [("weight", 1)]) (is := [1]) C ?_ (blkOk_by (N := N_is_weights) (sc := defScope s_is_weights) (by decide +kernel)) (by decide)
    refine IW.tup ?_
    first | refine EW.nameD (i := 0) rfl ?_ | refine EW.nameO (i := 0) rfl ?_ -- value
    refine ⟨_, rfl, ?_⟩
    apply lcM_intro rfl
    · walk_at "sd"
    · rfl
    · intro y hy s0 H0 C0 cl fp
      refine GW.name C.nd (i := 1) ⟨by walk_at "sd", ?_⟩
      intro s0 H0 C0 cl fp
      refine EW.cmp (opA_intB op_gt) ?_ (nomark _)
      first | refine EW.nameD (i := 1) rfl ?_ | refine EW.nameO (i := 1) rfl ?_ -- weight
      refine EW.int ?_
      exact ⟨_, rfl, rfl, rfl⟩
    first | refine anyR_map ⟨_, _, _, rfl, ?_⟩ | refine ⟨_, rfl, ?_⟩
    exact ⟨rfl, rfl⟩
  replace h : ∀ b : Bool, b = true → R (.dat (.bool b)) [.dat (tupI ws)] := by rintro _ rfl; exact h
  exact h _ (by rw [all_nat hw, any_posW hw hs]; rfl)
--END
end
end VM

/-! is_weights, for any value -/
namespace VM
variable [AW.HasT]
open PySem PySem.Spec PyProof.Rows L2 AW
local macro_rules | `(tactic| walk_at "sd") => `(tactic| first | omega | assumption | exact pin_nH rfl (by assumption) | rfl | trivial | (show (0 : Int) < _; omega) | (have sl0 := sizeLine_eq; omega) | (simp only [List.length_map, List.length_append, List.length_cons, List.length_nil, List.length_range, List.length_zipIdx, List.length_zip]; omega) | exact allN_small (by omega) | exact allN_lt (by assumption) | exact fun i hi => Nat.lt_of_lt_of_le (allN_lt (by assumption) i hi) (by omega) | exact allN_glen (by assumption) (by omega) | (simp; done) | (have sl0 := sizeLine_eq; simp; omega) | decide)
local macro_rules | `(tactic| walk_at "mul") => `(tactic| first | exact CMulA.l (by omega) (by omega) | exact CMulA.r (by omega) (by omega) | exact CMulA.l (by decide) (by decide) | exact CMulA.r (by decide) (by decide))
local macro_rules | `(tactic| walk_at "div") => `(tactic| first | exact CDivA.small (by omega) (by omega))
local macro_rules | `(tactic| walk_at "pow") => `(tactic| first | exact powOk 8 (by omega) (by omega) (by omega) (by omega))
local macro_rules | `(tactic| walk_at "slc") => `(tactic| (show sliceR _ _ _ _ _; first | refine slT_drop 1 ⟨_, _, rfl, rfl, ?_⟩ | refine slT_dropLast ⟨_, _, rfl, ?_⟩ | refine slT_take ⟨_, _, _, rfl, rfl, ?_⟩ | refine slT_dropV ⟨_, _, _, rfl, rfl, ?_⟩ | refine slL_drop 1 ⟨_, _, rfl, rfl, ?_⟩ | refine slL_dropLast ⟨_, _, rfl, ?_⟩ | refine slL_take ⟨_, _, _, rfl, rfl, ?_⟩ | refine slL_dropV ⟨_, _, _, rfl, rfl, ?_⟩))
local macro_rules | `(tactic| walk_at "eq") => `(tactic| (show eqT _ _ _ _; first | refine eqT_int ?_ | refine eqT_bool ?_ | refine eqT_str ?_ | refine eqT_enc okI ⟨_, _, rfl, rfl, ?_⟩ | refine eqT_enc okN ⟨_, _, rfl, rfl, ?_⟩ | refine eqT_enc okTN ⟨_, _, rfl, rfl, ?_⟩ | refine eqT_enc okLN ⟨_, _, rfl, rfl, ?_⟩ | refine eqT_nilT EncOk.int ⟨_, rfl, rfl, ?_⟩ | refine eqT_nilL EncOk.int ⟨_, rfl, rfl, ?_⟩ | refine eqT_nilT okN ⟨_, rfl, rfl, ?_⟩ | refine eqT_nilL okN ⟨_, rfl, rfl, ?_⟩ | refine eqT_nilT okI ⟨_, rfl, rfl, ?_⟩ | refine eqT_nilL okI ⟨_, rfl, rfl, ?_⟩))
local macro_rules | `(tactic| walk_at "ne") => `(tactic| (show neT _ _ _ _; first | refine neT_int ?_ | refine neT_bool ?_ | refine neT_str ?_ | refine neT_enc okI ⟨_, _, rfl, rfl, ?_⟩ | refine neT_enc okN ⟨_, _, rfl, rfl, ?_⟩ | refine neT_enc okTN ⟨_, _, rfl, rfl, ?_⟩ | refine neT_enc okLN ⟨_, _, rfl, rfl, ?_⟩ | refine neT_nilT EncOk.int ⟨_, rfl, rfl, ?_⟩ | refine neT_nilL EncOk.int ⟨_, rfl, rfl, ?_⟩ | refine neT_nilT okN ⟨_, rfl, rfl, ?_⟩ | refine neT_nilL okN ⟨_, rfl, rfl, ?_⟩ | refine neT_nilT okI ⟨_, rfl, rfl, ?_⟩ | refine neT_nilL okI ⟨_, rfl, rfl, ?_⟩))
local macro_rules | `(tactic| walk_at "in") => `(tactic| (show inQ _ _ _ _ _; first | refine inQ_nat ⟨_, _, rfl, rfl, ?_⟩ | refine inQ_int ⟨_, _, rfl, rfl, ?_⟩ | refine inQ_enc okN ⟨_, _, rfl, rfl, ?_⟩ | refine inQ_enc okI ⟨_, _, rfl, rfl, ?_⟩))
local macro_rules | `(tactic| walk_at "notin") => `(tactic| (show inQ _ _ _ _ _; first | refine notQ_nat ⟨_, _, rfl, rfl, ?_⟩ | refine notQ_int ⟨_, _, rfl, rfl, ?_⟩ | refine notQ_enc okN ⟨_, _, rfl, rfl, ?_⟩ | refine notQ_enc okI ⟨_, _, rfl, rfl, ?_⟩))
section
variable {P : Program} {w : World} {K : PySem.W.Frag} {mg : Str → Option Value} {base : Heap}
--BEGIN
def posD : PyData → Bool
  | .int i => decide (i > 0)
  | _ => false
/-- whether anything is weights -/
def votesD : PyData → Bool
  | .tuple ds => decide (1 ≤ ds.length ∧ ds.length ≤ 12) && ds.all natD && ds.any posD
  | _ => false
theorem not_tup {d : PyData} (h : ¬ ∃ ds, d = .tuple ds) : isTupD d = false := by
  cases d with
  | tuple ds => exact absurd ⟨ds, rfl⟩ h
  | _ => rfl
theorem votes_no {d : PyData} (h : ¬ ∃ ds, d = .tuple ds) : votesD d = false := by
  cases d with
  | tuple ds => exact absurd ⟨ds, rfl⟩ h
  | _ => rfl
theorem nat_ints : ∀ {ds : List PyData}, ds.all natD = true → ∃ ws : List Int, ds = ws.map .int ∧ ∀ w ∈ ws, 0 ≤ w
  | [], _ => ⟨[], rfl, fun _ h => nomatch h⟩
  | d :: ds, h => by
    rw [List.all_cons, Bool.and_eq_true] at h
    obtain ⟨ws, rfl, hw⟩ := nat_ints h.2
    have h1 := h.1
    cases d with
    | int i =>
      refine ⟨i :: ws, rfl, fun w hx => ?_⟩
      rcases List.mem_cons.mp hx with rfl | hx
      · exact of_decide_eq_true (show decide (w ≥ 0) = true from h1)
      · exact hw w hx
    | _ => exact absurd h1 (by simp [natD])
theorem any_pos (ws : List Int) : (ws.map PyData.int).any posD = ws.any fun w => decide (w > 0) := by
  rw [List.any_map]
  rfl
theorem gd_len {n m : Nat} {ds : List PyData} (h : Gd n m (.tuple ds)) : ds.length ≤ n := by
  have b := h.bk
  simp only [PyData.bulk] at b
  have : ∀ l : List PyData, l.length ≤ PyData.bulkAll l := fun l => by
    induction l with
    | nil => simp
    | cons x l ih => simp only [List.length_cons, PyData.bulkAll]; omega
  exact Nat.le_trans (this ds) b
def a_is_weights__g : ASp := fun as R => ∃ d : PyData, as = [.dat d] ∧ Gd 50000 60 d ∧ R (.dat (.bool (votesD d))) as
theorem ok_is_weights__g {f : Addr} {fd : FuncData} (F : Fun K "is_weights" "is_weights" s_is_weights f fd) (B : Blt mg) (c_is_integer : Cal P w K mg base 1 "is_integer" a_is_integer) (g_MOST_REPLICAS : ∃ u, mg "MOST_REPLICAS" = some u ∧ Sca (.int 12) u) : FnG P w K mg base CX0 2 f fd ["value"] (toSp K a_is_weights__g) := by
  refine fnA F sc_is_weights (by decide) B (fun as R h => ?_) fun cdv A outer s H E C as R h => ?_
  · obtain ⟨_, rfl, _⟩ := h; rfl
  obtain ⟨d, rfl, hG, h⟩ := h
  by_cases hT : ∃ ds, d = .tuple ds
  · obtain ⟨ds, rfl⟩ := hT
    have hlen := gd_len hG
    refine SW.cons ?_
    apply S1.iteP
    · refine TWw.tw ?_
      apply TWw.orP
      · refine TW.not ?_
        refine TW.val ?_
        refine EW.isi C kit_tuple C.blt.tuple rfl ?_
        refine EW.nameD (i := 0) rfl ?_
        refine ⟨_, rfl, ?_⟩
        exact ⟨rfl, rfl⟩
      · intro hb1
        refine TWw.or1 ?_
        refine TW.not ?_
        apply TW.chainP (opA_intB op_le) (opA_intB op_le)
        · refine EW.int ?_
          refine EW.len C ?_
          refine EW.nameD (i := 0) rfl ?_
          refine ⟨_, rfl, ?_⟩
          refine ⟨rfl, rfl, fun hc => ?_⟩
          refine EW.glob rfl g_MOST_REPLICAS ?_
          exact ⟨rfl, rfl⟩
        case m1 => exact mono_intB
        case m2 => exact mono_intB
        exact ⟨rfl, rfl⟩
      exact ⟨rfl, rfl⟩
    · intro h1
      have e0 : isTupD (.tuple ds) = true := rfl
      have e : votesD (.tuple ds) = false := by
        have : ¬ (1 ≤ ds.length ∧ ds.length ≤ 12) := fun z => by
          have z1 : (1 : Int) ≤ ds.length := by omega
          have z2 : (ds.length : Int) ≤ 12 := by omega
          rw [e0] at h1
          simp only [z1, z2] at h1
          simp at h1
        show (decide (1 ≤ ds.length ∧ ds.length ≤ 12) && ds.all natD && ds.any posD) = false
        rw [decide_eq_false this]
        rfl
      rw [e] at h
      refine SW.cons ?_
      refine S1.ret ?_
      refine EW.bool ?_
      exact h
    intro h1
    have hd : 1 ≤ ds.length ∧ ds.length ≤ 12 := by
      have e0 : isTupD (.tuple ds) = true := rfl
      rw [e0] at h1
      simp at h1
      omega
    have e : votesD (.tuple ds) = (ds.all natD && ds.any posD) := by
      show (decide (1 ≤ ds.length ∧ ds.length ≤ 12) && ds.all natD && ds.any posD) = _
      rw [decide_eq_true hd]
      rfl
    rw [e] at h
    refine SW.nil ?_
    refine SW.cons ?_
    refine S1.ret ?_
    apply EW.andP (u := ds.all natD) (v := ds.any posD)
    · refine EW.all C ?_
      refine EW.lcM (own := [("weight", 1)]) (is := [1]) C ?_ (blkOk_by (N := N_is_weights) (sc := defScope s_is_weights) (by decide +kernel)) (by decide)
      refine IW.tup ?_
      refine EW.nameD (i := 0) rfl ?_
      refine ⟨_, rfl, ?_⟩
      apply lcM_intro (show ds = ds.map id by simp)
      · omega
      · rfl
      · intro y hy s0 H0 C0 cl fp
        refine GW.name C.nd (i := 1) ⟨by walk_at "sd", ?_⟩
        intro s0 H0 C0 cl fp
        refine EW.call c_is_integer (C.blk ..) rfl ?_
        refine EWgs.cons ?_
        refine EW.nameD (i := 1) rfl ?_
        refine ⟨_, rfl, ?_⟩
        refine EWgs.nil ?_
        refine ⟨List.nodup_nil, ?_⟩
        refine ⟨_, rfl, ?_⟩
        exact ⟨_, rfl, rfl, rfl⟩
      refine allR_map ⟨_, _, _, rfl, ?_⟩
      exact ⟨rfl, rfl⟩
    · intro hb1
      obtain ⟨ws, rfl, hw⟩ := nat_ints hb1
      rw [List.length_map] at hlen
      refine EW.one ?_
      refine EW.any C ?_
      refine EW.lcM (own := [("weight", 1)]) (is := [1]) C ?_ (blkOk_by (N := N_is_weights) (sc := defScope s_is_weights) (by decide +kernel)) (by decide)
      refine IW.tup ?_
      refine EW.nameD (i := 0) rfl ?_
      refine ⟨_, rfl, ?_⟩
      apply lcM_intro rfl
      · omega
      · rfl
      · intro y hy s0 H0 C0 cl fp
        refine GW.name C.nd (i := 1) ⟨by walk_at "sd", ?_⟩
        intro s0 H0 C0 cl fp
        refine EW.cmp (opA_intB op_gt) ?_ (nomark _)
        refine EW.nameD (i := 1) rfl ?_
        refine EW.int ?_
        exact ⟨_, rfl, rfl, rfl⟩
      refine anyR_map ⟨_, _, _, rfl, ?_⟩
      rw [any_pos]
      exact ⟨rfl, rfl⟩
    exact h
  · rw [votes_no hT] at h
    refine SW.cons ?_
    apply S1.iteP
    · refine TWw.tw ?_
      apply TWw.orP (v := false)
      · refine TW.not ?_
        refine TW.val ?_
        refine EW.isi C kit_tuple C.blt.tuple rfl ?_
        refine EW.nameD (i := 0) rfl ?_
        refine ⟨_, rfl, ?_⟩
        exact ⟨rfl, rfl⟩
      · intro hb1
        rw [not_tup hT] at hb1
        cases hb1
      exact ⟨rfl, rfl⟩
    · intro h1
      refine SW.cons ?_
      refine S1.ret ?_
      refine EW.bool ?_
      exact h
    intro h1
    rw [not_tup hT] at h1
    cases h1
--END
end
end VM

/-! read_way -/
namespace VM
variable [AW.HasT]
open PySem PySem.Spec PyProof.Rows L2 AW
local macro_rules | `(tactic| walk_at "sd") => `(tactic| first | omega | assumption | exact pin_nH rfl (by assumption) | rfl | trivial | (show (0 : Int) < _; omega) | (have sl0 := sizeLine_eq; omega) | (simp only [List.length_map, List.length_append, List.length_cons, List.length_nil, List.length_range, List.length_zipIdx, List.length_zip]; omega) | exact allN_small (by omega) | exact allN_lt (by assumption) | exact fun i hi => Nat.lt_of_lt_of_le (allN_lt (by assumption) i hi) (by omega) | exact allN_glen (by assumption) (by omega) | (simp; done) | (have sl0 := sizeLine_eq; simp; omega) | decide)
local macro_rules | `(tactic| walk_at "mul") => `(tactic| first | exact CMulA.l (by omega) (by omega) | exact CMulA.r (by omega) (by omega) | exact CMulA.l (by decide) (by decide) | exact CMulA.r (by decide) (by decide))
local macro_rules | `(tactic| walk_at "div") => `(tactic| first | exact CDivA.small (by omega) (by omega))
local macro_rules | `(tactic| walk_at "pow") => `(tactic| first | exact powOk 8 (by omega) (by omega) (by omega) (by omega))
local macro_rules | `(tactic| walk_at "slc") => `(tactic| (show sliceR _ _ _ _ _; first | refine slT_drop 1 ⟨_, _, rfl, rfl, ?_⟩ | refine slT_dropLast ⟨_, _, rfl, ?_⟩ | refine slT_take ⟨_, _, _, rfl, rfl, ?_⟩ | refine slT_dropV ⟨_, _, _, rfl, rfl, ?_⟩ | refine slL_drop 1 ⟨_, _, rfl, rfl, ?_⟩ | refine slL_dropLast ⟨_, _, rfl, ?_⟩ | refine slL_take ⟨_, _, _, rfl, rfl, ?_⟩ | refine slL_dropV ⟨_, _, _, rfl, rfl, ?_⟩))
local macro_rules | `(tactic| walk_at "eq") => `(tactic| (show eqT _ _ _ _; first | refine eqT_int ?_ | refine eqT_bool ?_ | refine eqT_str ?_ | refine eqT_enc okI ⟨_, _, rfl, rfl, ?_⟩ | refine eqT_enc okN ⟨_, _, rfl, rfl, ?_⟩ | refine eqT_enc okTN ⟨_, _, rfl, rfl, ?_⟩ | refine eqT_enc okLN ⟨_, _, rfl, rfl, ?_⟩ | refine eqT_nilT EncOk.int ⟨_, rfl, rfl, ?_⟩ | refine eqT_nilL EncOk.int ⟨_, rfl, rfl, ?_⟩ | refine eqT_nilT okN ⟨_, rfl, rfl, ?_⟩ | refine eqT_nilL okN ⟨_, rfl, rfl, ?_⟩ | refine eqT_nilT okI ⟨_, rfl, rfl, ?_⟩ | refine eqT_nilL okI ⟨_, rfl, rfl, ?_⟩))
local macro_rules | `(tactic| walk_at "ne") => `(tactic| (show neT _ _ _ _; first | refine neT_int ?_ | refine neT_bool ?_ | refine neT_str ?_ | refine neT_enc okI ⟨_, _, rfl, rfl, ?_⟩ | refine neT_enc okN ⟨_, _, rfl, rfl, ?_⟩ | refine neT_enc okTN ⟨_, _, rfl, rfl, ?_⟩ | refine neT_enc okLN ⟨_, _, rfl, rfl, ?_⟩ | refine neT_nilT EncOk.int ⟨_, rfl, rfl, ?_⟩ | refine neT_nilL EncOk.int ⟨_, rfl, rfl, ?_⟩ | refine neT_nilT okN ⟨_, rfl, rfl, ?_⟩ | refine neT_nilL okN ⟨_, rfl, rfl, ?_⟩ | refine neT_nilT okI ⟨_, rfl, rfl, ?_⟩ | refine neT_nilL okI ⟨_, rfl, rfl, ?_⟩))
local macro_rules | `(tactic| walk_at "in") => `(tactic| (show inQ _ _ _ _ _; first | refine inQ_nat ⟨_, _, rfl, rfl, ?_⟩ | refine inQ_int ⟨_, _, rfl, rfl, ?_⟩ | refine inQ_enc okN ⟨_, _, rfl, rfl, ?_⟩ | refine inQ_enc okI ⟨_, _, rfl, rfl, ?_⟩))
local macro_rules | `(tactic| walk_at "notin") => `(tactic| (show inQ _ _ _ _ _; first | refine notQ_nat ⟨_, _, rfl, rfl, ?_⟩ | refine notQ_int ⟨_, _, rfl, rfl, ?_⟩ | refine notQ_enc okN ⟨_, _, rfl, rfl, ?_⟩ | refine notQ_enc okI ⟨_, _, rfl, rfl, ?_⟩))
section
variable {P : Program} {w : World} {K : PySem.W.Frag} {mg : Str → Option Value} {base : Heap}
--BEGIN
theorem good_votes (x : Option (List Nat)) : votesD (numsD x) = goodW x := by
  cases x with
  | none => rfl
  | some l =>
    show (decide (1 ≤ (l.map intN).length ∧ (l.map intN).length ≤ 12) && (l.map intN).all natD && (l.map intN).any posD) = (decide (1 ≤ l.length ∧ l.length ≤ 12) && l.any fun n => decide (0 < n))
    have e1 : (l.map intN).all natD = true := by
      rw [List.all_eq_true]
      intro d hd
      obtain ⟨n, _, rfl⟩ := List.mem_map.mp hd
      show decide (((n : Nat) : Int) ≥ 0) = true
      exact decide_eq_true (by omega)
    have e2 : (l.map intN).any posD = l.any fun n => decide (0 < n) := by
      rw [List.any_map]
      congr 1
      funext n
      show decide (((n : Nat) : Int) > 0) = decide (0 < n)
      exact decide_eq_decide.mpr (by omega)
    rw [e1, e2, List.length_map, Bool.and_true]
theorem good_some {x : Option (List Nat)} (h : goodW x = true) : ∃ l, x = some l ∧ 1 ≤ l.length ∧ l.length ≤ 12 := by
  cases x with
  | none => cases h
  | some l =>
    have h2 : (decide (1 ≤ l.length ∧ l.length ≤ 12) && l.any fun n => decide (0 < n)) = true := h
    rw [Bool.and_eq_true] at h2
    exact ⟨l, rfl, of_decide_eq_true h2.1⟩
theorem nums_lt {ws : List (List Nat)} {l : List Nat} (h : numsW ws = some l) : l.length = ws.length ∧ ∀ n ∈ l, n < 10 ^ 40 := by
  unfold numsW at h
  split at h
  · cases h
  · rename_i hn
    cases h
    refine ⟨List.length_map _, fun n hm => ?_⟩
    obtain ⟨w, hw, rfl⟩ := List.mem_map.mp hm
    cases e : numW w with
    | none => exact absurd (List.mem_map.mpr ⟨w, hw, e⟩) hn
    | some m => exact num_lt e
theorem gd_tupN {l : List Nat} (h : ∀ n ∈ l, n < 10 ^ 40) : Gd l.length 1 (tupN l) := by
  have e : tupN l = .tuple ((l.map fun n : Nat => (n : Int)).map .int) := by
    unfold tupN
    rw [List.map_map] <;> rfl
  rw [e]
  have := Gd.tupI (ws := l.map fun n : Nat => (n : Int)) 40 (fun x hx => by
    obtain ⟨n, hn, rfl⟩ := List.mem_map.mp hx
    simpa using h n hn)
  rwa [List.length_map] at this
theorem gd_nums {ws : List (List Nat)} (h : ws.length ≤ 30000) : Gd 50000 60 (numsD (numsW ws)) := by
  cases e : numsW ws with
  | none => exact Gd.none.mono (by decide) (by decide)
  | some l =>
    obtain ⟨h1, h2⟩ := nums_lt e
    exact (gd_tupN h2).mono (by omega) (by decide)
theorem way_step {f : List (List Nat)} {r : List Nat} {rs : List (List Nat)} (h : badRow f (numsW (splC 32 r)) = false) : wayR (r :: rs) f = wayR rs (f ++ [(numsW (splC 32 r)).getD []]) := by
  rw [wayR, if_neg (by rw [h]; simp)]
theorem way_bad {f : List (List Nat)} {r : List Nat} {rs : List (List Nat)} (h : badRow f (numsW (splC 32 r)) = true) : wayR (r :: rs) f = .inl f.length := by
  rw [wayR, if_pos h]
theorem drop_at {α : Type} {l : List α} {i : Nat} {z : α} (h : l[i]? = some z) : l.drop i = z :: l.drop (i + 1) := by
  obtain ⟨hi, e⟩ := List.getElem?_eq_some_iff.mp h
  rw [List.drop_eq_getElem_cons hi, e]
theorem zip_at {α : Type} {l : List α} {pre post : List (α × Nat)} {z : α × Nat} (h : l.zipIdx = pre ++ z :: post) : l[pre.length]? = some z.1 ∧ z.2 = pre.length := by
  have e : l.zipIdx[pre.length]? = some z := by rw [h]; simp
  rw [List.getElem?_zipIdx] at e
  cases e2 : l[pre.length]? with
  | none => rw [e2] at e; cases e
  | some y =>
    rw [e2] at e
    simp only [Option.map_some, Option.some.injEq] at e
    subst e
    exact ⟨rfl, by simp⟩
/-- ahead of each row -/
def RdI (a : List Nat) (w : Nat ⊕ List (List Nat)) (n : Nat) (g : List (List Nat)) : Prop := g.length = n ∧ wayR ((splC 10 a).drop n) g = w ∧ n ≤ (splC 10 a).length
theorem RdI.zero {a : List Nat} {w : Nat ⊕ List (List Nat)} (h : wayR (splC 10 a) [] = w) : RdI a w 0 [] := ⟨rfl, h, Nat.zero_le _⟩
theorem RdI.step {a : List Nat} {w : Nat ⊕ List (List Nat)} {n : Nat} {g : List (List Nat)} {r : List Nat} {l : List Nat} (h : RdI a w n g) (hr : (splC 10 a)[n]? = some r) (hb : badRow g (numsW (splC 32 r)) = false) (hl : numsW (splC 32 r) = some l) : RdI a w (n + 1) (g ++ [l]) := by
  obtain ⟨h1, h2, h3⟩ := h
  rw [drop_at hr, way_step hb, hl] at h2
  have := (List.getElem?_eq_some_iff.mp hr).1
  exact ⟨by rw [List.length_append, h1] <;> rfl, h2, by omega⟩
theorem RdI.bad {a : List Nat} {w : Nat ⊕ List (List Nat)} {n : Nat} {g : List (List Nat)} {r : List Nat} (h : RdI a w n g) (hr : (splC 10 a)[n]? = some r) (hb : badRow g (numsW (splC 32 r)) = true) : w = .inl n := by
  obtain ⟨h1, h2, h3⟩ := h
  rw [drop_at hr, way_bad hb, h1] at h2
  exact h2.symm
theorem RdI.fin {a : List Nat} {w : Nat ⊕ List (List Nat)} {g : List (List Nat)} (h : RdI a w (splC 10 a).length g) : w = .inr g := by
  obtain ⟨_, h2, _⟩ := h
  rw [List.drop_of_length_le (Nat.le_refl _)] at h2
  exact h2.symm
theorem bad_bool {g : List (List Nat)} {x : Option (List Nat)} {t : Bool} (e : t = (!votesD (numsD x) || (decide (¬ g = []) && decide (¬ (x.getD []).length = (g.getD 0 []).length)))) : badRow g x = t := by
  rw [e, good_votes]
  rfl
theorem good_of {g : List (List Nat)} {x : Option (List Nat)} (h : badRow g x = false) : goodW x = true := by
  unfold badRow at h
  rw [Bool.or_eq_false_iff] at h
  simpa using h.1
abbrev N_read_way : List Str := ["text", "found", "at", "row", "weights"]
theorem sc_read_way : FnScope N_read_way ["text"] (defScope s_read_way) := ⟨rfl, rfl, rfl, by decide +kernel, rfl, by decide +kernel, by decide +kernel⟩
def a_read_way : ASp := fun as R => ∃ (a : List Nat) (f : List (List Nat)), as = [.dat (eX a)] ∧ a.length ≤ 20000 ∧ wayR (splC 10 a) [] = .inr f ∧ R (.dat (.tuple (f.map tupN))) as
theorem ok_read_way {f : Addr} {fd : FuncData} (F : Fun K "read_way" "read_way" s_read_way f fd) (B : Blt mg) (c_rows_in : Cal P w K mg base 1 "rows_in" a_rows_in) (c_numbers_in : Cal P w K mg base 2 "numbers_in" a_numbers_in) (c_is_weights__g : Cal P w K mg base 2 "is_weights" a_is_weights__g) (g_BLANK : ∃ u, mg "BLANK" = some u ∧ Sca (.str " ") u) : FnG P w K mg base CX0 3 f fd ["text"] (toSp K a_read_way) := by
  replace c_rows_in := c_rows_in.mono (show 1 ≤ 2 by decide)
  refine fnA F sc_read_way (by decide) B (fun as R h => ?_) fun cdv A outer s H E C as R h => ?_
  · obtain ⟨_, _, rfl, _⟩ := h; rfl
  obtain ⟨a, f, rfl, hl, hf, h⟩ := h
  refine SW.cons ?_
  refine S1.asg (i := 1) C ?_ -- found =
  refine EW.list ?_
  refine EWds.nil ?_
  refine ⟨(by decide : (0 : Nat) ≤ sizeLine), ?_⟩
  --
  refine ⟨by walk_at "sd", ?_⟩
  show SW _ _ [.dat (eX a), .hol false ([].map tupN), .un, .un, .un] _
  refine SW.cons ?_
  refine S1.forM (is := [2, 3]) C ?_ .leaving
  refine IW.enumL C ?_
  refine EW.call c_rows_in C rfl ?_
  refine EWgs.cons ?_
  first | refine EW.nameD (i := 0) rfl ?_ | refine EW.nameO (i := 0) rfl ?_ -- text
  refine ⟨_, rfl, ?_⟩
  refine EWgs.nil ?_
  refine ⟨List.nodup_nil, ?_⟩
  refine ⟨a, rfl, by omega, ?_⟩
  refine ⟨_, rfl, ?_⟩
  refine ⟨_, _, _, (enumD_map _ _), fun pre ρ => ∃ g s2 s3 s4, nH s2 = true ∧ nH s3 = true ∧ nH s4 = true ∧ RdI a (.inr f) pre.length g ∧ ρ = [.dat (eX a), .hol false (g.map tupN), s2, s3, s4], ⟨[], _, _, _, rfl, rfl, rfl, RdI.zero hf, rfl⟩, ?_, ?_⟩
  · rintro pre z post ρ hx ⟨g, s2, s3, s4, n2, n3, n4, hg, rfl⟩
    obtain ⟨hz1, hz2⟩ := zip_at hx
    have hzl := splC_len (List.mem_of_getElem? hz1)
    have hzs := splC_size 32 z.1
    have hrs := splC_size 10 a
    have hgl := hg.1
    have hgn := (List.getElem?_eq_some_iff.mp hz1).1
    refine GW.tup C ⟨_, rfl, rfl, ?_⟩
    refine GWs.cons (is := [2]) (js := [3]) ?_
    refine GW.name C.nd (i := 2) ⟨by walk_at "sd", ?_⟩
    refine GWs.cons (is := [3]) (js := []) ?_
    refine GW.name C.nd (i := 3) ⟨by walk_at "sd", ?_⟩
    refine GWs.nil ?_
    show SW _ _ [.dat (eX a), .hol false (g.map tupN), .dat (.int (z.2 : Nat)), .dat (eX z.1), s4] _
    refine SW.cons ?_
    refine S1.asg (i := 4) C ?_ -- weights =
    refine EW.call c_numbers_in C rfl ?_
    refine EWgs.cons ?_
    refine EW.splitS ?_
    first | refine EW.nameD (i := 3) rfl ?_ | refine EW.nameO (i := 3) rfl ?_ -- row
    refine ⟨_, rfl, by walk_at "sd", ?_⟩
    refine EW.globX [32] (by decide) rfl g_BLANK ?_
    refine ⟨_, (by decide), rfl, ?_⟩
    refine ⟨_, rfl, ?_⟩
    refine EWgs.nil ?_
    refine ⟨List.nodup_nil, ?_⟩
    refine ⟨splC 32 z.1, rfl, by omega, fun w hw => by have := splC_len hw; omega, ?_⟩
    --
    refine ⟨by walk_at "sd", ?_⟩
    try refine SW.demote (i := 4) rfl ?_
    show SW _ _ [.dat (eX a), .hol false (g.map tupN), .dat (.int (z.2 : Nat)), .dat (eX z.1), .dat (numsD (numsW (splC 32 z.1)))] _
    refine SW.cons ?_
    apply S1.iteP
    · refine TWw.tw ?_
      apply TWw.orP (v := (decide (¬ g = []) && decide (¬ ((numsW (splC 32 z.1)).getD []).length = (g.getD 0 []).length)))
      · refine TW.not ?_
        refine TW.val ?_
        refine EW.call c_is_weights__g C rfl ?_
        refine EWgs.cons ?_
        first | refine EW.nameD (i := 4) rfl ?_ | refine EW.nameO (i := 4) rfl ?_ -- weights
        refine ⟨_, rfl, ?_⟩
        refine EWgs.nil ?_
        refine ⟨List.nodup_nil, ?_⟩
        refine ⟨_, rfl, gd_nums (by omega), ?_⟩
        exact ⟨rfl, rfl⟩
      · intro hb1
        obtain ⟨l, hl2, l1, l12⟩ := good_some (x := numsW (splC 32 z.1)) (by rw [← good_votes]; simpa using hb1)
        rw [hl2]
        refine TWw.or1 ?_
        refine TWw.tw ?_
        apply TWw.andP (v := decide (¬ l.length = (g.getD 0 []).length))
        · refine TW.cmp (opN C) ?_ (nomark _)
          first | refine EW.nameD (i := 1) rfl ?_ | refine EW.nameO (i := 1) rfl ?_ -- found
          refine EW.list ?_
          refine EWds.nil ?_
          refine ⟨(by decide : (0 : Nat) ≤ sizeLine), ?_⟩
          refine neT_nilL okN ⟨g, rfl, rfl, ?_⟩
          exact ⟨rfl, rfl⟩
        · intro hb1
          have hgp : 0 < g.length := List.length_pos_iff.mpr (of_decide_eq_true hb1)
          refine TWw.and1 ?_
          refine TW.cmp (opN C) ?_ (nomark _)
          refine EW.len C ?_
          first | refine EW.nameD (i := 4) rfl ?_ | refine EW.nameO (i := 4) rfl ?_ -- weights
          first | refine lenR_map ⟨_, _, _, rfl, ?_⟩ | refine ⟨_, rfl, ?_⟩
          refine EW.len C ?_
          refine EW.ix ?_
          first | refine EW.nameD (i := 1) rfl ?_ | refine EW.nameO (i := 1) rfl ?_ -- found
          refine EW.int ?_
          first | refine ⟨_, _, rfl, rfl, ?_⟩ | refine ixR_nat (0 : Int) ⟨_, _, (0 : Nat), rfl, rfl, by walk_at "sd", ?_⟩ | refine ixR_nat (0 : Nat) ⟨_, _, (0 : Nat), rfl, rfl, by walk_at "sd", ?_⟩ | refine ixR_nat [] ⟨_, _, (0 : Nat), rfl, rfl, by walk_at "sd", ?_⟩ | refine ixR_nat ((0, 0) : Int × Int) ⟨_, _, (0 : Nat), rfl, rfl, by walk_at "sd", ?_⟩
          first | refine lenR_map ⟨_, _, _, rfl, ?_⟩ | refine ⟨_, rfl, ?_⟩
          refine neT_int ?_
          exact ⟨decide_eq_decide.mpr (by omega), rfl⟩
        exact ⟨rfl, rfl⟩
      exact ⟨rfl, rfl⟩
    · intro h1
      exact absurd (hg.bad hz1 ((bad_bool rfl).trans h1)) (by simp)
    intro h1
    refine SW.nil ?_
    show SW _ _ _ _
    have hb : badRow g (numsW (splC 32 z.1)) = false := (bad_bool rfl).trans h1
    obtain ⟨l, hl2, l1, l12⟩ := good_some (good_of hb)
    rw [hl2]
    show SW _ _ [.dat (eX a), .hol false (g.map tupN), .dat (.int (z.2 : Nat)), .dat (eX z.1), .dat (tupN l)] _
    refine SW.cons ?_
    refine S1.expr ?_
    refine EW.appendM ?_
    first | refine EW.nameD (i := 1) rfl ?_ | refine EW.nameO (i := 1) rfl ?_ -- found
    refine ⟨_, rfl, ?_⟩
    first | refine EW.nameD (i := 4) rfl ?_ | refine EW.nameO (i := 4) rfl ?_ -- weights
    refine ⟨_, rfl, ?_⟩
    refine ⟨_, _, g, tupN, _, rfl, rfl, by have := sizeLine_eq; omega, ?_⟩
    refine SW.nil ?_
    exact ⟨g ++ [l], _, _, _, rfl, rfl, rfl, by rw [List.length_append]; exact hg.step hz1 hb hl2, rfl⟩
  rintro ρ ⟨g, s2, s3, s4, n2, n3, n4, hg, rfl⟩
  refine SW.cons ?_
  refine S1.ret ?_
  refine EW.tupC C ?_
  first | refine EW.nameD (i := 1) rfl ?_ | refine EW.nameO (i := 1) rfl ?_ -- found
  first | refine ⟨_, rfl, ?_⟩ | refine ⟨_, hs _, ?_⟩
  rw [List.length_zipIdx] at hg
  cases hg.fin
  exact h
--END
end
end VM

/-! read_way -/
namespace VM
variable [AW.HasT]
open PySem PySem.Spec PyProof.Rows L2 AW
local macro_rules | `(tactic| walk_at "sd") => `(tactic| first | omega | assumption | exact pin_nH rfl (by assumption) | rfl | trivial | (show (0 : Int) < _; omega) | (have sl0 := sizeLine_eq; omega) | (simp only [List.length_map, List.length_append, List.length_cons, List.length_nil, List.length_range, List.length_zipIdx, List.length_zip]; omega) | exact allN_small (by omega) | exact allN_lt (by assumption) | exact fun i hi => Nat.lt_of_lt_of_le (allN_lt (by assumption) i hi) (by omega) | exact allN_glen (by assumption) (by omega) | (simp; done) | (have sl0 := sizeLine_eq; simp; omega) | decide)
local macro_rules | `(tactic| walk_at "mul") => `(tactic| first | exact CMulA.l (by omega) (by omega) | exact CMulA.r (by omega) (by omega) | exact CMulA.l (by decide) (by decide) | exact CMulA.r (by decide) (by decide))
local macro_rules | `(tactic| walk_at "div") => `(tactic| first | exact CDivA.small (by omega) (by omega))
local macro_rules | `(tactic| walk_at "pow") => `(tactic| first | exact powOk 8 (by omega) (by omega) (by omega) (by omega))
local macro_rules | `(tactic| walk_at "slc") => `(tactic| (show sliceR _ _ _ _ _; first | refine slT_drop 1 ⟨_, _, rfl, rfl, ?_⟩ | refine slT_dropLast ⟨_, _, rfl, ?_⟩ | refine slT_take ⟨_, _, _, rfl, rfl, ?_⟩ | refine slT_dropV ⟨_, _, _, rfl, rfl, ?_⟩ | refine slL_drop 1 ⟨_, _, rfl, rfl, ?_⟩ | refine slL_dropLast ⟨_, _, rfl, ?_⟩ | refine slL_take ⟨_, _, _, rfl, rfl, ?_⟩ | refine slL_dropV ⟨_, _, _, rfl, rfl, ?_⟩))
local macro_rules | `(tactic| walk_at "eq") => `(tactic| (show eqT _ _ _ _; first | refine eqT_int ?_ | refine eqT_bool ?_ | refine eqT_str ?_ | refine eqT_enc okI ⟨_, _, rfl, rfl, ?_⟩ | refine eqT_enc okN ⟨_, _, rfl, rfl, ?_⟩ | refine eqT_enc okTN ⟨_, _, rfl, rfl, ?_⟩ | refine eqT_enc okLN ⟨_, _, rfl, rfl, ?_⟩ | refine eqT_nilT EncOk.int ⟨_, rfl, rfl, ?_⟩ | refine eqT_nilL EncOk.int ⟨_, rfl, rfl, ?_⟩ | refine eqT_nilT okN ⟨_, rfl, rfl, ?_⟩ | refine eqT_nilL okN ⟨_, rfl, rfl, ?_⟩ | refine eqT_nilT okI ⟨_, rfl, rfl, ?_⟩ | refine eqT_nilL okI ⟨_, rfl, rfl, ?_⟩))
local macro_rules | `(tactic| walk_at "ne") => `(tactic| (show neT _ _ _ _; first | refine neT_int ?_ | refine neT_bool ?_ | refine neT_str ?_ | refine neT_enc okI ⟨_, _, rfl, rfl, ?_⟩ | refine neT_enc okN ⟨_, _, rfl, rfl, ?_⟩ | refine neT_enc okTN ⟨_, _, rfl, rfl, ?_⟩ | refine neT_enc okLN ⟨_, _, rfl, rfl, ?_⟩ | refine neT_nilT EncOk.int ⟨_, rfl, rfl, ?_⟩ | refine neT_nilL EncOk.int ⟨_, rfl, rfl, ?_⟩ | refine neT_nilT okN ⟨_, rfl, rfl, ?_⟩ | refine neT_nilL okN ⟨_, rfl, rfl, ?_⟩ | refine neT_nilT okI ⟨_, rfl, rfl, ?_⟩ | refine neT_nilL okI ⟨_, rfl, rfl, ?_⟩))
local macro_rules | `(tactic| walk_at "in") => `(tactic| (show inQ _ _ _ _ _; first | refine inQ_nat ⟨_, _, rfl, rfl, ?_⟩ | refine inQ_int ⟨_, _, rfl, rfl, ?_⟩ | refine inQ_enc okN ⟨_, _, rfl, rfl, ?_⟩ | refine inQ_enc okI ⟨_, _, rfl, rfl, ?_⟩))
local macro_rules | `(tactic| walk_at "notin") => `(tactic| (show inQ _ _ _ _ _; first | refine notQ_nat ⟨_, _, rfl, rfl, ?_⟩ | refine notQ_int ⟨_, _, rfl, rfl, ?_⟩ | refine notQ_enc okN ⟨_, _, rfl, rfl, ?_⟩ | refine notQ_enc okI ⟨_, _, rfl, rfl, ?_⟩))
section
variable {P : Program} {w : World} {K : PySem.W.Frag} {mg : Str → Option Value} {base : Heap}
--BEGIN
def x_read_way : ASx := fun as R Er => ∃ d : PyData, as = [.dat d] ∧ ((isStrD d = false ∧ Er "BadText" "row" (.int 0) as) ∨ ∃ (a : List Nat) (n : Nat), d = eX a ∧ a.length ≤ 20000 ∧ wayR (splC 10 a) [] = .inl n ∧ Er "BadText" "row" (.int (n : Nat)) as)
theorem okx_read_way {f : Addr} {fd : FuncData} (F : Fun K "read_way" "read_way" s_read_way f fd) (B : Blt mg) (c_rows_in : Cal P w K mg base 1 "rows_in" a_rows_in) (x_rows_in : CalX P w K mg base 3 "rows_in" (jn a_rows_in x_rows_in)) (c_numbers_in : Cal P w K mg base 2 "numbers_in" a_numbers_in) (c_is_weights__g : Cal P w K mg base 2 "is_weights" a_is_weights__g) (g_BLANK : ∃ u, mg "BLANK" = some u ∧ Sca (.str " ") u) (e_BadText : ∃ C, ErrC P w K mg base "BadText" "row" C) : FnG P w K mg base (L2.CX P w) 4 f fd ["text"] (toSx K mg x_read_way) := by
  replace c_rows_in := c_rows_in.mono (show 1 ≤ 3 by decide)
  replace c_numbers_in := c_numbers_in.mono (show 2 ≤ 3 by decide)
  replace c_is_weights__g := c_is_weights__g.mono (show 2 ≤ 3 by decide)
  refine fnAx F sc_read_way (by decide) B (fun as R Er h => ?_) fun cdv A outer s H E C as R Er h => ?_
  · obtain ⟨_, rfl, _⟩ := h; rfl
  obtain ⟨_, e_BadText⟩ := e_BadText
  obtain ⟨d, rfl, ⟨hd, h⟩ | ⟨a, n, rfl, hl, hf, h⟩⟩ := h
  · refine SWx.cons ?_
    refine S1.asg (i := 1) C ?_ -- found =
    refine EW.list ?_
    refine EWds.nil ?_
    refine ⟨(by decide : (0 : Nat) ≤ sizeLine), ?_⟩
    refine ⟨by walk_at "sd", ?_⟩
    refine SWx.forEnumX C ?_ .leaving
    refine EWx.call x_rows_in C rfl ?_
    refine EWgs.cons ?_
    refine EW.nameD (i := 0) rfl ?_
    refine ⟨_, rfl, ?_⟩
    refine EWgs.nil ?_
    refine ⟨List.nodup_nil, ?_⟩
    exact .inr ⟨_, rfl, hd, h⟩
  refine SWx.cons ?_
  refine S1.asg (i := 1) C ?_ -- found =
  refine EW.list ?_
  refine EWds.nil ?_
  refine ⟨(by decide : (0 : Nat) ≤ sizeLine), ?_⟩
  refine ⟨by walk_at "sd", ?_⟩
  show SWx _ _ [.dat (eX a), .hol false ([].map tupN), .un, .un, .un] _ _
  refine SWx.forM (is := [2, 3]) C ?_ .leaving
  refine IW.enumL C ?_
  refine EW.call c_rows_in C rfl ?_
  refine EWgs.cons ?_
  refine EW.nameD (i := 0) rfl ?_
  refine ⟨_, rfl, ?_⟩
  refine EWgs.nil ?_
  refine ⟨List.nodup_nil, ?_⟩
  refine ⟨a, rfl, by omega, ?_⟩
  refine ⟨_, rfl, ?_⟩
  refine ⟨_, _, _, (enumD_map _ _), fun pre ρ => ∃ g s2 s3 s4, nH s2 = true ∧ nH s3 = true ∧ nH s4 = true ∧ RdI a (.inl n) pre.length g ∧ ρ = [.dat (eX a), .hol false (g.map tupN), s2, s3, s4], ⟨[], _, _, _, rfl, rfl, rfl, RdI.zero hf, rfl⟩, ?_, ?_⟩
  · rintro pre z post ρ hx ⟨g, s2, s3, s4, n2, n3, n4, hg, rfl⟩
    obtain ⟨hz1, hz2⟩ := zip_at hx
    have hzl := splC_len (List.mem_of_getElem? hz1)
    have hzs := splC_size 32 z.1
    have hrs := splC_size 10 a
    have hgl := hg.1
    have hgn := (List.getElem?_eq_some_iff.mp hz1).1
    refine GW.tup C ⟨_, rfl, rfl, ?_⟩
    refine GWs.cons (is := [2]) (js := [3]) ?_
    refine GW.name C.nd (i := 2) ⟨by walk_at "sd", ?_⟩
    refine GWs.cons (is := [3]) (js := []) ?_
    refine GW.name C.nd (i := 3) ⟨by walk_at "sd", ?_⟩
    refine GWs.nil ?_
    show SWx _ _ [.dat (eX a), .hol false (g.map tupN), .dat (.int (z.2 : Nat)), .dat (eX z.1), s4] _ _
    refine SWx.cons ?_
    refine S1.asg (i := 4) C ?_ -- weights =
    refine EW.call c_numbers_in C rfl ?_
    refine EWgs.cons ?_
    refine EW.splitS ?_
    refine EW.nameD (i := 3) rfl ?_
    refine ⟨_, rfl, by walk_at "sd", ?_⟩
    refine EW.globX [32] (by decide) rfl g_BLANK ?_
    refine ⟨_, (by decide), rfl, ?_⟩
    refine ⟨_, rfl, ?_⟩
    refine EWgs.nil ?_
    refine ⟨List.nodup_nil, ?_⟩
    refine ⟨splC 32 z.1, rfl, by omega, fun w hw => by have := splC_len hw; omega, ?_⟩
    refine ⟨by walk_at "sd", ?_⟩
    show SWx _ _ [.dat (eX a), .hol false (g.map tupN), .dat (.int (z.2 : Nat)), .dat (eX z.1), .dat (numsD (numsW (splC 32 z.1)))] _ _
    refine SWx.ite ?_
    refine TWw.tw ?_
    apply TWw.orP (v := (decide (¬ g = []) && decide (¬ ((numsW (splC 32 z.1)).getD []).length = (g.getD 0 []).length)))
    · refine TW.not ?_
      refine TW.val ?_
      refine EW.call c_is_weights__g C rfl ?_
      refine EWgs.cons ?_
      refine EW.nameD (i := 4) rfl ?_
      refine ⟨_, rfl, ?_⟩
      refine EWgs.nil ?_
      refine ⟨List.nodup_nil, ?_⟩
      refine ⟨_, rfl, gd_nums (by omega), ?_⟩
      exact ⟨rfl, rfl⟩
    · intro hb1
      obtain ⟨l, hl2, l1, l12⟩ := good_some (x := numsW (splC 32 z.1)) (by rw [← good_votes]; simpa using hb1)
      rw [hl2]
      refine TWw.or1 ?_
      refine TWw.tw ?_
      apply TWw.andP (v := decide (¬ l.length = (g.getD 0 []).length))
      · refine TW.cmp (opN C) ?_ (nomark _)
        refine EW.nameO (i := 1) rfl ?_
        refine EW.list ?_
        refine EWds.nil ?_
        refine ⟨(by decide : (0 : Nat) ≤ sizeLine), ?_⟩
        refine neT_nilL okN ⟨g, rfl, rfl, ?_⟩
        exact ⟨rfl, rfl⟩
      · intro hb1
        have hgp : 0 < g.length := List.length_pos_iff.mpr (of_decide_eq_true hb1)
        refine TWw.and1 ?_
        refine TW.cmp (opN C) ?_ (nomark _)
        refine EW.len C ?_
        refine EW.nameD (i := 4) rfl ?_
        refine lenR_map ⟨_, _, _, rfl, ?_⟩
        refine EW.len C ?_
        refine EW.ix ?_
        refine EW.nameO (i := 1) rfl ?_
        refine EW.int ?_
        refine ixR_nat [] ⟨_, _, (0 : Nat), rfl, rfl, by walk_at "sd", ?_⟩
        refine lenR_map ⟨_, _, _, rfl, ?_⟩
        refine neT_int ?_
        exact ⟨decide_eq_decide.mpr (by omega), rfl⟩
      exact ⟨rfl, rfl⟩
    cases ht : (!votesD (numsD (numsW (splC 32 z.1))) || (decide (¬ g = []) && decide (¬ ((numsW (splC 32 z.1)).getD []).length = (g.getD 0 []).length))) with
    | true =>
      refine ifT_yes rfl ?_
      have hb : badRow g (numsW (splC 32 z.1)) = true := (bad_bool rfl).trans ht
      cases hg.bad hz1 hb
      refine SWx.raise e_BadText C (by decide) rfl ?_
      refine EW.nameD (i := 2) rfl ?_
      rw [hz2]
      exact ⟨_, rfl, h⟩
    | false =>
      refine ifT_no rfl ?_
      have hb : badRow g (numsW (splC 32 z.1)) = false := (bad_bool rfl).trans ht
      obtain ⟨l, hl2, l1, l12⟩ := good_some (good_of hb)
      rw [hl2]
      show SWx _ _ [.dat (eX a), .hol false (g.map tupN), .dat (.int (z.2 : Nat)), .dat (eX z.1), .dat (tupN l)] _ _
      refine SWx.of ?_
      refine SW.cons ?_
      refine S1.expr ?_
      refine EW.appendM ?_
      refine EW.nameO (i := 1) rfl ?_
      refine ⟨_, rfl, ?_⟩
      refine EW.nameD (i := 4) rfl ?_
      refine ⟨_, rfl, ?_⟩
      refine ⟨_, _, g, tupN, _, rfl, rfl, by have := sizeLine_eq; omega, ?_⟩
      refine SW.nil ?_
      exact ⟨g ++ [l], _, _, _, rfl, rfl, rfl, by rw [List.length_append]; exact hg.step hz1 hb hl2, rfl⟩
  rintro ρ ⟨g, s2, s3, s4, n2, n3, n4, hg, rfl⟩
  rw [List.length_zipIdx] at hg
  cases hg.fin
--END
end
end VM

/-! _law_number -/
namespace VM
variable [AW.HasT]
open PySem PySem.Spec PyProof.Rows L2 AW
local macro_rules | `(tactic| walk_at "sd") => `(tactic| first | omega | assumption | exact pin_nH rfl (by assumption) | rfl | trivial | (show (0 : Int) < _; omega) | (have sl0 := sizeLine_eq; omega) | (simp only [List.length_map, List.length_append, List.length_cons, List.length_nil, List.length_range, List.length_zipIdx, List.length_zip]; omega) | exact allN_small (by omega) | exact allN_lt (by assumption) | exact fun i hi => Nat.lt_of_lt_of_le (allN_lt (by assumption) i hi) (by omega) | exact allN_glen (by assumption) (by omega) | (simp; done) | (have sl0 := sizeLine_eq; simp; omega) | decide)
local macro_rules | `(tactic| walk_at "mul") => `(tactic| first | exact CMulA.l (by omega) (by omega) | exact CMulA.r (by omega) (by omega) | exact CMulA.l (by decide) (by decide) | exact CMulA.r (by decide) (by decide))
local macro_rules | `(tactic| walk_at "div") => `(tactic| first | exact CDivA.small (by omega) (by omega))
local macro_rules | `(tactic| walk_at "pow") => `(tactic| first | exact powOk 8 (by omega) (by omega) (by omega) (by omega))
local macro_rules | `(tactic| walk_at "slc") => `(tactic| (show sliceR _ _ _ _ _; first | refine slT_drop 1 ⟨_, _, rfl, rfl, ?_⟩ | refine slT_dropLast ⟨_, _, rfl, ?_⟩ | refine slT_take ⟨_, _, _, rfl, rfl, ?_⟩ | refine slT_dropV ⟨_, _, _, rfl, rfl, ?_⟩ | refine slL_drop 1 ⟨_, _, rfl, rfl, ?_⟩ | refine slL_dropLast ⟨_, _, rfl, ?_⟩ | refine slL_take ⟨_, _, _, rfl, rfl, ?_⟩ | refine slL_dropV ⟨_, _, _, rfl, rfl, ?_⟩))
local macro_rules | `(tactic| walk_at "eq") => `(tactic| (show eqT _ _ _ _; first | refine eqT_int ?_ | refine eqT_bool ?_ | refine eqT_str ?_ | refine eqT_enc okI ⟨_, _, rfl, rfl, ?_⟩ | refine eqT_enc okN ⟨_, _, rfl, rfl, ?_⟩ | refine eqT_enc okTN ⟨_, _, rfl, rfl, ?_⟩ | refine eqT_enc okLN ⟨_, _, rfl, rfl, ?_⟩ | refine eqT_nilT EncOk.int ⟨_, rfl, rfl, ?_⟩ | refine eqT_nilL EncOk.int ⟨_, rfl, rfl, ?_⟩ | refine eqT_nilT okN ⟨_, rfl, rfl, ?_⟩ | refine eqT_nilL okN ⟨_, rfl, rfl, ?_⟩ | refine eqT_nilT okI ⟨_, rfl, rfl, ?_⟩ | refine eqT_nilL okI ⟨_, rfl, rfl, ?_⟩))
local macro_rules | `(tactic| walk_at "ne") => `(tactic| (show neT _ _ _ _; first | refine neT_int ?_ | refine neT_bool ?_ | refine neT_str ?_ | refine neT_enc okI ⟨_, _, rfl, rfl, ?_⟩ | refine neT_enc okN ⟨_, _, rfl, rfl, ?_⟩ | refine neT_enc okTN ⟨_, _, rfl, rfl, ?_⟩ | refine neT_enc okLN ⟨_, _, rfl, rfl, ?_⟩ | refine neT_nilT EncOk.int ⟨_, rfl, rfl, ?_⟩ | refine neT_nilL EncOk.int ⟨_, rfl, rfl, ?_⟩ | refine neT_nilT okN ⟨_, rfl, rfl, ?_⟩ | refine neT_nilL okN ⟨_, rfl, rfl, ?_⟩ | refine neT_nilT okI ⟨_, rfl, rfl, ?_⟩ | refine neT_nilL okI ⟨_, rfl, rfl, ?_⟩))
local macro_rules | `(tactic| walk_at "in") => `(tactic| (show inQ _ _ _ _ _; first | refine inQ_nat ⟨_, _, rfl, rfl, ?_⟩ | refine inQ_int ⟨_, _, rfl, rfl, ?_⟩ | refine inQ_enc okN ⟨_, _, rfl, rfl, ?_⟩ | refine inQ_enc okI ⟨_, _, rfl, rfl, ?_⟩))
local macro_rules | `(tactic| walk_at "notin") => `(tactic| (show inQ _ _ _ _ _; first | refine notQ_nat ⟨_, _, rfl, rfl, ?_⟩ | refine notQ_int ⟨_, _, rfl, rfl, ?_⟩ | refine notQ_enc okN ⟨_, _, rfl, rfl, ?_⟩ | refine notQ_enc okI ⟨_, _, rfl, rfl, ?_⟩))
section
variable {P : Program} {w : World} {K : PySem.W.Frag} {mg : Str → Option Value} {base : Heap}
--BEGIN
theorem occ_dig {c : Nat} (h : 48 ≤ c ∧ c ≤ 57) : ∃ rest, Builtin.Str.occurrences ("0123456789" : Str) (SX.S [c]) 0 ("0123456789" : Str).length 1 = (c - 48) :: rest := by
  have : c = 48 ∨ c = 49 ∨ c = 50 ∨ c = 51 ∨ c = 52 ∨ c = 53 ∨ c = 54 ∨ c = 55 ∨ c = 56 ∨ c = 57 := by omega
  rcases this with rfl | rfl | rfl | rfl | rfl | rfl | rfl | rfl | rfl | rfl <;> exact ⟨[], by decide +kernel⟩
def foldV (l : List Nat) : Nat := l.foldl (fun acc c => acc * 10 + (c - 48)) 0
theorem foldV_snoc (l : List Nat) (c : Nat) : foldV (l ++ [c]) = foldV l * 10 + (c - 48) := by unfold foldV; rw [List.foldl_append] <;> rfl
abbrev N__law_number : List Str := ["_law_word", "_law_sign", "_law_found"]
theorem sc__law_number : FnScope N__law_number ["_law_word"] (defScope s__law_number) := ⟨rfl, rfl, rfl, by decide +kernel, rfl, by decide +kernel, by decide +kernel⟩
def a__law_number : ASp := fun as R => ∃ a : List Nat, as = [.dat (eX a)] ∧ a.length ≤ 1000000 ∧ R (.dat (eO (numW a))) as
theorem ok__law_number {f : Addr} {fd : FuncData} (F : Fun K "_law_number" "_law_number" s__law_number f fd) (B : Blt mg) : FnG P w K mg base CX0 1 f fd ["_law_word"] (toSp K a__law_number) := by
  refine fnA F sc__law_number (by decide) B (fun as R h => ?_) fun cdv A outer s H E C as R h => ?_
  · obtain ⟨_, rfl, _⟩ := h; rfl
  obtain ⟨a, rfl, hl, h⟩ := h
  refine SW.cons ?_
  apply S1.iteP
  · refine TWw.tw ?_
    apply TWw.orP
    · refine TW.not ?_
      apply TW.chainP (opA_intB op_le) (opA_intB op_le)
      · refine EW.int ?_
        refine EW.len C ?_
        first | refine EW.nameD (i := 0) rfl ?_ | refine EW.nameO (i := 0) rfl ?_ -- _law_word
        refine lenS ⟨_, rfl, by walk_at "sd", ?_⟩
        refine ⟨rfl, rfl, fun hc => ?_⟩
        refine EW.int ?_
        exact ⟨rfl, rfl⟩
      case m1 => exact mono_intB
      case m2 => exact mono_intB
      exact ⟨rfl, rfl⟩
    · intro hb1
      refine TWw.or1 ?_
      refine TW.not ?_
      refine TW.val ?_
      refine EW.all C ?_
      refine EW.lcM (own := [("_law_sign", 1)]) (is := [1]) C ?_ (blkOk_by (N := N__law_number) (sc := defScope s__law_number) (by decide +kernel)) (by decide)
      refine IW.strS ?_
      first | refine EW.nameD (i := 0) rfl ?_ | refine EW.nameO (i := 0) rfl ?_ -- _law_word
      refine ⟨_, rfl, ?_⟩
      apply lcM_intro rfl
      · walk_at "sd"
      · rfl
      · intro y hy s0 H0 C0 cl fp
        refine GW.name C.nd (i := 1) ⟨by walk_at "sd", ?_⟩
        intro s0 H0 C0 cl fp
        refine EW.cmp (opI (C.blk ..)) ?_ rfl
        first | refine EW.nameD (i := 1) rfl ?_ | refine EW.nameO (i := 1) rfl ?_ -- _law_sign
        refine EW.strX [48, 49, 50, 51, 52, 53, 54, 55, 56, 57] (by decide) ?_
        refine inQ_sign ⟨_, digs, rfl, rfl, ?_⟩
        exact ⟨_, rfl, rfl, rfl⟩
      first | refine allR_map ⟨_, _, _, rfl, ?_⟩ | refine ⟨_, rfl, ?_⟩
      exact ⟨rfl, rfl⟩
    exact ⟨rfl, rfl⟩
  · intro h1
    refine SW.cons ?_
    refine S1.ret ?_
    refine EW.nonE ?_
    rw [num_noI h1] at h
    exact h
  intro h1
  refine SW.nil ?_
  show SW _ _ _ _
  obtain ⟨l1, l2, hd, he⟩ := num_yesI h1
  clear h1
  show SW _ _ [.dat (eX a), .un, .un] _
  refine SW.cons ?_
  apply S1.iteP
  · refine TWw.tw ?_
    apply TWw.andP
    · refine TW.cmp (opE C) ?_ (nomark _)
      refine EW.ix ?_
      first | refine EW.nameD (i := 0) rfl ?_ | refine EW.nameO (i := 0) rfl ?_ -- _law_word
      refine EW.int ?_
      refine ixS ⟨_, (0 : Nat), rfl, rfl, by omega, by walk_at "sd", ?_⟩
      refine EW.strX [48] (by decide) ?_
      refine eqX ⟨_, _, rfl, rfl, ?_⟩
      exact ⟨rfl, rfl⟩
    · intro hb1
      refine TWw.and1 ?_
      refine TW.cmp (opN C) ?_ (nomark _)
      first | refine EW.nameD (i := 0) rfl ?_ | refine EW.nameO (i := 0) rfl ?_ -- _law_word
      refine EW.strX [48] (by decide) ?_
      refine neX ⟨_, _, rfl, rfl, ?_⟩
      exact ⟨rfl, rfl⟩
    exact ⟨rfl, rfl⟩
  · intro h1
    refine SW.cons ?_
    refine S1.ret ?_
    refine EW.nonE ?_
    rw [he true (by rw [← h1]; simp)] at h
    exact h
  intro h1
  refine SW.nil ?_
  show SW _ _ _ _
  have he2 := he false (by rw [← h1]; simp)
  clear he h1
  rw [he2] at h
  show SW _ _ [.dat (eX a), .un, .un] _
  refine SW.cons ?_
  refine S1.asg (i := 2) C ?_ -- _law_found =
  refine EW.int ?_
  --
  refine ⟨by walk_at "sd", ?_⟩
  show SW _ _ [.dat (eX a), .un, .dat (.int (0 : Nat))] _
  refine SW.cons ?_
  refine S1.forM (is := [1]) C ?_ .leaving
  refine IW.strS ?_
  first | refine EW.nameD (i := 0) rfl ?_ | refine EW.nameO (i := 0) rfl ?_ -- _law_word
  refine ⟨_, rfl, ?_⟩
  refine ⟨_, _, _, rfl, fun pre ρ => ∃ s1, nH s1 = true ∧ ρ = [.dat (eX a), s1, .dat (.int (foldV pre : Nat))], ⟨_, rfl, rfl⟩, ?_, ?_⟩
  · rintro pre z post ρ hx ⟨s1, n1, rfl⟩
    have hz := mem_digs.1 (of_decide_eq_true (List.all_eq_true.mp hd z (by rw [hx]; simp)))
    obtain ⟨rest, hocc⟩ := occ_dig hz
    refine GW.name C.nd (i := 1) ⟨by walk_at "sd", ?_⟩
    show SW _ _ [.dat (eX a), .dat (eX [z]), .dat (.int (foldV pre : Nat))] _
    refine SW.cons ?_
    refine S1.asg (i := 2) C ?_ -- _law_found =
    refine EW.add ?_
    refine EW.mul ?_
    refine EW.int ?_
    first | refine EW.nameD (i := 2) rfl ?_ | refine EW.nameO (i := 2) rfl ?_ -- _law_found
    refine ⟨by walk_at "mul", ?_⟩
    refine EW.findS ?_
    refine EW.str ?_
    refine ⟨_, rfl, ?_⟩
    first | refine EW.nameD (i := 1) rfl ?_ | refine EW.nameO (i := 1) rfl ?_ -- _law_sign
    refine ⟨_, z - 48, rest, rfl, hocc, ?_⟩
    first | refine addR_int ?_ | skip
    --
    refine ⟨by walk_at "sd", ?_⟩
    refine SW.nil ?_
    exact ⟨_, rfl, by rw [foldV_snoc, show ((foldV pre * 10 + (z - 48) : Nat) : Int) = 10 * (foldV pre : Nat) + ((z - 48 : Nat) : Int) by omega] <;> rfl⟩
  rintro ρ ⟨s1, n1, rfl⟩
  refine SW.cons ?_
  refine S1.ret ?_
  first | refine EW.nameD (i := 2) rfl ?_ | refine EW.nameO (i := 2) rfl ?_ -- _law_found
  exact h
--END
end
end VM

/-! _law_row_votes -/
namespace VM
variable [AW.HasT]
open PySem PySem.Spec PyProof.Rows L2 AW
local macro_rules | `(tactic| walk_at "sd") => `(tactic| first | omega | assumption | exact pin_nH rfl (by assumption) | rfl | trivial | (show (0 : Int) < _; omega) | (have sl0 := sizeLine_eq; omega) | (simp only [List.length_map, List.length_append, List.length_cons, List.length_nil, List.length_range, List.length_zipIdx, List.length_zip]; omega) | exact allN_small (by omega) | exact allN_lt (by assumption) | exact fun i hi => Nat.lt_of_lt_of_le (allN_lt (by assumption) i hi) (by omega) | exact allN_glen (by assumption) (by omega) | (simp; done) | (have sl0 := sizeLine_eq; simp; omega) | decide)
local macro_rules | `(tactic| walk_at "mul") => `(tactic| first | exact CMulA.l (by omega) (by omega) | exact CMulA.r (by omega) (by omega) | exact CMulA.l (by decide) (by decide) | exact CMulA.r (by decide) (by decide))
local macro_rules | `(tactic| walk_at "div") => `(tactic| first | exact CDivA.small (by omega) (by omega))
local macro_rules | `(tactic| walk_at "pow") => `(tactic| first | exact powOk 8 (by omega) (by omega) (by omega) (by omega))
local macro_rules | `(tactic| walk_at "slc") => `(tactic| (show sliceR _ _ _ _ _; first | refine slT_drop 1 ⟨_, _, rfl, rfl, ?_⟩ | refine slT_dropLast ⟨_, _, rfl, ?_⟩ | refine slT_take ⟨_, _, _, rfl, rfl, ?_⟩ | refine slT_dropV ⟨_, _, _, rfl, rfl, ?_⟩ | refine slL_drop 1 ⟨_, _, rfl, rfl, ?_⟩ | refine slL_dropLast ⟨_, _, rfl, ?_⟩ | refine slL_take ⟨_, _, _, rfl, rfl, ?_⟩ | refine slL_dropV ⟨_, _, _, rfl, rfl, ?_⟩))
local macro_rules | `(tactic| walk_at "eq") => `(tactic| (show eqT _ _ _ _; first | refine eqT_int ?_ | refine eqT_bool ?_ | refine eqT_str ?_ | refine eqT_enc okI ⟨_, _, rfl, rfl, ?_⟩ | refine eqT_enc okN ⟨_, _, rfl, rfl, ?_⟩ | refine eqT_enc okTN ⟨_, _, rfl, rfl, ?_⟩ | refine eqT_enc okLN ⟨_, _, rfl, rfl, ?_⟩ | refine eqT_nilT EncOk.int ⟨_, rfl, rfl, ?_⟩ | refine eqT_nilL EncOk.int ⟨_, rfl, rfl, ?_⟩ | refine eqT_nilT okN ⟨_, rfl, rfl, ?_⟩ | refine eqT_nilL okN ⟨_, rfl, rfl, ?_⟩ | refine eqT_nilT okI ⟨_, rfl, rfl, ?_⟩ | refine eqT_nilL okI ⟨_, rfl, rfl, ?_⟩))
local macro_rules | `(tactic| walk_at "ne") => `(tactic| (show neT _ _ _ _; first | refine neT_int ?_ | refine neT_bool ?_ | refine neT_str ?_ | refine neT_enc okI ⟨_, _, rfl, rfl, ?_⟩ | refine neT_enc okN ⟨_, _, rfl, rfl, ?_⟩ | refine neT_enc okTN ⟨_, _, rfl, rfl, ?_⟩ | refine neT_enc okLN ⟨_, _, rfl, rfl, ?_⟩ | refine neT_nilT EncOk.int ⟨_, rfl, rfl, ?_⟩ | refine neT_nilL EncOk.int ⟨_, rfl, rfl, ?_⟩ | refine neT_nilT okN ⟨_, rfl, rfl, ?_⟩ | refine neT_nilL okN ⟨_, rfl, rfl, ?_⟩ | refine neT_nilT okI ⟨_, rfl, rfl, ?_⟩ | refine neT_nilL okI ⟨_, rfl, rfl, ?_⟩))
local macro_rules | `(tactic| walk_at "in") => `(tactic| (show inQ _ _ _ _ _; first | refine inQ_nat ⟨_, _, rfl, rfl, ?_⟩ | refine inQ_int ⟨_, _, rfl, rfl, ?_⟩ | refine inQ_enc okN ⟨_, _, rfl, rfl, ?_⟩ | refine inQ_enc okI ⟨_, _, rfl, rfl, ?_⟩))
local macro_rules | `(tactic| walk_at "notin") => `(tactic| (show inQ _ _ _ _ _; first | refine notQ_nat ⟨_, _, rfl, rfl, ?_⟩ | refine notQ_int ⟨_, _, rfl, rfl, ?_⟩ | refine notQ_enc okN ⟨_, _, rfl, rfl, ?_⟩ | refine notQ_enc okI ⟨_, _, rfl, rfl, ?_⟩))
section
variable {P : Program} {w : World} {K : PySem.W.Frag} {mg : Str → Option Value} {base : Heap}
--BEGIN
abbrev N__law_row_votes : List Str := ["_law_row", "_law_found", "_law_word"]
theorem sc__law_row_votes : FnScope N__law_row_votes ["_law_row"] (defScope s__law_row_votes) := ⟨rfl, rfl, rfl, by decide +kernel, rfl, by decide +kernel, by decide +kernel⟩
def a__law_row_votes : ASp := fun as R => ∃ a : List Nat, as = [.dat (eX a)] ∧ a.length ≤ 100000 ∧ R (.dat (rowD (numsW (splC 32 a)))) as
theorem ok__law_row_votes {f : Addr} {fd : FuncData} (F : Fun K "_law_row_votes" "_law_row_votes" s__law_row_votes f fd) (B : Blt mg) (c__law_number : Cal P w K mg base 1 "_law_number" a__law_number) : FnG P w K mg base CX0 2 f fd ["_law_row"] (toSp K a__law_row_votes) := by
  refine fnA F sc__law_row_votes (by decide) B (fun as R h => ?_) fun cdv A outer s H E C as R h => ?_
  · obtain ⟨_, rfl, _⟩ := h; rfl
  obtain ⟨a, rfl, hl, h⟩ := h
  have hsz := splC_size 32 a
  try refine SW.demote (i := 2) rfl ?_
  refine SW.cons ?_
  refine S1.asgLcM (i := 1) (own := [("_law_word", 2)]) (is := [2]) C ?_ rfl rfl rfl (blkOk_by (N := N__law_row_votes) (sc := defScope s__law_row_votes) (by decide +kernel)) (by decide)
  refine IW.list ?_
  refine EW.splitS ?_
  first | refine EW.nameD (i := 0) rfl ?_ | refine EW.nameO (i := 0) rfl ?_ -- _law_row
  refine ⟨_, rfl, by walk_at "sd", ?_⟩
  refine EW.strX [32] (by decide) ?_
  refine ⟨_, (by decide), rfl, ?_⟩
  refine ⟨_, rfl, ?_⟩
  apply lcM_intro rfl
  · walk_at "sd"
  · rfl
  · intro y hy s0 H0 C0 cl fp
    refine GW.name C.nd (i := 2) ⟨by walk_at "sd", ?_⟩
    intro s0 H0 C0 cl fp
    refine EW.call c__law_number (C.blk ..) rfl ?_
    refine EWgs.cons ?_
    first | refine EW.nameD (i := 2) rfl ?_ | refine EW.nameO (i := 2) rfl ?_ -- _law_word
    refine ⟨_, rfl, ?_⟩
    refine EWgs.nil ?_
    refine ⟨List.nodup_nil, ?_⟩
    refine ⟨y, rfl, by have := splC_len hy; omega, ?_⟩
    exact ⟨_, rfl, rfl, rfl⟩
  --
  refine ⟨by first | rfl | walk_at "sd", ?_⟩
  show SW _ _ [.dat (eX a), .hol false ((splC 32 a).map fun y => eO (numW y)), .un] _
  refine SW.cons ?_
  refine S1.ret ?_
  apply EW.ifD
  · refine TWw.tw ?_
    apply TWw.andP
    · refine TW.cmp (opJ C) ?_ rfl
      refine EW.nonE ?_
      first | refine EW.nameD (i := 1) rfl ?_ | refine EW.nameO (i := 1) rfl ?_ -- _law_found
      refine notQ_enc okO ⟨none, (splC 32 a).map numW, rfl, (by show some _ = some _; rw [List.map_map] <;> rfl), ?_⟩
      exact ⟨rfl, rfl⟩
    · intro hb1
      apply TWw.andP
      · refine TW.cmp (opA_intB op_lt) ?_ (nomark _)
        refine EW.len C ?_
        first | refine EW.nameD (i := 1) rfl ?_ | refine EW.nameO (i := 1) rfl ?_ -- _law_found
        first | refine lenR_map ⟨_, _, _, rfl, ?_⟩ | refine ⟨_, rfl, ?_⟩
        refine EW.int ?_
        exact ⟨rfl, rfl⟩
      · intro hb2
        refine TWw.and1 ?_
        refine TW.cmp (opA_intB op_gt) ?_ (nomark _)
        refine EW.sum C ?_
        first | refine EW.nameD (i := 1) rfl ?_ | refine EW.nameO (i := 1) rfl ?_ -- _law_found
        refine ⟨_, (by show some _ = some _; rw [eo_ints (by simpa using hb1)] <;> rfl), ?_⟩
        refine EW.int ?_
        exact ⟨rfl, rfl⟩
      exact ⟨rfl, rfl⟩
    exact ⟨rfl, rfl⟩
  · intro hi
    --
    refine EW.tupC C ?_
    first | refine EW.nameD (i := 1) rfl ?_ | refine EW.nameO (i := 1) rfl ?_ -- _law_found
    first | refine ⟨_, rfl, ?_⟩ | refine ⟨_, hs _, ?_⟩
    exact ⟨rfl, rfl⟩
  · intro hi
    --
    refine EW.nonE ?_
    exact ⟨rfl, rfl⟩
  show R (.dat (if _ = true then _ else _)) _
  rw [row_decB (ws := splC 32 a) (fun z => by have := (splC_size 32 a).1; rw [z] at this; simp at this) _ ?_]
  exact h
  simp only [Bool.and_eq_true, decide_eq_true_eq, List.length_map]
  refine and_congr Iff.rfl (and_congr ?_ Iff.rfl)
  omega
--END
end
end VM

/-! _law_read_steps -/
namespace VM
variable [AW.HasT]
open PySem PySem.Spec PyProof.Rows L2 AW
local macro_rules | `(tactic| walk_at "sd") => `(tactic| first | omega | assumption | exact pin_nH rfl (by assumption) | rfl | trivial | (show (0 : Int) < _; omega) | (have sl0 := sizeLine_eq; omega) | (simp only [List.length_map, List.length_append, List.length_cons, List.length_nil, List.length_range, List.length_zipIdx, List.length_zip]; omega) | exact allN_small (by omega) | exact allN_lt (by assumption) | exact fun i hi => Nat.lt_of_lt_of_le (allN_lt (by assumption) i hi) (by omega) | exact allN_glen (by assumption) (by omega) | (simp; done) | (have sl0 := sizeLine_eq; simp; omega) | decide)
local macro_rules | `(tactic| walk_at "mul") => `(tactic| first | exact CMulA.l (by omega) (by omega) | exact CMulA.r (by omega) (by omega) | exact CMulA.l (by decide) (by decide) | exact CMulA.r (by decide) (by decide))
local macro_rules | `(tactic| walk_at "div") => `(tactic| first | exact CDivA.small (by omega) (by omega))
local macro_rules | `(tactic| walk_at "pow") => `(tactic| first | exact powOk 8 (by omega) (by omega) (by omega) (by omega))
local macro_rules | `(tactic| walk_at "slc") => `(tactic| (show sliceR _ _ _ _ _; first | refine slT_drop 1 ⟨_, _, rfl, rfl, ?_⟩ | refine slT_dropLast ⟨_, _, rfl, ?_⟩ | refine slT_take ⟨_, _, _, rfl, rfl, ?_⟩ | refine slT_dropV ⟨_, _, _, rfl, rfl, ?_⟩ | refine slL_drop 1 ⟨_, _, rfl, rfl, ?_⟩ | refine slL_dropLast ⟨_, _, rfl, ?_⟩ | refine slL_take ⟨_, _, _, rfl, rfl, ?_⟩ | refine slL_dropV ⟨_, _, _, rfl, rfl, ?_⟩))
local macro_rules | `(tactic| walk_at "eq") => `(tactic| (show eqT _ _ _ _; first | refine eqT_int ?_ | refine eqT_bool ?_ | refine eqT_str ?_ | refine eqT_enc okI ⟨_, _, rfl, rfl, ?_⟩ | refine eqT_enc okN ⟨_, _, rfl, rfl, ?_⟩ | refine eqT_enc okTN ⟨_, _, rfl, rfl, ?_⟩ | refine eqT_enc okLN ⟨_, _, rfl, rfl, ?_⟩ | refine eqT_nilT EncOk.int ⟨_, rfl, rfl, ?_⟩ | refine eqT_nilL EncOk.int ⟨_, rfl, rfl, ?_⟩ | refine eqT_nilT okN ⟨_, rfl, rfl, ?_⟩ | refine eqT_nilL okN ⟨_, rfl, rfl, ?_⟩ | refine eqT_nilT okI ⟨_, rfl, rfl, ?_⟩ | refine eqT_nilL okI ⟨_, rfl, rfl, ?_⟩))
local macro_rules | `(tactic| walk_at "ne") => `(tactic| (show neT _ _ _ _; first | refine neT_int ?_ | refine neT_bool ?_ | refine neT_str ?_ | refine neT_enc okI ⟨_, _, rfl, rfl, ?_⟩ | refine neT_enc okN ⟨_, _, rfl, rfl, ?_⟩ | refine neT_enc okTN ⟨_, _, rfl, rfl, ?_⟩ | refine neT_enc okLN ⟨_, _, rfl, rfl, ?_⟩ | refine neT_nilT EncOk.int ⟨_, rfl, rfl, ?_⟩ | refine neT_nilL EncOk.int ⟨_, rfl, rfl, ?_⟩ | refine neT_nilT okN ⟨_, rfl, rfl, ?_⟩ | refine neT_nilL okN ⟨_, rfl, rfl, ?_⟩ | refine neT_nilT okI ⟨_, rfl, rfl, ?_⟩ | refine neT_nilL okI ⟨_, rfl, rfl, ?_⟩))
local macro_rules | `(tactic| walk_at "in") => `(tactic| (show inQ _ _ _ _ _; first | refine inQ_nat ⟨_, _, rfl, rfl, ?_⟩ | refine inQ_int ⟨_, _, rfl, rfl, ?_⟩ | refine inQ_enc okN ⟨_, _, rfl, rfl, ?_⟩ | refine inQ_enc okI ⟨_, _, rfl, rfl, ?_⟩))
local macro_rules | `(tactic| walk_at "notin") => `(tactic| (show inQ _ _ _ _ _; first | refine notQ_nat ⟨_, _, rfl, rfl, ?_⟩ | refine notQ_int ⟨_, _, rfl, rfl, ?_⟩ | refine notQ_enc okN ⟨_, _, rfl, rfl, ?_⟩ | refine notQ_enc okI ⟨_, _, rfl, rfl, ?_⟩))
section
variable {P : Program} {w : World} {K : PySem.W.Frag} {mg : Str → Option Value} {base : Heap}
--BEGIN
def dueW : Nat ⊕ List (List Nat) → PyData
  | .inl n => .tuple [.str "bad", .int (n : Nat)]
  | .inr f => .tuple [.str "told", .tuple (f.map tupN)]
theorem row_none2 (x : Option (List Nat)) : isNoneD (.dat (rowD x)) = !goodW x := by
  unfold rowD
  cases g : goodW x with
  | true =>
    obtain ⟨l, rfl, _⟩ := good_some g
    rfl
  | false => rfl
theorem row_tup {x : Option (List Nat)} (h : goodW x = true) : ∃ l, x = some l ∧ rowD x = tupN l ∧ 1 ≤ l.length ∧ l.length ≤ 12 := by
  obtain ⟨l, e, g1, g2⟩ := good_some h
  refine ⟨l, e, ?_, g1, g2⟩
  unfold rowD
  rw [if_pos h, e]
  rfl
theorem bad_bool2 {g : List (List Nat)} {x : Option (List Nat)} {t : Bool} (e : t = (isNoneD (.dat (rowD x)) || (decide (¬ g = []) && decide (¬ (x.getD []).length = (g.getD 0 []).length)))) : badRow g x = t := by
  rw [e, row_none2]
  rfl
abbrev N__law_read_steps : List Str := ["_law_said", "_law_found", "_law_at", "_law_row", "_law_votes_here"]
theorem sc__law_read_steps : FnScope N__law_read_steps ["_law_said"] (defScope s__law_read_steps) := ⟨rfl, rfl, rfl, by decide +kernel, rfl, by decide +kernel, by decide +kernel⟩
def a__law_read_steps : ASp := fun as R => ∃ a : List Nat, as = [.dat (eX a)] ∧ a.length ≤ 20000 ∧ R (.dat (dueW (wayR (splC 10 a) []))) as
theorem ok__law_read_steps {f : Addr} {fd : FuncData} (F : Fun K "_law_read_steps" "_law_read_steps" s__law_read_steps f fd) (B : Blt mg) (c__law_row_votes : Cal P w K mg base 2 "_law_row_votes" a__law_row_votes) : FnG P w K mg base CX0 3 f fd ["_law_said"] (toSp K a__law_read_steps) := by
  refine fnA F sc__law_read_steps (by decide) B (fun as R h => ?_) fun cdv A outer s H E C as R h => ?_
  · obtain ⟨_, rfl, _⟩ := h; rfl
  obtain ⟨a, rfl, hl, h⟩ := h
  refine SW.cons ?_
  refine S1.asg (i := 1) C ?_ -- _law_found =
  refine EW.list ?_
  refine EWds.nil ?_
  refine ⟨(by decide : (0 : Nat) ≤ sizeLine), ?_⟩
  --
  refine ⟨by walk_at "sd", ?_⟩
  show SW _ _ [.dat (eX a), .hol false ([].map tupN), .un, .un, .un] _
  refine SW.cons ?_
  refine S1.forM (is := [2, 3]) C ?_ .leaving
  refine IW.enumL C ?_
  refine EW.splitS ?_
  first | refine EW.nameD (i := 0) rfl ?_ | refine EW.nameO (i := 0) rfl ?_ -- _law_said
  refine ⟨_, rfl, by walk_at "sd", ?_⟩
  refine EW.strX [10] (by decide) ?_
  refine ⟨_, (by decide), rfl, ?_⟩
  refine ⟨_, rfl, ?_⟩
  refine ⟨_, _, _, (enumD_map _ _), fun pre ρ => ∃ g s2 s3 s4, nH s2 = true ∧ nH s3 = true ∧ nH s4 = true ∧ RdI a (wayR (splC 10 a) []) pre.length g ∧ ρ = [.dat (eX a), .hol false (g.map tupN), s2, s3, s4], ⟨[], _, _, _, rfl, rfl, rfl, RdI.zero rfl, rfl⟩, ?_, ?_⟩
  · rintro pre z post ρ hx ⟨g, s2, s3, s4, n2, n3, n4, hg, rfl⟩
    obtain ⟨hz1, hz2⟩ := zip_at hx
    have hzl := splC_len (List.mem_of_getElem? hz1)
    have hrs := splC_size 10 a
    have hgl := hg.1
    have hgn := (List.getElem?_eq_some_iff.mp hz1).1
    refine GW.tup C ⟨_, rfl, rfl, ?_⟩
    refine GWs.cons (is := [2]) (js := [3]) ?_
    refine GW.name C.nd (i := 2) ⟨by walk_at "sd", ?_⟩
    refine GWs.cons (is := [3]) (js := []) ?_
    refine GW.name C.nd (i := 3) ⟨by walk_at "sd", ?_⟩
    refine GWs.nil ?_
    try refine SW.demote (i := 3) rfl ?_
    show SW _ _ [.dat (eX a), .hol false (g.map tupN), .dat (.int (z.2 : Nat)), .dat (eX z.1), s4] _
    refine SW.cons ?_
    refine S1.asg (i := 4) C ?_ -- _law_votes_here =
    refine EW.call c__law_row_votes C rfl ?_
    refine EWgs.cons ?_
    first | refine EW.nameD (i := 3) rfl ?_ | refine EW.nameO (i := 3) rfl ?_ -- _law_row
    refine ⟨_, rfl, ?_⟩
    refine EWgs.nil ?_
    refine ⟨List.nodup_nil, ?_⟩
    refine ⟨_, rfl, by omega, ?_⟩
    --
    refine ⟨by walk_at "sd", ?_⟩
    show SW _ _ [.dat (eX a), .hol false (g.map tupN), .dat (.int (z.2 : Nat)), .dat (eX z.1), .dat (rowD (numsW (splC 32 z.1)))] _
    refine SW.cons ?_
    apply S1.iteP
    · refine TWw.tw ?_
      apply TWw.orP (v := (decide (¬ g = []) && decide (¬ ((numsW (splC 32 z.1)).getD []).length = (g.getD 0 []).length)))
      · refine TW.cmp opA_is ?_ (nomark _)
        first | refine EW.nameD (i := 4) rfl ?_ | refine EW.nameO (i := 4) rfl ?_ -- _law_votes_here
        refine EW.nonE ?_
        refine ⟨rfl, ?_⟩
        exact ⟨rfl, rfl⟩
      · intro hb1
        obtain ⟨l, hl2, he, l1, l12⟩ := row_tup (x := numsW (splC 32 z.1)) (by have := row_none2 (numsW (splC 32 z.1)); rw [this] at hb1; simpa using hb1)
        rw [he, hl2]
        refine TWw.or1 ?_
        refine TWw.tw ?_
        apply TWw.andP (v := decide (¬ l.length = (g.getD 0 []).length))
        · refine TW.cmp (opN C) ?_ (nomark _)
          first | refine EW.nameD (i := 1) rfl ?_ | refine EW.nameO (i := 1) rfl ?_ -- _law_found
          refine EW.list ?_
          refine EWds.nil ?_
          refine ⟨(by decide : (0 : Nat) ≤ sizeLine), ?_⟩
          refine neT_nilL okN ⟨g, rfl, rfl, ?_⟩
          exact ⟨rfl, rfl⟩
        · intro hb1
          have hgp : 0 < g.length := List.length_pos_iff.mpr (of_decide_eq_true hb1)
          refine TWw.and1 ?_
          refine TW.cmp (opN C) ?_ (nomark _)
          refine EW.len C ?_
          first | refine EW.nameD (i := 4) rfl ?_ | refine EW.nameO (i := 4) rfl ?_ -- _law_votes_here
          first | refine lenR_map ⟨_, _, _, rfl, ?_⟩ | refine ⟨_, rfl, ?_⟩
          refine EW.len C ?_
          refine EW.ix ?_
          first | refine EW.nameD (i := 1) rfl ?_ | refine EW.nameO (i := 1) rfl ?_ -- _law_found
          refine EW.int ?_
          first | refine ⟨_, _, rfl, rfl, ?_⟩ | refine ixR_nat (0 : Int) ⟨_, _, (0 : Nat), rfl, rfl, by walk_at "sd", ?_⟩ | refine ixR_nat (0 : Nat) ⟨_, _, (0 : Nat), rfl, rfl, by walk_at "sd", ?_⟩ | refine ixR_nat [] ⟨_, _, (0 : Nat), rfl, rfl, by walk_at "sd", ?_⟩ | refine ixR_nat ((0, 0) : Int × Int) ⟨_, _, (0 : Nat), rfl, rfl, by walk_at "sd", ?_⟩
          first | refine lenR_map ⟨_, _, _, rfl, ?_⟩ | refine ⟨_, rfl, ?_⟩
          refine neT_int ?_
          exact ⟨decide_eq_decide.mpr (by omega), rfl⟩
        exact ⟨rfl, rfl⟩
      exact ⟨rfl, rfl⟩
    · intro h1
      try refine SW.demote (i := 2) rfl ?_
      refine SW.cons ?_
      refine S1.ret ?_
      refine EW.tuple ?_
      refine EWds.cons ?_
      refine EW.str ?_
      refine ⟨_, rfl, ?_⟩
      refine EWds.cons ?_
      first | refine EW.nameD (i := 2) rfl ?_ | refine EW.nameO (i := 2) rfl ?_ -- _law_at
      refine ⟨_, rfl, ?_⟩
      refine EWds.nil ?_
      refine ⟨(by decide : (2 : Nat) ≤ sizeLine), ?_⟩
      rw [hg.bad hz1 ((bad_bool2 rfl).trans h1)] at h
      rw [hz2]
      exact h
    intro h1
    refine SW.nil ?_
    show SW _ _ _ _
    have hb : badRow g (numsW (splC 32 z.1)) = false := (bad_bool2 rfl).trans h1
    obtain ⟨l, hl2, he, l1, l12⟩ := row_tup (good_of hb)
    rw [he]
    show SW _ _ [.dat (eX a), .hol false (g.map tupN), .dat (.int (z.2 : Nat)), .dat (eX z.1), .dat (tupN l)] _
    refine SW.cons ?_
    refine S1.expr ?_
    refine EW.appendM ?_
    first | refine EW.nameD (i := 1) rfl ?_ | refine EW.nameO (i := 1) rfl ?_ -- _law_found
    refine ⟨_, rfl, ?_⟩
    first | refine EW.nameD (i := 4) rfl ?_ | refine EW.nameO (i := 4) rfl ?_ -- _law_votes_here
    refine ⟨_, rfl, ?_⟩
    refine ⟨_, _, g, tupN, _, rfl, rfl, by have := sizeLine_eq; omega, ?_⟩
    refine SW.nil ?_
    exact ⟨g ++ [l], _, _, _, rfl, rfl, rfl, by rw [List.length_append]; exact hg.step hz1 hb hl2, rfl⟩
  rintro ρ ⟨g, s2, s3, s4, n2, n3, n4, hg, rfl⟩
  refine SW.cons ?_
  refine S1.ret ?_
  refine EW.tuple ?_
  refine EWds.cons ?_
  refine EW.str ?_
  refine ⟨_, rfl, ?_⟩
  refine EWds.cons ?_
  refine EW.tupC C ?_
  first | refine EW.nameD (i := 1) rfl ?_ | refine EW.nameO (i := 1) rfl ?_ -- _law_found
  first | refine ⟨_, rfl, ?_⟩ | refine ⟨_, hs _, ?_⟩
  refine ⟨_, rfl, ?_⟩
  refine EWds.nil ?_
  refine ⟨(by decide : (2 : Nat) ≤ sizeLine), ?_⟩
  rw [List.length_zipIdx] at hg
  rw [hg.fin] at h
  exact h
--END
end
end VM

/-! drawn votes -/
namespace VM
variable [AW.HasT]
open PySem PySem.Spec PyProof.Rows L2 AW
section
variable {P : Program} {w : World} {K : PySem.W.Frag} {mg : Str → Option Value} {base : Heap}
abbrev N__law_votes : List Str := ["_law_urn_here", "_law_least", "_law_most", "_law_great", "_law_size", "_law_way", "_law_found", "_law_at"]
theorem sc__law_votes : FnScope N__law_votes ["_law_urn_here", "_law_least", "_law_most", "_law_great"] (defScope s__law_votes) := ⟨rfl, rfl, rfl, by decide +kernel, rfl, by decide +kernel, by decide +kernel⟩
def a__law_votes : ASp := fun as R => ∃ (b : Nat) (ds : List PyData) (lo hi gr : Int), as = [.hol true ds, .dat (.int lo), .dat (.int hi), .dat (.int gr)] ∧ Urn b ds ∧ b < 100000000000 ∧ 1 ≤ lo ∧ lo ≤ hi ∧ hi ≤ 1000 ∧ 0 < gr ∧ gr < (2 ^ 240 : Nat) ∧
  ∀ (ws : List Int) ds', lo ≤ ws.length → ((ws.length : Int) ≤ hi ∧ ws.sum ≤ 2 * (hi * (max gr 3 + 1)) + 2) → (∀ x ∈ ws, 0 ≤ x ∧ x ≤ 1001 * (gr + 5)) → 0 < ws.sum → Urn (b + 5000) ds' → R (.dat (tupI ws)) [.hol true ds', .dat (.int lo), .dat (.int hi), .dat (.int gr)]
/-- the slots of the body, the votes as they stand -/
def VS (lo hi gr sz way : Int) (b : Nat) (M : Int) (t : SV) (ρ : Nv) : Prop := ∃ (ds : List PyData) (xs : List Int), ρ = [.hol true ds, .dat (.int lo), .dat (.int hi), .dat (.int gr), .dat (.int sz), .dat (.int way), .hol false (xs.map .int), t] ∧
  Urn b ds ∧ (xs.length : Int) = sz ∧ ∀ x ∈ xs, 0 ≤ x ∧ x ≤ M
def VS2 (lo hi gr sz way : Int) (b : Nat) (M T : Int) (t : SV) (ρ : Nv) : Prop := ∃ (ds : List PyData) (xs : List Int), ρ = [.hol true ds, .dat (.int lo), .dat (.int hi), .dat (.int gr), .dat (.int sz), .dat (.int way), .hol false (xs.map .int), t] ∧
  Urn b ds ∧ (xs.length : Int) = sz ∧ (∀ x ∈ xs, 0 ≤ x ∧ x ≤ M) ∧ xs.sum ≤ T
theorem sum_bound {M : Int} : ∀ {xs : List Int}, (∀ x ∈ xs, 0 ≤ x ∧ x ≤ M) → 0 ≤ xs.sum ∧ xs.sum ≤ xs.length * M
  | [], _ => by simp
  | x :: xs, h => by
    have h1 := h x List.mem_cons_self
    have h2 := sum_bound fun y hy => h y (List.mem_cons_of_mem _ hy)
    simp only [List.sum_cons, List.length_cons]
    have e : ((xs.length + 1 : Nat) : Int) * M = xs.length * M + M := by push_cast; rw [Int.add_mul]; omega
    omega
theorem sum_split : ∀ {xs : List Int} {i : Nat}, i < xs.length → xs.sum = xs.getD i 0 + (xs.eraseIdx i).sum
  | [], i, h => by simp at h
  | x :: xs, 0, _ => by simp
  | x :: xs, i + 1, h => by
    have t := sum_split (xs := xs) (i := i) (by simpa using h)
    simp only [List.sum_cons, List.getD_cons_succ, List.eraseIdx_cons_succ, t]
    omega
theorem getD_le {M : Int} {xs : List Int} (h : ∀ x ∈ xs, 0 ≤ x ∧ x ≤ M) {i : Nat} (hi : i < xs.length) : 0 ≤ xs.getD i 0 ∧ xs.getD i 0 ≤ M ∧ xs.getD i 0 ≤ xs.sum := by
  have e : xs.getD i 0 = xs[i] := by rw [List.getD_eq_getElem?_getD, List.getElem?_eq_getElem hi]; rfl
  have h1 := h _ (List.getElem_mem hi)
  have h2 := sum_split hi
  have h3 := (sum_bound (xs := xs.eraseIdx i) (M := M) fun y hy => h y (List.mem_of_mem_eraseIdx hy)).1
  rw [e] at *
  omega
theorem set_ints {xs : List Int} (i : Nat) (x : Int) : (xs.map PyData.int).set i (.int x) = (xs.set i x).map .int := by
  rw [List.map_set]
theorem sum_set_pos {M : Int} {xs : List Int} (h : ∀ x ∈ xs, 0 ≤ x ∧ x ≤ M) {i : Nat} (hi : i < xs.length) {x : Int} (hx : 0 < x) : 0 < (xs.set i x).sum := by
  have h2 := sum_split (xs := xs.set i x) (i := i) (by simpa using hi)
  have e : (xs.set i x).getD i 0 = x := by rw [List.getD_eq_getElem?_getD, List.getElem?_set_self hi]; rfl
  have e2 : (xs.set i x).eraseIdx i = xs.eraseIdx i := by rw [List.eraseIdx_set_eq]
  have h3 := (sum_bound (xs := xs.eraseIdx i) (M := M) fun y hy => h y (List.mem_of_mem_eraseIdx hy)).1
  rw [e, e2] at h2
  omega
theorem sum_set_eq {xs : List Int} {i : Nat} (hi : i < xs.length) (x : Int) : (xs.set i x).sum = x + (xs.sum - xs.getD i 0) := by
  have h2 := sum_split (xs := xs.set i x) (i := i) (by simpa using hi)
  have h1 := sum_split hi
  have e : (xs.set i x).getD i 0 = x := by rw [List.getD_eq_getElem?_getD, List.getElem?_set_self hi]; rfl
  have e2 : (xs.set i x).eraseIdx i = xs.eraseIdx i := by rw [List.eraseIdx_set_eq]
  rw [e, e2] at h2
  omega
theorem mem_set_le {M : Int} {xs : List Int} (h : ∀ x ∈ xs, 0 ≤ x ∧ x ≤ M) {i : Nat} {x : Int} (h0 : 0 ≤ x) (h1 : x ≤ M) : ∀ y ∈ xs.set i x, 0 ≤ y ∧ y ≤ M := fun y hy => by
  rcases List.mem_or_eq_of_mem_set hy with z | rfl
  · exact h y z
  · exact ⟨h0, h1⟩
theorem ok__law_votes {f : Addr} {fd : FuncData} (F : Fun K "_law_votes" "_law_votes" s__law_votes f fd) (B : Blt mg) (c__law_take : Cal P w K mg base 1 "_law_take" a__law_take) (c__law_of : Cal P w K mg base 2 "_law_of" a__law_of) : FnG P w K mg base CX0 3 f fd ["_law_urn_here", "_law_least", "_law_most", "_law_great"] (toSp K a__law_votes) := by
  replace c__law_take := c__law_take.mono (show 1 ≤ 2 by decide)
  refine fnA F sc__law_votes (by decide) B (fun as R h => ?_) fun cdv A outer s H E C as R h => ?_
  · obtain ⟨_, _, _, _, _, rfl, _⟩ := h; rfl
  obtain ⟨b, ds, lo, hi, gr, rfl, hU, hb, hlo, hlh, hhi, hg0, hg1, hR⟩ := h
  refine SW.cut (fun ρ => ∃ ds sz way, ρ = [.hol true ds, .dat (.int lo), .dat (.int hi), .dat (.int gr), .dat (.int sz), .dat (.int way), .un, .un] ∧ Urn (b + 2) ds ∧ lo ≤ sz ∧ sz ≤ hi) ?_ ?_
  · refine S1.par (i := 4) (j := 5) C ?_ rfl rfl (by decide) rfl rfl rfl
    refine EW.add ?_
    refine EW.nameD (i := 1) rfl ?_ -- _law_least
    refine EW.call c__law_take C rfl ?_
    refine EWgs.cons ?_
    refine EW.nameO (i := 0) rfl ?_ -- _law_urn_here
    refine ⟨_, rfl, ?_⟩
    refine EWgs.cons ?_
    refine EW.add ?_
    refine EW.sub ?_
    refine EW.nameD (i := 2) rfl ?_ -- _law_most
    refine EW.nameD (i := 1) rfl ?_ -- _law_least
    refine ⟨trivial, ?_⟩
    refine EW.int ?_
    refine ⟨_, rfl, ?_⟩
    refine EWgs.nil ?_
    refine ⟨(by decide : [0].Nodup), ?_⟩
    refine ⟨b, ds, hi - lo + 1, rfl, hU, by omega, by omega, by omega, fun v ds' h0 h1 hU' => ?_⟩
    refine EW.call c__law_take C rfl ?_
    refine EWgs.cons ?_
    refine EW.nameO (i := 0) rfl ?_ -- _law_urn_here
    refine ⟨_, rfl, ?_⟩
    refine EWgs.cons ?_
    refine EW.int ?_
    refine ⟨_, rfl, ?_⟩
    refine EWgs.nil ?_
    refine ⟨(by decide : [0].Nodup), ?_⟩
    refine ⟨b + 1, ds', 6, rfl, hU', by omega, by omega, by omega, fun v2 ds2 h2 h3 hU2 => ?_⟩
    exact ⟨rfl, rfl, ds2, lo + v, v2, rfl, hU2, by omega, by omega⟩
  rintro ρ ⟨ds, sz, way, rfl, hU, hs0, hs1⟩
  refine SW.cut (VS lo hi gr sz way (b + 3002) (max gr 3) .un) ?_ ?_
  · refine S1.asgLc (i := 6) (own := [("_law_at", 7)]) (is := [7]) C ?_ rfl rfl rfl (blkOk_by (N := N__law_votes) (sc := defScope s__law_votes) (by decide +kernel)) (by decide)
    refine IW.range1 C ?_
    refine EW.nameD (i := 4) rfl ?_ -- _law_size
    refine ⟨_, rfl, by omega, by omega, ?_⟩
    have ln : (rngD 0 sz.toNat).length = sz.toNat := by simp [rngD]
    refine ⟨by omega, rfl, fun i acc ρ => ∃ ds xs, ρ = [.hol true ds, .dat (.int lo), .dat (.int hi), .dat (.int gr), .dat (.int sz), .dat (.int way), .un, .un] ∧ Urn (b + 2 + 3 * i) ds ∧ acc = xs.map .int ∧ xs.length = i ∧ ∀ x ∈ xs, 0 ≤ x ∧ x ≤ max gr 3, ⟨ds, [], rfl, hU, rfl, rfl, by simp⟩, ?_, ?_⟩
    · rintro i d acc ρ hd ⟨ds, xs, rfl, hU, rfl, hxl, hxs⟩
      have hi' : i < sz.toNat := by rw [← ln]; exact (List.getElem?_eq_some_iff.mp hd).1
      refine Turn1.nil fun s0 H0 C0 cl fp => ?_
      refine GW.name C.nd (i := 7) ⟨rfl, ?_⟩
      intro s0 H0 C0 cl fp
      refine EW.call c__law_of (C.blk ..) rfl ?_
      refine EWgs.cons ?_
      refine EW.nameO (i := 0) rfl ?_ -- _law_urn_here
      refine ⟨_, rfl, ?_⟩
      refine EWgs.cons ?_
      refine EW.list ?_
      refine EWds.cons ?_
      refine EW.call c__law_take (C.blk ..) rfl ?_
      refine EWgs.cons ?_
      refine EW.nameO (i := 0) rfl ?_ -- _law_urn_here
      refine ⟨_, rfl, ?_⟩
      refine EWgs.cons ?_
      refine EW.add ?_
      refine EW.nameD (i := 3) rfl ?_ -- _law_great
      refine EW.int ?_
      refine ⟨_, rfl, ?_⟩
      refine EWgs.nil ?_
      refine ⟨(by decide : [0].Nodup), ?_⟩
      refine ⟨b + 2 + 3 * i, ds, gr + 1, rfl, hU, by omega, by omega, by omega, fun v1 ds1 h10 h11 hU1 => ?_⟩
      refine ⟨_, rfl, ?_⟩
      refine EWds.cons ?_
      refine EW.call c__law_take (C.blk ..) rfl ?_
      refine EWgs.cons ?_
      refine EW.nameO (i := 0) rfl ?_ -- _law_urn_here
      refine ⟨_, rfl, ?_⟩
      refine EWgs.cons ?_
      refine EW.int ?_
      refine ⟨_, rfl, ?_⟩
      refine EWgs.nil ?_
      refine ⟨(by decide : [0].Nodup), ?_⟩
      refine ⟨b + 2 + 3 * i + 1, ds1, 4, rfl, hU1, by omega, by omega, by omega, fun v2 ds2 h20 h21 hU2 => ?_⟩
      refine ⟨_, rfl, ?_⟩
      refine EWds.cons ?_
      refine EW.int ?_
      refine ⟨_, rfl, ?_⟩
      refine EWds.nil ?_
      refine ⟨(by decide : (3 : Nat) ≤ sizeLine), ?_⟩
      refine ⟨_, rfl, ?_⟩
      refine EWgs.nil ?_
      refine ⟨(by decide : [0].Nodup), ?_⟩
      refine ⟨b + 2 + 3 * i + 2, ds2, _, rfl, hU2, by omega, by simp, by simp, fun d ds3 hd3 hU3 => ?_⟩
      have hx : ∃ x : Int, d = .int x ∧ 0 ≤ x ∧ x ≤ max gr 3 := by
        simp only [List.mem_cons, List.not_mem_nil, or_false] at hd3
        rcases hd3 with rfl | rfl | rfl
        · exact ⟨_, rfl, h10, by omega⟩
        · exact ⟨_, rfl, h20, by omega⟩
        · exact ⟨_, rfl, by omega, by omega⟩
      obtain ⟨x, rfl, hx0, hx1⟩ := hx
      refine ⟨_, rfl, ds3, xs ++ [x], rfl, hU3.mono (by omega), by simp [addO], by simp [hxl], fun y hy => ?_⟩
      rcases List.mem_append.mp hy with hy | hy
      · exact hxs y hy
      · obtain rfl := List.mem_singleton.mp hy
        exact ⟨hx0, hx1⟩
    · rintro acc ρ ⟨ds, xs, rfl, hU, rfl, hxl, hxs⟩
      rw [ln] at hU hxl
      exact ⟨rfl, ds, xs, rfl, hU.mono (by omega), by omega, hxs⟩
  rintro ρ ⟨ds, xs, rfl, hU, hxl, hxs⟩
  refine SW.cut (VS lo hi gr sz way (b + 3002) (max gr 3 + 1) .un) ?_ ?_
  · refine S1.ite ?_
    refine TW.cmp (opA_eq C) ?_ (nomark _)
    refine EW.nameD (i := 5) rfl ?_ -- _law_way
    refine EW.int ?_
    refine ⟨_, _, rfl, rfl, rfl, rfl, ?_⟩
    refine ite_b (fun h1 => ?_) (fun h1 => ?_)
    · -- then
      have hd : (xs.map PyData.int)[0]? = some (.int (xs.getD 0 0)) := by
        rw [List.getElem?_map, List.getD_eq_getElem?_getD, List.getElem?_eq_getElem (by omega)]; rfl
      have hg := getD_le hxs (i := 0) (by omega)
      refine SW.cons ?_
      refine S1.asg (i := 6) C ?_ -- _law_found =
      refine EW.mul ?_
      refine EW.list ?_
      refine EWds.cons ?_
      refine EW.add ?_
      refine EW.int ?_
      refine EW.ix ?_
      refine EW.nameO (i := 6) rfl ?_ -- _law_found
      refine EW.int ?_
      refine ⟨_, _, rfl, atI_nat (j := 0) hd, ?_⟩
      refine ⟨_, rfl, ?_⟩
      refine EWds.nil ?_
      refine ⟨(by decide : (1 : Nat) ≤ sizeLine), ?_⟩
      refine EW.nameD (i := 4) rfl ?_ -- _law_size
      have sl : (sizeLine : Nat) = 16777216 := sizeLine_eq
      refine ⟨_, rfl, by omega, by omega, by show 1 * sz.toNat ≤ sizeLine; omega, ?_⟩
      refine ⟨rfl, ?_⟩
      refine SW.nil ?_
      refine ⟨ds, List.replicate sz.toNat (1 + xs.getD 0 0), ?_, hU, by simp; omega, fun x hx => ?_⟩
      · have e : (List.replicate sz.toNat [PyData.int (1 + xs.getD 0 0)]).flatten = (List.replicate sz.toNat (1 + xs.getD 0 0)).map .int := by
          induction sz.toNat with
          | zero => rfl
          | succ n ih => simp only [List.replicate_succ, List.flatten_cons, ih]; rfl
        rw [← e]
        rfl
      · obtain ⟨_, rfl⟩ := List.mem_replicate.mp hx
        omega
    · refine SW.nil ?_
      exact ⟨ds, xs, rfl, hU, hxl, fun x hx => by have := hxs x hx; omega⟩
  clear hU hxl hxs
  rintro ρ ⟨ds, xs, rfl, hU, hxl, hxs⟩
  refine SW.cut (VS lo hi gr sz way (b + 3002) (max gr 3 + 1) .un) ?_ ?_
  · refine S1.ite ?_
    refine TW.cmp (opA_eq C) ?_ (nomark _)
    refine EW.nameD (i := 5) rfl ?_ -- _law_way
    refine EW.int ?_
    refine ⟨_, _, rfl, rfl, rfl, rfl, ?_⟩
    refine ite_b (fun h1 => ?_) (fun h1 => ?_)
    · -- then
      refine SW.demote (i := 6) rfl ?_
      refine SW.cons ?_
      refine S1.asgLcP xs .int (fun x => some (.int (x % 2))) (i := 6) (own := [("_law_at", 7)]) (is := [7]) C ?_ rfl rfl rfl (blkOk_by (N := N__law_votes) (sc := defScope s__law_votes) (by decide +kernel)) (by decide)
      refine IW.list ?_ -- or list
      refine EW.nameD (i := 6) rfl ?_ -- _law_found
      refine ⟨_, rfl, ?_⟩
      refine ⟨rfl, by omega, rfl, fun z hz => ?_, ?_⟩
      · refine Turn1.nil fun s0 H0 C0 cl fp => ?_
        refine GW.name C.nd (i := 7) ⟨rfl, ?_⟩
        intro s0 H0 C0 cl fp
        refine EW.mod ?_
        refine EW.nameD (i := 7) rfl ?_ -- _law_at
        refine EW.int ?_
        refine ⟨(by decide : (0 : Int) < 2), ?_⟩
        exact ⟨_, rfl, rfl, rfl⟩
      refine ⟨rfl, ?_⟩
      refine SW.nil ?_
      refine ⟨ds, xs.map (· % 2), ?_, hU, by simpa using hxl, fun x hx => ?_⟩
      · have e : xs.filterMap (fun x => some (PyData.int (x % 2))) = (xs.map (· % 2)).map .int := by
          rw [List.filterMap_eq_map', List.map_map]
          rfl
        rw [← e]
        rfl
      · obtain ⟨y, hy, rfl⟩ := List.mem_map.mp hx
        have := Int.emod_nonneg y (by decide : (2 : Int) ≠ 0)
        have := Int.emod_lt_of_pos y (by decide : (0 : Int) < 2)
        show 0 ≤ y % 2 ∧ y % 2 ≤ max gr 3 + 1
        omega
    · refine SW.nil ?_
      exact ⟨ds, xs, rfl, hU, hxl, hxs⟩
  clear hU hxl hxs
  rintro ρ ⟨ds, xs, rfl, hU, hxl, hxs⟩
  refine SW.cut (fun ρ => ∃ t, VS2 lo hi gr sz way (b + 3004) (1001 * (gr + 5)) (2 * (hi * (max gr 3 + 1)) + 2) t ρ) ?_ ?_
  · refine S1.ite ?_
    refine TW.cmp (opA_eq C) ?_ (nomark _)
    refine EW.nameD (i := 5) rfl ?_ -- _law_way
    refine EW.int ?_
    refine ⟨_, _, rfl, rfl, rfl, rfl, ?_⟩
    refine ite_b (fun h1 => ?_) (fun h1 => ?_)
    · -- then
      refine SW.cons ?_
      refine S1.asg (i := 7) C ?_ -- _law_at =
      refine EW.call c__law_take C rfl ?_
      refine EWgs.cons ?_
      refine EW.nameO (i := 0) rfl ?_ -- _law_urn_here
      refine ⟨_, rfl, ?_⟩
      refine EWgs.cons ?_
      refine EW.nameD (i := 4) rfl ?_ -- _law_size
      refine ⟨_, rfl, ?_⟩
      refine EWgs.nil ?_
      refine ⟨(by decide : [0].Nodup), ?_⟩
      refine ⟨b + 3002, ds, sz, rfl, hU, by omega, by omega, by omega, fun v ds1 h0 h1 hU1 => ?_⟩
      obtain ⟨j, rfl⟩ := Int.eq_ofNat_of_zero_le h0
      have hj : j < xs.length := by omega
      have hd : (xs.map PyData.int)[j]? = some (.int (xs.getD j 0)) := by
        rw [List.getElem?_map, List.getD_eq_getElem?_getD, List.getElem?_eq_getElem hj]; rfl
      have hg := getD_le hxs hj
      have hs := sum_bound hxs
      refine ⟨rfl, ?_⟩
      refine SW.cons ?_
      refine S1.setItem ?_
      refine EW.add ?_
      refine EW.sub ?_
      refine EW.sum C ?_
      refine EW.nameO (i := 6) rfl ?_ -- _law_found
      refine ⟨_, rfl, ?_⟩
      refine EW.ix ?_
      refine EW.nameO (i := 6) rfl ?_ -- _law_found
      refine EW.nameD (i := 7) rfl ?_ -- _law_at
      refine ⟨_, _, rfl, atI_nat hd, ?_⟩
      refine ⟨trivial, ?_⟩
      refine EW.call c__law_take C rfl ?_
      refine EWgs.cons ?_
      refine EW.nameO (i := 0) rfl ?_ -- _law_urn_here
      refine ⟨_, rfl, ?_⟩
      refine EWgs.cons ?_
      refine EW.int ?_
      refine ⟨_, rfl, ?_⟩
      refine EWgs.nil ?_
      refine ⟨(by decide : [0].Nodup), ?_⟩
      refine ⟨b + 3003, ds1, 3, rfl, hU1, by omega, by omega, by omega, fun v2 ds2 h20 h21 hU2 => ?_⟩
      refine ⟨_, rfl, ?_⟩
      refine EW.nameO (i := 6) rfl ?_ -- _law_found
      refine ⟨_, rfl, ?_⟩
      refine EW.nameD (i := 7) rfl ?_ -- _law_at
      refine ⟨_, j, _, _, rfl, rfl, by rw [List.length_map]; exact ixN_in h0 (by omega), ?_⟩
      refine SW.nil ?_
      have hM : (xs.length : Int) * (max gr 3 + 1) ≤ 1000 * (max gr 3 + 1) := Int.mul_le_mul_of_nonneg_right (by omega) (by omega)
      have hM2 : (xs.length : Int) * (max gr 3 + 1) ≤ hi * (max gr 3 + 1) := Int.mul_le_mul_of_nonneg_right (by omega) (by omega)
      have hset := sum_set_eq hj (xs.sum - xs.getD j 0 + v2)
      refine ⟨.dat (.int j), ds2, xs.set j (xs.sum - xs.getD j 0 + v2), ?_, hU2, by simpa using hxl, mem_set_le (fun x hx => by have := hxs x hx; omega) (by omega) (by omega), by omega⟩
      rw [← set_ints]
      rfl
    · refine SW.nil ?_
      have hs := sum_bound hxs
      have hM2 : (xs.length : Int) * (max gr 3 + 1) ≤ hi * (max gr 3 + 1) := Int.mul_le_mul_of_nonneg_right (by omega) (by omega)
      exact ⟨_, ds, xs, rfl, hU.mono (by omega), hxl, fun x hx => by have := hxs x hx; omega, by omega⟩
  clear hU hxl hxs
  rintro ρ ⟨t, ds, xs, rfl, hU, hxl, hxs, hT⟩
  refine SW.cut (fun ρ => ∃ (ds : List PyData) (xs : List Int), ρ = [.hol true ds, .dat (.int lo), .dat (.int hi), .dat (.int gr), .dat (.int sz), .dat (.int way), .hol false (xs.map PyData.int), t] ∧ Urn (b + 5000) ds ∧ (xs.length : Int) = sz ∧ (∀ x ∈ xs, 0 ≤ x ∧ x ≤ 1001 * (gr + 5)) ∧ 0 < xs.sum ∧ xs.sum ≤ 2 * (hi * (max gr 3 + 1)) + 2) ?_ ?_
  · refine S1.ite ?_
    refine TW.cmp (opA_eq C) ?_ (nomark _)
    refine EW.sum C ?_
    refine EW.nameO (i := 6) rfl ?_ -- _law_found
    refine ⟨_, rfl, ?_⟩
    refine EW.int ?_
    refine ⟨_, _, rfl, rfl, rfl, rfl, ?_⟩
    refine ite_b (fun h1 => ?_) (fun h1 => ?_)
    · -- then
      refine SW.cons ?_
      refine S1.setItem ?_
      refine EW.add ?_
      refine EW.int ?_
      refine EW.call c__law_take C rfl ?_
      refine EWgs.cons ?_
      refine EW.nameO (i := 0) rfl ?_ -- _law_urn_here
      refine ⟨_, rfl, ?_⟩
      refine EWgs.cons ?_
      refine EW.nameD (i := 3) rfl ?_ -- _law_great
      refine ⟨_, rfl, ?_⟩
      refine EWgs.nil ?_
      refine ⟨(by decide : [0].Nodup), ?_⟩
      refine ⟨b + 3004, ds, gr, rfl, hU, by omega, by omega, by omega, fun v ds1 h0 h1' hU1 => ?_⟩
      refine ⟨_, rfl, ?_⟩
      refine EW.nameO (i := 6) rfl ?_ -- _law_found
      refine ⟨_, rfl, ?_⟩
      refine EW.call c__law_take C rfl ?_
      refine EWgs.cons ?_
      refine EW.nameO (i := 0) rfl ?_ -- _law_urn_here
      refine ⟨_, rfl, ?_⟩
      refine EWgs.cons ?_
      refine EW.nameD (i := 4) rfl ?_ -- _law_size
      refine ⟨_, rfl, ?_⟩
      refine EWgs.nil ?_
      refine ⟨(by decide : [0].Nodup), ?_⟩
      refine ⟨b + 3005, ds1, sz, rfl, hU1, by omega, by omega, by omega, fun v2 ds2 h20 h21 hU2 => ?_⟩
      obtain ⟨j, rfl⟩ := Int.eq_ofNat_of_zero_le h20
      have hj : j < xs.length := by omega
      refine ⟨_, j, _, _, rfl, rfl, by rw [List.length_map]; exact ixN_in h20 (by omega), ?_⟩
      refine SW.nil ?_
      have e : xs.sum = 0 := by simpa [PyData.eqv] using h1
      have hset := sum_set_eq hj (1 + v)
      have hg := getD_le hxs hj
      have hM2 : 1 * (max gr 3 + 1) ≤ hi * (max gr 3 + 1) := Int.mul_le_mul_of_nonneg_right (by omega) (by omega)
      refine ⟨ds2, xs.set j (1 + v), ?_, hU2.mono (by omega), by simpa using hxl, mem_set_le hxs (by omega) (by omega), sum_set_pos hxs hj (by omega), by omega⟩
      rw [← set_ints]
      rfl
    · refine SW.nil ?_
      have e : xs.sum ≠ 0 := by simpa [PyData.eqv] using h1
      have hs := (sum_bound hxs).1
      exact ⟨ds, xs, rfl, hU.mono (by omega), hxl, hxs, by omega, hT⟩
  clear hU hxl hxs
  rintro ρ ⟨ds, xs, rfl, hU, hxl, hxs, hpos, hT⟩
  refine SW.cons ?_
  refine S1.ret ?_
  refine EW.tupC C ?_
  refine EW.nameO (i := 6) rfl ?_ -- _law_found
  refine ⟨_, rfl, ?_⟩
  exact hR xs ds (by omega) ⟨by omega, hT⟩ hxs hpos hU
end
end VM

/-! _law_odd -/
namespace VM
variable [AW.HasT]
open PySem PySem.Spec PyProof.Rows L2 AW
local macro_rules | `(tactic| walk_at "sd") => `(tactic| first | omega | assumption | exact pin_nH rfl (by assumption) | rfl | trivial | (show (0 : Int) < _; omega) | (have sl0 := sizeLine_eq; omega) | (simp only [List.length_map, List.length_append, List.length_cons, List.length_nil, List.length_range, List.length_zipIdx, List.length_zip]; omega) | exact allN_small (by omega) | exact allN_lt (by assumption) | exact fun i hi => Nat.lt_of_lt_of_le (allN_lt (by assumption) i hi) (by omega) | exact allN_glen (by assumption) (by omega) | (simp; done) | (have sl0 := sizeLine_eq; simp; omega) | decide)
local macro_rules | `(tactic| walk_at "mul") => `(tactic| first | exact CMulA.l (by omega) (by omega) | exact CMulA.r (by omega) (by omega) | exact CMulA.l (by decide) (by decide) | exact CMulA.r (by decide) (by decide))
local macro_rules | `(tactic| walk_at "div") => `(tactic| first | exact CDivA.small (by omega) (by omega))
local macro_rules | `(tactic| walk_at "pow") => `(tactic| first | exact powOk 8 (by omega) (by omega) (by omega) (by omega))
local macro_rules | `(tactic| walk_at "slc") => `(tactic| (show sliceR _ _ _ _ _; first | refine slT_drop 1 ⟨_, _, rfl, rfl, ?_⟩ | refine slT_dropLast ⟨_, _, rfl, ?_⟩ | refine slT_take ⟨_, _, _, rfl, rfl, ?_⟩ | refine slT_dropV ⟨_, _, _, rfl, rfl, ?_⟩ | refine slL_drop 1 ⟨_, _, rfl, rfl, ?_⟩ | refine slL_dropLast ⟨_, _, rfl, ?_⟩ | refine slL_take ⟨_, _, _, rfl, rfl, ?_⟩ | refine slL_dropV ⟨_, _, _, rfl, rfl, ?_⟩))
local macro_rules | `(tactic| walk_at "eq") => `(tactic| (show eqT _ _ _ _; first | refine eqT_int ?_ | refine eqT_bool ?_ | refine eqT_str ?_ | refine eqT_enc okI ⟨_, _, rfl, rfl, ?_⟩ | refine eqT_enc okN ⟨_, _, rfl, rfl, ?_⟩ | refine eqT_enc okTN ⟨_, _, rfl, rfl, ?_⟩ | refine eqT_enc okLN ⟨_, _, rfl, rfl, ?_⟩ | refine eqT_nilT EncOk.int ⟨_, rfl, rfl, ?_⟩ | refine eqT_nilL EncOk.int ⟨_, rfl, rfl, ?_⟩ | refine eqT_nilT okN ⟨_, rfl, rfl, ?_⟩ | refine eqT_nilL okN ⟨_, rfl, rfl, ?_⟩ | refine eqT_nilT okI ⟨_, rfl, rfl, ?_⟩ | refine eqT_nilL okI ⟨_, rfl, rfl, ?_⟩))
local macro_rules | `(tactic| walk_at "ne") => `(tactic| (show neT _ _ _ _; first | refine neT_int ?_ | refine neT_bool ?_ | refine neT_str ?_ | refine neT_enc okI ⟨_, _, rfl, rfl, ?_⟩ | refine neT_enc okN ⟨_, _, rfl, rfl, ?_⟩ | refine neT_enc okTN ⟨_, _, rfl, rfl, ?_⟩ | refine neT_enc okLN ⟨_, _, rfl, rfl, ?_⟩ | refine neT_nilT EncOk.int ⟨_, rfl, rfl, ?_⟩ | refine neT_nilL EncOk.int ⟨_, rfl, rfl, ?_⟩ | refine neT_nilT okN ⟨_, rfl, rfl, ?_⟩ | refine neT_nilL okN ⟨_, rfl, rfl, ?_⟩ | refine neT_nilT okI ⟨_, rfl, rfl, ?_⟩ | refine neT_nilL okI ⟨_, rfl, rfl, ?_⟩))
local macro_rules | `(tactic| walk_at "in") => `(tactic| (show inQ _ _ _ _ _; first | refine inQ_nat ⟨_, _, rfl, rfl, ?_⟩ | refine inQ_int ⟨_, _, rfl, rfl, ?_⟩ | refine inQ_enc okN ⟨_, _, rfl, rfl, ?_⟩ | refine inQ_enc okI ⟨_, _, rfl, rfl, ?_⟩))
local macro_rules | `(tactic| walk_at "notin") => `(tactic| (show inQ _ _ _ _ _; first | refine notQ_nat ⟨_, _, rfl, rfl, ?_⟩ | refine notQ_int ⟨_, _, rfl, rfl, ?_⟩ | refine notQ_enc okN ⟨_, _, rfl, rfl, ?_⟩ | refine notQ_enc okI ⟨_, _, rfl, rfl, ?_⟩))
section
variable {P : Program} {w : World} {K : PySem.W.Frag} {mg : Str → Option Value} {base : Heap}
--BEGIN
def oddL : List PyData := [.none, .bool true, .bool false, .int 0, .int 1, .int (-1), .int 12, .int (10 ^ 20), .str "", .str "a", .str "1", .tuple [], .list [], .dict [], .tuple [.int 0], .tuple [.int 1, .int 1], .tuple [.tuple [.int 0]], .list [.int 1], .tuple [.str "a", .int 1]]
theorem odd_base : ∀ d ∈ oddL, Gd 4 2 d := by
  have i0 : ∀ i : Int, i.natAbs < 10 ^ 30 → Gd 0 0 (.int i) := fun i h => .int 30 h
  have s0 : ∀ x : Str, x.length ≤ 1 → x.cps.toList.all (fun c => decide (c < 1114112)) = true → Gd 1 0 (.str x) := fun x h1 h2 => (Gd.str h2).mono h1 (Nat.le_refl _)
  intro d hd
  simp only [oddL, List.mem_cons, List.not_mem_nil, or_false] at hd
  rcases hd with rfl | rfl | rfl | rfl | rfl | rfl | rfl | rfl | rfl | rfl | rfl | rfl | rfl | rfl | rfl | rfl | rfl | rfl | rfl
  · exact Gd.none.mono (by decide) (by decide)
  · exact (Gd.bool _).mono (by decide) (by decide)
  · exact (Gd.bool _).mono (by decide) (by decide)
  · exact (i0 _ (by decide)).mono (by decide) (by decide)
  · exact (i0 _ (by decide)).mono (by decide) (by decide)
  · exact (i0 _ (by decide)).mono (by decide) (by decide)
  · exact (i0 _ (by decide)).mono (by decide) (by decide)
  · exact (i0 _ (by decide)).mono (by decide) (by decide)
  · exact (s0 _ (by decide) (by decide)).mono (by decide) (by decide)
  · exact (s0 _ (by decide) (by decide)).mono (by decide) (by decide)
  · exact (s0 _ (by decide) (by decide)).mono (by decide) (by decide)
  · exact (Gd.tuple .nil).mono (by decide) (by decide)
  · exact (Gd.list .nil).mono (by decide) (by decide)
  · exact Gd.dict0.mono (by decide) (by decide)
  · exact (Gd.tuple (.cons (i0 _ (by decide)) .nil)).mono (by decide) (by decide)
  · exact (Gd.tuple (.cons (i0 _ (by decide)) (.cons (i0 _ (by decide)) .nil))).mono (by decide) (by decide)
  · exact (Gd.tuple (.cons (Gd.tuple (.cons (i0 _ (by decide)) .nil)) .nil)).mono (by decide) (by decide)
  · exact (Gd.list (.cons (i0 _ (by decide)) .nil)).mono (by decide) (by decide)
  · exact (Gd.tuple (.cons (s0 _ (by decide) (by decide)) (.cons (i0 _ (by decide)) .nil))).mono (by decide) (by decide)
theorem odd_wrap {n m : Nat} {d e : PyData} (h : Gd n m d) (he : e ∈ [PyData.tuple [d], .list [d], .dict [(.str "a", d)]]) : Gd (n + 3) (m + 1) e := by
  simp only [List.mem_cons, List.not_mem_nil, or_false] at he
  rcases he with rfl | rfl | rfl
  · exact (Gd.tuple (.cons h .nil)).mono (by omega) (by omega)
  · exact (Gd.list (.cons h .nil)).mono (by omega) (by omega)
  · have e1 : ("a" : Str).length = 1 := by decide
    exact (Gd.dict1 (x := "a") (by decide) h).mono (by omega) (by omega)
abbrev N__law_odd : List Str := ["_law_urn_here", "_law_some", "_law_thing", "_law_turn"]
theorem sc__law_odd : FnScope N__law_odd ["_law_urn_here"] (defScope s__law_odd) := ⟨rfl, rfl, rfl, by decide +kernel, rfl, by decide +kernel, by decide +kernel⟩
def a__law_odd : ASp := fun as R => ∃ (b : Nat) (ds : List PyData), as = [.hol true ds] ∧ Urn b ds ∧ b < 100000000000 ∧ ∀ d ds2, Gd 64 22 d → Urn (b + 60) ds2 → R (.dat d) [.hol true ds2]
theorem ok__law_odd {f : Addr} {fd : FuncData} (F : Fun K "_law_odd" "_law_odd" s__law_odd f fd) (B : Blt mg) (c__law_of : Cal P w K mg base 2 "_law_of" a__law_of) : FnG P w K mg base CX0 3 f fd ["_law_urn_here"] (toSp K a__law_odd) := by
  refine fnA F sc__law_odd (by decide) B (fun as R h => ?_) fun cdv A outer s H E C as R h => ?_
  · obtain ⟨_, _, rfl, _⟩ := h; rfl
  obtain ⟨b, ds, rfl, hU, hb, h⟩ := h
  refine SW.cons ?_
  refine S1.asg (i := 1) C ?_ -- _law_some =
  refine EW.list ?_
  refine EWds.cons ?_
  refine EW.nonE ?_
  refine ⟨_, rfl, ?_⟩
  refine EWds.cons ?_
  refine EW.bool ?_
  refine ⟨_, rfl, ?_⟩
  refine EWds.cons ?_
  refine EW.bool ?_
  refine ⟨_, rfl, ?_⟩
  refine EWds.cons ?_
  refine EW.int ?_
  refine ⟨_, rfl, ?_⟩
  refine EWds.cons ?_
  refine EW.int ?_
  refine ⟨_, rfl, ?_⟩
  refine EWds.cons ?_
  refine EW.neg ?_
  refine EW.int ?_
  refine ⟨_, rfl, ?_⟩
  refine ⟨_, rfl, ?_⟩
  refine EWds.cons ?_
  refine EW.int ?_
  refine ⟨_, rfl, ?_⟩
  refine EWds.cons ?_
  refine EW.pow ?_
  refine EW.int ?_
  refine EW.int ?_
  refine ⟨powOk 8 (by decide) (by decide) (by decide) (by decide), ?_⟩
  refine ⟨_, rfl, ?_⟩
  refine EWds.cons ?_
  refine EW.str ?_
  refine ⟨_, rfl, ?_⟩
  refine EWds.cons ?_
  refine EW.str ?_
  refine ⟨_, rfl, ?_⟩
  refine EWds.cons ?_
  refine EW.str ?_
  refine ⟨_, rfl, ?_⟩
  refine EWds.cons ?_
  refine EW.tuple ?_
  refine EWds.nil ?_
  refine ⟨(by decide : (0 : Nat) ≤ sizeLine), ?_⟩
  refine ⟨_, rfl, ?_⟩
  refine EWds.cons ?_
  refine EW.list ?_
  refine EWds.nil ?_
  refine ⟨(by decide : (0 : Nat) ≤ sizeLine), ?_⟩
  refine ⟨_, rfl, ?_⟩
  refine EWds.cons ?_
  refine EW.disp0 ?_
  refine ⟨_, rfl, ?_⟩
  refine EWds.cons ?_
  refine EW.tuple ?_
  refine EWds.cons ?_
  refine EW.int ?_
  refine ⟨_, rfl, ?_⟩
  refine EWds.nil ?_
  refine ⟨(by decide : (1 : Nat) ≤ sizeLine), ?_⟩
  refine ⟨_, rfl, ?_⟩
  refine EWds.cons ?_
  refine EW.tuple ?_
  refine EWds.cons ?_
  refine EW.int ?_
  refine ⟨_, rfl, ?_⟩
  refine EWds.cons ?_
  refine EW.int ?_
  refine ⟨_, rfl, ?_⟩
  refine EWds.nil ?_
  refine ⟨(by decide : (2 : Nat) ≤ sizeLine), ?_⟩
  refine ⟨_, rfl, ?_⟩
  refine EWds.cons ?_
  refine EW.tuple ?_
  refine EWds.cons ?_
  refine EW.tuple ?_
  refine EWds.cons ?_
  refine EW.int ?_
  refine ⟨_, rfl, ?_⟩
  refine EWds.nil ?_
  refine ⟨(by decide : (1 : Nat) ≤ sizeLine), ?_⟩
  refine ⟨_, rfl, ?_⟩
  refine EWds.nil ?_
  refine ⟨(by decide : (1 : Nat) ≤ sizeLine), ?_⟩
  refine ⟨_, rfl, ?_⟩
  refine EWds.cons ?_
  refine EW.list ?_
  refine EWds.cons ?_
  refine EW.int ?_
  refine ⟨_, rfl, ?_⟩
  refine EWds.nil ?_
  refine ⟨(by decide : (1 : Nat) ≤ sizeLine), ?_⟩
  refine ⟨_, rfl, ?_⟩
  refine EWds.cons ?_
  refine EW.tuple ?_
  refine EWds.cons ?_
  refine EW.str ?_
  refine ⟨_, rfl, ?_⟩
  refine EWds.cons ?_
  refine EW.int ?_
  refine ⟨_, rfl, ?_⟩
  refine EWds.nil ?_
  refine ⟨(by decide : (2 : Nat) ≤ sizeLine), ?_⟩
  refine ⟨_, rfl, ?_⟩
  refine EWds.nil ?_
  refine ⟨(by decide : (19 : Nat) ≤ sizeLine), ?_⟩
  --
  refine ⟨by walk_at "sd", ?_⟩
  try refine SW.demote (i := 1) rfl ?_
  show SW _ _ [.hol true ds, .dat (.list oddL), .un, .un] _
  refine SW.cons ?_
  refine S1.asg (i := 2) C ?_ -- _law_thing =
  refine EW.call c__law_of C rfl ?_
  refine EWgs.cons ?_
  first | refine EW.nameD (i := 0) rfl ?_ | refine EW.nameO (i := 0) rfl ?_ -- _law_urn_here
  refine ⟨_, rfl, ?_⟩
  refine EWgs.cons ?_
  first | refine EW.nameD (i := 1) rfl ?_ | refine EW.nameO (i := 1) rfl ?_ -- _law_some
  refine ⟨_, rfl, ?_⟩
  refine EWgs.nil ?_
  refine ⟨(by decide : [0].Nodup), ?_⟩
  refine ⟨_, _, _, rfl, hU, by walk_at "sd", by walk_at "sd", by walk_at "sd", fun d ds hd hU => ?_⟩
  --
  refine ⟨by walk_at "sd", ?_⟩
  refine SW.cons ?_
  refine S1.forM (is := [3]) C ?_ .leaving
  refine IW.rangeN C ?_
  refine EW.call c__law_of C rfl ?_
  refine EWgs.cons ?_
  first | refine EW.nameD (i := 0) rfl ?_ | refine EW.nameO (i := 0) rfl ?_ -- _law_urn_here
  refine ⟨_, rfl, ?_⟩
  refine EWgs.cons ?_
  refine EW.list ?_
  refine EWds.cons ?_
  refine EW.int ?_
  refine ⟨_, rfl, ?_⟩
  refine EWds.cons ?_
  refine EW.int ?_
  refine ⟨_, rfl, ?_⟩
  refine EWds.cons ?_
  refine EW.int ?_
  refine ⟨_, rfl, ?_⟩
  refine EWds.cons ?_
  refine EW.int ?_
  refine ⟨_, rfl, ?_⟩
  refine EWds.cons ?_
  refine EW.int ?_
  refine ⟨_, rfl, ?_⟩
  refine EWds.cons ?_
  refine EW.int ?_
  refine ⟨_, rfl, ?_⟩
  refine EWds.nil ?_
  refine ⟨(by decide : (6 : Nat) ≤ sizeLine), ?_⟩
  refine ⟨_, rfl, ?_⟩
  refine EWgs.nil ?_
  refine ⟨(by decide : [0].Nodup), ?_⟩
  refine ⟨_, _, [.int 0, .int 0, .int 0, .int 1, .int 2, .int 20], rfl, hU, by walk_at "sd", by simp, by simp, fun dn ds hdn hU => ?_⟩
  obtain ⟨n, rfl, hn⟩ : ∃ n : Nat, dn = .int (n : Int) ∧ n ≤ 20 := by
    simp only [List.mem_cons, List.not_mem_nil, or_false] at hdn
    rcases hdn with rfl | rfl | rfl | rfl | rfl | rfl
    · exact ⟨0, rfl, by decide⟩
    · exact ⟨0, rfl, by decide⟩
    · exact ⟨0, rfl, by decide⟩
    · exact ⟨1, rfl, by decide⟩
    · exact ⟨2, rfl, by decide⟩
    · exact ⟨20, rfl, by decide⟩
  refine ⟨_, rfl, by walk_at "sd", ?_⟩
  refine ⟨_, _, _, rfl, fun pre ρ => ∃ ds e t3, ρ = [.hol true ds, .dat (.list oddL), .dat e, t3] ∧ nH t3 = true ∧ Urn (b + 2 + pre.length) ds ∧ Gd (4 + 3 * pre.length) (2 + pre.length) e, ⟨_, _, _, rfl, rfl, hU.mono (by simp), odd_base d hd⟩, ?_, ?_⟩
  · rintro pre z post ρ hx ⟨ds, e, t3, rfl, n3, hU, hG⟩
    have hpl : pre.length < n := by
      have := congrArg List.length hx
      rw [List.length_range, List.length_append, List.length_cons] at this
      omega
    have hzr := List.mem_range.mp (show z ∈ List.range _ by rw [hx]; simp)
    refine GW.name C.nd (i := 3) ⟨by walk_at "sd", ?_⟩
    try refine SW.demote (i := 2) rfl ?_
    refine SW.cons ?_
    refine S1.asg (i := 2) C ?_ -- _law_thing =
    refine EW.call c__law_of C rfl ?_
    refine EWgs.cons ?_
    first | refine EW.nameD (i := 0) rfl ?_ | refine EW.nameO (i := 0) rfl ?_ -- _law_urn_here
    refine ⟨_, rfl, ?_⟩
    refine EWgs.cons ?_
    refine EW.list ?_
    refine EWds.cons ?_
    refine EW.tuple ?_
    refine EWds.cons ?_
    first | refine EW.nameD (i := 2) rfl ?_ | refine EW.nameO (i := 2) rfl ?_ -- _law_thing
    refine ⟨_, rfl, ?_⟩
    refine EWds.nil ?_
    refine ⟨(by decide : (1 : Nat) ≤ sizeLine), ?_⟩
    refine ⟨_, rfl, ?_⟩
    refine EWds.cons ?_
    refine EW.list ?_
    refine EWds.cons ?_
    first | refine EW.nameD (i := 2) rfl ?_ | refine EW.nameO (i := 2) rfl ?_ -- _law_thing
    refine ⟨_, rfl, ?_⟩
    refine EWds.nil ?_
    refine ⟨(by decide : (1 : Nat) ≤ sizeLine), ?_⟩
    refine ⟨_, rfl, ?_⟩
    refine EWds.cons ?_
    refine EW.disp1S ?_
    refine EW.str ?_
    first | refine EW.nameD (i := 2) rfl ?_ | refine EW.nameO (i := 2) rfl ?_ -- _law_thing
    refine ⟨_, _, rfl, rfl, ?_⟩
    refine ⟨_, rfl, ?_⟩
    refine EWds.nil ?_
    refine ⟨(by decide : (3 : Nat) ≤ sizeLine), ?_⟩
    refine ⟨_, rfl, ?_⟩
    refine EWgs.nil ?_
    refine ⟨(by decide : [0].Nodup), ?_⟩
    refine ⟨_, _, [PyData.tuple [e], .list [e], .dict [(.str "a", e)]], rfl, hU, by omega, by simp, by simp, fun e2 ds he hU => ?_⟩
    --
    refine ⟨by walk_at "sd", ?_⟩
    refine SW.nil ?_
    exact ⟨_, _, _, rfl, rfl, by rw [List.length_append]; exact hU.mono (by simp only [List.length_cons, List.length_nil]; omega), by rw [List.length_append]; exact (odd_wrap hG he).mono (by simp; omega) (by simp; omega)⟩
  rintro ρ ⟨ds, e, t3, rfl, n3, hU, hG⟩
  rw [List.length_range] at hU hG
  refine SW.cons ?_
  refine S1.ret ?_
  first | refine EW.nameD (i := 2) rfl ?_ | refine EW.nameO (i := 2) rfl ?_ -- _law_thing
  exact h e _ (hG.mono (by omega) (by omega)) (hU.mono (by omega))
--END
end
end VM

/-! _law_right -/
namespace VM
variable [AW.HasT]
open PySem PySem.Spec PyProof.Rows L2 AW
local macro_rules | `(tactic| walk_at "sd") => `(tactic| first | omega | assumption | exact pin_nH rfl (by assumption) | rfl | trivial | (show (0 : Int) < _; omega) | (have sl0 := sizeLine_eq; omega) | (simp only [List.length_map, List.length_append, List.length_cons, List.length_nil, List.length_range, List.length_zipIdx, List.length_zip]; omega) | exact allN_small (by omega) | exact allN_lt (by assumption) | exact fun i hi => Nat.lt_of_lt_of_le (allN_lt (by assumption) i hi) (by omega) | exact allN_glen (by assumption) (by omega) | (simp; done) | (have sl0 := sizeLine_eq; simp; omega) | decide)
local macro_rules | `(tactic| walk_at "mul") => `(tactic| first | exact CMulA.l (by omega) (by omega) | exact CMulA.r (by omega) (by omega) | exact CMulA.l (by decide) (by decide) | exact CMulA.r (by decide) (by decide))
local macro_rules | `(tactic| walk_at "div") => `(tactic| first | exact CDivA.small (by omega) (by omega))
local macro_rules | `(tactic| walk_at "pow") => `(tactic| first | exact powOk 8 (by omega) (by omega) (by omega) (by omega))
local macro_rules | `(tactic| walk_at "slc") => `(tactic| (show sliceR _ _ _ _ _; first | refine slT_drop 1 ⟨_, _, rfl, rfl, ?_⟩ | refine slT_dropLast ⟨_, _, rfl, ?_⟩ | refine slT_take ⟨_, _, _, rfl, rfl, ?_⟩ | refine slT_dropV ⟨_, _, _, rfl, rfl, ?_⟩ | refine slL_drop 1 ⟨_, _, rfl, rfl, ?_⟩ | refine slL_dropLast ⟨_, _, rfl, ?_⟩ | refine slL_take ⟨_, _, _, rfl, rfl, ?_⟩ | refine slL_dropV ⟨_, _, _, rfl, rfl, ?_⟩))
local macro_rules | `(tactic| walk_at "eq") => `(tactic| (show eqT _ _ _ _; first | refine eqT_int ?_ | refine eqT_bool ?_ | refine eqT_str ?_ | refine eqT_enc okI ⟨_, _, rfl, rfl, ?_⟩ | refine eqT_enc okN ⟨_, _, rfl, rfl, ?_⟩ | refine eqT_enc okTN ⟨_, _, rfl, rfl, ?_⟩ | refine eqT_enc okLN ⟨_, _, rfl, rfl, ?_⟩ | refine eqT_nilT EncOk.int ⟨_, rfl, rfl, ?_⟩ | refine eqT_nilL EncOk.int ⟨_, rfl, rfl, ?_⟩ | refine eqT_nilT okN ⟨_, rfl, rfl, ?_⟩ | refine eqT_nilL okN ⟨_, rfl, rfl, ?_⟩ | refine eqT_nilT okI ⟨_, rfl, rfl, ?_⟩ | refine eqT_nilL okI ⟨_, rfl, rfl, ?_⟩))
local macro_rules | `(tactic| walk_at "ne") => `(tactic| (show neT _ _ _ _; first | refine neT_int ?_ | refine neT_bool ?_ | refine neT_str ?_ | refine neT_enc okI ⟨_, _, rfl, rfl, ?_⟩ | refine neT_enc okN ⟨_, _, rfl, rfl, ?_⟩ | refine neT_enc okTN ⟨_, _, rfl, rfl, ?_⟩ | refine neT_enc okLN ⟨_, _, rfl, rfl, ?_⟩ | refine neT_nilT EncOk.int ⟨_, rfl, rfl, ?_⟩ | refine neT_nilL EncOk.int ⟨_, rfl, rfl, ?_⟩ | refine neT_nilT okN ⟨_, rfl, rfl, ?_⟩ | refine neT_nilL okN ⟨_, rfl, rfl, ?_⟩ | refine neT_nilT okI ⟨_, rfl, rfl, ?_⟩ | refine neT_nilL okI ⟨_, rfl, rfl, ?_⟩))
local macro_rules | `(tactic| walk_at "in") => `(tactic| (show inQ _ _ _ _ _; first | refine inQ_nat ⟨_, _, rfl, rfl, ?_⟩ | refine inQ_int ⟨_, _, rfl, rfl, ?_⟩ | refine inQ_enc okN ⟨_, _, rfl, rfl, ?_⟩ | refine inQ_enc okI ⟨_, _, rfl, rfl, ?_⟩))
local macro_rules | `(tactic| walk_at "notin") => `(tactic| (show inQ _ _ _ _ _; first | refine notQ_nat ⟨_, _, rfl, rfl, ?_⟩ | refine notQ_int ⟨_, _, rfl, rfl, ?_⟩ | refine notQ_enc okN ⟨_, _, rfl, rfl, ?_⟩ | refine notQ_enc okI ⟨_, _, rfl, rfl, ?_⟩))
section
variable {P : Program} {w : World} {K : PySem.W.Frag} {mg : Str → Option Value} {base : Heap}
--BEGIN
local macro_rules | `(tactic| walk_at "lnx") => `(tactic| (have := sizeLine_eq; first | omega | (simp only [List.length_take, List.length_drop, List.length_append, List.length_cons, List.length_nil, List.length_reverse]; omega)))
def base2 (s v : List Nat) : List (List Nat) := [s, s ++ [10], [10] ++ s, s ++ [10] ++ v, []]
def tail2 : List (List Nat) := [[49, 10, 48], [48, 10, 49], [49, 10, 49, 10, 49, 32, 49]]
def long2 (l : List Nat) : List (List Nat) := [l, l ++ [10, 49], l ++ [10, 49, 32, 50, 32, 51], l ++ [10] ++ l, l ++ [10]]
theorem base2_len {s v l : List Nat} (h : s.length ≤ 1600) (hv : v.length ≤ 300) (hl : l.length ≤ 1400) : ∀ x ∈ base2 s v ++ tail2 ++ long2 l, x.length ≤ 20000 := by
  intro x hx
  simp only [base2, tail2, long2, List.mem_append, List.mem_cons, List.not_mem_nil, or_false] at hx
  rcases hx with ((rfl | rfl | rfl | rfl | rfl) | (rfl | rfl | rfl)) | (rfl | rfl | rfl | rfl | rfl) <;> first | omega | (simp only [List.length_append, List.length_cons, List.length_nil]; omega) | decide
theorem txs_sum {k : Nat} : ∀ {L : List (List Nat)}, (∀ x ∈ L, x.length ≤ k) → (L.map List.length).sum ≤ k * L.length
  | [], _ => by simp
  | a :: L, h => by
    have h1 := h a List.mem_cons_self
    have h2 := txs_sum fun x hx => h x (List.mem_cons_of_mem _ hx)
    rw [List.map_cons, List.sum_cons, List.length_cons, Nat.mul_add, Nat.mul_one]
    omega
theorem way_inr : ∀ {rs g : List (List Nat)} {w : Nat ⊕ List (List Nat)}, wayR rs g = w → (∀ x ∈ g, x.length ≤ 12 ∧ ∀ n ∈ x, n < 10 ^ 40) → match w with
    | .inl n => n ≤ g.length + rs.length
    | .inr f => f.length = g.length + rs.length ∧ ∀ x ∈ f, x.length ≤ 12 ∧ ∀ n ∈ x, n < 10 ^ 40
  | [], g, w, h, hg => by
    subst h
    exact ⟨rfl, hg⟩
  | r :: rs, g, w, h, hg => by
    rw [wayR] at h
    split at h
    · subst h
      show g.length ≤ _
      omega
    · rename_i hb
      obtain ⟨l, hl, l1, l2⟩ := good_some (good_of (by simpa using hb))
      rw [hl] at h
      have ih := way_inr h fun x hx => by
        rcases List.mem_append.mp hx with hx | hx
        · exact hg x hx
        · rw [List.mem_singleton.mp hx]
          exact ⟨l2, (nums_lt hl).2⟩
      cases w with
      | inl n =>
        have ih : n ≤ _ := ih
        show n ≤ _
        simp only [List.length_append, List.length_cons, List.length_nil] at ih ⊢
        omega
      | inr f =>
        obtain ⟨i1, i2⟩ := ih
        refine ⟨?_, i2⟩
        simp only [List.length_append, List.length_cons, List.length_nil] at i1 ⊢
        omega
theorem shw_dueW {a : List Nat} (ha : a.length ≤ 20000) : Shw (dueW (wayR (splC 10 a) [])) := by
  have hs := (splC_size 10 a).2
  have hw := way_inr (rs := splC 10 a) (g := []) rfl (by simp)
  cases h : wayR (splC 10 a) [] with
  | inl n =>
    rw [h] at hw
    have hn : n ≤ 0 + (splC 10 a).length := hw
    exact (Sm.tuple (SmAll.cons (Sm.str (B := 60) (x := "bad") (by decide)) (.cons (Sm.int (B := 60) 5 (show ((n : Nat) : Int).natAbs < 10 ^ 5 by simp; omega)) .nil))).shw (by decide) (by decide) (by decide)
  | inr f =>
    rw [h] at hw
    obtain ⟨h1, h2⟩ := hw
    simp only [List.length_nil, Nat.zero_add] at h1
    have st : ∀ d ∈ f.map tupN, Sm 60 12 1 d := fun d hd => by
      obtain ⟨l, hl, rfl⟩ := List.mem_map.mp hd
      have := h2 l hl
      exact (Sm.tuple ((SmAll.all (n := 0) (m := 0) fun d hd => by
        obtain ⟨x, hx, rfl⟩ := List.mem_map.mp hd
        exact Sm.int 45 (show ((x : Nat) : Int).natAbs < 10 ^ 45 from Nat.lt_trans (by simpa using this.2 x hx) (by decide))).mono (by simp only [List.length_map]; omega) (Nat.le_refl _)))
    have sa := (SmAll.all st).mono (n' := 20001 * 13) (by simp only [List.length_map]; omega) (Nat.le_refl _)
    exact (Sm.tuple (SmAll.cons (Sm.str (B := 60) (x := "told") (by decide)) (.cons (Sm.tuple sa) .nil))).shw (by decide) (by decide) (by decide)
def badD (n : Int) : PyData := .tuple [.str "bad", .int n]
theorem okBad : EncOk 1 badD := ⟨fun a b => by
  show PyData.eqv (.tuple [.str "bad", .int a]) (.tuple [.str "bad", .int b]) = _
  unfold PyData.eqv
  simp only [PyData.eqvAll]
  by_cases h : a = b
  · subst h; simp [PyData.eqv]
  · simp [PyData.eqv, h], fun a => by
  show PyData.canLay0 (.tuple [.str "bad", .int a]) = true
  simp only [PyData.canLay0, PyData.canLayAll0, Bool.and_true]
  decide +kernel, fun a => by
  show PyData.depth (.tuple [.str "bad", .int a]) ≤ 1
  simp only [PyData.depth, PyData.depthAll]
  omega⟩
theorem longX : ∀ x ∈ (List.range 30).map (fun (y : Nat) => [49, 32] ++ TL.numL (y : Int).toNat), x.length ≤ 42 := fun x hx => by
  obtain ⟨y, hy, rfl⟩ := List.mem_map.mp hx
  have h1 := List.mem_range.mp hy
  have := num_len (w := (y : Int)) (by omega)
  simp only [List.length_append, List.length_cons, List.length_nil]
  omega
theorem longS : (((List.range 30).map fun (y : Nat) => [49, 32] ++ TL.numL (y : Int).toNat).map List.length).sum + ((List.range 30).map fun (y : Nat) => [49, 32] ++ TL.numL (y : Int).toNat).length * ([10] : List Nat).length ≤ 16777216 := by
  have h3 := txs_sum (k := 42) (L := (List.range 30).map fun (y : Nat) => [49, 32] ++ TL.numL (y : Int).toNat) longX
  simp only [List.length_map, List.length_range, List.length_cons, List.length_nil] at h3 ⊢
  omega
theorem steps_size {ST : List (List Int)} (hst : ∀ y ∈ ST, y.length ≤ 6 ∧ ∀ x ∈ y, 0 ≤ x ∧ x < 10 ^ 40) (hsn : ST.length ≤ 6) : ((ST.map votesX).map List.length).sum + (ST.map votesX).length * ([10] : List Nat).length ≤ 16777216 ∧ (TL.joinL [10] (ST.map votesX)).length ≤ 1600 := by
  have h2 := txs_sum (k := 246) (L := ST.map votesX) (fun x hx => by
    obtain ⟨y, hy, rfl⟩ := List.mem_map.mp hx
    have := votesX_len (hst y hy).2
    have := (hst y hy).1
    omega)
  have h1 := joinL_len [10] (ST.map votesX)
  simp only [List.length_map, List.length_cons, List.length_nil] at h1 h2 ⊢
  omega
abbrev N__law_right : List Str := ["_law_urn_here", "_law_votes_here", "_law_steps", "_law_turn", "_law_said", "_law_one", "_law_some", "_law_longer", "_law_at", "_law_again", "_law_bent", "_law_things", "_law_thing"]
theorem sc__law_right : FnScope N__law_right ["_law_urn_here"] (defScope s__law_right) := ⟨rfl, rfl, rfl, by decide +kernel, rfl, by decide +kernel, by decide +kernel⟩
def a__law_right : ASp := fun as R => ∃ (b : Nat) (ds : List PyData), as = [.hol true ds] ∧ Urn b ds ∧ b < 100000000 ∧ ∀ ds2, Urn (b + 45000) ds2 → R (.dat (.bool true)) [.hol true ds2]
theorem ok__law_right {f c T : Addr} {fd : FuncData} (F : Fun K "_law_right" "_law_right" s__law_right f fd) (B : Blt mg) (hcode : fd.code = .ref c) (TB : LamX.TabB base mg c T) (hT : (T, (("_law_right" : Str) ++ ".<locals>.") ++ "<lambda>") ∈ HasT.T) (hu : ∀ p ∈ HasT.T, p.1 = T → p.2 = (("_law_right" : Str) ++ ".<locals>.") ++ "<lambda>") (t__law_reads : Told P w K mg base "_law_reads" TagR) (x_read_way : CalX P w K mg base 4 "read_way" (jn a_read_way x_read_way)) (c__law_votes : Cal P w K mg base 3 "_law_votes" a__law_votes) (c__law_spoilt : Cal P w K mg base 3 "_law_spoilt" a__law_spoilt) (c__law_votes_text : Cal P w K mg base 1 "_law_votes_text" a__law_votes_text) (c__law_take : Cal P w K mg base 1 "_law_take" a__law_take) (c__law_odd : Cal P w K mg base 3 "_law_odd" a__law_odd) (c__law_read_steps : Cal P w K mg base 3 "_law_read_steps" a__law_read_steps) : FnG P w K mg base CX0 7 f fd ["_law_urn_here"] (toSp K a__law_right) := by
  replace c__law_votes := c__law_votes.mono (show 3 ≤ 6 by decide)
  replace c__law_spoilt := c__law_spoilt.mono (show 3 ≤ 6 by decide)
  replace c__law_votes_text := c__law_votes_text.mono (show 1 ≤ 6 by decide)
  replace c__law_take := c__law_take.mono (show 1 ≤ 6 by decide)
  replace c__law_odd := c__law_odd.mono (show 3 ≤ 6 by decide)
  replace c__law_read_steps := c__law_read_steps.mono (show 3 ≤ 6 by decide)
  refine fnAc F sc__law_right (by decide) B (fun as R h => ?_) fun cdv hc A outer s H E C as R h => ?_
  · obtain ⟨_, _, rfl, _⟩ := h; rfl
  obtain ⟨b, ds, rfl, hU, hb, h⟩ := h
  refine SW.cons ?_
  refine S1.asg (i := 1) C ?_ -- _law_votes_here =
  refine EW.call c__law_votes C rfl ?_
  refine EWgs.cons ?_
  first | refine EW.nameD (i := 0) rfl ?_ | refine EW.nameO (i := 0) rfl ?_ -- _law_urn_here
  refine ⟨_, rfl, ?_⟩
  refine EWgs.cons ?_
  refine EW.int ?_
  refine ⟨_, rfl, ?_⟩
  refine EWgs.cons ?_
  refine EW.int ?_
  refine ⟨_, rfl, ?_⟩
  refine EWgs.cons ?_
  refine EW.int ?_
  refine ⟨_, rfl, ?_⟩
  refine EWgs.nil ?_
  refine ⟨(by decide : [0].Nodup), ?_⟩
  refine ⟨_, _, _, _, _, rfl, hU, by walk_at "sd", by walk_at "sd", by walk_at "sd", by walk_at "sd", by walk_at "sd", by walk_at "sd", fun ws ds hl0 hl1 hw hs hU => ?_⟩
  --
  refine ⟨by walk_at "sd", ?_⟩
  try refine SW.demote (i := 1) rfl ?_
  show SW _ _ _ _
  obtain ⟨b1, hb1, hU⟩ : ∃ b1, b1 ≤ b + 6000 ∧ Urn b1 ds := ⟨_, by omega, hU⟩
  show SW _ _ [.hol true ds, .dat (tupI ws), .un, .un, .un, .un, .un, .un, .un, .un, .un, .un, .un] _
  refine SW.cons ?_
  refine S1.asg (i := 2) C ?_ -- _law_steps =
  refine EW.add ?_
  refine EW.list ?_
  refine EWds.cons ?_
  first | refine EW.nameD (i := 1) rfl ?_ | refine EW.nameO (i := 1) rfl ?_ -- _law_votes_here
  refine ⟨_, rfl, ?_⟩
  refine EWds.nil ?_
  refine ⟨(by decide : (1 : Nat) ≤ sizeLine), ?_⟩
  refine EW.lc (own := [("_law_turn", 3)]) (is := [3]) C ?_ (blkOk_by (N := N__law_right) (sc := defScope s__law_right) (by decide +kernel)) (by decide)
  refine IW.rangeN C ?_
  refine EW.call c__law_take C rfl ?_
  refine EWgs.cons ?_
  first | refine EW.nameD (i := 0) rfl ?_ | refine EW.nameO (i := 0) rfl ?_ -- _law_urn_here
  refine ⟨_, rfl, ?_⟩
  refine EWgs.cons ?_
  refine EW.int ?_
  refine ⟨_, rfl, ?_⟩
  refine EWgs.nil ?_
  refine ⟨(by decide : [0].Nodup), ?_⟩
  refine ⟨_, _, _, rfl, hU, by walk_at "sd", by walk_at "sd", by walk_at "sd", fun v ds v0 v1 hU => ?_⟩
  obtain ⟨tn, rfl⟩ : ∃ k : Nat, v = (k : Int) := ⟨v.toNat, by omega⟩
  refine ⟨_, rfl, by walk_at "sd", ?_⟩
  refine lcU_intro 0 (5000) (fun _ (y : List Int) => y.length ≤ 6 ∧ ∀ x ∈ y, 0 ≤ x ∧ x < 10 ^ 40) (tupI) rfl (by walk_at "sd") rfl rfl hU (fun i y d hy hU => ?_) (fun ys d hly hP hU => ?_)
  · refine Turn1.nil fun s0 H0 C0 cl fp => ?_
    have hzr := List.mem_range.mp (List.mem_of_getElem? hy)
    have hir := get_lt hy
    rw [List.length_range] at hir
    refine GW.name C.nd (i := 3) ⟨by walk_at "sd", ?_⟩
    intro s0 H0 C0 cl fp
    refine EW.call c__law_votes (C.blk ..) rfl ?_
    refine EWgs.cons ?_
    first | refine EW.nameD (i := 0) rfl ?_ | refine EW.nameO (i := 0) rfl ?_ -- _law_urn_here
    refine ⟨_, rfl, ?_⟩
    refine EWgs.cons ?_
    refine EW.len (C.blk ..) ?_
    first | refine EW.nameD (i := 1) rfl ?_ | refine EW.nameO (i := 1) rfl ?_ -- _law_votes_here
    first | refine lenR_map ⟨_, _, _, rfl, ?_⟩ | refine ⟨_, rfl, ?_⟩
    refine ⟨_, rfl, ?_⟩
    refine EWgs.cons ?_
    refine EW.len (C.blk ..) ?_
    first | refine EW.nameD (i := 1) rfl ?_ | refine EW.nameO (i := 1) rfl ?_ -- _law_votes_here
    first | refine lenR_map ⟨_, _, _, rfl, ?_⟩ | refine ⟨_, rfl, ?_⟩
    refine ⟨_, rfl, ?_⟩
    refine EWgs.cons ?_
    refine EW.int ?_
    refine ⟨_, rfl, ?_⟩
    refine EWgs.nil ?_
    refine ⟨(by decide : [0].Nodup), ?_⟩
    refine ⟨_, _, _, _, _, rfl, hU, by walk_at "sd", by walk_at "sd", by walk_at "sd", by walk_at "sd", by walk_at "sd", by walk_at "sd", fun ws ds hl0 hl1 hw hs hU => ?_⟩
    exact ⟨_, rfl, _, _, rfl, ⟨by omega, fun x hx => by have := hw x hx; omega⟩, rfl, hU.mono (by omega)⟩
  refine addR_lst ⟨[ws], ys, tupI, rfl, rfl, (by have := sizeLine_eq; rw [hly, List.length_range]; simp only [List.length_cons, List.length_nil]; omega), ?_⟩
  --
  refine ⟨by walk_at "sd", ?_⟩
  try refine SW.demote (i := 2) rfl ?_
  try refine SW.demote (i := 5) rfl ?_
  show SW _ _ _ _
  have hst : ∀ y ∈ [ws] ++ ys, y.length ≤ 6 ∧ ∀ x ∈ y, 0 ≤ x ∧ x < 10 ^ 40 := fun y hy => by
    rcases List.mem_append.mp hy with hy | hy
    · rw [List.mem_singleton.mp hy]
      exact ⟨by omega, fun x hx => by have := hw x hx; omega⟩
    · obtain ⟨i, hi⟩ := List.mem_iff_getElem?.mp hy
      have hi2 := (List.getElem?_eq_some_iff.mp hi).1
      rw [hly] at hi2
      exact hP i _ y (List.getElem?_eq_getElem hi2) hi
  have hsn : ([ws] ++ ys).length ≤ 6 := by
    rw [List.length_append, hly, List.length_range]
    simp only [List.length_cons, List.length_nil]
    omega
  rw [List.length_range] at hU
  generalize [ws] ++ ys = ST at hst hsn
  show SW _ _ [.hol true d, .dat (tupI ws), .dat (.list (ST.map tupI)), .un, .un, .un, .un, .un, .un, .un, .un, .un, .un] _
  refine SW.cons ?_
  refine S1.asg (i := 4) C ?_ -- _law_said =
  refine EW.joinS ?_
  refine EW.strX [10] (by decide) ?_
  refine ⟨_, rfl, ?_⟩
  refine EW.lcM (own := [("_law_one", 5)]) (is := [5]) C ?_ (blkOk_by (N := N__law_right) (sc := defScope s__law_right) (by decide +kernel)) (by decide)
  refine IW.list ?_
  first | refine EW.nameD (i := 2) rfl ?_ | refine EW.nameO (i := 2) rfl ?_ -- _law_steps
  refine ⟨_, rfl, ?_⟩
  apply lcM_intro rfl
  · walk_at "sd"
  · rfl
  · intro y hy s0 H0 C0 cl fp
    refine GW.name C.nd (i := 5) ⟨by walk_at "sd", ?_⟩
    intro s0 H0 C0 cl fp
    refine EW.call c__law_votes_text (C.blk ..) rfl ?_
    refine EWgs.cons ?_
    first | refine EW.nameD (i := 5) rfl ?_ | refine EW.nameO (i := 5) rfl ?_ -- _law_one
    refine ⟨_, rfl, ?_⟩
    refine EWgs.nil ?_
    refine ⟨List.nodup_nil, ?_⟩
    refine ⟨y, rfl, (hst y hy).2, by have := (hst y hy).1; omega, ?_⟩
    exact ⟨_, rfl, rfl, rfl⟩
  refine ⟨ST.map votesX, (by show some _ = some _; rw [List.map_map] <;> rfl), (steps_size hst hsn).1, ?_⟩
  --
  refine ⟨by walk_at "sd", ?_⟩
  try refine SW.demote (i := 4) rfl ?_
  show SW _ _ _ _
  have hsl : (TL.joinL [10] (ST.map votesX)).length ≤ 1600 := (steps_size hst hsn).2
  generalize TL.joinL [10] (ST.map votesX) = sd at hsl
  have hw1 : ∀ x ∈ ws ++ [1], 0 ≤ x ∧ x < 10 ^ 40 := fun x hx => by
    rcases List.mem_append.mp hx with hx | hx
    · have := hw x hx; omega
    · rw [List.mem_singleton.mp hx]; decide
  have hsv := votesX_len hw1
  rw [List.length_append] at hsv
  simp only [List.length_cons, List.length_nil] at hsv
  show SW _ _ [.hol true d, .dat (tupI ws), .dat (.list (ST.map tupI)), .un, .dat (eX sd), .un, .un, .un, .un, .un, .un, .un, .un] _
  refine SW.cons ?_
  refine S1.asg (i := 6) C ?_ -- _law_some =
  refine EW.list ?_
  refine EWds.cons ?_
  first | refine EW.nameD (i := 4) rfl ?_ | refine EW.nameO (i := 4) rfl ?_ -- _law_said
  refine ⟨_, rfl, ?_⟩
  refine EWds.cons ?_
  refine EW.add ?_
  first | refine EW.nameD (i := 4) rfl ?_ | refine EW.nameO (i := 4) rfl ?_ -- _law_said
  refine EW.strX [10] (by decide) ?_
  refine addS ⟨_, _, rfl, rfl, by walk_at "lnx", ?_⟩
  refine ⟨_, rfl, ?_⟩
  refine EWds.cons ?_
  refine EW.add ?_
  refine EW.strX [10] (by decide) ?_
  first | refine EW.nameD (i := 4) rfl ?_ | refine EW.nameO (i := 4) rfl ?_ -- _law_said
  refine addS ⟨_, _, rfl, rfl, by walk_at "lnx", ?_⟩
  refine ⟨_, rfl, ?_⟩
  refine EWds.cons ?_
  refine EW.add ?_
  refine EW.add ?_
  first | refine EW.nameD (i := 4) rfl ?_ | refine EW.nameO (i := 4) rfl ?_ -- _law_said
  refine EW.strX [10] (by decide) ?_
  refine addS ⟨_, _, rfl, rfl, by walk_at "lnx", ?_⟩
  refine EW.call c__law_votes_text C rfl ?_
  refine EWgs.cons ?_
  refine EW.add ?_
  first | refine EW.nameD (i := 1) rfl ?_ | refine EW.nameO (i := 1) rfl ?_ -- _law_votes_here
  refine EW.tuple ?_
  refine EWds.cons ?_
  refine EW.int ?_
  refine ⟨_, rfl, ?_⟩
  refine EWds.nil ?_
  refine ⟨(by decide : (1 : Nat) ≤ sizeLine), ?_⟩
  refine addR_tup1 ⟨_, _, _, rfl, rfl, by have := sizeLine_eq; omega, ?_⟩
  refine ⟨_, rfl, ?_⟩
  refine EWgs.nil ?_
  refine ⟨List.nodup_nil, ?_⟩
  refine ⟨ws ++ [1], rfl, hw1, by rw [List.length_append]; simp only [List.length_cons, List.length_nil]; omega, ?_⟩
  refine addS ⟨_, _, rfl, rfl, by walk_at "lnx", ?_⟩
  refine ⟨_, rfl, ?_⟩
  refine EWds.cons ?_
  refine EW.strX [] (by decide) ?_
  refine ⟨_, rfl, ?_⟩
  refine EWds.nil ?_
  refine ⟨(by decide : (5 : Nat) ≤ sizeLine), ?_⟩
  --
  refine ⟨by walk_at "sd", ?_⟩
  show SW _ _ [.hol true d, .dat (tupI ws), .dat (.list (ST.map tupI)), .un, .dat (eX sd), .un, .hol false ((base2 sd (votesX (ws ++ [1]))).map eX), .un, .un, .un, .un, .un, .un] _
  refine SW.cons ?_
  refine S1.asg (i := 6) C ?_ -- _law_some =
  refine EW.add ?_
  first | refine EW.nameD (i := 6) rfl ?_ | refine EW.nameO (i := 6) rfl ?_ -- _law_some
  refine EW.list ?_
  refine EWds.cons ?_
  refine EW.strX [49, 10, 48] (by decide) ?_
  refine ⟨_, rfl, ?_⟩
  refine EWds.cons ?_
  refine EW.strX [48, 10, 49] (by decide) ?_
  refine ⟨_, rfl, ?_⟩
  refine EWds.cons ?_
  refine EW.strX [49, 10, 49, 10, 49, 32, 49] (by decide) ?_
  refine ⟨_, rfl, ?_⟩
  refine EWds.nil ?_
  refine ⟨(by decide : (3 : Nat) ≤ sizeLine), ?_⟩
  refine addR_lst ⟨_, [_, _, _], eX, rfl, rfl, by have := sizeLine_eq; simp only [base2, List.length_cons, List.length_nil]; omega, ?_⟩
  --
  refine ⟨by walk_at "sd", ?_⟩
  show SW _ _ [.hol true d, .dat (tupI ws), .dat (.list (ST.map tupI)), .un, .dat (eX sd), .un, .hol false ((base2 sd (votesX (ws ++ [1])) ++ tail2).map eX), .un, .un, .un, .un, .un, .un] _
  refine SW.cons ?_
  refine S1.asg (i := 7) C ?_ -- _law_longer =
  refine EW.joinS ?_
  refine EW.strX [10] (by decide) ?_
  refine ⟨_, rfl, ?_⟩
  refine EW.lcM (own := [("_law_at", 8)]) (is := [8]) C ?_ (blkOk_by (N := N__law_right) (sc := defScope s__law_right) (by decide +kernel)) (by decide)
  refine IW.rangeN C ?_
  refine EW.int ?_
  refine ⟨(30 : Nat), rfl, by walk_at "sd", ?_⟩
  apply lcM_intro rfl
  · walk_at "sd"
  · rfl
  · intro y hy s0 H0 C0 cl fp
    have hzr := List.mem_range.mp hy
    refine GW.name C.nd (i := 8) ⟨by walk_at "sd", ?_⟩
    intro s0 H0 C0 cl fp
    refine EW.add ?_
    refine EW.strX [49, 32] (by decide) ?_
    refine EW.strC (C.blk ..) ?_
    first | refine EW.nameD (i := 8) rfl ?_ | refine EW.nameO (i := 8) rfl ?_ -- _law_at
    refine strN ⟨_, rfl, (by omega), ?_⟩
    refine addS ⟨_, _, rfl, rfl, by have := num_len (w := (y : Int)) (by omega); walk_at "lnx", ?_⟩
    exact ⟨_, rfl, rfl, rfl⟩
  refine ⟨(List.range 30).map fun (y : Nat) => [49, 32] ++ TL.numL (y : Int).toNat, (by show some _ = some _; rw [List.map_map] <;> rfl), longS, ?_⟩
  --
  refine ⟨by walk_at "sd", ?_⟩
  try refine SW.demote (i := 7) rfl ?_
  show SW _ _ _ _
  have hll : (TL.joinL [10] ((List.range 30).map fun (y : Nat) => [49, 32] ++ TL.numL (y : Int).toNat)).length ≤ 1400 := by
    have h1 := joinL_len [10] ((List.range 30).map fun (y : Nat) => [49, 32] ++ TL.numL (y : Int).toNat)
    have h2 := longS
    simp only [List.length_map, List.length_cons, List.length_nil, List.length_range] at h1 h2
    have h3 := txs_sum (k := 42) (L := (List.range 30).map fun (y : Nat) => [49, 32] ++ TL.numL (y : Int).toNat) longX
    simp only [List.length_map, List.length_range] at h3
    omega
  generalize TL.joinL [10] ((List.range 30).map fun (y : Nat) => [49, 32] ++ TL.numL (y : Int).toNat) = lg at hll
  show SW _ _ [.hol true d, .dat (tupI ws), .dat (.list (ST.map tupI)), .un, .dat (eX sd), .un, .hol false ((base2 sd (votesX (ws ++ [1])) ++ tail2).map eX), .dat (eX lg), .un, .un, .un, .un, .un] _
  refine SW.cons ?_
  refine S1.asg (i := 6) C ?_ -- _law_some =
  refine EW.add ?_
  first | refine EW.nameD (i := 6) rfl ?_ | refine EW.nameO (i := 6) rfl ?_ -- _law_some
  refine EW.list ?_
  refine EWds.cons ?_
  first | refine EW.nameD (i := 7) rfl ?_ | refine EW.nameO (i := 7) rfl ?_ -- _law_longer
  refine ⟨_, rfl, ?_⟩
  refine EWds.cons ?_
  refine EW.add ?_
  first | refine EW.nameD (i := 7) rfl ?_ | refine EW.nameO (i := 7) rfl ?_ -- _law_longer
  refine EW.strX [10, 49] (by decide) ?_
  refine addS ⟨_, _, rfl, rfl, by walk_at "lnx", ?_⟩
  refine ⟨_, rfl, ?_⟩
  refine EWds.cons ?_
  refine EW.add ?_
  first | refine EW.nameD (i := 7) rfl ?_ | refine EW.nameO (i := 7) rfl ?_ -- _law_longer
  refine EW.strX [10, 49, 32, 50, 32, 51] (by decide) ?_
  refine addS ⟨_, _, rfl, rfl, by walk_at "lnx", ?_⟩
  refine ⟨_, rfl, ?_⟩
  refine EWds.cons ?_
  refine EW.add ?_
  refine EW.add ?_
  first | refine EW.nameD (i := 7) rfl ?_ | refine EW.nameO (i := 7) rfl ?_ -- _law_longer
  refine EW.strX [10] (by decide) ?_
  refine addS ⟨_, _, rfl, rfl, by walk_at "lnx", ?_⟩
  first | refine EW.nameD (i := 7) rfl ?_ | refine EW.nameO (i := 7) rfl ?_ -- _law_longer
  refine addS ⟨_, _, rfl, rfl, by walk_at "lnx", ?_⟩
  refine ⟨_, rfl, ?_⟩
  refine EWds.cons ?_
  refine EW.add ?_
  first | refine EW.nameD (i := 7) rfl ?_ | refine EW.nameO (i := 7) rfl ?_ -- _law_longer
  refine EW.strX [10] (by decide) ?_
  refine addS ⟨_, _, rfl, rfl, by walk_at "lnx", ?_⟩
  refine ⟨_, rfl, ?_⟩
  refine EWds.nil ?_
  refine ⟨(by decide : (5 : Nat) ≤ sizeLine), ?_⟩
  refine addR_lst ⟨_, [_, _, _, _, _], eX, rfl, rfl, by have := sizeLine_eq; simp only [base2, tail2, List.length_append, List.length_cons, List.length_nil]; omega, ?_⟩
  --
  refine ⟨by walk_at "sd", ?_⟩
  show SW _ _ _ _
  have hL0 := base2_len hsl (show (votesX (ws ++ [1])).length ≤ 300 by omega) hll
  have hL1 : (base2 sd (votesX (ws ++ [1])) ++ tail2 ++ long2 lg).length = 13 := rfl
  show SW _ _ [.hol true d, .dat (tupI ws), .dat (.list (ST.map tupI)), .un, .dat (eX sd), .un, .hol false ((base2 sd (votesX (ws ++ [1])) ++ tail2 ++ long2 lg).map eX), .dat (eX lg), .un, .un, .un, .un, .un] _
  generalize base2 sd (votesX (ws ++ [1])) ++ tail2 ++ long2 lg = L0 at hL0 hL1
  show SW _ _ [.hol true d, .dat (tupI ws), .dat (.list (ST.map tupI)), .un, .dat (eX sd), .un, .hol false (L0.map eX), .dat (eX lg), .un, .un, .un, .un, .un] _
  refine SW.cons ?_
  refine S1.forM (is := [9]) C ?_ .leaving
  refine IW.rangeN C ?_
  refine EW.int ?_
  refine ⟨(16 : Nat), rfl, by walk_at "sd", ?_⟩
  refine ⟨_, _, _, rfl, fun pre ρ => ∃ (b' : Nat) (ds : List PyData) (L : List (List Nat)) (s3 s4 : SV), Urn b' ds ∧ b' ≤ b1 + 1 + 30000 + 30 * pre.length ∧ nH s3 = true ∧ nH s4 = true ∧ L.length ≤ 13 + pre.length ∧ (∀ x ∈ L, x.length ≤ 20000) ∧ ρ = [.hol true ds, .dat (tupI ws), .dat (.list (ST.map tupI)), .un, .dat (eX sd), .un, .hol false (L.map eX), .dat (eX lg), .un, s3, s4, .un, .un], ⟨b1 + 1 + 30000, d, L0, _, _, hU.mono (by omega), by simp, rfl, rfl, by simp [hL1], hL0, rfl⟩, ?_, ?_⟩
  · rintro pre z post ρ hx ⟨b', ds, L, s3, s4, hU, hb', n3, n4, hL, hLx, rfl⟩
    have hpl : pre.length < 16 := by
      have e := congrArg List.length (show List.range 16 = pre ++ z :: post from hx)
      rw [List.length_range, List.length_append] at e
      simp only [List.length_cons] at e
      omega
    have hzr := List.mem_range.mp (show z ∈ List.range _ by rw [hx]; simp)
    refine GW.name C.nd (i := 9) ⟨by walk_at "sd", ?_⟩
    try refine SW.demote (i := 4) rfl ?_
    show SW _ _ [.hol true ds, .dat (tupI ws), .dat (.list (ST.map tupI)), .un, .dat (eX sd), .un, .hol false (L.map eX), .dat (eX lg), .un, .dat (.int (z : Nat)), s4, .un, .un] _
    refine SW.cons ?_
    refine S1.asg (i := 10) C ?_ -- _law_bent =
    refine EW.call c__law_spoilt C rfl ?_
    refine EWgs.cons ?_
    first | refine EW.nameD (i := 0) rfl ?_ | refine EW.nameO (i := 0) rfl ?_ -- _law_urn_here
    refine ⟨_, rfl, ?_⟩
    refine EWgs.cons ?_
    first | refine EW.nameD (i := 4) rfl ?_ | refine EW.nameO (i := 4) rfl ?_ -- _law_said
    refine ⟨_, rfl, ?_⟩
    refine EWgs.nil ?_
    refine ⟨(by decide : [0].Nodup), ?_⟩
    refine ⟨_, _, _, rfl, hU, by walk_at "sd", by walk_at "sd", fun a' ds ha' hU => ?_⟩
    --
    refine ⟨by walk_at "sd", ?_⟩
    try refine SW.demote (i := 10) rfl ?_
    show SW _ _ [.hol true ds, .dat (tupI ws), .dat (.list (ST.map tupI)), .un, .dat (eX sd), .un, .hol false (L.map eX), .dat (eX lg), .un, .dat (.int (z : Nat)), .dat (eX a'), .un, .un] _
    refine SW.cons ?_
    refine S1.expr ?_
    refine EW.appendM ?_
    first | refine EW.nameD (i := 6) rfl ?_ | refine EW.nameO (i := 6) rfl ?_ -- _law_some
    refine ⟨_, rfl, ?_⟩
    refine EW.ifExp (TW.imp (QT := fun t ρ1 => ∃ ds, Urn (b' + 11) ds ∧ ρ1 = [.hol true ds, .dat (tupI ws), .dat (.list (ST.map tupI)), .un, .dat (eX sd), .un, .hol false (L.map eX), .dat (eX lg), .un, .dat (.int (z : Nat)), .dat (eX a'), .un, .un]) ?_ ?_)
    · refine TW.cmp (opE C) ?_ (nomark _)
      refine EW.call c__law_take C rfl ?_
      refine EWgs.cons ?_
      refine EW.nameO (i := 0) rfl ?_
      refine ⟨_, rfl, ?_⟩
      refine EWgs.cons ?_
      refine EW.int ?_
      refine ⟨_, rfl, ?_⟩
      refine EWgs.nil ?_
      refine ⟨(by decide : [0].Nodup), ?_⟩
      refine ⟨_, _, _, rfl, hU, by walk_at "sd", by walk_at "sd", by walk_at "sd", fun v ds v0 v1 hU => ?_⟩
      refine EW.int ?_
      refine eqT_int ?_
      exact ⟨_, hU, rfl⟩
    rintro t ρ1 ⟨ds, hU, rfl⟩
    cases t with
    | true =>
      show EW _ _ _ _
      refine EW.call c__law_spoilt C rfl ?_
      refine EWgs.cons ?_
      refine EW.nameO (i := 0) rfl ?_
      refine ⟨_, rfl, ?_⟩
      refine EWgs.cons ?_
      refine EW.nameD (i := 10) rfl ?_
      refine ⟨_, rfl, ?_⟩
      refine EWgs.nil ?_
      refine ⟨(by decide : [0].Nodup), ?_⟩
      refine ⟨_, _, _, rfl, hU, by walk_at "sd", by walk_at "sd", fun a2 ds ha2 hU => ?_⟩
      refine ⟨_, rfl, ?_⟩
      refine ⟨_, _, L, eX, a2, rfl, rfl, by have := sizeLine_eq; omega, ?_⟩
      refine SW.nil ?_
      exact ⟨_, ds, L ++ [a2], _, _, hU, by rw [List.length_append]; simp only [List.length_cons, List.length_nil]; omega, rfl, rfl, by rw [List.length_append, List.length_append]; simp only [List.length_cons, List.length_nil]; omega, fun x hx => by rcases List.mem_append.mp hx with hx | hx; exact hLx x hx; rw [List.mem_singleton.mp hx]; omega, by rw [List.map_append] <;> rfl⟩
    | false =>
      show EW _ _ _ _
      refine EW.nameD (i := 10) rfl ?_
      refine ⟨_, rfl, ?_⟩
      refine ⟨_, _, L, eX, a', rfl, rfl, by have := sizeLine_eq; omega, ?_⟩
      refine SW.nil ?_
      exact ⟨_, ds, L ++ [a'], _, _, hU, by rw [List.length_append]; simp only [List.length_cons, List.length_nil]; omega, rfl, rfl, by rw [List.length_append, List.length_append]; simp only [List.length_cons, List.length_nil]; omega, fun x hx => by rcases List.mem_append.mp hx with hx | hx; exact hLx x hx; rw [List.mem_singleton.mp hx]; omega, by rw [List.map_append] <;> rfl⟩
  rintro ρ ⟨b', ds, L, s3, s4, hU, hb', n3, n4, hL, hLx, rfl⟩
  rw [List.length_range] at hL hb'
  try refine SW.demote (i := 6) rfl ?_
  try refine SW.demote (i := 5) rfl ?_
  refine SW.cons ?_
  apply S1.iteP
  · refine TW.not ?_
    refine TW.val ?_
    refine EW.all C ?_
    refine EW.lcM (own := [("_law_one", 5)]) (is := [5]) C ?_ (blkOk_by (N := N__law_right) (sc := defScope s__law_right) (by decide +kernel)) (by decide)
    refine IW.list ?_
    first | refine EW.nameD (i := 6) rfl ?_ | refine EW.nameO (i := 6) rfl ?_ -- _law_some
    refine ⟨_, rfl, ?_⟩
    apply lcM_intro rfl
    · omega
    · rfl
    · intro y hy s0 H0 C0 cl fp
      refine GW.name C.nd (i := 5) ⟨by walk_at "sd", ?_⟩
      intro s0 H0 C0 cl fp
      refine EW.cmp (opE (C.blk ..)) ?_ (nomark _)
      refine EW.repr (C.blk ..) ?_
      refine EW.toldP t__law_reads (C.blk ..) 4 (by decide) TB (hc.symm.trans hcode) hT hu (LamX.lamS_by (by kernel_rfl)) rfl (fun _ _ _ _ _ => rfl) rfl (Pd := fun d => d = dueW (wayR (splC 10 y) [])) (fun Bo out t G EL fL cL CL => ?_) (fun d hd => ?_)
      · refine EWx.call x_read_way CL rfl ?_
        refine EWgs.cons ?_
        first | refine EW.nameD (i := 5) rfl ?_ | refine EW.nameO (i := 5) rfl ?_ -- _law_one
        refine ⟨_, rfl, ?_⟩
        refine EWgs.nil ?_
        refine ⟨List.nodup_nil, ?_⟩
        have hyl := hLx y hy
        cases hr : wayR (splC 10 y) [] with
        | inr l => exact .inl ⟨y, l, rfl, hyl, hr, rfl, _, rfl, rfl⟩
        | inl n => exact .inr ⟨eX y, rfl, .inr ⟨y, n, rfl, hyl, hr, rfl, "bad", ⟨rfl, rfl, rfl⟩, rfl⟩⟩
      subst hd
      refine ⟨_, rfl, shw_dueW (hLx y hy), ?_⟩
      refine EW.repr (C.blk ..) ?_
      refine EW.call c__law_read_steps (C.blk ..) rfl ?_
      refine EWgs.cons ?_
      first | refine EW.nameD (i := 5) rfl ?_ | refine EW.nameO (i := 5) rfl ?_ -- _law_one
      refine ⟨_, rfl, ?_⟩
      refine EWgs.nil ?_
      refine ⟨List.nodup_nil, ?_⟩
      refine ⟨_, rfl, hLx y hy, ?_⟩
      refine ⟨_, rfl, shw_dueW (hLx y hy), ?_⟩
      refine eqT_str ?_
      exact ⟨_, rfl, rfl, rfl⟩
    first | refine allR_map ⟨_, _, _, rfl, ?_⟩ | refine ⟨_, rfl, ?_⟩
    exact ⟨rfl, rfl⟩
  · intro h1
    exact absurd h1 (by simp)
  intro h1
  clear h1
  refine SW.nil ?_
  refine SW.wipe 9 (by walk_at "sd") ?_
  show SW _ _ [.hol true ds, .dat (tupI ws), .dat (.list (ST.map tupI)), .un, .dat (eX sd), .un, .dat (.list (L.map eX)), .dat (eX lg), .un, .un, s4, .un, .un] _
  refine SW.cons ?_
  refine S1.asg (i := 11) C ?_ -- _law_things =
  refine EW.add ?_
  refine EW.lcF (own := [("_law_thing", 12)]) (is := [12]) C ?_ (blkOk_by (N := N__law_right) (sc := defScope s__law_right) (by decide +kernel)) (by decide)
  refine IW.list ?_
  refine EW.lc (own := [("_law_again", 9)]) (is := [9]) C ?_ (blkOk_by (N := N__law_right) (sc := defScope s__law_right) (by decide +kernel)) (by decide)
  refine IW.rangeN C ?_
  refine EW.int ?_
  refine ⟨(6 : Nat), rfl, by walk_at "sd", ?_⟩
  refine lcU_intro 0 60 (fun _ y => Gd 64 22 y) id rfl (by walk_at "sd") rfl rfl hU (fun i y d hy hU => ?_) (fun ys d hly hP hU => ?_)
  · refine Turn1.nil fun s0 H0 C0 cl fp => ?_
    have hir := get_lt hy
    rw [List.length_range] at hir
    refine GW.name C.nd (i := 9) ⟨by walk_at "sd", ?_⟩
    intro s0 H0 C0 cl fp
    refine EW.call c__law_odd (C.blk ..) rfl ?_
    refine EWgs.cons ?_
    refine EW.nameO (i := 0) rfl ?_
    refine ⟨_, rfl, ?_⟩
    refine EWgs.nil ?_
    refine ⟨(by decide : [0].Nodup), ?_⟩
    refine ⟨_, _, rfl, hU, by walk_at "sd", fun d ds hd hU => ?_⟩
    exact ⟨_, rfl, _, _, rfl, hd, rfl, hU.mono (by omega)⟩
  refine ⟨_, rfl, ?_⟩
  rw [List.length_range] at hly hU
  apply lcF_intro rfl
  · omega
  · rfl
  · intro y hy s0 H0 C0 cl fp
    refine GW.name C.nd (i := 12) ⟨by walk_at "sd", ?_⟩
    intro s0 H0 C0 cl fp
    refine TW.not ?_
    refine TW.val ?_
    refine EW.isi (C.blk ..) kit_str C.blt.str rfl ?_
    refine EW.nameD (i := 12) rfl ?_
    refine ⟨_, rfl, ?_⟩
    refine ⟨rfl, rfl, fun ht s0 H0 C0 cl fp => ?_⟩
    refine EW.nameD (i := 12) rfl ?_
    exact ⟨_, rfl, rfl, rfl⟩
  refine EW.list ?_
  refine EWds.cons ?_
  refine EW.tupC C ?_
  refine EW.nameD (i := 2) rfl ?_
  refine ⟨_, rfl, ?_⟩
  refine ⟨_, rfl, ?_⟩
  refine EWds.nil ?_
  refine ⟨(by decide : (1 : Nat) ≤ sizeLine), ?_⟩
  have hfl : (ys.filter fun y => !isStrD y).length ≤ 6 := Nat.le_trans (List.length_filter_le _ _) (by omega)
  refine addR_lst ⟨ys.filter fun y => !isStrD y, [PyData.tuple (ST.map tupI)], id, rfl, rfl, by have := sizeLine_eq; simp only [List.length_cons, List.length_nil]; omega, ?_⟩
  have hns : ∀ y ∈ (ys.filter fun y => !isStrD y) ++ [PyData.tuple (ST.map tupI)], isStrD y = false := fun y hy => by
    rcases List.mem_append.mp hy with hy | hy
    · simpa using (List.mem_filter.mp hy).2
    · rw [List.mem_singleton.mp hy]; rfl
  have hln : ((ys.filter fun y => !isStrD y) ++ [PyData.tuple (ST.map tupI)]).length ≤ 7 := by rw [List.length_append]; simp only [List.length_cons, List.length_nil]; omega
  generalize (ys.filter fun y => !isStrD y) ++ [PyData.tuple (ST.map tupI)] = M at hns hln
  refine ⟨by walk_at "sd", ?_⟩
  refine SW.demote (i := 11) rfl ?_
  show SW _ _ [.hol true d, .dat (tupI ws), .dat (.list (ST.map tupI)), .un, .dat (eX sd), .un, .dat (.list (L.map eX)), .dat (eX lg), .un, .un, s4, .dat (.list (M.map id)), .un] _
  refine SW.cons ?_
  refine S1.ret ?_
  refine EW.all C ?_
  refine EW.lcM (own := [("_law_thing", 12)]) (is := [12]) C ?_ (blkOk_by (N := N__law_right) (sc := defScope s__law_right) (by decide +kernel)) (by decide)
  refine IW.list ?_
  refine EW.nameD (i := 11) rfl ?_
  refine ⟨_, rfl, ?_⟩
  apply lcM_intro rfl
  · omega
  · rfl
  · intro y hy s0 H0 C0 cl fp
    refine GW.name C.nd (i := 12) ⟨by walk_at "sd", ?_⟩
    intro s0 H0 C0 cl fp
    refine EW.cmp (opE (C.blk ..)) ?_ (nomark _)
    refine EW.toldP t__law_reads (C.blk ..) 4 (by decide) TB (hc.symm.trans hcode) hT hu (LamX.lamS_by (by kernel_rfl)) rfl (fun _ _ _ _ _ => rfl) rfl (Pd := fun d => d = badD 0) (fun Bo out t G EL fL cL CL => ?_) (fun d hd => ?_)
    · refine EWx.call x_read_way CL rfl ?_
      refine EWgs.cons ?_
      refine EW.nameD (i := 12) rfl ?_
      refine ⟨_, rfl, ?_⟩
      refine EWgs.nil ?_
      refine ⟨List.nodup_nil, ?_⟩
      exact .inr ⟨y, rfl, .inl ⟨hns y hy, rfl, "bad", ⟨rfl, rfl, rfl⟩, rfl⟩⟩
    subst hd
    refine EW.tuple ?_
    refine EWds.cons ?_
    refine EW.str ?_
    refine ⟨_, rfl, ?_⟩
    refine EWds.cons ?_
    refine EW.int ?_
    refine ⟨_, rfl, ?_⟩
    refine EWds.nil ?_
    refine ⟨(by decide : (2 : Nat) ≤ sizeLine), ?_⟩
    refine eqT_enc okBad ⟨0, 0, rfl, rfl, ?_⟩
    exact ⟨_, rfl, rfl, rfl⟩
  refine allR_map ⟨_, _, _, rfl, ?_⟩
  have e : (M.all fun _ => decide ((0 : Int) = 0)) = true := by simp
  rw [show (M.all fun y => decide ((0 : Int) = 0)) = true from e]
  exact h _ (hU.mono (by omega))
--END
end
end VM

/-! law -/
namespace VM
variable [AW.HasT]
open PySem PySem.Spec PyProof.Rows L2 AW
local macro_rules | `(tactic| walk_at "sd") => `(tactic| first | omega | assumption | exact pin_nH rfl (by assumption) | rfl | trivial | (show (0 : Int) < _; omega) | (have sl0 := sizeLine_eq; omega) | (simp only [List.length_map, List.length_append, List.length_cons, List.length_nil, List.length_range, List.length_zipIdx, List.length_zip]; omega) | exact allN_small (by omega) | exact allN_lt (by assumption) | exact fun i hi => Nat.lt_of_lt_of_le (allN_lt (by assumption) i hi) (by omega) | exact allN_glen (by assumption) (by omega) | (simp; done) | (have sl0 := sizeLine_eq; simp; omega) | decide)
local macro_rules | `(tactic| walk_at "mul") => `(tactic| first | exact CMulA.l (by omega) (by omega) | exact CMulA.r (by omega) (by omega) | exact CMulA.l (by decide) (by decide) | exact CMulA.r (by decide) (by decide))
local macro_rules | `(tactic| walk_at "div") => `(tactic| first | exact CDivA.small (by omega) (by omega))
local macro_rules | `(tactic| walk_at "pow") => `(tactic| first | exact powOk 8 (by omega) (by omega) (by omega) (by omega))
local macro_rules | `(tactic| walk_at "slc") => `(tactic| (show sliceR _ _ _ _ _; first | refine slT_drop 1 ⟨_, _, rfl, rfl, ?_⟩ | refine slT_dropLast ⟨_, _, rfl, ?_⟩ | refine slT_take ⟨_, _, _, rfl, rfl, ?_⟩ | refine slT_dropV ⟨_, _, _, rfl, rfl, ?_⟩ | refine slL_drop 1 ⟨_, _, rfl, rfl, ?_⟩ | refine slL_dropLast ⟨_, _, rfl, ?_⟩ | refine slL_take ⟨_, _, _, rfl, rfl, ?_⟩ | refine slL_dropV ⟨_, _, _, rfl, rfl, ?_⟩))
local macro_rules | `(tactic| walk_at "eq") => `(tactic| (show eqT _ _ _ _; first | refine eqT_int ?_ | refine eqT_bool ?_ | refine eqT_str ?_ | refine eqT_enc okI ⟨_, _, rfl, rfl, ?_⟩ | refine eqT_enc okN ⟨_, _, rfl, rfl, ?_⟩ | refine eqT_enc okTN ⟨_, _, rfl, rfl, ?_⟩ | refine eqT_enc okLN ⟨_, _, rfl, rfl, ?_⟩ | refine eqT_nilT EncOk.int ⟨_, rfl, rfl, ?_⟩ | refine eqT_nilL EncOk.int ⟨_, rfl, rfl, ?_⟩ | refine eqT_nilT okN ⟨_, rfl, rfl, ?_⟩ | refine eqT_nilL okN ⟨_, rfl, rfl, ?_⟩ | refine eqT_nilT okI ⟨_, rfl, rfl, ?_⟩ | refine eqT_nilL okI ⟨_, rfl, rfl, ?_⟩))
local macro_rules | `(tactic| walk_at "ne") => `(tactic| (show neT _ _ _ _; first | refine neT_int ?_ | refine neT_bool ?_ | refine neT_str ?_ | refine neT_enc okI ⟨_, _, rfl, rfl, ?_⟩ | refine neT_enc okN ⟨_, _, rfl, rfl, ?_⟩ | refine neT_enc okTN ⟨_, _, rfl, rfl, ?_⟩ | refine neT_enc okLN ⟨_, _, rfl, rfl, ?_⟩ | refine neT_nilT EncOk.int ⟨_, rfl, rfl, ?_⟩ | refine neT_nilL EncOk.int ⟨_, rfl, rfl, ?_⟩ | refine neT_nilT okN ⟨_, rfl, rfl, ?_⟩ | refine neT_nilL okN ⟨_, rfl, rfl, ?_⟩ | refine neT_nilT okI ⟨_, rfl, rfl, ?_⟩ | refine neT_nilL okI ⟨_, rfl, rfl, ?_⟩))
local macro_rules | `(tactic| walk_at "in") => `(tactic| (show inQ _ _ _ _ _; first | refine inQ_nat ⟨_, _, rfl, rfl, ?_⟩ | refine inQ_int ⟨_, _, rfl, rfl, ?_⟩ | refine inQ_enc okN ⟨_, _, rfl, rfl, ?_⟩ | refine inQ_enc okI ⟨_, _, rfl, rfl, ?_⟩))
local macro_rules | `(tactic| walk_at "notin") => `(tactic| (show inQ _ _ _ _ _; first | refine notQ_nat ⟨_, _, rfl, rfl, ?_⟩ | refine notQ_int ⟨_, _, rfl, rfl, ?_⟩ | refine notQ_enc okN ⟨_, _, rfl, rfl, ?_⟩ | refine notQ_enc okI ⟨_, _, rfl, rfl, ?_⟩))
section
variable {P : Program} {w : World} {K : PySem.W.Frag} {mg : Str → Option Value} {base : Heap}
--BEGIN
abbrev N_law : List Str := ["_law_script", "_law_k", "_law_urn_here"]
theorem sc_law : FnScope N_law ["_law_script"] (defScope s_law) := ⟨rfl, rfl, rfl, by decide +kernel, rfl, by decide +kernel, by decide +kernel⟩
def a_law : ASp := fun as R => aLaw 63 as R
theorem ok_law {f : Addr} {fd : FuncData} (F : Fun K "law" "law" s_law f fd) (B : Blt mg) (c__law_urn : Cal P w K mg base 1 "_law_urn" a__law_urn) (c__law_right : Cal P w K mg base 7 "_law_right" a__law_right) : FnG P w K mg base CX0 8 f fd ["_law_script"] (toSp K a_law) := by
  replace c__law_urn := c__law_urn.mono (show 1 ≤ 7 by decide)
  refine fnA F sc_law (by decide) B (fun as R h => ?_) fun cdv A outer s H E C as R h => ?_
  · obtain ⟨_, rfl, _⟩ := h; rfl
  obtain ⟨ns, rfl, hn, h⟩ := h
  refine SW.cons ?_
  refine S1.forM (is := [1]) C ?_ .leaving
  refine IW.rangeN C ?_
  refine EW.max2 C ?_
  refine EW.int ?_
  refine EW.min2 C ?_
  refine EW.int ?_
  refine EW.len C ?_
  first | refine EW.nameD (i := 0) rfl ?_ | refine EW.nameO (i := 0) rfl ?_ -- _law_script
  first | refine lenR_map ⟨_, _, _, rfl, ?_⟩ | refine ⟨_, rfl, ?_⟩
  refine cells_intro (by decide) fun m hm1 hm2 => ?_
  refine ⟨_, _, _, rfl, fun pre ρ => ∃ t1 t2, ρ = [.dat (intsD ns), t1, t2] ∧ nH t1 = true ∧ pinB [SV.un, .un, t2] 2 = false, ⟨.un, .un, rfl, rfl, rfl⟩, ?_, ?_⟩
  · rintro pre z post ρ hx ⟨t1, t2, rfl, n1, n2⟩
    have hzr := List.mem_range.mp (show z ∈ List.range _ by rw [hx]; simp)
    refine GW.name C.nd (i := 1) ⟨by walk_at "sd", ?_⟩
    try refine SW.demote (i := 1) rfl ?_
    refine SW.cons ?_
    refine S1.asg (i := 2) C ?_ -- _law_urn_here =
    refine EW.call c__law_urn C rfl ?_
    refine EWgs.cons ?_
    first | refine EW.nameD (i := 0) rfl ?_ | refine EW.nameO (i := 0) rfl ?_ -- _law_script
    refine ⟨_, rfl, ?_⟩
    refine EWgs.cons ?_
    first | refine EW.nameD (i := 1) rfl ?_ | refine EW.nameO (i := 1) rfl ?_ -- _law_k
    refine ⟨_, rfl, ?_⟩
    refine EWgs.nil ?_
    refine ⟨List.nodup_nil, ?_⟩
    refine ⟨_, _, rfl, by walk_at "sd", fun ds hU => ?_⟩
    --
    refine ⟨by walk_at "sd", ?_⟩
    refine SW.cons ?_
    refine S1.ite ?_
    refine TWw.tw ?_
    refine TWw.or ?_
    refine TW.not ?_
    refine TW.val ?_
    refine EW.call c__law_right C rfl ?_
    refine EWgs.cons ?_
    refine EW.nameO (i := 2) rfl ?_
    refine ⟨_, rfl, ?_⟩
    refine EWgs.nil ?_
    refine ⟨(by decide : [2].Nodup), ?_⟩
    refine ⟨_, _, rfl, hU, by walk_at "sd", fun ds hU => ?_⟩
    show TWw _ _ _ _
    refine TWw.or1 ?_
    refine TW.not ?_
    refine TW.val ?_
    refine EW.call c__law_right C rfl ?_
    refine EWgs.cons ?_
    refine EW.nameO (i := 2) rfl ?_
    refine ⟨_, rfl, ?_⟩
    refine EWgs.nil ?_
    refine ⟨(by decide : [2].Nodup), ?_⟩
    refine ⟨_, _, rfl, hU, by walk_at "sd", fun ds hU => ?_⟩
    show SW _ _ _ _
    refine SW.nil ?_
    refine SW.nil ?_
    exact ⟨_, _, rfl, rfl, rfl⟩
  rintro ρ ⟨t1, t2, rfl, _, _⟩
  refine SW.cons ?_
  refine S1.ret ?_
  refine EW.bool ?_
  exact h
--END
end
end VM

instance VM.tabsI : AW.HasT := ⟨[(172, (("_law_right" : PySem.Str) ++ ".<locals>.") ++ "<lambda>")]⟩
namespace VM
open PySem PySem.Spec PyProof.Rows L2 AW
theorem kb_mk {K : PySem.W.Frag} {x qual : Str} {st : Stmt} {f : Addr} {fd : FuncData} {ps ks : List Str} {n : Nat} {perm : List Nat} (F : Fun K x qual st f fd)
    (h : ∀ (kV doc pm : Value) (an : Option Addr) (cdv ct : Value) (us ws : List Value), us.length = n → ws.length = ks.length → bindArgs (PySem.W.fnOf x qual (defArgs st) (defBody st) (defScope st) .none kV doc pm an cdv ct) ⟨us, ks.zip ws⟩ = pure (ps.zip (pick perm (us ++ ws)))) :
    ∀ (s : Shared) (us ws : List Value), K.In s.heap → us.length = n → ws.length = ks.length → BindsTo s fd ⟨us, ks.zip ws⟩ (ps.zip (pick perm (us ++ ws))) := fun s us ws _ l1 l2 => by
  obtain ⟨oc, od, kV, doc, pm, an, cdv, ct, osl, rfl, lk, hcd⟩ := F.ex
  exact .of_eq (h kV doc pm an cdv ct us ws l1 l2)
theorem all_mk {P : Program} {w : World} {K : PySem.W.Frag} {h : Heap} {mg : Str → Option Value} {fa : Addr} (X : K.In h) (G : h.Ns mainGlobals mg) (hfa : mg "law" = some (.ref fa))
    {f0 : Addr} {od0 an0 : Option Addr} {sl0 : Array (Option Value)} {oc0 kV0 dc0 pm0 cd0 ct0 : Value}
    {f1 : Addr} {od1 an1 : Option Addr} {sl1 : Array (Option Value)} {oc1 kV1 dc1 pm1 cd1 ct1 : Value}
    {f2 : Addr} {od2 an2 : Option Addr} {sl2 : Array (Option Value)} {oc2 kV2 dc2 pm2 cd2 ct2 : Value}
    {f3 : Addr} {od3 an3 : Option Addr} {sl3 : Array (Option Value)} {oc3 kV3 dc3 pm3 cd3 ct3 : Value}
    {f4 : Addr} {od4 an4 : Option Addr} {sl4 : Array (Option Value)} {oc4 kV4 dc4 pm4 cd4 ct4 : Value}
    {f5 : Addr} {od5 an5 : Option Addr} {sl5 : Array (Option Value)} {oc5 kV5 dc5 pm5 cd5 ct5 : Value}
    {f6 : Addr} {od6 an6 : Option Addr} {sl6 : Array (Option Value)} {oc6 kV6 dc6 pm6 cd6 ct6 : Value}
    {f7 : Addr} {od7 an7 : Option Addr} {sl7 : Array (Option Value)} {oc7 kV7 dc7 pm7 cd7 ct7 : Value}
    {f8 : Addr} {od8 an8 : Option Addr} {sl8 : Array (Option Value)} {oc8 kV8 dc8 pm8 cd8 ct8 : Value}
    {f9 : Addr} {od9 an9 : Option Addr} {sl9 : Array (Option Value)} {oc9 kV9 dc9 pm9 cd9 ct9 : Value}
    {f10 : Addr} {od10 an10 : Option Addr} {sl10 : Array (Option Value)} {oc10 kV10 dc10 pm10 cd10 ct10 : Value}
    {f11 : Addr} {od11 an11 : Option Addr} {sl11 : Array (Option Value)} {oc11 kV11 dc11 pm11 cd11 ct11 : Value}
    {f12 : Addr} {od12 an12 : Option Addr} {sl12 : Array (Option Value)} {oc12 kV12 dc12 pm12 cd12 ct12 : Value}
    {f13 : Addr} {od13 an13 : Option Addr} {sl13 : Array (Option Value)} {oc13 kV13 dc13 pm13 cd13 ct13 : Value}
    {f14 : Addr} {od14 an14 : Option Addr} {sl14 : Array (Option Value)} {oc14 kV14 dc14 pm14 cd14 ct14 : Value}
    {f15 : Addr} {od15 an15 : Option Addr} {sl15 : Array (Option Value)} {oc15 kV15 dc15 pm15 cd15 ct15 : Value}
    {f16 : Addr} {od16 an16 : Option Addr} {sl16 : Array (Option Value)} {oc16 kV16 dc16 pm16 ct16 : Value}
    {f17 : Addr} {od17 an17 : Option Addr} {sl17 : Array (Option Value)} {oc17 kV17 dc17 pm17 cd17 ct17 : Value}
    {f100 : Addr} {od100 an100 : Option Addr} {sl100 : Array (Option Value)} {oc100 kV100 dc100 pm100 cd100 ct100 : Value}
    {CV : Addr}
    {C_BadText : Addr}
    {C_BadMembers : Addr}
    {nm_BadText q_BadText : Str} {N_BadText : Addr} {bs_BadText bm_BadText : List Value} {sn_BadText : List Str} {sub_BadText : List Value} {ab_BadText : Bool} {col_BadText : Option Bool} {dd_BadText : Option Addr} {m0_BadText m1_BadText m2_BadText m3_BadText m5_BadText : Option Value}
    {fI_BadText : Addr} {odI_BadText anI_BadText : Option Addr} {slI_BadText : Array (Option Value)} {ocI_BadText kVI_BadText dcI_BadText pmI_BadText cdI_BadText ctI_BadText : Value}
    {u_FEED : Value}
    {u_MOST_DIGITS : Value}
    {u_DIGITS : Value}
    {u_MOST_REPLICAS : Value}
    {u_BLANK : Value}
    (a0 : PySem.W.nsIn K mainGlobals "is_integer" = some (some (.ref f0))) (l0 : K.lookup f0 = some ⟨oc0, od0, .func (PySem.W.fnOf "is_integer" "is_integer" (defArgs s_is_integer) (defBody s_is_integer) (defScope s_is_integer) .none kV0 dc0 pm0 an0 cd0 ct0), sl0⟩) (c0 : PySem.W.codeIn K cd0 "is_integer" = true) (k0 : PySem.W.keepIn K (.ref f0) = true)
    (a1 : PySem.W.nsIn K mainGlobals "is_weights" = some (some (.ref f1))) (l1 : K.lookup f1 = some ⟨oc1, od1, .func (PySem.W.fnOf "is_weights" "is_weights" (defArgs s_is_weights) (defBody s_is_weights) (defScope s_is_weights) .none kV1 dc1 pm1 an1 cd1 ct1), sl1⟩) (c1 : PySem.W.codeIn K cd1 "is_weights" = true) (k1 : PySem.W.keepIn K (.ref f1) = true)
    (a2 : PySem.W.nsIn K mainGlobals "number_in" = some (some (.ref f2))) (l2 : K.lookup f2 = some ⟨oc2, od2, .func (PySem.W.fnOf "number_in" "number_in" (defArgs s_number_in) (defBody s_number_in) (defScope s_number_in) .none kV2 dc2 pm2 an2 cd2 ct2), sl2⟩) (c2 : PySem.W.codeIn K cd2 "number_in" = true) (k2 : PySem.W.keepIn K (.ref f2) = true)
    (a3 : PySem.W.nsIn K mainGlobals "numbers_in" = some (some (.ref f3))) (l3 : K.lookup f3 = some ⟨oc3, od3, .func (PySem.W.fnOf "numbers_in" "numbers_in" (defArgs s_numbers_in) (defBody s_numbers_in) (defScope s_numbers_in) .none kV3 dc3 pm3 an3 cd3 ct3), sl3⟩) (c3 : PySem.W.codeIn K cd3 "numbers_in" = true) (k3 : PySem.W.keepIn K (.ref f3) = true)
    (a4 : PySem.W.nsIn K mainGlobals "rows_in" = some (some (.ref f4))) (l4 : K.lookup f4 = some ⟨oc4, od4, .func (PySem.W.fnOf "rows_in" "rows_in" (defArgs s_rows_in) (defBody s_rows_in) (defScope s_rows_in) .none kV4 dc4 pm4 an4 cd4 ct4), sl4⟩) (c4 : PySem.W.codeIn K cd4 "rows_in" = true) (k4 : PySem.W.keepIn K (.ref f4) = true)
    (a5 : PySem.W.nsIn K mainGlobals "read_way" = some (some (.ref f5))) (l5 : K.lookup f5 = some ⟨oc5, od5, .func (PySem.W.fnOf "read_way" "read_way" (defArgs s_read_way) (defBody s_read_way) (defScope s_read_way) .none kV5 dc5 pm5 an5 cd5 ct5), sl5⟩) (c5 : PySem.W.codeIn K cd5 "read_way" = true) (k5 : PySem.W.keepIn K (.ref f5) = true)
    (a6 : PySem.W.nsIn K mainGlobals "_law_urn" = some (some (.ref f6))) (l6 : K.lookup f6 = some ⟨oc6, od6, .func (PySem.W.fnOf "_law_urn" "_law_urn" (defArgs s__law_urn) (defBody s__law_urn) (defScope s__law_urn) .none kV6 dc6 pm6 an6 cd6 ct6), sl6⟩) (c6 : PySem.W.codeIn K cd6 "_law_urn" = true) (k6 : PySem.W.keepIn K (.ref f6) = true)
    (a7 : PySem.W.nsIn K mainGlobals "_law_take" = some (some (.ref f7))) (l7 : K.lookup f7 = some ⟨oc7, od7, .func (PySem.W.fnOf "_law_take" "_law_take" (defArgs s__law_take) (defBody s__law_take) (defScope s__law_take) .none kV7 dc7 pm7 an7 cd7 ct7), sl7⟩) (c7 : PySem.W.codeIn K cd7 "_law_take" = true) (k7 : PySem.W.keepIn K (.ref f7) = true)
    (a8 : PySem.W.nsIn K mainGlobals "_law_of" = some (some (.ref f8))) (l8 : K.lookup f8 = some ⟨oc8, od8, .func (PySem.W.fnOf "_law_of" "_law_of" (defArgs s__law_of) (defBody s__law_of) (defScope s__law_of) .none kV8 dc8 pm8 an8 cd8 ct8), sl8⟩) (c8 : PySem.W.codeIn K cd8 "_law_of" = true) (k8 : PySem.W.keepIn K (.ref f8) = true)
    (a9 : PySem.W.nsIn K mainGlobals "_law_votes" = some (some (.ref f9))) (l9 : K.lookup f9 = some ⟨oc9, od9, .func (PySem.W.fnOf "_law_votes" "_law_votes" (defArgs s__law_votes) (defBody s__law_votes) (defScope s__law_votes) .none kV9 dc9 pm9 an9 cd9 ct9), sl9⟩) (c9 : PySem.W.codeIn K cd9 "_law_votes" = true) (k9 : PySem.W.keepIn K (.ref f9) = true)
    (a10 : PySem.W.nsIn K mainGlobals "_law_odd" = some (some (.ref f10))) (l10 : K.lookup f10 = some ⟨oc10, od10, .func (PySem.W.fnOf "_law_odd" "_law_odd" (defArgs s__law_odd) (defBody s__law_odd) (defScope s__law_odd) .none kV10 dc10 pm10 an10 cd10 ct10), sl10⟩) (c10 : PySem.W.codeIn K cd10 "_law_odd" = true) (k10 : PySem.W.keepIn K (.ref f10) = true)
    (a11 : PySem.W.nsIn K mainGlobals "_law_votes_text" = some (some (.ref f11))) (l11 : K.lookup f11 = some ⟨oc11, od11, .func (PySem.W.fnOf "_law_votes_text" "_law_votes_text" (defArgs s__law_votes_text) (defBody s__law_votes_text) (defScope s__law_votes_text) .none kV11 dc11 pm11 an11 cd11 ct11), sl11⟩) (c11 : PySem.W.codeIn K cd11 "_law_votes_text" = true) (k11 : PySem.W.keepIn K (.ref f11) = true)
    (a12 : PySem.W.nsIn K mainGlobals "_law_number" = some (some (.ref f12))) (l12 : K.lookup f12 = some ⟨oc12, od12, .func (PySem.W.fnOf "_law_number" "_law_number" (defArgs s__law_number) (defBody s__law_number) (defScope s__law_number) .none kV12 dc12 pm12 an12 cd12 ct12), sl12⟩) (c12 : PySem.W.codeIn K cd12 "_law_number" = true) (k12 : PySem.W.keepIn K (.ref f12) = true)
    (a13 : PySem.W.nsIn K mainGlobals "_law_row_votes" = some (some (.ref f13))) (l13 : K.lookup f13 = some ⟨oc13, od13, .func (PySem.W.fnOf "_law_row_votes" "_law_row_votes" (defArgs s__law_row_votes) (defBody s__law_row_votes) (defScope s__law_row_votes) .none kV13 dc13 pm13 an13 cd13 ct13), sl13⟩) (c13 : PySem.W.codeIn K cd13 "_law_row_votes" = true) (k13 : PySem.W.keepIn K (.ref f13) = true)
    (a14 : PySem.W.nsIn K mainGlobals "_law_read_steps" = some (some (.ref f14))) (l14 : K.lookup f14 = some ⟨oc14, od14, .func (PySem.W.fnOf "_law_read_steps" "_law_read_steps" (defArgs s__law_read_steps) (defBody s__law_read_steps) (defScope s__law_read_steps) .none kV14 dc14 pm14 an14 cd14 ct14), sl14⟩) (c14 : PySem.W.codeIn K cd14 "_law_read_steps" = true) (k14 : PySem.W.keepIn K (.ref f14) = true)
    (a15 : PySem.W.nsIn K mainGlobals "_law_spoilt" = some (some (.ref f15))) (l15 : K.lookup f15 = some ⟨oc15, od15, .func (PySem.W.fnOf "_law_spoilt" "_law_spoilt" (defArgs s__law_spoilt) (defBody s__law_spoilt) (defScope s__law_spoilt) .none kV15 dc15 pm15 an15 cd15 ct15), sl15⟩) (c15 : PySem.W.codeIn K cd15 "_law_spoilt" = true) (k15 : PySem.W.keepIn K (.ref f15) = true)
    (a16 : PySem.W.nsIn K mainGlobals "_law_right" = some (some (.ref f16))) (l16 : K.lookup f16 = some ⟨oc16, od16, .func (PySem.W.fnOf "_law_right" "_law_right" (defArgs s__law_right) (defBody s__law_right) (defScope s__law_right) .none kV16 dc16 pm16 an16 (.ref 174) ct16), sl16⟩) (c16 : PySem.W.codeIn K (.ref 174) "_law_right" = true) (k16 : PySem.W.keepIn K (.ref f16) = true)
    (a17 : PySem.W.nsIn K mainGlobals "law" = some (some (.ref f17))) (l17 : K.lookup f17 = some ⟨oc17, od17, .func (PySem.W.fnOf "law" "law" (defArgs s_law) (defBody s_law) (defScope s_law) .none kV17 dc17 pm17 an17 cd17 ct17), sl17⟩) (c17 : PySem.W.codeIn K cd17 "law" = true) (k17 : PySem.W.keepIn K (.ref f17) = true)
    (a100 : PySem.W.nsIn K mainGlobals "_law_reads" = some (some (.ref f100))) (l100 : K.lookup f100 = some ⟨oc100, od100, .func (PySem.W.fnOf "_law_reads" "_law_reads" (defArgs s__law_reads) (defBody s__law_reads) (defScope s__law_reads) .none kV100 dc100 pm100 an100 cd100 ct100), sl100⟩) (c100 : PySem.W.codeIn K cd100 "_law_reads" = true) (k100 : PySem.W.keepIn K (.ref f100) = true)
    (aV : PySem.W.nsIn K mainGlobals "VoteError" = some (some (.ref CV)))
    (z_ValueError : PySem.W.nsIn K mainGlobals "ValueError" = some none)
    (aC_BadText : PySem.W.nsIn K mainGlobals "BadText" = some (some (.ref C_BadText)))
    (aC_BadMembers : PySem.W.nsIn K mainGlobals "BadMembers" = some (some (.ref C_BadMembers)))
    (nf_BadText : PySem.W.findIn K (.ref C_BadText) "row" = some none)
    (nf_BadMembers : PySem.W.findIn K (.ref C_BadMembers) "value" = some none)
    (bV1 : PySem.W.specialIn K (.ref CV) "__getattribute__" = some (some (.builtin "type.__getattribute__"))) (bV2 : PySem.W.readsIn K CV (.type "type") = true) (bV3 : PySem.W.findCls K (.ref CV) (.type "type") "__init__" = some (.val (.builtin "ValueError.__init__")))
    (xL_BadText : K.lookup C_BadText = some (excClassObj nm_BadText q_BadText C_BadText N_BadText bs_BadText bm_BadText true sn_BadText sub_BadText ab_BadText col_BadText dd_BadText m0_BadText m1_BadText m2_BadText m3_BadText m5_BadText "ValueError.__new__")) (xR_BadText : PySem.HandSPX.refsVE bm_BadText = true) (xS_BadText : PySem.W.findIn K (.ref C_BadText) "__setattr__" = some (some (.builtin "object.__setattr__"))) (xE_BadText : PySem.W.subIn K (.ref C_BadText) (.type "BaseException") = some true) (xT_BadText : PySem.W.typeIn K (.ref C_BadText) = some (.type "type")) (xK_BadText : PySem.W.keepIn K (.ref C_BadText) = true)
    (iA_BadText : PySem.W.findIn K (.ref C_BadText) "__init__" = some (some (.ref fI_BadText))) (iT_BadText : PySem.W.typeIn K (.ref fI_BadText) = some (.type "function")) (iL_BadText : K.lookup fI_BadText = some ⟨ocI_BadText, odI_BadText, .func (PySem.W.fnOf "__init__" "BadText.__init__" (defArgs (mth s_BadText 0)) (defBody (mth s_BadText 0)) (defScope (mth s_BadText 0)) .none kVI_BadText dcI_BadText pmI_BadText anI_BadText cdI_BadText ctI_BadText), slI_BadText⟩) (iC_BadText : PySem.W.codeIn K cdI_BadText "BadText.__init__" = true) (iK_BadText : PySem.W.keepIn K (.ref fI_BadText) = true)
    (kit0 : kitsB K CV [C_BadText, C_BadMembers] = true)
    (z_len : PySem.W.nsIn K mainGlobals "len" = some none)
    (z_sum : PySem.W.nsIn K mainGlobals "sum" = some none)
    (z_abs : PySem.W.nsIn K mainGlobals "abs" = some none)
    (z_max : PySem.W.nsIn K mainGlobals "max" = some none)
    (z_min : PySem.W.nsIn K mainGlobals "min" = some none)
    (z_sorted : PySem.W.nsIn K mainGlobals "sorted" = some none)
    (z_all : PySem.W.nsIn K mainGlobals "all" = some none)
    (z_any : PySem.W.nsIn K mainGlobals "any" = some none)
    (z_tuple : PySem.W.nsIn K mainGlobals "tuple" = some none)
    (z_list : PySem.W.nsIn K mainGlobals "list" = some none)
    (z_int : PySem.W.nsIn K mainGlobals "int" = some none)
    (z_str : PySem.W.nsIn K mainGlobals "str" = some none)
    (z_repr : PySem.W.nsIn K mainGlobals "repr" = some none)
    (z_isinstance : PySem.W.nsIn K mainGlobals "isinstance" = some none)
    (z_range : PySem.W.nsIn K mainGlobals "range" = some none)
    (z_zip : PySem.W.nsIn K mainGlobals "zip" = some none)
    (z_enumerate : PySem.W.nsIn K mainGlobals "enumerate" = some none)
    (z_set : PySem.W.nsIn K mainGlobals "set" = some none)
    (z_dict : PySem.W.nsIn K mainGlobals "dict" = some none)
    (z_bool : PySem.W.nsIn K mainGlobals "bool" = some none)
    (g_FEED : PySem.W.nsIn K mainGlobals "FEED" = some (some u_FEED)) (s_FEED : Sca (.str "\n") u_FEED)
    (g_MOST_DIGITS : PySem.W.nsIn K mainGlobals "MOST_DIGITS" = some (some u_MOST_DIGITS)) (s_MOST_DIGITS : Sca (.int 40) u_MOST_DIGITS)
    (g_DIGITS : PySem.W.nsIn K mainGlobals "DIGITS" = some (some u_DIGITS)) (s_DIGITS : Sca (.str "0123456789") u_DIGITS)
    (g_MOST_REPLICAS : PySem.W.nsIn K mainGlobals "MOST_REPLICAS" = some (some u_MOST_REPLICAS)) (s_MOST_REPLICAS : Sca (.int 12) u_MOST_REPLICAS)
    (g_BLANK : PySem.W.nsIn K mainGlobals "BLANK" = some (some u_BLANK)) (s_BLANK : Sca (.str " ") u_BLANK) :
    ∃ fd : FuncData, (∀ (s : Shared) (v : Value), BindsTo s fd ⟨[v], []⟩ [("_law_script", v)]) ∧ ∀ base : Heap, K.In base → base.Ns mainGlobals mg → (∀ p ∈ ([(174, 172)] : List (Addr × Addr)), LamX.TabB base mg p.1 p.2) → FnG P w K mg base CX0 8 fa fd ["_law_script"] (toSp K (aLaw 63)) := by
  have e := hfa.symm.trans (PySem.W.mg_of X G a17)
  cases e
  have B : Blt mg := ⟨PySem.W.mg_none_of X G z_len, PySem.W.mg_none_of X G z_sum, PySem.W.mg_none_of X G z_abs, PySem.W.mg_none_of X G z_max, PySem.W.mg_none_of X G z_min, PySem.W.mg_none_of X G z_sorted, PySem.W.mg_none_of X G z_all, PySem.W.mg_none_of X G z_any, PySem.W.mg_none_of X G z_tuple, PySem.W.mg_none_of X G z_list, PySem.W.mg_none_of X G z_int, PySem.W.mg_none_of X G z_str, PySem.W.mg_none_of X G z_repr, PySem.W.mg_none_of X G z_isinstance, PySem.W.mg_none_of X G z_range, PySem.W.mg_none_of X G z_zip, PySem.W.mg_none_of X G z_enumerate, PySem.W.mg_none_of X G z_set, PySem.W.mg_none_of X G z_dict, PySem.W.mg_none_of X G z_bool⟩
  have g_FEED : ∃ u, mg "FEED" = some u ∧ Sca (.str "\n") u := ⟨_, PySem.W.mg_of X G g_FEED, s_FEED⟩
  have g_MOST_DIGITS : ∃ u, mg "MOST_DIGITS" = some u ∧ Sca (.int 40) u := ⟨_, PySem.W.mg_of X G g_MOST_DIGITS, s_MOST_DIGITS⟩
  have g_DIGITS : ∃ u, mg "DIGITS" = some u ∧ Sca (.str "0123456789") u := ⟨_, PySem.W.mg_of X G g_DIGITS, s_DIGITS⟩
  have g_MOST_REPLICAS : ∃ u, mg "MOST_REPLICAS" = some u ∧ Sca (.int 12) u := ⟨_, PySem.W.mg_of X G g_MOST_REPLICAS, s_MOST_REPLICAS⟩
  have g_BLANK : ∃ u, mg "BLANK" = some u ∧ Sca (.str " ") u := ⟨_, PySem.W.mg_of X G g_BLANK, s_BLANK⟩
  have F0 := fun_mk (st := s_is_integer) l0 c0 k0
  have F1 := fun_mk (st := s_is_weights) l1 c1 k1
  have F2 := fun_mk (st := s_number_in) l2 c2 k2
  have F3 := fun_mk (st := s_numbers_in) l3 c3 k3
  have F4 := fun_mk (st := s_rows_in) l4 c4 k4
  have F5 := fun_mk (st := s_read_way) l5 c5 k5
  have F6 := fun_mk (st := s__law_urn) l6 c6 k6
  have F7 := fun_mk (st := s__law_take) l7 c7 k7
  have F8 := fun_mk (st := s__law_of) l8 c8 k8
  have F9 := fun_mk (st := s__law_votes) l9 c9 k9
  have F10 := fun_mk (st := s__law_odd) l10 c10 k10
  have F11 := fun_mk (st := s__law_votes_text) l11 c11 k11
  have F12 := fun_mk (st := s__law_number) l12 c12 k12
  have F13 := fun_mk (st := s__law_row_votes) l13 c13 k13
  have F14 := fun_mk (st := s__law_read_steps) l14 c14 k14
  have F15 := fun_mk (st := s__law_spoilt) l15 c15 k15
  have F16 := fun_mk (st := s__law_right) l16 c16 k16
  have F17 := fun_mk (st := s_law) l17 c17 k17
  refine ⟨PySem.W.fnOf "law" "law" (defArgs s_law) (defBody s_law) (defScope s_law) .none kV17 dc17 pm17 an17 cd17 ct17, fun s v => .of_eq rfl, fun base _ _ TB => ?_⟩
  have BV : BaseC K CV := ⟨bV1, bV2, bV3⟩
  have FI_BadText := fun_mk (x := "__init__") (qual := "BadText.__init__") (st := mth s_BadText 0) iL_BadText iC_BadText iK_BadText
  have e_BadText : ∃ C, ErrC P w K mg base "BadText" "row" C := ⟨C_BadText, errC_mk (PySem.W.mg_of X G aC_BadText) ⟨⟨nm_BadText, q_BadText, N_BadText, bs_BadText, bm_BadText, sn_BadText, sub_BadText, ab_BadText, col_BadText, dd_BadText, m0_BadText, m1_BadText, m2_BadText, m3_BadText, m5_BadText, xL_BadText, xR_BadText⟩, xS_BadText, xE_BadText, xT_BadText, xK_BadText⟩ nf_BadText iA_BadText iT_BadText BV (PySem.W.mg_of X G aV) FI_BadText (hb := rfl) ⟨rfl, rfl, rfl, by decide +kernel, rfl, by decide +kernel, by decide +kernel⟩ rfl (.inl rfl) (.inl rfl) rfl rfl (fun _ => rfl) (FI_BadText.binds fun _ _ _ _ _ _ us hl => match us, hl with | [_, _], _ => rfl)⟩
  have FT0 := fun_mk (st := s__law_reads) l100 c100 k100
  have t__law_reads : Told P w K mg base "_law_reads" TagR := ok__law_reads FT0 B (PySem.W.mg_of X G a100) (PySem.W.mg_none_of X G z_ValueError) (PySem.W.mg_of X G aV) (PySem.W.mg_of X G aC_BadText) (PySem.W.mg_of X G aC_BadMembers) nf_BadText nf_BadMembers kit0
  have o0 : FnG P w K mg base CX0 1 f0 _ _ (toSp K a_is_integer) := ok_is_integer F0 B 
  have c_is_integer : Cal P w K mg base 1 "is_integer" a_is_integer := ⟨_, _, _, o0, PySem.W.mg_of X G a0, k0, F0.binds fun _ _ _ _ _ _ us hl => match us, hl with | [_], _ => rfl⟩
  have o1 : FnG P w K mg base CX0 2 f1 _ _ (toSp K a_is_weights) := ok_is_weights F1 B c_is_integer g_MOST_REPLICAS
  have c_is_weights : Cal P w K mg base 2 "is_weights" a_is_weights := ⟨_, _, _, o1, PySem.W.mg_of X G a1, k1, F1.binds fun _ _ _ _ _ _ us hl => match us, hl with | [_], _ => rfl⟩
  have c_is_weights__g : Cal P w K mg base 2 "is_weights" a_is_weights__g := ⟨_, _, _, ok_is_weights__g F1 B c_is_integer g_MOST_REPLICAS, PySem.W.mg_of X G a1, k1, F1.binds fun _ _ _ _ _ _ us hl => match us, hl with | [_], _ => rfl⟩
  have o2 : FnG P w K mg base CX0 1 f2 _ _ (toSp K a_number_in) := ok_number_in F2 B g_MOST_DIGITS g_DIGITS
  have c_number_in : Cal P w K mg base 1 "number_in" a_number_in := ⟨_, _, _, o2, PySem.W.mg_of X G a2, k2, F2.binds fun _ _ _ _ _ _ us hl => match us, hl with | [_], _ => rfl⟩
  have o3 : FnG P w K mg base CX0 2 f3 _ _ (toSp K a_numbers_in) := ok_numbers_in F3 B c_number_in
  have c_numbers_in : Cal P w K mg base 2 "numbers_in" a_numbers_in := ⟨_, _, _, o3, PySem.W.mg_of X G a3, k3, F3.binds fun _ _ _ _ _ _ us hl => match us, hl with | [_], _ => rfl⟩
  have o4 : FnG P w K mg base CX0 1 f4 _ _ (toSp K a_rows_in) := ok_rows_in F4 B g_FEED
  have c_rows_in : Cal P w K mg base 1 "rows_in" a_rows_in := ⟨_, _, _, o4, PySem.W.mg_of X G a4, k4, F4.binds fun _ _ _ _ _ _ us hl => match us, hl with | [_], _ => rfl⟩
  have x_rows_in : CalX P w K mg base 3 "rows_in" (jn a_rows_in x_rows_in) := ⟨_, _, _, fnX_join (o4.mono (by decide)) ((okx_rows_in F4 B e_BadText).mono (by decide)), PySem.W.mg_of X G a4, k4, F4.binds fun _ _ _ _ _ _ us hl => match us, hl with | [_], _ => rfl⟩
  have o5 : FnG P w K mg base CX0 3 f5 _ _ (toSp K a_read_way) := ok_read_way F5 B c_rows_in c_numbers_in c_is_weights__g g_BLANK
  have c_read_way : Cal P w K mg base 3 "read_way" a_read_way := ⟨_, _, _, o5, PySem.W.mg_of X G a5, k5, F5.binds fun _ _ _ _ _ _ us hl => match us, hl with | [_], _ => rfl⟩
  have x_read_way : CalX P w K mg base 4 "read_way" (jn a_read_way x_read_way) := ⟨_, _, _, fnX_join (o5.mono (by decide)) ((okx_read_way F5 B c_rows_in x_rows_in c_numbers_in c_is_weights__g g_BLANK e_BadText).mono (by decide)), PySem.W.mg_of X G a5, k5, F5.binds fun _ _ _ _ _ _ us hl => match us, hl with | [_], _ => rfl⟩
  have o6 : FnG P w K mg base CX0 1 f6 _ _ (toSp K a__law_urn) := ok__law_urn F6 B 
  have c__law_urn : Cal P w K mg base 1 "_law_urn" a__law_urn := ⟨_, _, _, o6, PySem.W.mg_of X G a6, k6, F6.binds fun _ _ _ _ _ _ us hl => match us, hl with | [_, _], _ => rfl⟩
  have o7 : FnG P w K mg base CX0 1 f7 _ _ (toSp K a__law_take) := ok__law_take F7 B 
  have c__law_take : Cal P w K mg base 1 "_law_take" a__law_take := ⟨_, _, _, o7, PySem.W.mg_of X G a7, k7, F7.binds fun _ _ _ _ _ _ us hl => match us, hl with | [_, _], _ => rfl⟩
  have o8 : FnG P w K mg base CX0 2 f8 _ _ (toSp K a__law_of) := ok__law_of F8 B c__law_take
  have c__law_of : Cal P w K mg base 2 "_law_of" a__law_of := ⟨_, _, _, o8, PySem.W.mg_of X G a8, k8, F8.binds fun _ _ _ _ _ _ us hl => match us, hl with | [_, _], _ => rfl⟩
  have o9 : FnG P w K mg base CX0 3 f9 _ _ (toSp K a__law_votes) := ok__law_votes F9 B c__law_take c__law_of
  have c__law_votes : Cal P w K mg base 3 "_law_votes" a__law_votes := ⟨_, _, _, o9, PySem.W.mg_of X G a9, k9, F9.binds fun _ _ _ _ _ _ us hl => match us, hl with | [_, _, _, _], _ => rfl⟩
  have o10 : FnG P w K mg base CX0 3 f10 _ _ (toSp K a__law_odd) := ok__law_odd F10 B c__law_of
  have c__law_odd : Cal P w K mg base 3 "_law_odd" a__law_odd := ⟨_, _, _, o10, PySem.W.mg_of X G a10, k10, F10.binds fun _ _ _ _ _ _ us hl => match us, hl with | [_], _ => rfl⟩
  have o11 : FnG P w K mg base CX0 1 f11 _ _ (toSp K a__law_votes_text) := ok__law_votes_text F11 B 
  have c__law_votes_text : Cal P w K mg base 1 "_law_votes_text" a__law_votes_text := ⟨_, _, _, o11, PySem.W.mg_of X G a11, k11, F11.binds fun _ _ _ _ _ _ us hl => match us, hl with | [_], _ => rfl⟩
  have o12 : FnG P w K mg base CX0 1 f12 _ _ (toSp K a__law_number) := ok__law_number F12 B 
  have c__law_number : Cal P w K mg base 1 "_law_number" a__law_number := ⟨_, _, _, o12, PySem.W.mg_of X G a12, k12, F12.binds fun _ _ _ _ _ _ us hl => match us, hl with | [_], _ => rfl⟩
  have o13 : FnG P w K mg base CX0 2 f13 _ _ (toSp K a__law_row_votes) := ok__law_row_votes F13 B c__law_number
  have c__law_row_votes : Cal P w K mg base 2 "_law_row_votes" a__law_row_votes := ⟨_, _, _, o13, PySem.W.mg_of X G a13, k13, F13.binds fun _ _ _ _ _ _ us hl => match us, hl with | [_], _ => rfl⟩
  have o14 : FnG P w K mg base CX0 3 f14 _ _ (toSp K a__law_read_steps) := ok__law_read_steps F14 B c__law_row_votes
  have c__law_read_steps : Cal P w K mg base 3 "_law_read_steps" a__law_read_steps := ⟨_, _, _, o14, PySem.W.mg_of X G a14, k14, F14.binds fun _ _ _ _ _ _ us hl => match us, hl with | [_], _ => rfl⟩
  have o15 : FnG P w K mg base CX0 3 f15 _ _ (toSp K a__law_spoilt) := ok__law_spoilt F15 B c__law_of c__law_take
  have c__law_spoilt : Cal P w K mg base 3 "_law_spoilt" a__law_spoilt := ⟨_, _, _, o15, PySem.W.mg_of X G a15, k15, F15.binds fun _ _ _ _ _ _ us hl => match us, hl with | [_, _], _ => rfl⟩
  have o16 : FnG P w K mg base CX0 7 f16 _ _ (toSp K a__law_right) := ok__law_right F16 B rfl (TB (174, 172) (by simp)) (by decide) (by decide) t__law_reads x_read_way c__law_votes c__law_spoilt c__law_votes_text c__law_take c__law_odd c__law_read_steps
  have c__law_right : Cal P w K mg base 7 "_law_right" a__law_right := ⟨_, _, _, o16, PySem.W.mg_of X G a16, k16, F16.binds fun _ _ _ _ _ _ us hl => match us, hl with | [_], _ => rfl⟩
  exact ok_law F17 B c__law_urn c__law_right
end VM
open PySem PySem.W PyProof.Rows
set_option maxHeartbeats 0 in
theorem PySem.Challenge.cw_votemoves_k62_texts_of_ways_changed_holds : PySem.Challenge.rw_votemoves_k62_texts_of_ways_changed.Holds := by
  w_on; o_law; k_head; (case hw => w_witness2)
  k_fill
  refine AW.law_end (l := PySem.Challenge.rw_votemoves_k62_texts_of_ways_changed) (n := 63) (k := 8) (x := "_law_script") [(174, 172)] rfl (by decide) rfl ⟨rfl, by decide, by decide⟩ (fun w h Y => by first | exact PySem.W.kIn_of Y | exact PySem.W.km_in_of Y) (by decide) (fun w => by kernel_rfl) ?tab ?F
  case tab =>
    intro w h mean mg mb KX T
    exact (List.forall_mem_cons.mpr ⟨PySem.W.tab_of (x := Str.ofString "_law_right") (c := 174) (P := 172) T KX rfl (by kernel_rfl), (List.forall_mem_nil _)⟩)
  case F =>
    intro w mg fa h KX G hmg
    refine' VM.all_mk KX G hmg ?a0 ?l0 ?c0 ?k0 ?a1 ?l1 ?c1 ?k1 ?a2 ?l2 ?c2 ?k2 ?a3 ?l3 ?c3 ?k3 ?a4 ?l4 ?c4 ?k4 ?a5 ?l5 ?c5 ?k5 ?a6 ?l6 ?c6 ?k6 ?a7 ?l7 ?c7 ?k7 ?a8 ?l8 ?c8 ?k8 ?a9 ?l9 ?c9 ?k9 ?a10 ?l10 ?c10 ?k10 ?a11 ?l11 ?c11 ?k11 ?a12 ?l12 ?c12 ?k12 ?a13 ?l13 ?c13 ?k13 ?a14 ?l14 ?c14 ?k14 ?a15 ?l15 ?c15 ?k15 ?a16 ?l16 ?c16 ?k16 ?a17 ?l17 ?c17 ?k17 ?a100 ?l100 ?c100 ?k100 ?aV ?z_ValueError ?aC_BadText ?aC_BadMembers ?nf_BadText ?nf_BadMembers ?bV1 ?bV2 ?bV3 ?xL_BadText ?xR_BadText ?xS_BadText ?xE_BadText ?xT_BadText ?xK_BadText ?iA_BadText ?iT_BadText ?iL_BadText ?iC_BadText ?iK_BadText ?kit0 ?z_len ?z_sum ?z_abs ?z_max ?z_min ?z_sorted ?z_all ?z_any ?z_tuple ?z_list ?z_int ?z_str ?z_repr ?z_isinstance ?z_range ?z_zip ?z_enumerate ?z_set ?z_dict ?z_bool ?g_FEED ?s_FEED ?g_MOST_DIGITS ?s_MOST_DIGITS ?g_DIGITS ?s_DIGITS ?g_MOST_REPLICAS ?s_MOST_REPLICAS ?g_BLANK ?s_BLANK
    (case a0 => k_is); (case l0 => k_is); (case c0 => k_is); (case k0 => k_is); (case a1 => k_is); (case l1 => k_is); (case c1 => k_is); (case k1 => k_is); (case a2 => k_is); (case l2 => k_is); (case c2 => k_is); (case k2 => k_is); (case a3 => k_is); (case l3 => k_is); (case c3 => k_is); (case k3 => k_is); (case a4 => k_is); (case l4 => k_is); (case c4 => k_is); (case k4 => k_is); (case a5 => k_is); (case l5 => k_is); (case c5 => k_is); (case k5 => k_is); (case a6 => k_is); (case l6 => k_is); (case c6 => k_is); (case k6 => k_is); (case a7 => k_is); (case l7 => k_is); (case c7 => k_is); (case k7 => k_is); (case a8 => k_is); (case l8 => k_is); (case c8 => k_is); (case k8 => k_is); (case a9 => k_is); (case l9 => k_is); (case c9 => k_is); (case k9 => k_is); (case a10 => k_is); (case l10 => k_is); (case c10 => k_is); (case k10 => k_is); (case a11 => k_is); (case l11 => k_is); (case c11 => k_is); (case k11 => k_is); (case a12 => k_is); (case l12 => k_is); (case c12 => k_is); (case k12 => k_is); (case a13 => k_is); (case l13 => k_is); (case c13 => k_is); (case k13 => k_is); (case a14 => k_is); (case l14 => k_is); (case c14 => k_is); (case k14 => k_is); (case a15 => k_is); (case l15 => k_is); (case c15 => k_is); (case k15 => k_is); (case a16 => k_is); (case l16 => k_is); (case c16 => k_is); (case k16 => k_is); (case a17 => k_is); (case l17 => k_is); (case c17 => k_is); (case k17 => k_is); (case a100 => k_is); (case l100 => k_is); (case c100 => k_is); (case k100 => k_is); (case aV => k_is); (case z_ValueError => k_is); (case aC_BadText => k_is); (case aC_BadMembers => k_is); (case nf_BadText => k_is); (case nf_BadMembers => k_is); (case bV1 => k_is); (case bV2 => k_is); (case bV3 => k_is); (case xL_BadText => k_is); (case xR_BadText => kernel_rfl); (case xS_BadText => k_is); (case xE_BadText => k_is); (case xT_BadText => k_is); (case xK_BadText => k_is); (case iA_BadText => k_is); (case iT_BadText => k_is); (case iL_BadText => k_is); (case iC_BadText => k_is); (case iK_BadText => k_is); (case kit0 => kernel_rfl); (case z_len => k_is); (case z_sum => k_is); (case z_abs => k_is); (case z_max => k_is); (case z_min => k_is); (case z_sorted => k_is); (case z_all => k_is); (case z_any => k_is); (case z_tuple => k_is); (case z_list => k_is); (case z_int => k_is); (case z_str => k_is); (case z_repr => k_is); (case z_isinstance => k_is); (case z_range => k_is); (case z_zip => k_is); (case z_enumerate => k_is); (case z_set => k_is); (case z_dict => k_is); (case z_bool => k_is); (case g_FEED => k_is); (case s_FEED => exact .str _ _); (case g_MOST_DIGITS => k_is); (case s_MOST_DIGITS => exact .int _ _); (case g_DIGITS => k_is); (case s_DIGITS => exact .str _ _); (case g_MOST_REPLICAS => k_is); (case s_MOST_REPLICAS => exact .int _ _); (case g_BLANK => k_is); (case s_BLANK => exact .str _ _)
