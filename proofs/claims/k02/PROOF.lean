import PyProof.Rows.All
import Wide.All
import OpenK.AllK
import Wide.FinOn
import HandS.ForMost
import HandS.Wide
import HandS.Codes
import HandS.TupAny
import HandS.Conv
import PyProof.ReprRoads
import HandS.Deep
import HandS.Style
import HandS.Zip
import KE.GoesMore
import KE.GoesEnum
import HandS.MakeKwOnly
import HandS.Ends
import PyProof.ReprBulk
import PySem.Challenge.RW_votemoves_k02_margins_and_outcomes
set_option Elab.async false
set_option linter.all false
set_option maxRecDepth 100000
set_option maxHeartbeats 4000000
/-! AW1: data in place of heaps: what a value stands for, slots, the judgements. -/
namespace AW
open PySem PySem.Spec PyProof.Rows L2

/-! ### data -/
def keyD : Key → PyData
  | .inl i => .int i
  | .inr x => .str x
/-- a list that is never changed any more: locked, or the module's own -/
def SqF (K : PySem.W.Frag) (H : Hp) (a : Addr) (xs : List V) : Prop :=
  (∃ o, H a = some (.frz o (.lst xs))) ∨ ∃ (its : List Value) (n : Nat), K.lookup a = some { cls := .type "list", data := .seq its.toArray n } ∧ xs.length ≤ sizeLine ∧ Vals xs its
def RdF (K : PySem.W.Frag) (H : Hp) (a : Addr) (xs : List V) : Prop := H a = some (.lst xs) ∨ SqF K H a xs
theorem SqF.sq {K : PySem.W.Frag} {H : Hp} {a : Addr} {xs : List V} (h : SqF K H a xs) : SqL K H a xs := by
  rcases h with ⟨o, h⟩ | ⟨its, n, h, z, r⟩
  · exact .inl (.inr ⟨o, h⟩)
  · exact .inr ⟨_, its.toArray, n, h, rfl, rfl, rfl, by rw [List.size_toArray, ← r.length]; exact z, r⟩
theorem RdF.sq {K : PySem.W.Frag} {H : Hp} {a : Addr} {xs : List V} (h : RdF K H a xs) : SqL K H a xs := by
  rcases h with h | h
  · exact .inl (.inl h)
  · exact h.sq
mutual
/-- v stands for the data d: its lists and dicts are locked, its tuples never change -/
inductive Rp (K : PySem.W.Frag) (H : Hp) : PyData → V → Prop
  | none : Rp K H .none .non
  | bool (b : Bool) : Rp K H (.bool b) (.bl b)
  | int (i : Int) : Rp K H (.int i) (.int i)
  | str (x : Str) : Rp K H (.str x) (.str x)
  | list {a : Addr} {xs : List V} {ds : List PyData} : SqF K H a xs → RpAll K H ds xs → Rp K H (.list ds) (.ref a)
  | tuple {a : Addr} {xs : List V} {ds : List PyData} : SqT K H a xs → RpAll K H ds xs → Rp K H (.tuple ds) (.ref a)
  | dict {a : Addr} {o : Obj} {kvs : List (Key × V)} {es : List (PyData × PyData)} : H a = some (.frz o (.dK kvs)) → es.map (·.1) = kvs.map (fun kv => keyD kv.1) →
      RpAll K H (es.map (·.2)) (kvs.map (·.2)) → Rp K H (.dict es) (.ref a)
inductive RpAll (K : PySem.W.Frag) (H : Hp) : List PyData → List V → Prop
  | nil : RpAll K H [] []
  | cons {d : PyData} {ds : List PyData} {v : V} {vs : List V} : Rp K H d v → RpAll K H ds vs → RpAll K H (d :: ds) (v :: vs)
end
/-- what never changes any more -/
def Imm : HO → Prop
  | .tup _ => True
  | .frz _ _ => True
  | _ => False
def Stb (H H' : Hp) : Prop := ∀ a o, Imm o → H a = some o → H' a = some o
theorem Stb.refl (H : Hp) : Stb H H := fun _ _ _ h => h
theorem Stb.trans {H H1 H2 : Hp} (a : Stb H H1) (b : Stb H1 H2) : Stb H H2 := fun c o i h => b c o i (a c o i h)
theorem Stb.tup {K : PySem.W.Frag} {H H' : Hp} {a : Addr} {xs : List V} (s : Stb H H') (h : SqT K H a xs) : SqT K H' a xs := by
  rcases h with (h | ⟨o, h⟩) | h
  · exact .inl (.inl (s _ _ trivial h))
  · exact .inl (.inr ⟨o, s _ _ trivial h⟩)
  · exact .inr h
theorem Stb.lst {K : PySem.W.Frag} {H H' : Hp} {a : Addr} {xs : List V} (s : Stb H H') (h : SqF K H a xs) : SqF K H' a xs := by
  rcases h with ⟨o, h⟩ | h
  · exact .inl ⟨o, s _ _ trivial h⟩
  · exact .inr h
section
variable {K : PySem.W.Frag} {H H' : Hp}
mutual
theorem Rp.mono (s : Stb H H') : ∀ (d : PyData) (v : V), Rp K H d v → Rp K H' d v
  | .none, _, h => by cases h; exact .none
  | .bool b, _, h => by cases h; exact .bool b
  | .int i, _, h => by cases h; exact .int i
  | .str x, _, h => by cases h; exact .str x
  | .list ds, _, h => by
    cases h with
    | list e r => exact .list (s.lst e) (RpAll.mono s ds _ r)
  | .tuple ds, _, h => by
    cases h with
    | tuple e r => exact .tuple (s.tup e) (RpAll.mono s ds _ r)
  | .dict es, _, h => by
    cases h with
    | dict e k r => exact .dict (s _ _ trivial e) k (RpAll.monoE s es _ r)
theorem RpAll.mono (s : Stb H H') : ∀ (ds : List PyData) (vs : List V), RpAll K H ds vs → RpAll K H' ds vs
  | [], _, h => by cases h; exact .nil
  | d :: ds, _, h => by
    cases h with
    | cons h t => exact .cons (Rp.mono s d _ h) (RpAll.mono s ds _ t)
theorem RpAll.monoE (s : Stb H H') : ∀ (es : List (PyData × PyData)) (vs : List V), RpAll K H (es.map (·.2)) vs → RpAll K H' (es.map (·.2)) vs
  | [], _, h => by cases h; exact .nil
  | (k, d) :: es, _, h => by
    cases h with
    | cons h t => exact .cons (Rp.mono s d _ h) (RpAll.monoE s es _ t)
end
theorem RpAll.length : ∀ {ds : List PyData} {vs : List V}, RpAll K H ds vs → ds.length = vs.length
  | [], _, h => by cases h; rfl
  | d :: ds, _, h => by
    cases h with
    | cons h t => simp [RpAll.length t]
theorem RpAll.get : ∀ {ds : List PyData} {vs : List V} {i : Nat} {d : PyData}, RpAll K H ds vs → ds[i]? = some d → ∃ v, vs[i]? = some v ∧ Rp K H d v
  | [], _, _, _, _, e => by simp at e
  | _ :: _, _, 0, _, h, e => by
    cases h with
    | cons h t => simp at e; subst e; exact ⟨_, rfl, h⟩
  | _ :: _, _, i + 1, _, h, e => by
    cases h with
    | cons h t =>
      obtain ⟨v, e1, r⟩ := RpAll.get (i := i) t (by simpa using e)
      exact ⟨v, by simpa using e1, r⟩
theorem RpAll.getV : ∀ {ds : List PyData} {vs : List V} {i : Nat} {v : V}, RpAll K H ds vs → vs[i]? = some v → ∃ d, ds[i]? = some d ∧ Rp K H d v
  | [], _, _, _, h, e => by cases h; simp at e
  | _ :: _, _, 0, _, h, e => by
    cases h with
    | cons h t => simp at e; subst e; exact ⟨_, rfl, h⟩
  | _ :: _, _, i + 1, _, h, e => by
    cases h with
    | cons h t =>
      obtain ⟨v, e1, r⟩ := RpAll.getV (i := i) t (by simpa using e)
      exact ⟨v, by simpa using e1, r⟩
theorem RpAll.append : ∀ {ds es : List PyData} {vs ws : List V}, RpAll K H ds vs → RpAll K H es ws → RpAll K H (ds ++ es) (vs ++ ws)
  | [], _, _, _, h, g => by cases h; exact g
  | _ :: _, _, _, _, h, g => by
    cases h with
    | cons h t => exact .cons h (RpAll.append t g)
theorem RpAll.set : ∀ {ds : List PyData} {vs : List V} {d : PyData} {v : V} (i : Nat), RpAll K H ds vs → Rp K H d v → RpAll K H (ds.set i d) (vs.set i v)
  | [], _, _, _, _, h, _ => by cases h; exact .nil
  | _ :: _, _, _, _, 0, h, r => by
    cases h with
    | cons h t => exact .cons r t
  | _ :: _, _, _, _, i + 1, h, r => by
    cases h with
    | cons h t => exact .cons h (RpAll.set i t r)
theorem RpAll.take : ∀ {ds : List PyData} {vs : List V} (n : Nat), RpAll K H ds vs → RpAll K H (ds.take n) (vs.take n)
  | [], _, n, h => by cases h; simp; exact .nil
  | _ :: _, _, 0, h => by simp; exact .nil
  | _ :: _, _, n + 1, h => by
    cases h with
    | cons h t => exact .cons h (RpAll.take n t)
theorem RpAll.drop : ∀ {ds : List PyData} {vs : List V} (n : Nat), RpAll K H ds vs → RpAll K H (ds.drop n) (vs.drop n)
  | [], _, n, h => by cases h; simp; exact .nil
  | _ :: _, _, 0, h => h
  | _ :: _, _, n + 1, h => by
    cases h with
    | cons h t => exact RpAll.drop n t
theorem RpAll.eraseIdx : ∀ {ds : List PyData} {vs : List V} (n : Nat), RpAll K H ds vs → RpAll K H (ds.eraseIdx n) (vs.eraseIdx n)
  | [], _, n, h => by cases h; simp; exact .nil
  | _ :: _, _, 0, h => by
    cases h with
    | cons h t => exact t
  | _ :: _, _, n + 1, h => by
    cases h with
    | cons h t => exact .cons h (RpAll.eraseIdx n t)
theorem RpAll.reverse : ∀ {ds : List PyData} {vs : List V}, RpAll K H ds vs → RpAll K H ds.reverse vs.reverse
  | [], _, h => by cases h; exact .nil
  | _ :: _, _, h => by
    cases h with
    | cons h t => simp only [List.reverse_cons]; exact (RpAll.reverse t).append (.cons h .nil)
theorem RpAll.rep {ds : List PyData} {vs : List V} (h : RpAll K H ds vs) : ∀ n : Nat, RpAll K H (List.replicate n ds).flatten (List.replicate n vs).flatten
  | 0 => by simp; exact .nil
  | n + 1 => by simp only [List.replicate_succ, List.flatten_cons]; exact h.append (RpAll.rep h n)
theorem RpAll.dropLast {ds : List PyData} {vs : List V} (h : RpAll K H ds vs) : RpAll K H ds.dropLast vs.dropLast := by
  rw [List.dropLast_eq_take, List.dropLast_eq_take, h.length]
  exact h.take _
theorem RpAll.ints : ∀ {ns : List Int} {vs : List V}, RpAll K H (ns.map PyData.int) vs → vs = ns.map V.int
  | [], _, h => by cases h; rfl
  | _ :: _, _, h => by
    cases h with
    | cons h t => cases h; simp [RpAll.ints t]
theorem RpAll.ints' : ∀ {ns : List Int}, RpAll K H (ns.map PyData.int) (ns.map V.int)
  | [] => .nil
  | _ :: _ => .cons (.int _) RpAll.ints'
theorem RpAll.bools : ∀ {ns : List Bool} {vs : List V}, RpAll K H (ns.map PyData.bool) vs → vs = ns.map V.bl
  | [], _, h => by cases h; rfl
  | _ :: _, _, h => by
    cases h with
    | cons h t => cases h; simp [RpAll.bools t]
theorem RpAll.strs : ∀ {ns : List Str} {vs : List V}, RpAll K H (ns.map PyData.str) vs → vs = ns.map V.str
  | [], _, h => by cases h; rfl
  | _ :: _, _, h => by
    cases h with
    | cons h t => cases h; simp [RpAll.strs t]
theorem RpAll.strs' : ∀ {ns : List Str}, RpAll K H (ns.map PyData.str) (ns.map V.str)
  | [] => .nil
  | _ :: _ => .cons (.str _) RpAll.strs'
theorem Rp.int_inv {i : Int} {v : V} (h : Rp K H (.int i) v) : v = .int i := by cases h; rfl
theorem Rp.bool_inv {i : Bool} {v : V} (h : Rp K H (.bool i) v) : v = .bl i := by cases h; rfl
theorem Rp.str_inv {i : Str} {v : V} (h : Rp K H (.str i) v) : v = .str i := by cases h; rfl
theorem Rp.none_inv {v : V} (h : Rp K H .none v) : v = .non := by cases h; rfl
end

/-! ### slots -/
/-- what a slot holds: nothing known, data, a list that it owns (p: the list was handed in by the caller, the slot keeps it) -/
inductive SV where
  | un
  | dat (d : PyData)
  | hol (p : Bool) (ds : List PyData)
abbrev Nv := List SV
def SOk (K : PySem.W.Frag) (H : Hp) : SV → Option V → Prop
  | .un, _ => True
  | .dat d, s => ∃ v, s = some v ∧ Rp K H d v
  | .hol _ ds, s => ∃ a vs, s = some (.ref a) ∧ H a = some (.lst vs) ∧ RpAll K H ds vs
structure NvOk (K : PySem.W.Frag) (H : Hp) (σ : L2.St) (ρ : Nv) : Prop where
  len : ρ.length = σ.length
  get : ∀ (i : Nat) (s : SV), ρ[i]? = some s → ∃ w, σ[i]? = some w ∧ SOk K H s w
  sep : ∀ (i j : Nat) (a : Addr) (p q : Bool) (ds es : List PyData), i ≠ j → ρ[i]? = some (.hol p ds) → ρ[j]? = some (.hol q es) → σ[i]? = some (some (.ref a)) → σ[j]? = some (some (.ref a)) → False
def Mine (ρ : Nv) (σ : L2.St) (a : Addr) : Prop := ∃ (i : Nat) (p : Bool) (ds : List PyData), ρ[i]? = some (SV.hol p ds) ∧ σ[i]? = some (some (V.ref a))
section
variable {K : PySem.W.Frag} {H H' H1 H2 : Hp} {σ σ' σ1 σ2 : L2.St} {ρ ρ' ρ1 ρ2 : Nv} {i : Nat}
theorem NvOk.dat {d : PyData} (E : NvOk K H σ ρ) (h : ρ[i]? = some (.dat d)) : ∃ v, σ[i]? = some (some v) ∧ Rp K H d v := by
  obtain ⟨w, e, v, rfl, r⟩ := E.get i _ h
  exact ⟨v, e, r⟩
theorem NvOk.hol {p : Bool} {ds : List PyData} (E : NvOk K H σ ρ) (h : ρ[i]? = some (.hol p ds)) : ∃ a vs, σ[i]? = some (some (.ref a)) ∧ H a = some (.lst vs) ∧ RpAll K H ds vs := by
  obtain ⟨w, e, a, vs, rfl, r⟩ := E.get i _ h
  exact ⟨a, vs, e, r⟩
theorem NvOk.mine (E : NvOk K H σ ρ) {a : Addr} (h : Mine ρ σ a) : ∃ vs, H a = some (.lst vs) := by
  obtain ⟨i, p, ds, h1, h2⟩ := h
  obtain ⟨b, vs, e, q, _⟩ := E.hol h1
  rw [h2] at e
  cases e
  exact ⟨vs, q⟩
theorem NvOk.imm (E : NvOk K H σ ρ) {a : Addr} {o : HO} (im : Imm o) (h : H a = some o) : ¬ Mine ρ σ a := fun m => by
  obtain ⟨vs, q⟩ := E.mine m
  rw [h] at q
  cases q
  exact im
/-- behind an expression: the same slots; all that stood and is not mine stands -/
structure Pex (K : PySem.W.Frag) (H : Hp) (ρ : Nv) (σ : L2.St) (H' : Hp) (ρ' : Nv) : Prop where
  kp : ∀ b o, H b = some o → ¬ Mine ρ σ b → H' b = some o
  th : ∀ b o, H b = some o → ∃ o', H' b = some o'
  sh : ∀ (i : Nat) (p : Bool) (ds : List PyData), ρ'[i]? = some (SV.hol p ds) → ∃ es : List PyData, ρ[i]? = some (SV.hol p es)
  hs : ∀ (i : Nat) (p : Bool) (ds : List PyData), ρ[i]? = some (SV.hol p ds) → ∃ es : List PyData, ρ'[i]? = some (SV.hol p es)
  ok : NvOk K H' σ ρ'
theorem Pex.refl (E : NvOk K H σ ρ) : Pex K H ρ σ H ρ := ⟨fun _ _ h _ => h, fun _ o h => ⟨o, h⟩, fun _ _ ds h => ⟨ds, h⟩, fun _ _ ds h => ⟨ds, h⟩, E⟩
theorem Pex.mn (P : Pex K H ρ σ H' ρ') {b : Addr} (h : Mine ρ' σ b) : Mine ρ σ b := by
  obtain ⟨i, p, ds, h1, h2⟩ := h
  obtain ⟨es, h3⟩ := P.sh i p ds h1
  exact ⟨i, p, es, h3, h2⟩
theorem Pex.nm (P : Pex K H ρ σ H' ρ') {b : Addr} (h : Mine ρ σ b) : Mine ρ' σ b := by
  obtain ⟨i, p, ds, h1, h2⟩ := h
  obtain ⟨es, h3⟩ := P.hs i p ds h1
  exact ⟨i, p, es, h3, h2⟩
theorem Pex.trans (A : Pex K H ρ σ H1 ρ1) (B : Pex K H1 ρ1 σ H2 ρ2) : Pex K H ρ σ H2 ρ2 where
  kp := fun b o h n => B.kp b o (A.kp b o h n) fun m => n (A.mn m)
  th := fun b o h => let ⟨o1, h1⟩ := A.th b o h; B.th b o1 h1
  sh := fun i p ds h => let ⟨es, h1⟩ := B.sh i p ds h; A.sh i p es h1
  hs := fun i p ds h => let ⟨es, h1⟩ := A.hs i p ds h; B.hs i p es h1
  ok := B.ok
theorem Pex.stb (E : NvOk K H σ ρ) (P : Pex K H ρ σ H' ρ') : Stb H H' := fun a o im h => P.kp a o h (E.imm im h)
theorem Pex.free (P : Pex K H ρ σ H' ρ') {a : Addr} (h : H' a = none) : H a = none := by
  cases q : H a with
  | none => rfl
  | some o =>
    obtain ⟨o', h'⟩ := P.th a o q
    rw [h] at h'
    cases h'
/-- behind a statement -/
structure Pst (K : PySem.W.Frag) (H : Hp) (ρ : Nv) (σ : L2.St) (H' : Hp) (ρ' : Nv) (σ' : L2.St) : Prop where
  kp : ∀ b o, H b = some o → ¬ Mine ρ σ b → H' b = some o
  th : ∀ b o, H b = some o → ∃ o', H' b = some o'
  mn : ∀ b, Mine ρ' σ' b → Mine ρ σ b ∨ H b = none
  pn : ∀ (i : Nat) (ds : List PyData), ρ[i]? = some (SV.hol true ds) → (∃ es : List PyData, ρ'[i]? = some (SV.hol true es)) ∧ σ'[i]? = σ[i]?
  ok : NvOk K H' σ' ρ'
theorem Pst.refl (E : NvOk K H σ ρ) : Pst K H ρ σ H ρ σ := ⟨fun _ _ h _ => h, fun _ o h => ⟨o, h⟩, fun _ h => .inl h, fun _ ds h => ⟨⟨ds, h⟩, rfl⟩, E⟩
theorem Pst.trans (A : Pst K H ρ σ H1 ρ1 σ1) (B : Pst K H1 ρ1 σ1 H2 ρ2 σ2) : Pst K H ρ σ H2 ρ2 σ2 where
  kp := fun b o h n => B.kp b o (A.kp b o h n) fun m => by
    rcases A.mn b m with z | z
    · exact n z
    · rw [h] at z; cases z
  th := fun b o h => let ⟨o1, h1⟩ := A.th b o h; B.th b o1 h1
  mn := fun b m => by
    rcases B.mn b m with z | z
    · exact A.mn b z
    · cases q : H b with
      | none => exact .inr rfl
      | some o =>
        obtain ⟨o', h'⟩ := A.th b o q
        rw [z] at h'
        cases h'
  pn := fun i ds h => by
    obtain ⟨⟨es, h1⟩, e1⟩ := A.pn i ds h
    obtain ⟨h2, e2⟩ := B.pn i es h1
    exact ⟨h2, e2.trans e1⟩
  ok := B.ok
theorem Pex.pst (P : Pex K H ρ σ H' ρ') : Pst K H ρ σ H' ρ' σ := ⟨P.kp, P.th, fun b m => .inl (P.mn m), fun i ds h => ⟨P.hs i true ds h, rfl⟩, P.ok⟩
theorem Pst.stb (E : NvOk K H σ ρ) (P : Pst K H ρ σ H' ρ' σ') : Stb H H' := fun a o im h => P.kp a o h (E.imm im h)
theorem Pst.free (P : Pst K H ρ σ H' ρ' σ') {a : Addr} (h : H' a = none) : H a = none := by
  cases q : H a with
  | none => rfl
  | some o =>
    obtain ⟨o', h'⟩ := P.th a o q
    rw [h] at h'
    cases h'

/-! ### what an expression gives -/
/-- data; a new list that nobody else holds; the list of slot i -/
inductive AV where
  | dat (d : PyData)
  | frs (ds : List PyData)
  | own (i : Nat)
def VOk (K : PySem.W.Frag) (H0 H : Hp) (ρ : Nv) (σ : L2.St) : AV → V → Prop
  | .dat d, v => Rp K H d v
  | .frs ds, v => ∃ a vs, v = .ref a ∧ H0 a = none ∧ H a = some (.lst vs) ∧ RpAll K H ds vs
  | .own i, v => (∃ (p : Bool) (ds : List PyData), ρ[i]? = some (SV.hol p ds)) ∧ σ[i]? = some (some v)
theorem VOk.back {H0 : Hp} {x : AV} {v : V} (hf : ∀ a, H1 a = none → H0 a = none) (h : VOk K H1 H ρ σ x v) : VOk K H0 H ρ σ x v := by
  cases x with
  | dat d => exact h
  | frs ds => obtain ⟨a, vs, e, n, r⟩ := h; exact ⟨a, vs, e, hf a n, r⟩
  | own i => exact h
theorem VOk.step {x : AV} {v : V} (E : NvOk K H σ ρ) (A : Pex K H ρ σ H1 ρ1) (B : Pex K H1 ρ1 σ H2 ρ2) (h : VOk K H H1 ρ1 σ x v) : VOk K H H2 ρ2 σ x v := by
  have st : Stb H1 H2 := B.stb A.ok
  cases x with
  | dat d => exact Rp.mono st _ _ h
  | frs ds =>
    obtain ⟨a, vs, e, n, q, r⟩ := h
    refine ⟨a, vs, e, n, B.kp a _ q fun m => ?_, RpAll.mono st _ _ r⟩
    obtain ⟨ws, z⟩ := E.mine (A.mn m)
    rw [n] at z
    cases z
  | own i =>
    obtain ⟨⟨p, ds, h1⟩, h2⟩ := h
    exact ⟨⟨p, B.hs i p ds h1⟩, h2⟩
end

/-! ### the judgements -/
/-- the weakest reading -/
def tW (X : Cx) (e : Expr) : TE := fun σ H Q => ∀ (pins : List (Addr × Obj)) (s : Shared), Inv X pins σ H s → wpAny (model X.prog X.w) X.A (eval e X.env) (EP X pins σ Q) X.xe s
theorem pe_W {X : Cx} {e : Expr} : PE X e (tW X e) := ⟨fun pins s _ _ _ I h => h pins s I⟩
def tTW (X : Cx) (e : Expr) : TT := fun σ H Q => ∀ (pins : List (Addr × Obj)) (s : Shared), Inv X pins σ H s → wpAny (model X.prog X.w) X.A (isTrue e X.env (eval e X.env)) (TP X pins σ Q) X.xe s
theorem pt_W {X : Cx} {e : Expr} : PT X e (tTW X e) := ⟨fun pins s _ _ _ I h => h pins s I⟩
def tAW (X : Cx) (es : List Expr) : TA := fun σ H Q => ∀ (pos : Pos) (pins : List (Addr × Obj)) (s : Shared), Inv X pins σ H s → wpAny (model X.prog X.w) X.A (spliced (backTo pos (starEach es X.env))) (AP X pins σ Q) X.xe s
theorem pa_W {X : Cx} {es : List Expr} : PA X es (tAW X es) := ⟨fun pos pins s _ _ _ I h => h pos pins s I⟩
def tSW (X : Cx) (sts : List Stmt) : TS := fun D σ H => ∀ (pins : List (Addr × Obj)) (s : Shared), Inv X pins σ H s → wpAny (model X.prog X.w) X.A (execs sts X.env) (SP X pins D) X.xe s
theorem pss_W {X : Cx} {sts : List Stmt} : PSs X sts (tSW X sts) := ⟨fun pins s _ _ _ I h => h pins s I⟩
def tGW (X : Cx) (tg : Expr) : TG := fun v σ H Q => ∀ (pins : List (Addr × Obj)) (s : Shared) (u : Value), Inv X pins σ H s → RelV v u →
    wpAny (model X.prog X.w) X.A (assign tg X.env u) (fun _ s' => ∃ σ' H', Inv X pins σ' H' s' ∧ Q σ' H') X.xe s
theorem pg_W {X : Cx} {tg : Expr} : PG X tg (tGW X tg) := ⟨fun pins s _ _ _ u _ I r h => h pins s u I r⟩

abbrev QE := AV → Nv → Prop
/-- from the slots ρ the expression e comes to a value and slots of which Q holds -/
def EW (X : Cx) (e : Expr) (ρ : Nv) (Q : QE) : Prop := ∀ (σ : L2.St) (H : Hp) (R : VK), NvOk X.K H σ ρ →
  (∀ v H' x ρ', Pex X.K H ρ σ H' ρ' → VOk X.K H H' ρ' σ x v → Q x ρ' → R v H') → tW X e σ H R
def TW (X : Cx) (e : Expr) (ρ : Nv) (Q : Bool → Nv → Prop) : Prop := ∀ (σ : L2.St) (H : Hp) (R : Bool → Hp → Prop), NvOk X.K H σ ρ →
  (∀ b H' ρ', Pex X.K H ρ σ H' ρ' → Q b ρ' → R b H') → tTW X e σ H R
inductive VsOk (K : PySem.W.Frag) (H0 H : Hp) (ρ : Nv) (σ : L2.St) : List AV → List V → Prop
  | nil : VsOk K H0 H ρ σ [] []
  | cons {x : AV} {xs : List AV} {v : V} {vs : List V} : VOk K H0 H ρ σ x v → VsOk K H0 H ρ σ xs vs → VsOk K H0 H ρ σ (x :: xs) (v :: vs)
def EWs (X : Cx) (es : List Expr) (ρ : Nv) (Q : List AV → Nv → Prop) : Prop := ∀ (σ : L2.St) (H : Hp) (R : List V → Hp → Prop), NvOk X.K H σ ρ →
  (∀ vs H' xs ρ', Pex X.K H ρ σ H' ρ' → VsOk X.K H H' ρ' σ xs vs → Q xs ρ' → R vs H') → tAW X es σ H R
theorem VsOk.back {K : PySem.W.Frag} {H0 H1 H : Hp} {ρ : Nv} {σ : L2.St} (hf : ∀ a, H1 a = none → H0 a = none) : ∀ {xs : List AV} {vs : List V}, VsOk K H1 H ρ σ xs vs → VsOk K H0 H ρ σ xs vs
  | _, _, .nil => .nil
  | _, _, .cons h t => .cons (h.back hf) (VsOk.back hf t)
theorem VsOk.step {K : PySem.W.Frag} {H H1 H2 : Hp} {ρ ρ1 ρ2 : Nv} {σ : L2.St} (E : NvOk K H σ ρ) (A : Pex K H ρ σ H1 ρ1) (B : Pex K H1 ρ1 σ H2 ρ2) : ∀ {xs : List AV} {vs : List V}, VsOk K H H1 ρ1 σ xs vs → VsOk K H H2 ρ2 σ xs vs
  | _, _, .nil => .nil
  | _, _, .cons h t => .cons (h.step E A B) (VsOk.step E A B t)
theorem VsOk.length {K : PySem.W.Frag} {H0 H : Hp} {ρ : Nv} {σ : L2.St} : ∀ {xs : List AV} {vs : List V}, VsOk K H0 H ρ σ xs vs → xs.length = vs.length
  | _, _, .nil => rfl
  | _, _, .cons _ t => by simp [VsOk.length t]
theorem EWs.nil {X : Cx} {ρ : Nv} {Q : List AV → Nv → Prop} (h : Q [] ρ) : EWs X [] ρ Q := fun σ H R E k pos pins s I =>
  pa_nil.run pos pins s σ H R I (k [] H [] ρ (Pex.refl E) .nil h)
theorem EWs.cons {X : Cx} {e : Expr} {es : List Expr} {ρ : Nv} {Q : List AV → Nv → Prop} (h : EW X e ρ fun x ρ1 => EWs X es ρ1 fun xs ρ2 => Q (x :: xs) ρ2)
    (hs : starEach (e :: es) X.env = (false, eval e X.env) :: starEach es X.env := by rfl) : EWs X (e :: es) ρ Q := fun σ H R E k pos pins s I => by
  refine (pa_cons pe_W pa_W hs).run pos pins s σ H R I (h σ H _ E fun v H1 x ρ1 P1 V1 q => ?_)
  refine q σ H1 _ P1.ok fun vs H2 xs ρ2 P2 V2 q2 => ?_
  exact k _ _ _ _ (P1.trans P2) (.cons (V1.step E P1 P2) (V2.back fun a n => P1.free n)) q2
end AW

/-! AW2: freezing, arguments, promises of defs (with the guards known), calls, the end of a law. -/
namespace AW
open PySem PySem.Spec PyProof.Rows L2

/-! ### what every rule may lean on -/
structure Blt (mg : Str → Option Value) : Prop where
  len : mg "len" = none
  sum : mg "sum" = none
  abs : mg "abs" = none
  max : mg "max" = none
  min : mg "min" = none
  sorted : mg "sorted" = none
  all : mg "all" = none
  any : mg "any" = none
  tuple : mg "tuple" = none
  list : mg "list" = none
  int : mg "int" = none
  str : mg "str" = none
  repr : mg "repr" = none
  isinstance : mg "isinstance" = none
  range : mg "range" = none
  zip : mg "zip" = none
  enumerate : mg "enumerate" = none
  set : mg "set" = none
  dict : mg "dict" = none
  bool : mg "bool" = none
structure Ctx (X : Cx) (k : Nat) : Prop where
  blt : Blt X.mg
  room : Room k X.A
  grd : X.A.guards = some []
  calm : X.calm = true
  nd : X.N.Nodup
theorem Ctx.blk {X : Cx} {k : Nat} (C : Ctx X k) (s : Shared) (H : Hp) (scope : Scope) (cenv : Env) (fp : List Addr) : Ctx (X.blk s H scope cenv fp) k := ⟨C.blt, C.room, C.grd, C.calm, C.nd⟩
theorem Ctx.mono {X : Cx} {j k : Nat} (C : Ctx X k) (h : j ≤ k) : Ctx X j := ⟨C.blt, C.room.mono h, C.grd, C.calm, C.nd⟩

/-! ### a new list becomes data -/
def asD : AV → Option PyData
  | .dat d => some d
  | .frs ds => some (.list ds)
  | .own _ => none
theorem upd_mine {K : PySem.W.Frag} {H H1 : Hp} {ρ ρ1 : Nv} {σ : L2.St} {a : Addr} (E : NvOk K H σ ρ) (P : Pex K H ρ σ H1 ρ1) (n : H a = none) : ¬ Mine ρ1 σ a := fun m => by
  obtain ⟨ws, z⟩ := E.mine (P.mn m)
  rw [n] at z
  cases z
theorem freeze {X : Cx} {pins : List (Addr × Obj)} {s : Shared} {H H1 : Hp} {ρ ρ1 : Nv} {σ : L2.St} {x : AV} {v : V} {d : PyData} (I : L2.Inv X pins σ H1 s) (E : NvOk X.K H σ ρ) (P : Pex X.K H ρ σ H1 ρ1) (V : VOk X.K H H1 ρ1 σ x v) (hd : asD x = some d) :
    ∃ H2, L2.Inv X pins σ H2 s ∧ Pex X.K H ρ σ H2 ρ1 ∧ Rp X.K H2 d v := by
  cases x with
  | dat d' =>
    obtain rfl : d' = d := Option.some.inj hd
    exact ⟨H1, I, P, V⟩
  | own i => exact nomatch hd
  | frs ds =>
    obtain rfl : PyData.list ds = d := Option.some.inj hd
    obtain ⟨a, vs, rfl, n, e, r⟩ := V
    obtain ⟨od, I2⟩ := I.lock e trivial
    have nm := upd_mine E P n
    have st : Stb H1 (upd H1 a (.frz od (.lst vs))) := fun b o im h => by
      rw [upd_ne (fun z => by rw [z, e] at h; cases h; exact im)]; exact h
    refine ⟨_, I2, ⟨fun b o h hm => ?_, fun b o h => ?_, P.sh, P.hs, ⟨P.ok.len, fun i s h => ?_, P.ok.sep⟩⟩, .list (.inl ⟨od, upd_same⟩) (RpAll.mono st _ _ r)⟩
    · rw [upd_ne (fun z => by rw [z, n] at h; cases h)]; exact P.kp b o h hm
    · rw [upd_ne (fun z => by rw [z, n] at h; cases h)]; exact P.th b o h
    · obtain ⟨w, e1, so⟩ := P.ok.get i s h
      refine ⟨w, e1, ?_⟩
      cases s with
      | un => trivial
      | dat d => obtain ⟨v, e2, r2⟩ := so; exact ⟨v, e2, Rp.mono st _ _ r2⟩
      | hol pp es =>
        obtain ⟨b, ws, e2, e3, r2⟩ := so
        refine ⟨b, ws, e2, ?_, RpAll.mono st _ _ r2⟩
        rw [upd_ne (fun z => ?_)]
        · exact e3
        · subst z
          exact nm ⟨i, pp, es, h, by rw [e1, e2]⟩
/-- the expression as data -/
abbrev EWd (X : Cx) (e : Expr) (ρ : Nv) (Q : PyData → Nv → Prop) : Prop := EW X e ρ fun x ρ1 => ∃ d, asD x = some d ∧ Q d ρ1
theorem EWd.run {X : Cx} {e : Expr} {ρ : Nv} {Q : PyData → Nv → Prop} (h : EWd X e ρ Q) {σ : L2.St} {H : Hp} {R : VK} (E : NvOk X.K H σ ρ) (k : ∀ v H' d ρ', Pex X.K H ρ σ H' ρ' → Rp X.K H' d v → Q d ρ' → R v H') : tW X e σ H R := fun pins s I => by
  refine thn (h σ H (fun v H1 => ∃ x ρ1, Pex X.K H ρ σ H1 ρ1 ∧ VOk X.K H H1 ρ1 σ x v ∧ ∃ d, asD x = some d ∧ Q d ρ1) E (fun v H' x ρ' P V q => ⟨x, ρ', P, V, q⟩) pins s I) fun u s1 ⟨v, H1, I1, r, x, ρ1, P, V, d, hd, q⟩ => ?_
  obtain ⟨H2, I2, P2, r2⟩ := freeze I1 E P V hd
  exact ⟨v, H2, I2, r, k v H2 d ρ1 P2 r2 q⟩
/-- several, as data -/
def EWds (X : Cx) (es : List Expr) (ρ : Nv) (Q : List PyData → Nv → Prop) : Prop := ∀ (σ : L2.St) (H : Hp) (R : List V → Hp → Prop), NvOk X.K H σ ρ →
  (∀ vs H' ds ρ', Pex X.K H ρ σ H' ρ' → RpAll X.K H' ds vs → Q ds ρ' → R vs H') → tAW X es σ H R
theorem EWds.nil {X : Cx} {ρ : Nv} {Q : List PyData → Nv → Prop} (h : Q [] ρ) : EWds X [] ρ Q := fun σ H R E k pos pins s I =>
  pa_nil.run pos pins s σ H R I (k [] H [] ρ (Pex.refl E) .nil h)
theorem EWds.cons {X : Cx} {e : Expr} {es : List Expr} {ρ : Nv} {Q : List PyData → Nv → Prop} (h : EW X e ρ fun x ρ1 => ∃ d, asD x = some d ∧ EWds X es ρ1 fun ds ρ2 => Q (d :: ds) ρ2)
    (hs : starEach (e :: es) X.env = (false, eval e X.env) :: starEach es X.env := by rfl) : EWds X (e :: es) ρ Q := fun σ H R E k pos pins s I => by
  refine (pa_cons pe_W pa_W hs).run pos pins s σ H R I (EWd.run h E fun v H1 d ρ1 P1 V1 q => ?_)
  refine q σ H1 _ P1.ok fun vs H2 ds ρ2 P2 V2 q2 => ?_
  exact k _ _ _ _ (P1.trans P2) (.cons (Rp.mono (P2.stb P1.ok) _ _ V1) V2) q2

/-! ### arguments: data, or the list that slot i owns -/
inductive GV where
  | d (d : PyData)
  | o (i : Nat)
def asG : AV → Option GV
  | .dat d => some (.d d)
  | .frs ds => some (.d (.list ds))
  | .own i => some (.o i)
def GOk (K : PySem.W.Frag) (H : Hp) (ρ : Nv) (σ : L2.St) : GV → V → Prop
  | .d d, v => Rp K H d v
  | .o i, v => (∃ (p : Bool) (ds : List PyData), ρ[i]? = some (SV.hol p ds)) ∧ σ[i]? = some (some v)
inductive GsOk (K : PySem.W.Frag) (H : Hp) (ρ : Nv) (σ : L2.St) : List GV → List V → Prop
  | nil : GsOk K H ρ σ [] []
  | cons {g : GV} {gs : List GV} {v : V} {vs : List V} : GOk K H ρ σ g v → GsOk K H ρ σ gs vs → GsOk K H ρ σ (g :: gs) (v :: vs)
def EWgs (X : Cx) (es : List Expr) (ρ : Nv) (Q : List GV → Nv → Prop) : Prop := ∀ (σ : L2.St) (H : Hp) (R : List V → Hp → Prop), NvOk X.K H σ ρ →
  (∀ vs H' gs ρ', Pex X.K H ρ σ H' ρ' → GsOk X.K H' ρ' σ gs vs → Q gs ρ' → R vs H') → tAW X es σ H R
theorem EWgs.nil {X : Cx} {ρ : Nv} {Q : List GV → Nv → Prop} (h : Q [] ρ) : EWgs X [] ρ Q := fun σ H R E k pos pins s I =>
  pa_nil.run pos pins s σ H R I (k [] H [] ρ (Pex.refl E) .nil h)
theorem freezeG {X : Cx} {pins : List (Addr × Obj)} {s : Shared} {H H1 : Hp} {ρ ρ1 : Nv} {σ : L2.St} {x : AV} {v : V} {g : GV} (I : L2.Inv X pins σ H1 s) (E : NvOk X.K H σ ρ) (P : Pex X.K H ρ σ H1 ρ1) (V : VOk X.K H H1 ρ1 σ x v) (hd : asG x = some g) :
    ∃ H2, L2.Inv X pins σ H2 s ∧ Pex X.K H ρ σ H2 ρ1 ∧ GOk X.K H2 ρ1 σ g v := by
  cases x with
  | own i =>
    obtain rfl : GV.o i = g := Option.some.inj hd
    exact ⟨H1, I, P, V⟩
  | dat d =>
    obtain rfl : GV.d d = g := Option.some.inj hd
    exact ⟨H1, I, P, V⟩
  | frs ds =>
    obtain rfl : GV.d (.list ds) = g := Option.some.inj hd
    exact freeze I E P V rfl
theorem EWg.run {X : Cx} {e : Expr} {ρ : Nv} {Q : GV → Nv → Prop} (h : EW X e ρ fun x ρ1 => ∃ g, asG x = some g ∧ Q g ρ1) {σ : L2.St} {H : Hp} {R : VK} (E : NvOk X.K H σ ρ) (k : ∀ v H' d ρ', Pex X.K H ρ σ H' ρ' → GOk X.K H' ρ' σ d v → Q d ρ' → R v H') : tW X e σ H R := fun pins s I => by
  refine thn (h σ H (fun v H1 => ∃ x ρ1, Pex X.K H ρ σ H1 ρ1 ∧ VOk X.K H H1 ρ1 σ x v ∧ ∃ d, asG x = some d ∧ Q d ρ1) E (fun v H' x ρ' P V q => ⟨x, ρ', P, V, q⟩) pins s I) fun u s1 ⟨v, H1, I1, r, x, ρ1, P, V, d, hd, q⟩ => ?_
  obtain ⟨H2, I2, P2, r2⟩ := freezeG I1 E P V hd
  exact ⟨v, H2, I2, r, k v H2 d ρ1 P2 r2 q⟩
theorem GOk.step {K : PySem.W.Frag} {H1 H2 : Hp} {ρ1 ρ2 : Nv} {σ : L2.St} {g : GV} {v : V} (E : NvOk K H1 σ ρ1) (P : Pex K H1 ρ1 σ H2 ρ2) (h : GOk K H1 ρ1 σ g v) : GOk K H2 ρ2 σ g v := by
  cases g with
  | d d => exact Rp.mono (P.stb E) _ _ h
  | o i => obtain ⟨⟨p, ds, h1⟩, h2⟩ := h; exact ⟨⟨p, P.hs i p ds h1⟩, h2⟩
theorem EWgs.cons {X : Cx} {e : Expr} {es : List Expr} {ρ : Nv} {Q : List GV → Nv → Prop} (h : EW X e ρ fun x ρ1 => ∃ g, asG x = some g ∧ EWgs X es ρ1 fun gs ρ2 => Q (g :: gs) ρ2)
    (hs : starEach (e :: es) X.env = (false, eval e X.env) :: starEach es X.env := by rfl) : EWgs X (e :: es) ρ Q := fun σ H R E k pos pins s I => by
  refine (pa_cons pe_W pa_W hs).run pos pins s σ H R I (EWg.run h E fun v H1 d ρ1 P1 V1 q => ?_)
  refine q σ H1 _ P1.ok fun vs H2 ds ρ2 P2 V2 q2 => ?_
  exact k _ _ _ _ (P1.trans P2) (.cons (V1.step P1.ok P2) V2) q2
/-- a list of ours, as a callee sees it -/
def lent : Option SV → SV
  | some (.hol _ ds) => .hol true ds
  | _ => .un
/-- .. and as it comes back -/
def come : Option SV → SV → SV
  | some (.hol p _), .hol _ ds => .hol p ds
  | _, _ => .un
/-- the arguments as the callee's slots -/
def svs (ρ : Nv) : List GV → List SV
  | [] => []
  | .d d :: gs => .dat d :: svs ρ gs
  | .o i :: gs => lent ρ[i]? :: svs ρ gs
/-- the callee's lists, back in our slots -/
def bck (ρ : Nv) : List GV → List SV → Nv
  | .d _ :: gs, _ :: ss => bck ρ gs ss
  | .o i :: gs, s :: ss => (bck ρ gs ss).set i (come ρ[i]? s)
  | _, _ => ρ
/-- the slots that are handed over -/
def owns : List GV → List Nat
  | [] => []
  | .d _ :: gs => owns gs
  | .o i :: gs => i :: owns gs

/-! ### promises of defs -/
/-- by the arguments: what is wanted of the value and of the arguments behind the call -/
abbrev ASp := List SV → (AV → List SV → Prop) → Prop
def notOwn : AV → Prop
  | .own _ => False
  | _ => True
def Pinned (as : List SV) : Prop := ∀ (i : Nat) (p : Bool) (ds : List PyData), as[i]? = some (SV.hol p ds) → p = true
def toSp (K : PySem.W.Frag) (A : ASp) : Sp := fun vs H Q _ => ∃ (as : List SV) (R : AV → List SV → Prop), NvOk K H (vs.map some) as ∧ Pinned as ∧ A as R ∧
  ∀ x as' v H', R x as' → Pex K H as (vs.map some) H' as' → VOk K H H' as' (vs.map some) x v → notOwn x → Q v H'
/-- a def's promise where the guards are known -/
structure FnG (P : Program) (w : World) (K : PySem.W.Frag) (mg : Str → Option Value) (base : Heap) (CX : CXT) (k : Nat) (f : Addr) (fd : FuncData) (ps : List Str) (sp : Sp) : Prop where
  len : ∀ vs H Q E, sp vs H Q E → vs.length = ps.length
  run : ∀ (A : Around) (outer : List Env) (s : Shared) (H : Hp) (args : Args) (us : List Value) (vs : List V) (Q : VK) (E : XK), A.guards = some [] → Room k A → Env0 P w K mg base A outer s H → BindsTo s fd args (ps.zip us) →
    Vals vs us → sp vs H Q E → codeAny (model P w) A (.call (.ref f) args) (CR CX outer P w H s Q E) s
theorem FnG.mono {P : Program} {w : World} {K : PySem.W.Frag} {mg : Str → Option Value} {base : Heap} {CX : CXT} {j k : Nat} {f : Addr} {fd : FuncData} {ps : List Str} {sp : Sp} (F : FnG P w K mg base CX j f fd ps sp) (h : j ≤ k) :
    FnG P w K mg base CX k f fd ps sp := ⟨F.len, fun A outer s H args us vs Q E g hr => F.run A outer s H args us vs Q E g (hr.mono h)⟩
/-- what a caller wants of a call -/
def backTo' (X : Cx) (pins : List (Addr × Obj)) (σ : L2.St) (Q : VK) : Result → Shared → Prop := fun r s' => match r with | .ok (.ret v) => EP X pins σ Q v s' | .ok _ => False | .error e => X.xe e s'
theorem cr_end {X : Cx} {CX : CXT} {E : XK} {pins : List (Addr × Obj)} {σ : L2.St} {H : Hp} {s : Shared} {Q : VK} (hx : Passes CX X E) (I : L2.Inv X pins σ H s) {r : Result} {s' : Shared} (hq : CR CX X.stack X.prog X.w H s Q E r s') : backTo' X pins σ Q r s' := by
  match r, hq with
  | .error e, hq => exact hx _ _ _ _ _ _ I hq
  | .ok (.ret u), hq => exact I.after hq
  | .ok .next, hq => exact False.elim hq
  | .ok .brk, hq => exact False.elim hq
  | .ok .cont, hq => exact False.elim hq
section
variable {X : Cx} {CX : CXT} {k : Nat} {f : Addr} {fd : FuncData} {ps ks : List Str} {sp : Sp} {E : XK} {x : Str} {p pos : Pos} {e : Expr} {es : List Expr} {kws : List Keyword} {t tk : TA}
theorem run_G {pins : List (Addr × Obj)} {σ : L2.St} {H : Hp} {s : Shared} {Q : VK} {us : List Value} {vs : List V} (F : FnG X.prog X.w X.K X.mg X.base CX k f fd ps sp) (C : Ctx X k) (hb : Binds X.K fd ps []) (hx : Passes CX X E)
    (I : L2.Inv X pins σ H s) (r : Vals vs us) (h : sp vs H Q E) : wpAny (model X.prog X.w) X.A (call (.ref f) us) (EP X pins σ Q) X.xe s := by
  have hl : (us ++ []).length = ps.length := by rw [List.append_nil, ← r.length]; exact F.len _ _ _ _ h
  have bt := hb s us I.kIn hl
  rw [List.append_nil] at bt
  exact wpAny_call (codeAny_mono (F.run _ _ s H ⟨us, []⟩ us vs Q E C.grd C.room I.env0 bt r h) fun r s' hq => cr_end hx I hq)
/-- f(e, ..) -/
theorem pe_G (F : FnG X.prog X.w X.K X.mg X.base CX k f fd ps sp) (C : Ctx X k) (hg : Gl X x) (hm : X.mg x = some (.ref f)) (hk : PySem.W.keepIn X.K (.ref f) = true) (hb : Binds X.K fd ps []) (hx : Passes CX X E) (ha : PA X (e :: es) t)
    (hdb : (x == ("__debug__" : Str)) = false := by decide) (he : starEach (e :: es) X.env = (false, eval e X.env) :: starEach es X.env := by rfl) (hpl : (backTo pos (starEach es X.env)).any (·.1) = false := by rfl) :
    PE X (.Call (.Name x p) (e :: es) [] pos) (tCall sp [] E t) := ⟨fun pins s σ H Q I h => by
  refine wpAny_Call_Name_kw (ld_glob I hg hm ?_ hdb)
  refine PySem.W.callWith_K (h₀ := X.base) I.ok.mod.kin hk (thn (ha.run pos pins s σ H _ I h) ?_) he hpl
  rintro us s1 ⟨vs, H1, I1, r, q⟩
  rw [List.append_nil] at q
  exact ⟨I1.kIn, run_G F C hb hx I1 r q⟩⟩
theorem pe_G0 (F : FnG X.prog X.w X.K X.mg X.base CX k f fd ps sp) (C : Ctx X k) (hg : Gl X x) (hm : X.mg x = some (.ref f)) (hk : PySem.W.keepIn X.K (.ref f) = true) (hb : Binds X.K fd ps []) (hx : Passes CX X E)
    (hdb : (x == ("__debug__" : Str)) = false := by decide) : PE X (.Call (.Name x p) [] [] pos) (tCall sp [] E tNil) := ⟨fun pins s σ H Q I h =>
  wpAny_Call_Name_kw (ld_glob I hg hm (PySem.W.callWith_K0 I.kIn hk (run_G (us := []) F C hb hx I .nil h)) hdb)⟩
end
/-- THE RULE for a def -/
theorem fnG {CX : CXT} {P : Program} {w : World} {K : PySem.W.Frag} {mg : Str → Option Value} {base : Heap} {k : Nat} {f : Addr} {x qual : Str} {st : Stmt} {fd : FuncData} {N ps : List Str} {sp : Sp} (F : Fun K x qual st f fd) (S : FnScope N ps (defScope st))
    (len : ∀ vs H Q E, sp vs H Q E → vs.length = ps.length)
    (hbody : ∀ (cdv : Value) (A : Around) (outer : List Env) (s : Shared) (H : Hp) (vs : List V) (Q : VK) (E : XK), A.guards = some [] → Room k (A.deeper (envOfC qual (defScope st) s.heap.objs.size f cdv)) → sp vs H Q E →
      tSW (cxOf CX P w K mg base N qual (defScope st) f cdv A outer s H E) (defBody st) { nx := fun _ H' => Q .non H', rt := Q } (start N vs) H) : FnG P w K mg base CX (k + 1) f fd ps sp := by
  obtain ⟨oc, od, kV, doc, pm, an, cdv, ct, osl, rfl, lk, hcd⟩ := F.ex
  refine ⟨len, fun A outer s H args us vs Q E g hr e0 hb r hsp => ?_⟩
  have kin := e0.mod.kin.keeps fun b o e => (e0.bs b o e).1
  have lim := e0.mod.nolimit.keeps fun b o e => (e0.bs b o e).1
  refine codeAny_call_function hr.depth (kin _ _ lk) rfl S.co S.gen rfl (PySem.W.codeRec_of kin hcd) (hb _ _ _ _ ?_)
  have kinds : ∀ y ∈ ps.zip us, (defScope st).names.lookup y.1 = some .local ∨ ((defScope st).names.lookup y.1 = some .cell ∧ ((cellsFrom (s.heap.objs.size + 1) (defScope st).names []).lookup y.1).isSome = true) := by
    intro y hy
    have hp := (List.of_mem_zip (show (y.1, y.2) ∈ ps.zip us from hy)).1
    exact (S.par _ hp).imp id fun q => ⟨q, PySem.W.cellsFrom_some _ _ _ (.inl q)⟩
  refine wpAny_newFunctionEnv_cells S.kind kinds fun env he s1 ic => ?_
  subst he
  refine ⟨lim.keeps ic.toInCall.keep, codeAny_func ?_⟩
  have I := inv_start (CX := CX) (E := E) S hr.hd e0 (len _ _ _ _ hsp) r ic
  refine wpAny_mono (hbody cdv A outer s H vs Q E g (hr.deeper _) hsp [] s1 I) (fun fl s' hs => ?_) fun _ _ z => z
  match fl, hs with
  | .ret u, ⟨v, σ', H', J, rv, q⟩ => exact ⟨v, H', J.os, J.bare, J.base, J.hok, rv, q⟩
  | .next, ⟨σ', H', J, q⟩ => exact ⟨.non, H', J.os, J.bare, J.base, J.hok, rfl, q⟩
  | .brk, ⟨_, _, _, q⟩ => exact q.elim
  | .cont, ⟨_, _, _, q⟩ => exact q.elim
end AW

/-! AW3: the call of a def by its promise; a def's promise by its body. -/
namespace AW
open PySem PySem.Spec PyProof.Rows L2

section
variable {K : PySem.W.Frag} {H H' : Hp} {ρ : Nv} {σ : L2.St}
theorem GsOk.length : ∀ {gs : List GV} {vs : List V}, GsOk K H ρ σ gs vs → gs.length = vs.length
  | _, _, .nil => rfl
  | _, _, .cons _ t => by simp [GsOk.length t]
theorem GsOk.get : ∀ {gs : List GV} {vs : List V} {j : Nat} {g : GV}, GsOk K H ρ σ gs vs → gs[j]? = some g → ∃ v, vs[j]? = some v ∧ GOk K H ρ σ g v
  | _, _, _, _, .nil, h => by simp at h
  | _, _, 0, _, .cons h _, e => by simp at e; subst e; exact ⟨_, rfl, h⟩
  | _, _, j + 1, _, .cons _ t, e => by
    obtain ⟨v, e1, h⟩ := GsOk.get (j := j) t (by simpa using e)
    exact ⟨v, by simpa using e1, h⟩
theorem svs_length : ∀ gs : List GV, (svs ρ gs).length = gs.length
  | [] => rfl
  | .d _ :: gs => by simp [svs, svs_length gs]
  | .o _ :: gs => by simp [svs, svs_length gs]
def svG (ρ : Nv) : GV → SV
  | .d d => .dat d
  | .o i => lent ρ[i]?
theorem svs_get : ∀ (gs : List GV) (j : Nat), (svs ρ gs)[j]? = gs[j]?.map (svG ρ)
  | [], _ => by simp [svs]
  | .d _ :: gs, 0 => by simp [svs, svG]
  | .o _ :: gs, 0 => by simp [svs, svG]
  | .d _ :: gs, j + 1 => by simp [svs, svs_get gs j]
  | .o _ :: gs, j + 1 => by simp [svs, svs_get gs j]
theorem svs_hol {gs : List GV} {j : Nat} {p : Bool} {ds : List PyData} (h : (svs ρ gs)[j]? = some (.hol p ds)) : ∃ i q, gs[j]? = some (.o i) ∧ ρ[i]? = some (.hol q ds) ∧ p = true := by
  rw [svs_get] at h
  cases e : gs[j]? with
  | none => rw [e] at h; simp at h
  | some g =>
    rw [e] at h
    cases g with
    | d d => simp [svG] at h
    | o i =>
      simp only [Option.map_some, svG, Option.some.injEq] at h
      cases q : ρ[i]? with
      | none => rw [q] at h; simp [lent] at h
      | some s =>
        rw [q] at h
        cases s with
        | un => simp [lent] at h
        | dat d => simp [lent] at h
        | hol q' es =>
          simp only [lent, SV.hol.injEq] at h
          obtain ⟨h1, rfl⟩ := h
          exact ⟨i, q', rfl, q, h1.symm⟩
theorem mem_owns : ∀ {gs : List GV} {i : Nat}, i ∈ owns gs → ∃ j : Nat, gs[j]? = some (GV.o i)
  | .d _ :: gs, i, h => let ⟨j, e⟩ := mem_owns (gs := gs) h; ⟨j + 1, by simpa using e⟩
  | .o i' :: gs, i, h => by
    rcases List.mem_cons.mp h with rfl | h
    · exact ⟨0, rfl⟩
    · obtain ⟨j, e⟩ := mem_owns (gs := gs) h
      exact ⟨j + 1, by simpa using e⟩
theorem owns_mem : ∀ {gs : List GV} {i j : Nat}, gs[j]? = some (.o i) → i ∈ owns gs
  | [], _, _, h => by simp at h
  | .d _ :: gs, i, 0, h => by simp at h
  | .o i' :: gs, i, 0, h => by simp at h; subst h; exact List.mem_cons_self
  | .d _ :: gs, i, j + 1, h => owns_mem (gs := gs) (j := j) (by simpa using h)
  | .o i' :: gs, i, j + 1, h => List.mem_cons_of_mem _ (owns_mem (gs := gs) (j := j) (by simpa using h))
theorem owns_one : ∀ {gs : List GV} {i j k : Nat}, (owns gs).Nodup → gs[j]? = some (.o i) → gs[k]? = some (.o i) → j = k
  | [], _, _, _, _, h, _ => by simp at h
  | g :: gs, i, 0, 0, _, _, _ => rfl
  | g :: gs, i, j + 1, k + 1, n, h1, h2 => by
    have n' : (owns gs).Nodup := by
      cases g with
      | d d => exact n
      | o i' => exact (List.nodup_cons.mp n).2
    exact congrArg (· + 1) (owns_one (gs := gs) (i := i) (j := j) (k := k) n' (by simpa using h1) (by simpa using h2))
  | g :: gs, i, 0, k + 1, n, h1, h2 => by
    simp at h1
    subst h1
    exact absurd (owns_mem (gs := gs) (j := k) (by simpa using h2)) (List.nodup_cons.mp n).1
  | g :: gs, i, j + 1, 0, n, h1, h2 => by
    simp at h2
    subst h2
    exact absurd (owns_mem (gs := gs) (j := j) (by simpa using h1)) (List.nodup_cons.mp n).1
theorem bck_length : ∀ (gs : List GV) (ss : List SV), (bck ρ gs ss).length = ρ.length
  | [], _ => by simp [bck]
  | .d _ :: gs, [] => by simp [bck]
  | .o _ :: gs, [] => by simp [bck]
  | .d _ :: gs, _ :: ss => by simp [bck, bck_length gs ss]
  | .o _ :: gs, _ :: ss => by simp [bck, bck_length gs ss]
theorem bck_out : ∀ {gs : List GV} {ss : List SV} {i : Nat}, i ∉ owns gs → (bck ρ gs ss)[i]? = ρ[i]?
  | [], _, _, _ => by simp [bck]
  | .d _ :: gs, [], _, _ => by simp [bck]
  | .o _ :: gs, [], _, _ => by simp [bck]
  | .d _ :: gs, _ :: ss, i, h => by simp only [bck]; exact bck_out (gs := gs) h
  | .o i' :: gs, _ :: ss, i, h => by
    simp only [bck]
    rw [List.getElem?_set_ne (fun e => h (by rw [← e]; exact List.mem_cons_self))]
    exact bck_out (gs := gs) fun z => h (List.mem_cons_of_mem _ z)
theorem bck_in : ∀ {gs : List GV} {ss : List SV} {i j : Nat} {s : SV}, (owns gs).Nodup → gs[j]? = some (.o i) → ss[j]? = some s → gs.length = ss.length → i < ρ.length → (bck ρ gs ss)[i]? = some (come ρ[i]? s)
  | [], _, _, _, _, _, h, _, _, _ => by simp at h
  | _ :: _, [], _, _, _, _, _, h, _, _ => by simp at h
  | .d _ :: gs, _ :: ss, i, 0, _, _, h, _, _, _ => by simp at h
  | .o i' :: gs, s' :: ss, i, 0, s, _, h, h2, _, hl => by
    simp at h h2
    subst h
    subst h2
    simp only [bck]
    rw [List.getElem?_set_self (by rw [bck_length]; exact hl)]
  | .d _ :: gs, _ :: ss, i, j + 1, s, n, h, h2, l, hl => by
    simp only [bck]
    exact bck_in (gs := gs) (j := j) n (by simpa using h) (by simpa using h2) (by simpa using l) hl
  | .o i' :: gs, _ :: ss, i, j + 1, s, n, h, h2, l, hl => by
    simp only [bck]
    have n' := List.nodup_cons.mp n
    have hm := owns_mem (gs := gs) (j := j) (i := i) (by simpa using h)
    rw [List.getElem?_set_ne (fun e => n'.1 (by rw [e]; exact hm))]
    exact bck_in (gs := gs) (j := j) n'.2 (by simpa using h) (by simpa using h2) (by simpa using l) hl
theorem get_lt {α : Type} {l : List α} {i : Nat} {x : α} (h : l[i]? = some x) : i < l.length := (List.getElem?_eq_some_iff.mp h).1
/-- the arguments as slots -/
theorem GsOk.nv (E : NvOk K H σ ρ) {gs : List GV} {vs : List V} (G : GsOk K H ρ σ gs vs) (n : (owns gs).Nodup) : NvOk K H (vs.map some) (svs ρ gs) where
  len := by rw [svs_length, List.length_map, G.length]
  get := fun j s h => by
    rw [svs_get] at h
    cases e : gs[j]? with
    | none => rw [e] at h; simp at h
    | some g =>
      rw [e] at h
      obtain ⟨v, hv, gv⟩ := G.get e
      refine ⟨some v, by rw [List.getElem?_map, hv]; rfl, ?_⟩
      simp only [Option.map_some, Option.some.injEq] at h
      subst h
      cases g with
      | d d => exact ⟨v, rfl, gv⟩
      | o i =>
        obtain ⟨⟨p, ds, h1⟩, h2⟩ := gv
        obtain ⟨a, ws, e1, e2, r⟩ := E.hol h1
        rw [h2] at e1
        cases e1
        simp only [svG, h1, lent]
        exact ⟨a, ws, rfl, e2, r⟩
  sep := fun j k a p q ds es hne h1 h2 e1 e2 => by
    obtain ⟨i1, p1, g1, r1, _⟩ := svs_hol h1
    obtain ⟨i2, p2, g2, r2, _⟩ := svs_hol h2
    obtain ⟨v1, w1, _, z1⟩ := G.get g1
    obtain ⟨v2, w2, _, z2⟩ := G.get g2
    rw [List.getElem?_map, w1] at e1
    rw [List.getElem?_map, w2] at e2
    simp only [Option.map_some, Option.some.injEq] at e1 e2
    subst e1
    subst e2
    by_cases hi : i1 = i2
    · subst hi
      exact hne (owns_one n g1 g2)
    · exact E.sep i1 i2 a _ _ _ _ hi r1 r2 z1 z2
theorem GsOk.mine (E : NvOk K H σ ρ) {gs : List GV} {vs : List V} (G : GsOk K H ρ σ gs vs) {b : Addr} (m : Mine (svs ρ gs) (vs.map some) b) : ∃ (i j : Nat) (p : Bool) (ds : List PyData), gs[j]? = some (GV.o i) ∧ ρ[i]? = some (SV.hol p ds) ∧ σ[i]? = some (some (V.ref b)) := by
  obtain ⟨j, p, ds, h, e⟩ := m
  obtain ⟨i, q, g, r, _⟩ := svs_hol h
  obtain ⟨v, w, _, z⟩ := G.get g
  rw [List.getElem?_map, w] at e
  simp only [Option.map_some, Option.some.injEq] at e
  subst e
  exact ⟨i, j, q, ds, g, r, z⟩
/-- the call's end, in our slots -/
theorem GsOk.pex (E : NvOk K H σ ρ) {gs : List GV} {vs : List V} (G : GsOk K H ρ σ gs vs) (n : (owns gs).Nodup) {as' : List SV} (P : Pex K H (svs ρ gs) (vs.map some) H' as') : Pex K H ρ σ H' (bck ρ gs as') := by
  have E2 := G.nv E n
  have st := P.stb E2
  have len : gs.length = as'.length := by rw [P.ok.len, List.length_map, G.length]
  -- a list that was handed over
  have own : ∀ {i j : Nat} {p : Bool} {ds : List PyData}, gs[j]? = some (.o i) → ρ[i]? = some (.hol p ds) → ∃ es a ws, as'[j]? = some (.hol true es) ∧ (bck ρ gs as')[i]? = some (.hol p es) ∧ σ[i]? = some (some (.ref a)) ∧ H' a = some (.lst ws) ∧ RpAll K H' es ws := by
    intro i j p ds g r
    have h : (svs ρ gs)[j]? = some (.hol true ds) := by rw [svs_get, g]; simp [svG, r, lent]
    obtain ⟨es, h'⟩ := P.hs j true ds h
    obtain ⟨a, ws, e1, e2, e3⟩ := P.ok.hol h'
    obtain ⟨v, w, _, z⟩ := G.get g
    rw [List.getElem?_map, w] at e1
    simp only [Option.map_some, Option.some.injEq] at e1
    subst e1
    exact ⟨es, a, ws, h', by rw [bck_in n g h' len (get_lt r), r]; rfl, z, e2, e3⟩
  refine ⟨fun b o h nm => P.kp b o h fun m => ?_, P.th, fun i p ds h => ?_, fun i p ds h => ?_, ⟨?_, fun i s h => ?_, fun i j a p q ds es hne h1 h2 e1 e2 => ?_⟩⟩
  · obtain ⟨i, j, p, ds, _, r, z⟩ := G.mine E m
    exact nm ⟨i, p, ds, r, z⟩
  · by_cases hi : i ∈ owns gs
    · obtain ⟨j, g⟩ := mem_owns hi
      obtain ⟨v, w, ⟨q, es, r⟩, z⟩ := G.get g
      obtain ⟨es', a, ws, _, h2, _⟩ := own g r
      rw [h2] at h
      cases h
      exact ⟨es, r⟩
    · rw [bck_out hi] at h
      exact ⟨ds, h⟩
  · by_cases hi : i ∈ owns gs
    · obtain ⟨j, g⟩ := mem_owns hi
      obtain ⟨es', a, ws, _, h2, _⟩ := own g h
      exact ⟨es', h2⟩
    · exact ⟨ds, by rw [bck_out hi]; exact h⟩
  · rw [bck_length]; exact E.len
  · by_cases hi : i ∈ owns gs
    · obtain ⟨j, g⟩ := mem_owns hi
      obtain ⟨v, w, ⟨q, es, r⟩, z⟩ := G.get g
      obtain ⟨es', a, ws, _, h2, e1, e2, e3⟩ := own g r
      rw [h2] at h
      cases h
      exact ⟨_, e1, a, ws, rfl, e2, e3⟩
    · rw [bck_out hi] at h
      obtain ⟨w, e, so⟩ := E.get i s h
      refine ⟨w, e, ?_⟩
      cases s with
      | un => trivial
      | dat d => obtain ⟨v, e2, r⟩ := so; exact ⟨v, e2, Rp.mono st _ _ r⟩
      | hol p ds =>
        obtain ⟨a, vs', rfl, e2, r⟩ := so
        refine ⟨a, vs', rfl, P.kp a _ e2 fun m => ?_, RpAll.mono st _ _ r⟩
        obtain ⟨i', j, p', ds', g, r', z⟩ := G.mine E m
        have hne : i ≠ i' := fun q => hi (by rw [q]; exact owns_mem g)
        exact E.sep i i' a _ _ _ _ hne h r' e z
  · have back : ∀ {i : Nat} {p : Bool} {ds : List PyData}, (bck ρ gs as')[i]? = some (.hol p ds) → ∃ es, ρ[i]? = some (.hol p es) := by
      intro i p ds h
      by_cases hi : i ∈ owns gs
      · obtain ⟨j, g⟩ := mem_owns hi
        obtain ⟨v, w, ⟨q, es, r⟩, z⟩ := G.get g
        obtain ⟨es', a, ws, _, h2, _⟩ := own g r
        rw [h2] at h
        cases h
        exact ⟨es, r⟩
      · rw [bck_out hi] at h
        exact ⟨ds, h⟩
    obtain ⟨es1, r1⟩ := back h1
    obtain ⟨es2, r2⟩ := back h2
    exact E.sep i j a _ _ _ _ hne r1 r2 e1 e2
end

/-! ### a def that is called by its name -/
structure Cal (P : Program) (w : World) (K : PySem.W.Frag) (mg : Str → Option Value) (base : Heap) (k : Nat) (x : Str) (A : ASp) : Prop where
  ex : ∃ (f : Addr) (fd : FuncData) (ps : List Str), FnG P w K mg base CX0 k f fd ps (toSp K A) ∧ mg x = some (.ref f) ∧ PySem.W.keepIn K (.ref f) = true ∧ Binds K fd ps []
theorem notOwn.vok {K : PySem.W.Frag} {H0 H1 H' : Hp} {ρ1 ρ2 : Nv} {σ1 σ2 : L2.St} {x : AV} {v : V} (n : notOwn x) (hf : ∀ a, H1 a = none → H0 a = none) (h : VOk K H1 H' ρ1 σ1 x v) : VOk K H0 H' ρ2 σ2 x v := by
  cases x with
  | dat d => exact h
  | frs ds => obtain ⟨a, vs, e, z, r⟩ := h; exact ⟨a, vs, e, hf a z, r⟩
  | own i => exact n.elim
theorem EW.call {X : Cx} {k : Nat} {x : Str} {A : ASp} {p pos : Pos} {e : Expr} {es : List Expr} {ρ : Nv} {Q : QE} (c : Cal X.prog X.w X.K X.mg X.base k x A) (C : Ctx X k) (hg : Gl X x) (h : EWgs X (e :: es) ρ fun gs ρ1 => (owns gs).Nodup ∧ A (svs ρ1 gs) fun y as' => Q y (bck ρ1 gs as'))
    (hdb : (x == ("__debug__" : Str)) = false := by decide) (he : starEach (e :: es) X.env = (false, eval e X.env) :: starEach es X.env := by rfl) (hpl : (backTo pos (starEach es X.env)).any (·.1) = false := by rfl) :
    EW X (.Call (.Name x p) (e :: es) [] pos) ρ Q := fun σ H R E kk pins s I => by
  obtain ⟨f, fd, ps, F, hm, hk, hb⟩ := c.ex
  refine (pe_G (E := E0) F C hg hm hk hb pass0 pa_W hdb he hpl).run pins s σ H R I (h σ H _ E fun vs H1 gs ρ1 P1 G1 q => ?_)
  obtain ⟨n, q⟩ := q
  rw [List.append_nil]
  refine ⟨svs ρ1 gs, _, G1.nv P1.ok n, fun i p ds h => let ⟨_, _, _, _, e⟩ := svs_hol h; e, q, fun y as' v H' q2 P2 V2 no => ?_⟩
  have P3 := G1.pex P1.ok n P2
  exact kk v H' y _ (P1.trans P3) (no.vok (fun a z => P1.free z) V2) q2
theorem EW.call0 {X : Cx} {k : Nat} {x : Str} {A : ASp} {p pos : Pos} {ρ : Nv} {Q : QE} (c : Cal X.prog X.w X.K X.mg X.base k x A) (C : Ctx X k) (hg : Gl X x) (h : A [] fun y _ => Q y ρ)
    (hdb : (x == ("__debug__" : Str)) = false := by decide) : EW X (.Call (.Name x p) [] [] pos) ρ Q := fun σ H R E kk pins s I => by
  obtain ⟨f, fd, ps, F, hm, hk, hb⟩ := c.ex
  refine (pe_G0 (E := E0) F C hg hm hk hb pass0 hdb).run pins s σ H R I ?_
  have G : GsOk X.K H ρ σ [] [] := .nil
  refine ⟨[], _, G.nv E List.nodup_nil, fun i p ds h => by simp at h, h, fun y as' v H' q2 P2 V2 no => ?_⟩
  exact kk v H' y _ (G.pex E List.nodup_nil P2) (no.vok (fun a z => z) V2) (by simpa [bck] using q2)

/-! ### statements -/
structure AEnds where
  nx : Nv → Prop
  rt : AV → Nv → Prop
  bk : Nv → Prop := fun _ => False
  ct : Nv → Prop := fun _ => False
def SW (X : Cx) (sts : List Stmt) (ρ : Nv) (E : AEnds) : Prop := ∀ (σ : L2.St) (H : Hp) (D : Ends), NvOk X.K H σ ρ →
  (∀ σ' H' ρ', Pst X.K H ρ σ H' ρ' σ' → E.nx ρ' → D.nx σ' H') → (∀ v σ' H' x ρ', Pst X.K H ρ σ H' ρ' σ' → VOk X.K H H' ρ' σ' x v → E.rt x ρ' → D.rt v H') →
  (∀ σ' H' ρ', Pst X.K H ρ σ H' ρ' σ' → E.bk ρ' → D.bk σ' H') → (∀ σ' H' ρ', Pst X.K H ρ σ H' ρ' σ' → E.ct ρ' → D.ct σ' H') → tSW X sts D σ H
/-- the arguments behind the body: the lists as they are, the rest as it was handed in -/
def fin : List SV → Nv → List SV
  | .hol p _ :: as, .hol _ es :: ρ => .hol p es :: fin as ρ
  | s :: as, _ :: ρ => s :: fin as ρ
  | as, _ => as
def retE (as : List SV) (R : AV → List SV → Prop) : AV → Nv → Prop
  | .dat d, ρ => R (.dat d) (fin as ρ)
  | .frs ds, ρ => R (.frs ds) (fin as ρ)
  | .own i, ρ => ∃ ds, ρ[i]? = some (.hol false ds) ∧ R (.frs ds) (fin as ρ)
def ends (as : List SV) (R : AV → List SV → Prop) : AEnds := { nx := fun ρ => R (.dat .none) (fin as ρ), rt := retE as R }
theorem fin_length : ∀ (as : List SV) (ρ : Nv), (fin as ρ).length = as.length
  | [], _ => by simp [fin]
  | .hol _ _ :: as, [] => by simp [fin]
  | .un :: as, [] => by simp [fin]
  | .dat _ :: as, [] => by simp [fin]
  | .hol _ _ :: as, .hol _ _ :: ρ => by simp [fin, fin_length as ρ]
  | .hol _ _ :: as, .un :: ρ => by simp [fin, fin_length as ρ]
  | .hol _ _ :: as, .dat _ :: ρ => by simp [fin, fin_length as ρ]
  | .un :: as, _ :: ρ => by simp [fin, fin_length as ρ]
  | .dat _ :: as, _ :: ρ => by simp [fin, fin_length as ρ]
theorem fin_get : ∀ (as : List SV) (ρ : Nv) (i : Nat), (∀ (j : Nat) (p : Bool) (ds : List PyData), as[j]? = some (SV.hol p ds) → ∃ (q : Bool) (es : List PyData), ρ[j]? = some (SV.hol q es)) → (fin as ρ)[i]? = match as[i]? with
    | some (.hol p ds) => some (match ρ[i]? with | some (.hol _ es) => .hol p es | _ => .hol p ds)
    | s => s
  | [], _, i, _ => by simp [fin]
  | .hol p ds :: as, [], i, h => by obtain ⟨q, es, z⟩ := h 0 p ds rfl; simp at z
  | .un :: as, [], i, h => by
    simp only [fin, List.getElem?_nil]
    split <;> simp_all
  | .dat _ :: as, [], i, h => by
    simp only [fin, List.getElem?_nil]
    split <;> simp_all
  | .hol p ds :: as, .hol q es :: ρ, 0, h => by simp [fin]
  | .hol p ds :: as, .hol q es :: ρ, i + 1, h => by
    simp only [fin, List.getElem?_cons_succ]
    exact fin_get as ρ i fun j p ds e => h (j + 1) p ds (by simpa using e)
  | .hol p ds :: as, .un :: ρ, i, h => by obtain ⟨q, es, z⟩ := h 0 p ds rfl; simp at z
  | .hol p ds :: as, .dat _ :: ρ, i, h => by obtain ⟨q, es, z⟩ := h 0 p ds rfl; simp at z
  | .un :: as, s :: ρ, 0, h => by simp [fin]
  | .dat _ :: as, s :: ρ, 0, h => by simp [fin]
  | .un :: as, s :: ρ, i + 1, h => by
    simp only [fin, List.getElem?_cons_succ]
    exact fin_get as ρ i fun j p ds e => h (j + 1) p ds (by simpa using e)
  | .dat _ :: as, s :: ρ, i + 1, h => by
    simp only [fin, List.getElem?_cons_succ]
    exact fin_get as ρ i fun j p ds e => h (j + 1) p ds (by simpa using e)
section
variable {K : PySem.W.Frag} {H H' : Hp} {vs : List V} {as : List SV} {n : Nat} {σ' : L2.St} {ρ' : Nv}
theorem nv_start {N : List Str} (E : NvOk K H (vs.map some) as) (hl : as.length ≤ N.length) : NvOk K H (L2.start N vs) (as ++ List.replicate (N.length - as.length) .un) := by
  have l : as.length = vs.length := by simpa using E.len
  refine ⟨by simp [L2.start]; omega, fun i s h => ?_, fun i j a p q ds es hne h1 h2 e1 e2 => ?_⟩
  · by_cases hi : i < as.length
    · rw [List.getElem?_append_left hi] at h
      obtain ⟨w, e, so⟩ := E.get i s h
      refine ⟨w, ?_, so⟩
      unfold L2.start
      rw [List.getElem?_append_left (by simpa using l ▸ hi)]
      exact e
    · have hi' : as.length ≤ i := Nat.le_of_not_lt hi
      rw [List.getElem?_append_right hi'] at h
      have hb := get_lt h
      rw [List.length_replicate] at hb
      rw [List.getElem?_replicate, if_pos hb] at h
      cases h
      refine ⟨none, ?_, trivial⟩
      unfold L2.start
      rw [List.getElem?_append_right (by simp; omega), List.getElem?_replicate, if_pos (by simp; omega)]
  · have sm : ∀ {i : Nat} {p : Bool} {ds : List PyData}, (as ++ List.replicate (N.length - as.length) SV.un)[i]? = some (.hol p ds) → i < as.length ∧ as[i]? = some (.hol p ds) := by
      intro i p ds h
      by_cases hi : i < as.length
      · rw [List.getElem?_append_left hi] at h; exact ⟨hi, h⟩
      · rw [List.getElem?_append_right (Nat.le_of_not_lt hi)] at h
        have hb := get_lt h
        rw [List.length_replicate] at hb
        rw [List.getElem?_replicate, if_pos hb] at h
        cases h
    obtain ⟨b1, r1⟩ := sm h1
    obtain ⟨b2, r2⟩ := sm h2
    unfold L2.start at e1 e2
    rw [List.getElem?_append_left (by simpa using l ▸ b1)] at e1
    rw [List.getElem?_append_left (by simpa using l ▸ b2)] at e2
    exact E.sep i j a _ _ _ _ hne r1 r2 e1 e2
theorem mine_start {N : List Str} (E : NvOk K H (vs.map some) as) {b : Addr} (m : Mine (as ++ List.replicate (N.length - as.length) .un) (L2.start N vs) b) : Mine as (vs.map some) b := by
  have l : as.length = vs.length := by simpa using E.len
  obtain ⟨i, p, ds, h, e⟩ := m
  by_cases hi : i < as.length
  · rw [List.getElem?_append_left hi] at h
    unfold L2.start at e
    rw [List.getElem?_append_left (by simpa using l ▸ hi)] at e
    exact ⟨i, p, ds, h, e⟩
  · rw [List.getElem?_append_right (Nat.le_of_not_lt hi)] at h
    have hb := get_lt h
    rw [List.length_replicate] at hb
    rw [List.getElem?_replicate, if_pos hb] at h
    cases h
/-- the body's end, in the caller's terms -/
theorem pex_fin {N : List Str} (E : NvOk K H (vs.map some) as) (hp : Pinned as) (hl : as.length ≤ N.length) (P : Pst K H (as ++ List.replicate (N.length - as.length) .un) (L2.start N vs) H' ρ' σ') : Pex K H as (vs.map some) H' (fin as ρ') := by
  have l : as.length = vs.length := by simpa using E.len
  have E2 := nv_start E hl
  have st := P.stb E2
  have hol : ∀ {i : Nat} {p : Bool} {ds : List PyData}, as[i]? = some (.hol p ds) → ∃ es, ρ'[i]? = some (.hol true es) ∧ σ'[i]? = (vs.map some)[i]? ∧ p = true := by
    intro i p ds h
    obtain rfl := hp i p ds h
    have hi := get_lt h
    obtain ⟨⟨es, h1⟩, e1⟩ := P.pn i ds (by rw [List.getElem?_append_left hi]; exact h)
    refine ⟨es, h1, e1.trans ?_, rfl⟩
    unfold L2.start
    rw [List.getElem?_append_left (by simpa using l ▸ hi)]
  have fg := fun i => fin_get as ρ' i fun j p ds h => let ⟨es, z, _⟩ := hol h; ⟨true, es, z⟩
  have fh : ∀ {i : Nat} {p : Bool} {ds : List PyData}, (fin as ρ')[i]? = some (.hol p ds) → ∃ es, as[i]? = some (.hol p es) ∧ ρ'[i]? = some (.hol true ds) ∧ σ'[i]? = (vs.map some)[i]? := by
    intro i p ds h
    rw [fg i] at h
    cases e : as[i]? with
    | none => rw [e] at h; simp at h
    | some s =>
      rw [e] at h
      cases s with
      | un => simp at h
      | dat d => simp at h
      | hol q es =>
        obtain ⟨fs, z, e1, rfl⟩ := hol e
        rw [z] at h
        simp only [Option.some.injEq, SV.hol.injEq] at h
        obtain ⟨h1, h2⟩ := h
        subst h1
        subst h2
        exact ⟨es, rfl, z, e1⟩
  refine ⟨fun b o h nm => P.kp b o h fun m => nm (mine_start E m), P.th, fun i p ds h => ?_, fun i p ds h => ?_, ⟨by rw [fin_length]; exact E.len, fun i s h => ?_, fun i j a p q ds es hne h1 h2 e1 e2 => ?_⟩⟩
  · obtain ⟨es, h1, _⟩ := fh h
    exact ⟨es, h1⟩
  · obtain ⟨es, z, _, rfl⟩ := hol h
    refine ⟨es, ?_⟩
    rw [fg i, h, z]
  · cases e : as[i]? with
    | none => rw [fg i, e] at h; simp at h
    | some s' =>
      obtain ⟨w, e1, so⟩ := E.get i s' e
      refine ⟨w, e1, ?_⟩
      cases s' with
      | un => rw [fg i, e] at h; simp at h; subst h; trivial
      | dat d =>
        rw [fg i, e] at h
        simp at h
        subst h
        obtain ⟨v, e2, r⟩ := so
        exact ⟨v, e2, Rp.mono st _ _ r⟩
      | hol p ds =>
        obtain ⟨es, z, e2, rfl⟩ := hol e
        rw [fg i, e, z] at h
        simp only [Option.some.injEq] at h
        subst h
        obtain ⟨a, ws, e3, e4, r⟩ := P.ok.hol z
        rw [e2, e1] at e3
        cases e3
        exact ⟨a, ws, rfl, e4, r⟩
  · obtain ⟨es1, _, z1, y1⟩ := fh h1
    obtain ⟨es2, _, z2, y2⟩ := fh h2
    exact P.ok.sep i j a _ _ _ _ hne z1 z2 (y1.trans e1) (y2.trans e2)
end
/-- THE RULE for a def's promise by its body -/
theorem fnA {CX : CXT} {P : Program} {w : World} {K : PySem.W.Frag} {mg : Str → Option Value} {base : Heap} {k : Nat} {f : Addr} {x qual : Str} {st : Stmt} {fd : FuncData} {N ps : List Str} {A : ASp} (F : Fun K x qual st f fd) (S : FnScope N ps (defScope st)) (hN : ps.length ≤ N.length) (hB : Blt mg)
    (len : ∀ as R, A as R → as.length = ps.length)
    (hbody : ∀ (cdv : Value) (B : Around) (outer : List Env) (s : Shared) (H : Hp) (E : XK), Ctx (cxOf CX P w K mg base N qual (defScope st) f cdv B outer s H E) k → ∀ as R, A as R →
      SW (cxOf CX P w K mg base N qual (defScope st) f cdv B outer s H E) (defBody st) (as ++ List.replicate (N.length - as.length) .un) (ends as R)) : FnG P w K mg base CX (k + 1) f fd ps (toSp K A) := by
  refine fnG F S (fun vs H Q E h => ?_) fun cdv B outer s H vs Q E g hr hsp => ?_
  · obtain ⟨as, R, h1, _, h3, _⟩ := h
    have l := h1.len
    rw [List.length_map] at l
    rw [← l]
    exact len as R h3
  · obtain ⟨as, R, h1, hp, h3, q⟩ := hsp
    have hl : as.length ≤ N.length := by rw [len as R h3]; exact hN
    have fd : ∀ a : Addr, H a = none → H a = none := fun _ h => h
    refine hbody cdv B outer s H E ⟨hB, hr, g, rfl, S.nd⟩ as R h3 (L2.start N vs) H _ (nv_start h1 hl) (fun σ' H' ρ' P z => ?_) (fun v σ' H' y ρ' P V z => ?_) (fun _ _ _ _ z => z.elim) (fun _ _ _ _ z => z.elim)
    · exact q _ _ _ _ z (pex_fin h1 hp hl P) .none trivial
    · have PF := pex_fin h1 hp hl P
      cases y with
      | dat d => exact q _ _ _ _ z PF V trivial
      | frs ds => exact q _ _ _ _ z PF V trivial
      | own i =>
        obtain ⟨ds, h2, z⟩ := z
        obtain ⟨a, ws, e1, e2, r⟩ := P.ok.hol h2
        obtain ⟨_, e3⟩ := V
        rw [e1] at e3
        cases e3
        refine q _ _ _ _ z PF ⟨a, ws, rfl, ?_, e2, r⟩ trivial
        rcases P.mn a ⟨i, false, ds, h2, e1⟩ with m | m
        · exfalso
          obtain ⟨j, p, es, g1, g2⟩ := mine_start h1 m
          obtain rfl := hp j p es g1
          obtain ⟨⟨fs, z1⟩, z2⟩ := P.pn j es (by rw [List.getElem?_append_left (get_lt g1)]; exact g1)
          have hj : j ≠ i := fun e => by rw [e, h2] at z1; cases z1
          refine P.ok.sep j i a _ _ _ _ hj z1 h2 (z2.trans ?_) e1
          have l : as.length = vs.length := by simpa using h1.len
          unfold L2.start
          rw [List.getElem?_append_left (by simpa using l ▸ get_lt g1)]
          exact g2
        · exact m
end AW

/-! AW4: expressions. -/
namespace AW
open PySem PySem.Spec PyProof.Rows L2

theorem vdat {K : PySem.W.Frag} {H0 H : Hp} {ρ : Nv} {σ : L2.St} {d : PyData} {v : V} (r : Rp K H d v) : VOk K H0 H ρ σ (.dat d) v := r
/-! ### at a state -/
def EPA (X : Cx) (pins : List (Addr × Obj)) (σ : L2.St) (H : Hp) (ρ : Nv) (Q : QE) (u : Value) (s' : Shared) : Prop := ∃ v H' x ρ', L2.Inv X pins σ H' s' ∧ RelV v u ∧ Pex X.K H ρ σ H' ρ' ∧ VOk X.K H H' ρ' σ x v ∧ Q x ρ'
def TPA (X : Cx) (pins : List (Addr × Obj)) (σ : L2.St) (H : Hp) (ρ : Nv) (Q : Bool → Nv → Prop) (b : Bool) (s' : Shared) : Prop := ∃ H' ρ', L2.Inv X pins σ H' s' ∧ Pex X.K H ρ σ H' ρ' ∧ Q b ρ'
section
variable {X : Cx} {e a b c : Expr} {ρ : Nv} {Q : QE} {QT : Bool → Nv → Prop} {pos : Pos}
theorem EW.of (h : ∀ (pins : List (Addr × Obj)) (s : Shared) (σ : L2.St) (H : Hp), NvOk X.K H σ ρ → L2.Inv X pins σ H s → wpAny (model X.prog X.w) X.A (eval e X.env) (EPA X pins σ H ρ Q) X.xe s) : EW X e ρ Q := fun σ H R E k pins s I =>
  thn (h pins s σ H E I) fun u s' ⟨v, H', x, ρ', I', r, P, V, q⟩ => ⟨v, H', I', r, k v H' x ρ' P V q⟩
theorem EW.at (h : EW X e ρ Q) {pins : List (Addr × Obj)} {s : Shared} {σ : L2.St} {H : Hp} (E : NvOk X.K H σ ρ) (I : L2.Inv X pins σ H s) : wpAny (model X.prog X.w) X.A (eval e X.env) (EPA X pins σ H ρ Q) X.xe s :=
  thn (h σ H (fun v H' => ∃ x ρ', Pex X.K H ρ σ H' ρ' ∧ VOk X.K H H' ρ' σ x v ∧ Q x ρ') E (fun v H' x ρ' P V q => ⟨x, ρ', P, V, q⟩) pins s I) fun u s' ⟨v, H', I', r, x, ρ', P, V, q⟩ => ⟨v, H', x, ρ', I', r, P, V, q⟩
theorem EW.imp {Q' : QE} (h : EW X e ρ Q) (k : ∀ x ρ', Q x ρ' → Q' x ρ') : EW X e ρ Q' := fun σ H R E kk => h σ H R E fun v H' x ρ' P V q => kk v H' x ρ' P V (k _ _ q)
theorem TW.of (h : ∀ (pins : List (Addr × Obj)) (s : Shared) (σ : L2.St) (H : Hp), NvOk X.K H σ ρ → L2.Inv X pins σ H s → wpAny (model X.prog X.w) X.A (isTrue e X.env (eval e X.env)) (TPA X pins σ H ρ QT) X.xe s) : TW X e ρ QT := fun σ H R E k pins s I =>
  thn (h pins s σ H E I) fun u s' ⟨H', ρ', I', P, q⟩ => ⟨H', I', k u H' ρ' P q⟩
theorem TW.at (h : TW X e ρ QT) {pins : List (Addr × Obj)} {s : Shared} {σ : L2.St} {H : Hp} (E : NvOk X.K H σ ρ) (I : L2.Inv X pins σ H s) : wpAny (model X.prog X.w) X.A (isTrue e X.env (eval e X.env)) (TPA X pins σ H ρ QT) X.xe s :=
  thn (h σ H (fun v H' => ∃ ρ', Pex X.K H ρ σ H' ρ' ∧ QT v ρ') E (fun v H' ρ' P q => ⟨ρ', P, q⟩) pins s I) fun u s' ⟨H', I', ρ', P, q⟩ => ⟨H', ρ', I', P, q⟩
theorem TW.imp {Q' : Bool → Nv → Prop} (h : TW X e ρ QT) (k : ∀ x ρ', QT x ρ' → Q' x ρ') : TW X e ρ Q' := fun σ H R E kk => h σ H R E fun b H' ρ' P q => kk b H' ρ' P (k _ _ q)
theorem EPA.back {pins : List (Addr × Obj)} {σ : L2.St} {H H1 : Hp} {ρ1 : Nv} {u : Value} {s' : Shared} (P : Pex X.K H ρ σ H1 ρ1) (h : EPA X pins σ H1 ρ1 Q u s') : EPA X pins σ H ρ Q u s' := by
  obtain ⟨v, H', x, ρ', I, r, P2, V, q⟩ := h
  exact ⟨v, H', x, ρ', I, r, P.trans P2, V.back fun a n => P.free n, q⟩
theorem TPA.back {pins : List (Addr × Obj)} {σ : L2.St} {H H1 : Hp} {ρ1 : Nv} {u : Bool} {s' : Shared} (P : Pex X.K H ρ σ H1 ρ1) (h : TPA X pins σ H1 ρ1 QT u s') : TPA X pins σ H ρ QT u s' := by
  obtain ⟨H', ρ', I, P2, q⟩ := h
  exact ⟨H', ρ', I, P.trans P2, q⟩

/-! ### names, constants -/
theorem EW.nameD {i : Nat} {x : Str} {d : PyData} (h : ρ[i]? = some (.dat d)) (q : Q (.dat d) ρ) (hN : X.N[i]? = some x := by rfl) (hv : Vis X.env.scope x := by first | exact .inl rfl | exact .inr (.inl rfl) | exact .inr (.inr rfl)) (hd : (x == ("__debug__" : Str)) = false := by decide) (hcd : (x == ("__classdict__" : Str)) = false := by decide) : EW X (.Name x pos) ρ Q := fun σ H R E k pins s I => by
  obtain ⟨v, e, r⟩ := E.dat h
  exact (pe_var hN hv hd hcd).run pins s σ H R I ⟨v, e, k v H _ _ (Pex.refl E) (vdat r) q⟩
theorem EW.nameO {i : Nat} {x : Str} {p : Bool} {ds : List PyData} (h : ρ[i]? = some (.hol p ds)) (q : Q (.own i) ρ) (hN : X.N[i]? = some x := by rfl) (hv : Vis X.env.scope x := by first | exact .inl rfl | exact .inr (.inl rfl) | exact .inr (.inr rfl)) (hd : (x == ("__debug__" : Str)) = false := by decide) (hcd : (x == ("__classdict__" : Str)) = false := by decide) : EW X (.Name x pos) ρ Q := fun σ H R E k pins s I => by
  obtain ⟨a, vs, e, _, _⟩ := E.hol h
  exact (pe_var hN hv hd hcd).run pins s σ H R I ⟨_, e, k _ H (.own i) _ (Pex.refl E) ⟨⟨p, ds, h⟩, e⟩ q⟩
theorem EW.int {i : Int} {j : Nat} (q : Q (.dat (.int i)) ρ) : EW X (.Constant (.int i) j pos) ρ Q := fun σ H R E k pins s I => pe_int.run pins s σ H R I (k _ H _ _ (Pex.refl E) (vdat (.int i)) q)
theorem EW.bool {i : Bool} {j : Nat} (q : Q (.dat (.bool i)) ρ) : EW X (.Constant (.bool i) j pos) ρ Q := fun σ H R E k pins s I => pe_bl.run pins s σ H R I (k _ H _ _ (Pex.refl E) (vdat (.bool i)) q)
theorem EW.nonE {j : Nat} (q : Q (.dat .none) ρ) : EW X (.Constant .none j pos) ρ Q := fun σ H R E k pins s I => pe_non.run pins s σ H R I (k _ H _ _ (Pex.refl E) (vdat .none) q)
theorem EW.str {x : Str} {j : Nat} (q : Q (.dat (.str x)) ρ) : EW X (.Constant (.str x) j pos) ρ Q := fun σ H R E k pins s I => pe_str.run pins s σ H R I (k _ H _ _ (Pex.refl E) (vdat (.str x)) q)
/-- a module's constant -/
inductive Sca : PyData → Value → Prop
  | int (i : Int) (t : Tok) : Sca (.int i) (.int i t)
  | str (x : Str) (t : Tok) : Sca (.str x) (.str x t)
  | bool (b : Bool) : Sca (.bool b) (.bool b)
  | none : Sca .none .none
theorem EW.glob {x : Str} {d : PyData} (hg : Gl X x) (hm : ∃ u, X.mg x = some u ∧ Sca d u) (q : Q (.dat d) ρ) (hd : (x == ("__debug__" : Str)) = false := by decide) : EW X (.Name x pos) ρ Q := fun σ H R E k pins s I => by
  obtain ⟨u, hm, sc⟩ := hm
  have : ∃ v, RelV v u ∧ Rp X.K H d v := by
    cases sc with
    | int i t => exact ⟨.int i, ⟨t, rfl⟩, .int i⟩
    | str x t => exact ⟨.str x, ⟨t, rfl⟩, .str x⟩
    | bool b => exact ⟨.bl b, rfl, .bool b⟩
    | none => exact ⟨.non, rfl, .none⟩
  obtain ⟨v, r, p⟩ := this
  exact (pe_glob hg hm r hd).run pins s σ H R I (k _ H _ _ (Pex.refl E) (vdat p) q)

/-! ### operations on values -/
abbrev R2A := Nv → AV → AV → (AV → Prop) → Prop
def OpA (X : Cx) (f : Value → Value → Sem Value) (r : R2A) : Prop := ∀ (pins : List (Addr × Obj)) (s : Shared) (σ : L2.St) (H0 H : Hp) (ρ : Nv) (x y : AV) (v u : V) (vv uu : Value) (q : AV → Prop), L2.Inv X pins σ H s → NvOk X.K H σ ρ →
  VOk X.K H0 H ρ σ x v → VOk X.K H0 H ρ σ y u → RelV v vv → RelV u uu → r ρ x y q → wpAny (model X.prog X.w) X.A (f vv uu) (EPA X pins σ H ρ fun z ρ' => ρ' = ρ ∧ q z) X.xe s
theorem OpA.or {f : Value → Value → Sem Value} {r r' : R2A} (h : OpA X f r) (h' : OpA X f r') : OpA X f fun ρ x y q => r ρ x y q ∨ r' ρ x y q := fun pins s σ H0 H ρ x y v u vv uu q I E V U rv ru hq =>
  hq.elim (h pins s σ H0 H ρ x y v u vv uu q I E V U rv ru) (h' pins s σ H0 H ρ x y v u vv uu q I E V U rv ru)
theorem EW.op {op : Operator} {r : R2A} (ho : OpA X (binaryOp op) r) (h : EW X a ρ fun x ρ1 => EW X b ρ1 fun y ρ2 => r ρ2 x y fun z => Q z ρ2) : EW X (.BinOp a op b pos) ρ Q := EW.of fun pins s σ H E I => by
  refine wpAny_BinOp (thn (h.at E I) fun v s1 ⟨x, H1, xa, ρ1, I1, r1, P1, V1, q1⟩ => thn (EW.at q1 P1.ok I1) fun u s2 ⟨y, H2, ya, ρ2, I2, r2, P2, V2, q2⟩ => ?_)
  refine thn (ho pins s2 σ H H2 ρ2 xa ya x y v u _ I2 P2.ok (V1.step E P1 P2) (V2.back fun a n => P1.free n) r1 r2 q2) fun w s3 h3 => ?_
  refine EPA.back (P1.trans P2) ?_
  obtain ⟨z, H3, za, ρ3, I3, r3, P3, V3, rfl, q3⟩ := h3
  exact ⟨z, H3, za, _, I3, r3, P3, V3, q3⟩
/-- ints -/
def intR (C : Int → Int → Prop) (g : Int → Int → PyData) : R2A := fun _ x y q => match x, y with
  | .dat (.int i), .dat (.int j) => C i j ∧ q (.dat (g i j))
  | _, _ => False
theorem opA_int {f : Value → Value → Sem Value} {C : Int → Int → Prop} {g : Int → Int → Int} (ho : OpR X f (rI C fun i j => .int (g i j))) : OpA X f (intR C fun i j => .int (g i j)) := fun pins s σ H0 H ρ x y v u vv uu q I E V U rv ru hq => by
  match x, y, hq with
  | .dat (.int i), .dat (.int j), ⟨c, hq⟩ =>
    obtain rfl := Rp.int_inv V
    obtain rfl := Rp.int_inv U
    exact thn (ho pins s σ H _ _ vv uu (fun w H' => H' = H ∧ w = .int (g i j)) I rv ru ⟨i, j, rfl, rfl, c, rfl, rfl⟩) fun w s' ⟨z, H', I', r', e1, e2⟩ => by subst e1; subst e2; exact ⟨_, _, _, ρ, I', r', Pex.refl E, vdat (.int _), rfl, hq⟩
theorem rI_of {f : Value → Value → Sem Value} {g : Int → Int → V} (ho : OpR X f (rI0 g)) : OpR X f (rI (fun _ _ => True) g) := fun pins s σ H x y v u Q I rx ry ⟨i, j, e1, e2, _, q⟩ => ho pins s σ H x y v u Q I rx ry ⟨i, j, e1, e2, q⟩
def IT (_ _ : Int) : Prop := True
theorem EW.sub (h : EW X a ρ fun x ρ1 => EW X b ρ1 fun y ρ2 => intR IT (fun i j => .int (i - j)) ρ2 x y fun z => Q z ρ2) : EW X (.BinOp a .Sub b pos) ρ Q := EW.op (opA_int (rI_of op_sub)) h
/-- products: small, or of known size -/
def CMulA (i j : Int) : Prop := CMul i j ∨ CMulW i j
theorem op_mulA : OpR X (binaryOp .Mult) (rI CMulA fun i j => .int (i * j)) := fun pins s σ H x y v u Q I rx ry ⟨i, j, e1, e2, c, q⟩ =>
  c.elim (fun c => op_mul pins s σ H x y v u Q I rx ry ⟨i, j, e1, e2, c, q⟩) fun c => op_mulW pins s σ H x y v u Q I rx ry ⟨i, j, e1, e2, c, q⟩
def CDivA (i j : Int) : Prop := CDiv i j ∨ CDivW i j
theorem op_fdivA : OpR X (binaryOp .FloorDiv) (rI CDivA fun i j => .int (i / j)) := fun pins s σ H x y v u Q I rx ry ⟨i, j, e1, e2, c, q⟩ =>
  c.elim (fun c => op_fdiv pins s σ H x y v u Q I rx ry ⟨i, j, e1, e2, c, q⟩) fun c => op_fdivW pins s σ H x y v u Q I rx ry ⟨i, j, e1, e2, c, q⟩
theorem EW.fdiv (h : EW X a ρ fun x ρ1 => EW X b ρ1 fun y ρ2 => intR CDivA (fun i j => .int (i / j)) ρ2 x y fun z => Q z ρ2) : EW X (.BinOp a .FloorDiv b pos) ρ Q := EW.op (opA_int op_fdivA) h
def CMod (_ j : Int) : Prop := 0 < j
theorem EW.mod (h : EW X a ρ fun x ρ1 => EW X b ρ1 fun y ρ2 => intR CMod (fun i j => .int (i % j)) ρ2 x y fun z => Q z ρ2) : EW X (.BinOp a .Mod b pos) ρ Q := EW.op (opA_int op_mod) h
def CPowA (i j : Int) : Prop := 0 ≤ j ∧ (Builtin.Int.intBits i : Int) * j ≤ 2 ^ 27
theorem op_powA : OpR X (binaryOp .Pow) (rI CPowA fun i j => .int (i ^ j.toNat)) := opI fun i j t u s Q E c q => pow_int c.1 c.2 q
theorem EW.pow (h : EW X a ρ fun x ρ1 => EW X b ρ1 fun y ρ2 => intR CPowA (fun i j => .int (i ^ j.toNat)) ρ2 x y fun z => Q z ρ2) : EW X (.BinOp a .Pow b pos) ρ Q := EW.op (opA_int op_powA) h
theorem EW.shl (h : EW X a ρ fun x ρ1 => EW X b ρ1 fun y ρ2 => intR CPow (fun i j => .int (i * 2 ^ j.toNat)) ρ2 x y fun z => Q z ρ2) : EW X (.BinOp a .LShift b pos) ρ Q := EW.op (opA_int op_shl) h
theorem EW.band (h : EW X a ρ fun x ρ1 => EW X b ρ1 fun y ρ2 => intR IT (fun i j => .int (Builtin.bitAnd i j)) ρ2 x y fun z => Q z ρ2) : EW X (.BinOp a .BitAnd b pos) ρ Q := EW.op (opA_int (rI_of op_and)) h
theorem EW.bor (h : EW X a ρ fun x ρ1 => EW X b ρ1 fun y ρ2 => intR IT (fun i j => .int (Builtin.bitOr i j)) ρ2 x y fun z => Q z ρ2) : EW X (.BinOp a .BitOr b pos) ρ Q := EW.op (opA_int (rI_of op_or)) h
end

/-! ### sequences -/
def seqL (ρ : Nv) : AV → Option (List PyData)
  | .dat (.list ds) => some ds
  | .frs ds => some ds
  | .own i => match ρ[i]? with
    | some (.hol _ ds) => some ds
    | _ => none
  | _ => none
def seqT : AV → Option (List PyData)
  | .dat (.tuple ds) => some ds
  | _ => none
def seqA (ρ : Nv) (x : AV) : Option (List PyData) := match seqL ρ x with
  | some ds => some ds
  | none => seqT x
section
variable {K : PySem.W.Frag} {H H0 H' : Hp} {ρ : Nv} {σ : L2.St} {x : AV} {v : V} {ds : List PyData}
/-- lists that may be written: new ones, own ones -/
def seqO (ρ : Nv) : AV → Option (List PyData)
  | .frs ds => some ds
  | .own i => match ρ[i]? with
    | some (.hol _ ds) => some ds
    | _ => none
  | _ => none
theorem seqO_ok (E : NvOk K H σ ρ) (V : VOk K H0 H ρ σ x v) (h : seqO ρ x = some ds) : ∃ a xs, v = .ref a ∧ H a = some (.lst xs) ∧ RpAll K H ds xs := by
  match x, h with
  | .frs ds', h =>
    obtain rfl : ds' = ds := Option.some.inj h
    obtain ⟨a, vs, e, _, q, r⟩ := V
    exact ⟨a, vs, e, q, r⟩
  | .own i, h =>
    obtain ⟨⟨p, es, h1⟩, h2⟩ := V
    simp only [seqO, h1] at h
    obtain rfl : es = ds := Option.some.inj h
    obtain ⟨a, vs, e, q, r⟩ := E.hol h1
    rw [h2] at e
    cases e
    exact ⟨a, vs, rfl, q, r⟩
theorem seqL_ok (E : NvOk K H σ ρ) (V : VOk K H0 H ρ σ x v) (h : seqL ρ x = some ds) : ∃ a xs, v = .ref a ∧ RdF K H a xs ∧ RpAll K H ds xs := by
  match x, h with
  | .dat (.list ds'), h =>
    obtain rfl : ds' = ds := Option.some.inj h
    cases V with
    | list e r => exact ⟨_, _, rfl, .inr e, r⟩
  | .frs ds', h =>
    obtain rfl : ds' = ds := Option.some.inj h
    obtain ⟨a, vs, e, _, q, r⟩ := V
    exact ⟨a, vs, e, .inl q, r⟩
  | .own i, h =>
    obtain ⟨⟨p, es, h1⟩, h2⟩ := V
    simp only [seqL, h1] at h
    obtain rfl : es = ds := Option.some.inj h
    obtain ⟨a, vs, e, q, r⟩ := E.hol h1
    rw [h2] at e
    cases e
    exact ⟨a, vs, rfl, .inl q, r⟩
theorem seqT_ok (V : VOk K H0 H ρ σ x v) (h : seqT x = some ds) : ∃ a xs, v = .ref a ∧ SqT K H a xs ∧ RpAll K H ds xs := by
  match x, h with
  | .dat (.tuple ds'), h =>
    obtain rfl : ds' = ds := Option.some.inj h
    cases V with
    | tuple e r => exact ⟨_, _, rfl, e, r⟩
theorem seqA_ok (E : NvOk K H σ ρ) (V : VOk K H0 H ρ σ x v) (h : seqA ρ x = some ds) : ∃ a xs, v = .ref a ∧ (SqL K H a xs ∨ SqT K H a xs) ∧ RpAll K H ds xs := by
  unfold seqA at h
  cases e : seqL ρ x with
  | some es =>
    rw [e] at h
    obtain rfl : es = ds := Option.some.inj h
    obtain ⟨a, xs, e1, r, rp⟩ := seqL_ok E V e
    exact ⟨a, xs, e1, .inl r.sq, rp⟩
  | none =>
    rw [e] at h
    obtain ⟨a, xs, e1, r, rp⟩ := seqT_ok V h
    exact ⟨a, xs, e1, .inr r, rp⟩
theorem Stb.new {p : Addr} {o : HO} (n : H p = none) : Stb H (upd H p o) := fun a u _ h => by rw [upd_ne (ne_of_none h n)]; exact h
theorem NvOk.new {p : Addr} {o : HO} (E : NvOk K H σ ρ) (n : H p = none) : NvOk K (upd H p o) σ ρ where
  len := E.len
  get := fun i s h => by
    obtain ⟨w, e, so⟩ := E.get i s h
    refine ⟨w, e, ?_⟩
    cases s with
    | un => trivial
    | dat d => obtain ⟨v, e2, r⟩ := so; exact ⟨v, e2, Rp.mono (Stb.new n) _ _ r⟩
    | hol p ds => obtain ⟨a, vs, e2, q, r⟩ := so; exact ⟨a, vs, e2, by rw [upd_ne (ne_of_none q n)]; exact q, RpAll.mono (Stb.new n) _ _ r⟩
  sep := E.sep
theorem Pex.new {p : Addr} {o : HO} (E : NvOk K H σ ρ) (n : H p = none) : Pex K H ρ σ (upd H p o) ρ where
  kp := fun b u h _ => by rw [upd_ne (ne_of_none h n)]; exact h
  th := fun b u h => ⟨u, by rw [upd_ne (ne_of_none h n)]; exact h⟩
  sh := fun _ _ ds h => ⟨ds, h⟩
  hs := fun _ _ ds h => ⟨ds, h⟩
  ok := E.new n
/-- a new list of data -/
theorem frs_new {p : Addr} {xs : List V} (n : H p = none) (r : RpAll K H ds xs) : VOk K H (upd H p (.lst xs)) ρ σ (.frs ds) (.ref p) := ⟨p, xs, rfl, n, upd_same, RpAll.mono (Stb.new n) _ _ r⟩
theorem tup_new {p : Addr} {xs : List V} (n : H p = none) (r : RpAll K H ds xs) : VOk K H (upd H p (.tup xs)) ρ σ (.dat (.tuple ds)) (.ref p) := .tuple (SqT.of upd_same) (RpAll.mono (Stb.new n) _ _ r)
end
section
variable {X : Cx} {e a b c : Expr} {es : List Expr} {ρ : Nv} {Q : QE} {pos : Pos}
/-- + : ints, texts, tuples, lists -/
def addR : R2A := fun ρ x y q => match x, y with
  | .dat (.int i), .dat (.int j) => q (.dat (.int (i + j)))
  | .dat (.str i), .dat (.str j) => i.length + j.length ≤ sizeLine ∧ q (.dat (.str (i ++ j)))
  | .dat (.tuple xs), .dat (.tuple ys) => xs.length + ys.length ≤ sizeLine ∧ q (.dat (.tuple (xs ++ ys)))
  | x, y => ∃ xs ys, seqL ρ x = some xs ∧ seqL ρ y = some ys ∧ xs.length + ys.length ≤ sizeLine ∧ q (.frs (xs ++ ys))
theorem rd_list {pins : List (Addr × Obj)} {s : Shared} {σ : L2.St} {H : Hp} {l : Addr} {xs : List V} (I : L2.Inv X pins σ H s) (h : RdF X.K H l xs) : xs.length ≤ sizeLine ∧ ∃ (its : List Value) (n : Nat), Vals xs its ∧ s.heap.get? l = some { cls := .type "list", data := .seq its.toArray n } := by
  rcases h with h | ⟨o, h⟩ | ⟨its, n, h, z, r⟩
  · exact (Rd.ok (.inl h) I.hok :)
  · exact (Rd.ok (.inr ⟨o, h⟩) I.hok :)
  · exact ⟨z, its, n, r, I.kIn _ _ h⟩
theorem cat_lists {pins : List (Addr × Obj)} {s : Shared} {σ : L2.St} {H : Hp} {l m : Addr} {xs ys : List V} {Qf : VK} (I : L2.Inv X pins σ H s) (h1 : RdF X.K H l xs) (h2 : RdF X.K H m ys) (hz : xs.length + ys.length ≤ sizeLine)
    (q : ∀ p, H p = none → Qf (.ref p) (upd H p (.lst (xs ++ ys)))) : wpAny (model X.prog X.w) X.A (binaryOp .Add (.ref l) (.ref m)) (EP X pins σ Qf) X.xe s := by
  obtain ⟨_, as, n1, r1, e1⟩ := rd_list I h1
  obtain ⟨_, bs, n2, r2, e2⟩ := rd_list I h2
  have l1 := r1.length
  have l2 := r2.length
  refine PySem.P.add_list e1 e2 ?_ (by simp only [List.size_toArray]; omega)
  rw [show as.toArray ++ bs.toArray = (as ++ bs).toArray by simp]
  exact ⟨.ref _, _, I.lnew (t' := s.toks) (r1.append r2) (by rw [List.length_append]; exact hz), rfl, q _ I.fresh⟩
/-- a rule that only makes new things -/
theorem epa_new {pins : List (Addr × Obj)} {s' : Shared} {σ : L2.St} {H : Hp} {u : Value} {q : AV → Prop} {z : AV} (E : NvOk X.K H σ ρ) (h : EP X pins σ (fun w H' => Pex X.K H ρ σ H' ρ ∧ VOk X.K H H' ρ σ z w) u s') (hq : q z) : EPA X pins σ H ρ (fun z ρ' => ρ' = ρ ∧ q z) u s' := by
  obtain ⟨w, H', I, r, P, V⟩ := h
  exact ⟨w, H', z, ρ, I, r, P, V, rfl, hq⟩
theorem cat_frs {pins : List (Addr × Obj)} {s : Shared} {σ : L2.St} {H0 H : Hp} {x y : AV} {v u : V} {vv uu : Value} {q : AV → Prop} {xs ys : List PyData} (I : L2.Inv X pins σ H s) (E : NvOk X.K H σ ρ) (V : VOk X.K H0 H ρ σ x v) (U : VOk X.K H0 H ρ σ y u) (rv : RelV v vv) (ru : RelV u uu)
    (h1 : seqL ρ x = some xs) (h2 : seqL ρ y = some ys) (hz : xs.length + ys.length ≤ sizeLine) (hq : q (.frs (xs ++ ys))) : wpAny (model X.prog X.w) X.A (binaryOp .Add vv uu) (EPA X pins σ H ρ fun z ρ' => ρ' = ρ ∧ q z) X.xe s := by
  obtain ⟨a, vs, rfl, r1, p1⟩ := seqL_ok E V h1
  obtain ⟨b, ws, rfl, r2, p2⟩ := seqL_ok E U h2
  cases rv
  cases ru
  refine thn (cat_lists (Qf := fun w H' => Pex X.K H ρ σ H' ρ ∧ VOk X.K H H' ρ σ (.frs (xs ++ ys)) w) I r1 r2 (by rw [← p1.length, ← p2.length]; exact hz) fun p n => ⟨Pex.new E n, frs_new n (p1.append p2)⟩) fun w s' h => epa_new E h hq
theorem RpAll.nil_iff {K : PySem.W.Frag} {H : Hp} {ds : List PyData} {vs : List V} (h : RpAll K H ds vs) : vs = [] ↔ ds = [] := by
  have l := h.length
  constructor
  · intro e; subst e; exact List.eq_nil_of_length_eq_zero l
  · intro e; subst e; exact List.eq_nil_of_length_eq_zero l.symm
theorem op_addA : OpA X (binaryOp .Add) addR := fun pins s σ H0 H ρ x y v u vv uu q I E V U rv ru hq => by
  unfold addR at hq
  split at hq
  · rename_i i j
    obtain rfl := Rp.int_inv V
    obtain rfl := Rp.int_inv U
    exact thn (op_add pins s σ H _ _ vv uu (fun w H' => H' = H ∧ w = .int (i + j)) I rv ru ⟨i, j, rfl, rfl, rfl, rfl⟩) fun w s' ⟨z, H', I', r', e1, e2⟩ => by subst e1; subst e2; exact ⟨_, _, _, ρ, I', r', Pex.refl E, vdat (.int _), rfl, hq⟩
  · rename_i i j
    obtain rfl := Rp.str_inv V
    obtain rfl := Rp.str_inv U
    exact thn (op_add_str pins s σ H _ _ vv uu (fun w H' => H' = H ∧ w = .str (i ++ j)) I rv ru ⟨i, j, rfl, rfl, hq.1, rfl, rfl⟩) fun w s' ⟨z, H', I', r', e1, e2⟩ => by subst e1; subst e2; exact ⟨_, _, _, ρ, I', r', Pex.refl E, vdat (.str _), rfl, hq.2⟩
  · rename_i xs ys
    obtain ⟨a, vs, rfl, r1, p1⟩ := seqT_ok (ds := xs) V rfl
    obtain ⟨b, ws, rfl, r2, p2⟩ := seqT_ok (ds := ys) U rfl
    refine thn (op_catA pins s σ H _ _ vv uu (fun w H' => Pex X.K H ρ σ H' ρ ∧ VOk X.K H H' ρ σ (.dat (.tuple (xs ++ ys))) w) I rv ru ⟨a, b, vs, ws, rfl, rfl, r1, r2, by rw [← p1.length, ← p2.length]; exact hq.1, fun e => ?_, fun _ e => ?_, fun _ _ p n => ?_⟩) fun w s' h => epa_new E h hq.2
    · obtain rfl := p1.nil_iff.mp e
      exact ⟨Pex.refl E, vdat (.tuple r2 p2)⟩
    · obtain rfl := p2.nil_iff.mp e
      exact ⟨Pex.refl E, by rw [List.append_nil]; exact vdat (.tuple r1 p1)⟩
    · exact ⟨Pex.new E n, tup_new n (p1.append p2)⟩
  · obtain ⟨xs, ys, h1, h2, hz, hq⟩ := hq
    exact cat_frs I E V U rv ru h1 h2 hz hq
theorem EW.add (h : EW X a ρ fun x ρ1 => EW X b ρ1 fun y ρ2 => addR ρ2 x y fun z => Q z ρ2) : EW X (.BinOp a .Add b pos) ρ Q := EW.op op_addA h
/-- * : ints; a list times an int -/
def mulR : R2A := fun ρ x y q => match x, y with
  | .dat (.int i), .dat (.int j) => CMulA i j ∧ q (.dat (.int (i * j)))
  | x, .dat (.int k) => ∃ xs, seqO ρ x = some xs ∧ -(2 ^ 63) ≤ k ∧ k < 2 ^ 63 ∧ xs.length * k.toNat ≤ sizeLine ∧ q (.frs (List.replicate k.toNat xs).flatten)
  | _, _ => False
theorem op_mulRA : OpA X (binaryOp .Mult) mulR := fun pins s σ H0 H ρ x y v u vv uu q I E V U rv ru hq => by
  unfold mulR at hq
  split at hq
  · rename_i i j
    exact opA_int op_mulA pins s σ H0 H ρ _ _ v u vv uu q I E V U rv ru hq
  · rename_i k _
    obtain ⟨xs, h1, b1, b2, hz, hq⟩ := hq
    obtain ⟨a, vs, rfl, r1, p1⟩ := seqO_ok E V h1
    obtain rfl := Rp.int_inv U
    exact thn (op_rep pins s σ H _ _ vv uu (fun w H' => Pex X.K H ρ σ H' ρ ∧ VOk X.K H H' ρ σ (.frs (List.replicate k.toNat xs).flatten) w) I rv ru ⟨a, k, vs, rfl, rfl, r1, b1, b2, by rw [← p1.length]; exact hz, fun p n => ⟨Pex.new E n, frs_new n (p1.rep _)⟩⟩) fun w s' h => epa_new E h hq
  · exact hq.elim
theorem EW.mul (h : EW X a ρ fun x ρ1 => EW X b ρ1 fun y ρ2 => mulR ρ2 x y fun z => Q z ρ2) : EW X (.BinOp a .Mult b pos) ρ Q := EW.op op_mulRA h
end
end AW

/-! AW5: comparisons, tests, displays, items, slices, built-in functions. -/
namespace AW
open PySem PySem.Spec PyProof.Rows L2

/-! ### data without dicts -/
section
variable {K : PySem.W.Frag} {H H0 : Hp} {ρ : Nv} {σ : L2.St}
mutual
theorem Rp.dp : ∀ (d : PyData) (v : V), Rp K H d v → d.hasDict = false → Dp K H v d
  | .none, _, h, _ => by cases h; exact .non
  | .bool b, _, h, _ => by cases h; exact .bl b
  | .int i, _, h, _ => by cases h; exact .int i
  | .str x, _, h, _ => by cases h; exact .str x
  | .list ds, _, h, n => by
    cases h with
    | list e r => exact .lst e.sq (RpAll.dp ds _ r (by simpa [PyData.hasDict] using n))
  | .tuple ds, _, h, n => by
    cases h with
    | tuple e r => exact .tup e (RpAll.dp ds _ r (by simpa [PyData.hasDict] using n))
  | .dict es, _, _, n => by simp [PyData.hasDict] at n
theorem RpAll.dp : ∀ (ds : List PyData) (vs : List V), RpAll K H ds vs → PyData.hasDictAll ds = false → DpAll K H vs ds
  | [], _, h, _ => by cases h; exact .nil
  | d :: ds, _, h, n => by
    cases h with
    | cons h t =>
      have n' : d.hasDict = false ∧ PyData.hasDictAll ds = false := by simpa [PyData.hasDictAll] using n
      exact .cons (Rp.dp d _ h n'.1) (RpAll.dp ds _ t n'.2)
end
/-- what may be compared, shown: data, lists -/
def readD (ρ : Nv) : AV → Option PyData
  | .dat d => some d
  | x => (seqL ρ x).map .list
theorem readD_ok {x : AV} {v : V} {d : PyData} (E : NvOk K H σ ρ) (V : VOk K H0 H ρ σ x v) (h : readD ρ x = some d) (n : d.hasDict = false) : Dp K H v d := by
  have ls : ∀ {y : AV}, VOk K H0 H ρ σ y v → (seqL ρ y).map PyData.list = some d → Dp K H v d := by
    intro y V h
    cases e : seqL ρ y with
    | none => rw [e] at h; simp at h
    | some ds =>
      rw [e] at h
      obtain rfl : PyData.list ds = d := by simpa using h
      obtain ⟨a, xs, rfl, r, p⟩ := seqL_ok E V e
      exact .lst r.sq (RpAll.dp ds _ p (by simpa [PyData.hasDict] using n))
  match x, h with
  | .dat d', h =>
    obtain rfl : d' = d := Option.some.inj h
    exact Rp.dp _ _ V n
  | .frs ds, h => exact ls V h
  | .own i, h => exact ls V h
end
theorem nodict_of_shaped {d : PyData} (h : SeqAt.shaped d = true) : d.hasDict = false := PyData.hasDict_of_canLay d (SeqAt.canLay_of_shaped h)
section
variable {X : Cx} {e a b c : Expr} {es : List Expr} {ρ : Nv} {Q : QE} {QT : Bool → Nv → Prop} {pos p p2 : Pos} {k : Nat}
theorem Ctx.units (C : Ctx X k) : X.A.units + 100 < cLine := by have := C.room.un; omega

/-! ### comparisons -/
theorem EW.cmp {op : CmpOp} {r : R2A} (ho : OpA X (compareOp op) r) (h : EW X a ρ fun x ρ1 => EW X b ρ1 fun y ρ2 => r ρ2 x y fun z => Q z ρ2) (hm : behindInMarks op b = false) : EW X (.Compare a [op] [b] pos) ρ Q := EW.of fun pins s σ H E I => by
  refine wpAny_Compare1 (thn (h.at E I) fun v s1 ⟨x, H1, xa, ρ1, I1, r1, P1, V1, q1⟩ => thn (EW.at q1 P1.ok I1) fun u s2 ⟨y, H2, ya, ρ2, I2, r2, P2, V2, q2⟩ => ?_) hm
  refine thn (ho pins s2 σ H H2 ρ2 xa ya x y v u _ I2 P2.ok (V1.step E P1 P2) (V2.back fun a n => P1.free n) r1 r2 q2) fun w s3 h3 => ?_
  refine EPA.back (P1.trans P2) ?_
  obtain ⟨z, H3, za, ρ3, I3, r3, P3, V3, rfl, q3⟩ := h3
  exact ⟨z, H3, za, _, I3, r3, P3, V3, q3⟩
/-- a truth value, as a test wants it -/
def boolQ (q : Bool → Prop) : AV → Prop
  | .dat (.bool b) => q b
  | _ => False
theorem TW.cmp {op : CmpOp} {r : R2A} (ho : OpA X (compareOp op) r) (h : EW X a ρ fun x ρ1 => EW X b ρ1 fun y ρ2 => r ρ2 x y (boolQ fun z => QT z ρ2)) (hm : behindInMarks op b = false) : TW X (.Compare a [op] [b] pos) ρ QT := TW.of fun pins s σ H E I => by
  refine wpAny_isTrue_Compare1 (thn (h.at E I) fun v s1 ⟨x, H1, xa, ρ1, I1, r1, P1, V1, q1⟩ => thn (EW.at q1 P1.ok I1) fun u s2 ⟨y, H2, ya, ρ2, I2, r2, P2, V2, q2⟩ => ?_) hm
  refine thn (ho pins s2 σ H H2 ρ2 xa ya x y v u _ I2 P2.ok (V1.step E P1 P2) (V2.back fun a n => P1.free n) r1 r2 q2) fun w s3 h3 => ?_
  obtain ⟨z, H3, za, ρ3, I3, r3, P3, V3, rfl, q3⟩ := h3
  match za, V3, q3 with
  | .dat (.bool t), V3, q3 =>
    obtain rfl := Rp.bool_inv V3
    cases r3
    exact wpAny_truthy_bool ⟨H3, _, I3, (P1.trans P2).trans P3, q3⟩
/-- a test that is an expression with a truth value -/
theorem TW.val (h : EW X e ρ fun x ρ1 => boolQ (fun z => QT z ρ1) x) (he : ∀ whole, isTrue e X.env whole = (do let v ← whole; standAt e.pos; holding [v] (truthy v)) := by intro _; rfl) : TW X e ρ QT := TW.of fun pins s σ H E I => by
  refine isTrue_plain (thn (h.at E I) fun v s1 ⟨x, H1, xa, ρ1, I1, r1, P1, V1, q1⟩ => ?_) (he _)
  match xa, V1, q1 with
  | .dat (.bool t), V1, q1 =>
    obtain rfl := Rp.bool_inv V1
    cases r1
    exact wpAny_truthy_bool ⟨H1, _, I1, P1, q1⟩
def intB (g : Int → Int → Bool) : R2A := fun _ x y q => match x, y with
  | .dat (.int i), .dat (.int j) => q (.dat (.bool (g i j)))
  | _, _ => False
theorem opA_intB {f : Value → Value → Sem Value} {g : Int → Int → Bool} (ho : OpR X f (rI0 fun i j => .bl (g i j))) : OpA X f (intB g) := fun pins s σ H0 H ρ x y v u vv uu q I E V U rv ru hq => by
  match x, y, hq with
  | .dat (.int i), .dat (.int j), hq =>
    obtain rfl := Rp.int_inv V
    obtain rfl := Rp.int_inv U
    exact thn (ho pins s σ H _ _ vv uu (fun w H' => H' = H ∧ w = .bl (g i j)) I rv ru ⟨i, j, rfl, rfl, rfl, rfl⟩) fun w s' ⟨z, H', I', r', e1, e2⟩ => by subst e1; subst e2; exact ⟨_, _, _, ρ, I', r', Pex.refl E, vdat (.bool _), rfl, hq⟩
def eqR : R2A := fun ρ x y q => match x, y with
  | .dat (.str z), .dat (.str w) => q (.dat (.bool (z == w)))
  | x, y => ∃ d e, readD ρ x = some d ∧ readD ρ y = some e ∧ SeqAt.shaped d = true ∧ SeqAt.shaped e = true ∧ q (.dat (.bool (PyData.eqv d e)))
def neR : R2A := fun ρ x y q => match x, y with
  | .dat (.str z), .dat (.str w) => q (.dat (.bool (!(z == w))))
  | x, y => ∃ d e, readD ρ x = some d ∧ readD ρ y = some e ∧ SeqAt.shaped d = true ∧ SeqAt.shaped e = true ∧ q (.dat (.bool (!PyData.eqv d e)))
theorem opA_eq (C : Ctx X k) : OpA X (compareOp .Eq) eqR := fun pins s σ H0 H ρ x y v u vv uu q I E V U rv ru hq => by
  unfold eqR at hq
  split at hq
  · rename_i z w
    obtain rfl := Rp.str_inv V
    obtain rfl := Rp.str_inv U
    refine thn (op_eq pins s σ H _ _ vv uu (fun r H' => H' = H ∧ r = .bl (z == w)) I rv ru ⟨rfl, rfl, by rw [dec_str]⟩) fun w' s' ⟨z', H', I', r', e1, e2⟩ => ?_
    subst e1
    subst e2
    exact ⟨_, _, _, ρ, I', r', Pex.refl E, vdat (.bool _), rfl, hq⟩
  · obtain ⟨d, e, h1, h2, s1, s2, hq⟩ := hq
    have d1 := readD_ok E V h1 (nodict_of_shaped s1)
    have d2 := readD_ok E U h2 (nodict_of_shaped s2)
    exact thn (op_eqD (by have := C.units; omega) pins s σ H _ _ vv uu (fun w H' => H' = H ∧ w = .bl (PyData.eqv d e)) I rv ru ⟨d, e, d1, d2, s1, s2, rfl, rfl⟩) fun w s' ⟨z, H', I', r', e1, e2⟩ => by subst e1; subst e2; exact ⟨_, _, _, ρ, I', r', Pex.refl E, vdat (.bool _), rfl, hq⟩
theorem opA_ne (C : Ctx X k) : OpA X (compareOp .NotEq) neR := fun pins s σ H0 H ρ x y v u vv uu q I E V U rv ru hq => by
  unfold neR at hq
  split at hq
  · rename_i z w
    obtain rfl := Rp.str_inv V
    obtain rfl := Rp.str_inv U
    refine thn (op_ne pins s σ H _ _ vv uu (fun r H' => H' = H ∧ r = .bl (!(z == w))) I rv ru ⟨rfl, rfl, by rw [dec_str]⟩) fun w' s' ⟨z', H', I', r', e1, e2⟩ => ?_
    subst e1
    subst e2
    exact ⟨_, _, _, ρ, I', r', Pex.refl E, vdat (.bool _), rfl, hq⟩
  · obtain ⟨d, e, h1, h2, s1, s2, hq⟩ := hq
    have d1 := readD_ok E V h1 (nodict_of_shaped s1)
    have d2 := readD_ok E U h2 (nodict_of_shaped s2)
    exact thn (op_neD (by have := C.units; omega) pins s σ H _ _ vv uu (fun w H' => H' = H ∧ w = .bl (!PyData.eqv d e)) I rv ru ⟨d, e, d1, d2, s1, s2, rfl, rfl⟩) fun w s' ⟨z, H', I', r', e1, e2⟩ => by subst e1; subst e2; exact ⟨_, _, _, ρ, I', r', Pex.refl E, vdat (.bool _), rfl, hq⟩
/-- is None -/
def isNoneD : AV → Bool
  | .dat .none => true
  | _ => false
def isR : R2A := fun ρ x y q => y = .dat .none ∧ q (.dat (.bool (isNoneD x)))
def isNotR : R2A := fun ρ x y q => y = .dat .none ∧ q (.dat (.bool (!isNoneD x)))
theorem isNone_ok {K : PySem.W.Frag} {H0 H : Hp} {ρ : Nv} {σ : L2.St} {x : AV} {v : V} (E : NvOk K H σ ρ) (V : VOk K H0 H ρ σ x v) : decide (v = .non) = isNoneD x := by
  cases x with
  | dat d => cases V <;> rfl
  | frs ds => obtain ⟨a, vs, rfl, _⟩ := V; rfl
  | own i =>
    obtain ⟨⟨p, ds, h1⟩, h2⟩ := V
    obtain ⟨a, vs, e, _⟩ := E.hol h1
    rw [h2] at e
    cases e
    rfl
theorem opA_is : OpA X (compareOp .Is) isR := fun pins s σ H0 H ρ x y v u vv uu q I E V U rv ru ⟨e, hq⟩ => by
  subst e
  obtain rfl := Rp.none_inv U
  exact thn (op_isN pins s σ H _ _ vv uu (fun w H' => H' = H ∧ w = .bl (decide (v = .non))) I rv ru ⟨rfl, rfl, rfl⟩) fun w s' ⟨z, H', I', r', e1, e2⟩ => by subst e1; subst e2; rw [isNone_ok E V] at r'; exact ⟨_, _, _, ρ, I', r', Pex.refl E, vdat (.bool _), rfl, hq⟩
theorem opA_isNot : OpA X (compareOp .IsNot) isNotR := fun pins s σ H0 H ρ x y v u vv uu q I E V U rv ru ⟨e, hq⟩ => by
  subst e
  obtain rfl := Rp.none_inv U
  exact thn (op_notN pins s σ H _ _ vv uu (fun w H' => H' = H ∧ w = .bl (!decide (v = .non))) I rv ru ⟨rfl, rfl, rfl⟩) fun w s' ⟨z, H', I', r', e1, e2⟩ => by subst e1; subst e2; rw [isNone_ok E V] at r'; exact ⟨_, _, _, ρ, I', r', Pex.refl E, vdat (.bool _), rfl, hq⟩
/-- in: flat things in a list or tuple; data in a list; a text in a text -/
def flatD : PyData → Bool
  | .none => true
  | .bool _ => true
  | .int _ => true
  | .str _ => true
  | _ => false
def inB (d : PyData) (ds : List PyData) : Bool := ds.any fun z => PyData.eqv z d
def inR (neg : Bool) : R2A := fun ρ x y q => match x, y with
  | .dat (.str z), .dat (.str w) => q (.dat (.bool (if neg then !(!(Builtin.Str.occurrences w z 0 w.length 1).isEmpty) else !(Builtin.Str.occurrences w z 0 w.length 1).isEmpty)))
  | x, y => ∃ d ds, readD ρ x = some d ∧ ((seqA ρ y = some ds ∧ flatD d = true ∧ ds.all flatD = true) ∨ (seqL ρ y = some ds ∧ SeqAt.shaped d = true ∧ SeqAt.shaped (.list ds) = true)) ∧ q (.dat (.bool (if neg then !inB d ds else inB d ds)))
theorem flat_rp {K : PySem.W.Frag} {H : Hp} {d : PyData} {v : V} (h : Rp K H d v) (f : flatD d = true) : flatV v = true := by cases h <;> first | rfl | (simp [flatD] at f)
theorem eqV_rp {K : PySem.W.Frag} {H : Hp} {d d' : PyData} {v v' : V} (h : Rp K H d v) (h' : Rp K H d' v') (f : flatD d = true) (f' : flatD d' = true) : eqV v v' = PyData.eqv d d' := by
  cases h <;> cases h' <;> first | rfl | (simp [flatD] at f; done) | (simp [flatD] at f'; done) | (simp [eqV, PyData.eqv])
theorem inV_rp {K : PySem.W.Frag} {H : Hp} {d : PyData} {v : V} (h : Rp K H d v) (f : flatD d = true) : ∀ {ds : List PyData} {vs : List V}, RpAll K H ds vs → ds.all flatD = true → inV v vs = inB d ds ∧ vs.all flatV = true
  | [], _, t, _ => by cases t; exact ⟨rfl, rfl⟩
  | d' :: ds, _, t, g => by
    cases t with
    | cons r t =>
      have g' : flatD d' = true ∧ ds.all flatD = true := by simpa using g
      obtain ⟨e1, e2⟩ := inV_rp h f t g'.2
      refine ⟨?_, by simp [flat_rp r g'.1, e2]⟩
      unfold inV inB at e1 ⊢
      simp only [List.any_cons, eqV_rp r h g'.1 f, e1]
theorem readD_flat {K : PySem.W.Frag} {H0 H : Hp} {ρ : Nv} {σ : L2.St} {x : AV} {v : V} {d : PyData} (V : VOk K H0 H ρ σ x v) (h : readD ρ x = some d) (f : flatD d = true) : Rp K H d v := by
  match x, h with
  | .dat d', h =>
    obtain rfl : d' = d := Option.some.inj h
    exact V
  | .frs ds, h =>
    obtain rfl : PyData.list ds = d := by simpa [readD, seqL] using h
    simp [flatD] at f
  | .own i, h =>
    simp only [readD] at h
    cases e : seqL ρ (.own i) with
    | none => rw [e] at h; simp at h
    | some ds =>
      rw [e] at h
      obtain rfl : PyData.list ds = d := by simpa using h
      simp [flatD] at f
theorem opA_in (C : Ctx X k) : OpA X (compareOp .In) (inR false) := fun pins s σ H0 H ρ x y v u vv uu q I E V U rv ru hq => by
  unfold inR at hq
  split at hq
  · rename_i z w
    obtain rfl := Rp.str_inv V
    obtain rfl := Rp.str_inv U
    refine thn (op_in_str pins s σ H _ _ vv uu (fun t H' => H' = H ∧ t = .bl (!(Builtin.Str.occurrences w z 0 w.length 1).isEmpty)) I rv ru ⟨z, w, rfl, rfl, rfl, rfl⟩) fun w s' ⟨z, H', I', r', e1, e2⟩ => ?_
    subst e1
    subst e2
    exact ⟨_, _, _, ρ, I', r', Pex.refl E, vdat (.bool _), rfl, hq⟩
  · obtain ⟨d, ds, h1, h2, hq⟩ := hq
    rcases h2 with ⟨h2, f1, f2⟩ | ⟨h2, s1, s2⟩
    · have rd := readD_flat V h1 f1
      obtain ⟨m, xs, rfl, r2, p2⟩ := seqA_ok E U h2
      obtain ⟨e1, e2⟩ := inV_rp rd f1 p2 f2
      refine thn (op_in_seq pins s σ H _ _ vv uu (fun t H' => H' = H ∧ t = .bl (inV v xs)) I rv ru ⟨m, xs, rfl, r2, flat_rp rd f1, e2, rfl, rfl⟩) fun w s' ⟨z, H', I', r', z1, z2⟩ => ?_
      subst z1
      subst z2
      rw [e1] at r'
      exact ⟨_, _, _, ρ, I', r', Pex.refl E, vdat (.bool _), rfl, hq⟩
    · have d1 := readD_ok E V h1 (nodict_of_shaped s1)
      obtain ⟨m, xs, rfl, r2, p2⟩ := seqL_ok E U h2
      have d2 : Dp X.K H (.ref m) (.list ds) := .lst r2.sq (RpAll.dp ds _ p2 (by simpa [PyData.hasDict] using nodict_of_shaped s2))
      refine thn (op_inD (by have := C.units; omega) pins s σ H _ _ vv uu (fun t H' => H' = H ∧ t = .bl (inB d ds)) I rv ru ⟨d, ds, d1, d2, s1, s2, rfl, rfl⟩) fun w s' ⟨z, H', I', r', z1, z2⟩ => ?_
      subst z1
      subst z2
      exact ⟨_, _, _, ρ, I', r', Pex.refl E, vdat (.bool _), rfl, hq⟩
theorem opA_notIn (C : Ctx X k) : OpA X (compareOp .NotIn) (inR true) := fun pins s σ H0 H ρ x y v u vv uu q I E V U rv ru hq => by
  unfold inR at hq
  split at hq
  · rename_i z w
    obtain rfl := Rp.str_inv V
    obtain rfl := Rp.str_inv U
    refine thn (op_notin_str pins s σ H _ _ vv uu (fun t H' => H' = H ∧ t = .bl (!(!(Builtin.Str.occurrences w z 0 w.length 1).isEmpty))) I rv ru ⟨z, w, rfl, rfl, rfl, rfl⟩) fun w s' ⟨z, H', I', r', e1, e2⟩ => ?_
    subst e1
    subst e2
    exact ⟨_, _, _, ρ, I', r', Pex.refl E, vdat (.bool _), rfl, hq⟩
  · obtain ⟨d, ds, h1, h2, hq⟩ := hq
    rcases h2 with ⟨h2, f1, f2⟩ | ⟨h2, s1, s2⟩
    · have rd := readD_flat V h1 f1
      obtain ⟨m, xs, rfl, r2, p2⟩ := seqA_ok E U h2
      obtain ⟨e1, e2⟩ := inV_rp rd f1 p2 f2
      refine thn (op_notIn_seq pins s σ H _ _ vv uu (fun t H' => H' = H ∧ t = .bl (!inV v xs)) I rv ru ⟨m, xs, rfl, r2, flat_rp rd f1, e2, rfl, rfl⟩) fun w s' ⟨z, H', I', r', z1, z2⟩ => ?_
      subst z1
      subst z2
      rw [e1] at r'
      exact ⟨_, _, _, ρ, I', r', Pex.refl E, vdat (.bool _), rfl, hq⟩
    · have d1 := readD_ok E V h1 (nodict_of_shaped s1)
      obtain ⟨m, xs, rfl, r2, p2⟩ := seqL_ok E U h2
      have d2 : Dp X.K H (.ref m) (.list ds) := .lst r2.sq (RpAll.dp ds _ p2 (by simpa [PyData.hasDict] using nodict_of_shaped s2))
      refine thn (op_notInD (by have := C.units; omega) pins s σ H _ _ vv uu (fun t H' => H' = H ∧ t = .bl (!inB d ds)) I rv ru ⟨d, ds, d1, d2, s1, s2, rfl, rfl⟩) fun w s' ⟨z, H', I', r', z1, z2⟩ => ?_
      subst z1
      subst z2
      exact ⟨_, _, _, ρ, I', r', Pex.refl E, vdat (.bool _), rfl, hq⟩

/-! ### and, or, not, if -/
theorem EW.one {op : BoolOp} (h : EW X a ρ Q) : EW X (.BoolOp op [a] pos) ρ Q := fun σ H R E kk pins s I => (pe_one pe_W).run pins s σ H R I (h σ H R E kk)
theorem EW.and (h : EW X a ρ fun x ρ1 => boolQ (fun t => if t = true then EW X (.BoolOp .And (b :: es) pos) ρ1 Q else Q (.dat (.bool false)) ρ1) x) : EW X (.BoolOp .And (a :: b :: es) pos) ρ Q := EW.of fun pins s σ H E I => by
  refine BoolOp_and (thn (h.at E I) fun v s1 ⟨x, H1, xa, ρ1, I1, r1, P1, V1, q1⟩ => ?_)
  match xa, V1, q1 with
  | .dat (.bool t), V1, q1 =>
    obtain rfl := Rp.bool_inv V1
    cases r1
    refine wpAny_truthy_bool ?_
    cases t with
    | true => exact thn (EW.at (by simpa [boolQ] using q1) P1.ok I1) fun u s2 h2 => EPA.back P1 h2
    | false => exact ⟨.bl false, H1, _, _, I1, rfl, P1, vdat (.bool _), by simpa [boolQ] using q1⟩
theorem EW.or (h : EW X a ρ fun x ρ1 => boolQ (fun t => if t = true then Q (.dat (.bool true)) ρ1 else EW X (.BoolOp .Or (b :: es) pos) ρ1 Q) x) : EW X (.BoolOp .Or (a :: b :: es) pos) ρ Q := EW.of fun pins s σ H E I => by
  refine BoolOp_or (thn (h.at E I) fun v s1 ⟨x, H1, xa, ρ1, I1, r1, P1, V1, q1⟩ => ?_)
  match xa, V1, q1 with
  | .dat (.bool t), V1, q1 =>
    obtain rfl := Rp.bool_inv V1
    cases r1
    refine wpAny_truthy_bool ?_
    cases t with
    | false => exact thn (EW.at (by simpa [boolQ] using q1) P1.ok I1) fun u s2 h2 => EPA.back P1 h2
    | true => exact ⟨.bl true, H1, _, _, I1, rfl, P1, vdat (.bool _), by simpa [boolQ] using q1⟩
theorem EW.not (h : EW X a ρ fun x ρ1 => boolQ (fun t => Q (.dat (.bool (!t))) ρ1) x) : EW X (.UnaryOp .Not a pos) ρ Q := EW.of fun pins s σ H E I => by
  refine UnaryOp_ (thn (h.at E I) fun v s1 ⟨x, H1, xa, ρ1, I1, r1, P1, V1, q1⟩ => ?_)
  match xa, V1, q1 with
  | .dat (.bool t), V1, q1 =>
    obtain rfl := Rp.bool_inv V1
    cases r1
    exact not_of (wpAny_truthy_bool ⟨.bl (!t), H1, _, _, I1, rfl, P1, vdat (.bool _), q1⟩)
theorem EW.neg (h : EW X a ρ fun x ρ1 => ∃ i, x = .dat (.int i) ∧ Q (.dat (.int (-i))) ρ1) : EW X (.UnaryOp .USub a pos) ρ Q := fun σ H R E kk pins s I =>
  (pe_un un_neg pe_W).run pins s σ H R I (h σ H _ E fun v H1 x ρ1 P V ⟨i, e, q⟩ => by subst e; obtain rfl := Rp.int_inv V; exact ⟨i, rfl, kk _ H1 _ _ P (vdat (.int _)) q⟩)
theorem EW.inv (h : EW X a ρ fun x ρ1 => ∃ i, x = .dat (.int i) ∧ Q (.dat (.int (Builtin.bitNot i))) ρ1) : EW X (.UnaryOp .Invert a pos) ρ Q := fun σ H R E kk pins s I =>
  (pe_un un_inv pe_W).run pins s σ H R I (h σ H _ E fun v H1 x ρ1 P V ⟨i, e, q⟩ => by subst e; obtain rfl := Rp.int_inv V; exact ⟨i, rfl, kk _ H1 _ _ P (vdat (.int _)) q⟩)
/-- tests as such -/
def TWw (X : Cx) (e : Expr) (ρ : Nv) (QT : Bool → Nv → Prop) : Prop := ∀ (whole : Sem Value) (pins : List (Addr × Obj)) (s : Shared) (σ : L2.St) (H : Hp), NvOk X.K H σ ρ → L2.Inv X pins σ H s → wpAny (model X.prog X.w) X.A (isTrue e X.env whole) (TPA X pins σ H ρ QT) X.xe s
theorem TWw.tw (h : TWw X e ρ QT) : TW X e ρ QT := TW.of fun pins s σ H E I => h _ pins s σ H E I
theorem TWw.and1 (h : TW X a ρ QT) : TWw X (.BoolOp .And [a] pos) ρ QT := fun wh pins s σ H E I =>
  thn ((pw_and1 pt_W).run wh pins s σ H (fun t H' => ∃ ρ', Pex X.K H ρ σ H' ρ' ∧ QT t ρ') I (h σ H _ E fun t H' ρ' P q => ⟨ρ', P, q⟩)) fun t s' ⟨H', I', ρ', P, q⟩ => ⟨H', ρ', I', P, q⟩
theorem TWw.or1 (h : TW X a ρ QT) : TWw X (.BoolOp .Or [a] pos) ρ QT := fun wh pins s σ H E I =>
  thn ((pw_or1 pt_W).run wh pins s σ H (fun t H' => ∃ ρ', Pex X.K H ρ σ H' ρ' ∧ QT t ρ') I (h σ H _ E fun t H' ρ' P q => ⟨ρ', P, q⟩)) fun t s' ⟨H', I', ρ', P, q⟩ => ⟨H', ρ', I', P, q⟩
theorem TWw.and (h : TW X a ρ fun t ρ1 => if t = true then TWw X (.BoolOp .And (b :: es) pos) ρ1 QT else QT false ρ1) : TWw X (.BoolOp .And (a :: b :: es) pos) ρ QT := fun wh pins s σ H E I => by
  refine isTrue_and (thn (h.at E I) fun t s1 ⟨H1, ρ1, I1, P1, q1⟩ => ?_)
  cases t with
  | true => exact thn ((show TWw X (.BoolOp .And (b :: es) pos) ρ1 QT by simpa using q1) wh pins s1 σ H1 P1.ok I1) fun u s2 h2 => TPA.back P1 h2
  | false => exact ⟨H1, _, I1, P1, by simpa using q1⟩
theorem TWw.or (h : TW X a ρ fun t ρ1 => if t = true then QT true ρ1 else TWw X (.BoolOp .Or (b :: es) pos) ρ1 QT) : TWw X (.BoolOp .Or (a :: b :: es) pos) ρ QT := fun wh pins s σ H E I => by
  refine isTrue_or (thn (h.at E I) fun t s1 ⟨H1, ρ1, I1, P1, q1⟩ => ?_)
  cases t with
  | true => exact ⟨H1, _, I1, P1, by simpa using q1⟩
  | false => exact thn ((show TWw X (.BoolOp .Or (b :: es) pos) ρ1 QT by simpa using q1) wh pins s1 σ H1 P1.ok I1) fun u s2 h2 => TPA.back P1 h2
theorem TW.not (h : TW X a ρ fun t ρ1 => QT (!t) ρ1) : TW X (.UnaryOp .Not a pos) ρ QT := TW.of fun pins s σ H E I =>
  isTrue_not (thn (h.at E I) fun t s1 ⟨H1, ρ1, I1, P1, q1⟩ => ⟨H1, ρ1, I1, P1, q1⟩)
theorem EW.ifExp (h : TW X c ρ fun t ρ1 => if t = true then EW X a ρ1 Q else EW X b ρ1 Q) : EW X (.IfExp c a b pos) ρ Q := EW.of fun pins s σ H E I => by
  refine wpAny_IfExp (thn (h.at E I) fun t s1 ⟨H1, ρ1, I1, P1, q1⟩ => ?_)
  cases t with
  | true => exact thn (EW.at (by simpa using q1) P1.ok I1) fun u s2 h2 => EPA.back P1 h2
  | false => exact thn (EW.at (by simpa using q1) P1.ok I1) fun u s2 h2 => EPA.back P1 h2

/-! ### displays -/
theorem EW.tuple {j : Nat} (h : EWds X es ρ fun ds ρ1 => ds.length ≤ sizeLine ∧ Q (.dat (.tuple ds)) ρ1) : EW X (.Tuple es j pos) ρ Q := fun σ H R E kk pins s I =>
  (pe_tup pa_W).run pins s σ H R I (h σ H _ E fun vs H1 ds ρ1 P r ⟨z, q⟩ => ⟨by rw [← r.length]; exact z, fun p n => kk _ _ _ _ (P.trans (Pex.new P.ok n)) (vdat (.tuple (SqT.of upd_same) (RpAll.mono (Stb.new n) _ _ r))) q⟩)
theorem EW.list (h : EWds X es ρ fun ds ρ1 => ds.length ≤ sizeLine ∧ Q (.frs ds) ρ1) : EW X (.List es pos) ρ Q := fun σ H R E kk pins s I =>
  (pe_lst pa_W).run pins s σ H R I (h σ H _ E fun vs H1 ds ρ1 P r ⟨z, q⟩ => ⟨by rw [← r.length]; exact z, fun p n => kk _ _ (.frs ds) _ (P.trans (Pex.new P.ok n)) ⟨p, vs, rfl, P.free n, upd_same, RpAll.mono (Stb.new n) _ _ r⟩ q⟩)
end
end AW

/-! AW6: items, slices, built-in functions. -/
namespace AW
open PySem PySem.Spec PyProof.Rows L2
section
variable {X : Cx} {e a b c : Expr} {es : List Expr} {ρ : Nv} {Q : QE} {QT : Bool → Nv → Prop} {pos p p2 : Pos} {k : Nat}

/-! ### items -/
theorem RpAll.atI {K : PySem.W.Frag} {H : Hp} {ds : List PyData} {vs : List V} {i : Int} {d : PyData} (r : RpAll K H ds vs) (h : L2.atI ds i = some d) : ∃ v, L2.atI vs i = some v ∧ Rp K H d v := by
  unfold L2.atI at h ⊢
  rw [r.length] at h
  cases e : ixN vs.length i with
  | none => rw [e] at h; simp at h
  | some j =>
    rw [e] at h
    exact r.get h
/-- an item of a sequence, a sign of a text -/
def ixR : R2A := fun ρ x y q => match x, y with
  | .dat (.str z), .dat (.int i) => ∃ c, z.length ≤ sizeLine ∧ L2.atI z.cps.toList i = some c ∧ q (.dat (.str ⟨#[c]⟩))
  | x, .dat (.int i) => ∃ ds d, seqA ρ x = some ds ∧ L2.atI ds i = some d ∧ q (.dat d)
  | _, _ => False
theorem EW.ix (h : EW X a ρ fun x ρ1 => EW X b ρ1 fun y ρ2 => ixR ρ2 x y fun z => Q z ρ2) (hs : PlainIx b := by exact fun _ _ => rfl) : EW X (.Subscript a b pos) ρ Q := fun σ H R E kk pins s I => by
  refine (pe_ix ix_seq pe_W pe_W hs).run pins s σ H R I (h σ H _ E fun v H1 x ρ1 P1 V1 q1 => q1 σ H1 _ P1.ok fun u H2 y ρ2 P2 V2 q2 => ?_)
  have V1' := V1.step E P1 P2
  replace q2 : ixR ρ2 x y (fun z => Q z ρ2) := q2
  unfold ixR at q2
  split at q2
  · rename_i z i
    obtain ⟨c, hz, hc, q2⟩ := q2
    obtain rfl := Rp.str_inv V1'
    obtain rfl := Rp.int_inv V2
    exact .inr (.inr ⟨z, i, c, rfl, rfl, hz, hc, kk _ H2 _ _ (P1.trans P2) (vdat (.str _)) q2⟩)
  · rename_i i _
    obtain ⟨ds, d, hd, hi, q2⟩ := q2
    obtain rfl := Rp.int_inv V2
    obtain ⟨m, xs, rfl, r, rp⟩ := seqA_ok P2.ok V1' hd
    obtain ⟨v, hv, rv⟩ := rp.atI hi
    have fin := kk v H2 (.dat d) _ (P1.trans P2) (vdat rv) q2
    rcases r with r | r
    · exact .inl ⟨m, xs, i, v, rfl, rfl, r, hv, fin⟩
    · exact .inr (.inl ⟨m, xs, i, v, rfl, rfl, r, hv, fin⟩)
  · exact q2.elim

/-! ### slices -/
def cutD (ds : List PyData) (lo hi : Option Int) : List PyData := (ds.drop (HT.sIx ds.length 0 lo)).take (HT.sIx ds.length ds.length hi - HT.sIx ds.length 0 lo)
theorem RpAll.cut {K : PySem.W.Frag} {H : Hp} {ds : List PyData} {vs : List V} (r : RpAll K H ds vs) (lo hi : Option Int) : RpAll K H (cutD ds lo hi) (cutV vs lo hi) := by
  unfold cutD cutV
  rw [r.length]
  exact (r.drop _).take _
def EWo (X : Cx) : Option Expr → Nv → (Option Int → Nv → Prop) → Prop
  | none, ρ, Q => Q none ρ
  | some e, ρ, Q => EW X e ρ fun x ρ1 => ∃ i, x = .dat (.int i) ∧ Q (some i) ρ1
theorem EWo.po (X : Cx) : ∀ lo : Option Expr, ∃ tl, PO X lo tl ∧ ∀ {σ : L2.St} {H : Hp} {R : Option Int → Hp → Prop} {ρ : Nv} {Q : Option Int → Nv → Prop}, EWo X lo ρ Q → NvOk X.K H σ ρ → (∀ i H' ρ', Pex X.K H ρ σ H' ρ' → Q i ρ' → R i H') → tl σ H R
  | none => ⟨_, po_none, fun {σ H R ρ Q} h E k => k none H ρ (Pex.refl E) h⟩
  | some e => ⟨_, po_some pe_W, fun {σ H R ρ Q} h E k => h σ H _ E fun v H1 x ρ1 P V ⟨i, ex, q⟩ => by subst ex; obtain rfl := Rp.int_inv V; exact ⟨i, rfl, k _ H1 _ P q⟩⟩
def sliceR (ρ : Nv) (x : AV) (lo hi : Option Int) (q : AV → Prop) : Prop := match x with
  | .dat (.tuple ds) => q (.dat (.tuple (cutD ds lo hi)))
  | .dat (.str z) => z.length ≤ sizeLine ∧ q (.dat (.str (Txt.slice z lo hi)))
  | x => ∃ ds, seqL ρ x = some ds ∧ q (.frs (cutD ds lo hi))
theorem cutV_all (vs : List V) {lo hi : Option Int} (h : HT.sIx vs.length 0 lo = 0 ∧ HT.sIx vs.length vs.length hi = vs.length) : cutV vs lo hi = vs := by
  unfold cutV
  rw [h.1, h.2]
  simp
theorem EW.slice {lo hi : Option Expr} (h : EW X e ρ fun x ρ1 => EWo X lo ρ1 fun l ρ2 => EWo X hi ρ2 fun u ρ3 => sliceR ρ3 x l u fun z => Q z ρ3) : EW X (.Subscript e (.Slice lo hi none p2) pos) ρ Q := fun σ H R E kk pins s I => by
  obtain ⟨tl, pl, kl⟩ := EWo.po X lo
  obtain ⟨th, ph, kh⟩ := EWo.po X hi
  refine (pe_slice (SlR.or sl_tupA (SlR.or C8.sl_txt sl_list)) pe_W pl ph).run pins s σ H R I (h σ H _ E fun v H1 x ρ1 P1 V1 q1 => kl q1 P1.ok fun l H2 ρ2 P2 q2 => kh q2 P2.ok fun u H3 ρ3 P3 q3 => ?_)
  have V := (V1.step E P1 P2).step E (P1.trans P2) P3
  have PA := (P1.trans P2).trans P3
  replace q3 : sliceR ρ3 x l u (fun z => Q z ρ3) := q3
  unfold sliceR at q3
  split at q3
  · rename_i ds
    obtain ⟨m, xs, rfl, r, rp⟩ := seqT_ok (ds := ds) V rfl
    refine .inl ⟨m, xs, rfl, r, fun w => ?_, fun _ p n => ?_⟩
    · have rc := rp.cut l u
      rw [cutV_all xs w] at rc
      exact kk _ H3 _ _ PA (vdat (.tuple r rc)) q3
    · exact kk _ _ _ _ (PA.trans (Pex.new P3.ok n)) (vdat (.tuple (SqT.of upd_same) (RpAll.mono (Stb.new n) _ _ (rp.cut l u)))) q3
  · rename_i z
    obtain rfl := Rp.str_inv V
    exact .inr (.inl ⟨z, rfl, q3.1, kk _ H3 _ _ PA (vdat (.str _)) q3.2⟩)
  · obtain ⟨ds, hd, q3⟩ := q3
    obtain ⟨m, xs, rfl, r, rp⟩ := seqL_ok P3.ok V hd
    exact .inr (.inr ⟨m, xs, rfl, r.sq, fun p n => kk _ _ (.frs _) _ (PA.trans (Pex.new P3.ok n)) ⟨p, _, rfl, PA.free n, upd_same, RpAll.mono (Stb.new n) _ _ (rp.cut l u)⟩ q3⟩)

/-! ### built-in functions of one argument -/
/-- what a function makes of one value: a reading, at the state behind the argument -/
def B1 (X : Cx) (r : List V → Hp → VK → Prop) (t : Nv → AV → (AV → Prop) → Prop) : Prop := ∀ (σ : L2.St) (H0 H : Hp) (ρ : Nv) (x : AV) (v : V) (q : AV → Prop) (R : VK), NvOk X.K H σ ρ → VOk X.K H0 H ρ σ x v → t ρ x q → (∀ w H' z, Pex X.K H ρ σ H' ρ → VOk X.K H H' ρ σ z w → q z → R w H') → r [v] H R
theorem EW.b1 {x : Str} {id : String} {r : List V → Hp → VK → Prop} {t : Nv → AV → (AV → Prop) → Prop} (hc : CallR X (.builtin id) r) (ht : B1 X r t) (hm : X.mg x = none) (hv : bootBuiltins x = some (.builtin id)) (h : EW X e ρ fun x ρ1 => t ρ1 x fun z => Q z ρ1) (hg : Gl X x)
    (hn : x ≠ "__name__" := by decide) (hdb : (x == ("__debug__" : Str)) = false := by decide) (he : starEach [e] X.env = (false, eval e X.env) :: starEach [] X.env := by rfl) (hpl : (backTo pos (starEach [] X.env)).any (·.1) = false := by rfl) : EW X (.Call (.Name x p) [e] [] pos) ρ Q := fun σ H R E kk pins s I =>
  (pe_callB hc hg hm hv (pa_cons pe_W pa_nil he) hn hdb he hpl).run pins s σ H R I (h σ H _ E fun v H1 x ρ1 P1 V1 q1 => ht σ H H1 ρ1 x v _ R P1.ok V1 q1 fun w H' z P2 V2 q2 => kk w H' z ρ1 (P1.trans P2) (V2.back fun a n => P1.free n) q2)
theorem EW.t1 {x : Str} {T : String} {r : List V → Hp → VK → Prop} {t : Nv → AV → (AV → Prop) → Prop} (hc : CallR X (.type T) r) (ht : B1 X r t) (hm : X.mg x = none) (hv : bootBuiltins x = some (.type T)) (h : EW X e ρ fun x ρ1 => t ρ1 x fun z => Q z ρ1) (hg : Gl X x)
    (hn : x ≠ "__name__" := by decide) (hdb : (x == ("__debug__" : Str)) = false := by decide) (he : starEach [e] X.env = (false, eval e X.env) :: starEach [] X.env := by rfl) (hpl : (backTo pos (starEach [] X.env)).any (·.1) = false := by rfl) : EW X (.Call (.Name x p) [e] [] pos) ρ Q := fun σ H R E kk pins s I =>
  (pe_callTy hc hg hm hv (pa_cons pe_W pa_nil he) hn hdb he hpl).run pins s σ H R I (h σ H _ E fun v H1 x ρ1 P1 V1 q1 => ht σ H H1 ρ1 x v _ R P1.ok V1 q1 fun w H' z P2 V2 q2 => kk w H' z ρ1 (P1.trans P2) (V2.back fun a n => P1.free n) q2)
/-- len -/
def lenR : Nv → AV → (AV → Prop) → Prop := fun ρ x q => match x with
  | .dat (.str z) => z.length ≤ sizeLine ∧ q (.dat (.int z.length))
  | x => ∃ ds, seqA ρ x = some ds ∧ q (.dat (.int ds.length))
theorem b1_len : B1 X (fun xs H Q => ∃ x n, xs = [x] ∧ LenV X.K x H n ∧ Q (.int n) H) lenR := fun σ H0 H ρ x v q R E V t kk => by
  unfold lenR at t
  split at t
  · rename_i z
    obtain rfl := Rp.str_inv V
    exact ⟨_, _, rfl, ⟨t.1, rfl⟩, kk _ H _ (Pex.refl E) (vdat (.int _)) t.2⟩
  · obtain ⟨ds, hd, t⟩ := t
    obtain ⟨m, xs, rfl, r, rp⟩ := seqA_ok E V hd
    refine ⟨_, ds.length, rfl, ?_, kk _ H _ (Pex.refl E) (vdat (.int _)) t⟩
    rcases r with r | r
    · exact .inl ⟨xs, r, rp.length⟩
    · exact .inr ⟨xs, r, rp.length⟩
theorem EW.len (C : Ctx X k) (h : EW X e ρ fun x ρ1 => lenR ρ1 x fun z => Q z ρ1) (hg : Gl X "len" := by rfl) (he : starEach [e] X.env = (false, eval e X.env) :: starEach [] X.env := by rfl) (hpl : (backTo pos (starEach [] X.env)).any (·.1) = false := by rfl) : EW X (.Call (.Name "len" p) [e] [] pos) ρ Q :=
  EW.b1 call_len b1_len C.blt.len PySem.boot_len h hg (by decide) (by decide) he hpl
/-- all, any of truth values -/
def allR : Nv → AV → (AV → Prop) → Prop := fun ρ x q => ∃ bs : List Bool, seqL ρ x = some (bs.map .bool) ∧ q (.dat (.bool (bs.all id)))
def anyR : Nv → AV → (AV → Prop) → Prop := fun ρ x q => ∃ bs : List Bool, seqL ρ x = some (bs.map .bool) ∧ q (.dat (.bool (bs.any id)))
theorem b1_all : B1 X (rAll X.K) allR := fun σ H0 H ρ x v q R E V t kk => by
  obtain ⟨bs, hd, t⟩ := t
  obtain ⟨m, xs, rfl, r, rp⟩ := seqL_ok E V hd
  obtain rfl := rp.bools
  exact ⟨m, bs, rfl, r.sq, kk _ H _ (Pex.refl E) (vdat (.bool _)) t⟩
theorem b1_any : B1 X (rAny X.K) anyR := fun σ H0 H ρ x v q R E V t kk => by
  obtain ⟨bs, hd, t⟩ := t
  obtain ⟨m, xs, rfl, r, rp⟩ := seqL_ok E V hd
  obtain rfl := rp.bools
  exact ⟨m, bs, rfl, r.sq, kk _ H _ (Pex.refl E) (vdat (.bool _)) t⟩
theorem EW.all (C : Ctx X k) (h : EW X e ρ fun x ρ1 => allR ρ1 x fun z => Q z ρ1) (hg : Gl X "all" := by rfl) (he : starEach [e] X.env = (false, eval e X.env) :: starEach [] X.env := by rfl) (hpl : (backTo pos (starEach [] X.env)).any (·.1) = false := by rfl) : EW X (.Call (.Name "all" p) [e] [] pos) ρ Q :=
  EW.b1 (cr_all C.calm) b1_all C.blt.all (by decide +kernel) h hg (by decide) (by decide) he hpl
theorem EW.any (C : Ctx X k) (h : EW X e ρ fun x ρ1 => anyR ρ1 x fun z => Q z ρ1) (hg : Gl X "any" := by rfl) (he : starEach [e] X.env = (false, eval e X.env) :: starEach [] X.env := by rfl) (hpl : (backTo pos (starEach [] X.env)).any (·.1) = false := by rfl) : EW X (.Call (.Name "any" p) [e] [] pos) ρ Q :=
  EW.b1 (cr_any C.calm) b1_any C.blt.any (by decide +kernel) h hg (by decide) (by decide) he hpl
def absR : Nv → AV → (AV → Prop) → Prop := fun ρ x q => ∃ i, x = .dat (.int i) ∧ q (.dat (.int (if i < 0 then -i else i)))
theorem EW.abs (C : Ctx X k) (h : EW X e ρ fun x ρ1 => absR ρ1 x fun z => Q z ρ1) (hg : Gl X "abs" := by rfl) (he : starEach [e] X.env = (false, eval e X.env) :: starEach [] X.env := by rfl) (hpl : (backTo pos (starEach [] X.env)).any (·.1) = false := by rfl) : EW X (.Call (.Name "abs" p) [e] [] pos) ρ Q :=
  EW.b1 call_abs (fun σ H0 H ρ x v q R E V ⟨i, e, t⟩ kk => by subst e; obtain rfl := Rp.int_inv V; exact ⟨i, rfl, kk _ H _ (Pex.refl E) (vdat (.int _)) t⟩) C.blt.abs (by decide +kernel) h hg (by decide) (by decide) he hpl
/-- int of an int, of a truth value -/
def b2n (b : Bool) : Int := if b then 1 else 0
def intCR : Nv → AV → (AV → Prop) → Prop := fun _ x q => match x with
  | .dat (.int i) => q (.dat (.int i))
  | .dat (.bool b) => q (.dat (.int (b2n b)))
  | _ => False
theorem EW.intC (C : Ctx X k) (h : EW X e ρ fun x ρ1 => intCR ρ1 x fun z => Q z ρ1) (hg : Gl X "int" := by rfl) (he : starEach [e] X.env = (false, eval e X.env) :: starEach [] X.env := by rfl) (hpl : (backTo pos (starEach [] X.env)).any (·.1) = false := by rfl) : EW X (.Call (.Name "int" p) [e] [] pos) ρ Q :=
  EW.t1 call_int1 (fun σ H0 H ρ x v q R E V t kk => by
    unfold intCR at t
    split at t
    · obtain rfl := Rp.int_inv V; exact .inl ⟨_, rfl, kk _ H _ (Pex.refl E) (vdat (.int _)) t⟩
    · obtain rfl := Rp.bool_inv V; exact .inr ⟨_, rfl, kk _ H _ (Pex.refl E) (vdat (.int _)) t⟩
    · exact t.elim) C.blt.int (by decide +kernel) h hg (by decide) (by decide) he hpl
/-- tuple(list), tuple(tuple); list(..) -/
def tupCR : Nv → AV → (AV → Prop) → Prop := fun ρ x q => ∃ ds, seqA ρ x = some ds ∧ q (.dat (.tuple ds))
theorem EW.tupC (C : Ctx X k) (h : EW X e ρ fun x ρ1 => tupCR ρ1 x fun z => Q z ρ1) (hg : Gl X "tuple" := by rfl) (he : starEach [e] X.env = (false, eval e X.env) :: starEach [] X.env := by rfl) (hpl : (backTo pos (starEach [] X.env)).any (·.1) = false := by rfl) : EW X (.Call (.Name "tuple" p) [e] [] pos) ρ Q :=
  EW.t1 call_tuple_of (fun σ H0 H ρ x v q R E V ⟨ds, hd, t⟩ kk => by
    obtain ⟨m, xs, rfl, r, rp⟩ := seqA_ok E V hd
    rcases r with r | r
    · exact ⟨m, xs, rfl, .inl ⟨r, fun l n => kk _ _ _ (Pex.new E n) (tup_new n rp) t⟩⟩
    · exact ⟨m, xs, rfl, .inr ⟨r, kk _ H _ (Pex.refl E) (vdat (.tuple r rp)) t⟩⟩) C.blt.tuple (by decide +kernel) h hg (by decide) (by decide) he hpl
def lstCR : Nv → AV → (AV → Prop) → Prop := fun ρ x q => ∃ ds, seqA ρ x = some ds ∧ q (.frs ds)
theorem EW.lstC (C : Ctx X k) (h : EW X e ρ fun x ρ1 => lstCR ρ1 x fun z => Q z ρ1) (hg : Gl X "list" := by rfl) (he : starEach [e] X.env = (false, eval e X.env) :: starEach [] X.env := by rfl) (hpl : (backTo pos (starEach [] X.env)).any (·.1) = false := by rfl) : EW X (.Call (.Name "list" p) [e] [] pos) ρ Q :=
  EW.t1 call_list_of (fun σ H0 H ρ x v q R E V ⟨ds, hd, t⟩ kk => by
    obtain ⟨m, xs, rfl, r, rp⟩ := seqA_ok E V hd
    exact ⟨m, xs, rfl, r, fun l n => kk _ _ _ (Pex.new E n) (frs_new n rp) t⟩) C.blt.list (by decide +kernel) h hg (by decide) (by decide) he hpl
/-- str of an int, of a text -/
def strCR : Nv → AV → (AV → Prop) → Prop := fun _ x q => ∃ i : Int, x = .dat (.int i) ∧ i.natAbs.log2 < 1920 ∧ q (.dat (.str (toString i)))
theorem EW.strC (C : Ctx X k) (h : EW X e ρ fun x ρ1 => strCR ρ1 x fun z => Q z ρ1) (hg : Gl X "str" := by rfl) (he : starEach [e] X.env = (false, eval e X.env) :: starEach [] X.env := by rfl) (hpl : (backTo pos (starEach [] X.env)).any (·.1) = false := by rfl) : EW X (.Call (.Name "str" p) [e] [] pos) ρ Q :=
  EW.t1 call_str_int (fun σ H0 H ρ x v q R E V ⟨i, ex, z, t⟩ kk => by subst ex; obtain rfl := Rp.int_inv V; exact ⟨i, rfl, z, kk _ H _ (Pex.refl E) (vdat (.str _)) t⟩) C.blt.str (by decide +kernel) h hg (by decide) (by decide) he hpl

/-! ### sum of ints: a list, a tuple -/
theorem sum_tupG {prog : Program} {w : World} {A : Around} {E : Value → Shared → Prop} {s : Shared} {l : Addr} {its : List Value} {ns : List Int} {Qf : Value → Shared → Prop} (hh : A.handled = none) (hl : IsTup s.heap l its.toArray) (hi : IntsAre its ns)
    (h : ∀ h' tk t', (∀ b o, s.heap.get? b = some o → h'.get? b = some o) → Qf (.int ns.sum t') { s with heap := h', toks := tk }) : wpAny (model prog w) A (call (.builtin "sum") [.ref l]) Qf E s := by
  obtain ⟨xs, e⟩ := hi.allInts.items
  have hn : (xs.toList.map (·.1)) = ns := by
    have h1 : numsOf (intItems xs).toList = ns := by rw [← e]; exact hi.numsOf
    rwa [nums_intItems] at h1
  rw [e] at hl
  have hlt : l < s.heap.objs.size := by obtain ⟨_, e', _⟩ := hl; exact Heap.lt_size e'
  refine call_sum_walkG (wpAny_pyIter_tuple hl ?_)
  refine ⟨s.heap.objs.size, _, _, _, _, _, numAt xs, rfl, Walks.tuple (A := A.in1) hh _ l (Nat.ne_of_lt hlt) (intItems xs), ⟨⟨_, Heap.get?_push_size _ rfl, rfl, rfl⟩, IsTup.push hl _⟩, fun b hb => ?_, (fun _ _ => intItems_at), fun h' tk t' hk => ?_⟩
  · show b < (s.heap.push _).objs.size
    rw [Heap.size_push]
    have hb' : b = s.heap.objs.size ∨ b = l := by simpa using hb
    rcases hb' with rfl | rfl
    · exact Nat.lt_succ_self _
    · exact Nat.lt_succ_of_lt hlt
  · have hsum : preSum (numAt xs) (intItems xs).size = ns.sum := by
      rw [preSum_eq, List.take_of_length_le (by simp [intItems]), hn]
    rw [hsum]
    exact h h' tk t' fun b o ho => hk b o (by simpa using Nat.ne_of_lt (Heap.lt_size ho)) (Heap.get?_push_of_some _ ho)
def sumR : Nv → AV → (AV → Prop) → Prop := fun ρ x q => ∃ ns : List Int, seqA ρ x = some (ns.map .int) ∧ q (.dat (.int ns.sum))
def rSumA (K : PySem.W.Frag) : List V → Hp → VK → Prop := fun vs H Q => ∃ (a : Addr) (ns : List Int), vs = [V.ref a] ∧ (SqL K H a (ns.map V.int) ∨ SqT K H a (ns.map V.int)) ∧ Q (.int ns.sum) H
theorem cr_sumA (hc : X.calm = true) : CallR X (.builtin "sum") (rSumA X.K) := by
  intro pins s σ H vs us Q I r h
  obtain ⟨a, ns, rfl, hs, q⟩ := h
  rcases hs with hs | hs
  · exact cr_sum hc pins s σ H _ us Q I r ⟨a, ns, rfl, hs, q⟩
  · obtain ⟨its, rv, hl, _⟩ := I.tuple hs
    rw [Vals.ref1 r]
    exact sum_tupG (I.ok.hd hc) hl rv.ints fun h' tk t' hk => ⟨.int _, H, I.kept hk, ⟨_, rfl⟩, q⟩
theorem EW.sum (C : Ctx X k) (h : EW X e ρ fun x ρ1 => sumR ρ1 x fun z => Q z ρ1) (hg : Gl X "sum" := by rfl) (he : starEach [e] X.env = (false, eval e X.env) :: starEach [] X.env := by rfl) (hpl : (backTo pos (starEach [] X.env)).any (·.1) = false := by rfl) : EW X (.Call (.Name "sum" p) [e] [] pos) ρ Q :=
  EW.b1 (cr_sumA C.calm) (fun σ H0 H ρ x v q R E V ⟨ns, hd, t⟩ kk => by
    obtain ⟨m, xs, rfl, r, rp⟩ := seqA_ok E V hd
    obtain rfl := rp.ints
    exact ⟨m, ns, rfl, r, kk _ H _ (Pex.refl E) (vdat (.int _)) t⟩) C.blt.sum (by decide +kernel) h hg (by decide) (by decide) he hpl
end
end AW

/-! AW7: stores, statements, targets. -/
namespace AW
open PySem PySem.Spec PyProof.Rows L2

/-! ### stores -/
def pinB (ρ : Nv) (i : Nat) : Bool := match ρ[i]? with
  | some (.hol true _) => true
  | _ => false
theorem not_pin {ρ : Nv} {i : Nat} (h : pinB ρ i = false) {ds : List PyData} : ρ[i]? ≠ some (.hol true ds) := fun e => by simp [pinB, e] at h
section
variable {K : PySem.W.Frag} {H H1 : Hp} {ρ ρ1 : Nv} {σ : L2.St} {i : Nat} {v : V} {s : SV}
theorem get_set {α : Type} {l : List α} {i j : Nat} {x y : α} (h : (l.set i x)[j]? = some y) : (j = i ∧ x = y ∧ i < l.length) ∨ (j ≠ i ∧ l[j]? = some y) := by
  by_cases e : j = i
  · subst e
    have hl : j < l.length := by
      have := (List.getElem?_eq_some_iff.mp h).1
      simpa using this
    rw [List.getElem?_set_self hl] at h
    exact .inl ⟨rfl, Option.some.inj h, hl⟩
  · rw [List.getElem?_set_ne (Ne.symm e)] at h
    exact .inr ⟨e, h⟩
theorem pst_asg (E : NvOk K H σ ρ) (P : Pex K H ρ σ H1 ρ1) (np : pinB ρ1 i = false) (so : SOk K H1 s (some v)) (hs : ∀ p ds, s = .hol p ds → p = false ∧ ∃ a, v = .ref a ∧ H a = none) : Pst K H ρ σ H1 (ρ1.set i s) (σ.set i (some v)) where
  kp := P.kp
  th := P.th
  mn := fun b ⟨j, p, ds, h, e⟩ => by
    rcases get_set h with ⟨rfl, rfl, hl⟩ | ⟨hj, h⟩
    · obtain ⟨_, a, rfl, n⟩ := hs p ds rfl
      rw [List.getElem?_set_self (by rw [← P.ok.len]; exact hl)] at e
      cases e
      exact .inr n
    · rw [List.getElem?_set_ne (Ne.symm hj)] at e
      exact .inl (P.mn ⟨j, p, ds, h, e⟩)
  pn := fun j ds h => by
    obtain ⟨es, h1⟩ := P.hs j true ds h
    have hj : i ≠ j := fun e => by subst e; exact not_pin np h1
    exact ⟨⟨es, by rw [List.getElem?_set_ne hj]; exact h1⟩, by rw [List.getElem?_set_ne hj]⟩
  ok := {
    len := by simp [P.ok.len]
    get := fun j s' h => by
      rcases get_set h with ⟨rfl, rfl, hl⟩ | ⟨hj, h⟩
      · exact ⟨some v, by rw [List.getElem?_set_self (by rw [← P.ok.len]; exact hl)], so⟩
      · obtain ⟨w, e, q⟩ := P.ok.get j s' h
        exact ⟨w, by rw [List.getElem?_set_ne (Ne.symm hj)]; exact e, q⟩
    sep := fun j k a p q ds es hne h1 h2 e1 e2 => by
      rcases get_set h1 with ⟨rfl, rfl, hl⟩ | ⟨hj, g1⟩
      · obtain ⟨_, a', rfl, n⟩ := hs p ds rfl
        rw [List.getElem?_set_self (by rw [← P.ok.len]; exact hl)] at e1
        cases e1
        rcases get_set h2 with ⟨rfl, _, _⟩ | ⟨hk, g2⟩
        · exact hne rfl
        · rw [List.getElem?_set_ne (Ne.symm hk)] at e2
          exact upd_mine E P n ⟨k, q, es, g2, e2⟩
      · rw [List.getElem?_set_ne (Ne.symm hj)] at e1
        rcases get_set h2 with ⟨rfl, rfl, hl⟩ | ⟨hk, g2⟩
        · obtain ⟨_, a', rfl, n⟩ := hs q es rfl
          rw [List.getElem?_set_self (by rw [← P.ok.len]; exact hl)] at e2
          cases e2
          exact upd_mine E P n ⟨j, p, ds, g1, e1⟩
        · rw [List.getElem?_set_ne (Ne.symm hk)] at e2
          exact P.ok.sep j k a p q ds es hne g1 g2 e1 e2 }
/-- a list of ours is given up: its slot is no one's -/
theorem pex_mut {p : Bool} {ds es : List PyData} {a : Addr} {vs : List V} (E : NvOk K H σ ρ) (h : ρ[i]? = some (.hol p ds)) (e : σ[i]? = some (some (.ref a))) (r : RpAll K H es vs) : Pex K H ρ σ (upd H a (.lst vs)) (ρ.set i (.hol p es)) := by
  obtain ⟨a', ws, e', q, _⟩ := E.hol h
  rw [e] at e'
  cases e'
  have st : Stb H (upd H a (.lst vs)) := fun b o im hb => by rw [upd_ne (fun z => by rw [z, q] at hb; cases hb; exact im)]; exact hb
  have hl := get_lt h
  refine ⟨fun b o hb nm => ?_, fun b o hb => ?_, fun j p' ds' hj => ?_, fun j p' ds' hj => ?_, ⟨by simp [E.len], fun j s hj => ?_, fun j k b p1 p2 ds1 ds2 hne h1 h2 e1 e2 => ?_⟩⟩
  · rw [upd_ne (fun z => nm (by subst z; exact ⟨i, p, ds, h, e⟩))]; exact hb
  · by_cases z : b = a
    · subst z; exact ⟨_, upd_same⟩
    · exact ⟨o, by rw [upd_ne z]; exact hb⟩
  · rcases get_set hj with ⟨rfl, z, _⟩ | ⟨_, hj⟩
    · cases z; exact ⟨ds, h⟩
    · exact ⟨ds', hj⟩
  · by_cases z : j = i
    · subst z
      rw [h] at hj
      cases hj
      exact ⟨es, by rw [List.getElem?_set_self hl]⟩
    · exact ⟨ds', by rw [List.getElem?_set_ne (Ne.symm z)]; exact hj⟩
  · rcases get_set hj with ⟨rfl, rfl, _⟩ | ⟨hne, hj⟩
    · exact ⟨_, e, a, vs, rfl, upd_same, RpAll.mono st _ _ r⟩
    · obtain ⟨w, e2, so⟩ := E.get j s hj
      refine ⟨w, e2, ?_⟩
      cases s with
      | un => trivial
      | dat d => obtain ⟨v, e3, r3⟩ := so; exact ⟨v, e3, Rp.mono st _ _ r3⟩
      | hol p3 ds3 =>
        obtain ⟨b, ws3, rfl, q3, r3⟩ := so
        refine ⟨b, ws3, rfl, ?_, RpAll.mono st _ _ r3⟩
        rw [upd_ne (fun z => by subst z; exact E.sep j i b _ _ _ _ hne hj h e2 e)]
        exact q3
  · rcases get_set h1 with ⟨rfl, z1, _⟩ | ⟨n1, g1⟩
    · cases z1
      rcases get_set h2 with ⟨rfl, _, _⟩ | ⟨n2, g2⟩
      · exact hne rfl
      · exact E.sep _ _ b _ _ _ _ hne h g2 e1 e2
    · rcases get_set h2 with ⟨rfl, z2, _⟩ | ⟨n2, g2⟩
      · cases z2
        exact E.sep _ _ b _ _ _ _ hne g1 h e1 e2
      · exact E.sep _ _ b _ _ _ _ hne g1 g2 e1 e2
end

/-! ### one statement, several -/
def tS1 (X : Cx) (st : Stmt) : TS := fun D σ H => ∀ (pins : List (Addr × Obj)) (s : Shared), L2.Inv X pins σ H s → wpAny (model X.prog X.w) X.A (exec st X.env) (SP X pins D) X.xe s
theorem ps_W {X : Cx} {st : Stmt} : PS X st (tS1 X st) := ⟨fun pins s _ _ _ I h => h pins s I⟩
def S1 (X : Cx) (st : Stmt) (ρ : Nv) (E : AEnds) : Prop := ∀ (σ : L2.St) (H : Hp) (D : Ends), NvOk X.K H σ ρ →
  (∀ σ' H' ρ', Pst X.K H ρ σ H' ρ' σ' → E.nx ρ' → D.nx σ' H') → (∀ v σ' H' x ρ', Pst X.K H ρ σ H' ρ' σ' → VOk X.K H H' ρ' σ' x v → E.rt x ρ' → D.rt v H') →
  (∀ σ' H' ρ', Pst X.K H ρ σ H' ρ' σ' → E.bk ρ' → D.bk σ' H') → (∀ σ' H' ρ', Pst X.K H ρ σ H' ρ' σ' → E.ct ρ' → D.ct σ' H') → tS1 X st D σ H
section
variable {X : Cx} {st : Stmt} {sts bd od : List Stmt} {e a b c : Expr} {es : List Expr} {ρ : Nv} {E : AEnds} {pos p p2 pos' : Pos} {k : Nat}
theorem VOk.back' {K : PySem.W.Frag} {H0 H1 H : Hp} {ρ : Nv} {σ : L2.St} {x : AV} {v : V} (hf : ∀ a, H1 a = none → H0 a = none) (h : VOk K H1 H ρ σ x v) : VOk K H0 H ρ σ x v := h.back hf
theorem SW.nil (h : E.nx ρ) : SW X [] ρ E := fun σ H D Ev k1 k2 k3 k4 pins s I => pss_nil.run pins s σ H D I (k1 σ H ρ (Pst.refl Ev) h)
theorem SW.cons (h : S1 X st ρ { E with nx := fun ρ' => SW X sts ρ' E }) : SW X (st :: sts) ρ E := fun σ H D Ev k1 k2 k3 k4 pins s I => by
  refine (pss_cons ps_W pss_W).run pins s σ H D I (h σ H _ Ev (fun σ' H' ρ' P q => ?_) k2 k3 k4)
  exact q σ' H' D P.ok (fun σ2 H2 ρ2 P2 q2 => k1 _ _ _ (P.trans P2) q2) (fun v σ2 H2 x ρ2 P2 V q2 => k2 v σ2 H2 x ρ2 (P.trans P2) (V.back fun a n => P.free n) q2)
    (fun σ2 H2 ρ2 P2 q2 => k3 _ _ _ (P.trans P2) q2) (fun σ2 H2 ρ2 P2 q2 => k4 _ _ _ (P.trans P2) q2)
/-- the rest from what is known behind the first -/
theorem SW.cut (Mid : Nv → Prop) (h : S1 X st ρ { E with nx := Mid }) (h2 : ∀ ρ', Mid ρ' → SW X sts ρ' E) : SW X (st :: sts) ρ E := SW.cons fun σ H D Ev k1 k2 k3 k4 => h σ H D Ev (fun σ' H' ρ' P q => k1 σ' H' ρ' P (h2 ρ' q)) k2 k3 k4
theorem S1.imp {E' : AEnds} (h : S1 X st ρ E) (h1 : ∀ ρ', E.nx ρ' → E'.nx ρ') (h2 : ∀ x ρ', E.rt x ρ' → E'.rt x ρ') (h3 : ∀ ρ', E.bk ρ' → E'.bk ρ') (h4 : ∀ ρ', E.ct ρ' → E'.ct ρ') : S1 X st ρ E' := fun σ H D Ev k1 k2 k3 k4 =>
  h σ H D Ev (fun σ' H' ρ' P q => k1 σ' H' ρ' P (h1 _ q)) (fun v σ' H' x ρ' P V q => k2 v σ' H' x ρ' P V (h2 _ _ q)) (fun σ' H' ρ' P q => k3 σ' H' ρ' P (h3 _ q)) (fun σ' H' ρ' P q => k4 σ' H' ρ' P (h4 _ q))
theorem S1.pass (h : E.nx ρ) : S1 X (.Pass pos) ρ E := fun σ H D Ev k1 k2 k3 k4 pins s I => ps_pass.run pins s σ H D I (k1 σ H ρ (Pst.refl Ev) h)
theorem S1.brk (h : E.bk ρ) : S1 X (.Break pos) ρ E := fun σ H D Ev k1 k2 k3 k4 pins s I => ps_break.run pins s σ H D I (k3 σ H ρ (Pst.refl Ev) h)
theorem S1.cont (h : E.ct ρ) : S1 X (.Continue pos) ρ E := fun σ H D Ev k1 k2 k3 k4 pins s I => ps_continue.run pins s σ H D I (k4 σ H ρ (Pst.refl Ev) h)
theorem S1.expr (h : EW X e ρ fun _ ρ1 => E.nx ρ1) (hs : swapsWith e Option.none pos.line X.env = pure false := by rfl) : S1 X (.Expr e pos) ρ E := fun σ H D Ev k1 k2 k3 k4 pins s I =>
  (ps_expr pe_W hs).run pins s σ H D I (h σ H _ Ev fun v H' x ρ' P V q => k1 σ H' ρ' P.pst q)
theorem S1.ret (h : EW X e ρ E.rt) : S1 X (.Return (some e) pos) ρ E := fun σ H D Ev k1 k2 k3 k4 pins s I =>
  (ps_ret pe_W).run pins s σ H D I (h σ H _ Ev fun v H' x ρ' P V q => k2 v σ H' x ρ' P.pst V q)
theorem S1.retN (h : E.rt (.dat .none) ρ) : S1 X (.Return Option.none pos) ρ E := fun σ H D Ev k1 k2 k3 k4 pins s I =>
  ps_retN.run pins s σ H D I (k2 .non σ H _ ρ (Pst.refl Ev) (vdat .none) h)
theorem S1.ite (h : TW X c ρ fun t ρ1 => if t = true then SW X bd ρ1 E else SW X od ρ1 E) : S1 X (.If c bd od pos) ρ E := fun σ H D Ev k1 k2 k3 k4 pins s I => by
  refine (ps_if pt_W pss_W pss_W).run pins s σ H D I (h σ H _ Ev fun t H1 ρ1 P q => ?_)
  have go : ∀ {sts : List Stmt}, SW X sts ρ1 E → tSW X sts D σ H1 := fun q => q σ H1 D P.ok (fun σ2 H2 ρ2 P2 q2 => k1 _ _ _ (P.pst.trans P2) q2) (fun v σ2 H2 x ρ2 P2 V q2 => k2 v σ2 H2 x ρ2 (P.pst.trans P2) (V.back fun a n => P.free n) q2)
    (fun σ2 H2 ρ2 P2 q2 => k3 _ _ _ (P.pst.trans P2) q2) (fun σ2 H2 ρ2 P2 q2 => k4 _ _ _ (P.pst.trans P2) q2)
  cases t with
  | true => exact if_pos rfl ▸ go (by simpa using q)
  | false => exact (if_neg Bool.false_ne_true).symm ▸ go (by simpa using q)

/-! ### x = e -/
def asgR (i : Nat) (ρ : Nv) (x : AV) (q : Nv → Prop) : Prop := pinB ρ i = false ∧ match x with
  | .dat d => q (ρ.set i (.dat d))
  | .frs ds => q (ρ.set i (.hol false ds))
  | .own j => ∃ ds, ρ[j]? = some (.hol false ds) ∧ i ≠ j ∧ q ((ρ.set j .un).set i (.hol false ds))
theorem pst_own {K : PySem.W.Frag} {H H1 : Hp} {ρ ρ1 : Nv} {σ : L2.St} {i j : Nat} {v : V} {ds : List PyData} (E : NvOk K H σ ρ) (P : Pex K H ρ σ H1 ρ1) (np : pinB ρ1 i = false) (h : ρ1[j]? = some (.hol false ds)) (hij : i ≠ j) (e : σ[j]? = some (some v)) : Pst K H ρ σ H1 ((ρ1.set j .un).set i (.hol false ds)) (σ.set i (some v)) := by
  obtain ⟨a, vs, e', q, r⟩ := P.ok.hol h
  rw [e] at e'
  cases e'
  -- where a list stands now, one of ours stood
  have src : ∀ {l : Nat} {p : Bool} {es : List PyData}, ((ρ1.set j .un).set i (.hol false ds))[l]? = some (.hol p es) → ∃ l', ρ1[l']? = some (.hol p es) ∧ (σ.set i (some (V.ref a)))[l]? = σ[l']? ∧ (l = i ∧ l' = j ∨ l ≠ i ∧ l' = l ∧ l ≠ j) := by
    intro l p es hl
    rcases get_set hl with ⟨rfl, z, hb⟩ | ⟨n1, hl⟩
    · cases z
      exact ⟨j, h, by rw [List.getElem?_set_self (by rw [← P.ok.len]; simpa using hb), e], .inl ⟨rfl, rfl⟩⟩
    · rcases get_set hl with ⟨rfl, z, _⟩ | ⟨n2, hl⟩
      · cases z
      · exact ⟨l, hl, by rw [List.getElem?_set_ne (Ne.symm n1)], .inr ⟨n1, rfl, n2⟩⟩
  refine ⟨P.kp, P.th, fun b ⟨l, p, es, hl, el⟩ => ?_, fun l es hl => ?_, ⟨by simp [P.ok.len], fun l s hl => ?_, fun l m b p1 p2 ds1 ds2 hne h1 h2 e1 e2 => ?_⟩⟩
  · obtain ⟨l', z1, z2, _⟩ := src hl
    exact .inl (P.mn ⟨l', p, es, z1, by rw [← z2]; exact el⟩)
  · obtain ⟨fs, h1⟩ := P.hs l true es hl
    have n1 : i ≠ l := fun z => by subst z; exact not_pin np h1
    have n2 : j ≠ l := fun z => by subst z; rw [h] at h1; cases h1
    exact ⟨⟨fs, by rw [List.getElem?_set_ne n1, List.getElem?_set_ne n2]; exact h1⟩, by rw [List.getElem?_set_ne n1]⟩
  · rcases get_set hl with ⟨rfl, z, hb⟩ | ⟨n1, hl⟩
    · subst z
      exact ⟨_, by rw [List.getElem?_set_self (by rw [← P.ok.len]; simpa using hb)], a, vs, rfl, q, r⟩
    · rcases get_set hl with ⟨rfl, z, hb⟩ | ⟨n2, hl⟩
      · subst z
        exact ⟨_, by rw [List.getElem?_set_ne (Ne.symm n1)]; exact e, trivial⟩
      · obtain ⟨w, el, so⟩ := P.ok.get l s hl
        exact ⟨w, by rw [List.getElem?_set_ne (Ne.symm n1)]; exact el, so⟩
  · obtain ⟨l1, z1, y1, c1⟩ := src h1
    obtain ⟨l2, z2, y2, c2⟩ := src h2
    refine P.ok.sep l1 l2 b p1 p2 ds1 ds2 (fun z => ?_) z1 z2 (by rw [← y1]; exact e1) (by rw [← y2]; exact e2)
    rcases c1 with ⟨rfl, rfl⟩ | ⟨_, rfl, n1⟩
    · rcases c2 with ⟨rfl, _⟩ | ⟨_, rfl, n2⟩
      · exact hne rfl
      · exact n2 z.symm
    · rcases c2 with ⟨rfl, rfl⟩ | ⟨_, rfl, n2⟩
      · exact n1 z
      · exact hne z
theorem asg_run {K : PySem.W.Frag} {H H1 : Hp} {ρ ρ1 : Nv} {σ : L2.St} {i : Nat} {x : AV} {v : V} {q : Nv → Prop} (Ev : NvOk K H σ ρ) (P : Pex K H ρ σ H1 ρ1) (V : VOk K H H1 ρ1 σ x v) (h : asgR i ρ1 x q) : ∃ ρ', Pst K H ρ σ H1 ρ' (σ.set i (some v)) ∧ q ρ' := by
  obtain ⟨np, h⟩ := h
  cases x with
  | dat d => exact ⟨_, pst_asg (s := .dat d) Ev P np ⟨v, rfl, V⟩ (fun _ _ z => by cases z), h⟩
  | frs ds =>
    obtain ⟨a, vs, rfl, n, e, r⟩ := V
    exact ⟨_, pst_asg (s := .hol false ds) Ev P np ⟨a, vs, rfl, e, r⟩ (fun p ds z => by cases z; exact ⟨rfl, a, rfl, n⟩), h⟩
  | own j =>
    obtain ⟨ds, h1, hij, h⟩ := h
    exact ⟨_, pst_own Ev P np h1 hij V.2, h⟩
theorem S1.asg {i : Nat} {x : Str} (C : Ctx X k) (h : EW X e ρ fun y ρ1 => asgR i ρ1 y E.nx) (hi : X.N[i]? = some x := by rfl) (hx : Loc X.env.scope x := by first | exact .inl rfl | exact .inr rfl) (hs : swapsWith e (some (.Name x pos')) pos.line X.env = pure false := by rfl)
    (hf : X.fn x = true ∨ X.env.scope.names.lookup x = some .local := by first | exact .inl rfl | exact .inr rfl) : S1 X (.Assign [.Name x pos'] e pos) ρ E := fun σ H D Ev k1 k2 k3 k4 pins s I => by
  refine (ps_set C.nd hi hx pe_W hs hf).run pins s σ H D I (h σ H _ Ev fun v H1 y ρ1 P V q => ?_)
  obtain ⟨ρ', P', q'⟩ := asg_run Ev P V q
  exact k1 _ _ _ P' q'
/-- a list that is not changed any more becomes data -/
theorem SW.demote {i : Nat} {ds : List PyData} (h : ρ[i]? = some (.hol false ds)) (hq : SW X sts (ρ.set i (.dat (.list ds))) E) : SW X sts ρ E := fun σ H D Ev k1 k2 k3 k4 pins s I => by
  obtain ⟨a, vs, e, q, r⟩ := Ev.hol h
  obtain ⟨od, I2⟩ := I.lock q trivial
  have st : Stb H (upd H a (.frz od (.lst vs))) := fun b o im hb => by rw [upd_ne (fun z => by rw [z, q] at hb; cases hb; exact im)]; exact hb
  have hl := get_lt h
  have P : Pst X.K H ρ σ (upd H a (.frz od (.lst vs))) (ρ.set i (.dat (.list ds))) σ := by
    refine ⟨fun b o hb nm => ?_, fun b o hb => ?_, fun b ⟨j, p, es, hj, ej⟩ => ?_, fun j es hj => ?_, ⟨by simp [Ev.len], fun j s' hj => ?_, fun j l b p1 p2 ds1 ds2 hne h1 h2 e1 e2 => ?_⟩⟩
    · rw [upd_ne (fun z => nm (by subst z; exact ⟨i, false, ds, h, e⟩))]; exact hb
    · by_cases z : b = a
      · subst z; exact ⟨_, upd_same⟩
      · exact ⟨o, by rw [upd_ne z]; exact hb⟩
    · rcases get_set hj with ⟨_, z, _⟩ | ⟨_, hj⟩
      · cases z
      · exact .inl ⟨j, p, es, hj, ej⟩
    · have hne : i ≠ j := fun z => by subst z; rw [h] at hj; cases hj
      exact ⟨⟨es, by rw [List.getElem?_set_ne hne]; exact hj⟩, rfl⟩
    · rcases get_set hj with ⟨rfl, rfl, _⟩ | ⟨hne, hj⟩
      · exact ⟨_, e, _, rfl, .list (.inl ⟨od, upd_same⟩) (RpAll.mono st _ _ r)⟩
      · obtain ⟨w, e2, so⟩ := Ev.get j s' hj
        refine ⟨w, e2, ?_⟩
        cases s' with
        | un => trivial
        | dat d => obtain ⟨v, e3, r3⟩ := so; exact ⟨v, e3, Rp.mono st _ _ r3⟩
        | hol p3 ds3 =>
          obtain ⟨b, ws3, rfl, q3, r3⟩ := so
          refine ⟨b, ws3, rfl, ?_, RpAll.mono st _ _ r3⟩
          rw [upd_ne (fun z => by subst z; exact Ev.sep j i b _ _ _ _ hne hj h e2 e)]
          exact q3
    · rcases get_set h1 with ⟨_, z, _⟩ | ⟨_, h1⟩
      · cases z
      · rcases get_set h2 with ⟨_, z, _⟩ | ⟨_, h2⟩
        · cases z
        · exact Ev.sep _ _ b _ _ _ _ hne h1 h2 e1 e2
  exact hq σ _ D P.ok (fun σ2 H2 ρ2 P2 q2 => k1 _ _ _ (P.trans P2) q2) (fun v σ2 H2 x ρ2 P2 V q2 => k2 v σ2 H2 x ρ2 (P.trans P2) (V.back fun a n => P.free n) q2) (fun σ2 H2 ρ2 P2 q2 => k3 _ _ _ (P.trans P2) q2) (fun σ2 H2 ρ2 P2 q2 => k4 _ _ _ (P.trans P2) q2) pins s I2
end
end AW

/-! AW8: targets, what is walked, for, while, comprehensions. -/
namespace AW
open PySem PySem.Spec PyProof.Rows L2

def holB : Option SV → Bool
  | some (.hol _ _) => true
  | _ => false
/-! ### targets: data to names; is: the slots that are stored -/
/-- the slots is hold data now, the others are as they were -/
def Only (is : List Nat) (ρ ρ' : Nv) : Prop := ∀ j, (j ∉ is → ρ'[j]? = ρ[j]?) ∧ (j ∈ is → holB ρ'[j]? = false)
def GW (X : Cx) (tg : Expr) (d : PyData) (ρ : Nv) (is : List Nat) (Q : Nv → Prop) : Prop := ∀ (σ : L2.St) (H : Hp) (v : V) (R : L2.St → Hp → Prop), NvOk X.K H σ ρ → Rp X.K H d v →
  (∀ σ' ρ', Pst X.K H ρ σ H ρ' σ' → (∀ j, j ∉ is → σ'[j]? = σ[j]?) → σ'.length = σ.length → Only is ρ ρ' → Q ρ' → R σ' H) → tGW X tg v σ H R
def GWs (X : Cx) (tgs : List Expr) (ds : List PyData) (ρ : Nv) (is : List Nat) (Q : Nv → Prop) : Prop := ∀ (σ : L2.St) (H : Hp) (vs : List V) (R : L2.St → Hp → Prop), NvOk X.K H σ ρ → RpAll X.K H ds vs →
  (∀ σ' ρ', Pst X.K H ρ σ H ρ' σ' → (∀ j, j ∉ is → σ'[j]? = σ[j]?) → σ'.length = σ.length → Only is ρ ρ' → Q ρ' → R σ' H) → ∃ t, PGs X tgs t ∧ t vs σ H R
section
variable {X : Cx} {st : Stmt} {sts bd od : List Stmt} {e a b c tg iter elt : Expr} {es tgs ifs : List Expr} {ρ : Nv} {E : AEnds} {Q : QE} {pos p p2 p3 pos' : Pos} {k : Nat} {d : PyData} {ds : List PyData} {is js : List Nat} {QN : Nv → Prop}
theorem GW.name {i : Nat} {x : Str} (hN : X.N.Nodup) (q : pinB ρ i = false ∧ QN (ρ.set i (.dat d))) (hi : X.N[i]? = some x := by rfl) (hx : Loc X.env.scope x := by first | exact .inl rfl | exact .inr rfl)
    (hf : X.fn x = true ∨ X.env.scope.names.lookup x = some .local := by first | exact .inl rfl | exact .inr rfl) : GW X (.Name x pos) d ρ [i] QN := fun σ H v R Ev r k pins s u I ru => by
  refine (pg_name hN hi hx hf).run pins s σ H v u R I ru ?_
  exact k _ _ (pst_asg (s := .dat d) Ev (Pex.refl Ev) q.1 ⟨v, rfl, r⟩ (fun _ _ z => by cases z)) (fun j hj => by rw [List.getElem?_set_ne (fun z => hj (by simp [z]))]) (by simp) (fun j => ⟨fun hj => by rw [List.getElem?_set_ne (fun z => hj (by simp [z]))], fun hj => by
    obtain rfl : j = i := by simpa using hj
    cases e : (ρ.set j (.dat d))[j]? with
    | none => rfl
    | some s =>
      rcases get_set e with ⟨_, rfl, _⟩ | ⟨z, _⟩
      · rfl
      · exact (z rfl).elim⟩) q.2
theorem GWs.nil (q : QN ρ) : GWs X [] [] ρ [] QN := fun σ H vs R Ev r k => by
  cases r
  exact ⟨_, pgs_nil, rfl, k σ ρ (Pst.refl Ev) (fun _ _ => rfl) rfl (fun j => ⟨fun _ => rfl, fun hj => by simp at hj⟩) q⟩
theorem GWs.cons {tg : Expr} (h : GW X tg d ρ is fun ρ1 => GWs X tgs ds ρ1 js QN) (hs : (assignEach (tg :: tgs) X.env).map (·.2) = assign tg X.env :: (assignEach tgs X.env).map (·.2) := by rfl) : GWs X (tg :: tgs) (d :: ds) ρ (is ++ js) QN := fun σ H vs R Ev r k => by
  cases r with
  | cons r1 r2 =>
    -- the second part is read at the states that the first one comes to
    refine ⟨_, pgs_cons pg_W (u := fun vs' σ' H' Q' => ∀ (pins : List (Addr × Obj)) (s : Shared) (us : List Value), L2.Inv X pins σ' H' s → Vals vs' us → wpAny (model X.prog X.w) X.A (assignInOrder ((assignEach tgs X.env).map (·.2)) us) (fun _ s' => ∃ σ2 H2, L2.Inv X pins σ2 H2 s' ∧ Q' σ2 H2) X.xe s) ⟨fun pins s σ' H' vs' us Q' I rv h => h pins s us I rv⟩ hs, _, _, rfl, ?_⟩
    refine h σ H _ _ Ev r1 fun σ1 ρ1 P1 o1 l1 y1 q1 => ?_
    obtain ⟨t, ht, hq⟩ := q1 σ1 H _ R P1.ok (by exact r2) fun σ2 ρ2 P2 o2 l2 y2 q2 => k σ2 ρ2 (P1.trans P2) (fun j hj => by
      have hj' : j ∉ is ∧ j ∉ js := by simpa using hj
      rw [o2 j hj'.2, o1 j hj'.1]) (l2.trans l1) (fun j => ⟨fun hj => by
        have hj' : j ∉ is ∧ j ∉ js := by simpa using hj
        rw [(y2 j).1 hj'.2, (y1 j).1 hj'.1], fun hj => by
        by_cases h2 : j ∈ js
        · exact (y2 j).2 h2
        · have h1 : j ∈ is := (by simpa using hj : j ∈ is ∨ j ∈ js).resolve_right h2
          rw [(y2 j).1 h2]
          exact (y1 j).2 h1⟩) q2
    exact fun pins s us I rv => ht.run pins s σ1 H _ us R I rv hq
theorem GW.tup {n : Nat} {j : Nat} (C : Ctx X k) (q : ∃ ds, d = .tuple ds ∧ ds.length = n ∧ GWs X tgs ds ρ is QN) (hn : (assignEach tgs X.env).length = n := by rfl) (hst : (assignEach tgs X.env).findIdx? (·.1) = Option.none := by rfl) : GW X (.Tuple tgs j pos) d ρ is QN := fun σ H v R Ev r kk pins s u I ru => by
  obtain ⟨ds, rfl, hl, q⟩ := q
  cases r with
  | tuple r1 r2 =>
    obtain ⟨t, ht, hq⟩ := q σ H _ R Ev r2 kk
    exact (pg_tup C.calm ht hn hst).run pins s σ H _ u R I ru ⟨_, _, rfl, r1, by rw [← r2.length]; exact hl, hq⟩

/-! ### what is walked -/
def tIW (X : Cx) (tg iter : Expr) : TI := fun σ H R => ∀ (pins : List (Addr × Obj)) (s : Shared), L2.Inv X pins σ H s →
  wpAny (model X.prog X.w) X.A (eval iter X.env) (fun v s1 => wpAny (model X.prog X.w) X.A (pyIter v) (PIE X pins σ tg R) X.xe s1) X.xe s
theorem pi_W : PI X tg iter (tIW X tg iter) := ⟨fun pins s _ _ _ I h => h pins s I⟩
/-- J gives the data ds, whatever happens to what is not locked -/
def DIt (K : PySem.W.Frag) (H1 : Hp) (J : It) (ds : List PyData) : Prop := ∀ H, Stb H1 H → (∀ i, i < ds.length → J.go i H) ∧ J.stop ds.length H ∧
  ∀ i x H' d, J.yld i H x H' → ds[i]? = some d → Rp K H' d x ∧ (H' = H ∨ ∃ p o, H p = none ∧ H' = upd H p o)
def IW (X : Cx) (tg iter : Expr) (ρ : Nv) (Q : List PyData → Nv → Prop) : Prop := ∀ (σ : L2.St) (H : Hp) (R : It → Hp → Prop), NvOk X.K H σ ρ →
  (∀ J H' ds ρ', Pex X.K H ρ σ H' ρ' → DIt X.K H' J ds → Q ds ρ' → R J H') → tIW X tg iter σ H R
theorem dit_list {K : PySem.W.Frag} {H1 : Hp} {m : Addr} {xs : List V} (h : SqF K H1 m xs) (r : RpAll K H1 ds xs) : DIt K H1 (Itl K m) ds := fun H st => by
  have hm : SqL K H m xs := (st.lst h).sq
  refine ⟨fun i hi => ?_, ⟨xs, hm, by rw [r.length]; exact Nat.le_refl _⟩, fun i x H' d hy hd => ?_⟩
  · rw [r.length] at hi
    exact ⟨xs, xs[i], hm, List.getElem?_eq_getElem hi⟩
  · obtain ⟨rfl, hx⟩ := hy
    obtain ⟨v, hv, rv⟩ := r.get hd
    rw [hx xs hm] at hv
    cases hv
    exact ⟨Rp.mono st _ _ rv, .inl rfl⟩
theorem dit_tup {K : PySem.W.Frag} {H1 : Hp} {m : Addr} {xs : List V} (h : SqT K H1 m xs) (r : RpAll K H1 ds xs) : DIt K H1 (Itt K m) ds := fun H st => by
  have hm : SqT K H m xs := st.tup h
  refine ⟨fun i hi => ?_, ⟨xs, hm, by rw [r.length]; exact Nat.le_refl _⟩, fun i x H' d hy hd => ?_⟩
  · rw [r.length] at hi
    exact ⟨xs, xs[i], hm, List.getElem?_eq_getElem hi⟩
  · obtain ⟨rfl, hx⟩ := hy
    obtain ⟨v, hv, rv⟩ := r.get hd
    rw [hx xs hm] at hv
    cases hv
    exact ⟨Rp.mono st _ _ rv, .inl rfl⟩
/-- a list as data; a tuple -/
theorem IW.list {Q : List PyData → Nv → Prop} (h : EW X iter ρ fun x ρ1 => ∃ ds, asD x = some (.list ds) ∧ Q ds ρ1) : IW X tg iter ρ Q := fun σ H R Ev kk => by
  have h' : EWd X iter ρ fun d ρ1 => ∃ ds, d = .list ds ∧ Q ds ρ1 := EW.imp h fun x ρ1 ⟨ds, e, q⟩ => ⟨_, e, ds, rfl, q⟩
  intro pins s I
  refine (pi_list pe_W).run pins s σ H R I (EWd.run h' Ev fun v H1 d ρ1 P r ⟨ds, e, q⟩ => ?_)
  subst e
  cases r with
  | list e r => exact ⟨_, rfl, ⟨_, e.sq⟩, kk _ H1 ds ρ1 P (dit_list e r) q⟩
theorem IW.tup {Q : List PyData → Nv → Prop} (h : EW X iter ρ fun x ρ1 => ∃ ds, x = .dat (.tuple ds) ∧ Q ds ρ1) : IW X tg iter ρ Q := fun σ H R Ev kk => by
  intro pins s I
  refine (pi_tup pe_W).run pins s σ H R I (h σ H _ Ev fun v H1 x ρ1 P V ⟨ds, e, q⟩ => ?_)
  subst e
  cases V with
  | tuple e r => exact ⟨_, rfl, ⟨_, e⟩, kk _ H1 ds ρ1 P (dit_tup e r) q⟩
/-- range(n), range(a, b) -/
def rngD (lo : Int) (n : Nat) : List PyData := (List.range n).map fun (i : Nat) => PyData.int (lo + i)
theorem dit_range {K : PySem.W.Frag} {H1 : Hp} {lo : Int} {n : Nat} : DIt K H1 (Itr lo n) (rngD lo n) := fun H st => by
  refine ⟨fun i hi => (show i < n by simpa [rngD] using hi), by show n ≤ (rngD lo n).length; simp [rngD], fun i x H' d hy hd => ?_⟩
  obtain ⟨rfl, rfl⟩ := hy
  have : d = PyData.int (lo + i) := by
    unfold rngD at hd
    rw [List.getElem?_map] at hd
    cases e : (List.range n)[i]? with
    | none => rw [e] at hd; simp at hd
    | some j =>
      rw [e] at hd
      obtain ⟨_, z⟩ := List.getElem?_eq_some_iff.mp e
      simp at z
      subst z
      simpa using hd.symm
  subst this
  exact ⟨.int _, .inl rfl⟩
theorem IW.range1 {Q : List PyData → Nv → Prop} (C : Ctx X k) (h : EW X a ρ fun x ρ1 => ∃ n : Int, x = .dat (.int n) ∧ -(2 ^ 62) ≤ n ∧ n < 2 ^ 62 ∧ Q (rngD 0 n.toNat) ρ1) (hg : Gl X "range" := by rfl) (hs : starEach [a] X.env = [(false, eval a X.env)] := by rfl) : IW X tg (.Call (.Name "range" p) [a] [] pos) ρ Q := fun σ H R Ev kk pins s I => by
  refine (pi_range1 hg C.blt.range (pa_cons pe_W pa_nil (by rw [hs]; rfl)) hs).run pins s σ H R I (h σ H _ Ev fun v H1 x ρ1 P V ⟨n, e, b1, b2, q⟩ => ?_)
  subst e
  obtain rfl := Rp.int_inv V
  exact ⟨n, rfl, b1, b2, kk _ H1 _ ρ1 P dit_range q⟩
theorem IW.range2 {Q : List PyData → Nv → Prop} (C : Ctx X k) (h : EW X a ρ fun x ρ1 => EW X b ρ1 fun y ρ2 => ∃ m n : Int, x = .dat (.int m) ∧ y = .dat (.int n) ∧ (-(2 ^ 62) ≤ m ∧ m < 2 ^ 62 ∧ -(2 ^ 62) ≤ n ∧ n < 2 ^ 62) ∧ Q (rngD m (n - m).toNat) ρ2) (hg : Gl X "range" := by rfl)
    (hs : starEach [a, b] X.env = [(false, eval a X.env), (false, eval b X.env)] := by rfl) (hs2 : starEach [b] X.env = [(false, eval b X.env)] := by rfl) : IW X tg (.Call (.Name "range" p) [a, b] [] pos) ρ Q := fun σ H R Ev kk pins s I => by
  refine (pi_range2 hg C.blt.range (pa_cons pe_W (pa_cons pe_W pa_nil (by rw [hs2]; rfl)) (by rw [hs, hs2])) hs hs2).run pins s σ H R I (h σ H _ Ev fun v H1 x ρ1 P V q1 => q1 σ H1 _ P.ok fun u H2 y ρ2 P2 V2 ⟨m, n, e1, e2, b, q⟩ => ?_)
  subst e1
  subst e2
  obtain rfl := Rp.int_inv V
  obtain rfl := Rp.int_inv V2
  exact ⟨m, n, rfl, b, kk _ H2 _ ρ2 (P.trans P2) dit_range q⟩

/-! ### for -/
theorem Pst.new {K : PySem.W.Frag} {H : Hp} {σ : L2.St} {p : Addr} {o : HO} (Ev : NvOk K H σ ρ) (n : H p = none) : Pst K H ρ σ (upd H p o) ρ σ := (Pex.new Ev n).pst
/-- R: what holds of the slots ahead of each turn -/
theorem S1.for (C : Ctx X k) (h : IW X tg iter ρ fun ds ρ1 => ∃ R : Nat → Nv → Prop, R 0 ρ1 ∧ (∀ i d ρ2, ds[i]? = some d → R i ρ2 → GW X tg d ρ2 is fun ρ3 => SW X bd ρ3 { E with nx := R (i + 1), ct := R (i + 1), bk := E.nx }) ∧ ∀ ρ2, R ds.length ρ2 → E.nx ρ2)
    (hp : PassesOwn (model X.prog X.w) X.A X.env X.xe) (hs : ∀ x, foldedSetIterable iter X.env x = pure x := by intro _; rfl) : S1 X (.For tg iter bd [] pos) ρ E := fun σ H D Ev k1 k2 k3 k4 pins s I => by
  refine (ps_for hp C.calm pi_W pg_W pss_W hs).run pins s σ H D I (h σ H _ Ev fun J H1 ds ρ1 P1 dj ⟨R, r0, rs, rd⟩ => ?_)
  have E1 := P1.ok
  refine ⟨fun i m σk Hk => i ≤ ds.length ∧ m = ds.length - i ∧ ∃ ρk, Pst X.K H1 ρ1 σ Hk ρk σk ∧ R i ρk, ⟨ds.length, Nat.zero_le _, rfl, ρ1, Pst.refl E1, r0⟩, fun i m σk Hk ⟨hi, hm, ρk, Pk, rk⟩ => ?_⟩
  obtain ⟨g1, g2, g3⟩ := dj Hk (Pk.stb E1)
  by_cases hl : i < ds.length
  · refine .inr ⟨g1 i hl, fun σ' H' => ∃ ρ', Pst X.K H1 ρ1 σ H' ρ' σ' ∧ R (i + 1) ρ', fun σ' H' ⟨ρ', P', r'⟩ => ⟨ds.length - (i + 1), by omega, hl, rfl, ρ', P', r'⟩, fun x H' hy => ?_⟩
    obtain ⟨rx, ho⟩ := g3 i x H' ds[i] hy (List.getElem?_eq_getElem hl)
    have P' : Pst X.K H1 ρ1 σ H' ρk σk := by
      rcases ho with rfl | ⟨p, o, n, rfl⟩
      · exact Pk
      · exact Pk.trans (Pst.new Pk.ok n)
    refine rs i _ ρk (List.getElem?_eq_getElem hl) rk σk H' x _ P'.ok rx fun σ2 ρ2 P2 _ _ _ q2 => ?_
    have PP := P'.trans P2
    have PA := P1.pst.trans PP
    refine q2 σ2 H' _ PP.ok (fun σ3 H3 ρ3 P3 q3 => ⟨ρ3, PP.trans P3, q3⟩) (fun v σ3 H3 x3 ρ3 P3 V3 q3 => k2 v σ3 H3 x3 ρ3 (PA.trans P3) (V3.back fun a n => PA.free n) q3) (fun σ3 H3 ρ3 P3 q3 => k1 σ3 H3 ρ3 (PA.trans P3) q3) (fun σ3 H3 ρ3 P3 q3 => ⟨ρ3, PP.trans P3, q3⟩)
  · have he : i = ds.length := Nat.le_antisymm hi (Nat.le_of_not_lt hl)
    subst he
    exact .inl ⟨g2, k1 σk Hk ρk (P1.pst.trans Pk) (rd ρk rk)⟩
/-- W: the invariant with its measure -/
theorem S1.while (C : Ctx X k) (W : Nat → Nv → Prop) (h0 : ∃ m, W m ρ) (h : ∀ m ρ1, W m ρ1 → TW X c ρ1 fun t ρ2 => if t = true then SW X bd ρ2 { E with nx := fun ρ3 => ∃ m', m' < m ∧ W m' ρ3, ct := fun ρ3 => ∃ m', m' < m ∧ W m' ρ3, bk := E.nx } else E.nx ρ2)
    (hp : PassesOwn (model X.prog X.w) X.A X.env X.xe) : S1 X (.While c bd [] pos) ρ E := fun σ H D Ev k1 k2 k3 k4 pins s I => by
  refine (ps_while hp pt_W pss_W).run pins s σ H D I ⟨fun m σk Hk => ∃ ρk, Pst X.K H ρ σ Hk ρk σk ∧ W m ρk, ?_, fun m σk Hk ⟨ρk, Pk, wk⟩ => ?_⟩
  · obtain ⟨m, w⟩ := h0
    exact ⟨m, ρ, Pst.refl Ev, w⟩
  · refine h m ρk wk σk Hk _ Pk.ok fun t H1 ρ1 P1 q1 => ?_
    have PA := Pk.trans P1.pst
    cases t with
    | true =>
      refine if_pos rfl ▸ ⟨fun σ' H' => ∃ m', m' < m ∧ ∃ ρ', Pst X.K H ρ σ H' ρ' σ' ∧ W m' ρ', fun σ' H' z => z, ?_⟩
      simp only [↓reduceIte] at q1
      exact q1 σk H1 _ P1.ok (fun σ3 H3 ρ3 P3 ⟨m', l, w⟩ => ⟨m', l, ρ3, PA.trans P3, w⟩) (fun v σ3 H3 x3 ρ3 P3 V3 q3 => k2 v σ3 H3 x3 ρ3 (PA.trans P3) (V3.back fun a n => PA.free n) q3) (fun σ3 H3 ρ3 P3 q3 => k1 σ3 H3 ρ3 (PA.trans P3) q3) (fun σ3 H3 ρ3 P3 ⟨m', l, w⟩ => ⟨m', l, ρ3, PA.trans P3, w⟩)
    | false => exact (if_neg Bool.false_ne_true).symm ▸ k1 σk H1 ρ1 PA (by simpa using q1)
end
end AW

/-! AW9: comprehensions. -/
namespace AW
open PySem PySem.Spec PyProof.Rows L2

/-! ### the slots within a block -/
def wipeN (ρ : Nv) : List Nat → Nv
  | [] => ρ
  | j :: vs => (wipeN ρ vs).set j .un
/-- the block's own slots as they stood, the others as the block leaves them -/
def restN (ρ0 ρ : Nv) : List Nat → Nv
  | [] => ρ
  | j :: vs => (restN ρ0 ρ vs).set j ((ρ0[j]?).getD .un)
def noHol (ρ : Nv) (vs : List Nat) : Bool := vs.all fun j => !holB ρ[j]?
section
variable {K : PySem.W.Frag} {H H1 : Hp} {ρ ρ0 ρ1 ρ2 ρ3 : Nv} {σ σ2 : L2.St} {vs : List Nat}
theorem wipeN_length : ∀ vs : List Nat, (wipeN ρ vs).length = ρ.length
  | [] => rfl
  | j :: vs => by simp [wipeN, wipeN_length vs]
theorem restN_length : ∀ vs : List Nat, (restN ρ0 ρ vs).length = ρ.length
  | [] => rfl
  | j :: vs => by simp [restN, restN_length vs]
theorem wipeN_get : ∀ {vs : List Nat} {i : Nat} {s : SV}, (wipeN ρ vs)[i]? = some s → (i ∈ vs ∧ s = .un) ∨ (i ∉ vs ∧ ρ[i]? = some s)
  | [], i, s, h => .inr ⟨by simp, h⟩
  | j :: vs, i, s, h => by
    simp only [wipeN] at h
    rcases get_set h with ⟨rfl, rfl, _⟩ | ⟨hne, h⟩
    · exact .inl ⟨List.mem_cons_self, rfl⟩
    · rcases wipeN_get h with ⟨hm, e⟩ | ⟨hm, e⟩
      · exact .inl ⟨List.mem_cons_of_mem _ hm, e⟩
      · exact .inr ⟨fun z => (List.mem_cons.mp z).elim hne hm, e⟩
theorem wipeN_out : ∀ {vs : List Nat} {i : Nat}, i ∉ vs → (wipeN ρ vs)[i]? = ρ[i]?
  | [], i, _ => rfl
  | j :: vs, i, h => by
    simp only [wipeN]
    rw [List.getElem?_set_ne (fun z => h (by rw [z]; exact List.mem_cons_self))]
    exact wipeN_out fun z => h (List.mem_cons_of_mem _ z)
theorem restN_out : ∀ {vs : List Nat} {i : Nat}, i ∉ vs → (restN ρ0 ρ vs)[i]? = ρ[i]?
  | [], i, _ => rfl
  | j :: vs, i, h => by
    simp only [restN]
    rw [List.getElem?_set_ne (fun z => h (by rw [z]; exact List.mem_cons_self))]
    exact restN_out fun z => h (List.mem_cons_of_mem _ z)
theorem restN_in : ∀ {vs : List Nat} {i : Nat}, i ∈ vs → i < ρ.length → (restN ρ0 ρ vs)[i]? = some ((ρ0[i]?).getD .un)
  | j :: vs, i, h, hl => by
    simp only [restN]
    by_cases e : j = i
    · subst e
      rw [List.getElem?_set_self (by rw [restN_length]; exact hl)]
    · rw [List.getElem?_set_ne e]
      exact restN_in ((List.mem_cons.mp h).resolve_left (Ne.symm e)) hl
theorem noHol_at (n : noHol ρ vs = true) {i : Nat} {p : Bool} {ds : List PyData} (hi : i ∈ vs) : ρ[i]? ≠ some (.hol p ds) := fun e => by
  have := List.all_eq_true.mp n i hi
  rw [e] at this
  simp [holB] at this
theorem wipe_get' : ∀ {vs : List Nat} {i : Nat}, i ∉ vs → (wipe σ vs)[i]? = σ[i]?
  | vs, i, h => wipe_out h
theorem wipe_idem : ∀ {vs : List Nat} {σ σ2 : L2.St}, (∀ j, j ∉ vs → σ2[j]? = σ[j]?) → σ2.length = σ.length → wipe σ2 vs = wipe σ vs := by
  intro vs σ σ2 h hl
  apply List.ext_getElem?
  intro i
  by_cases hi : i ∈ vs
  · have : ∀ (τ : L2.St) (vs : List Nat), i ∈ vs → (wipe τ vs)[i]? = if i < τ.length then some none else none := by
      intro τ vs
      induction vs with
      | nil => intro h; simp at h
      | cons j vs ih =>
        intro h
        show ((wipe τ vs).set j none)[i]? = _
        by_cases e : j = i
        · subst e
          by_cases hb : j < τ.length
          · rw [if_pos hb, List.getElem?_set_self (by rw [wipe_length]; exact hb)]
          · rw [if_neg hb]
            exact List.getElem?_eq_none (by rw [List.length_set, wipe_length]; exact Nat.le_of_not_lt hb)
        · rw [List.getElem?_set_ne e]
          exact ih ((List.mem_cons.mp h).resolve_left (Ne.symm e))
    rw [this σ2 vs hi, this σ vs hi, hl]
  · rw [wipe_out hi, wipe_out hi, h i hi]
theorem nv_wipe (E : NvOk K H σ ρ) : NvOk K H (wipe σ vs) (wipeN ρ vs) where
  len := by rw [wipeN_length, wipe_length]; exact E.len
  get := fun i s h => by
    rcases wipeN_get h with ⟨hm, rfl⟩ | ⟨hm, e⟩
    · have hl := get_lt h
      rw [wipeN_length, E.len, ← wipe_length σ vs] at hl
      exact ⟨_, List.getElem?_eq_getElem hl, trivial⟩
    · obtain ⟨w, ew, so⟩ := E.get i s e
      exact ⟨w, by rw [wipe_out hm]; exact ew, so⟩
  sep := fun i j a p q ds es hne h1 h2 e1 e2 => by
    rcases wipeN_get h1 with ⟨_, z⟩ | ⟨m1, g1⟩
    · cases z
    · rcases wipeN_get h2 with ⟨_, z⟩ | ⟨m2, g2⟩
      · cases z
      · rw [wipe_out m1] at e1
        rw [wipe_out m2] at e2
        exact E.sep i j a p q ds es hne g1 g2 e1 e2
theorem mine_wipe {b : Addr} (m : Mine (wipeN ρ vs) (wipe σ vs) b) : Mine ρ σ b := by
  obtain ⟨i, p, ds, h, e⟩ := m
  rcases wipeN_get h with ⟨_, z⟩ | ⟨hm, g⟩
  · cases z
  · rw [wipe_out hm] at e
    exact ⟨i, p, ds, g, e⟩
/-- a turn's end, in the slots around the block -/
theorem pex_rest {H2 : Hp} (E : NvOk K H σ ρ) (n : noHol ρ vs = true) (P : Pst K H (wipeN ρ vs) (wipe σ vs) H2 ρ3 σ2) (o : ∀ j, j ∉ vs → σ2[j]? = σ[j]?) (hol : ∀ (i : Nat) (p : Bool) (ds : List PyData), ρ3[i]? = some (SV.hol p ds) → i ∉ vs ∧ ∃ es : List PyData, ρ[i]? = some (SV.hol p es)) (hol' : ∀ (i : Nat) (p : Bool) (ds : List PyData), ρ[i]? = some (SV.hol p ds) → ∃ es : List PyData, ρ3[i]? = some (SV.hol p es))
    (hl : ρ3.length = ρ.length) : Pex K H ρ σ H2 (restN ρ ρ3 vs) := by
  have st : Stb H H2 := P.stb (nv_wipe E)
  have src : ∀ {i : Nat} {s : SV}, (restN ρ ρ3 vs)[i]? = some s → (i ∈ vs ∧ ρ[i]? = some s) ∨ (i ∉ vs ∧ ρ3[i]? = some s) := by
    intro i s h
    by_cases hi : i ∈ vs
    · have hb := get_lt h
      rw [restN_length, hl] at hb
      rw [restN_in hi (by rw [hl]; exact hb), List.getElem?_eq_getElem hb] at h
      exact .inl ⟨hi, by rw [List.getElem?_eq_getElem hb]; exact h⟩
    · rw [restN_out hi] at h
      exact .inr ⟨hi, h⟩
  refine ⟨fun b u h nm => P.kp b u h fun m => nm (mine_wipe m), P.th, fun i p ds h => ?_, fun i p ds h => ?_, ⟨?_, fun i s h => ?_, fun i j a p q ds es hne h1 h2 e1 e2 => ?_⟩⟩
  · rcases src h with ⟨hi, e⟩ | ⟨hi, e⟩
    · exact ⟨ds, e⟩
    · exact (hol i p ds e).2
  · have hi : i ∉ vs := fun hm => noHol_at n hm h
    obtain ⟨es, e⟩ := hol' i p ds h
    exact ⟨es, by rw [restN_out hi]; exact e⟩
  · rw [restN_length, hl]; exact E.len
  · rcases src h with ⟨hi, e⟩ | ⟨hi, e⟩
    · obtain ⟨w, ew, so⟩ := E.get i s e
      refine ⟨w, ew, ?_⟩
      cases s with
      | un => trivial
      | dat d => obtain ⟨v, e3, r3⟩ := so; exact ⟨v, e3, Rp.mono st _ _ r3⟩
      | hol p ds => exact (noHol_at n hi e).elim
    · obtain ⟨w, ew, so⟩ := P.ok.get i s e
      exact ⟨w, by rw [← o i hi]; exact ew, so⟩
  · have hs : ∀ {i : Nat} {p : Bool} {ds : List PyData}, (restN ρ ρ3 vs)[i]? = some (.hol p ds) → i ∉ vs ∧ ρ3[i]? = some (.hol p ds) := by
      intro i p ds h
      rcases src h with ⟨hi, e⟩ | z
      · exact (noHol_at n hi e).elim
      · exact z
    obtain ⟨m1, g1⟩ := hs h1
    obtain ⟨m2, g2⟩ := hs h2
    exact P.ok.sep i j a p q ds es hne g1 g2 (by rw [o i m1]; exact e1) (by rw [o j m2]; exact e2)
end

/-! ### the readings of a block, at any state of it -/
section
variable (X : Cx) (scope : Scope)
abbrev BX (s : Shared) (H : Hp) (C : Addr) (cl : List (Str × Addr)) (fp : List Addr) : Cx := X.blk s H scope (compEnvC scope cl C X.env) fp
def bE (e : Expr) : TE := fun σ H Q => ∀ s0 H0 C cl fp, tW (BX X scope s0 H0 C cl fp) e σ H Q
def bG (tg : Expr) : TG := fun v σ H Q => ∀ s0 H0 C cl fp, tGW (BX X scope s0 H0 C cl fp) tg v σ H Q
def bT (ifs : List Expr) : TT := fun σ H Q => ∀ s0 H0 C cl fp, ∀ (pins : List (Addr × Obj)) (s : Shared), L2.Inv (BX X scope s0 H0 C cl fp) pins σ H s →
  wpAny (model X.prog X.w) X.A (forIn ifs true fun c r => if r = true then do let ok ← isTrue c (BX X scope s0 H0 C cl fp).env (eval c (BX X scope s0 H0 C cl fp).env); pure (ForInStep.yield ok) else pure (ForInStep.yield r)) (TP (BX X scope s0 H0 C cl fp) pins σ Q) (fun _ _ => False) s
end
/-- the tests of a clause: none, one -/
def TWi (X : Cx) : List Expr → Nv → (Bool → Nv → Prop) → Prop
  | [], ρ, Q => Q true ρ
  | [c], ρ, Q => TW X c ρ Q
  | _, _, _ => False
section
variable {X : Cx} {scope : Scope} {e a b c tg iter elt : Expr} {ifs : List Expr} {ρ : Nv} {E : AEnds} {Q : QE} {pos p p2 pos' : Pos} {k : Nat} {d : PyData} {ds : List PyData} {is : List Nat}
/-- one turn: R is kept -/
def Turn1 (X : Cx) (scope : Scope) (tg : Expr) (ifs : List Expr) (elt : Expr) (is vs : List Nat) (d : PyData) (ρ : Nv) (R : Option PyData → Nv → Prop) : Prop := ∀ s0 H0 C cl fp,
  GW (BX X scope s0 H0 C cl fp) tg d (wipeN ρ vs) is fun ρ2 => ∀ s0 H0 C cl fp, TWi (BX X scope s0 H0 C cl fp) ifs ρ2 fun t ρ3 => if t = true then ∀ s0 H0 C cl fp, EWd (BX X scope s0 H0 C cl fp) elt ρ3 fun y ρ4 => R (some y) (restN ρ ρ4 vs) else R none (restN ρ ρ3 vs)
theorem bT_of {σ : L2.St} {H : Hp} {R : Bool → Hp → Prop} {QT : Bool → Nv → Prop} (h : ∀ s0 H0 C cl fp, TWi (BX X scope s0 H0 C cl fp) ifs ρ QT) (Ev : NvOk X.K H σ ρ) (kk : ∀ t H' ρ', Pex X.K H ρ σ H' ρ' → QT t ρ' → R t H') : bT X scope ifs σ H R := fun s0 H0 C cl fp pins s I => by
  match ifs, h s0 H0 C cl fp with
  | [], h => exact pts_nil.run pins s σ H R I (kk true H ρ (Pex.refl Ev) h)
  | [c], h => exact (pts_one pt_W).run pins s σ H R I (h σ H R Ev kk)
/-- what a comprehension adds -/
def addO (acc : List PyData) : Option PyData → List PyData
  | some y => acc ++ [y]
  | none => acc
theorem restN_hol {ρ0 ρ : Nv} {vs : List Nat} (n : noHol ρ0 vs = true) (hl : ρ.length = ρ0.length) {i : Nat} {p : Bool} {ds : List PyData} (h : (restN ρ0 ρ vs)[i]? = some (SV.hol p ds)) : i ∉ vs ∧ ρ[i]? = some (SV.hol p ds) := by
  by_cases hi : i ∈ vs
  · have hb := get_lt h
    rw [restN_length, hl] at hb
    rw [restN_in hi (by rw [hl]; exact hb), List.getElem?_eq_getElem hb] at h
    exact (noHol_at n hi (by rw [List.getElem?_eq_getElem hb]; exact h)).elim
  · rw [restN_out hi] at h
    exact ⟨hi, h⟩
/-- the reading of a list comprehension -/
theorem lc_read {σ : L2.St} {H : Hp} {R : VK} {vs : List Nat} {own : List (Str × Nat)} (hv : own.map (·.2) = vs) (hsub : ∀ j ∈ is, j ∈ vs) (Ev : NvOk X.K H σ ρ)
    (h : IW X tg iter ρ fun ds ρ1 => ds.length ≤ 1000000 ∧ noHol ρ1 vs = true ∧ ∃ W : Nat → List PyData → Nv → Prop, W 0 [] ρ1 ∧ (∀ i d acc ρ2, ds[i]? = some d → W i acc ρ2 → Turn1 X scope tg ifs elt is vs d ρ2 fun o ρ3 => W (i + 1) (addO acc o) ρ3) ∧ ∀ acc ρ2, W ds.length acc ρ2 → Q (.frs acc) ρ2)
    (kk : ∀ v H' x ρ', Pex X.K H ρ σ H' ρ' → VOk X.K H H' ρ' σ x v → Q x ρ' → R v H') : tLc (tIW X tg iter) (bG X scope tg) (bT X scope ifs) (bE X scope elt) vs σ H R := by
  refine h σ H _ Ev fun J H1 ds ρ1 P1 dj ⟨hbig, nh, W, w0, ws, wd⟩ => ?_
  intro D nD
  have E1 := P1.ok
  -- the turns' state
  let Inv' : Nat → Hp → Prop := fun i Hk => i ≤ ds.length ∧ ∃ acc av ρk, acc.length ≤ i ∧ Hk D = some (.lst av) ∧ RpAll X.K Hk acc av ∧ Pex X.K H1 ρ1 σ Hk ρk ∧ W i acc ρk
  have nhk : ∀ {Hk : Hp} {ρk : Nv}, Pex X.K H1 ρ1 σ Hk ρk → noHol ρk vs = true := fun {Hk ρk} P => by
    refine List.all_eq_true.mpr fun j hj => ?_
    cases e : ρk[j]? with
    | none => rfl
    | some s =>
      cases s with
      | un => rfl
      | dat d => rfl
      | hol p es =>
        obtain ⟨es', z⟩ := P.sh j p es e
        exact (noHol_at nh hj z).elim
  refine ⟨fun i m Hk => m = ds.length - i ∧ Inv' i Hk, ⟨ds.length, rfl, Nat.zero_le _, [], [], ρ1, Nat.le_refl _, upd_same, .nil, Pex.new E1 nD, w0⟩, fun i m Hk ⟨hm, hi, acc, av, ρk, hal, hD, ra, Pk, wk⟩ => ?_⟩
  obtain ⟨g1, g2, g3⟩ := dj Hk (Pk.stb E1)
  have nmD : ∀ {ρ' : Nv}, (∀ b, Mine ρ' σ b → Mine ρk σ b) → ¬ Mine ρ' σ D := fun hm m => upd_mine E1 Pk nD (hm _ m)
  by_cases hl : i < ds.length
  · refine .inr ⟨g1 i hl, Inv' (i + 1), fun H' z => ⟨ds.length - (i + 1), by omega, rfl, z⟩, fun x H' hy => ?_⟩
    obtain ⟨rx, ho⟩ := g3 i x H' ds[i] hy (List.getElem?_eq_getElem hl)
    have P' : Pex X.K H1 ρ1 σ H' ρk ∧ H' D = some (.lst av) ∧ RpAll X.K H' acc av := by
      rcases ho with rfl | ⟨p, o, n, rfl⟩
      · exact ⟨Pk, hD, ra⟩
      · exact ⟨Pk.trans (Pex.new Pk.ok n), by rw [upd_ne (ne_of_none hD n)]; exact hD, RpAll.mono (Stb.new n) _ _ ra⟩
    obtain ⟨P', hD', ra'⟩ := P'
    have nk := nhk P'
    have Ek := P'.ok
    -- D through the turn
    have keepD : ∀ {H2 : Hp} {ρ2 : Nv} {σ2 : L2.St}, Pst X.K H' (wipeN ρk vs) (wipe σ vs) H2 ρ2 σ2 → H2 D = some (.lst av) ∧ RpAll X.K H2 acc av := fun {H2 ρ2 σ2} P => by
      refine ⟨P.kp D _ hD' fun m => upd_mine E1 P' nD (mine_wipe m), RpAll.mono (P.stb (nv_wipe Ek)) _ _ ra'⟩
    intro s0 H0 C cl fp
    refine ws i _ acc ρk (List.getElem?_eq_getElem hl) wk s0 H0 C cl fp (wipe σ vs) H' x _ (nv_wipe Ek) rx fun σ2 ρ2 P2 o2 l2 y2 q2 => ?_
    have o2' : ∀ j, j ∉ vs → σ2[j]? = σ[j]? := fun j hj => by rw [o2 j (fun z => hj (hsub j z)), wipe_out hj]
    have ll : σ2.length = σ.length := by rw [l2, wipe_length]
    refine ⟨by rw [wipe_idem (σ := σ) o2' ll], ?_⟩
    -- the lists of the block are ours
    have hol2 : ∀ {i : Nat} {p : Bool} {es : List PyData}, ρ2[i]? = some (SV.hol p es) → i ∉ vs ∧ ρk[i]? = some (SV.hol p es) := by
      intro i p es e
      by_cases hi : i ∈ is
      · have := (y2 i).2 hi
        rw [e] at this
        simp [holB] at this
      · rw [(y2 i).1 hi] at e
        rcases wipeN_get e with ⟨_, z⟩ | z
        · cases z
        · exact z
    -- the block's slots and ours
    have close : ∀ {H3 : Hp} {ρ3 : Nv}, Pex X.K H' ρ2 σ2 H3 ρ3 → Pex X.K H1 ρ1 σ H3 (restN ρk ρ3 vs) := fun {H3 ρ3} P3 => by
      have PP := P2.trans P3.pst
      refine P'.trans (pex_rest Ek nk PP o2' (fun i p es e => ?_) (fun i p es e => ?_) ?_)
      · obtain ⟨es2, e2⟩ := P3.sh i p es e
        obtain ⟨hi, e3⟩ := hol2 e2
        exact ⟨hi, es2, e3⟩
      · have hi : i ∉ vs := fun hm => noHol_at nk hm e
        have h2 : ρ2[i]? = some (SV.hol p es) := by rw [(y2 i).1 (fun z => hi (hsub i z)), wipeN_out hi]; exact e
        exact P3.hs i p es h2
      · have := P3.ok.len
        have := Ek.len
        omega
    refine bT_of q2 P2.ok fun t H3 ρ3 P3 q3 => ?_
    have k3 := keepD (P2.trans P3.pst)
    cases t with
    | false =>
      refine (if_neg Bool.false_ne_true).symm ▸ ⟨hl, acc, av, _, Nat.le_succ_of_le hal, k3.1, k3.2, close P3, ?_⟩
      simpa [addO] using q3
    | true =>
      refine if_pos rfl ▸ ?_
      simp only [↓reduceIte] at q3
      intro s1 H5 C1 cl1 fp1
      refine EWd.run (q3 s1 H5 C1 cl1 fp1) P3.ok fun v H4 y ρ4 P4 r4 q4 => ?_
      have k4 := keepD (P2.trans (P3.trans P4).pst)
      have nz : av.length < sizeLine := by
        have e1 := k4.2.length
        have : (sizeLine : Nat) = 16777216 := sizeLine_eq
        omega
      refine ⟨av, k4.1, nz, hl, acc ++ [y], av ++ [v], _, by simpa using hal, upd_same, ?_, ?_, q4⟩
      · have P5 := close (P3.trans P4)
        have st : Stb H4 (upd H4 D (.lst (av ++ [v]))) := fun b o im hb => by rw [upd_ne (fun z => by rw [z, k4.1] at hb; cases hb; exact im)]; exact hb
        exact RpAll.append (RpAll.mono st _ _ k4.2) (.cons (Rp.mono st _ _ r4) .nil)
      · have P5 := close (P3.trans P4)
        have st : Stb H4 (upd H4 D (.lst (av ++ [v]))) := fun b o im hb => by rw [upd_ne (fun z => by rw [z, k4.1] at hb; cases hb; exact im)]; exact hb
        refine ⟨fun b o hb nm => ?_, fun b o hb => ?_, P5.sh, P5.hs, ⟨P5.ok.len, fun j s hj => ?_, P5.ok.sep⟩⟩
        · rw [upd_ne (ne_of_none hb nD)]; exact P5.kp b o hb nm
        · rw [upd_ne (ne_of_none hb nD)]; exact P5.th b o hb
        · obtain ⟨w, ew, so⟩ := P5.ok.get j s hj
          refine ⟨w, ew, ?_⟩
          cases s with
          | un => trivial
          | dat d => obtain ⟨v', e3, r3⟩ := so; exact ⟨v', e3, Rp.mono st _ _ r3⟩
          | hol p es =>
            obtain ⟨a, ws', e3, q5, r3⟩ := so
            subst e3
            refine ⟨a, ws', rfl, ?_, RpAll.mono st _ _ r3⟩
            rw [upd_ne (fun z => by subst z; exact upd_mine E1 P5 nD ⟨j, p, es, hj, ew⟩)]
            exact q5
  · have he : i = ds.length := Nat.le_antisymm hi (Nat.le_of_not_lt hl)
    subst he
    exact .inl ⟨g2, kk (.ref D) Hk (.frs acc) ρk (P1.trans Pk) ⟨D, av, rfl, P1.free nD, hD, ra⟩ (wd acc ρk wk)⟩
theorem EW.lc {own : List (Str × Nat)} (C : Ctx X k) (h : IW X tg iter ρ fun ds ρ1 => ds.length ≤ 1000000 ∧ noHol ρ1 (own.map (·.2)) = true ∧ ∃ W : Nat → List PyData → Nv → Prop, W 0 [] ρ1 ∧ (∀ i d acc ρ2, ds[i]? = some d → W i acc ρ2 → Turn1 X scope tg ifs elt is (own.map (·.2)) d ρ2 fun o ρ3 => W (i + 1) (addO acc o) ρ3) ∧ ∀ acc ρ2, W ds.length acc ρ2 → Q (.frs acc) ρ2)
    (ok : BlkOk X.N X.env.scope scope own) (hsub : ∀ j ∈ is, j ∈ own.map (·.2)) (hs : ∀ x, foldedSetIterable iter X.env x = pure x := by intro _; rfl) : EW X (.ListComp elt [⟨tg, iter, ifs, 0⟩] scope pos) ρ Q := fun σ H R Ev kk pins s I =>
  (pe_lc (g := bG X scope tg) (tt := bT X scope ifs) (te := bE X scope elt) C.calm C.nd pi_W ok (fun s H C cl fp => ⟨fun pins s' σ' H' v u Q' I r h => h s H C cl fp pins s' u I r⟩) (fun s H C cl fp => ⟨fun pins s' σ' H' Q' I h => h s H C cl fp pins s' I⟩) (fun s H C cl fp => ⟨fun pins s' σ' H' Q' I h => h s H C cl fp pins s' I⟩) hs).run pins s σ H R I
    (lc_read rfl hsub Ev h kk)
theorem S1.asgLc {i : Nat} {x : Str} {own : List (Str × Nat)} (C : Ctx X k) (h : IW X tg iter ρ fun ds ρ1 => ds.length ≤ 1000000 ∧ noHol ρ1 (own.map (·.2)) = true ∧ ∃ W : Nat → List PyData → Nv → Prop, W 0 [] ρ1 ∧ (∀ i d acc ρ2, ds[i]? = some d → W i acc ρ2 → Turn1 X scope tg ifs elt is (own.map (·.2)) d ρ2 fun o ρ3 => W (i + 1) (addO acc o) ρ3) ∧ ∀ acc ρ2, W ds.length acc ρ2 → asgR i ρ2 (.frs acc) E.nx)
    (hi : X.N[i]? = some x) (hyl : X.env.scope.names.lookup x = some .local) (hsw : swapsWith (.ListComp elt [⟨tg, iter, ifs, 0⟩] scope pos) (some (.Name x p)) pos'.line X.env = pure true) (ok : BlkOk X.N X.env.scope scope own) (hsub : ∀ j ∈ is, j ∈ own.map (·.2))
    (hs : ∀ x, foldedSetIterable iter X.env x = pure x := by intro _; rfl) : S1 X (.Assign [.Name x p] (.ListComp elt [⟨tg, iter, ifs, 0⟩] scope pos) pos') ρ E := fun σ H D Ev k1 k2 k3 k4 pins s I => by
  refine (ps_setLc (g := bG X scope tg) (tt := bT X scope ifs) (te := bE X scope elt) C.calm C.nd hi hyl hsw pi_W ok (fun s H C cl fp => ⟨fun pins s' σ' H' v u Q' I r h => h s H C cl fp pins s' u I r⟩) (fun s H C cl fp => ⟨fun pins s' σ' H' Q' I h => h s H C cl fp pins s' I⟩) (fun s H C cl fp => ⟨fun pins s' σ' H' Q' I h => h s H C cl fp pins s' I⟩) hs).run pins s σ H D I ?_
  refine lc_read (Q := fun x ρ1 => asgR i ρ1 x E.nx) rfl hsub Ev h fun v H1 y ρ1 P V q => ?_
  obtain ⟨ρ', P', q'⟩ := asg_run Ev P V q
  exact k1 _ _ _ P' q'
end
end AW
namespace AW
open PySem PySem.Spec PyProof.Rows L2
section
variable {X : Cx} {scope : Scope} {e a b c tg iter elt : Expr} {ρ : Nv} {E : AEnds} {Q : QE} {pos p p2 pos' : Pos} {k : Nat} {d : PyData} {is vs : List Nat} {R : Option PyData → Nv → Prop}
theorem Turn1.nil (h : ∀ s0 H0 C cl fp, GW (BX X scope s0 H0 C cl fp) tg d (wipeN ρ vs) is fun ρ2 => ∀ s0 H0 C cl fp, EWd (BX X scope s0 H0 C cl fp) elt ρ2 fun y ρ4 => R (some y) (restN ρ ρ4 vs)) : Turn1 X scope tg [] elt is vs d ρ R := fun s0 H0 C cl fp σ H v R' Ev r kk => by
  refine h s0 H0 C cl fp σ H v R' Ev r fun σ' ρ' P o l y q => kk σ' ρ' P o l y fun s0 H0 C cl fp => ?_
  simp only [TWi, ↓reduceIte]
  exact q
theorem Turn1.one (h : ∀ s0 H0 C cl fp, GW (BX X scope s0 H0 C cl fp) tg d (wipeN ρ vs) is fun ρ2 => ∀ s0 H0 C cl fp, TW (BX X scope s0 H0 C cl fp) c ρ2 fun t ρ3 => if t = true then ∀ s0 H0 C cl fp, EWd (BX X scope s0 H0 C cl fp) elt ρ3 fun y ρ4 => R (some y) (restN ρ ρ4 vs) else R none (restN ρ ρ3 vs)) : Turn1 X scope tg [c] elt is vs d ρ R := h
/-- what is walked, as a list of one's own things -/
theorem getElem?_map_some {α : Type} {xs : List α} {g : α → PyData} {i : Nat} {d : PyData} (h : (xs.map g)[i]? = some d) : ∃ x, xs[i]? = some x ∧ d = g x := by
  rw [List.getElem?_map] at h
  cases e : xs[i]? with
  | none => rw [e] at h; simp at h
  | some x => rw [e] at h; exact ⟨x, rfl, by simpa using h.symm⟩
theorem take_succ_map {α β : Type} {xs : List α} {i : Nat} {x : α} (f : α → β) (h : xs[i]? = some x) : (xs.take (i + 1)).map f = (xs.take i).map f ++ [f x] := by
  rw [List.take_add_one, h]
  simp
/-- elements that leave the slots as they are -/
def lcQ (X : Cx) (scope : Scope) (tg : Expr) (ifs : List Expr) (elt : Expr) (is vs : List Nat) {α : Type} (xs : List α) (g : α → PyData) (f : α → Option PyData) (Q : QE) (ds : List PyData) (ρ : Nv) : Prop :=
  ds = xs.map g ∧ xs.length ≤ 1000000 ∧ noHol ρ vs = true ∧ (∀ x, x ∈ xs → Turn1 X scope tg ifs elt is vs (g x) ρ fun o ρ3 => o = f x ∧ ρ3 = ρ) ∧ Q (.frs (xs.filterMap f)) ρ
theorem lcQ.ok {α : Type} {xs : List α} {g : α → PyData} {f : α → Option PyData} {ifs : List Expr} {ds : List PyData} (h : lcQ X scope tg ifs elt is vs xs g f Q ds ρ) : ds.length ≤ 1000000 ∧ noHol ρ vs = true ∧ ∃ W : Nat → List PyData → Nv → Prop, W 0 [] ρ ∧ (∀ i d acc ρ2, ds[i]? = some d → W i acc ρ2 → Turn1 X scope tg ifs elt is vs d ρ2 fun o ρ3 => W (i + 1) (addO acc o) ρ3) ∧ ∀ acc ρ2, W ds.length acc ρ2 → Q (.frs acc) ρ2 := by
  obtain ⟨rfl, hl, nh, ht, hq⟩ := h
  refine ⟨by simpa using hl, nh, fun i acc ρ2 => acc = (xs.take i).filterMap f ∧ ρ2 = ρ, ⟨by simp, rfl⟩, ?_, ?_⟩
  · rintro i d acc ρ2 hd ⟨rfl, rfl⟩
    obtain ⟨x, hx, rfl⟩ := getElem?_map_some hd
    intro s0 H0 C cl fp σ H v R' Ev r kk
    have imp : ∀ {o : Option PyData} {ρ3 : Nv}, o = f x ∧ ρ3 = ρ2 → (addO ((xs.take i).filterMap f) o = (xs.take (i + 1)).filterMap f ∧ ρ3 = ρ2) := by
      rintro o ρ3 ⟨rfl, rfl⟩
      refine ⟨?_, rfl⟩
      rw [List.take_add_one, hx, List.filterMap_append]
      cases e : f x with
      | none => simp [addO, e]
      | some y => simp [addO, e]
    refine ht x (List.mem_of_getElem? hx) s0 H0 C cl fp σ H v R' Ev r fun σ' ρ' P o l y q => kk σ' ρ' P o l y fun s0 H0 C cl fp => ?_
    have q' := q s0 H0 C cl fp
    match ifs, q' with
    | [], q' =>
      simp only [TWi, ↓reduceIte] at q' ⊢
      exact fun s0 H0 C cl fp => EW.imp (q' s0 H0 C cl fp) fun z ρ4 ⟨d, hd, q3⟩ => ⟨d, hd, imp q3⟩
    | [c], q' =>
      refine TW.imp q' fun t ρ3 q2 => ?_
      cases t with
      | true =>
        simp only [↓reduceIte] at q2 ⊢
        exact fun s0 H0 C cl fp => EW.imp (q2 s0 H0 C cl fp) fun z ρ4 ⟨d, hd, q3⟩ => ⟨d, hd, imp q3⟩
      | false =>
        simp only [Bool.false_eq_true, ↓reduceIte] at q2 ⊢
        exact imp q2
  · rintro acc ρ2 ⟨rfl, rfl⟩
    rw [List.length_map, List.take_of_length_le (Nat.le_refl _)]
    exact hq
theorem EW.lcP {α : Type} (xs : List α) (g : α → PyData) (f : α → Option PyData) {ifs : List Expr} {own : List (Str × Nat)} (C : Ctx X k) (h : IW X tg iter ρ fun ds ρ1 => lcQ X scope tg ifs elt is (own.map (·.2)) xs g f Q ds ρ1)
    (ok : BlkOk X.N X.env.scope scope own) (hsub : ∀ j ∈ is, j ∈ own.map (·.2)) (hs : ∀ x, foldedSetIterable iter X.env x = pure x := by intro _; rfl) : EW X (.ListComp elt [⟨tg, iter, ifs, 0⟩] scope pos) ρ Q :=
  EW.lc C (fun σ H R Ev kk => h σ H R Ev fun J H' ds ρ' P dj q => kk J H' ds ρ' P dj q.ok) ok hsub hs
theorem S1.asgLcP {α : Type} (xs : List α) (g : α → PyData) (f : α → Option PyData) {i : Nat} {x : Str} {ifs : List Expr} {own : List (Str × Nat)} (C : Ctx X k) (h : IW X tg iter ρ fun ds ρ1 => lcQ X scope tg ifs elt is (own.map (·.2)) xs g f (fun y ρ2 => asgR i ρ2 y E.nx) ds ρ1)
    (hi : X.N[i]? = some x) (hyl : X.env.scope.names.lookup x = some .local) (hsw : swapsWith (.ListComp elt [⟨tg, iter, ifs, 0⟩] scope pos) (some (.Name x p)) pos'.line X.env = pure true) (ok : BlkOk X.N X.env.scope scope own) (hsub : ∀ j ∈ is, j ∈ own.map (·.2))
    (hs : ∀ x, foldedSetIterable iter X.env x = pure x := by intro _; rfl) : S1 X (.Assign [.Name x p] (.ListComp elt [⟨tg, iter, ifs, 0⟩] scope pos) pos') ρ E :=
  S1.asgLc C (fun σ H R Ev kk => h σ H R Ev fun J H' ds ρ' P dj q => kk J H' ds ρ' P dj q.ok) hi hyl hsw ok hsub hs
end
end AW

/-! AW10: lists that are changed, several targets, enumerate, zip. -/
namespace AW
open PySem PySem.Spec PyProof.Rows L2
section
variable {X : Cx} {o e a b c tg iter : Expr} {es tgs : List Expr} {ρ : Nv} {E : AEnds} {Q : QE} {pos p p2 apos cpos pos' : Pos} {k : Nat} {is : List Nat}

/-! ### methods of lists -/
theorem ty_list {K : PySem.W.Frag} {H : Hp} {m : Addr} {xs : List V} (h : H m = some (.lst xs)) : tyV K "list" (.ref m) H := Or.inl ⟨rfl, xs, .inl (.inl h)⟩
theorem own_at {K : PySem.W.Frag} {H H0 : Hp} {σ : L2.St} {i : Nat} {v : V} {q : Bool} {ds : List PyData} (Ev : NvOk K H σ ρ) (V : VOk K H0 H ρ σ (.own i) v) (h : ρ[i]? = some (.hol q ds)) : ∃ m vs, v = .ref m ∧ σ[i]? = some (some (.ref m)) ∧ H m = some (.lst vs) ∧ RpAll K H ds vs := by
  obtain ⟨m, vs, e, q, r⟩ := Ev.hol h
  have e2 := V.2
  rw [e] at e2
  cases e2
  exact ⟨m, vs, rfl, e, q, r⟩
theorem own_list {K : PySem.W.Frag} {H H0 : Hp} {σ : L2.St} {i : Nat} {v : V} (Ev : NvOk K H σ ρ) (V : VOk K H0 H ρ σ (.own i) v) : tyV K "list" v H := by
  obtain ⟨⟨q, ds, h⟩, _⟩ := id V
  obtain ⟨m, vs, rfl, _, q, _⟩ := own_at Ev V h
  exact ty_list q
theorem EW.append (h : EW X o ρ fun x ρ1 => ∃ i, x = .own i ∧ EWd X e ρ1 fun d ρ2 => ∃ q ds, ρ2[i]? = some (.hol q ds) ∧ ds.length < sizeLine ∧ Q (.dat .none) (ρ2.set i (.hol q (ds ++ [d]))))
    (hbase : attributeBase o "append" X.env (eval o X.env) = eval o X.env := by rfl) (hfew : ((backTo cpos (starEach [e] X.env)).all (fun x => !x.1) && (backToKw cpos (keywordEach [] X.env)).all (fun x => x.1.isSome) && decide ([e].length + ([] : List Keyword).length + (if ([] : List Keyword).isEmpty then 0 else 1) < 30)) = true := by rfl)
    (hline : (apos.endLine == cpos.line) = true := by rfl) (hs : starEach [e] X.env = (false, eval e X.env) :: starEach [] X.env := by rfl) (hplain : (backTo cpos (starEach [] X.env)).any (·.1) = false := by rfl) : EW X (.Call (.Attribute o "append" apos) [e] [] cpos) ρ Q := fun σ H R Ev kk pins s I => by
  refine (pe_bm PySem.F.plainAttrs_list PySem.F.slot_list_append PySem.F.type_list_append mt_append pe_W (pa_cons pe_W pa_nil hs) hbase hfew hline hs hplain).run pins s σ H R I (h σ H _ Ev fun v H1 x ρ1 P1 V1 ⟨i, ex, q⟩ => ?_)
  subst ex
  refine ⟨own_list P1.ok V1, EWd.run q P1.ok fun u H2 d ρ2 P2 r2 ⟨q, ds, hi, hz, q2⟩ => ?_⟩
  obtain ⟨m, vs, rfl, em, hm, r⟩ := own_at P2.ok (V1.step Ev P1 P2) hi
  refine ⟨m, vs, u, rfl, rfl, hm, by rw [← r.length]; exact hz, ?_⟩
  exact kk _ _ _ _ ((P1.trans P2).trans (pex_mut P2.ok hi em (r.append (.cons r2 .nil)))) (vdat .none) q2
theorem EW.extend (h : EW X o ρ fun x ρ1 => ∃ i, x = .own i ∧ EW X e ρ1 fun y ρ2 => ∃ q ds es', ρ2[i]? = some (.hol q ds) ∧ seqO ρ2 y = some es' ∧ ds.length + es'.length ≤ sizeLine ∧ Q (.dat .none) (ρ2.set i (.hol q (ds ++ es'))))
    (hbase : attributeBase o "extend" X.env (eval o X.env) = eval o X.env := by rfl) (hfew : ((backTo cpos (starEach [e] X.env)).all (fun x => !x.1) && (backToKw cpos (keywordEach [] X.env)).all (fun x => x.1.isSome) && decide ([e].length + ([] : List Keyword).length + (if ([] : List Keyword).isEmpty then 0 else 1) < 30)) = true := by rfl)
    (hline : (apos.endLine == cpos.line) = true := by rfl) (hs : starEach [e] X.env = (false, eval e X.env) :: starEach [] X.env := by rfl) (hplain : (backTo cpos (starEach [] X.env)).any (·.1) = false := by rfl) : EW X (.Call (.Attribute o "extend" apos) [e] [] cpos) ρ Q := fun σ H R Ev kk pins s I => by
  refine (pe_bm PySem.F.plainAttrs_list PySem.F.slot_list_extend PySem.F.type_list_extend mt_extend pe_W (pa_cons pe_W pa_nil hs) hbase hfew hline hs hplain).run pins s σ H R I (h σ H _ Ev fun v H1 x ρ1 P1 V1 ⟨i, ex, q⟩ => ?_)
  subst ex
  refine ⟨own_list P1.ok V1, q σ H1 _ P1.ok fun u H2 y ρ2 P2 V2 ⟨q, ds, es', hi, hy, hz, q2⟩ => ?_⟩
  obtain ⟨m, vs, rfl, em, hm, r⟩ := own_at P2.ok (V1.step Ev P1 P2) hi
  obtain ⟨n, ws, rfl, hn, r'⟩ := seqO_ok P2.ok V2 hy
  refine ⟨m, n, vs, ws, rfl, rfl, hm, hn, by rw [← r.length, ← r'.length]; exact hz, ?_⟩
  exact kk _ _ _ _ ((P1.trans P2).trans (pex_mut P2.ok hi em (r.append r'))) (vdat .none) q2
theorem EW.pop0 (h : EW X o ρ fun x ρ1 => ∃ i q ds d, x = .own i ∧ ρ1[i]? = some (.hol q ds) ∧ ds[ds.length - 1]? = some d ∧ Q (.dat d) (ρ1.set i (.hol q ds.dropLast)))
    (hbase : attributeBase o "pop" X.env (eval o X.env) = eval o X.env := by rfl) (hline : (apos.endLine == cpos.line) = true := by rfl) : EW X (.Call (.Attribute o "pop" apos) [] [] cpos) ρ Q := fun σ H R Ev kk pins s I => by
  refine (pe_bm0 PySem.F.plainAttrs_list PySem.F.slot_list_pop PySem.F.type_list_pop mt_pop pe_W hbase hline).run pins s σ H R I (h σ H _ Ev fun v H1 x ρ1 P1 V1 ⟨i, q, ds, d, ex, hi, hd, q2⟩ => ?_)
  subst ex
  obtain ⟨m, vs, rfl, em, hm, r⟩ := own_at P1.ok V1 hi
  obtain ⟨y, hy, ry⟩ := r.get hd
  refine ⟨ty_list hm, m, vs, y, rfl, rfl, hm, by rw [← r.length]; exact hy, ?_⟩
  have PM := pex_mut P1.ok hi em r.dropLast
  exact kk _ _ _ _ (P1.trans PM) (vdat (Rp.mono (PM.stb P1.ok) _ _ ry)) q2
theorem EW.pop1 (h : EW X o ρ fun x ρ1 => ∃ i, x = .own i ∧ EW X e ρ1 fun y ρ2 => ∃ q ds n j d, y = .dat (.int n) ∧ ρ2[i]? = some (.hol q ds) ∧ (-(2 ^ 63) ≤ n ∧ n < 2 ^ 63) ∧ seqIndex? n ds.length = some j ∧ ds[j]? = some d ∧ Q (.dat d) (ρ2.set i (.hol q (ds.eraseIdx j))))
    (hbase : attributeBase o "pop" X.env (eval o X.env) = eval o X.env := by rfl) (hfew : ((backTo cpos (starEach [e] X.env)).all (fun x => !x.1) && (backToKw cpos (keywordEach [] X.env)).all (fun x => x.1.isSome) && decide ([e].length + ([] : List Keyword).length + (if ([] : List Keyword).isEmpty then 0 else 1) < 30)) = true := by rfl)
    (hline : (apos.endLine == cpos.line) = true := by rfl) (hs : starEach [e] X.env = (false, eval e X.env) :: starEach [] X.env := by rfl) (hplain : (backTo cpos (starEach [] X.env)).any (·.1) = false := by rfl) : EW X (.Call (.Attribute o "pop" apos) [e] [] cpos) ρ Q := fun σ H R Ev kk pins s I => by
  refine (pe_bm PySem.F.plainAttrs_list PySem.F.slot_list_pop PySem.F.type_list_pop mt_popAt pe_W (pa_cons pe_W pa_nil hs) hbase hfew hline hs hplain).run pins s σ H R I (h σ H _ Ev fun v H1 x ρ1 P1 V1 ⟨i, ex, q⟩ => ?_)
  subst ex
  refine ⟨own_list P1.ok V1, q σ H1 _ P1.ok fun u H2 y ρ2 P2 V2 ⟨q, ds, n, j, d, ey, hi, hb, hj, hd, q2⟩ => ?_⟩
  subst ey
  obtain rfl := Rp.int_inv V2
  obtain ⟨m, vs, rfl, em, hm, r⟩ := own_at P2.ok (V1.step Ev P1 P2) hi
  obtain ⟨y, hy, ry⟩ := r.get hd
  refine ⟨m, vs, n, j, y, rfl, rfl, hm, hb.1, hb.2, by rw [← r.length]; exact hj, hy, ?_⟩
  have PM := pex_mut P2.ok hi em (r.eraseIdx j)
  exact kk _ _ _ _ ((P1.trans P2).trans PM) (vdat (Rp.mono (PM.stb P2.ok) _ _ ry)) q2

/-! ### x[i] = e -/
theorem S1.setItem (h : EWd X e ρ fun d ρ1 => EW X o ρ1 fun x ρ2 => ∃ i, x = .own i ∧ EW X a ρ2 fun y ρ3 => ∃ n j q ds, y = .dat (.int n) ∧ ρ3[i]? = some (.hol q ds) ∧ ixN ds.length n = some j ∧ E.nx (ρ3.set i (.hol q (ds.set j d))))
    (ha : ∀ v, assign (.Subscript o a p) X.env v = (do let ov ← holding [v] (eval o X.env); let iv ← holding [v, ov] (eval a X.env); standAt p; holding [v, ov, iv] (setItem ov iv v); release [v, ov, iv] []) := by intro _; rfl)
    (hs : swapsWithSole [.Subscript o a p] e pos.line X.env = pure false := by rfl) (hw : swappedStores [.Subscript o a p] e X.env = pure none := by rfl) (h1 : (assignEach [.Subscript o a p] X.env).map (·.2) = [assign (.Subscript o a p) X.env] := by rfl) : S1 X (.Assign [.Subscript o a p] e pos) ρ E := fun σ H D Ev k1 k2 k3 k4 pins s I => by
  refine (ps_asg pe_W (pg_sub pe_W pe_W set_list ha) hs hw h1).run pins s σ H D I (EWd.run h Ev fun v H1 d ρ1 P1 r1 q1 => q1 σ H1 _ P1.ok fun u H2 x ρ2 P2 V2 ⟨i, ex, q2⟩ => ?_)
  subst ex
  refine q2 σ H2 _ P2.ok fun w H3 y ρ3 P3 V3 ⟨n, j, q, ds, ey, hi, hj, q3⟩ => ?_
  subst ey
  obtain rfl := Rp.int_inv V3
  obtain ⟨m, vs, rfl, em, hm, r⟩ := own_at P3.ok (V2.step P1.ok P2 P3) hi
  refine ⟨m, vs, n, j, rfl, rfl, hm, by rw [← r.length]; exact hj, ?_⟩
  have rd : Rp X.K H3 d v := Rp.mono ((P2.trans P3).stb P1.ok) _ _ r1
  exact k1 _ _ _ (((P1.trans P2).trans P3).trans (pex_mut P3.ok hi em (r.set j rd))).pst q3

/-! ### several targets -/
theorem S1.asgT (h : EW X e ρ fun x ρ1 => ∃ d, asD x = some d ∧ GW X tg d ρ1 is E.nx) (hs : swapsWithSole [tg] e pos.line X.env = pure false := by rfl) (hw : swappedStores [tg] e X.env = pure none := by rfl) (h1 : (assignEach [tg] X.env).map (·.2) = [assign tg X.env] := by rfl) : S1 X (.Assign [tg] e pos) ρ E := fun σ H D Ev k1 k2 k3 k4 pins s I => by
  refine (ps_asg pe_W pg_W hs hw h1).run pins s σ H D I (EWd.run h Ev fun v H1 d ρ1 P1 r1 q1 => ?_)
  exact q1 σ H1 v _ P1.ok r1 fun σ' ρ' P' _ _ _ q => k1 _ _ _ (P1.pst.trans P') q
/-- a value that is data or a new list, into slot i -/
def asgV (i : Nat) (ρ : Nv) (x : AV) (q : Nv → Prop) : Prop := pinB ρ i = false ∧ match x with
  | .dat d => q (ρ.set i (.dat d))
  | .frs ds => q (ρ.set i (.hol false ds))
  | .own _ => False
theorem pst_set {K : PySem.W.Frag} {H H1 : Hp} {ρ ρ1 : Nv} {σ σ1 : L2.St} {i : Nat} {s : SV} {v : V} (P : Pst K H ρ σ H1 ρ1 σ1) (np : pinB ρ1 i = false) (so : SOk K H1 s (some v)) (hs : ∀ p ds, s = .hol p ds → p = false ∧ ∃ a, v = .ref a ∧ H a = none ∧ ¬ Mine ρ1 σ1 a) : Pst K H ρ σ H1 (ρ1.set i s) (σ1.set i (some v)) where
  kp := P.kp
  th := P.th
  mn := fun b ⟨j, p, ds, h, e⟩ => by
    rcases get_set h with ⟨rfl, rfl, hl⟩ | ⟨hj, h⟩
    · obtain ⟨_, a, rfl, n, _⟩ := hs p ds rfl
      rw [List.getElem?_set_self (by rw [← P.ok.len]; exact hl)] at e
      cases e
      exact .inr n
    · rw [List.getElem?_set_ne (Ne.symm hj)] at e
      exact P.mn b ⟨j, p, ds, h, e⟩
  pn := fun j ds h => by
    obtain ⟨⟨es, h1⟩, h2⟩ := P.pn j ds h
    have hj : i ≠ j := fun e => by subst e; exact not_pin np h1
    exact ⟨⟨es, by rw [List.getElem?_set_ne hj]; exact h1⟩, by rw [List.getElem?_set_ne hj]; exact h2⟩
  ok := {
    len := by simp [P.ok.len]
    get := fun j s' h => by
      rcases get_set h with ⟨rfl, rfl, hl⟩ | ⟨hj, h⟩
      · exact ⟨some v, by rw [List.getElem?_set_self (by rw [← P.ok.len]; exact hl)], so⟩
      · obtain ⟨w, e, q⟩ := P.ok.get j s' h
        exact ⟨w, by rw [List.getElem?_set_ne (Ne.symm hj)]; exact e, q⟩
    sep := fun j k a p q ds es hne h1 h2 e1 e2 => by
      rcases get_set h1 with ⟨rfl, rfl, hl⟩ | ⟨hj, g1⟩
      · obtain ⟨_, a', rfl, n, nm⟩ := hs p ds rfl
        rw [List.getElem?_set_self (by rw [← P.ok.len]; exact hl)] at e1
        cases e1
        rcases get_set h2 with ⟨rfl, _, _⟩ | ⟨hk, g2⟩
        · exact hne rfl
        · rw [List.getElem?_set_ne (Ne.symm hk)] at e2
          exact nm ⟨k, q, es, g2, e2⟩
      · rw [List.getElem?_set_ne (Ne.symm hj)] at e1
        rcases get_set h2 with ⟨rfl, rfl, hl⟩ | ⟨hk, g2⟩
        · obtain ⟨_, a', rfl, n, nm⟩ := hs q es rfl
          rw [List.getElem?_set_self (by rw [← P.ok.len]; exact hl)] at e2
          cases e2
          exact nm ⟨j, p, ds, g1, e1⟩
        · rw [List.getElem?_set_ne (Ne.symm hk)] at e2
          exact P.ok.sep j k a p q ds es hne g1 g2 e1 e2 }
/-- the value x, valid at H2 and new since H1 (if it is new), into slot i; M: what may be owned already -/
theorem asgV_run {K : PySem.W.Frag} {H H1 H2 : Hp} {ρ ρ2 ρ3 : Nv} {σ σ3 : L2.St} {i : Nat} {x : AV} {v : V} {q : Nv → Prop} (P : Pst K H ρ σ H2 ρ3 σ3) (hf : ∀ a, H1 a = none → H a = none) (V : VOk K H1 H2 ρ2 σ x v) (nm : ∀ a, H1 a = none → ¬ Mine ρ3 σ3 a) (h : asgV i ρ3 x q) :
    ∃ ρ', Pst K H ρ σ H2 ρ' (σ3.set i (some v)) ∧ q ρ' ∧ ∀ b, Mine ρ' (σ3.set i (some v)) b → Mine ρ3 σ3 b ∨ (∃ ds, x = .frs ds) ∧ v = .ref b := by
  obtain ⟨np, h⟩ := h
  cases x with
  | dat d =>
    refine ⟨_, pst_set (s := .dat d) P np ⟨v, rfl, V⟩ (fun _ _ z => by cases z), h, fun b ⟨j, p, ds, hj, e⟩ => .inl ?_⟩
    rcases get_set hj with ⟨_, z, _⟩ | ⟨hne, hj⟩
    · cases z
    · rw [List.getElem?_set_ne (Ne.symm hne)] at e
      exact ⟨j, p, ds, hj, e⟩
  | frs ds =>
    obtain ⟨a, vs, rfl, n, e, r⟩ := V
    refine ⟨_, pst_set (s := .hol false ds) P np ⟨a, vs, rfl, e, r⟩ (fun p ds z => by cases z; exact ⟨rfl, a, rfl, hf a n, nm a n⟩), h, fun b ⟨j, p, ds', hj, e'⟩ => ?_⟩
    rcases get_set hj with ⟨rfl, z, hl⟩ | ⟨hne, hj⟩
    · rw [List.getElem?_set_self (by rw [← P.ok.len]; exact hl)] at e'
      cases e'
      exact .inr ⟨⟨ds, rfl⟩, rfl⟩
    · rw [List.getElem?_set_ne (Ne.symm hne)] at e'
      exact .inl ⟨j, p, ds', hj, e'⟩
  | own j => exact h.elim
/-- a, b = x, y (two plain names of the def) -/
theorem S1.par {i j : Nat} {x y : Str} {px py pt pt2 : Pos} {kt k2} (C : Ctx X k) (h : EW X a ρ fun x ρ1 => EW X b ρ1 fun y ρ2 => asgV i ρ2 x fun ρ3 => asgV j ρ3 y E.nx) (hi : X.N[i]? = some x) (hj : X.N[j]? = some y) (hij : i ≠ j) (hx : X.env.scope.names.lookup x = some .local) (hy : X.env.scope.names.lookup y = some .local)
    (hw : swappedStores [.Tuple [.Name x px, .Name y py] kt pt] (.Tuple [a, b] k2 pt2) X.env = pure (some [x, y])) (hs : swapsWithSole [.Tuple [.Name x px, .Name y py] kt pt] (.Tuple [a, b] k2 pt2) pos.line X.env = pure false := by rfl)
    (he : starEach [a, b] X.env = (false, eval a X.env) :: starEach [b] X.env := by rfl) (he2 : starEach [b] X.env = (false, eval b X.env) :: starEach [] X.env := by rfl) : S1 X (.Assign [.Tuple [.Name x px, .Name y py] kt pt] (.Tuple [a, b] k2 pt2) pos) ρ E := fun σ H D Ev k1 k2' k3 k4 pins s I => by
  refine (ps_par C.calm C.nd hi hj hij hx hy (pa_cons pe_W (pa_cons pe_W pa_nil he2) he) hw hs).run pins s σ H D I (h σ H _ Ev fun v H1 x ρ1 P1 V1 q1 => q1 σ H1 _ P1.ok fun w H2 y ρ2 P2 V2 q2 => ⟨v, w, rfl, ?_⟩)
  have P := P1.trans P2
  have tr1 : ∀ b, Mine ρ2 σ b → ∃ o, H1 b = some o := fun b m => let ⟨vs, z⟩ := P1.ok.mine (P2.mn m); ⟨_, z⟩
  obtain ⟨ρ3, P3, q3, m3⟩ := asgV_run P.pst (fun a z => z) (V1.step Ev P1 P2) (fun a n m => by obtain ⟨vs, z⟩ := Ev.mine (P.mn m); rw [n] at z; cases z) q2
  have hx1 : ∀ b, Mine ρ3 (σ.set i (some v)) b → ∃ o, H1 b = some o := fun b m => by
    rcases m3 b m with z | ⟨⟨ds, rfl⟩, rfl⟩
    · exact tr1 b z
    · obtain ⟨a, vs, e, _, z, _⟩ := V1
      cases e
      exact ⟨_, z⟩
  obtain ⟨ρ4, P4, q4, _⟩ := asgV_run P3 (fun a n => P1.free n) V2 (fun a n m => by obtain ⟨o, z⟩ := hx1 a m; rw [n] at z; cases z) q3
  exact k1 _ _ _ P4 q4
end
end AW

/-! AW11: enumerate, zip, op=. -/
namespace PySem
open Sem (wp)
/-- enumerate of whatever begins: one argument -/
theorem aw_meets_enum {v : Value} {o : Obj} {G : Heap → Prop} (B : Begins v o G) :
    Meets (Builtin.«enumerate.__new__» ⟨[.type "enumerate", v], []⟩) (fun _ R s => G s.heap ∧
      R (.ok (.ret (.ref (s.heap.push o).objs.size))) { s with heap := (s.heap.push o).push { cls := .type "enumerate", data := .fields #[.none, .bool false, .ref s.heap.objs.size, rawInt 0, .none, .none] } }) := .of_wp fun prog w A R s h => by
  obtain ⟨hp, gs, dr, tk, os⟩ := s
  obtain ⟨hG, hR⟩ := h
  have hsub := sub_enumerate
  have go : ∀ {A' : Around} {E' : Value → Shared → Prop} {Q' : Value → Shared → Prop}, Q' (.ref hp.objs.size) ⟨hp.push o, gs, dr, tk, os⟩ → wpAny (model prog w) A' (pyIter v) Q' E' ⟨hp, gs, dr, tk, os⟩ := fun q => B.iter prog w _ _ ⟨hp, gs, dr, tk, os⟩ _ hG q
  wp_walk using go
  refine wpAny_stack_any fun st => wpAny_pure ?_
  split
  · rename_i cc _ _ _ _ _
    cases (cc == Value.type "enumerate") <;> (wp_walk using go; exact ⟨_, rfl, hR⟩)
  · wp_walk using go
    exact ⟨_, rfl, hR⟩
theorem aw_call_enum {prog : Program} {w : World} {A : Around} {E : Value → Shared → Prop} {s : Shared} {v : Value} {o : Obj} {G : Heap → Prop} {Q : Value → Shared → Prop} (B : Begins v o G) (hG : G s.heap)
    (h : ∀ h', IsEnum h' (s.heap.objs.size + 1) s.heap.objs.size 0 .none → h'.get? s.heap.objs.size = some o → h'.objs.size = s.heap.objs.size + 2 → (∀ b u, s.heap.get? b = some u → h'.get? b = some u) → Q (.ref (s.heap.objs.size + 1)) { s with heap := h' }) :
    wpAny (model prog w) A (call (.type "enumerate") [v]) Q E s := by
  refine callType_new F.called_enumerate (by decide) (F.typeCall_enumerate_1 _) (F.newCall_enumerate_1 _) (fun obj => F.args_object_init_2 obj _) F.entry_enumerate_new (aw_meets_enum B) ⟨hG, ?_⟩
  have hz : (s.heap.push o).objs.size = s.heap.objs.size + 1 := Heap.size_push ..
  rw [hz]
  have hl := Heap.get?_push_size (s.heap.push o) (o := { cls := .type "enumerate", data := .fields #[.none, .bool false, .ref s.heap.objs.size, rawInt 0, .none, .none] }) rfl
  rw [hz] at hl
  exact ⟨⟨_, hl, rfl⟩, h _ hl (Heap.get?_push_of_some _ (Heap.get?_push_size _ B.free)) (by rw [Heap.size_push, hz]) fun b u hu => Heap.get?_push_of_some _ (Heap.get?_push_of_some _ hu)⟩
/-- .. of a tuple, at its end -/
theorem aw_enumT_end {prog : Program} {w : World} {A : Around} {E : Value → Shared → Prop} {s : Shared} {e it l : Addr} {i : Nat} {k : Int} {items : Array Value} {old : Value} {Q : Option Value → Shared → Prop} (hh : A.handled = none) (he : IsEnum s.heap e it k old) (hit : s.heap.IsTupleIter it l i) (hl : s.heap.IsTuple l items)
    (hx : items[i]? = none) (hQ : ∀ h', Heap.ExtBut it s.heap h' → Q none { s with heap := h' }) : wpAny (model prog w) A (pyNext (.ref e)) Q E s := by
  have hT : s.TypeIs (.ref e) "enumerate" := ⟨_, he, rfl⟩
  unfold pyNext
  refine wpAny_bind (wpAny_attempt (wpAny_callSpecial?_slot (name := Str.ofString "__next__") hT F.slot_enumerate_next (wpAny_call_entry F.slot_enumerate_next hT F.entry_enumerate_next ?_ (F.args_enumerate_next_1 _))))
  show wpAny _ _ (field (.ref e) 2 >>= _) _ _ _
  refine wpAny_bind (wpAny_field he rfl (x := .ref it) rfl (wpAny_bind (wpAny_nextOf_tuple_end hh hit hl hx fun h' x he' ⟨o, ho, hc⟩ => ?_)))
  exact wpAny_bind (wpAny_isInstance (T := "StopIteration") (b := true) ⟨o, ho, hc⟩ isSubtype_stop (wpAny_pure (hQ _ he')))
end PySem
namespace AW
open PySem PySem.Spec PyProof.Rows L2
section
variable {X : Cx} {o e a b c tg iter : Expr} {es tgs : List Expr} {ρ : Nv} {E : AEnds} {Q : QE} {pos p p2 apos cpos pos' : Pos} {k : Nat} {is : List Nat} {ds : List PyData}
/-- the tuple at a, each item in a new pair with its number -/
def IteT (K : PySem.W.Frag) (a : Addr) : It :=
  ⟨fun i H => ∃ (xs : List V) (x : V), SqT K H a xs ∧ xs[i]? = some x, fun i H v H' => ∃ T x, v = .ref T ∧ H T = none ∧ H' = upd H T (.tup [.int (i : Nat), x]) ∧ ∀ xs, SqT K H a xs → xs[i]? = some x, fun i H => ∃ xs : List V, SqT K H a xs ∧ xs.length ≤ i⟩
theorem turn_enumT {P : Program} {w : World} {K : PySem.W.Frag} {elts : List Expr} {kk : Nat} {tpos : Pos} (a e it : Addr) :
    Turn P w K (.Tuple elts kk tpos) (IteT K a) [e, it] e (fun i h => (∃ old, IsEnum h e it ((i : Nat) : Int) old) ∧ h.IsTupleIter it a i ∧ e ≠ it) where
  mem := by simp
  obj := fun i h ⟨⟨old, he⟩, ⟨o, ho, hc, hd⟩, _⟩ b hb => by
    rcases (show b = e ∨ b = it by simpa using hb) with rfl | rfl
    · exact ⟨_, he, fun v z => nomatch z⟩
    · exact ⟨o, ho, fun v z => by rw [hd] at z; cases z⟩
  keep := fun i h h' ⟨⟨old, he⟩, hi, hne⟩ kp => ⟨⟨old, kp e (by simp) _ he⟩, hi.at fun o z => kp it (by simp) o z, hne⟩
  item := by
    intro X hP hw hK hc i pins s σ H E I hf ⟨⟨old, he⟩, hit, hne⟩ ⟨xs, x, hq, hx⟩
    subst hP
    subst hw
    subst hK
    obtain ⟨its, rv, ht, _⟩ := I.tuple hq
    obtain ⟨u, hu, ru⟩ := rv.get hx
    have hu' : its.toArray[i]? = some u := by simpa using hu
    have lt_i : i < its.toArray.size := (Array.getElem?_eq_some_iff.mp hu').1
    have te : e < s.heap.objs.size := Heap.lt_size he
    have ti : it < s.heap.objs.size := by obtain ⟨_, z, _⟩ := hit; exact Heap.lt_size z
    have nea : e ≠ a := fun z => by
      obtain ⟨o, ho, hcl, _⟩ := ht
      subst z
      rw [show s.heap.get? e = some _ from he] at ho
      cases ho
      injection hcl with z
      exact absurd z (by decide)
    have nit : a ≠ it := fun z => by
      obtain ⟨o, ho, hcl, _⟩ := ht
      obtain ⟨o2, ho2, hcl2, _⟩ := hit
      subst z
      rw [ho] at ho2
      cases ho2
      rw [hcl] at hcl2
      injection hcl2 with z
      exact absurd z (by decide)
    have D := Draws.tuple (prog := X.prog) (w := X.w) (A := X.A.in1) (I.ok.hd hc) it a nit its.toArray
    refine wpAny_pyNext_enum_itemD D he ⟨hit, ht⟩ lt_i hne (by simp [hne, nea]) fun y h' tk hy ho hst hT hsz kp => ?_
    obtain rfl : u = y := Option.some.inj (hu'.symm.trans hy)
    refine ⟨_, rfl, wpAny_letOwnedTupleGo_enum (s := { s with heap := h', toks := tk + 1 }) ho fun h'' he' sb => ?_⟩
    have nT : s.heap.objs.size ≠ e := Nat.ne_of_gt te
    have hT' : h''.get? s.heap.objs.size = some { cls := .type "tuple", data := .seq #[.int i tk, u] } := (sb.2 _ nT).trans hT
    have new : ObjOk X.prog X.w (upd H s.heap.objs.size (.tup [.int (i : Nat), x])) h'' s.heap.objs.size (.tup [.int (i : Nat), x]) := ⟨by show 2 ≤ sizeLine; decide, [.int i tk, u], .cons ⟨_, rfl⟩ (.cons ru .nil), ⟨_, hT', rfl, _, rfl⟩⟩
    have I1 : L2.Inv X pins σ (upd H s.heap.objs.size (.tup [.int (i : Nat), x])) { s with heap := h'', toks := tk + 1 } :=
      Inv.turnedNew (ch := [e, it]) I (fun b ob hb z => (sb.2 b (fun q => hb (by simp [q]))).trans (kp b ob (fun q => hb (by simp [q])) (fun q => hb (by simp [q])) z)) hf (Nat.le_refl _) new
    refine ⟨.ref s.heap.objs.size, _, I1, rfl, ⟨_, x, rfl, I.hok.fresh (Nat.le_refl _), rfl, fun ys hy => by rw [I.tuple_inj hy hq]; exact hx⟩, ⟨⟨u, ?_⟩, hst.1.at fun o z => (sb.2 it (Ne.symm hne)).trans z, hne⟩, fun b hb => ?_⟩
    · rw [show ((i + 1 : Nat) : Int) = (i : Int) + 1 by omega]
      exact he'
    · have lb : b < s.heap.objs.size := by
        rcases (show b = e ∨ b = it by simpa using hb) with rfl | rfl
        · exact te
        · exact ti
      rw [upd_ne (Nat.ne_of_lt lb)]
      exact (hf b hb).1
  done := by
    intro X hP hw hK hc i pins s σ H E I hf ⟨⟨old, he⟩, hit, hne⟩ ⟨xs, hq, hx⟩
    subst hP
    subst hw
    subst hK
    obtain ⟨its, rv, ht, _⟩ := I.tuple hq
    have nit : a ≠ it := fun z => by
      obtain ⟨o, ho, hcl, _⟩ := ht
      obtain ⟨o2, ho2, hcl2, _⟩ := hit
      subst z
      rw [ho] at ho2
      cases ho2
      rw [hcl] at hcl2
      injection hcl2 with z
      exact absurd z (by decide)
    obtain ⟨f0, f1, f2, f3, f4, f5⟩ := hf it (by simp)
    have hl := rv.length
    exact aw_enumT_end (I.ok.hd hc) he hit ht (by simp; omega) fun h' eb => ⟨rfl, I.turned (t' := s.toks) (fun b o hb q => eb b o hb q) f0 f1 f3 f4 f5⟩
  self := fun A i s Q E ⟨⟨_, he⟩, _⟩ h => wpAny_pyIter_enum he h
theorem pi_enumT {ta : TA} {elts : List Expr} {kk : Nat} {tpos : Pos} (hg : Gl X "enumerate") (hm : X.mg "enumerate" = none) (ha : PA X [e] ta) (hs : starEach [e] X.env = [(false, eval e X.env)] := by rfl) :
    PI X (.Tuple elts kk tpos) (.Call (.Name "enumerate" p) [e] [] pos) (fun σ H R => ta σ H fun vs H1 => ∃ a xs, vs = [.ref a] ∧ SqT X.K H1 a xs ∧ R (IteT X.K a) H1) := ⟨fun pins s σ H R I h => by
  refine Call_ (ld_blt I hg hm boot_enumerate (PyProof.Rows.callWith_type1 (thn (ha.run pos pins s σ H _ I h) fun us s1 ⟨vs, H1, I1, r1, m, xs, ex, hq, q⟩ => ?_) hs rfl))
  subst ex
  obtain rfl := Vals.ref1 r1
  obtain ⟨its, rv, ht, _⟩ := I1.tuple hq
  refine aw_call_enum (begins_tuple m its.toArray) ht fun h' he hit hsz kp => wpAny_pyIter_enum he ?_
  have I2 : L2.Inv X pins σ H1 { s1 with heap := h' } := I1.kept (t' := s1.toks) kp
  refine ⟨s1.heap.objs.size + 1, [s1.heap.objs.size + 1, s1.heap.objs.size], _, _, H1, rfl, I2, turn_enumT m (s1.heap.objs.size + 1) s1.heap.objs.size, ⟨⟨.none, he⟩, ⟨_, hit, rfl, rfl⟩, Nat.succ_ne_self _⟩, fun b hb => ?_, q⟩
  have le : s1.heap.objs.size ≤ b := by
    rcases (show b = s1.heap.objs.size + 1 ∨ b = s1.heap.objs.size by simpa using hb) with rfl | rfl
    · exact Nat.le_succ _
    · exact Nat.le_refl _
  exact I1.fpOk le (I1.hok.fresh le)⟩
/-- the items with their numbers -/
def enumD (ds : List PyData) : List PyData := ds.zipIdx.map fun p => PyData.tuple [.int (p.2 : Nat), p.1]
theorem enumD_get {ds : List PyData} {i : Nat} {d : PyData} (h : (enumD ds)[i]? = some d) : ∃ x, ds[i]? = some x ∧ d = .tuple [.int (i : Nat), x] := by
  unfold enumD at h
  rw [List.getElem?_map, List.getElem?_zipIdx] at h
  cases e : ds[i]? with
  | none => rw [e] at h; simp at h
  | some x => rw [e] at h; exact ⟨x, rfl, by simpa using h.symm⟩
theorem enumD_length (ds : List PyData) : (enumD ds).length = ds.length := by simp [enumD]
theorem pair_new {K : PySem.W.Frag} {H : Hp} {T : Addr} {x y : V} {d1 d2 : PyData} (n : H T = none) (r1 : Rp K H d1 x) (r2 : Rp K H d2 y) : Rp K (upd H T (.tup [x, y])) (.tuple [d1, d2]) (.ref T) :=
  .tuple (SqT.of upd_same) (.cons (Rp.mono (Stb.new n) _ _ r1) (.cons (Rp.mono (Stb.new n) _ _ r2) .nil))
theorem dit_enum {K : PySem.W.Frag} {H1 : Hp} {m : Addr} {xs : List V} (h : SqF K H1 m xs) (r : RpAll K H1 ds xs) : DIt K H1 (Ite K m) (enumD ds) := fun H st => by
  have hm : SqL K H m xs := (st.lst h).sq
  rw [enumD_length, r.length]
  refine ⟨fun i hi => ⟨xs, xs[i], hm, List.getElem?_eq_getElem hi⟩, ⟨xs, hm, Nat.le_refl _⟩, fun i x H' d ⟨T, y, e, n, eH, hy⟩ hd => ?_⟩
  subst e
  subst eH
  obtain ⟨d', hd', rfl⟩ := enumD_get hd
  obtain ⟨v, hv, rv⟩ := r.get hd'
  rw [hy xs hm] at hv
  cases hv
  exact ⟨pair_new n (.int _) (Rp.mono st _ _ rv), .inr ⟨T, _, n, rfl⟩⟩
theorem dit_enumT {K : PySem.W.Frag} {H1 : Hp} {m : Addr} {xs : List V} (h : SqT K H1 m xs) (r : RpAll K H1 ds xs) : DIt K H1 (IteT K m) (enumD ds) := fun H st => by
  have hm : SqT K H m xs := st.tup h
  rw [enumD_length, r.length]
  refine ⟨fun i hi => ⟨xs, xs[i], hm, List.getElem?_eq_getElem hi⟩, ⟨xs, hm, Nat.le_refl _⟩, fun i x H' d ⟨T, y, e, n, eH, hy⟩ hd => ?_⟩
  subst e
  subst eH
  obtain ⟨d', hd', rfl⟩ := enumD_get hd
  obtain ⟨v, hv, rv⟩ := r.get hd'
  rw [hy xs hm] at hv
  cases hv
  exact ⟨pair_new n (.int _) (Rp.mono st _ _ rv), .inr ⟨T, _, n, rfl⟩⟩
theorem IW.enumL {elts : List Expr} {kk : Nat} {tpos : Pos} {Q : List PyData → Nv → Prop} (C : Ctx X k) (h : EW X e ρ fun x ρ1 => ∃ ds, asD x = some (.list ds) ∧ Q (enumD ds) ρ1) (hg : Gl X "enumerate" := by rfl) (hs : starEach [e] X.env = [(false, eval e X.env)] := by rfl) : IW X (.Tuple elts kk tpos) (.Call (.Name "enumerate" p) [e] [] pos) ρ Q := fun σ H R Ev kk pins s I => by
  have h' : EWd X e ρ fun d ρ1 => ∃ ds, d = .list ds ∧ Q (enumD ds) ρ1 := EW.imp h fun x ρ1 ⟨ds, e, q⟩ => ⟨_, e, ds, rfl, q⟩
  refine (pi_enum hg C.blt.enumerate (pa_cons pe_W pa_nil (by rw [hs]; rfl)) hs).run pins s σ H R I (EWd.run h' Ev fun v H1 d ρ1 P r ⟨ds, e, q⟩ => ?_)
  subst e
  cases r with
  | list e r => exact ⟨_, _, rfl, e.sq, kk _ H1 _ ρ1 P (dit_enum e r) q⟩
theorem IW.enumT {elts : List Expr} {kk : Nat} {tpos : Pos} {Q : List PyData → Nv → Prop} (C : Ctx X k) (h : EW X e ρ fun x ρ1 => ∃ ds, x = .dat (.tuple ds) ∧ Q (enumD ds) ρ1) (hg : Gl X "enumerate" := by rfl) (hs : starEach [e] X.env = [(false, eval e X.env)] := by rfl) : IW X (.Tuple elts kk tpos) (.Call (.Name "enumerate" p) [e] [] pos) ρ Q := fun σ H R Ev kk pins s I => by
  refine (pi_enumT hg C.blt.enumerate (pa_cons pe_W pa_nil (by rw [hs]; rfl)) hs).run pins s σ H R I (h σ H _ Ev fun v H1 x ρ1 P V ⟨ds, e, q⟩ => ?_)
  subst e
  cases V with
  | tuple e r => exact ⟨_, _, rfl, e, kk _ H1 _ ρ1 P (dit_enumT e r) q⟩
/-- zip of two lists, of two tuples -/
def zipD (ds es : List PyData) : List PyData := (ds.zip es).map fun p => PyData.tuple [p.1, p.2]
theorem zipD_get {ds es : List PyData} {i : Nat} {d : PyData} (h : (zipD ds es)[i]? = some d) : ∃ x y, ds[i]? = some x ∧ es[i]? = some y ∧ d = .tuple [x, y] := by
  unfold zipD at h
  rw [List.getElem?_map] at h
  cases e : (ds.zip es)[i]? with
  | none => rw [e] at h; simp at h
  | some p =>
    rw [e] at h
    obtain ⟨e1, e2⟩ := List.getElem?_zip_eq_some.mp e
    exact ⟨p.1, p.2, e1, e2, by simpa using h.symm⟩
theorem dit_zip {K : PySem.W.Frag} {H1 : Hp} {m n : Addr} {xs ys : List V} {ds es : List PyData} (h : SqF K H1 m xs) (g : SqF K H1 n ys) (r : RpAll K H1 ds xs) (t : RpAll K H1 es ys) : DIt K H1 (Itz K m n) (zipD ds es) := fun H st => by
  have hm : SqL K H m xs := (st.lst h).sq
  have hn : SqL K H n ys := (st.lst g).sq
  have hl : (zipD ds es).length = min xs.length ys.length := by simp [zipD, r.length, t.length]
  rw [hl]
  refine ⟨fun i hi => ⟨xs, ys, xs[i], ys[i], hm, hn, List.getElem?_eq_getElem _, List.getElem?_eq_getElem _⟩, ⟨xs, ys, hm, hn, by omega⟩, fun i x H' d ⟨T, y, z, e, nn, eH, hy, hz⟩ hd => ?_⟩
  subst e
  subst eH
  obtain ⟨d1, d2, h1, h2, rfl⟩ := zipD_get hd
  obtain ⟨v1, hv1, rv1⟩ := r.get h1
  obtain ⟨v2, hv2, rv2⟩ := t.get h2
  rw [hy xs hm] at hv1
  rw [hz ys hn] at hv2
  cases hv1
  cases hv2
  exact ⟨pair_new nn (Rp.mono st _ _ rv1) (Rp.mono st _ _ rv2), .inr ⟨T, _, nn, rfl⟩⟩
theorem dit_zipT {K : PySem.W.Frag} {H1 : Hp} {m n : Addr} {xs ys : List V} {ds es : List PyData} (h : SqT K H1 m xs) (g : SqT K H1 n ys) (r : RpAll K H1 ds xs) (t : RpAll K H1 es ys) : DIt K H1 (RZ.ItzT K m n) (zipD ds es) := fun H st => by
  have hm : SqT K H m xs := st.tup h
  have hn : SqT K H n ys := st.tup g
  have hl : (zipD ds es).length = min xs.length ys.length := by simp [zipD, r.length, t.length]
  rw [hl]
  refine ⟨fun i hi => ⟨xs, ys, xs[i], ys[i], hm, hn, List.getElem?_eq_getElem _, List.getElem?_eq_getElem _⟩, ⟨xs, ys, hm, hn, by omega⟩, fun i x H' d ⟨T, y, z, e, nn, eH, hy, hz⟩ hd => ?_⟩
  subst e
  subst eH
  obtain ⟨d1, d2, h1, h2, rfl⟩ := zipD_get hd
  obtain ⟨v1, hv1, rv1⟩ := r.get h1
  obtain ⟨v2, hv2, rv2⟩ := t.get h2
  rw [hy xs hm] at hv1
  rw [hz ys hn] at hv2
  cases hv1
  cases hv2
  exact ⟨pair_new nn (Rp.mono st _ _ rv1) (Rp.mono st _ _ rv2), .inr ⟨T, _, nn, rfl⟩⟩
/-- two sequences of the same make -/
def zipOk : PyData → PyData → Option (List PyData)
  | .list ds, .list es => some (zipD ds es)
  | .tuple ds, .tuple es => some (zipD ds es)
  | _, _ => none
theorem IW.zip {elts : List Expr} {kk : Nat} {tpos : Pos} {Q : List PyData → Nv → Prop} (C : Ctx X k) (h : EWds X [a, b] ρ fun ds ρ1 => ∃ d e zs, ds = [d, e] ∧ zipOk d e = some zs ∧ Q zs ρ1) (hg : Gl X "zip" := by rfl) (hs : starEach [a, b] X.env = (false, eval a X.env) :: starEach [b] X.env := by rfl) (hpl : (backTo pos (starEach [b] X.env)).any (·.1) = false := by rfl) : IW X (.Tuple elts kk tpos) (.Call (.Name "zip" p) [a, b] [] pos) ρ Q := fun σ H R Ev kk pins s I => by
  refine (RZ.pi_zipA hg C.blt.zip pa_W hs hpl).run pins s σ H R I (h σ H _ Ev fun vs H1 ds ρ1 P r ⟨d, e, zs, e1, e2, q⟩ => ?_)
  subst e1
  match d, e, e2, r with
  | .list ds, .list es, e2, .cons (.list h1 r1) (.cons (.list h2 r2) .nil) =>
    cases e2
    exact ⟨_, _, _, _, rfl, .inl ⟨h1.sq, h2.sq, kk _ H1 _ ρ1 P (dit_zip h1 h2 r1 r2) q⟩⟩
  | .tuple ds, .tuple es, e2, .cons (.tuple h1 r1) (.cons (.tuple h2 r2) .nil) =>
    cases e2
    exact ⟨_, _, _, _, rfl, .inr ⟨h1, h2, kk _ H1 _ ρ1 P (dit_zipT h1 h2 r1 r2) q⟩⟩
/-- x += e, ints -/
theorem S1.augI {i : Nat} {x : Str} (C : Ctx X k) {m : Int} (hm : ρ[i]? = some (.dat (.int m))) (h : EW X e ρ fun y ρ1 => ∃ n, y = .dat (.int n) ∧ E.nx (ρ1.set i (.dat (.int (m + n))))) (hi : X.N[i]? = some x) (hx : Loc X.env.scope x) (hf : X.fn x = true ∨ X.env.scope.names.lookup x = some .local := by first | exact .inl rfl | exact .inr rfl) : S1 X (.AugAssign (.Name x pos') .Add e pos) ρ E := fun σ H D Ev k1 k2 k3 k4 pins s I => by
  obtain ⟨v, ev, rv⟩ := Ev.dat hm
  obtain rfl := Rp.int_inv rv
  refine (ps_aug C.nd hi hx pe_W ip_add hf).run pins s σ H D I ⟨_, ev, h σ H _ Ev fun w H1 y ρ1 P V ⟨n, ey, q⟩ => ?_⟩
  subst ey
  obtain rfl := Rp.int_inv V
  refine ⟨m, n, rfl, rfl, k1 _ _ _ (pst_asg (s := .dat (.int (m + n))) Ev P ?_ ⟨_, rfl, .int _⟩ (fun _ _ z => by cases z)) q⟩
  cases e : pinB ρ1 i with
  | false => rfl
  | true =>
    exfalso
    unfold pinB at e
    split at e
    · rename_i ds z
      obtain ⟨es, z2⟩ := P.sh i true ds z
      rw [hm] at z2
      cases z2
    · cases e
end
end AW

/-! AW12: repr, two numbers' greatest and least, ranges as data, calls by name. -/
namespace AW
open PySem PySem.Spec PyProof.Rows L2
section
variable {X : Cx} {e a b c : Expr} {es : List Expr} {ρ : Nv} {Q : QE} {QT : Bool → Nv → Prop} {pos p p2 : Pos} {k : Nat}

/-! ### repr -/
def rRepr (K : PySem.W.Frag) : List V → Hp → VK → Prop := fun vs H Q => ∃ v d, vs = [v] ∧ Dp K H v d ∧ d.hasDict = false ∧ d.showable = true ∧ d.shown.length ≤ sizeLine ∧ d.depth ≤ 64 ∧ Q (.str d.shown) H
theorem cr_repr (C : Ctx X k) : CallR X (.builtin "repr") (rRepr X.K) := fun pins s σ H vs us Q I r h => by
  obtain ⟨v, d, rfl, hd, nd, hs, hl, hp, q⟩ := h
  obtain ⟨u, rfl, ru⟩ := vals1 r
  have un := C.units
  have big : ∀ {a : Addr}, RelV (.ref a) u → wpAny (model X.prog X.w) X.A (call (.builtin "repr") [u]) (EP X pins σ Q) X.xe s := by
    intro a ra
    obtain ⟨as, rd⟩ := Dp.reads I d v u hd ru
    obtain rfl : u = Value.ref a := ra
    exact repr_of_reads' rd hs (PyData.noDict_hsm nd) C.grd (by omega) (fun _ _ z => z) (fun h' u tk hk => ⟨.str _, H, I.kept hk, ⟨_, rfl⟩, q⟩) hl
  cases hd with
  | non => obtain rfl : u = Value.none := ru; exact PySem.P.repr_of_none ⟨.str _, H, I.tok _, ⟨_, rfl⟩, q⟩
  | bl b => obtain rfl : u = Value.bool b := ru; exact PySem.P.repr_of_bool ⟨.str _, H, I.tok _, ⟨_, rfl⟩, q⟩
  | int i => obtain ⟨t, rfl⟩ := ru; exact PySem.P.repr_of_int (by simpa [PyData.showable] using hs) ⟨.str _, H, I.tok _, ⟨_, rfl⟩, q⟩
  | str x => obtain ⟨t, rfl⟩ := ru; exact PySem.P.repr_of_str ⟨.str _, H, I.tok _, ⟨_, rfl⟩, q⟩ hl
  | lst _ _ => exact big ru
  | tup _ _ => exact big ru
/-- may be shown -/
structure Shw (d : PyData) : Prop where
  nd : d.hasDict = false
  sh : d.showable = true
  len : d.shown.length ≤ sizeLine
  dp : d.depth ≤ 64
def reprR : Nv → AV → (AV → Prop) → Prop := fun ρ x q => ∃ d, readD ρ x = some d ∧ Shw d ∧ q (.dat (.str d.shown))
theorem EW.repr (C : Ctx X k) (h : EW X e ρ fun x ρ1 => reprR ρ1 x fun z => Q z ρ1) (hg : Gl X "repr" := by rfl) (he : starEach [e] X.env = (false, eval e X.env) :: starEach [] X.env := by rfl) (hpl : (backTo pos (starEach [] X.env)).any (·.1) = false := by rfl) : EW X (.Call (.Name "repr" p) [e] [] pos) ρ Q :=
  EW.b1 (cr_repr C) (fun σ H0 H ρ x v q R E V ⟨d, hd, w, t⟩ kk => ⟨v, d, rfl, readD_ok E V hd w.nd, w.nd, w.sh, w.len, w.dp, kk _ H _ (Pex.refl E) (vdat (.str _)) t⟩) C.blt.repr (by decide +kernel) h hg (by decide) (by decide) he hpl

/-! ### built-in functions of two -/
def B2 (X : Cx) (r : List V → Hp → VK → Prop) (t : R2A) : Prop := ∀ (σ : L2.St) (H0 H : Hp) (ρ : Nv) (x y : AV) (v u : V) (q : AV → Prop) (R : VK), NvOk X.K H σ ρ → VOk X.K H0 H ρ σ x v → VOk X.K H0 H ρ σ y u → t ρ x y q → (∀ w H' z, Pex X.K H ρ σ H' ρ → VOk X.K H H' ρ σ z w → q z → R w H') → r [v, u] H R
theorem EW.b2 {x : Str} {id : String} {r : List V → Hp → VK → Prop} {t : R2A} (hc : CallR X (.builtin id) r) (ht : B2 X r t) (hm : X.mg x = none) (hv : bootBuiltins x = some (.builtin id)) (h : EW X a ρ fun x ρ1 => EW X b ρ1 fun y ρ2 => t ρ2 x y fun z => Q z ρ2) (hg : Gl X x)
    (hn : x ≠ "__name__" := by decide) (hdb : (x == ("__debug__" : Str)) = false := by decide) (he : starEach [a, b] X.env = (false, eval a X.env) :: starEach [b] X.env := by rfl) (he2 : starEach [b] X.env = (false, eval b X.env) :: starEach [] X.env := by rfl) (hpl : (backTo pos (starEach [b] X.env)).any (·.1) = false := by rfl) : EW X (.Call (.Name x p) [a, b] [] pos) ρ Q := fun σ H R E kk pins s I =>
  (pe_callB hc hg hm hv (pa_cons pe_W (pa_cons pe_W pa_nil he2) he) hn hdb he hpl).run pins s σ H R I (h σ H _ E fun v H1 x ρ1 P1 V1 q1 => q1 σ H1 _ P1.ok fun u H2 y ρ2 P2 V2 q2 =>
    ht σ H H2 ρ2 x y v u _ R P2.ok (V1.step E P1 P2) (V2.back fun a n => P1.free n) q2 fun w H' z P3 V3 q3 => kk w H' z ρ2 ((P1.trans P2).trans P3) (V3.back fun a n => (P1.trans P2).free n) q3)
def maxR : R2A := fun _ x y q => match x, y with
  | .dat (.int i), .dat (.int j) => q (.dat (.int (if j > i then j else i)))
  | _, _ => False
def minR : R2A := fun _ x y q => match x, y with
  | .dat (.int i), .dat (.int j) => q (.dat (.int (if j < i then j else i)))
  | _, _ => False
theorem EW.max2 (C : Ctx X k) (h : EW X a ρ fun x ρ1 => EW X b ρ1 fun y ρ2 => maxR ρ2 x y fun z => Q z ρ2) (hg : Gl X "max" := by rfl) (he : starEach [a, b] X.env = (false, eval a X.env) :: starEach [b] X.env := by rfl) (he2 : starEach [b] X.env = (false, eval b X.env) :: starEach [] X.env := by rfl) (hpl : (backTo pos (starEach [b] X.env)).any (·.1) = false := by rfl) : EW X (.Call (.Name "max" p) [a, b] [] pos) ρ Q :=
  EW.b2 (call_max2 C.calm) (fun σ H0 H ρ x y v u q R E V U t kk => by
    match x, y, t with
    | .dat (.int i), .dat (.int j), t =>
      obtain rfl := Rp.int_inv V
      obtain rfl := Rp.int_inv U
      exact ⟨i, j, rfl, kk _ H _ (Pex.refl E) (vdat (.int _)) t⟩) C.blt.max (by decide +kernel) h hg (by decide) (by decide) he he2 hpl
theorem EW.min2 (C : Ctx X k) (h : EW X a ρ fun x ρ1 => EW X b ρ1 fun y ρ2 => minR ρ2 x y fun z => Q z ρ2) (hg : Gl X "min" := by rfl) (he : starEach [a, b] X.env = (false, eval a X.env) :: starEach [b] X.env := by rfl) (he2 : starEach [b] X.env = (false, eval b X.env) :: starEach [] X.env := by rfl) (hpl : (backTo pos (starEach [b] X.env)).any (·.1) = false := by rfl) : EW X (.Call (.Name "min" p) [a, b] [] pos) ρ Q :=
  EW.b2 (call_min2 C.calm) (fun σ H0 H ρ x y v u q R E V U t kk => by
    match x, y, t with
    | .dat (.int i), .dat (.int j), t =>
      obtain rfl := Rp.int_inv V
      obtain rfl := Rp.int_inv U
      exact ⟨i, j, rfl, kk _ H _ (Pex.refl E) (vdat (.int _)) t⟩) C.blt.min (by decide +kernel) h hg (by decide) (by decide) he he2 hpl

/-! ### ranges as data -/
theorem rp_rg {K : PySem.W.Frag} {H : Hp} {f : Nat → Int} : ∀ l : List Nat, RpAll K H (l.map fun i => PyData.int (f i)) (l.map fun i => V.int (f i))
  | [] => .nil
  | i :: l => .cons (.int _) (rp_rg l)
theorem rp_rgV {K : PySem.W.Frag} {H : Hp} {n : Int} : RpAll K H (rngD 0 n.toNat) (rgV 0 n) := by
  unfold rngD rgV
  rw [Int.sub_zero]
  exact rp_rg _
theorem EW.tupRg {pos2 : Pos} (C : Ctx X k) (h : EW X a ρ fun x ρ1 => ∃ n : Int, x = .dat (.int n) ∧ n ≤ 1000000 ∧ -1000000 ≤ n ∧ Q (.dat (.tuple (rngD 0 n.toNat))) ρ1) (hg : Gl X "tuple" := by rfl) (hg2 : Gl X "range" := by rfl) (hs : starEach [.Call (.Name "range" p2) [a] [] p] X.env = (false, eval (.Call (.Name "range" p2) [a] [] p) X.env) :: starEach [] X.env := by rfl) (hs2 : starEach [a] X.env = (false, eval a X.env) :: starEach [] X.env := by rfl) :
    EW X (.Call (.Name "tuple" pos) [.Call (.Name "range" p2) [a] [] p] [] pos2) ρ Q := fun σ H R E kk pins s I => by
  refine (pe_tupRg C.calm hg C.blt.tuple (prg_1 hg2 C.blt.range pe_W hs2) hs).run pins s σ H R I (h σ H _ E fun v H1 x ρ1 P V ⟨n, e, b1, b2, q⟩ => ?_)
  subst e
  obtain rfl := Rp.int_inv V
  exact ⟨n, rfl, ⟨by omega, by omega, by omega, by omega, by omega⟩, fun l z => kk _ _ _ _ (P.trans (Pex.new P.ok z)) (vdat (.tuple (SqT.of upd_same) rp_rgV)) q⟩
theorem EW.lstRg {pos2 : Pos} (C : Ctx X k) (h : EW X a ρ fun x ρ1 => ∃ n : Int, x = .dat (.int n) ∧ n ≤ 1000000 ∧ -1000000 ≤ n ∧ Q (.frs (rngD 0 n.toNat)) ρ1) (hg : Gl X "list" := by rfl) (hg2 : Gl X "range" := by rfl) (hs : starEach [.Call (.Name "range" p2) [a] [] p] X.env = (false, eval (.Call (.Name "range" p2) [a] [] p) X.env) :: starEach [] X.env := by rfl) (hs2 : starEach [a] X.env = (false, eval a X.env) :: starEach [] X.env := by rfl) :
    EW X (.Call (.Name "list" pos) [.Call (.Name "range" p2) [a] [] p] [] pos2) ρ Q := fun σ H R E kk pins s I => by
  refine (pe_listRg C.calm hg C.blt.list (prg_1 hg2 C.blt.range pe_W hs2) hs).run pins s σ H R I (h σ H _ E fun v H1 x ρ1 P V ⟨n, e, b1, b2, q⟩ => ?_)
  subst e
  obtain rfl := Rp.int_inv V
  exact ⟨n, rfl, ⟨by omega, by omega, by omega, by omega, by omega⟩, fun l z => kk _ _ (.frs _) _ (P.trans (Pex.new P.ok z)) ⟨l, _, rfl, P.free z, upd_same, rp_rgV⟩ q⟩
end

/-! ### calls by name -/
def pick {α : Type} (perm : List Nat) (l : List α) : List α := perm.filterMap fun i => l[i]?
theorem pick_vals {vs : List V} {us : List Value} (r : Vals vs us) : ∀ perm : List Nat, Vals (pick perm vs) (pick perm us)
  | [] => .nil
  | i :: perm => by
    have t := pick_vals r perm
    unfold pick at t ⊢
    cases e : vs[i]? with
    | none =>
      have e2 := Vals.none_of r e
      simp only [List.filterMap_cons, e, e2]
      exact t
    | some v =>
      obtain ⟨u, e2, ru⟩ := Vals.get r e
      simp only [List.filterMap_cons, e, e2]
      exact .cons ru t
section
variable {K : PySem.W.Frag} {H : Hp} {ρ : Nv} {σ : L2.St}
theorem GsOk.pick {gs : List GV} {vs : List V} (G : GsOk K H ρ σ gs vs) : ∀ perm : List Nat, GsOk K H ρ σ (AW.pick perm gs) (AW.pick perm vs)
  | [] => .nil
  | i :: perm => by
    have t := GsOk.pick G perm
    unfold AW.pick at t ⊢
    cases e : gs[i]? with
    | none =>
      have e2 : vs[i]? = none := by
        rw [List.getElem?_eq_none_iff] at e ⊢
        rw [← G.length]; exact e
      simp only [List.filterMap_cons, e, e2]
      exact t
    | some v =>
      obtain ⟨u, e2, ru⟩ := G.get e
      simp only [List.filterMap_cons, e, e2]
      exact .cons ru t
theorem GsOk.append : ∀ {gs hs : List GV} {vs us : List V}, GsOk K H ρ σ gs vs → GsOk K H ρ σ hs us → GsOk K H ρ σ (gs ++ hs) (vs ++ us)
  | _, _, _, _, .nil, h => h
  | _, _, _, _, .cons g t, h => .cons g (GsOk.append t h)
theorem GsOk.step {H2 : Hp} {ρ2 : Nv} (E : NvOk K H σ ρ) (P : Pex K H ρ σ H2 ρ2) : ∀ {gs : List GV} {vs : List V}, GsOk K H ρ σ gs vs → GsOk K H2 ρ2 σ gs vs
  | _, _, .nil => .nil
  | _, _, .cons g t => .cons (g.step E P) (GsOk.step E P t)
end
def tKW (X : Cx) (kws : List Keyword) : TA := fun σ H Q => ∀ (pos : Pos) (pins : List (Addr × Obj)) (s : Shared), L2.Inv X pins σ H s → wpAny (model X.prog X.w) X.A (evalAll ((backToKw pos (keywordEach kws X.env)).map (·.2))) (AP X pins σ Q) X.xe s
theorem pk_W {X : Cx} {kws : List Keyword} : PK X kws (tKW X kws) := ⟨fun pos pins s σ H Q I h => h pos pins s I⟩
def EWks (X : Cx) (kws : List Keyword) (ρ : Nv) (Q : List GV → Nv → Prop) : Prop := ∀ (σ : L2.St) (H : Hp) (R : List V → Hp → Prop), NvOk X.K H σ ρ →
  (∀ vs H' gs ρ', Pex X.K H ρ σ H' ρ' → GsOk X.K H' ρ' σ gs vs → Q gs ρ' → R vs H') → tKW X kws σ H R
section
variable {X : Cx} {ρ : Nv} {kws : List Keyword} {e : Expr} {es : List Expr} {nm : Option Str} {kpos p pos : Pos} {k n : Nat} {x : Str} {ks : List Str} {perm : List Nat} {A : ASp} {Q : QE}
theorem EWks.nil {Q : List GV → Nv → Prop} (h : Q [] ρ) : EWks X [] ρ Q := fun σ H R E k pos pins s I =>
  pk_nil.run pos pins s σ H R I (k [] H [] ρ (Pex.refl E) .nil h)
theorem EWks.cons {Q : List GV → Nv → Prop} (h : EW X e ρ fun x ρ1 => ∃ g, asG x = some g ∧ EWks X kws ρ1 fun gs ρ2 => Q (g :: gs) ρ2) : EWks X (⟨nm, e, kpos⟩ :: kws) ρ Q := fun σ H R E k pos pins s I => by
  refine (pk_cons pe_W pk_W).run pos pins s σ H R I (EWg.run h E fun v H1 d ρ1 P1 V1 q => ?_)
  refine q σ H1 _ P1.ok fun vs H2 ds ρ2 P2 V2 q2 => ?_
  exact k _ _ _ _ (P1.trans P2) (.cons (V1.step P1.ok P2) V2) q2
/-- a def that may be called by name: n values first, then the names ks; perm: where each parameter stands among them -/
structure CalK (P : Program) (w : World) (K : PySem.W.Frag) (mg : Str → Option Value) (base : Heap) (k : Nat) (x : Str) (n : Nat) (ks : List Str) (perm : List Nat) (A : ASp) : Prop where
  ex : ∃ (f : Addr) (fd : FuncData) (ps : List Str), FnG P w K mg base CX0 k f fd ps (toSp K A) ∧ mg x = some (.ref f) ∧ PySem.W.keepIn K (.ref f) = true ∧
    ∀ (s : Shared) (us ws : List Value), K.In s.heap → us.length = n → ws.length = ks.length → BindsTo s fd ⟨us, ks.zip ws⟩ (ps.zip (pick perm (us ++ ws)))
theorem run_GK {f : Addr} {fd : FuncData} {ps : List Str} {sp : Sp} {E : XK} {pins : List (Addr × Obj)} {σ : L2.St} {H : Hp} {s : Shared} {R : VK} {us ws : List Value} {vs zs : List V} (F : FnG X.prog X.w X.K X.mg X.base CX0 k f fd ps sp) (C : Ctx X k)
    (hb : ∀ (s : Shared) (us ws : List Value), X.K.In s.heap → us.length = n → ws.length = ks.length → BindsTo s fd ⟨us, ks.zip ws⟩ (ps.zip (pick perm (us ++ ws))))
    (I : L2.Inv X pins σ H s) (r : Vals vs us) (rz : Vals zs ws) (l1 : vs.length = n) (l2 : zs.length = ks.length) (h : sp (pick perm (vs ++ zs)) H R E) : wpAny (model X.prog X.w) X.A (call (.ref f) us (ks.zip ws)) (EP X pins σ R) X.xe s :=
  wpAny_call (codeAny_mono (F.run _ _ s H ⟨us, ks.zip ws⟩ (pick perm (us ++ ws)) (pick perm (vs ++ zs)) R E C.grd C.room I.env0 (hb s us ws I.kIn (r.length.symm.trans l1) (rz.length.symm.trans l2)) (pick_vals (r.append rz) perm) h) fun r s' hq => cr_end pass0 I hq)
theorem callK_end {gs hs : List GV} {vs zs : List V} {H H1 H2 : Hp} {ρ1 ρ2 : Nv} {σ : L2.St} {R : VK} (P1 : Pex X.K H ρ σ H1 ρ1) (G1 : GsOk X.K H1 ρ1 σ gs vs) (P2 : Pex X.K H1 ρ1 σ H2 ρ2) (G2 : GsOk X.K H2 ρ2 σ hs zs) (kk : ∀ v H' x ρ', Pex X.K H ρ σ H' ρ' → VOk X.K H H' ρ' σ x v → Q x ρ' → R v H')
    (nd : (owns (pick perm (gs ++ hs))).Nodup) (q : A (svs ρ2 (pick perm (gs ++ hs))) fun y as' => Q y (bck ρ2 (pick perm (gs ++ hs)) as')) : toSp X.K A (pick perm (vs ++ zs)) H2 R E0 := by
  have G := (GsOk.append (G1.step P1.ok P2) G2).pick perm
  refine ⟨svs ρ2 (pick perm (gs ++ hs)), _, G.nv P2.ok nd, fun i p ds h => let ⟨_, _, _, _, e⟩ := svs_hol h; e, q, fun y as' v H' q2 P3 V3 no => ?_⟩
  have P4 := G.pex P2.ok nd P3
  exact kk v H' y _ ((P1.trans P2).trans P4) (no.vok (fun a z => (P1.trans P2).free z) V3) q2
/-- f(k = v, ..) -/
theorem EW.callK0 (c : CalK X.prog X.w X.K X.mg X.base k x 0 ks perm A) (C : Ctx X k) (hg : Gl X x) (h : EWks X kws ρ fun gs ρ1 => gs.length = ks.length ∧ (owns (pick perm gs)).Nodup ∧ A (svs ρ1 (pick perm gs)) fun y as' => Q y (bck ρ1 (pick perm gs) as'))
    (hall : (backToKw pos (keywordEach kws X.env)).all (·.1.isSome) = true := by rfl) (hks : (backToKw pos (keywordEach kws X.env)).filterMap (·.1) = ks := by rfl) (hdb : (x == ("__debug__" : Str)) = false := by decide)
    (hpl : ((backTo pos (starEach [] X.env)).any (·.1) || (backToKw pos (keywordEach kws X.env)).any (·.1.isNone)) = false := by rfl) : EW X (.Call (.Name x p) [] kws pos) ρ Q := fun σ H R E kk pins s I => by
  obtain ⟨f, fd, ps, F, hm, hk, hb⟩ := c.ex
  refine wpAny_Call_Name_kw (ld_glob I hg hm ?_ hdb)
  refine PySem.W.callWith_KW0 (h₀ := X.base) I.ok.mod.kin hk hall ?_ hpl
  refine thn ((pk_W.run pos pins s σ H _ I (h σ H (fun zs H2 => zs.length = ks.length ∧ toSp X.K A (pick perm ([] ++ zs)) H2 R E0) E fun vs H1 gs ρ1 P1 G1 ⟨l, nd, q⟩ => ⟨by rw [← G1.length]; exact l, callK_end (gs := []) (vs := []) (Pex.refl E) .nil P1 G1 kk nd q⟩))) fun ws s2 ⟨zs, H2, I2, rz, l2, q2⟩ => ⟨I2.kIn, ?_⟩
  rw [hks]
  exact run_GK (us := []) F C hb I2 .nil rz rfl l2 q2
/-- f(e, .., k = v, ..) -/
theorem EW.callK (c : CalK X.prog X.w X.K X.mg X.base k x n ks perm A) (C : Ctx X k) (hg : Gl X x) (h : EWgs X (e :: es) ρ fun gs ρ1 => gs.length = n ∧ EWks X kws ρ1 fun hs ρ2 => hs.length = ks.length ∧ (owns (pick perm (gs ++ hs))).Nodup ∧ A (svs ρ2 (pick perm (gs ++ hs))) fun y as' => Q y (bck ρ2 (pick perm (gs ++ hs)) as'))
    (hall : (backToKw pos (keywordEach kws X.env)).all (·.1.isSome) = true := by rfl) (hks : (backToKw pos (keywordEach kws X.env)).filterMap (·.1) = ks := by rfl) (hdb : (x == ("__debug__" : Str)) = false := by decide) (he : starEach (e :: es) X.env = (false, eval e X.env) :: starEach es X.env := by rfl)
    (hpl : ((backTo pos (starEach (e :: es) X.env)).any (·.1) || (backToKw pos (keywordEach kws X.env)).any (·.1.isNone)) = false := by rfl) : EW X (.Call (.Name x p) (e :: es) kws pos) ρ Q := fun σ H R E kk pins s I => by
  obtain ⟨f, fd, ps, F, hm, hk, hb⟩ := c.ex
  refine wpAny_Call_Name_kw (ld_glob I hg hm ?_ hdb)
  refine PySem.W.callWith_KW (h₀ := X.base) I.ok.mod.kin hk hall ?_ hpl he
  refine thn (pa_W.run pos pins s σ H (fun vs H1 => vs.length = n ∧ tKW X kws σ H1 fun zs H2 => zs.length = ks.length ∧ toSp X.K A (pick perm (vs ++ zs)) H2 R E0) I (h σ H _ E fun vs H1 gs ρ1 P1 G1 ⟨l1, q1⟩ => ?_)) fun us s1 ⟨vs, H1, I1, r, l1, q⟩ => ?_
  · refine ⟨?_, ?_⟩
    · rw [← G1.length]; exact l1
    · exact q1 σ H1 _ P1.ok fun zs H2 hs ρ2 P2 G2 ⟨l2, nd, q⟩ => ⟨by rw [← G2.length]; exact l2, callK_end P1 G1 P2 G2 kk nd q⟩
  · refine thn (pk_W.run pos pins s1 σ H1 _ I1 q) fun ws s2 ⟨zs, H2, I2, rz, l2, q2⟩ => ⟨I2.kIn, ?_⟩
    rw [hks]
    exact run_GK F C hb I2 r rz l1 l2 q2
end
end AW

/-! AW13: a law's end: the promise of the law's def at the law's own call. -/
namespace AW
open PySem PySem.Spec PyProof.Rows L2
/-- the law's promise -/
def aLaw (n : Nat) : ASp := fun as R => ∃ ns : List Int, as = [.dat (.list (ns.map .int))] ∧ ns.length ≤ n ∧ R (.dat (.bool true)) as
section
variable {P : Program} {w : World} {K : PySem.W.Frag} {mg mb : Str → Option Value} {k n : Nat} {fa a : Addr} {fd : FuncData} {x : Str} {s1 : Shared} {vs : List Value} {ns : List Int}
theorem rp_intsV {H : Hp} : ∀ ns : List Int, RpAll K H (ns.map .int) (ns.map V.int)
  | [] => .nil
  | i :: ns => .cons (.int i) (rp_intsV ns)
/-- what the call leaves behind -/
def Done (s1 : Shared) (r : Result) (s' : Shared) : Prop := r = .ok (.ret (.bool true)) ∧ OldK s1.heap s'.heap ∧ s'.os = s1.os ∧ AllBare s'.gens
/-- from a heap in which at most the script is known -/
theorem law_at {H : Hp} {ob : Obj} (kin : K.In s1.heap) (hns : s1.heap.Ns mainGlobals mg) (hb : s1.heap.Ns builtinsNs mb) (hbb : ∀ y : Str, y ≠ "__name__" → mb y = bootBuiltins y) (hlim : s1.heap.NoLimit) (hgen : s1.gens = #[]) (seq : ∃ (m : Array Value) (j : Nat), ob.data = .seq m j)
    (hob : s1.heap.get? a = some ob) (hH : ∀ b u, H b = some u → b = a ∧ (∃ o xs, u = .frz o (.lst xs)) ∧ K.lookup a = none) (hok : HOk P w H s1.heap) (rp : Rp K H (.list (ns.map .int)) (.ref a)) (hl : ns.length ≤ n) (hr : Room k callerA)
    (F : ∀ base : Heap, K.In base → base.Ns mainGlobals mg → FnG P w K mg base CX0 k fa fd [x] (toSp K (aLaw n))) (hbind : ∀ (s : Shared) (u : Value), BindsTo s fd ⟨[u], []⟩ [(x, u)]) :
    codeAny (model P w) callerA (.call (.ref fa) ⟨[.ref a], []⟩) (Done s1) s1 := by
  have free : ∀ {b : Addr} {o : Obj}, s1.heap.get? b = some o → (∀ m j, o.data ≠ .seq m j) → H b = none := fun {b o} e d => by
    cases q : H b with
    | none => rfl
    | some u =>
      obtain ⟨rfl, _⟩ := hH b u q
      obtain ⟨m, j, z⟩ := seq
      rw [hob] at e
      cases e
      exact (d m j z).elim
  have keepNs : ∀ {b : Addr} {m : Str → Option Value}, s1.heap.Ns b m → (hidT s1.heap H).Ns b m := fun {b m} h => by
    obtain ⟨o, es, ep, e, d, r⟩ := h
    exact ⟨o, es, ep, hidT_get e (free e fun m j z => by rw [d] at z; cases z), d, r⟩
  have kin2 : K.In (hidT s1.heap H) := fun b o e => hidT_get (kin b o e) (by
    cases q : H b with
    | none => rfl
    | some u =>
      obtain ⟨rfl, _, z⟩ := hH b u q
      rw [z] at e
      cases e)
  have M : Mod K mg (hidT s1.heap H) := ⟨kin2, keepNs hns, ⟨mb, keepNs hb, hbb⟩, by obtain ⟨mc, z1, z2⟩ := hlim; exact ⟨mc, keepNs z1, z2⟩⟩
  have E0' : Env0 P w K mg (hidT s1.heap H) callerA [] s1 H := ⟨rfl, M, fun b o e => of_hidT e, by rw [hidT_size]; exact Nat.le_refl _, trivial, fun b z => absurd (show b ∈ ([] : List Addr) from z) List.not_mem_nil, hok, .of_eq hgen⟩
  have sp : toSp K (aLaw n) [.ref a] H (fun v _ => v = .bl true) E0 := by
    refine ⟨[.dat (.list (ns.map .int))], fun y _ => y = .dat (.bool true), ⟨by simp, fun i s h => ?_, fun i j b p q ds es hne h1 h2 => ?_⟩, fun i p ds h => ?_, ⟨ns, rfl, hl, rfl⟩, fun y as' v H' q _ V _ => ?_⟩
    · cases i with
      | zero =>
        simp only [List.getElem?_cons_zero, Option.some.injEq] at h
        subst h
        exact ⟨_, rfl, _, rfl, rp⟩
      | succ i => simp at h
    · cases i <;> simp at h1
    · cases i <;> simp at h
    · subst q
      exact Rp.bool_inv V
  refine codeAny_mono ((F _ kin2 (keepNs hns)).run callerA [] s1 H ⟨[.ref a], []⟩ [.ref a] [.ref a] _ E0 rfl hr E0' (hbind s1 (.ref a)) (.cons rfl .nil) sp) fun r s' h => ?_
  match r, h with
  | .error e, h => exact h.elim
  | .ok .next, h => exact False.elim h
  | .ok .brk, h => exact False.elim h
  | .ok .cont, h => exact False.elim h
  | .ok (.ret u), ⟨v, H', os, bare, un, hok', ru, (q : v = .bl true)⟩ =>
    subst q
    obtain rfl : u = Value.bool true := ru
    refine ⟨rfl, OldK.of_keep fun b o e => ?_, os, bare⟩
    cases z : H b with
    | none => exact un.keep b o e z (fun y => absurd (show b ∈ ([] : List Addr) from y) List.not_mem_nil) (by simp)
    | some u =>
      obtain ⟨rfl, ⟨ob', xs, rfl⟩, _⟩ := hH b u z
      obtain ⟨e1, _⟩ := hok b _ z
      obtain ⟨e2, _⟩ := hok' b _ (un.frzs b ob' _ z)
      rw [e] at e1
      cases e1
      exact e2
theorem law_any (kin : K.In s1.heap) (hns : s1.heap.Ns mainGlobals mg) (hb : s1.heap.Ns builtinsNs mb) (hbb : ∀ y : Str, y ≠ "__name__" → mb y = bootBuiltins y) (hlim : s1.heap.NoLimit) (hgen : s1.gens = #[]) (hob : s1.heap.get? a = some { cls := .type "list", data := .seq vs.toArray }) (hi : IntsAre vs ns)
    (hl : ns.length ≤ n) (hn : n ≤ sizeLine) (hr : Room k callerA) (F : ∀ base : Heap, K.In base → base.Ns mainGlobals mg → FnG P w K mg base CX0 k fa fd [x] (toSp K (aLaw n))) (hbind : ∀ (s : Shared) (u : Value), BindsTo s fd ⟨[u], []⟩ [(x, u)]) :
    codeAny (model P w) callerA (.call (.ref fa) ⟨[.ref a], []⟩) (Done s1) s1 := by
  have rv := vals_ints hi
  have z1 : (ns.map V.int).length ≤ sizeLine := by rw [List.length_map]; exact Nat.le_trans hl hn
  cases hka : K.lookup a with
  | some o =>
    have e := kin a o hka
    rw [hob] at e
    cases e
    exact law_at (H := fun _ => none) kin hns hb hbb hlim hgen ⟨_, _, rfl⟩ hob (fun b u z => by cases z) (fun b u z => by cases z) (.list (.inr ⟨vs, _, hka, z1, rv⟩) (rp_intsV ns)) hl hr F hbind
  | none =>
    have at_ : ∀ {b : Addr} {u : HO}, (if b = a then some (HO.frz { cls := .type "list", data := .seq vs.toArray } (.lst (ns.map V.int))) else none) = some u → b = a ∧ u = .frz { cls := .type "list", data := .seq vs.toArray } (.lst (ns.map V.int)) := by
      intro b u z
      split at z
      · cases z; exact ⟨‹_›, rfl⟩
      · cases z
    refine law_at (H := fun b => if b = a then some (.frz { cls := .type "list", data := .seq vs.toArray } (.lst (ns.map V.int))) else none) kin hns hb hbb hlim hgen ⟨_, _, rfl⟩ hob (fun b u z => ?_) (fun b u z => ?_) (.list (.inl ⟨_, if_pos rfl⟩) (rp_intsV ns)) hl hr F hbind
    · obtain ⟨e, rfl⟩ := at_ z
      exact ⟨e, ⟨_, _, rfl⟩, hka⟩
    · obtain ⟨rfl, rfl⟩ := at_ z
      exact ⟨hob, z1, vs, _, rv, hob⟩
end
/-- what the law's head asks, of the promise of the law's def -/
theorem law_end {l : PySem.W.OpenLaw} {n k : Nat} {q : Program} {loose : List Str} {XP : (Str → Option Value) → Heap → Prop} {YP : World → Heap → Prop} {d : DefRec} {K : Params → PySem.W.Frag} {x : Str} (most : l.most = some n) (small : n ≤ sizeLine) (nodef : d.params.defaults = []) (hr : Room k callerA)
    (frag : ∀ (w : World) (h : Heap), YP w h → (K w.params).In h)
    (F : ∀ (w : World) (mg : Str → Option Value) (fa : Addr) (h : Heap), (K w.params).In h → h.Ns mainGlobals mg → mg d.name = some (.ref fa) → ∃ fd : FuncData, (∀ (s : Shared) (u : Value), BindsTo s fd ⟨[u], []⟩ [(x, u)]) ∧
      ∀ base : Heap, (K w.params).In base → base.Ns mainGlobals mg → FnG l.prog w (K w.params) mg base CX0 k fa fd [x] (toSp (K w.params) (aLaw n))) :
    PySem.W.WalkO q loose XP YP l.row.toRowW d [] (fun f vs => PySem.call f vs) :=
  Att.attach_call most nodef fun w _ s1 mg mb fa _ _ _ _ a vs ns G Y _ _ _ named script hints len nogen => by
    obtain ⟨fd, hb, hF⟩ := F w mg fa _ (frag w _ Y) G.T.g named
    exact law_any (frag w _ Y) G.T.g G.T.b G.T.builtins G.T.nolimit nogen script hints len small hr hF hb
end AW

/-! AW14: small helps for walks. -/
namespace AW
open PySem PySem.Spec PyProof.Rows L2
theorem ite_b {b : Bool} {A B : Prop} (h1 : b = true → A) (h2 : b = false → B) : if b = true then A else B := by
  cases b
  · exact (if_neg Bool.false_ne_true).symm ▸ h2 rfl
  · exact (if_pos rfl).symm ▸ h1 rfl
theorem ite_dec {p : Prop} [Decidable p] {A B : Prop} (h1 : p → A) (h2 : ¬ p → B) : if decide p = true then A else B :=
  ite_b (fun h => h1 (of_decide_eq_true h)) fun h => h2 (of_decide_eq_false h)
theorem Cal.mono {P : Program} {w : World} {K : PySem.W.Frag} {mg : Str → Option Value} {base : Heap} {j k : Nat} {x : Str} {A : ASp} (c : Cal P w K mg base j x A) (h : j ≤ k) : Cal P w K mg base k x A := by
  obtain ⟨f, fd, ps, F, r⟩ := c.ex
  exact ⟨f, fd, ps, F.mono h, r⟩
theorem CalK.mono {P : Program} {w : World} {K : PySem.W.Frag} {mg : Str → Option Value} {base : Heap} {j k n : Nat} {x : Str} {ks : List Str} {perm : List Nat} {A : ASp} (c : CalK P w K mg base j x n ks perm A) (h : j ≤ k) : CalK P w K mg base k x n ks perm A := by
  obtain ⟨f, fd, ps, F, r⟩ := c.ex
  exact ⟨f, fd, ps, F.mono h, r⟩
/-- sizes -/
theorem log2_lt {n k : Nat} (h : n < 2 ^ k) (hk : 0 < k) : n.log2 < k := by
  by_cases e : n = 0
  · subst e; simpa using hk
  · exact (Nat.log2_lt e).mpr h
theorem natAbs_lt {i : Int} {k : Nat} (h0 : -(2 ^ k : Nat) < i) (h1 : i < (2 ^ k : Nat)) : i.natAbs < 2 ^ k := by omega
theorem CDivA.small {i j : Int} (h : 0 < j) (h1 : j < 1073741824) : CDivA i j := .inl ⟨h, h1⟩
theorem CDivA.big {i j : Int} (k : Nat) (h : 0 < j) (h1 : j < (2 ^ k : Nat)) (hk : k ≤ 9000) (h0 : 0 < k) : CDivA i j :=
  .inr ⟨h, Nat.lt_of_lt_of_le (log2_lt (natAbs_lt (by have : (0 : Int) ≤ ((2 ^ k : Nat) : Int) := Int.natCast_nonneg _; omega) h1) h0) hk⟩
theorem CMulA.l {i j : Int} (h : -(2 ^ 64) < i) (h1 : i < 2 ^ 64) : CMulA i j := .inl (.inl ⟨h, h1⟩)
theorem CMulA.r {i j : Int} (h : -(2 ^ 64) < j) (h1 : j < 2 ^ 64) : CMulA i j := .inl (.inr ⟨h, h1⟩)
/-- the generator's state, b numbers at most were drawn by counting -/
def Urn (b : Nat) (ds : List PyData) : Prop := ∃ g m c : Int, ds = [.int g, .int m, .int c] ∧ 0 ≤ g ∧ 0 ≤ m ∧ m < 2305843009213693951 ∧ 0 ≤ c ∧ c ≤ b
theorem Urn.mono {a b : Nat} {ds : List PyData} (h : Urn a ds) (l : a ≤ b) : Urn b ds := by
  obtain ⟨g, m, c, e, h1, h2, h3, h4, h5⟩ := h
  exact ⟨g, m, c, e, h1, h2, h3, h4, by omega⟩
theorem powOk {i j : Int} (k : Nat) (h0 : 0 ≤ j) (h : i.natAbs < 2 ^ k) (hb : (k : Int) * j ≤ 2 ^ 27) (hk : 0 < k) : CPowA i j := by
  refine ⟨h0, Int.le_trans (Int.mul_le_mul_of_nonneg_right ?_ h0) hb⟩
  unfold Builtin.Int.intBits
  split
  · omega
  · have := log2_lt h hk
    omega
end AW

/-! AW15: small data: may be compared, may be shown. -/
namespace AW
open PySem PySem.Spec PyProof.Rows L2 PySem.StrLaws
structure Sml (n m : Nat) (d : PyData) : Prop where
  lay : d.canLay0 = true
  sh : d.showable = true
  lv : d.leavesShort 301 = true
  bk : d.bulk ≤ n
  dp : d.depth ≤ m
structure SmlAll (n m : Nat) (ds : List PyData) : Prop where
  lay : PyData.canLayAll0 ds = true
  sh : PyData.showableAll ds = true
  lv : PyData.leavesShortAll 301 ds = true
  bk : PyData.bulkAll ds ≤ n
  dp : PyData.depthAll ds ≤ m
theorem Sml.mono {n m n' m' : Nat} {d : PyData} (h : Sml n m d) (hn : n ≤ n') (hm : m ≤ m') : Sml n' m' d := ⟨h.lay, h.sh, h.lv, Nat.le_trans h.bk hn, Nat.le_trans h.dp hm⟩
theorem SmlAll.mono {n m n' m' : Nat} {ds : List PyData} (h : SmlAll n m ds) (hn : n ≤ n') (hm : m ≤ m') : SmlAll n' m' ds := ⟨h.lay, h.sh, h.lv, Nat.le_trans h.bk hn, Nat.le_trans h.dp hm⟩
theorem Sml.none : Sml 0 0 .none := ⟨rfl, rfl, rfl, Nat.le_refl _, Nat.le_refl _⟩
theorem Sml.bool (b : Bool) : Sml 0 0 (.bool b) := ⟨rfl, rfl, rfl, Nat.le_refl _, Nat.le_refl _⟩
def Nm (i : Int) : Prop := i.natAbs < 10 ^ 250
theorem Sml.int {i : Int} (h : Nm i) : Sml 0 0 (.int i) := by
  refine ⟨rfl, ?_, ?_, Nat.le_refl _, Nat.le_refl _⟩
  · have h2 : i.natAbs.log2 < 1000 := log2_lt (Nat.lt_of_lt_of_le h (by decide +kernel)) (by decide)
    simp only [PyData.showable, decide_eq_true_eq]
    omega
  · have e := int_text_length_le10 (k := 250) (by decide) h
    simp only [PyData.leavesShort, decide_eq_true_eq]
    show (Str.ofString (toString i)).length ≤ 301
    rw [PySem.ofString_length]
    omega
theorem Sml.str {x : Str} (h : x.cps.toList.all (fun c => decide (c < 1114112)) = true) : Sml x.length 0 (.str x) := by
  have h' : ∀ c ∈ x.cps.toList, c < 1114112 := fun c hc => by simpa using List.all_eq_true.mp h c hc
  refine ⟨?_, rfl, ?_, Nat.le_refl _, Nat.le_refl _⟩
  · simp only [PyData.canLay0, PyData.strOk]
    rw [Array.all_eq_true_iff_forall_mem]
    intro c hc
    have := h' c (by simpa using hc)
    simpa using this
  · simp only [PyData.leavesShort, List.all_eq_true, decide_eq_true_eq]
    intro c hc
    have := h' c hc
    have e : (16 : Nat) ^ 8 = 4294967296 := by decide
    omega
theorem SmlAll.nil : SmlAll 0 0 [] := ⟨rfl, rfl, rfl, Nat.le_refl _, Nat.le_refl _⟩
theorem SmlAll.cons {n m n' m' : Nat} {d : PyData} {ds : List PyData} (h : Sml n m d) (t : SmlAll n' m' ds) : SmlAll (n + 1 + n') (max m m') (d :: ds) := by
  refine ⟨?_, ?_, ?_, ?_, ?_⟩
  · simp only [PyData.canLayAll0, h.lay, t.lay, Bool.and_self]
  · simp only [PyData.showableAll, h.sh, t.sh, Bool.and_self]
  · simp only [PyData.leavesShortAll, h.lv, t.lv, Bool.and_self]
  · have := h.bk; have := t.bk; simp only [PyData.bulkAll]; omega
  · have := h.dp; have := t.dp; simp only [PyData.depthAll]; omega
theorem SmlAll.all {n m : Nat} : ∀ {ds : List PyData}, (∀ d ∈ ds, Sml n m d) → SmlAll (ds.length * (n + 1)) m ds
  | [], _ => SmlAll.nil.mono (Nat.zero_le _) (Nat.zero_le _)
  | d :: ds, h => by
    refine (SmlAll.cons (h d List.mem_cons_self) (SmlAll.all fun e he => h e (List.mem_cons_of_mem _ he))).mono ?_ (by omega)
    rw [List.length_cons, Nat.add_mul]
    omega
theorem Sml.list {n m : Nat} {ds : List PyData} (h : SmlAll n m ds) : Sml n (m + 1) (.list ds) := by
  refine ⟨?_, ?_, ?_, ?_, ?_⟩
  · simpa only [PyData.canLay0] using h.lay
  · simpa only [PyData.showable] using h.sh
  · simpa only [PyData.leavesShort] using h.lv
  · simpa only [PyData.bulk] using h.bk
  · have := h.dp; simp only [PyData.depth]; omega
theorem Sml.tuple {n m : Nat} {ds : List PyData} (h : SmlAll n m ds) : Sml n (m + 1) (.tuple ds) := by
  refine ⟨?_, ?_, ?_, ?_, ?_⟩
  · simpa only [PyData.canLay0] using h.lay
  · simpa only [PyData.showable] using h.sh
  · simpa only [PyData.leavesShort] using h.lv
  · simpa only [PyData.bulk] using h.bk
  · have := h.dp; simp only [PyData.depth]; omega
theorem Sml.shaped {n m : Nat} {d : PyData} (h : Sml n m d) (hm : m ≤ 64) : SeqAt.shaped d = true := by
  unfold SeqAt.shaped
  have := h.dp
  rw [h.lay, Bool.true_and, decide_eq_true_eq]
  omega
theorem Sml.shw {n m : Nat} {d : PyData} (h : Sml n m d) (hm : m ≤ 64) (hn : n ≤ 50000) : Shw d := by
  refine ⟨PyData.hasDict_of_canLay d h.lay, h.sh, ?_, Nat.le_trans h.dp hm⟩
  have e := PyData.shown_le_bulk 301 (by decide) d h.lv
  have b := h.bk
  have : (sizeLine : Nat) = 16777216 := sizeLine_eq
  have : (301 + 2) * d.bulk ≤ 303 * 50000 := Nat.mul_le_mul_left _ (Nat.le_trans b hn)
  omega
theorem Nm.of {i : Int} (k : Nat) (h0 : -(10 ^ k : Nat) < i) (h1 : i < (10 ^ k : Nat)) (hk : k ≤ 250) : Nm i := by
  have h2 : i.natAbs < 10 ^ k := by omega
  exact Nat.lt_of_lt_of_le h2 (Nat.pow_le_pow_right (by decide) hk)
/-- lists of ints, of places -/
theorem smlInts {ns : List Int} (h : ∀ n ∈ ns, Nm n) : SmlAll ns.length 0 (ns.map .int) :=
  (SmlAll.all (n := 0) (m := 0) (ds := ns.map .int) fun d hd => by
    obtain ⟨n, hn, rfl⟩ := List.mem_map.mp hd
    exact .int (h n hn)).mono (by simp) (Nat.le_refl _)
theorem eqv_self {n m : Nat} {d : PyData} (h : Sml n m d) : PyData.eqv d d = true := SeqAt.eqv_refl d h.lay
/-- a slot that holds no list of ours -/
def nH : SV → Bool
  | .hol _ _ => false
  | _ => true
theorem pin_nH {ρ : Nv} {i : Nat} {s : SV} (h : ρ[i]? = some s) (n : nH s = true) : pinB ρ i = false := by
  unfold pinB
  rw [h]
  cases s with
  | hol p ds => simp [nH] at n
  | un => rfl
  | dat d => rfl
end AW

/-! the law's defs -/
namespace VM
open PySem PySem.Spec PyProof.Rows L2 AW
def top (i : Nat) : Stmt := PySem.Challenge.pw_votemoves_k02_margins_and_outcomes.main.body.getD i (.Pass ⟨0, 0, 0, 0⟩)
abbrev s_total_of : Stmt := top 4
abbrev s_rest : Stmt := top 5
abbrev s_margin : Stmt := top 6
abbrev s_outcome : Stmt := top 7
abbrev s__law_urn : Stmt := top 9
abbrev s__law_take : Stmt := top 10
abbrev s__law_of : Stmt := top 11
abbrev s__law_votes : Stmt := top 12
abbrev s__law_word : Stmt := top 13
abbrev s__law_gang_right : Stmt := top 14
abbrev s__law_right : Stmt := top 15
abbrev s_law : Stmt := top 16
end VM

/-! the draws: a state from the script, a number below a bound, one of some -/
namespace VM
open PySem PySem.Spec PyProof.Rows L2 AW
section
variable {P : Program} {w : World} {K : PySem.W.Frag} {mg : Str → Option Value} {base : Heap}
abbrev N__law_urn : List Str := ["_law_script", "_law_k", "_law_cell", "_law_great"]
theorem sc__law_urn : FnScope N__law_urn ["_law_script", "_law_k"] (defScope s__law_urn) := ⟨rfl, rfl, rfl, by decide +kernel, rfl, by decide +kernel, by decide +kernel⟩
def intsD (ns : List Int) : PyData := .list (ns.map .int)
def a__law_urn : ASp := fun as R => ∃ (ns : List Int) (k : Nat), as = [.dat (intsD ns), .dat (.int k)] ∧ k < 1000 ∧ ∀ ds, Urn 0 ds → R (.frs ds) as
theorem atI_ints {ns : List Int} {k : Nat} (h : k < ns.length) : L2.atI (ns.map PyData.int) (k : Nat) = some (.int (ns.getD k 0)) := by
  have e : (ns.map PyData.int)[k]? = some (.int (ns.getD k 0)) := by
    rw [List.getElem?_map, List.getD_eq_getElem?_getD, List.getElem?_eq_getElem h]; rfl
  exact atI_nat e
theorem ok__law_urn {f : Addr} {fd : FuncData} (F : Fun K "_law_urn" "_law_urn" s__law_urn f fd) (B : Blt mg) : FnG P w K mg base CX0 1 f fd ["_law_script", "_law_k"] (toSp K a__law_urn) := by
  refine fnA F sc__law_urn (by decide) B (fun as R h => ?_) fun cdv A outer s H E C as R h => ?_
  · obtain ⟨_, _, rfl, _⟩ := h; rfl
  obtain ⟨ns, k, rfl, hk, hR⟩ := h
  refine SW.cut (fun ρ => ∃ cell : Int, ρ = [.dat (intsD ns), .dat (.int k), .dat (.int cell), .un]) ?_ ?_
  · refine S1.asg (i := 2) C ?_ -- _law_cell =
    refine EW.ifExp ?_
    refine TW.cmp (opA_intB op_lt) ?_ (nomark _)
    refine EW.nameD (i := 1) rfl ?_ -- _law_k
    refine EW.len C ?_
    refine EW.nameD (i := 0) rfl ?_ -- _law_script
    refine ⟨_, rfl, ?_⟩
    refine ite_dec (fun h1 => ?_) (fun h1 => ?_)
    · -- then
      refine EW.ix ?_
      refine EW.nameD (i := 0) rfl ?_ -- _law_script
      refine EW.nameD (i := 1) rfl ?_ -- _law_k
      refine ⟨_, _, rfl, atI_ints (by simpa using h1), ?_⟩
      exact ⟨rfl, _, rfl⟩
    · -- else
      refine EW.add ?_
      refine EW.mul ?_
      refine EW.int ?_
      refine EW.nameD (i := 1) rfl ?_ -- _law_k
      refine ⟨.l (by omega) (by omega), ?_⟩
      refine EW.int ?_
      exact ⟨rfl, _, rfl⟩
  rintro ρ ⟨cell, rfl⟩
  refine SW.cut (fun ρ => ∃ g : Int, 0 ≤ g ∧ ρ = [.dat (intsD ns), .dat (.int k), .dat (.int cell), .dat (.int g)]) ?_ ?_
  · refine S1.asg (i := 3) C ?_ -- _law_great =
    refine EW.mul ?_
    refine EW.mod ?_
    refine EW.abs C ?_
    refine EW.nameD (i := 2) rfl ?_ -- _law_cell
    refine ⟨_, rfl, ?_⟩
    refine EW.pow ?_
    refine EW.pow ?_
    refine EW.int ?_
    refine EW.int ?_
    refine ⟨powOk 4 (by omega) (by omega) (by omega) (by omega), ?_⟩
    refine EW.int ?_
    refine ⟨powOk 200 (by decide) (by decide) (by omega) (by omega), ?_⟩
    refine ⟨(by decide : (0 : Int) < _), ?_⟩
    refine EW.intC C ?_
    refine EW.cmp (opA_intB op_ge) ?_ (nomark _)
    refine EW.abs C ?_
    refine EW.nameD (i := 2) rfl ?_ -- _law_cell
    refine ⟨_, rfl, ?_⟩
    refine EW.pow ?_
    refine EW.int ?_
    refine EW.int ?_
    refine ⟨powOk 4 (by omega) (by omega) (by omega) (by omega), ?_⟩
    have b2 : ∀ b : Bool, 0 ≤ b2n b ∧ b2n b ≤ 1 := fun b => by cases b <;> decide
    have mb : ∀ (i : Int) (b : Bool), CMulA i (b2n b) := fun i b => .r (by have := (b2 b).1; omega) (by have := (b2 b).2; omega)
    refine ⟨mb _ _, ?_⟩
    exact ⟨rfl, _, Int.mul_nonneg (Int.emod_nonneg _ (by decide)) (b2 _).1, rfl⟩
  rintro ρ ⟨g, hg, rfl⟩
  refine SW.cons ?_
  refine S1.ret ?_
  refine EW.list ?_
  refine EWds.cons ?_
  refine EW.nameD (i := 3) rfl ?_ -- _law_great
  refine ⟨_, rfl, ?_⟩
  refine EWds.cons ?_
  refine EW.mod ?_
  refine EW.add ?_
  refine EW.add ?_
  refine EW.mul ?_
  refine EW.mod ?_
  refine EW.nameD (i := 2) rfl ?_ -- _law_cell
  refine EW.int ?_
  refine ⟨(by decide : (0 : Int) < _), ?_⟩
  refine EW.int ?_
  refine ⟨.r (by omega) (by omega), ?_⟩
  refine EW.mul ?_
  refine EW.mul ?_
  refine EW.int ?_
  refine EW.nameD (i := 1) rfl ?_ -- _law_k
  refine ⟨.l (by omega) (by omega), ?_⟩
  refine EW.nameD (i := 1) rfl ?_ -- _law_k
  refine ⟨.r (by omega) (by omega), ?_⟩
  refine EW.int ?_
  refine EW.int ?_
  refine ⟨(by decide : (0 : Int) < _), ?_⟩
  refine ⟨_, rfl, ?_⟩
  refine EWds.cons ?_
  refine EW.int ?_
  refine ⟨_, rfl, ?_⟩
  refine EWds.nil ?_
  refine ⟨(by decide : (3 : Nat) ≤ sizeLine), ?_⟩
  refine hR _ ⟨_, _, _, rfl, hg, Int.emod_nonneg _ (by decide), ?_, by decide, by decide⟩
  exact Int.lt_trans (Int.emod_lt_of_pos _ (by decide)) (by decide)
abbrev N__law_take : List Str := ["_law_urn_here", "_law_many", "_law_digit", "_law_prime", "_law_mixed"]
theorem sc__law_take : FnScope N__law_take ["_law_urn_here", "_law_many"] (defScope s__law_take) := ⟨rfl, rfl, rfl, by decide +kernel, rfl, by decide +kernel, by decide +kernel⟩
def a__law_take : ASp := fun as R => ∃ (b : Nat) (ds : List PyData) (many : Int), as = [.hol true ds, .dat (.int many)] ∧ Urn b ds ∧ b < 1000000000000 ∧ 0 < many ∧ many < (2 ^ 250 : Nat) ∧
  ∀ v ds', 0 ≤ v → v < many → Urn (b + 1) ds' → R (.dat (.int v)) [.hol true ds', .dat (.int many)]
theorem ok__law_take {f : Addr} {fd : FuncData} (F : Fun K "_law_take" "_law_take" s__law_take f fd) (B : Blt mg) : FnG P w K mg base CX0 1 f fd ["_law_urn_here", "_law_many"] (toSp K a__law_take) := by
  refine fnA F sc__law_take (by decide) B (fun as R h => ?_) fun cdv A outer s H E C as R h => ?_
  · obtain ⟨_, _, _, rfl, _⟩ := h; rfl
  obtain ⟨b, ds, many, rfl, ⟨g, m, c, rfl, hg, hm, hm1, hc, hcb⟩, hb, hp, hl, hR⟩ := h
  have divOk : ∀ i, CDivA i many := fun i => .big 250 hp hl (by decide) (by decide)
  refine SW.cons ?_
  refine S1.ite ?_
  refine TW.cmp (opA_intB op_gt) ?_ (nomark _)
  refine EW.ix ?_
  refine EW.nameO (i := 0) rfl ?_ -- _law_urn_here
  refine EW.int ?_
  refine ⟨_, _, rfl, rfl, ?_⟩
  refine EW.int ?_
  refine ite_dec (fun h1 => ?_) (fun h1 => ?_)
  · -- then
    refine SW.cons ?_
    refine S1.asg (i := 2) C ?_ -- _law_digit =
    refine EW.mod ?_
    refine EW.ix ?_
    refine EW.nameO (i := 0) rfl ?_ -- _law_urn_here
    refine EW.int ?_
    refine ⟨_, _, rfl, rfl, ?_⟩
    refine EW.nameD (i := 1) rfl ?_ -- _law_many
    refine ⟨hp, ?_⟩
    refine ⟨rfl, ?_⟩
    refine SW.cons ?_
    refine S1.setItem ?_
    refine EW.fdiv ?_
    refine EW.ix ?_
    refine EW.nameO (i := 0) rfl ?_ -- _law_urn_here
    refine EW.int ?_
    refine ⟨_, _, rfl, rfl, ?_⟩
    refine EW.nameD (i := 1) rfl ?_ -- _law_many
    refine ⟨divOk _, ?_⟩
    refine ⟨_, rfl, ?_⟩
    refine EW.nameO (i := 0) rfl ?_ -- _law_urn_here
    refine ⟨_, rfl, ?_⟩
    refine EW.int ?_
    refine ⟨_, _, _, _, rfl, rfl, rfl, ?_⟩
    refine SW.cons ?_
    refine S1.ret ?_
    refine EW.nameD (i := 2) rfl ?_ -- _law_digit
    exact hR _ _ (Int.emod_nonneg _ (by omega)) (Int.emod_lt_of_pos _ hp) ⟨_, _, _, rfl, Int.ediv_nonneg hg (by omega), hm, hm1, hc, by omega⟩
  refine SW.nil ?_
  refine SW.cons ?_
  refine S1.setItem ?_
  refine EW.add ?_
  refine EW.ix ?_
  refine EW.nameO (i := 0) rfl ?_ -- _law_urn_here
  refine EW.int ?_
  refine ⟨_, _, rfl, rfl, ?_⟩
  refine EW.int ?_
  refine ⟨_, rfl, ?_⟩
  refine EW.nameO (i := 0) rfl ?_ -- _law_urn_here
  refine ⟨_, rfl, ?_⟩
  refine EW.int ?_
  refine ⟨_, _, _, _, rfl, rfl, rfl, ?_⟩
  refine SW.cut (fun ρ => ∃ q : Int, 0 < q ∧ q < 2147483648 ∧ ρ = [.hol true [.int g, .int m, .int (c + 1)], .dat (.int many), .un, .dat (.int q), .un]) ?_ ?_
  · refine S1.asg (i := 3) C ?_ -- _law_prime =
    refine EW.ix ?_
    refine EW.list ?_
    refine EWds.cons ?_
    refine EW.int ?_
    refine ⟨_, rfl, ?_⟩
    refine EWds.cons ?_
    refine EW.int ?_
    refine ⟨_, rfl, ?_⟩
    refine EWds.cons ?_
    refine EW.int ?_
    refine ⟨_, rfl, ?_⟩
    refine EWds.cons ?_
    refine EW.int ?_
    refine ⟨_, rfl, ?_⟩
    refine EWds.cons ?_
    refine EW.int ?_
    refine ⟨_, rfl, ?_⟩
    refine EWds.nil ?_
    refine ⟨by decide, ?_⟩
    refine EW.mod ?_
    refine EW.ix ?_
    refine EW.nameO (i := 0) rfl ?_ -- _law_urn_here
    refine EW.int ?_
    refine ⟨_, _, rfl, rfl, ?_⟩
    refine EW.int ?_
    refine ⟨(by decide : (0 : Int) < _), ?_⟩
    have key : ∃ q : Int, 0 < q ∧ q < 2147483648 ∧ L2.atI [PyData.int 2147483647, .int 2147483629, .int 2147483587, .int 2147483579, .int 2147483563] ((c + 1) % 5) = some (.int q) := by
      have m0 := Int.emod_nonneg (c + 1) (by decide : (5 : Int) ≠ 0)
      have m1 := Int.emod_lt_of_pos (c + 1) (by decide : (0 : Int) < 5)
      have cases5 : (c + 1) % 5 = 0 ∨ (c + 1) % 5 = 1 ∨ (c + 1) % 5 = 2 ∨ (c + 1) % 5 = 3 ∨ (c + 1) % 5 = 4 := by omega
      rcases cases5 with e | e | e | e | e <;> rw [e] <;> exact ⟨_, by decide, by decide, rfl⟩
    obtain ⟨q, q0, q1, hat⟩ := key
    exact ⟨_, _, rfl, hat, rfl, q, q0, q1, rfl⟩
  rintro ρ ⟨q, hq, hq1, rfl⟩
  refine SW.cut (fun ρ => ∃ x : Int, 0 ≤ x ∧ x < 2147483648 ∧ ρ = [.hol true [.int g, .int m, .int (c + 1)], .dat (.int many), .un, .dat (.int q), .dat (.int x)]) ?_ ?_
  · refine S1.asg (i := 4) C ?_ -- _law_mixed =
    refine EW.mod ?_
    refine EW.pow ?_
    refine EW.add ?_
    refine EW.add ?_
    refine EW.ix ?_
    refine EW.nameO (i := 0) rfl ?_ -- _law_urn_here
    refine EW.int ?_
    refine ⟨_, _, rfl, rfl, ?_⟩
    refine EW.mul ?_
    refine EW.mul ?_
    refine EW.int ?_
    refine EW.ix ?_
    refine EW.nameO (i := 0) rfl ?_ -- _law_urn_here
    refine EW.int ?_
    refine ⟨_, _, rfl, rfl, ?_⟩
    refine ⟨.l (by omega) (by omega), ?_⟩
    refine EW.ix ?_
    refine EW.nameO (i := 0) rfl ?_ -- _law_urn_here
    refine EW.int ?_
    refine ⟨_, _, rfl, rfl, ?_⟩
    refine ⟨.r (by omega) (by omega), ?_⟩
    refine EW.int ?_
    refine EW.int ?_
    have z0 : 0 ≤ 50021 * (c + 1) * (c + 1) := Int.mul_nonneg (by omega) (by omega)
    have z1 : 50021 * (c + 1) * (c + 1) ≤ 50021 * 1000000000001 * 1000000000001 := Int.mul_le_mul (by omega) (by omega) (by omega) (by omega)
    refine ⟨powOk 200 (by omega) (by omega) (by omega) (by omega), ?_⟩
    refine EW.nameD (i := 3) rfl ?_ -- _law_prime
    refine ⟨hq, ?_⟩
    exact ⟨rfl, _, Int.emod_nonneg _ (by omega), Int.lt_trans (Int.emod_lt_of_pos _ hq) hq1, rfl⟩
  rintro ρ ⟨x, hx, hx1, rfl⟩
  refine SW.cons ?_
  refine S1.ret ?_
  refine EW.mod ?_
  refine EW.fdiv ?_
  refine EW.mod ?_
  refine EW.mul ?_
  refine EW.nameD (i := 4) rfl ?_ -- _law_mixed
  refine EW.add ?_
  refine EW.mod ?_
  refine EW.nameD (i := 4) rfl ?_ -- _law_mixed
  refine EW.int ?_
  refine ⟨(by decide : (0 : Int) < _), ?_⟩
  refine EW.mul ?_
  refine EW.int ?_
  refine EW.ix ?_
  refine EW.nameO (i := 0) rfl ?_ -- _law_urn_here
  refine EW.int ?_
  refine ⟨_, _, rfl, rfl, ?_⟩
  refine ⟨.l (by omega) (by omega), ?_⟩
  refine ⟨.l (by omega) (by omega), ?_⟩
  refine EW.int ?_
  refine ⟨(by decide : (0 : Int) < _), ?_⟩
  refine EW.int ?_
  refine ⟨.small (by decide) (by decide), ?_⟩
  refine EW.nameD (i := 1) rfl ?_ -- _law_many
  refine ⟨hp, ?_⟩
  exact hR _ _ (Int.emod_nonneg _ (by omega)) (Int.emod_lt_of_pos _ hp) ⟨_, _, _, rfl, hg, hm, hm1, by omega, by omega⟩
end
end VM

/-! the program: totals, the rest of a group, margins, outcomes -/
namespace VM
open PySem PySem.Spec PyProof.Rows L2 AW
section
variable {P : Program} {w : World} {K : PySem.W.Frag} {mg : Str → Option Value} {base : Heap}
def tupI (ws : List Int) : PyData := .tuple (ws.map .int)
def intN (i : Nat) : PyData := .int (i : Int)
def tupN (g : List Nat) : PyData := .tuple (g.map intN)
theorem inB_nat (i : Nat) : ∀ g : List Nat, inB (.int i) (g.map intN) = decide (i ∈ g)
  | [] => rfl
  | j :: g => by
    have t := inB_nat i g
    unfold inB at t ⊢
    simp only [List.map_cons, List.any_cons, t]
    have e : PyData.eqv (intN j) (.int i) = decide (i = j) := by
      show ((j : Int) == (i : Int)) = _
      by_cases h : i = j
      · subst h; simp
      · simp only [h, decide_false, beq_eq_false_iff_ne, ne_eq]; omega
    rw [e]
    by_cases h : i = j <;> by_cases h2 : i ∈ g <;> simp [h, h2]
theorem flat_nat : ∀ g : List Nat, (g.map intN).all flatD = true
  | [] => rfl
  | j :: g => by simpa [flatD, intN] using flat_nat g
theorem rngD_nat (n : Nat) : rngD 0 n = (List.range n).map intN := by
  unfold rngD intN
  simp
theorem atI_int {ws : List Int} {i : Nat} (h : i < ws.length) : L2.atI (ws.map PyData.int) (i : Nat) = some (.int (ws.getD i 0)) := by
  have e : (ws.map PyData.int)[i]? = some (.int (ws.getD i 0)) := by
    rw [List.getElem?_map, List.getD_eq_getElem?_getD, List.getElem?_eq_getElem h]; rfl
  exact atI_nat e
abbrev N_total_of : List Str := ["weights"]
theorem sc_total_of : FnScope N_total_of ["weights"] (defScope s_total_of) := ⟨rfl, rfl, rfl, by decide +kernel, rfl, by decide +kernel, by decide +kernel⟩
def a_total_of : ASp := fun as R => ∃ ws : List Int, as = [.dat (tupI ws)] ∧ R (.dat (.int ws.sum)) as
theorem ok_total_of {f : Addr} {fd : FuncData} (F : Fun K "total_of" "total_of" s_total_of f fd) (B : Blt mg) : FnG P w K mg base CX0 1 f fd ["weights"] (toSp K a_total_of) := by
  refine fnA F sc_total_of (by decide) B (fun as R h => ?_) fun cdv A outer s H E C as R h => ?_
  · obtain ⟨_, rfl, _⟩ := h; rfl
  obtain ⟨ws, rfl, h⟩ := h
  refine SW.cons ?_
  refine S1.ret ?_
  refine EW.sum C ?_
  refine EW.nameD (i := 0) rfl ?_ -- weights
  exact ⟨ws, rfl, h⟩
abbrev N_rest : List Str := ["weights", "group", "replica"]
theorem sc_rest : FnScope N_rest ["weights", "group"] (defScope s_rest) := ⟨rfl, rfl, rfl, by decide +kernel, rfl, by decide +kernel, by decide +kernel⟩
def restI (n : Nat) (g : List Nat) : List Nat := (List.range n).filter fun i => !decide (i ∈ g)
def a_rest : ASp := fun as R => ∃ (ws : List Int) (g : List Nat), as = [.dat (tupI ws), .dat (tupN g)] ∧ ws.length ≤ 1000000 ∧ R (.dat (tupN (restI ws.length g))) as
theorem restI_map (n : Nat) (g : List Nat) : (List.range n).filterMap (fun i => if i ∈ g then none else some (intN i)) = (restI n g).map intN := by
  unfold restI
  generalize List.range n = l
  induction l with
  | nil => rfl
  | cons i l ih => by_cases h : i ∈ g <;> simp [h, ih]
theorem ok_rest {f : Addr} {fd : FuncData} (F : Fun K "rest" "rest" s_rest f fd) (B : Blt mg) : FnG P w K mg base CX0 1 f fd ["weights", "group"] (toSp K a_rest) := by
  refine fnA F sc_rest (by decide) B (fun as R h => ?_) fun cdv A outer s H E C as R h => ?_
  · obtain ⟨_, _, rfl, _⟩ := h; rfl
  obtain ⟨ws, g, rfl, hl, h⟩ := h
  refine SW.cons ?_
  refine S1.ret ?_
  refine EW.tupC C ?_
  refine EW.lcP (List.range ws.length) intN (fun i => if i ∈ g then none else some (intN i)) (own := [("replica", 2)]) (is := [2]) C ?_ (blkOk_by (N := N_rest) (sc := defScope s_rest) (by decide +kernel)) (by decide)
  refine IW.range1 C ?_
  refine EW.len C ?_
  refine EW.nameD (i := 0) rfl ?_ -- weights
  refine ⟨_, rfl, ?_⟩
  have ln : (ws.map PyData.int).length = ws.length := List.length_map _
  refine ⟨_, rfl, by omega, by omega, ?_⟩
  refine ⟨by rw [Int.toNat_natCast, ln]; exact rngD_nat _, by simpa using hl, rfl, fun z hz => ?_, ?_⟩
  · refine Turn1.one fun s0 H0 C0 cl fp => ?_
    refine GW.name C.nd (i := 2) ⟨rfl, ?_⟩
    intro s0 H0 C0 cl fp
    refine TW.cmp (opA_notIn (C.blk ..)) ?_ rfl
    refine EW.nameD (i := 2) rfl ?_ -- replica
    refine EW.nameD (i := 1) rfl ?_ -- group
    refine ⟨_, _, rfl, .inl ⟨rfl, rfl, flat_nat g⟩, ?_⟩
    show if (!inB (.int (z : Nat)) (g.map intN)) = true then _ else _
    rw [inB_nat]
    refine ite_b (fun h1 => ?_) (fun h1 => ?_)
    · intro s0 H0 C0 cl fp
      refine EW.nameD (i := 2) rfl ?_ -- replica
      have h2 : z ∉ g := by simpa using h1
      exact ⟨_, rfl, by simp [h2], rfl⟩
    · have h2 : z ∈ g := by simpa using h1
      exact ⟨by simp [h2], rfl⟩
  rw [restI_map]
  exact ⟨_, rfl, h⟩
abbrev N_margin : List Str := ["weights", "group", "replica"]
theorem sc_margin : FnScope N_margin ["weights", "group"] (defScope s_margin) := ⟨rfl, rfl, rfl, by decide +kernel, rfl, by decide +kernel, by decide +kernel⟩
def margI (ws : List Int) (g : List Nat) : Int := 2 * (g.map fun i => ws.getD i 0).sum - ws.sum
def a_margin : ASp := fun as R => ∃ (ws : List Int) (g : List Nat), as = [.dat (tupI ws), .dat (tupN g)] ∧ (∀ i ∈ g, i < ws.length) ∧ g.length ≤ 1000000 ∧ R (.dat (.int (margI ws g))) as
theorem ok_margin {f : Addr} {fd : FuncData} (F : Fun K "margin" "margin" s_margin f fd) (B : Blt mg) (c_total_of : Cal P w K mg base 1 "total_of" a_total_of) : FnG P w K mg base CX0 2 f fd ["weights", "group"] (toSp K a_margin) := by
  refine fnA F sc_margin (by decide) B (fun as R h => ?_) fun cdv A outer s H E C as R h => ?_
  · obtain ⟨_, _, rfl, _⟩ := h; rfl
  obtain ⟨ws, g, rfl, hg, hl, h⟩ := h
  refine SW.cons ?_
  refine S1.ret ?_
  refine EW.sub ?_
  refine EW.mul ?_
  refine EW.int ?_
  refine EW.sum C ?_
  refine EW.lcP g intN (fun i => some (.int (ws.getD i 0))) (own := [("replica", 2)]) (is := [2]) C ?_ (blkOk_by (N := N_margin) (sc := defScope s_margin) (by decide +kernel)) (by decide)
  refine IW.tup ?_ -- or list
  refine EW.nameD (i := 1) rfl ?_ -- group
  refine ⟨_, rfl, ?_⟩
  refine ⟨rfl, hl, rfl, fun z hz => ?_, ?_⟩
  · refine Turn1.nil fun s0 H0 C0 cl fp => ?_
    refine GW.name C.nd (i := 2) ⟨rfl, ?_⟩
    intro s0 H0 C0 cl fp
    refine EW.ix ?_
    refine EW.nameD (i := 0) rfl ?_ -- weights
    refine EW.nameD (i := 2) rfl ?_ -- replica
    refine ⟨_, _, rfl, atI_int (hg z hz), ?_⟩
    exact ⟨_, rfl, rfl, rfl⟩
  refine ⟨g.map fun i => ws.getD i 0, by simp [seqA, seqL, List.filterMap_eq_map', Function.comp_def], ?_⟩
  refine ⟨.l (by omega) (by omega), ?_⟩
  refine EW.call c_total_of C rfl ?_
  refine EWgs.cons ?_
  refine EW.nameD (i := 0) rfl ?_ -- weights
  refine ⟨_, rfl, ?_⟩
  refine EWgs.nil ?_
  refine ⟨List.nodup_nil, ?_⟩
  refine ⟨ws, rfl, ?_⟩
  exact ⟨trivial, h⟩
abbrev N_outcome : List Str := ["weights", "group", "found"]
theorem sc_outcome : FnScope N_outcome ["weights", "group"] (defScope s_outcome) := ⟨rfl, rfl, rfl, by decide +kernel, rfl, by decide +kernel, by decide +kernel⟩
def wordI (i : Int) : Str := if 0 < i then "decides" else if i = 0 then "ties" else "fails"
def a_outcome : ASp := fun as R => ∃ (ws : List Int) (g : List Nat), as = [.dat (tupI ws), .dat (tupN g)] ∧ (∀ i ∈ g, i < ws.length) ∧ g.length ≤ 1000000 ∧ R (.dat (.str (wordI (margI ws g)))) as
theorem ok_outcome {f : Addr} {fd : FuncData} (F : Fun K "outcome" "outcome" s_outcome f fd) (B : Blt mg) (c_margin : Cal P w K mg base 2 "margin" a_margin) (g_TIES : ∃ u, mg "TIES" = some u ∧ Sca (.str "ties") u) (g_DECIDES : ∃ u, mg "DECIDES" = some u ∧ Sca (.str "decides") u) (g_FAILS : ∃ u, mg "FAILS" = some u ∧ Sca (.str "fails") u) : FnG P w K mg base CX0 3 f fd ["weights", "group"] (toSp K a_outcome) := by
  refine fnA F sc_outcome (by decide) B (fun as R h => ?_) fun cdv A outer s H E C as R h => ?_
  · obtain ⟨_, _, rfl, _⟩ := h; rfl
  obtain ⟨ws, g, rfl, hg, hl, h⟩ := h
  refine SW.cons ?_
  refine S1.asg (i := 2) C ?_ -- found =
  refine EW.call c_margin C rfl ?_
  refine EWgs.cons ?_
  refine EW.nameD (i := 0) rfl ?_ -- weights
  refine ⟨_, rfl, ?_⟩
  refine EWgs.cons ?_
  refine EW.nameD (i := 1) rfl ?_ -- group
  refine ⟨_, rfl, ?_⟩
  refine EWgs.nil ?_
  refine ⟨List.nodup_nil, ?_⟩
  refine ⟨ws, g, rfl, hg, hl, ?_⟩
  refine ⟨rfl, ?_⟩
  refine SW.cons ?_
  refine S1.ite ?_
  refine TW.cmp (opA_eq C) ?_ (nomark _)
  refine EW.nameD (i := 2) rfl ?_ -- found
  refine EW.int ?_
  refine ⟨_, _, rfl, rfl, rfl, rfl, ?_⟩
  refine ite_b (fun h1 => ?_) (fun h1 => ?_)
  · -- then
    refine SW.cons ?_
    refine S1.ret ?_
    refine EW.glob rfl g_TIES ?_
    have e : margI ws g = 0 := by simpa [PyData.eqv] using h1
    have e2 : wordI (margI ws g) = "ties" := by rw [e]; rfl
    rw [e2] at h
    exact h
  refine SW.nil ?_
  have e : margI ws g ≠ 0 := by simpa [PyData.eqv] using h1
  refine SW.cons ?_
  refine S1.ret ?_
  refine EW.ifExp ?_
  refine TW.cmp (opA_intB op_gt) ?_ (nomark _)
  refine EW.nameD (i := 2) rfl ?_ -- found
  refine EW.int ?_
  refine ite_dec (fun h1 => ?_) (fun h1 => ?_)
  · -- then
    refine EW.glob rfl g_DECIDES ?_
    have e2 : wordI (margI ws g) = "decides" := if_pos h1
    rw [e2] at h
    exact h
  · -- else
    refine EW.glob rfl g_FAILS ?_
    have e2 : wordI (margI ws g) = "fails" := (if_neg h1).trans (if_neg e)
    rw [e2] at h
    exact h
end
end VM

/-! drawn votes -/
namespace VM
open PySem PySem.Spec PyProof.Rows L2 AW
section
variable {P : Program} {w : World} {K : PySem.W.Frag} {mg : Str → Option Value} {base : Heap}
theorem atI_in {xs : List PyData} {v : Int} (h0 : 0 ≤ v) (h1 : v < xs.length) : ∃ d, L2.atI xs v = some d ∧ d ∈ xs := by
  obtain ⟨j, rfl⟩ := Int.eq_ofNat_of_zero_le h0
  have hj : j < xs.length := by omega
  exact ⟨xs[j], atI_nat (List.getElem?_eq_getElem hj), List.getElem_mem hj⟩
theorem ixN_in {n : Nat} {v : Int} (h0 : 0 ≤ v) (h1 : v < n) : ixN n v = some v.toNat := by
  unfold ixN
  rw [if_pos h0, if_pos h1]
abbrev N__law_of : List Str := ["_law_urn_here", "_law_some"]
theorem sc__law_of : FnScope N__law_of ["_law_urn_here", "_law_some"] (defScope s__law_of) := ⟨rfl, rfl, rfl, by decide +kernel, rfl, by decide +kernel, by decide +kernel⟩
def a__law_of : ASp := fun as R => ∃ (b : Nat) (ds xs : List PyData), as = [.hol true ds, .dat (.list xs)] ∧ Urn b ds ∧ b < 1000000000000 ∧ xs ≠ [] ∧ xs.length ≤ 1000000 ∧ ∀ d ds', d ∈ xs → Urn (b + 1) ds' → R (.dat d) [.hol true ds', .dat (.list xs)]
theorem ok__law_of {f : Addr} {fd : FuncData} (F : Fun K "_law_of" "_law_of" s__law_of f fd) (B : Blt mg) (c__law_take : Cal P w K mg base 1 "_law_take" a__law_take) : FnG P w K mg base CX0 2 f fd ["_law_urn_here", "_law_some"] (toSp K a__law_of) := by
  refine fnA F sc__law_of (by decide) B (fun as R h => ?_) fun cdv A outer s H E C as R h => ?_
  · obtain ⟨_, _, _, rfl, _⟩ := h; rfl
  obtain ⟨b, ds, xs, rfl, hU, hb, hne, hl, hR⟩ := h
  have l0 : 0 < xs.length := List.length_pos_iff.mpr hne
  refine SW.cons ?_
  refine S1.ret ?_
  refine EW.ix ?_
  refine EW.nameD (i := 1) rfl ?_ -- _law_some
  refine EW.call c__law_take C rfl ?_
  refine EWgs.cons ?_
  refine EW.nameO (i := 0) rfl ?_ -- _law_urn_here
  refine ⟨_, rfl, ?_⟩
  refine EWgs.cons ?_
  refine EW.len C ?_
  refine EW.nameD (i := 1) rfl ?_ -- _law_some
  refine ⟨_, rfl, ?_⟩
  refine ⟨_, rfl, ?_⟩
  refine EWgs.nil ?_
  refine ⟨(by decide : [0].Nodup), ?_⟩
  refine ⟨b, ds, xs.length, rfl, hU, hb, by omega, by omega, fun v ds' h0 h1 hU' => ?_⟩
  obtain ⟨d, hd, hm⟩ := atI_in h0 h1
  refine ⟨_, _, rfl, hd, ?_⟩
  exact hR d ds' hm hU'
abbrev N__law_votes : List Str := ["_law_urn_here", "_law_least", "_law_most", "_law_great", "_law_size", "_law_way", "_law_found", "_law_at"]
theorem sc__law_votes : FnScope N__law_votes ["_law_urn_here", "_law_least", "_law_most", "_law_great"] (defScope s__law_votes) := ⟨rfl, rfl, rfl, by decide +kernel, rfl, by decide +kernel, by decide +kernel⟩
def a__law_votes : ASp := fun as R => ∃ (b : Nat) (ds : List PyData) (lo hi gr : Int), as = [.hol true ds, .dat (.int lo), .dat (.int hi), .dat (.int gr)] ∧ Urn b ds ∧ b < 100000000000 ∧ 1 ≤ lo ∧ lo ≤ hi ∧ hi ≤ 1000 ∧ 0 < gr ∧ gr < (2 ^ 240 : Nat) ∧
  ∀ (ws : List Int) ds', lo ≤ ws.length → (ws.length : Int) ≤ hi → (∀ x ∈ ws, 0 ≤ x ∧ x ≤ 1001 * (gr + 5)) → 0 < ws.sum → Urn (b + 5000) ds' → R (.dat (tupI ws)) [.hol true ds', .dat (.int lo), .dat (.int hi), .dat (.int gr)]
/-- the slots of the body, the votes as they stand -/
def VS (lo hi gr sz way : Int) (b : Nat) (M : Int) (t : SV) (ρ : Nv) : Prop := ∃ (ds : List PyData) (xs : List Int), ρ = [.hol true ds, .dat (.int lo), .dat (.int hi), .dat (.int gr), .dat (.int sz), .dat (.int way), .hol false (xs.map .int), t] ∧
  Urn b ds ∧ (xs.length : Int) = sz ∧ ∀ x ∈ xs, 0 ≤ x ∧ x ≤ M
theorem sum_bound {M : Int} : ∀ {xs : List Int}, (∀ x ∈ xs, 0 ≤ x ∧ x ≤ M) → 0 ≤ xs.sum ∧ xs.sum ≤ xs.length * M
  | [], _ => by simp
  | x :: xs, h => by
    have h1 := h x List.mem_cons_self
    have h2 := sum_bound fun y hy => h y (List.mem_cons_of_mem _ hy)
    simp only [List.sum_cons, List.length_cons]
    have e : ((xs.length + 1 : Nat) : Int) * M = xs.length * M + M := by push_cast; rw [Int.add_mul]; omega
    omega
theorem sum_split : ∀ {xs : List Int} {i : Nat}, i < xs.length → xs.sum = xs.getD i 0 + (xs.eraseIdx i).sum
  | [], i, h => by simp at h
  | x :: xs, 0, _ => by simp
  | x :: xs, i + 1, h => by
    have t := sum_split (xs := xs) (i := i) (by simpa using h)
    simp only [List.sum_cons, List.getD_cons_succ, List.eraseIdx_cons_succ, t]
    omega
theorem getD_le {M : Int} {xs : List Int} (h : ∀ x ∈ xs, 0 ≤ x ∧ x ≤ M) {i : Nat} (hi : i < xs.length) : 0 ≤ xs.getD i 0 ∧ xs.getD i 0 ≤ M ∧ xs.getD i 0 ≤ xs.sum := by
  have e : xs.getD i 0 = xs[i] := by rw [List.getD_eq_getElem?_getD, List.getElem?_eq_getElem hi]; rfl
  have h1 := h _ (List.getElem_mem hi)
  have h2 := sum_split hi
  have h3 := (sum_bound (xs := xs.eraseIdx i) (M := M) fun y hy => h y (List.mem_of_mem_eraseIdx hy)).1
  rw [e] at *
  omega
theorem set_ints {xs : List Int} (i : Nat) (x : Int) : (xs.map PyData.int).set i (.int x) = (xs.set i x).map .int := by
  rw [List.map_set]
theorem sum_set_pos {M : Int} {xs : List Int} (h : ∀ x ∈ xs, 0 ≤ x ∧ x ≤ M) {i : Nat} (hi : i < xs.length) {x : Int} (hx : 0 < x) : 0 < (xs.set i x).sum := by
  have h2 := sum_split (xs := xs.set i x) (i := i) (by simpa using hi)
  have e : (xs.set i x).getD i 0 = x := by rw [List.getD_eq_getElem?_getD, List.getElem?_set_self hi]; rfl
  have e2 : (xs.set i x).eraseIdx i = xs.eraseIdx i := by rw [List.eraseIdx_set_eq]
  have h3 := (sum_bound (xs := xs.eraseIdx i) (M := M) fun y hy => h y (List.mem_of_mem_eraseIdx hy)).1
  rw [e, e2] at h2
  omega
theorem mem_set_le {M : Int} {xs : List Int} (h : ∀ x ∈ xs, 0 ≤ x ∧ x ≤ M) {i : Nat} {x : Int} (h0 : 0 ≤ x) (h1 : x ≤ M) : ∀ y ∈ xs.set i x, 0 ≤ y ∧ y ≤ M := fun y hy => by
  rcases List.mem_or_eq_of_mem_set hy with z | rfl
  · exact h y z
  · exact ⟨h0, h1⟩
theorem ok__law_votes {f : Addr} {fd : FuncData} (F : Fun K "_law_votes" "_law_votes" s__law_votes f fd) (B : Blt mg) (c__law_take : Cal P w K mg base 1 "_law_take" a__law_take) (c__law_of : Cal P w K mg base 2 "_law_of" a__law_of) : FnG P w K mg base CX0 3 f fd ["_law_urn_here", "_law_least", "_law_most", "_law_great"] (toSp K a__law_votes) := by
  replace c__law_take := c__law_take.mono (show 1 ≤ 2 by decide)
  refine fnA F sc__law_votes (by decide) B (fun as R h => ?_) fun cdv A outer s H E C as R h => ?_
  · obtain ⟨_, _, _, _, _, rfl, _⟩ := h; rfl
  obtain ⟨b, ds, lo, hi, gr, rfl, hU, hb, hlo, hlh, hhi, hg0, hg1, hR⟩ := h
  refine SW.cut (fun ρ => ∃ ds sz way, ρ = [.hol true ds, .dat (.int lo), .dat (.int hi), .dat (.int gr), .dat (.int sz), .dat (.int way), .un, .un] ∧ Urn (b + 2) ds ∧ lo ≤ sz ∧ sz ≤ hi) ?_ ?_
  · refine S1.par (i := 4) (j := 5) C ?_ rfl rfl (by decide) rfl rfl rfl
    refine EW.add ?_
    refine EW.nameD (i := 1) rfl ?_ -- _law_least
    refine EW.call c__law_take C rfl ?_
    refine EWgs.cons ?_
    refine EW.nameO (i := 0) rfl ?_ -- _law_urn_here
    refine ⟨_, rfl, ?_⟩
    refine EWgs.cons ?_
    refine EW.add ?_
    refine EW.sub ?_
    refine EW.nameD (i := 2) rfl ?_ -- _law_most
    refine EW.nameD (i := 1) rfl ?_ -- _law_least
    refine ⟨trivial, ?_⟩
    refine EW.int ?_
    refine ⟨_, rfl, ?_⟩
    refine EWgs.nil ?_
    refine ⟨(by decide : [0].Nodup), ?_⟩
    refine ⟨b, ds, hi - lo + 1, rfl, hU, by omega, by omega, by omega, fun v ds' h0 h1 hU' => ?_⟩
    refine EW.call c__law_take C rfl ?_
    refine EWgs.cons ?_
    refine EW.nameO (i := 0) rfl ?_ -- _law_urn_here
    refine ⟨_, rfl, ?_⟩
    refine EWgs.cons ?_
    refine EW.int ?_
    refine ⟨_, rfl, ?_⟩
    refine EWgs.nil ?_
    refine ⟨(by decide : [0].Nodup), ?_⟩
    refine ⟨b + 1, ds', 6, rfl, hU', by omega, by omega, by omega, fun v2 ds2 h2 h3 hU2 => ?_⟩
    exact ⟨rfl, rfl, ds2, lo + v, v2, rfl, hU2, by omega, by omega⟩
  rintro ρ ⟨ds, sz, way, rfl, hU, hs0, hs1⟩
  refine SW.cut (VS lo hi gr sz way (b + 3002) (gr + 4) .un) ?_ ?_
  · refine S1.asgLc (i := 6) (own := [("_law_at", 7)]) (is := [7]) C ?_ rfl rfl rfl (blkOk_by (N := N__law_votes) (sc := defScope s__law_votes) (by decide +kernel)) (by decide)
    refine IW.range1 C ?_
    refine EW.nameD (i := 4) rfl ?_ -- _law_size
    refine ⟨_, rfl, by omega, by omega, ?_⟩
    have ln : (rngD 0 sz.toNat).length = sz.toNat := by simp [rngD]
    refine ⟨by omega, rfl, fun i acc ρ => ∃ ds xs, ρ = [.hol true ds, .dat (.int lo), .dat (.int hi), .dat (.int gr), .dat (.int sz), .dat (.int way), .un, .un] ∧ Urn (b + 2 + 3 * i) ds ∧ acc = xs.map .int ∧ xs.length = i ∧ ∀ x ∈ xs, 0 ≤ x ∧ x ≤ gr + 4, ⟨ds, [], rfl, hU, rfl, rfl, by simp⟩, ?_, ?_⟩
    · rintro i d acc ρ hd ⟨ds, xs, rfl, hU, rfl, hxl, hxs⟩
      have hi' : i < sz.toNat := by rw [← ln]; exact (List.getElem?_eq_some_iff.mp hd).1
      refine Turn1.nil fun s0 H0 C0 cl fp => ?_
      refine GW.name C.nd (i := 7) ⟨rfl, ?_⟩
      intro s0 H0 C0 cl fp
      refine EW.call c__law_of (C.blk ..) rfl ?_
      refine EWgs.cons ?_
      refine EW.nameO (i := 0) rfl ?_ -- _law_urn_here
      refine ⟨_, rfl, ?_⟩
      refine EWgs.cons ?_
      refine EW.list ?_
      refine EWds.cons ?_
      refine EW.call c__law_take (C.blk ..) rfl ?_
      refine EWgs.cons ?_
      refine EW.nameO (i := 0) rfl ?_ -- _law_urn_here
      refine ⟨_, rfl, ?_⟩
      refine EWgs.cons ?_
      refine EW.add ?_
      refine EW.nameD (i := 3) rfl ?_ -- _law_great
      refine EW.int ?_
      refine ⟨_, rfl, ?_⟩
      refine EWgs.nil ?_
      refine ⟨(by decide : [0].Nodup), ?_⟩
      refine ⟨b + 2 + 3 * i, ds, gr + 1, rfl, hU, by omega, by omega, by omega, fun v1 ds1 h10 h11 hU1 => ?_⟩
      refine ⟨_, rfl, ?_⟩
      refine EWds.cons ?_
      refine EW.call c__law_take (C.blk ..) rfl ?_
      refine EWgs.cons ?_
      refine EW.nameO (i := 0) rfl ?_ -- _law_urn_here
      refine ⟨_, rfl, ?_⟩
      refine EWgs.cons ?_
      refine EW.int ?_
      refine ⟨_, rfl, ?_⟩
      refine EWgs.nil ?_
      refine ⟨(by decide : [0].Nodup), ?_⟩
      refine ⟨b + 2 + 3 * i + 1, ds1, 4, rfl, hU1, by omega, by omega, by omega, fun v2 ds2 h20 h21 hU2 => ?_⟩
      refine ⟨_, rfl, ?_⟩
      refine EWds.cons ?_
      refine EW.int ?_
      refine ⟨_, rfl, ?_⟩
      refine EWds.nil ?_
      refine ⟨(by decide : (3 : Nat) ≤ sizeLine), ?_⟩
      refine ⟨_, rfl, ?_⟩
      refine EWgs.nil ?_
      refine ⟨(by decide : [0].Nodup), ?_⟩
      refine ⟨b + 2 + 3 * i + 2, ds2, _, rfl, hU2, by omega, by simp, by simp, fun d ds3 hd3 hU3 => ?_⟩
      have hx : ∃ x : Int, d = .int x ∧ 0 ≤ x ∧ x ≤ gr + 4 := by
        simp only [List.mem_cons, List.not_mem_nil, or_false] at hd3
        rcases hd3 with rfl | rfl | rfl
        · exact ⟨_, rfl, h10, by omega⟩
        · exact ⟨_, rfl, h20, by omega⟩
        · exact ⟨_, rfl, by omega, by omega⟩
      obtain ⟨x, rfl, hx0, hx1⟩ := hx
      refine ⟨_, rfl, ds3, xs ++ [x], rfl, hU3.mono (by omega), by simp [addO], by simp [hxl], fun y hy => ?_⟩
      rcases List.mem_append.mp hy with hy | hy
      · exact hxs y hy
      · obtain rfl := List.mem_singleton.mp hy
        exact ⟨hx0, hx1⟩
    · rintro acc ρ ⟨ds, xs, rfl, hU, rfl, hxl, hxs⟩
      rw [ln] at hU hxl
      exact ⟨rfl, ds, xs, rfl, hU.mono (by omega), by omega, hxs⟩
  rintro ρ ⟨ds, xs, rfl, hU, hxl, hxs⟩
  refine SW.cut (VS lo hi gr sz way (b + 3002) (gr + 5) .un) ?_ ?_
  · refine S1.ite ?_
    refine TW.cmp (opA_eq C) ?_ (nomark _)
    refine EW.nameD (i := 5) rfl ?_ -- _law_way
    refine EW.int ?_
    refine ⟨_, _, rfl, rfl, rfl, rfl, ?_⟩
    refine ite_b (fun h1 => ?_) (fun h1 => ?_)
    · -- then
      have hd : (xs.map PyData.int)[0]? = some (.int (xs.getD 0 0)) := by
        rw [List.getElem?_map, List.getD_eq_getElem?_getD, List.getElem?_eq_getElem (by omega)]; rfl
      have hg := getD_le hxs (i := 0) (by omega)
      refine SW.cons ?_
      refine S1.asg (i := 6) C ?_ -- _law_found =
      refine EW.mul ?_
      refine EW.list ?_
      refine EWds.cons ?_
      refine EW.add ?_
      refine EW.int ?_
      refine EW.ix ?_
      refine EW.nameO (i := 6) rfl ?_ -- _law_found
      refine EW.int ?_
      refine ⟨_, _, rfl, atI_nat (j := 0) hd, ?_⟩
      refine ⟨_, rfl, ?_⟩
      refine EWds.nil ?_
      refine ⟨(by decide : (1 : Nat) ≤ sizeLine), ?_⟩
      refine EW.nameD (i := 4) rfl ?_ -- _law_size
      have sl : (sizeLine : Nat) = 16777216 := sizeLine_eq
      refine ⟨_, rfl, by omega, by omega, by show 1 * sz.toNat ≤ sizeLine; omega, ?_⟩
      refine ⟨rfl, ?_⟩
      refine SW.nil ?_
      refine ⟨ds, List.replicate sz.toNat (1 + xs.getD 0 0), ?_, hU, by simp; omega, fun x hx => ?_⟩
      · have e : (List.replicate sz.toNat [PyData.int (1 + xs.getD 0 0)]).flatten = (List.replicate sz.toNat (1 + xs.getD 0 0)).map .int := by
          induction sz.toNat with
          | zero => rfl
          | succ n ih => simp only [List.replicate_succ, List.flatten_cons, ih]; rfl
        rw [← e]
        rfl
      · obtain ⟨_, rfl⟩ := List.mem_replicate.mp hx
        omega
    · refine SW.nil ?_
      exact ⟨ds, xs, rfl, hU, hxl, fun x hx => by have := hxs x hx; omega⟩
  clear hU hxl hxs
  rintro ρ ⟨ds, xs, rfl, hU, hxl, hxs⟩
  refine SW.cut (VS lo hi gr sz way (b + 3002) (gr + 5) .un) ?_ ?_
  · refine S1.ite ?_
    refine TW.cmp (opA_eq C) ?_ (nomark _)
    refine EW.nameD (i := 5) rfl ?_ -- _law_way
    refine EW.int ?_
    refine ⟨_, _, rfl, rfl, rfl, rfl, ?_⟩
    refine ite_b (fun h1 => ?_) (fun h1 => ?_)
    · -- then
      refine SW.demote (i := 6) rfl ?_
      refine SW.cons ?_
      refine S1.asgLcP xs .int (fun x => some (.int (x % 2))) (i := 6) (own := [("_law_at", 7)]) (is := [7]) C ?_ rfl rfl rfl (blkOk_by (N := N__law_votes) (sc := defScope s__law_votes) (by decide +kernel)) (by decide)
      refine IW.list ?_ -- or list
      refine EW.nameD (i := 6) rfl ?_ -- _law_found
      refine ⟨_, rfl, ?_⟩
      refine ⟨rfl, by omega, rfl, fun z hz => ?_, ?_⟩
      · refine Turn1.nil fun s0 H0 C0 cl fp => ?_
        refine GW.name C.nd (i := 7) ⟨rfl, ?_⟩
        intro s0 H0 C0 cl fp
        refine EW.mod ?_
        refine EW.nameD (i := 7) rfl ?_ -- _law_at
        refine EW.int ?_
        refine ⟨(by decide : (0 : Int) < 2), ?_⟩
        exact ⟨_, rfl, rfl, rfl⟩
      refine ⟨rfl, ?_⟩
      refine SW.nil ?_
      refine ⟨ds, xs.map (· % 2), ?_, hU, by simpa using hxl, fun x hx => ?_⟩
      · have e : xs.filterMap (fun x => some (PyData.int (x % 2))) = (xs.map (· % 2)).map .int := by
          rw [List.filterMap_eq_map', List.map_map]
          rfl
        rw [← e]
        rfl
      · obtain ⟨y, hy, rfl⟩ := List.mem_map.mp hx
        have := Int.emod_nonneg y (by decide : (2 : Int) ≠ 0)
        have := Int.emod_lt_of_pos y (by decide : (0 : Int) < 2)
        show 0 ≤ y % 2 ∧ y % 2 ≤ gr + 5
        omega
    · refine SW.nil ?_
      exact ⟨ds, xs, rfl, hU, hxl, hxs⟩
  clear hU hxl hxs
  rintro ρ ⟨ds, xs, rfl, hU, hxl, hxs⟩
  refine SW.cut (fun ρ => ∃ t, VS lo hi gr sz way (b + 3004) (1001 * (gr + 5)) t ρ) ?_ ?_
  · refine S1.ite ?_
    refine TW.cmp (opA_eq C) ?_ (nomark _)
    refine EW.nameD (i := 5) rfl ?_ -- _law_way
    refine EW.int ?_
    refine ⟨_, _, rfl, rfl, rfl, rfl, ?_⟩
    refine ite_b (fun h1 => ?_) (fun h1 => ?_)
    · -- then
      refine SW.cons ?_
      refine S1.asg (i := 7) C ?_ -- _law_at =
      refine EW.call c__law_take C rfl ?_
      refine EWgs.cons ?_
      refine EW.nameO (i := 0) rfl ?_ -- _law_urn_here
      refine ⟨_, rfl, ?_⟩
      refine EWgs.cons ?_
      refine EW.nameD (i := 4) rfl ?_ -- _law_size
      refine ⟨_, rfl, ?_⟩
      refine EWgs.nil ?_
      refine ⟨(by decide : [0].Nodup), ?_⟩
      refine ⟨b + 3002, ds, sz, rfl, hU, by omega, by omega, by omega, fun v ds1 h0 h1 hU1 => ?_⟩
      obtain ⟨j, rfl⟩ := Int.eq_ofNat_of_zero_le h0
      have hj : j < xs.length := by omega
      have hd : (xs.map PyData.int)[j]? = some (.int (xs.getD j 0)) := by
        rw [List.getElem?_map, List.getD_eq_getElem?_getD, List.getElem?_eq_getElem hj]; rfl
      have hg := getD_le hxs hj
      have hs := sum_bound hxs
      refine ⟨rfl, ?_⟩
      refine SW.cons ?_
      refine S1.setItem ?_
      refine EW.add ?_
      refine EW.sub ?_
      refine EW.sum C ?_
      refine EW.nameO (i := 6) rfl ?_ -- _law_found
      refine ⟨_, rfl, ?_⟩
      refine EW.ix ?_
      refine EW.nameO (i := 6) rfl ?_ -- _law_found
      refine EW.nameD (i := 7) rfl ?_ -- _law_at
      refine ⟨_, _, rfl, atI_nat hd, ?_⟩
      refine ⟨trivial, ?_⟩
      refine EW.call c__law_take C rfl ?_
      refine EWgs.cons ?_
      refine EW.nameO (i := 0) rfl ?_ -- _law_urn_here
      refine ⟨_, rfl, ?_⟩
      refine EWgs.cons ?_
      refine EW.int ?_
      refine ⟨_, rfl, ?_⟩
      refine EWgs.nil ?_
      refine ⟨(by decide : [0].Nodup), ?_⟩
      refine ⟨b + 3003, ds1, 3, rfl, hU1, by omega, by omega, by omega, fun v2 ds2 h20 h21 hU2 => ?_⟩
      refine ⟨_, rfl, ?_⟩
      refine EW.nameO (i := 6) rfl ?_ -- _law_found
      refine ⟨_, rfl, ?_⟩
      refine EW.nameD (i := 7) rfl ?_ -- _law_at
      refine ⟨_, j, _, _, rfl, rfl, by rw [List.length_map]; exact ixN_in h0 (by omega), ?_⟩
      refine SW.nil ?_
      have hM : (xs.length : Int) * (gr + 5) ≤ 1000 * (gr + 5) := Int.mul_le_mul_of_nonneg_right (by omega) (by omega)
      refine ⟨.dat (.int j), ds2, xs.set j (xs.sum - xs.getD j 0 + v2), ?_, hU2, by simpa using hxl, mem_set_le (fun x hx => by have := hxs x hx; omega) (by omega) (by omega)⟩
      rw [← set_ints]
      rfl
    · refine SW.nil ?_
      exact ⟨_, ds, xs, rfl, hU.mono (by omega), hxl, fun x hx => by have := hxs x hx; omega⟩
  clear hU hxl hxs
  rintro ρ ⟨t, ds, xs, rfl, hU, hxl, hxs⟩
  refine SW.cut (fun ρ => ∃ (ds : List PyData) (xs : List Int), ρ = [.hol true ds, .dat (.int lo), .dat (.int hi), .dat (.int gr), .dat (.int sz), .dat (.int way), .hol false (xs.map PyData.int), t] ∧ Urn (b + 5000) ds ∧ (xs.length : Int) = sz ∧ (∀ x ∈ xs, 0 ≤ x ∧ x ≤ 1001 * (gr + 5)) ∧ 0 < xs.sum) ?_ ?_
  · refine S1.ite ?_
    refine TW.cmp (opA_eq C) ?_ (nomark _)
    refine EW.sum C ?_
    refine EW.nameO (i := 6) rfl ?_ -- _law_found
    refine ⟨_, rfl, ?_⟩
    refine EW.int ?_
    refine ⟨_, _, rfl, rfl, rfl, rfl, ?_⟩
    refine ite_b (fun h1 => ?_) (fun h1 => ?_)
    · -- then
      refine SW.cons ?_
      refine S1.setItem ?_
      refine EW.add ?_
      refine EW.int ?_
      refine EW.call c__law_take C rfl ?_
      refine EWgs.cons ?_
      refine EW.nameO (i := 0) rfl ?_ -- _law_urn_here
      refine ⟨_, rfl, ?_⟩
      refine EWgs.cons ?_
      refine EW.nameD (i := 3) rfl ?_ -- _law_great
      refine ⟨_, rfl, ?_⟩
      refine EWgs.nil ?_
      refine ⟨(by decide : [0].Nodup), ?_⟩
      refine ⟨b + 3004, ds, gr, rfl, hU, by omega, by omega, by omega, fun v ds1 h0 h1 hU1 => ?_⟩
      refine ⟨_, rfl, ?_⟩
      refine EW.nameO (i := 6) rfl ?_ -- _law_found
      refine ⟨_, rfl, ?_⟩
      refine EW.call c__law_take C rfl ?_
      refine EWgs.cons ?_
      refine EW.nameO (i := 0) rfl ?_ -- _law_urn_here
      refine ⟨_, rfl, ?_⟩
      refine EWgs.cons ?_
      refine EW.nameD (i := 4) rfl ?_ -- _law_size
      refine ⟨_, rfl, ?_⟩
      refine EWgs.nil ?_
      refine ⟨(by decide : [0].Nodup), ?_⟩
      refine ⟨b + 3005, ds1, sz, rfl, hU1, by omega, by omega, by omega, fun v2 ds2 h20 h21 hU2 => ?_⟩
      obtain ⟨j, rfl⟩ := Int.eq_ofNat_of_zero_le h20
      have hj : j < xs.length := by omega
      refine ⟨_, j, _, _, rfl, rfl, by rw [List.length_map]; exact ixN_in h20 (by omega), ?_⟩
      refine SW.nil ?_
      refine ⟨ds2, xs.set j (1 + v), ?_, hU2.mono (by omega), by simpa using hxl, mem_set_le hxs (by omega) (by omega), sum_set_pos hxs hj (by omega)⟩
      rw [← set_ints]
      rfl
    · refine SW.nil ?_
      have e : xs.sum ≠ 0 := by simpa [PyData.eqv] using h1
      have hs := (sum_bound hxs).1
      exact ⟨ds, xs, rfl, hU.mono (by omega), hxl, hxs, by omega⟩
  clear hU hxl hxs
  rintro ρ ⟨ds, xs, rfl, hU, hxl, hxs, hpos⟩
  refine SW.cons ?_
  refine S1.ret ?_
  refine EW.tupC C ?_
  refine EW.nameO (i := 6) rfl ?_ -- _law_found
  refine ⟨_, rfl, ?_⟩
  exact hR xs ds (by omega) (by omega) hxs hpos hU
end
end VM

/-! margins, in plain Lean -/
namespace VM
open PySem PySem.Spec PyProof.Rows L2 AW
def S (f : Nat → Int) (n : Nat) : Int := ((List.range n).map f).sum
theorem S_succ (f : Nat → Int) (n : Nat) : S f (n + 1) = S f n + f n := by
  unfold S
  rw [List.range_succ, List.map_append, List.sum_append]
  simp
theorem S_congr {f g : Nat → Int} : ∀ {n : Nat}, (∀ i, i < n → f i = g i) → S f n = S g n
  | 0, _ => rfl
  | n + 1, h => by rw [S_succ, S_succ, S_congr fun i hi => h i (Nat.lt_succ_of_lt hi), h n (Nat.lt_succ_self n)]
theorem S_add (f g : Nat → Int) : ∀ n : Nat, S (fun i => f i + g i) n = S f n + S g n
  | 0 => rfl
  | n + 1 => by rw [S_succ, S_succ, S_succ, S_add f g n]; omega
theorem S_getD : ∀ ws : List Int, S (fun i => ws.getD i 0) ws.length = ws.sum := by
  intro ws
  unfold S
  congr 1
  refine List.ext_getElem? fun i => ?_
  rw [List.getElem?_map]
  by_cases h : i < ws.length
  · rw [List.getElem?_range h]
    simp [h]
  · rw [List.getElem?_eq_none (by simp; omega), List.getElem?_eq_none (by omega)]
    rfl
theorem sum_perm {f : Nat → Int} {l m : List Nat} (h : l.Perm m) : (l.map f).sum = (m.map f).sum := by
  induction h with
  | nil => rfl
  | cons x _ ih => simp [ih]
  | swap x y l => simp only [List.map_cons, List.sum_cons]; omega
  | trans _ _ ih1 ih2 => exact ih1.trans ih2
theorem gang_perm {g : List Nat} {n : Nat} (nd : g.Nodup) (lt : ∀ i ∈ g, i < n) : g.Perm ((List.range n).filter fun i => decide (i ∈ g)) := by
  rw [List.perm_ext_iff_of_nodup nd (List.nodup_range.filter _)]
  intro i
  simp only [List.mem_filter, List.mem_range, decide_eq_true_eq]
  exact ⟨fun h => ⟨lt i h, h⟩, fun h => h.2⟩
theorem sum_filter (f : Nat → Int) (p : Nat → Bool) : ∀ n : Nat, (((List.range n).filter p).map f).sum = S (fun i => if p i = true then f i else 0) n
  | 0 => rfl
  | n + 1 => by
    rw [S_succ, ← sum_filter f p n, List.range_succ, List.filter_append, List.map_append, List.sum_append]
    by_cases h : p n = true <;> simp [h]
theorem sum_gang {f : Nat → Int} {g : List Nat} {n : Nat} (nd : g.Nodup) (lt : ∀ i ∈ g, i < n) : (g.map f).sum = S (fun i => if i ∈ g then f i else 0) n := by
  rw [sum_perm (gang_perm nd lt), sum_filter]
  exact S_congr fun i _ => by by_cases h : i ∈ g <;> simp [h]
/-- the sum with signs -/
def sg (ws : List Int) (g : List Nat) (i : Nat) : Int := if i ∈ g then ws.getD i 0 else -ws.getD i 0
theorem marg_signs {ws : List Int} {g : List Nat} (nd : g.Nodup) (lt : ∀ i ∈ g, i < ws.length) : margI ws g = S (sg ws g) ws.length := by
  unfold margI
  rw [sum_gang nd lt, ← S_getD ws]
  generalize ws.length = n
  induction n with
  | zero => rfl
  | succ n ih =>
    simp only [S_succ]
    have e : sg ws g n = 2 * (if n ∈ g then ws.getD n 0 else 0) - ws.getD n 0 := by
      unfold sg
      split <;> omega
    rw [e, ← ih]
    omega
theorem rest_nodup (n : Nat) (g : List Nat) : (restI n g).Nodup := List.nodup_range.filter _
theorem rest_lt {n : Nat} {g : List Nat} : ∀ i ∈ restI n g, i < n := fun i h => by
  unfold restI at h
  have := (List.mem_filter.mp h).1
  exact List.mem_range.mp this
theorem marg_rest {ws : List Int} {g : List Nat} (nd : g.Nodup) (lt : ∀ i ∈ g, i < ws.length) : margI ws (restI ws.length g) = - margI ws g := by
  rw [marg_signs nd lt, marg_signs (rest_nodup _ _) rest_lt]
  have h : S (fun i => sg ws (restI ws.length g) i + sg ws g i) ws.length = 0 := by
    rw [S_congr (g := fun _ => 0)]
    · generalize ws.length = n
      induction n with
      | zero => rfl
      | succ n ih => rw [S_succ, ih]; rfl
    · intro i hi
      unfold sg
      have e : i ∈ restI ws.length g ↔ i ∉ g := by
        unfold restI
        simp only [List.mem_filter, List.mem_range, Bool.not_eq_eq_eq_not, Bool.not_true, decide_eq_false_iff_not]
        exact ⟨fun h => h.2, fun h => ⟨hi, h⟩⟩
      by_cases hg : i ∈ g
      · rw [if_neg (fun z => (e.mp z) hg), if_pos hg]; omega
      · rw [if_pos (e.mpr hg), if_neg hg]; omega
  rw [S_add] at h
  omega
theorem gang_len {g : List Nat} {n : Nat} (nd : g.Nodup) (lt : ∀ i ∈ g, i < n) : g.length ≤ n := by
  rw [(gang_perm nd lt).length_eq]
  exact Nat.le_trans (List.length_filter_le _ _) (by simp)
theorem S_bound {f : Nat → Int} {M : Int} : ∀ {n : Nat}, (∀ i, i < n → -M ≤ f i ∧ f i ≤ M) → -(n * M) ≤ S f n ∧ S f n ≤ n * M
  | 0, _ => by simp [S]
  | n + 1, h => by
    have t := S_bound (n := n) fun i hi => h i (Nat.lt_succ_of_lt hi)
    have h1 := h n (Nat.lt_succ_self n)
    rw [S_succ]
    have e : ((n + 1 : Nat) : Int) * M = n * M + M := by push_cast; rw [Int.add_mul]; omega
    omega
theorem marg_bound {ws : List Int} {g : List Nat} {M : Int} (nd : g.Nodup) (lt : ∀ i ∈ g, i < ws.length) (h : ∀ x ∈ ws, 0 ≤ x ∧ x ≤ M) : -(ws.length * M) ≤ margI ws g ∧ margI ws g ≤ ws.length * M := by
  rw [marg_signs nd lt]
  refine S_bound fun i hi => ?_
  have e : ws.getD i 0 = ws[i] := by rw [List.getD_eq_getElem?_getD, List.getElem?_eq_getElem hi]; rfl
  have := h _ (List.getElem_mem hi)
  unfold sg
  rw [e]
  split <;> omega
end VM

/-! k02 -/
namespace VM
open PySem PySem.Spec PyProof.Rows L2 AW
section
variable {P : Program} {w : World} {K : PySem.W.Frag} {mg : Str → Option Value} {base : Heap}
theorem eqv_int (i j : Int) : PyData.eqv (.int i) (.int j) = decide (i = j) := by
  show (i == j) = _
  by_cases h : i = j <;> simp [h]
abbrev N__law_word : List Str := ["_law_gap"]
theorem sc__law_word : FnScope N__law_word ["_law_gap"] (defScope s__law_word) := ⟨rfl, rfl, rfl, by decide +kernel, rfl, by decide +kernel, by decide +kernel⟩
def a__law_word : ASp := fun as R => ∃ i : Int, as = [.dat (.int i)] ∧ R (.dat (.str (wordI i))) as
theorem ok__law_word {f : Addr} {fd : FuncData} (F : Fun K "_law_word" "_law_word" s__law_word f fd) (B : Blt mg) : FnG P w K mg base CX0 1 f fd ["_law_gap"] (toSp K a__law_word) := by
  refine fnA F sc__law_word (by decide) B (fun as R h => ?_) fun cdv A outer s H E C as R h => ?_
  · obtain ⟨_, rfl, _⟩ := h; rfl
  obtain ⟨i, rfl, h⟩ := h
  refine SW.cons ?_
  refine S1.ret ?_
  refine EW.ifExp ?_
  refine TW.cmp (opA_intB op_gt) ?_ (nomark _)
  refine EW.nameD (i := 0) rfl ?_ -- _law_gap
  refine EW.int ?_
  refine ite_dec (fun h1 => ?_) (fun h1 => ?_)
  · -- then
    refine EW.str ?_
    have e : wordI i = "decides" := if_pos h1
    rw [e] at h
    exact h
  · -- else
    refine EW.ifExp ?_
    refine TW.cmp (opA_eq C) ?_ (nomark _)
    refine EW.nameD (i := 0) rfl ?_ -- _law_gap
    refine EW.int ?_
    refine ⟨_, _, rfl, rfl, rfl, rfl, ?_⟩
    refine ite_b (fun h2 => ?_) (fun h2 => ?_)
    · -- then
      refine EW.str ?_
      have e : wordI i = "ties" := (if_neg h1).trans (if_pos (by simpa [PyData.eqv] using h2))
      rw [e] at h
      exact h
    · -- else
      refine EW.str ?_
      have e : wordI i = "fails" := (if_neg h1).trans (if_neg (by simpa [PyData.eqv] using h2))
      rw [e] at h
      exact h
theorem sml_word (i : Int) : Sml 10 0 (.str (wordI i)) := by
  unfold wordI
  split
  · exact (Sml.str (by decide)).mono (by decide) (Nat.le_refl _)
  · split
    · exact (Sml.str (by decide)).mono (by decide) (Nat.le_refl _)
    · exact (Sml.str (by decide)).mono (by decide) (Nat.le_refl _)
theorem sml_tupN {g : List Nat} (h : ∀ i ∈ g, i < 1000000) : Sml g.length 1 (tupN g) := by
  refine .tuple ((SmlAll.all (n := 0) (m := 0) (ds := g.map intN) fun d hd => ?_).mono (by simp) (Nat.le_refl _))
  obtain ⟨i, hi, rfl⟩ := List.mem_map.mp hd
  have := h i hi
  exact .int (.of 10 (by omega) (by omega) (by decide))
theorem sml_tupI {ws : List Int} (h : ∀ x ∈ ws, Nm x) : Sml ws.length 1 (tupI ws) := .tuple (smlInts h)
abbrev N__law_gang_right : List Str := ["_law_votes_here", "_law_gang", "_law_left", "_law_gap", "_law_at", "_law_vote", "_law_told"]
theorem sc__law_gang_right : FnScope N__law_gang_right ["_law_votes_here", "_law_gang"] (defScope s__law_gang_right) := ⟨rfl, rfl, rfl, by decide +kernel, rfl, by decide +kernel, by decide +kernel⟩
def MX : Int := 10 ^ 100
def a__law_gang_right : ASp := fun as R => ∃ (ws : List Int) (g : List Nat), as = [.dat (tupI ws), .dat (tupN g)] ∧ ws.length ≤ 1000 ∧ (∀ x ∈ ws, 0 ≤ x ∧ x ≤ MX) ∧ g.Nodup ∧ (∀ i ∈ g, i < ws.length) ∧ R (.dat (.bool true)) as
theorem ok__law_gang_right {f : Addr} {fd : FuncData} (F : Fun K "_law_gang_right" "_law_gang_right" s__law_gang_right f fd) (B : Blt mg) (c__law_word : Cal P w K mg base 1 "_law_word" a__law_word)
    (c_rest : Cal P w K mg base 1 "rest" a_rest) (c_margin : Cal P w K mg base 2 "margin" a_margin) (c_outcome : Cal P w K mg base 3 "outcome" a_outcome) (k_rest : CalK P w K mg base 1 "rest" 0 ["group", "weights"] [1, 0] a_rest)
    (k_margin : CalK P w K mg base 2 "margin" 0 ["group", "weights"] [1, 0] a_margin) (k_outcome : CalK P w K mg base 3 "outcome" 0 ["group", "weights"] [1, 0] a_outcome) : FnG P w K mg base CX0 4 f fd ["_law_votes_here", "_law_gang"] (toSp K a__law_gang_right) := by
  replace c__law_word := c__law_word.mono (show 1 ≤ 3 by decide)
  replace c_rest := c_rest.mono (show 1 ≤ 3 by decide)
  replace c_margin := c_margin.mono (show 2 ≤ 3 by decide)
  replace k_rest := k_rest.mono (show 1 ≤ 3 by decide)
  replace k_margin := k_margin.mono (show 2 ≤ 3 by decide)
  refine fnA F sc__law_gang_right (by decide) B (fun as R h => ?_) fun cdv A outer s H E C as R h => ?_
  · obtain ⟨_, _, rfl, _⟩ := h; rfl
  obtain ⟨ws, g, rfl, hl, hw, nd, lt, hR⟩ := h
  have gl : g.length ≤ 1000000 := Nat.le_trans (gang_len nd lt) (by omega)
  have ll : (restI ws.length g).length ≤ ws.length := gang_len (rest_nodup _ _) rest_lt
  have ln : (ws.map PyData.int).length = ws.length := List.length_map _
  have mb := marg_bound nd lt hw
  have hM : (ws.length : Int) * MX ≤ 1000 * MX := Int.mul_le_mul_of_nonneg_right (by omega) (by decide)
  have nm : Nm (margI ws g) := by
    have e1 : (1000 * MX : Int) < (10 ^ 150 : Nat) := by decide
    exact .of 150 (by omega) (by omega) (by decide)
  have smL : Sml 1010 1 (tupN (restI ws.length g)) := (sml_tupN fun i hi => by have := rest_lt i hi; omega).mono (by omega) (Nat.le_refl _)
  have smA : SmlAll 2000 1 [tupN (restI ws.length g), .int (margI ws g), .str (wordI (margI ws g))] := (SmlAll.cons smL (.cons (.int nm) (.cons (sml_word _) .nil))).mono (by decide) (by decide)
  have sm := Sml.list smA
  refine SW.cons ?_
  refine S1.par (i := 2) (j := 3) C ?_ rfl rfl (by decide) rfl rfl rfl
  refine EW.tupC C ?_
  refine EW.lcP (List.range ws.length) intN (fun i => if i ∈ g then none else some (intN i)) (own := [("_law_at", 4)]) (is := [4]) C ?_ (blkOk_by (N := N__law_gang_right) (sc := defScope s__law_gang_right) (by decide +kernel)) (by decide)
  refine IW.range1 C ?_
  refine EW.len C ?_
  refine EW.nameD (i := 0) rfl ?_ -- _law_votes_here
  refine ⟨_, rfl, ?_⟩
  refine ⟨_, rfl, by omega, by omega, ?_⟩
  refine ⟨by rw [Int.toNat_natCast, ln]; exact rngD_nat _, by simp; omega, rfl, fun z hz => ?_, ?_⟩
  · refine Turn1.one fun s0 H0 C0 cl fp => ?_
    refine GW.name C.nd (i := 4) ⟨rfl, ?_⟩
    intro s0 H0 C0 cl fp
    refine TW.cmp (opA_notIn (C.blk ..)) ?_ rfl
    refine EW.nameD (i := 4) rfl ?_ -- _law_at
    refine EW.nameD (i := 1) rfl ?_ -- _law_gang
    refine ⟨_, _, rfl, .inl ⟨rfl, rfl, flat_nat g⟩, ?_⟩
    show if (!inB (.int (z : Nat)) (g.map intN)) = true then _ else _
    rw [inB_nat]
    refine ite_b (fun h1 => ?_) (fun h1 => ?_)
    · intro s0 H0 C0 cl fp
      refine EW.nameD (i := 4) rfl ?_ -- _law_at
      have h2 : z ∉ g := by simpa using h1
      exact ⟨_, rfl, by simp [h2], rfl⟩
    · have h2 : z ∈ g := by simpa using h1
      exact ⟨by simp [h2], rfl⟩
  rw [restI_map]
  refine ⟨_, rfl, ?_⟩
  refine EW.int ?_
  refine ⟨rfl, rfl, ?_⟩
  refine SW.cut (fun ρ => ∃ t4 t5, ρ = [.dat (tupI ws), .dat (tupN g), .dat (tupN (restI ws.length g)), .dat (.int (margI ws g)), t4, t5, .un]) ?_ ?_
  · refine S1.for (is := [4, 5]) C ?_ .leaving
    refine IW.enumT C ?_ -- or enumL
    refine EW.nameD (i := 0) rfl ?_ -- _law_votes_here
    refine ⟨_, rfl, ?_⟩
    refine ⟨fun i ρ => ∃ t4 t5, ρ = [.dat (tupI ws), .dat (tupN g), .dat (tupN (restI ws.length g)), .dat (.int (S (sg ws g) i)), t4, t5, .un] ∧ nH t4 = true ∧ nH t5 = true, ⟨.un, .un, rfl, rfl, rfl⟩, ?_, ?_⟩
    · rintro i d ρ hd ⟨t4, t5, rfl, n4, n5⟩
      obtain ⟨d', hd', rfl⟩ := enumD_get hd
      rw [List.getElem?_map] at hd'
      have hi : i < ws.length := by
        by_cases q : i < ws.length
        · exact q
        · rw [List.getElem?_eq_none (by omega)] at hd'
          simp at hd'
      rw [List.getElem?_eq_getElem hi] at hd'
      obtain rfl : PyData.int ws[i] = d' := by simpa using hd'
      refine GW.tup C ⟨_, rfl, rfl, ?_⟩
      refine GWs.cons (is := [4]) (js := [5]) ?_
      refine GW.name C.nd (i := 4) ⟨pin_nH rfl n4, ?_⟩
      refine GWs.cons (is := [5]) (js := []) ?_
      refine GW.name C.nd (i := 5) ⟨pin_nH rfl n5, ?_⟩
      refine GWs.nil ?_
      refine SW.cons ?_
      refine S1.asg (i := 3) C ?_ -- _law_gap =
      refine EW.ifExp ?_
      refine TW.cmp (opA_in C) ?_ rfl
      refine EW.nameD (i := 4) rfl ?_ -- _law_at
      refine EW.nameD (i := 1) rfl ?_ -- _law_gang
      refine ⟨_, _, rfl, .inl ⟨rfl, rfl, flat_nat g⟩, ?_⟩
      show if (inB (.int (i : Nat)) (g.map intN)) = true then _ else _
      rw [inB_nat]
      have ew : ws.getD i 0 = ws[i] := by rw [List.getD_eq_getElem?_getD, List.getElem?_eq_getElem hi]; rfl
      refine ite_dec (fun h1 => ?_) (fun h1 => ?_)
      · -- then
        refine EW.add ?_
        refine EW.nameD (i := 3) rfl ?_ -- _law_gap
        refine EW.nameD (i := 5) rfl ?_ -- _law_vote
        have e : S (sg ws g) i + ws[i] = S (sg ws g) (i + 1) := by rw [S_succ, sg, if_pos h1, ew]
        refine ⟨rfl, ?_⟩
        refine SW.nil ?_
        exact ⟨_, _, by rw [← e]; rfl, rfl, rfl⟩
      · -- else
        refine EW.sub ?_
        refine EW.nameD (i := 3) rfl ?_ -- _law_gap
        refine EW.nameD (i := 5) rfl ?_ -- _law_vote
        have e : S (sg ws g) i - ws[i] = S (sg ws g) (i + 1) := by rw [S_succ, sg, if_neg h1, ew]; omega
        refine ⟨trivial, ?_⟩
        refine ⟨rfl, ?_⟩
        refine SW.nil ?_
        exact ⟨_, _, by rw [← e]; rfl, rfl, rfl⟩
    · rintro ρ ⟨t4, t5, rfl, _, _⟩
      rw [enumD_length, ln, ← marg_signs nd lt]
      exact ⟨t4, t5, rfl⟩
  rintro ρ ⟨t4, t5, rfl⟩
  refine SW.cons ?_
  refine S1.ite ?_
  refine TW.cmp (opA_ne C) ?_ (nomark _)
  refine EW.repr C ?_
  refine EW.list ?_
  refine EWds.cons ?_
  refine EW.call c_rest C rfl ?_
  refine EWgs.cons ?_
  refine EW.nameD (i := 0) rfl ?_ -- _law_votes_here
  refine ⟨_, rfl, ?_⟩
  refine EWgs.cons ?_
  refine EW.nameD (i := 1) rfl ?_ -- _law_gang
  refine ⟨_, rfl, ?_⟩
  refine EWgs.nil ?_
  refine ⟨List.nodup_nil, ?_⟩
  refine ⟨ws, g, rfl, by omega, ?_⟩
  refine ⟨_, rfl, ?_⟩
  refine EWds.cons ?_
  refine EW.call c_margin C rfl ?_
  refine EWgs.cons ?_
  refine EW.nameD (i := 0) rfl ?_ -- _law_votes_here
  refine ⟨_, rfl, ?_⟩
  refine EWgs.cons ?_
  refine EW.nameD (i := 1) rfl ?_ -- _law_gang
  refine ⟨_, rfl, ?_⟩
  refine EWgs.nil ?_
  refine ⟨List.nodup_nil, ?_⟩
  refine ⟨ws, g, rfl, lt, gl, ?_⟩
  refine ⟨_, rfl, ?_⟩
  refine EWds.cons ?_
  refine EW.call c_outcome C rfl ?_
  refine EWgs.cons ?_
  refine EW.nameD (i := 0) rfl ?_ -- _law_votes_here
  refine ⟨_, rfl, ?_⟩
  refine EWgs.cons ?_
  refine EW.nameD (i := 1) rfl ?_ -- _law_gang
  refine ⟨_, rfl, ?_⟩
  refine EWgs.nil ?_
  refine ⟨List.nodup_nil, ?_⟩
  refine ⟨ws, g, rfl, lt, gl, ?_⟩
  refine ⟨_, rfl, ?_⟩
  refine EWds.nil ?_
  refine ⟨(by decide : (3 : Nat) ≤ sizeLine), ?_⟩
  refine ⟨_, rfl, sm.shw (by decide) (by decide), ?_⟩
  refine EW.repr C ?_
  refine EW.list ?_
  refine EWds.cons ?_
  refine EW.nameD (i := 2) rfl ?_ -- _law_left
  refine ⟨_, rfl, ?_⟩
  refine EWds.cons ?_
  refine EW.nameD (i := 3) rfl ?_ -- _law_gap
  refine ⟨_, rfl, ?_⟩
  refine EWds.cons ?_
  refine EW.call c__law_word C rfl ?_
  refine EWgs.cons ?_
  refine EW.nameD (i := 3) rfl ?_ -- _law_gap
  refine ⟨_, rfl, ?_⟩
  refine EWgs.nil ?_
  refine ⟨List.nodup_nil, ?_⟩
  refine ⟨_, rfl, ?_⟩
  refine ⟨_, rfl, ?_⟩
  refine EWds.nil ?_
  refine ⟨(by decide : (3 : Nat) ≤ sizeLine), ?_⟩
  refine ⟨_, rfl, sm.shw (by decide) (by decide), ?_⟩
  refine ite_b (fun h1 => ?_) (fun h1 => ?_)
  · -- then
    simp at h1
  refine SW.nil ?_
  clear h1
  refine SW.cons ?_
  refine S1.asg (i := 6) C ?_ -- _law_told =
  refine EW.list ?_
  refine EWds.cons ?_
  refine EW.callK0 k_rest C rfl ?_
  refine EWks.cons ?_
  refine EW.nameD (i := 1) rfl ?_ -- _law_gang
  refine ⟨_, rfl, ?_⟩
  refine EWks.cons ?_
  refine EW.nameD (i := 0) rfl ?_ -- _law_votes_here
  refine ⟨_, rfl, ?_⟩
  refine EWks.nil ?_
  refine ⟨rfl, List.nodup_nil, ?_⟩
  refine ⟨ws, g, rfl, by omega, ?_⟩
  refine ⟨_, rfl, ?_⟩
  refine EWds.cons ?_
  refine EW.callK0 k_margin C rfl ?_
  refine EWks.cons ?_
  refine EW.nameD (i := 1) rfl ?_ -- _law_gang
  refine ⟨_, rfl, ?_⟩
  refine EWks.cons ?_
  refine EW.nameD (i := 0) rfl ?_ -- _law_votes_here
  refine ⟨_, rfl, ?_⟩
  refine EWks.nil ?_
  refine ⟨rfl, List.nodup_nil, ?_⟩
  refine ⟨ws, g, rfl, lt, gl, ?_⟩
  refine ⟨_, rfl, ?_⟩
  refine EWds.cons ?_
  refine EW.callK0 k_outcome C rfl ?_
  refine EWks.cons ?_
  refine EW.nameD (i := 1) rfl ?_ -- _law_gang
  refine ⟨_, rfl, ?_⟩
  refine EWks.cons ?_
  refine EW.nameD (i := 0) rfl ?_ -- _law_votes_here
  refine ⟨_, rfl, ?_⟩
  refine EWks.nil ?_
  refine ⟨rfl, List.nodup_nil, ?_⟩
  refine ⟨ws, g, rfl, lt, gl, ?_⟩
  refine ⟨_, rfl, ?_⟩
  refine EWds.nil ?_
  refine ⟨(by decide : (3 : Nat) ≤ sizeLine), ?_⟩
  refine ⟨rfl, ?_⟩
  refine SW.cons ?_
  refine S1.ret ?_
  refine EW.and ?_
  refine EW.cmp (opA_eq C) ?_ (nomark _)
  refine EW.nameO (i := 6) rfl ?_ -- _law_told
  refine EW.list ?_
  refine EWds.cons ?_
  refine EW.nameD (i := 2) rfl ?_ -- _law_left
  refine ⟨_, rfl, ?_⟩
  refine EWds.cons ?_
  refine EW.nameD (i := 3) rfl ?_ -- _law_gap
  refine ⟨_, rfl, ?_⟩
  refine EWds.cons ?_
  refine EW.call c__law_word C rfl ?_
  refine EWgs.cons ?_
  refine EW.nameD (i := 3) rfl ?_ -- _law_gap
  refine ⟨_, rfl, ?_⟩
  refine EWgs.nil ?_
  refine ⟨List.nodup_nil, ?_⟩
  refine ⟨_, rfl, ?_⟩
  refine ⟨_, rfl, ?_⟩
  refine EWds.nil ?_
  refine ⟨(by decide : (3 : Nat) ≤ sizeLine), ?_⟩
  refine ⟨_, _, rfl, rfl, sm.shaped (by decide), sm.shaped (by decide), ?_⟩
  refine ite_b (fun h1 => ?_) (fun h1 => ?_)
  · refine EW.one ?_
    refine EW.cmp (opA_eq C) ?_ (nomark _)
    refine EW.call c_margin C rfl ?_
    refine EWgs.cons ?_
    refine EW.nameD (i := 0) rfl ?_ -- _law_votes_here
    refine ⟨_, rfl, ?_⟩
    refine EWgs.cons ?_
    refine EW.nameD (i := 2) rfl ?_ -- _law_left
    refine ⟨_, rfl, ?_⟩
    refine EWgs.nil ?_
    refine ⟨List.nodup_nil, ?_⟩
    refine ⟨ws, restI ws.length g, rfl, rest_lt, by omega, ?_⟩
    refine EW.neg ?_
    refine EW.nameD (i := 3) rfl ?_ -- _law_gap
    refine ⟨_, rfl, ?_⟩
    refine ⟨_, _, rfl, rfl, rfl, rfl, ?_⟩
    rw [marg_rest nd lt, eqv_int, decide_eq_true rfl]
    exact hR
  · rw [eqv_self sm] at h1
    cases h1
end
end VM

/-! k02: one round, the law -/
namespace VM
open PySem PySem.Spec PyProof.Rows L2 AW
section
variable {P : Program} {w : World} {K : PySem.W.Frag} {mg : Str → Option Value} {base : Heap}
abbrev N__law_right : List Str := ["_law_urn_here", "_law_votes_here", "_law_kept", "_law_size", "_law_some", "_law_turn", "_law_at", "_law_gang", "_law_total", "_law_vote"]
theorem sc__law_right : FnScope N__law_right ["_law_urn_here"] (defScope s__law_right) := ⟨rfl, rfl, rfl, by decide +kernel, rfl, by decide +kernel, by decide +kernel⟩
def a__law_right : ASp := fun as R => ∃ (b : Nat) (ds : List PyData), as = [.hol true ds] ∧ Urn b ds ∧ b < 10000000000 ∧ ∀ ds', Urn (b + 6000) ds' → R (.dat (.bool true)) [.hol true ds']
def gangOk (n : Nat) (g : List Nat) : Prop := g.Nodup ∧ ∀ j ∈ g, j < n
theorem nodup_snoc {g : List Nat} {i : Nat} (nd : g.Nodup) (lt : ∀ j ∈ g, j < i) : (g ++ [i]).Nodup := by
  rw [List.nodup_append]
  refine ⟨nd, List.nodup_cons.mpr ⟨List.not_mem_nil, List.nodup_nil⟩, fun a ha b hb e => ?_⟩
  obtain rfl := List.mem_singleton.mp hb
  have := lt a ha
  omega
theorem ok__law_right {f : Addr} {fd : FuncData} (F : Fun K "_law_right" "_law_right" s__law_right f fd) (B : Blt mg) (c__law_take : Cal P w K mg base 1 "_law_take" a__law_take) (c__law_of : Cal P w K mg base 2 "_law_of" a__law_of) (c__law_votes : Cal P w K mg base 3 "_law_votes" a__law_votes)
    (c__law_gang_right : Cal P w K mg base 4 "_law_gang_right" a__law_gang_right) (c_total_of : Cal P w K mg base 1 "total_of" a_total_of) (k_total_of : CalK P w K mg base 1 "total_of" 0 ["weights"] [0] a_total_of) : FnG P w K mg base CX0 5 f fd ["_law_urn_here"] (toSp K a__law_right) := by
  replace c__law_take := c__law_take.mono (show 1 ≤ 4 by decide)
  replace c__law_of := c__law_of.mono (show 2 ≤ 4 by decide)
  replace c__law_votes := c__law_votes.mono (show 3 ≤ 4 by decide)
  replace c_total_of := c_total_of.mono (show 1 ≤ 4 by decide)
  replace k_total_of := k_total_of.mono (show 1 ≤ 4 by decide)
  refine fnA F sc__law_right (by decide) B (fun as R h => ?_) fun cdv A outer s H E C as R h => ?_
  · obtain ⟨_, _, rfl, _⟩ := h; rfl
  obtain ⟨b, ds, rfl, hU, hb, hR⟩ := h
  refine SW.cut (fun ρ => ∃ (ds : List PyData) (ws : List Int), ρ = [.hol true ds, .dat (tupI ws), .un, .un, .un, .un, .un, .un, .un, .un] ∧ Urn (b + 5001) ds ∧ 1 ≤ ws.length ∧ ws.length ≤ 12 ∧ ∀ x ∈ ws, 0 ≤ x ∧ x ≤ MX) ?_ ?_
  · refine S1.asg (i := 1) C ?_ -- _law_votes_here =
    refine EW.call c__law_votes C rfl ?_
    refine EWgs.cons ?_
    refine EW.nameO (i := 0) rfl ?_ -- _law_urn_here
    refine ⟨_, rfl, ?_⟩
    refine EWgs.cons ?_
    refine EW.int ?_
    refine ⟨_, rfl, ?_⟩
    refine EWgs.cons ?_
    refine EW.int ?_
    refine ⟨_, rfl, ?_⟩
    refine EWgs.cons ?_
    refine EW.call c__law_of C rfl ?_
    refine EWgs.cons ?_
    refine EW.nameO (i := 0) rfl ?_ -- _law_urn_here
    refine ⟨_, rfl, ?_⟩
    refine EWgs.cons ?_
    refine EW.list ?_
    refine EWds.cons ?_
    refine EW.int ?_
    refine ⟨_, rfl, ?_⟩
    refine EWds.cons ?_
    refine EW.int ?_
    refine ⟨_, rfl, ?_⟩
    refine EWds.cons ?_
    refine EW.pow ?_
    refine EW.int ?_
    refine EW.int ?_
    refine ⟨powOk 4 (by omega) (by omega) (by omega) (by omega), ?_⟩
    refine ⟨_, rfl, ?_⟩
    refine EWds.cons ?_
    refine EW.pow ?_
    refine EW.int ?_
    refine EW.int ?_
    refine ⟨powOk 4 (by omega) (by omega) (by omega) (by omega), ?_⟩
    refine ⟨_, rfl, ?_⟩
    refine EWds.nil ?_
    refine ⟨(by decide : (4 : Nat) ≤ sizeLine), ?_⟩
    refine ⟨_, rfl, ?_⟩
    refine EWgs.nil ?_
    refine ⟨(by decide : [0].Nodup), ?_⟩
    refine ⟨b, ds, [.int 3, .int 9, .int (10 ^ 9), .int (10 ^ 38)], rfl, hU, by omega, by simp, by simp, fun d ds1 hd hU1 => ?_⟩
    have hg : ∃ gr : Int, d = .int gr ∧ 0 < gr ∧ gr ≤ 10 ^ 38 := by
      simp only [List.mem_cons, List.not_mem_nil, or_false] at hd
      rcases hd with rfl | rfl | rfl | rfl <;> exact ⟨_, rfl, by decide, by decide⟩
    obtain ⟨gr, rfl, g0, g1⟩ := hg
    refine ⟨_, rfl, ?_⟩
    refine EWgs.nil ?_
    refine ⟨(by decide : [0].Nodup), ?_⟩
    refine ⟨b + 1, ds1, 1, 12, gr, rfl, hU1, by omega, by omega, by omega, by omega, g0, by omega, fun ws ds2 l0 l1 hw _ hU2 => ?_⟩
    refine ⟨rfl, ds2, ws, rfl, hU2, by omega, by omega, fun x hx => ?_⟩
    have := hw x hx
    have e : 1001 * (10 ^ 38 + 5) ≤ MX := by decide
    omega
  clear hU
  rintro ρ ⟨ds, ws, rfl, hU, l0, l1, hw⟩
  have hNm : ∀ x ∈ ws, Nm x := fun x hx => by
    have := hw x hx
    have e : MX < (10 ^ 150 : Nat) := by decide
    exact .of 150 (by omega) (by omega) (by decide)
  have smV := (sml_tupI hNm).mono (show ws.length ≤ 12 from l1) (Nat.le_refl _)
  have ln : (ws.map PyData.int).length = ws.length := List.length_map _
  refine SW.cons ?_
  refine S1.par (i := 2) (j := 3) C ?_ rfl rfl (by decide) rfl rfl rfl
  refine EW.repr C ?_
  refine EW.nameD (i := 1) rfl ?_ -- _law_votes_here
  refine ⟨_, rfl, smV.shw (by decide) (by decide), ?_⟩
  refine EW.len C ?_
  refine EW.nameD (i := 1) rfl ?_ -- _law_votes_here
  refine ⟨_, rfl, ?_⟩
  refine ⟨rfl, rfl, ?_⟩
  rw [ln]
  refine SW.cut (fun ρ => ρ = [.hol true ds, .dat (tupI ws), .dat (.str (tupI ws).shown), .dat (.int ws.length), .hol false ([[], List.range ws.length].map tupN), .un, .un, .un, .un, .un]) ?_ ?_
  · refine S1.asg (i := 4) C ?_ -- _law_some =
    refine EW.list ?_
    refine EWds.cons ?_
    refine EW.tuple ?_
    refine EWds.nil ?_
    refine ⟨(by decide : (0 : Nat) ≤ sizeLine), ?_⟩
    refine ⟨_, rfl, ?_⟩
    refine EWds.cons ?_
    refine EW.tupRg C ?_
    refine EW.nameD (i := 3) rfl ?_ -- _law_size
    refine ⟨_, rfl, by omega, by omega, ?_⟩
    refine ⟨_, rfl, ?_⟩
    refine EWds.nil ?_
    refine ⟨(by decide : (2 : Nat) ≤ sizeLine), ?_⟩
    rw [Int.toNat_natCast, rngD_nat]
    exact ⟨rfl, rfl⟩
  rintro ρ rfl
  refine SW.cut (fun ρ => ∃ (ds : List PyData) (gs : List (List Nat)) (t5 : SV), ρ = [.hol true ds, .dat (tupI ws), .dat (.str (tupI ws).shown), .dat (.int ws.length), .hol false (gs.map tupN), t5, .un, .un, .un, .un] ∧ Urn (b + 6000) ds ∧ gs.length ≤ 100 ∧ ∀ g ∈ gs, gangOk ws.length g) ?_ ?_
  · refine S1.for (is := [5]) C ?_ .leaving
    refine IW.range1 C ?_
    refine EW.int ?_
    refine ⟨_, rfl, by omega, by omega, ?_⟩
    refine ⟨fun i ρ => ∃ (ds : List PyData) (gs : List (List Nat)) (t5 : SV), ρ = [.hol true ds, .dat (tupI ws), .dat (.str (tupI ws).shown), .dat (.int ws.length), .hol false (gs.map tupN), t5, .un, .un, .un, .un] ∧ nH t5 = true ∧ Urn (b + 5001 + 12 * i) ds ∧ gs.length = i + 2 ∧ ∀ g ∈ gs, gangOk ws.length g, ⟨ds, _, .un, rfl, rfl, hU, rfl, ?_⟩, ?_, ?_⟩
    · intro g hg
      simp only [List.mem_cons, List.not_mem_nil, or_false] at hg
      rcases hg with rfl | rfl
      · exact ⟨List.nodup_nil, by simp⟩
      · exact ⟨List.nodup_range, fun j hj => List.mem_range.mp hj⟩
    · clear hU
      rintro i d ρ hd ⟨ds, gs, t5, rfl, n5, hU, hgl, hgs⟩
      have hi : i < 12 := by
        have := (List.getElem?_eq_some_iff.mp hd).1
        simpa [rngD] using this
      refine GW.name C.nd (i := 5) ⟨pin_nH rfl n5, ?_⟩
      refine SW.cons ?_
      refine S1.expr ?_
      refine EW.append ?_
      refine EW.nameO (i := 4) rfl ?_ -- _law_some
      refine ⟨_, rfl, ?_⟩
      refine EW.tupC C ?_
      refine EW.lc (own := [("_law_at", 6)]) (is := [6]) C ?_ (blkOk_by (N := N__law_right) (sc := defScope s__law_right) (by decide +kernel)) (by decide)
      refine IW.range1 C ?_
      refine EW.nameD (i := 3) rfl ?_ -- _law_size
      refine ⟨_, rfl, by omega, by omega, ?_⟩
      rw [Int.toNat_natCast, rngD_nat]
      refine ⟨by simp; omega, rfl, fun j acc ρ => ∃ (ds : List PyData) (g : List Nat), ρ = [.hol true ds, .dat (tupI ws), .dat (.str (tupI ws).shown), .dat (.int ws.length), .hol false (gs.map tupN), .dat d, .un, .un, .un, .un] ∧ Urn (b + 5001 + 12 * i + j) ds ∧ acc = g.map intN ∧ g.Nodup ∧ ∀ m ∈ g, m < j, ⟨ds, [], rfl, hU, rfl, List.nodup_nil, by simp⟩, ?_, ?_⟩
      · clear hU
        rintro j d2 acc ρ hd2 ⟨ds, g, rfl, hU, rfl, nd, lt⟩
        obtain ⟨z, hz, rfl⟩ := getElem?_map_some hd2
        have hj : j < ws.length := by
          have := (List.getElem?_eq_some_iff.mp hz).1
          simpa using this
        rw [List.getElem?_range hj] at hz
        obtain rfl : j = z := Option.some.inj hz
        refine Turn1.one fun s0 H0 C0 cl fp => ?_
        refine GW.name C.nd (i := 6) ⟨rfl, ?_⟩
        intro s0 H0 C0 cl fp
        refine TW.cmp (opA_eq (C.blk ..)) ?_ (nomark _)
        refine EW.call c__law_take (C.blk ..) rfl ?_
        refine EWgs.cons ?_
        refine EW.nameO (i := 0) rfl ?_ -- _law_urn_here
        refine ⟨_, rfl, ?_⟩
        refine EWgs.cons ?_
        refine EW.int ?_
        refine ⟨_, rfl, ?_⟩
        refine EWgs.nil ?_
        refine ⟨(by decide : [0].Nodup), ?_⟩
        refine ⟨b + 5001 + 12 * i + j, ds, 2, rfl, hU, by omega, by omega, by omega, fun v ds1 h0 h1 hU1 => ?_⟩
        refine EW.int ?_
        refine ⟨_, _, rfl, rfl, rfl, rfl, ?_⟩
        refine ite_b (fun h1 => ?_) (fun h1 => ?_)
        · intro s0 H0 C0 cl fp
          refine EW.nameD (i := 6) rfl ?_ -- _law_at
          refine ⟨_, rfl, ds1, g ++ [j], rfl, hU1, by simp [addO], nodup_snoc nd lt, fun m hm => ?_⟩
          rcases List.mem_append.mp hm with hm | hm
          · have := lt m hm; omega
          · obtain rfl := List.mem_singleton.mp hm; omega
        · exact ⟨ds1, g, rfl, hU1, rfl, nd, fun m hm => by have := lt m hm; omega⟩
      · clear hU
        rintro acc ρ ⟨ds, g, rfl, hU, rfl, nd, lt⟩
        rw [List.length_map, List.length_range] at hU lt
        refine ⟨_, rfl, ?_⟩
        have sl : (sizeLine : Nat) = 16777216 := sizeLine_eq
        refine ⟨_, rfl, _, _, rfl, by rw [List.length_map]; omega, ?_⟩
        refine SW.nil ?_
        refine ⟨ds, gs ++ [g], .dat d, by simp [tupN], rfl, hU.mono (by omega), by simp [hgl], fun q hq => ?_⟩
        rcases List.mem_append.mp hq with hq | hq
        · exact hgs q hq
        · obtain rfl := List.mem_singleton.mp hq
          exact ⟨nd, lt⟩
    · clear hU
      rintro ρ ⟨ds, gs, t5, rfl, n5, hU, hgl, hgs⟩
      have e : (rngD 0 (12 : Int).toNat).length = 12 := by simp [rngD]
      rw [e] at hU hgl
      exact ⟨ds, gs, t5, rfl, hU.mono (by omega), by omega, hgs⟩
  clear hU
  rintro ρ ⟨ds, gs, t5, rfl, hU, hgl, hgs⟩
  refine SW.demote (i := 4) rfl ?_
  refine SW.cons ?_
  refine S1.ite ?_
  refine TW.not ?_
  refine TW.val ?_
  refine EW.all C ?_
  refine EW.lcP gs tupN (fun _ => some (.bool true)) (own := [("_law_gang", 7)]) (is := [7]) C ?_ (blkOk_by (N := N__law_right) (sc := defScope s__law_right) (by decide +kernel)) (by decide)
  refine IW.list ?_ -- or list
  refine EW.nameD (i := 4) rfl ?_ -- _law_some
  refine ⟨_, rfl, ?_⟩
  refine ⟨rfl, by omega, rfl, fun z hz => ?_, ?_⟩
  · refine Turn1.nil fun s0 H0 C0 cl fp => ?_
    refine GW.name C.nd (i := 7) ⟨rfl, ?_⟩
    intro s0 H0 C0 cl fp
    refine EW.call c__law_gang_right (C.blk ..) rfl ?_
    refine EWgs.cons ?_
    refine EW.nameD (i := 1) rfl ?_ -- _law_votes_here
    refine ⟨_, rfl, ?_⟩
    refine EWgs.cons ?_
    refine EW.nameD (i := 7) rfl ?_ -- _law_gang
    refine ⟨_, rfl, ?_⟩
    refine EWgs.nil ?_
    refine ⟨List.nodup_nil, ?_⟩
    refine ⟨ws, z, rfl, by omega, hw, (hgs z hz).1, (hgs z hz).2, ?_⟩
    exact ⟨_, rfl, rfl, rfl⟩
  refine ⟨gs.map fun _ => true, by simp [seqL, List.filterMap_eq_map', Function.comp_def], ?_⟩
  have eall : (gs.map fun _ => true).all id = true := by simp
  rw [eall]
  refine SW.nil ?_
  refine SW.cons ?_
  refine S1.asg (i := 8) C ?_ -- _law_total =
  refine EW.int ?_
  refine ⟨rfl, ?_⟩
  refine SW.cut (fun ρ => ∃ t9, ρ = [.hol true ds, .dat (tupI ws), .dat (.str (tupI ws).shown), .dat (.int ws.length), .dat (.list (gs.map tupN)), t5, .un, .un, .dat (.int ws.sum), t9]) ?_ ?_
  · refine S1.for (is := [9]) C ?_ .leaving
    refine IW.tup ?_ -- or list
    refine EW.nameD (i := 1) rfl ?_ -- _law_votes_here
    refine ⟨_, rfl, ?_⟩
    refine ⟨fun i ρ => ∃ t9, ρ = [.hol true ds, .dat (tupI ws), .dat (.str (tupI ws).shown), .dat (.int ws.length), .dat (.list (gs.map tupN)), t5, .un, .un, .dat (.int (ws.take i).sum), t9] ∧ nH t9 = true, ⟨.un, rfl, rfl⟩, ?_, ?_⟩
    · rintro i d ρ hd ⟨t9, rfl, n9⟩
      obtain ⟨z, hz, rfl⟩ := getElem?_map_some hd
      refine GW.name C.nd (i := 9) ⟨pin_nH rfl n9, ?_⟩
      refine SW.cons ?_
      refine S1.asg (i := 8) C ?_ -- _law_total =
      refine EW.add ?_
      refine EW.nameD (i := 8) rfl ?_ -- _law_total
      refine EW.nameD (i := 9) rfl ?_ -- _law_vote
      have e : (ws.take i).sum + z = (ws.take (i + 1)).sum := by
        rw [List.take_add_one, hz, List.sum_append]
        simp
      refine ⟨rfl, ?_⟩
      refine SW.nil ?_
      exact ⟨.dat (.int z), by rw [← e]; rfl, rfl⟩
    · rintro ρ ⟨t9, rfl, n9⟩
      rw [ln, List.take_length]
      exact ⟨t9, rfl⟩
  rintro ρ ⟨t9, rfl⟩
  have sb := sum_bound hw
  have hM : (ws.length : Int) * MX ≤ 1000 * MX := Int.mul_le_mul_of_nonneg_right (by omega) (by decide)
  have nm : Nm ws.sum := by
    have e1 : (1000 * MX : Int) < (10 ^ 150 : Nat) := by decide
    exact .of 150 (by omega) (by omega) (by decide)
  have smT : Sml 2 1 (.list [.int ws.sum, .int ws.sum]) := Sml.list ((SmlAll.cons (.int nm) (.cons (.int nm) .nil)).mono (by decide) (by decide))
  refine SW.cons ?_
  refine S1.ret ?_
  refine EW.and ?_
  refine EW.cmp (opA_eq C) ?_ (nomark _)
  refine EW.repr C ?_
  refine EW.list ?_
  refine EWds.cons ?_
  refine EW.call c_total_of C rfl ?_
  refine EWgs.cons ?_
  refine EW.nameD (i := 1) rfl ?_ -- _law_votes_here
  refine ⟨_, rfl, ?_⟩
  refine EWgs.nil ?_
  refine ⟨List.nodup_nil, ?_⟩
  refine ⟨ws, rfl, ?_⟩
  refine ⟨_, rfl, ?_⟩
  refine EWds.cons ?_
  refine EW.callK0 k_total_of C rfl ?_
  refine EWks.cons ?_
  refine EW.nameD (i := 1) rfl ?_ -- _law_votes_here
  refine ⟨_, rfl, ?_⟩
  refine EWks.nil ?_
  refine ⟨rfl, List.nodup_nil, ?_⟩
  refine ⟨ws, rfl, ?_⟩
  refine ⟨_, rfl, ?_⟩
  refine EWds.nil ?_
  refine ⟨(by decide : (2 : Nat) ≤ sizeLine), ?_⟩
  refine ⟨_, rfl, smT.shw (by decide) (by decide), ?_⟩
  refine EW.repr C ?_
  refine EW.list ?_
  refine EWds.cons ?_
  refine EW.nameD (i := 8) rfl ?_ -- _law_total
  refine ⟨_, rfl, ?_⟩
  refine EWds.cons ?_
  refine EW.nameD (i := 8) rfl ?_ -- _law_total
  refine ⟨_, rfl, ?_⟩
  refine EWds.nil ?_
  refine ⟨(by decide : (2 : Nat) ≤ sizeLine), ?_⟩
  refine ⟨_, rfl, smT.shw (by decide) (by decide), ?_⟩
  refine ite_b (fun h1 => ?_) (fun h1 => ?_)
  · refine EW.one ?_
    refine EW.cmp (opA_eq C) ?_ (nomark _)
    refine EW.repr C ?_
    refine EW.nameD (i := 1) rfl ?_ -- _law_votes_here
    refine ⟨_, rfl, smV.shw (by decide) (by decide), ?_⟩
    refine EW.nameD (i := 2) rfl ?_ -- _law_kept
    have e : ((tupI ws).shown == (tupI ws).shown) = true := by simp
    show retE _ R (.dat (.bool ((tupI ws).shown == (tupI ws).shown))) _
    rw [e]
    exact hR ds hU
  · simp at h1
abbrev N_law : List Str := ["_law_script", "_law_k", "_law_urn_here", "_law_turn"]
theorem sc_law : FnScope N_law ["_law_script"] (defScope s_law) := ⟨rfl, rfl, rfl, by decide +kernel, rfl, by decide +kernel, by decide +kernel⟩
theorem ok_law {f : Addr} {fd : FuncData} (F : Fun K "law" "law" s_law f fd) (B : Blt mg) (c__law_urn : Cal P w K mg base 1 "_law_urn" a__law_urn) (c__law_right : Cal P w K mg base 5 "_law_right" a__law_right) : FnG P w K mg base CX0 6 f fd ["_law_script"] (toSp K (aLaw 63)) := by
  replace c__law_urn := c__law_urn.mono (show 1 ≤ 5 by decide)
  refine fnA F sc_law (by decide) B (fun as R h => ?_) fun cdv A outer s H E C as R h => ?_
  · obtain ⟨_, rfl, _⟩ := h; rfl
  obtain ⟨ns, rfl, hl, hR⟩ := h
  have ln : (ns.map PyData.int).length = ns.length := List.length_map _
  refine SW.cut (fun ρ => ∃ t1 t2, ρ = [.dat (intsD ns), t1, t2, .un]) ?_ ?_
  · refine S1.for (is := [1]) C ?_ .leaving
    refine IW.range1 C ?_
    refine EW.max2 C ?_
    refine EW.int ?_
    refine EW.min2 C ?_
    refine EW.int ?_
    refine EW.len C ?_
    refine EW.nameD (i := 0) rfl ?_ -- _law_script
    refine ⟨_, rfl, ?_⟩
    have hm : ∃ m : Nat, m ≤ 3 ∧ (if (if ((ns.map PyData.int).length : Int) < 3 then ((ns.map PyData.int).length : Int) else 3) > 1 then (if ((ns.map PyData.int).length : Int) < 3 then ((ns.map PyData.int).length : Int) else 3) else 1) = (m : Int) := by
      rw [ln]
      by_cases h : (ns.length : Int) < 3
      · rw [if_pos h]
        by_cases h2 : (ns.length : Int) > 1
        · exact ⟨ns.length, by omega, by rw [if_pos h2]⟩
        · exact ⟨1, by omega, by rw [if_neg h2]; rfl⟩
      · rw [if_neg h]
        exact ⟨3, by omega, by decide⟩
    obtain ⟨m, hm3, em⟩ := hm
    refine ⟨m, congrArg (fun i => AV.dat (.int i)) em, by omega, by omega, ?_⟩
    refine ⟨fun i ρ => ∃ t1 t2, ρ = [.dat (intsD ns), t1, t2, .un] ∧ nH t1 = true ∧ pinB [SV.un, .un, t2] 2 = false, ⟨.un, .un, rfl, rfl, rfl⟩, ?_, ?_⟩
    · rintro i d ρ hd ⟨t1, t2, rfl, n1, n2⟩
      rw [rngD_nat] at hd
      obtain ⟨z, hz, rfl⟩ := getElem?_map_some hd
      have hz3 : z < 3 := by
        have h1 := (List.getElem?_eq_some_iff.mp hz).1
        have h2 := List.mem_range.mp (List.mem_of_getElem? hz)
        rw [Int.toNat_natCast] at h2
        omega
      refine GW.name C.nd (i := 1) ⟨pin_nH rfl n1, ?_⟩
      refine SW.cons ?_
      refine S1.asg (i := 2) C ?_ -- _law_urn_here =
      refine EW.call c__law_urn C rfl ?_
      refine EWgs.cons ?_
      refine EW.nameD (i := 0) rfl ?_ -- _law_script
      refine ⟨_, rfl, ?_⟩
      refine EWgs.cons ?_
      refine EW.nameD (i := 1) rfl ?_ -- _law_k
      refine ⟨_, rfl, ?_⟩
      refine EWgs.nil ?_
      refine ⟨List.nodup_nil, ?_⟩
      refine ⟨ns, z, rfl, by omega, fun ds hU => ?_⟩
      refine ⟨n2, ?_⟩
      refine SW.cons ?_
      refine S1.ite ?_
      refine TW.not ?_
      refine TW.val ?_
      refine EW.all C ?_
      refine EW.lc (own := [("_law_turn", 3)]) (is := [3]) C ?_ (blkOk_by (N := N_law) (sc := defScope s_law) (by decide +kernel)) (by decide)
      refine IW.range1 C ?_
      refine EW.int ?_
      refine ⟨_, rfl, by omega, by omega, ?_⟩
      have l4 : (rngD 0 (4 : Int).toNat).length = 4 := by simp [rngD]
      refine ⟨by omega, rfl, fun j acc ρ => ∃ ds, ρ = [.dat (intsD ns), .dat (.int (z : Nat)), .hol false ds, .un] ∧ Urn (6000 * j) ds ∧ acc = (List.replicate j true).map .bool, ⟨ds, rfl, hU, rfl⟩, ?_, ?_⟩
      · clear hU
        rintro j d2 acc ρ hd2 ⟨ds, rfl, hU, rfl⟩
        have hj : j < 4 := by
          have := (List.getElem?_eq_some_iff.mp hd2).1
          omega
        refine Turn1.nil fun s0 H0 C0 cl fp => ?_
        refine GW.name C.nd (i := 3) ⟨rfl, ?_⟩
        intro s0 H0 C0 cl fp
        refine EW.call c__law_right (C.blk ..) rfl ?_
        refine EWgs.cons ?_
        refine EW.nameO (i := 2) rfl ?_ -- _law_urn_here
        refine ⟨_, rfl, ?_⟩
        refine EWgs.nil ?_
        refine ⟨(by decide : [2].Nodup), ?_⟩
        refine ⟨6000 * j, ds, rfl, hU, by omega, fun ds1 hU1 => ?_⟩
        exact ⟨_, rfl, ds1, rfl, hU1.mono (by omega), by rw [List.replicate_succ', List.map_append]; rfl⟩
      · clear hU
        rintro acc ρ ⟨ds, rfl, hU, rfl⟩
        refine ⟨_, rfl, ?_⟩
        have eall : (List.replicate (rngD 0 (4 : Int).toNat).length true).all id = true := by simp
        rw [eall]
        refine SW.nil ?_
        refine SW.nil ?_
        exact ⟨_, _, rfl, rfl, rfl⟩
    · rintro ρ ⟨t1, t2, rfl, _, _⟩
      exact ⟨t1, t2, rfl⟩
  rintro ρ ⟨t1, t2, rfl⟩
  refine SW.cons ?_
  refine S1.ret ?_
  refine EW.bool ?_
  exact hR
end
end VM

namespace VM
open PySem PySem.Spec PyProof.Rows L2 AW
theorem kb_mk {K : PySem.W.Frag} {x qual : Str} {st : Stmt} {f : Addr} {fd : FuncData} {ps ks : List Str} {n : Nat} {perm : List Nat} (F : Fun K x qual st f fd)
    (h : ∀ (kV doc pm : Value) (an : Option Addr) (cdv ct : Value) (us ws : List Value), us.length = n → ws.length = ks.length → bindArgs (PySem.W.fnOf x qual (defArgs st) (defBody st) (defScope st) .none kV doc pm an cdv ct) ⟨us, ks.zip ws⟩ = pure (ps.zip (pick perm (us ++ ws)))) :
    ∀ (s : Shared) (us ws : List Value), K.In s.heap → us.length = n → ws.length = ks.length → BindsTo s fd ⟨us, ks.zip ws⟩ (ps.zip (pick perm (us ++ ws))) := fun s us ws _ l1 l2 => by
  obtain ⟨oc, od, kV, doc, pm, an, cdv, ct, osl, rfl, lk, hcd⟩ := F.ex
  exact .of_eq (h kV doc pm an cdv ct us ws l1 l2)
theorem all_mk {P : Program} {w : World} {K : PySem.W.Frag} {h : Heap} {mg : Str → Option Value} {fa : Addr} (X : K.In h) (G : h.Ns mainGlobals mg) (hfa : mg "law" = some (.ref fa))
    {f0 : Addr} {od0 an0 : Option Addr} {sl0 : Array (Option Value)} {oc0 kV0 dc0 pm0 cd0 ct0 : Value}
    {f1 : Addr} {od1 an1 : Option Addr} {sl1 : Array (Option Value)} {oc1 kV1 dc1 pm1 cd1 ct1 : Value}
    {f2 : Addr} {od2 an2 : Option Addr} {sl2 : Array (Option Value)} {oc2 kV2 dc2 pm2 cd2 ct2 : Value}
    {f3 : Addr} {od3 an3 : Option Addr} {sl3 : Array (Option Value)} {oc3 kV3 dc3 pm3 cd3 ct3 : Value}
    {f4 : Addr} {od4 an4 : Option Addr} {sl4 : Array (Option Value)} {oc4 kV4 dc4 pm4 cd4 ct4 : Value}
    {f5 : Addr} {od5 an5 : Option Addr} {sl5 : Array (Option Value)} {oc5 kV5 dc5 pm5 cd5 ct5 : Value}
    {f6 : Addr} {od6 an6 : Option Addr} {sl6 : Array (Option Value)} {oc6 kV6 dc6 pm6 cd6 ct6 : Value}
    {f7 : Addr} {od7 an7 : Option Addr} {sl7 : Array (Option Value)} {oc7 kV7 dc7 pm7 cd7 ct7 : Value}
    {f8 : Addr} {od8 an8 : Option Addr} {sl8 : Array (Option Value)} {oc8 kV8 dc8 pm8 cd8 ct8 : Value}
    {f9 : Addr} {od9 an9 : Option Addr} {sl9 : Array (Option Value)} {oc9 kV9 dc9 pm9 cd9 ct9 : Value}
    {f10 : Addr} {od10 an10 : Option Addr} {sl10 : Array (Option Value)} {oc10 kV10 dc10 pm10 cd10 ct10 : Value}
    {f11 : Addr} {od11 an11 : Option Addr} {sl11 : Array (Option Value)} {oc11 kV11 dc11 pm11 cd11 ct11 : Value}
    {u_TIES : Value}
    {u_DECIDES : Value}
    {u_FAILS : Value}
    (a0 : PySem.W.nsIn K mainGlobals "total_of" = some (some (.ref f0))) (l0 : K.lookup f0 = some ⟨oc0, od0, .func (PySem.W.fnOf "total_of" "total_of" (defArgs s_total_of) (defBody s_total_of) (defScope s_total_of) .none kV0 dc0 pm0 an0 cd0 ct0), sl0⟩) (c0 : PySem.W.codeIn K cd0 "total_of" = true) (k0 : PySem.W.keepIn K (.ref f0) = true)
    (a1 : PySem.W.nsIn K mainGlobals "rest" = some (some (.ref f1))) (l1 : K.lookup f1 = some ⟨oc1, od1, .func (PySem.W.fnOf "rest" "rest" (defArgs s_rest) (defBody s_rest) (defScope s_rest) .none kV1 dc1 pm1 an1 cd1 ct1), sl1⟩) (c1 : PySem.W.codeIn K cd1 "rest" = true) (k1 : PySem.W.keepIn K (.ref f1) = true)
    (a2 : PySem.W.nsIn K mainGlobals "margin" = some (some (.ref f2))) (l2 : K.lookup f2 = some ⟨oc2, od2, .func (PySem.W.fnOf "margin" "margin" (defArgs s_margin) (defBody s_margin) (defScope s_margin) .none kV2 dc2 pm2 an2 cd2 ct2), sl2⟩) (c2 : PySem.W.codeIn K cd2 "margin" = true) (k2 : PySem.W.keepIn K (.ref f2) = true)
    (a3 : PySem.W.nsIn K mainGlobals "outcome" = some (some (.ref f3))) (l3 : K.lookup f3 = some ⟨oc3, od3, .func (PySem.W.fnOf "outcome" "outcome" (defArgs s_outcome) (defBody s_outcome) (defScope s_outcome) .none kV3 dc3 pm3 an3 cd3 ct3), sl3⟩) (c3 : PySem.W.codeIn K cd3 "outcome" = true) (k3 : PySem.W.keepIn K (.ref f3) = true)
    (a4 : PySem.W.nsIn K mainGlobals "_law_urn" = some (some (.ref f4))) (l4 : K.lookup f4 = some ⟨oc4, od4, .func (PySem.W.fnOf "_law_urn" "_law_urn" (defArgs s__law_urn) (defBody s__law_urn) (defScope s__law_urn) .none kV4 dc4 pm4 an4 cd4 ct4), sl4⟩) (c4 : PySem.W.codeIn K cd4 "_law_urn" = true) (k4 : PySem.W.keepIn K (.ref f4) = true)
    (a5 : PySem.W.nsIn K mainGlobals "_law_take" = some (some (.ref f5))) (l5 : K.lookup f5 = some ⟨oc5, od5, .func (PySem.W.fnOf "_law_take" "_law_take" (defArgs s__law_take) (defBody s__law_take) (defScope s__law_take) .none kV5 dc5 pm5 an5 cd5 ct5), sl5⟩) (c5 : PySem.W.codeIn K cd5 "_law_take" = true) (k5 : PySem.W.keepIn K (.ref f5) = true)
    (a6 : PySem.W.nsIn K mainGlobals "_law_of" = some (some (.ref f6))) (l6 : K.lookup f6 = some ⟨oc6, od6, .func (PySem.W.fnOf "_law_of" "_law_of" (defArgs s__law_of) (defBody s__law_of) (defScope s__law_of) .none kV6 dc6 pm6 an6 cd6 ct6), sl6⟩) (c6 : PySem.W.codeIn K cd6 "_law_of" = true) (k6 : PySem.W.keepIn K (.ref f6) = true)
    (a7 : PySem.W.nsIn K mainGlobals "_law_votes" = some (some (.ref f7))) (l7 : K.lookup f7 = some ⟨oc7, od7, .func (PySem.W.fnOf "_law_votes" "_law_votes" (defArgs s__law_votes) (defBody s__law_votes) (defScope s__law_votes) .none kV7 dc7 pm7 an7 cd7 ct7), sl7⟩) (c7 : PySem.W.codeIn K cd7 "_law_votes" = true) (k7 : PySem.W.keepIn K (.ref f7) = true)
    (a8 : PySem.W.nsIn K mainGlobals "_law_word" = some (some (.ref f8))) (l8 : K.lookup f8 = some ⟨oc8, od8, .func (PySem.W.fnOf "_law_word" "_law_word" (defArgs s__law_word) (defBody s__law_word) (defScope s__law_word) .none kV8 dc8 pm8 an8 cd8 ct8), sl8⟩) (c8 : PySem.W.codeIn K cd8 "_law_word" = true) (k8 : PySem.W.keepIn K (.ref f8) = true)
    (a9 : PySem.W.nsIn K mainGlobals "_law_gang_right" = some (some (.ref f9))) (l9 : K.lookup f9 = some ⟨oc9, od9, .func (PySem.W.fnOf "_law_gang_right" "_law_gang_right" (defArgs s__law_gang_right) (defBody s__law_gang_right) (defScope s__law_gang_right) .none kV9 dc9 pm9 an9 cd9 ct9), sl9⟩) (c9 : PySem.W.codeIn K cd9 "_law_gang_right" = true) (k9 : PySem.W.keepIn K (.ref f9) = true)
    (a10 : PySem.W.nsIn K mainGlobals "_law_right" = some (some (.ref f10))) (l10 : K.lookup f10 = some ⟨oc10, od10, .func (PySem.W.fnOf "_law_right" "_law_right" (defArgs s__law_right) (defBody s__law_right) (defScope s__law_right) .none kV10 dc10 pm10 an10 cd10 ct10), sl10⟩) (c10 : PySem.W.codeIn K cd10 "_law_right" = true) (k10 : PySem.W.keepIn K (.ref f10) = true)
    (a11 : PySem.W.nsIn K mainGlobals "law" = some (some (.ref f11))) (l11 : K.lookup f11 = some ⟨oc11, od11, .func (PySem.W.fnOf "law" "law" (defArgs s_law) (defBody s_law) (defScope s_law) .none kV11 dc11 pm11 an11 cd11 ct11), sl11⟩) (c11 : PySem.W.codeIn K cd11 "law" = true) (k11 : PySem.W.keepIn K (.ref f11) = true)
    (z_len : PySem.W.nsIn K mainGlobals "len" = some none)
    (z_sum : PySem.W.nsIn K mainGlobals "sum" = some none)
    (z_abs : PySem.W.nsIn K mainGlobals "abs" = some none)
    (z_max : PySem.W.nsIn K mainGlobals "max" = some none)
    (z_min : PySem.W.nsIn K mainGlobals "min" = some none)
    (z_sorted : PySem.W.nsIn K mainGlobals "sorted" = some none)
    (z_all : PySem.W.nsIn K mainGlobals "all" = some none)
    (z_any : PySem.W.nsIn K mainGlobals "any" = some none)
    (z_tuple : PySem.W.nsIn K mainGlobals "tuple" = some none)
    (z_list : PySem.W.nsIn K mainGlobals "list" = some none)
    (z_int : PySem.W.nsIn K mainGlobals "int" = some none)
    (z_str : PySem.W.nsIn K mainGlobals "str" = some none)
    (z_repr : PySem.W.nsIn K mainGlobals "repr" = some none)
    (z_isinstance : PySem.W.nsIn K mainGlobals "isinstance" = some none)
    (z_range : PySem.W.nsIn K mainGlobals "range" = some none)
    (z_zip : PySem.W.nsIn K mainGlobals "zip" = some none)
    (z_enumerate : PySem.W.nsIn K mainGlobals "enumerate" = some none)
    (z_set : PySem.W.nsIn K mainGlobals "set" = some none)
    (z_dict : PySem.W.nsIn K mainGlobals "dict" = some none)
    (z_bool : PySem.W.nsIn K mainGlobals "bool" = some none)
    (g_TIES : PySem.W.nsIn K mainGlobals "TIES" = some (some u_TIES)) (s_TIES : Sca (.str "ties") u_TIES)
    (g_DECIDES : PySem.W.nsIn K mainGlobals "DECIDES" = some (some u_DECIDES)) (s_DECIDES : Sca (.str "decides") u_DECIDES)
    (g_FAILS : PySem.W.nsIn K mainGlobals "FAILS" = some (some u_FAILS)) (s_FAILS : Sca (.str "fails") u_FAILS) :
    ∃ fd : FuncData, (∀ (s : Shared) (v : Value), BindsTo s fd ⟨[v], []⟩ [("_law_script", v)]) ∧ ∀ base : Heap, K.In base → base.Ns mainGlobals mg → FnG P w K mg base CX0 6 fa fd ["_law_script"] (toSp K (aLaw 63)) := by
  have e := hfa.symm.trans (PySem.W.mg_of X G a11)
  cases e
  have B : Blt mg := ⟨PySem.W.mg_none_of X G z_len, PySem.W.mg_none_of X G z_sum, PySem.W.mg_none_of X G z_abs, PySem.W.mg_none_of X G z_max, PySem.W.mg_none_of X G z_min, PySem.W.mg_none_of X G z_sorted, PySem.W.mg_none_of X G z_all, PySem.W.mg_none_of X G z_any, PySem.W.mg_none_of X G z_tuple, PySem.W.mg_none_of X G z_list, PySem.W.mg_none_of X G z_int, PySem.W.mg_none_of X G z_str, PySem.W.mg_none_of X G z_repr, PySem.W.mg_none_of X G z_isinstance, PySem.W.mg_none_of X G z_range, PySem.W.mg_none_of X G z_zip, PySem.W.mg_none_of X G z_enumerate, PySem.W.mg_none_of X G z_set, PySem.W.mg_none_of X G z_dict, PySem.W.mg_none_of X G z_bool⟩
  have g_TIES : ∃ u, mg "TIES" = some u ∧ Sca (.str "ties") u := ⟨_, PySem.W.mg_of X G g_TIES, s_TIES⟩
  have g_DECIDES : ∃ u, mg "DECIDES" = some u ∧ Sca (.str "decides") u := ⟨_, PySem.W.mg_of X G g_DECIDES, s_DECIDES⟩
  have g_FAILS : ∃ u, mg "FAILS" = some u ∧ Sca (.str "fails") u := ⟨_, PySem.W.mg_of X G g_FAILS, s_FAILS⟩
  have F0 := fun_mk (st := s_total_of) l0 c0 k0
  have F1 := fun_mk (st := s_rest) l1 c1 k1
  have F2 := fun_mk (st := s_margin) l2 c2 k2
  have F3 := fun_mk (st := s_outcome) l3 c3 k3
  have F4 := fun_mk (st := s__law_urn) l4 c4 k4
  have F5 := fun_mk (st := s__law_take) l5 c5 k5
  have F6 := fun_mk (st := s__law_of) l6 c6 k6
  have F7 := fun_mk (st := s__law_votes) l7 c7 k7
  have F8 := fun_mk (st := s__law_word) l8 c8 k8
  have F9 := fun_mk (st := s__law_gang_right) l9 c9 k9
  have F10 := fun_mk (st := s__law_right) l10 c10 k10
  have F11 := fun_mk (st := s_law) l11 c11 k11
  refine ⟨PySem.W.fnOf "law" "law" (defArgs s_law) (defBody s_law) (defScope s_law) .none kV11 dc11 pm11 an11 cd11 ct11, fun s v => .of_eq rfl, fun base _ _ => ?_⟩
  have o0 : FnG P w K mg base CX0 1 f0 _ _ (toSp K a_total_of) := ok_total_of F0 B 
  have c_total_of : Cal P w K mg base 1 "total_of" a_total_of := ⟨_, _, _, o0, PySem.W.mg_of X G a0, k0, F0.binds fun _ _ _ _ _ _ us hl => match us, hl with | [_], _ => rfl⟩
  have k_total_of : CalK P w K mg base 1 "total_of" 0 ["weights"] [0] a_total_of := ⟨_, _, _, o0, PySem.W.mg_of X G a0, k0, kb_mk F0 fun _ _ _ _ _ _ us ws h1 h2 => match us, ws, h1, h2 with | [], [_], _, _ => rfl⟩
  have o1 : FnG P w K mg base CX0 1 f1 _ _ (toSp K a_rest) := ok_rest F1 B 
  have c_rest : Cal P w K mg base 1 "rest" a_rest := ⟨_, _, _, o1, PySem.W.mg_of X G a1, k1, F1.binds fun _ _ _ _ _ _ us hl => match us, hl with | [_, _], _ => rfl⟩
  have k_rest : CalK P w K mg base 1 "rest" 0 ["group", "weights"] [1, 0] a_rest := ⟨_, _, _, o1, PySem.W.mg_of X G a1, k1, kb_mk F1 fun _ _ _ _ _ _ us ws h1 h2 => match us, ws, h1, h2 with | [], [_, _], _, _ => rfl⟩
  have o2 : FnG P w K mg base CX0 2 f2 _ _ (toSp K a_margin) := ok_margin F2 B c_total_of
  have c_margin : Cal P w K mg base 2 "margin" a_margin := ⟨_, _, _, o2, PySem.W.mg_of X G a2, k2, F2.binds fun _ _ _ _ _ _ us hl => match us, hl with | [_, _], _ => rfl⟩
  have k_margin : CalK P w K mg base 2 "margin" 0 ["group", "weights"] [1, 0] a_margin := ⟨_, _, _, o2, PySem.W.mg_of X G a2, k2, kb_mk F2 fun _ _ _ _ _ _ us ws h1 h2 => match us, ws, h1, h2 with | [], [_, _], _, _ => rfl⟩
  have o3 : FnG P w K mg base CX0 3 f3 _ _ (toSp K a_outcome) := ok_outcome F3 B c_margin g_TIES g_DECIDES g_FAILS
  have c_outcome : Cal P w K mg base 3 "outcome" a_outcome := ⟨_, _, _, o3, PySem.W.mg_of X G a3, k3, F3.binds fun _ _ _ _ _ _ us hl => match us, hl with | [_, _], _ => rfl⟩
  have k_outcome : CalK P w K mg base 3 "outcome" 0 ["group", "weights"] [1, 0] a_outcome := ⟨_, _, _, o3, PySem.W.mg_of X G a3, k3, kb_mk F3 fun _ _ _ _ _ _ us ws h1 h2 => match us, ws, h1, h2 with | [], [_, _], _, _ => rfl⟩
  have o4 : FnG P w K mg base CX0 1 f4 _ _ (toSp K a__law_urn) := ok__law_urn F4 B 
  have c__law_urn : Cal P w K mg base 1 "_law_urn" a__law_urn := ⟨_, _, _, o4, PySem.W.mg_of X G a4, k4, F4.binds fun _ _ _ _ _ _ us hl => match us, hl with | [_, _], _ => rfl⟩
  have o5 : FnG P w K mg base CX0 1 f5 _ _ (toSp K a__law_take) := ok__law_take F5 B 
  have c__law_take : Cal P w K mg base 1 "_law_take" a__law_take := ⟨_, _, _, o5, PySem.W.mg_of X G a5, k5, F5.binds fun _ _ _ _ _ _ us hl => match us, hl with | [_, _], _ => rfl⟩
  have o6 : FnG P w K mg base CX0 2 f6 _ _ (toSp K a__law_of) := ok__law_of F6 B c__law_take
  have c__law_of : Cal P w K mg base 2 "_law_of" a__law_of := ⟨_, _, _, o6, PySem.W.mg_of X G a6, k6, F6.binds fun _ _ _ _ _ _ us hl => match us, hl with | [_, _], _ => rfl⟩
  have o7 : FnG P w K mg base CX0 3 f7 _ _ (toSp K a__law_votes) := ok__law_votes F7 B c__law_take c__law_of
  have c__law_votes : Cal P w K mg base 3 "_law_votes" a__law_votes := ⟨_, _, _, o7, PySem.W.mg_of X G a7, k7, F7.binds fun _ _ _ _ _ _ us hl => match us, hl with | [_, _, _, _], _ => rfl⟩
  have o8 : FnG P w K mg base CX0 1 f8 _ _ (toSp K a__law_word) := ok__law_word F8 B 
  have c__law_word : Cal P w K mg base 1 "_law_word" a__law_word := ⟨_, _, _, o8, PySem.W.mg_of X G a8, k8, F8.binds fun _ _ _ _ _ _ us hl => match us, hl with | [_], _ => rfl⟩
  have o9 : FnG P w K mg base CX0 4 f9 _ _ (toSp K a__law_gang_right) := ok__law_gang_right F9 B c__law_word c_rest c_margin c_outcome k_rest k_margin k_outcome
  have c__law_gang_right : Cal P w K mg base 4 "_law_gang_right" a__law_gang_right := ⟨_, _, _, o9, PySem.W.mg_of X G a9, k9, F9.binds fun _ _ _ _ _ _ us hl => match us, hl with | [_, _], _ => rfl⟩
  have o10 : FnG P w K mg base CX0 5 f10 _ _ (toSp K a__law_right) := ok__law_right F10 B c__law_take c__law_of c__law_votes c__law_gang_right c_total_of k_total_of
  have c__law_right : Cal P w K mg base 5 "_law_right" a__law_right := ⟨_, _, _, o10, PySem.W.mg_of X G a10, k10, F10.binds fun _ _ _ _ _ _ us hl => match us, hl with | [_], _ => rfl⟩
  exact ok_law F11 B c__law_urn c__law_right
end VM
open PySem PySem.W PyProof.Rows
set_option maxHeartbeats 0 in
theorem PySem.Challenge.cw_votemoves_k02_margins_and_outcomes_holds : PySem.Challenge.rw_votemoves_k02_margins_and_outcomes.Holds := by
  w_on; o_law; k_head; (case hw => w_witness2)
  k_fill
  refine AW.law_end (l := PySem.Challenge.rw_votemoves_k02_margins_and_outcomes) (n := 63) (k := 6) (x := "_law_script") rfl (by decide) rfl ⟨rfl, by decide, by decide⟩ (fun w h Y => PySem.W.kIn_of Y) ?F
  case F =>
    intro w mg fa h KX G hmg
    refine' VM.all_mk KX G hmg ?a0 ?l0 ?c0 ?k0 ?a1 ?l1 ?c1 ?k1 ?a2 ?l2 ?c2 ?k2 ?a3 ?l3 ?c3 ?k3 ?a4 ?l4 ?c4 ?k4 ?a5 ?l5 ?c5 ?k5 ?a6 ?l6 ?c6 ?k6 ?a7 ?l7 ?c7 ?k7 ?a8 ?l8 ?c8 ?k8 ?a9 ?l9 ?c9 ?k9 ?a10 ?l10 ?c10 ?k10 ?a11 ?l11 ?c11 ?k11 ?z_len ?z_sum ?z_abs ?z_max ?z_min ?z_sorted ?z_all ?z_any ?z_tuple ?z_list ?z_int ?z_str ?z_repr ?z_isinstance ?z_range ?z_zip ?z_enumerate ?z_set ?z_dict ?z_bool ?g_TIES ?s_TIES ?g_DECIDES ?s_DECIDES ?g_FAILS ?s_FAILS
    (case a0 => k_is); (case l0 => k_is); (case c0 => k_is); (case k0 => k_is); (case a1 => k_is); (case l1 => k_is); (case c1 => k_is); (case k1 => k_is); (case a2 => k_is); (case l2 => k_is); (case c2 => k_is); (case k2 => k_is); (case a3 => k_is); (case l3 => k_is); (case c3 => k_is); (case k3 => k_is); (case a4 => k_is); (case l4 => k_is); (case c4 => k_is); (case k4 => k_is); (case a5 => k_is); (case l5 => k_is); (case c5 => k_is); (case k5 => k_is); (case a6 => k_is); (case l6 => k_is); (case c6 => k_is); (case k6 => k_is); (case a7 => k_is); (case l7 => k_is); (case c7 => k_is); (case k7 => k_is); (case a8 => k_is); (case l8 => k_is); (case c8 => k_is); (case k8 => k_is); (case a9 => k_is); (case l9 => k_is); (case c9 => k_is); (case k9 => k_is); (case a10 => k_is); (case l10 => k_is); (case c10 => k_is); (case k10 => k_is); (case a11 => k_is); (case l11 => k_is); (case c11 => k_is); (case k11 => k_is); (case z_len => k_is); (case z_sum => k_is); (case z_abs => k_is); (case z_max => k_is); (case z_min => k_is); (case z_sorted => k_is); (case z_all => k_is); (case z_any => k_is); (case z_tuple => k_is); (case z_list => k_is); (case z_int => k_is); (case z_str => k_is); (case z_repr => k_is); (case z_isinstance => k_is); (case z_range => k_is); (case z_zip => k_is); (case z_enumerate => k_is); (case z_set => k_is); (case z_dict => k_is); (case z_bool => k_is); (case g_TIES => k_is); (case s_TIES => exact .str _ _); (case g_DECIDES => k_is); (case s_DECIDES => exact .str _ _); (case g_FAILS => k_is); (case s_FAILS => exact .str _ _)
