import PyProof.Rows.All
import Wide.All
import OpenK.AllK
import Wide.FinOn
import PySem.Challenge.RW_pathswap_k08_why_requests_are_skipped
import HandS.ForMost
import HandS.TupAny
import HandS.IsInst
import HandS.Deep
import HandS.TupMul
import HandS.Style
import HandS.Flow
import HandS.Iter
import KE.KDictDisplayH
import PyProof.Rows.TupDisplay
import HandS.Zip
import PyProof.ZipIter
import PyProof.ListNew
import HandS.NoneIn
import HandS.FStr
import KE.GoesEnum
import KE.KDictPairs
import HandS.Comp
import HandS.Small
import HandS.Ends
import HandS.Words
import HandS.Codes
import HandS.Text
import PyProof.StrLawsRepr
set_option Elab.async false
set_option linter.all false
set_option maxRecDepth 100000
set_option maxHeartbeats 4000000
namespace VS
open PySem PySem.Spec PyProof.Rows L2
/-! ## owned trees over the abstract heap -/
/-- what kind of owned object -/
inductive NK where
  | lst
  | tup
  | dk (ks : List Key)
  | dt (ks : List (List Key))
  deriving DecidableEq
inductive O where
  | un
  | dat (d : PyData)
  | nd (k : NK) (os : List O)
def kD : Key → PyData
  | .inl i => .int i
  | .inr x => .str x
def kD2 (k : List Key) : PyData := .tuple (k.map kD)
/-- what an owned object is in the abstract heap -/
def hoOf : NK → List V → HO
  | .lst, vs => .lst vs
  | .tup, vs => .tup vs
  | .dk ks, vs => .dK (ks.zip vs)
  | .dt ks, vs => .dT (ks.zip vs)
def NK.fit : NK → Nat → Prop
  | .lst, _ => True
  | .tup, _ => True
  | .dk ks, n => ks.length = n ∧ ks.Nodup
  | .dt ks, n => ks.length = n ∧ ks.Nodup
/-- the first heap is part of the second -/
def Sub (F H : Hp) : Prop := ∀ b o, F b = some o → H b = some o
theorem Sub.refl (F : Hp) : Sub F F := fun _ _ h => h
theorem Sub.trans {F G H : Hp} (a : Sub F G) (b : Sub G H) : Sub F H := fun c o h => b c o (a c o h)
theorem Sub.nn {F H : Hp} (a : Sub F H) {b : Addr} (h : H b = none) : F b = none := by
  cases q : F b with
  | none => rfl
  | some o => rw [a b o q] at h; cases h
theorem Sub.upd {F H : Hp} {p : Addr} {o : HO} (a : Sub F H) (h : F p = none) : Sub F (upd H p o) := fun b u e => by
  have hb : b ≠ p := fun z => by rw [z, h] at e; cases e
  rw [upd_ne hb]; exact a b u e
theorem Sub.rd {F H : Hp} (a : Sub F H) {p : Addr} {u : HO} (h : Rd F p u) : Rd H p u := by
  rcases h with h | ⟨o, h⟩
  · exact .inl (a _ _ h)
  · exact .inr ⟨o, a _ _ h⟩
theorem Sub.sqL {K : PySem.W.Frag} {F H : Hp} (a : Sub F H) {p : Addr} {vs : List V} (h : SqL K F p vs) : SqL K H p vs := by
  rcases h with h | h
  · exact .inl (a.rd h)
  · exact .inr h
theorem Sub.sqT {K : PySem.W.Frag} {F H : Hp} (a : Sub F H) {p : Addr} {vs : List V} (h : SqT K F p vs) : SqT K H p vs := by
  rcases h with h | h
  · exact .inl (a.rd h)
  · exact .inr h

/-- tuples that dict(..) may be asked of: pairs of a text and a value, all of them -/
def isEnt : PyData → Bool
  | .tuple [.str _, _] => true
  | _ => false
def entB (ds : List PyData) : Bool := ds.all isEnt
/-- a tuple of the abstract heap; where b, the very object is known, and it has no names of its own -/
def Tp (H : Hp) (a : Addr) (vs : List V) (b : Bool) : Prop := (b = false ∧ H a = some (.tup vs)) ∨ (b = true ∧ ∃ o, H a = some (.frz o (.tup vs)) ∧ o.dict = none)
theorem Tp.mono {F H : Hp} {a : Addr} {vs : List V} {b : Bool} (s : Sub F H) (h : Tp F a vs b) : Tp H a vs b := by
  rcases h with ⟨e, h⟩ | ⟨e, o, h, d⟩
  · exact .inl ⟨e, s _ _ h⟩
  · exact .inr ⟨e, o, s _ _ h, d⟩
theorem Tp.rd {H : Hp} {a : Addr} {vs : List V} {b : Bool} (h : Tp H a vs b) : Rd H a (.tup vs) := by
  rcases h with ⟨_, h⟩ | ⟨_, o, h, _⟩
  · exact .inl h
  · exact .inr ⟨o, h⟩
theorem Tp.sq {K : PySem.W.Frag} {H : Hp} {a : Addr} {vs : List V} {b : Bool} (h : Tp H a vs b) : SqT K H a vs := .inl h.rd
theorem Tp.plain {H : Hp} {a : Addr} {vs : List V} (h : Tp H a vs false) : H a = some (.tup vs) := by
  rcases h with ⟨_, h⟩ | ⟨e, _⟩
  · exact h
  · cases e
mutual
/-- v is the datum d in the heap H -/
inductive Dn (K : PySem.W.Frag) (H : Hp) : V → PyData → Prop
  | non : Dn K H .non .none
  | bl (b : Bool) : Dn K H (.bl b) (.bool b)
  | int (i : Int) : Dn K H (.int i) (.int i)
  | str (x : Str) : Dn K H (.str x) (.str x)
  | lst {a : Addr} {vs : List V} {ds : List PyData} : H a = some (.lst vs) → DnL K H vs ds → Dn K H (.ref a) (.list ds)
  /- the script alone: it may lie in the written part -/
  | scr {a : Addr} {vs : List V} {ds : List PyData} : SqL K H a vs → DnL K H vs ds → Dn K H (.ref a) (.dict [(.none, .list ds)])
  | tup {a : Addr} {vs : List V} {ds : List PyData} : Tp H a vs (entB ds) → DnL K H vs ds → Dn K H (.ref a) (.tuple ds)
  | dk {a : Addr} {ks : List Key} {vs : List V} {ds : List PyData} : H a = some (.dK (ks.zip vs)) → ks.length = vs.length → DnL K H vs ds → Dn K H (.ref a) (.dict ((ks.map kD).zip ds))
  | dt {a : Addr} {ks : List (List Key)} {vs : List V} {ds : List PyData} : H a = some (.dT (ks.zip vs)) → ks.length = vs.length → DnL K H vs ds → Dn K H (.ref a) (.dict ((ks.map kD2).zip ds))
inductive DnL (K : PySem.W.Frag) (H : Hp) : List V → List PyData → Prop
  | nil : DnL K H [] []
  | cons {v : V} {vs : List V} {d : PyData} {ds : List PyData} : Dn K H v d → DnL K H vs ds → DnL K H (v :: vs) (d :: ds)
end
section
variable {K : PySem.W.Frag} {F F' H H' : Hp}
mutual
theorem Dn.mono (s : Sub F F') : ∀ {v : V} {d : PyData}, Dn K F v d → Dn K F' v d
  | _, _, .non => .non
  | _, _, .bl b => .bl b
  | _, _, .int i => .int i
  | _, _, .str x => .str x
  | _, _, .lst h l => .lst (s _ _ h) (DnL.mono s l)
  | _, _, .scr h l => .scr (s.sqL h) (DnL.mono s l)
  | _, _, .tup h l => .tup (h.mono s) (DnL.mono s l)
  | _, _, .dk h e l => .dk (s _ _ h) e (DnL.mono s l)
  | _, _, .dt h e l => .dt (s _ _ h) e (DnL.mono s l)
theorem DnL.mono (s : Sub F F') : ∀ {vs : List V} {ds : List PyData}, DnL K F vs ds → DnL K F' vs ds
  | _, _, .nil => .nil
  | _, _, .cons h l => .cons (Dn.mono s h) (DnL.mono s l)
end
theorem DnL.length : ∀ {vs : List V} {ds : List PyData}, DnL K F vs ds → vs.length = ds.length
  | _, _, .nil => rfl
  | _, _, .cons _ l => by simp [DnL.length l]
theorem DnL.append : ∀ {vs ws : List V} {ds es : List PyData}, DnL K F vs ds → DnL K F ws es → DnL K F (vs ++ ws) (ds ++ es)
  | _, _, _, _, .nil, h => h
  | _, _, _, _, .cons a l, h => .cons a (DnL.append l h)
theorem DnL.get : ∀ {vs : List V} {ds : List PyData} {i : Nat} {d : PyData}, DnL K F vs ds → ds[i]? = some d → ∃ v, vs[i]? = some v ∧ Dn K F v d
  | _, _, _, _, .nil, e => by simp at e
  | _, _, 0, _, .cons a _, e => by simp at e; subst e; exact ⟨_, rfl, a⟩
  | _, _, i + 1, _, .cons _ l, e => by
    obtain ⟨v, h1, h2⟩ := DnL.get (i := i) l (by simpa using e)
    exact ⟨v, by simpa using h1, h2⟩
theorem DnL.getV : ∀ {vs : List V} {ds : List PyData} {i : Nat} {v : V}, DnL K F vs ds → vs[i]? = some v → ∃ d, ds[i]? = some d ∧ Dn K F v d
  | _, _, _, _, .nil, e => by simp at e
  | _, _, 0, _, .cons a _, e => by simp at e; subst e; exact ⟨_, rfl, a⟩
  | _, _, i + 1, _, .cons _ l, e => by
    obtain ⟨v, h1, h2⟩ := DnL.getV (i := i) l (by simpa using e)
    exact ⟨v, by simpa using h1, h2⟩
theorem DnL.take : ∀ {vs : List V} {ds : List PyData} (n : Nat), DnL K F vs ds → DnL K F (vs.take n) (ds.take n)
  | _, _, 0, _ => .nil
  | _, _, _ + 1, .nil => .nil
  | _, _, n + 1, .cons r t => .cons r (DnL.take n t)
theorem DnL.drop : ∀ {vs : List V} {ds : List PyData} (n : Nat), DnL K F vs ds → DnL K F (vs.drop n) (ds.drop n)
  | _, _, 0, r => r
  | _, _, _ + 1, .nil => .nil
  | _, _, n + 1, .cons _ t => DnL.drop n t
theorem DnL.reverse {vs : List V} {ds : List PyData} (h : DnL K F vs ds) : DnL K F vs.reverse ds.reverse := by
  induction vs generalizing ds with
  | nil => cases h; exact .nil
  | cons v vs ih =>
    cases h with
    | cons a l =>
      rw [List.reverse_cons, List.reverse_cons]
      exact (ih l).append (.cons a .nil)
end

mutual
/-- the tree o stands at x; A: the addresses that it owns (not in F) -/
inductive Own (K : PySem.W.Frag) (F H : Hp) : List Addr → Option V → O → Prop
  | un (x : Option V) : Own K F H [] x .un
  | dat {v : V} {d : PyData} : Dn K F v d → Own K F H [] (some v) (.dat d)
  | nd {a : Addr} {k : NK} {vs : List V} {os : List O} {A : List Addr} : H a = some (hoOf k vs) → vs.length = os.length → k.fit os.length → OwnL K F H A (vs.map some) os → Own K F H (a :: A) (some (.ref a)) (.nd k os)
inductive OwnL (K : PySem.W.Frag) (F H : Hp) : List Addr → List (Option V) → List O → Prop
  | nil : OwnL K F H [] [] []
  | cons {x : Option V} {o : O} {xs : List (Option V)} {os : List O} {A B : List Addr} : Own K F H A x o → OwnL K F H B xs os → OwnL K F H (A ++ B) (x :: xs) (o :: os)
end
section
variable {K : PySem.W.Frag} {F F' H H' : Hp}
theorem OwnL.length : ∀ {A : List Addr} {xs : List (Option V)} {os : List O}, OwnL K F H A xs os → xs.length = os.length
  | _, _, _, .nil => rfl
  | _, _, _, .cons _ l => by simp [OwnL.length l]
mutual
theorem Own.frame (s : Sub F F') : ∀ {A : List Addr} {x : Option V} {o : O}, Own K F H A x o → (∀ a, a ∈ A → H' a = H a) → Own K F' H' A x o
  | _, _, _, .un x, _ => .un x
  | _, _, _, .dat h, _ => .dat (h.mono s)
  | _, _, _, .nd h e f l, q => .nd ((q _ List.mem_cons_self).trans h) e f (OwnL.frame s l fun a ha => q a (List.mem_cons_of_mem _ ha))
theorem OwnL.frame (s : Sub F F') : ∀ {A : List Addr} {xs : List (Option V)} {os : List O}, OwnL K F H A xs os → (∀ a, a ∈ A → H' a = H a) → OwnL K F' H' A xs os
  | _, _, _, .nil, _ => .nil
  | _, _, _, .cons h l, q => .cons (Own.frame s h fun a ha => q a (List.mem_append_left _ ha)) (OwnL.frame s l fun a ha => q a (List.mem_append_right _ ha))
end
mutual
/-- owned addresses are tracked -/
theorem Own.there : ∀ {A : List Addr} {x : Option V} {o : O}, Own K F H A x o → ∀ a, a ∈ A → H a ≠ none
  | _, _, _, .un x, _, q => nomatch q
  | _, _, _, .dat h, _, q => nomatch q
  | _, _, _, .nd h e f l, b, q => by
    rcases List.mem_cons.mp q with z | z
    · rw [z, h]; exact fun y => nomatch y
    · exact OwnL.there l b z
theorem OwnL.there : ∀ {A : List Addr} {xs : List (Option V)} {os : List O}, OwnL K F H A xs os → ∀ a, a ∈ A → H a ≠ none
  | _, _, _, .nil, _, q => nomatch q
  | _, _, _, .cons h l, b, q => by
    rcases List.mem_append.mp q with z | z
    · exact Own.there h b z
    · exact OwnL.there l b z
end
theorem OwnL.append : ∀ {A B : List Addr} {xs ys : List (Option V)} {os ps : List O}, OwnL K F H A xs os → OwnL K F H B ys ps → OwnL K F H (A ++ B) (xs ++ ys) (os ++ ps)
  | _, _, _, _, _, _, .nil, h => h
  | _, _, _, _, _, _, .cons a l, h => by rw [List.append_assoc]; exact .cons a (OwnL.append l h)
end

/-! ### trees as data -/
mutual
def O.toD : O → Option PyData
  | .un => none
  | .dat d => some d
  | .nd k os => match O.toDL os with
    | none => none
    | some ds => match k with
      | .lst => some (.list ds)
      | .tup => if entB ds = true then none else some (.tuple ds)
      | .dk ks => some (.dict ((ks.map kD).zip ds))
      | .dt ks => some (.dict ((ks.map kD2).zip ds))
def O.toDL : List O → Option (List PyData)
  | [] => some []
  | o :: os => match O.toD o, O.toDL os with
    | some d, some ds => some (d :: ds)
    | _, _ => none
end
/-- all are data -/
def datL : List O → Option (List PyData)
  | [] => some []
  | .dat d :: os => match datL os with
    | some ds => some (d :: ds)
    | none => none
  | _ :: _ => none
def NK.mk (k : NK) (ds : List PyData) : PyData := match k with
  | .lst => .list ds
  | .tup => .tuple ds
  | .dk ks => .dict ((ks.map kD).zip ds)
  | .dt ks => .dict ((ks.map kD2).zip ds)
theorem O.toD_nd {k : NK} {os : List O} {ds : List PyData} (h : O.toDL os = some ds) (hk : k ≠ .tup) : (O.nd k os).toD = some (k.mk ds) := by
  unfold O.toD
  rw [h]
  cases k with
  | tup => exact absurd rfl hk
  | _ => rfl
theorem O.toD_tup {os : List O} {ds : List PyData} (h : O.toDL os = some ds) (he : entB ds = false) : (O.nd .tup os).toD = some (.tuple ds) := by
  unfold O.toD
  rw [h]
  show (if entB ds = true then none else some (PyData.tuple ds)) = _
  rw [if_neg (by rw [he]; decide)]
theorem O.toD_inv {k : NK} {os : List O} {ds : List PyData} {d : PyData} (h : O.toDL os = some ds) (e : (O.nd k os).toD = some d) : d = k.mk ds ∧ (k = .tup → entB ds = false) := by
  unfold O.toD at e
  rw [h] at e
  cases k with
  | tup =>
    have e : (if entB ds = true then none else some (PyData.tuple ds)) = some d := e
    by_cases c : entB ds = true
    · rw [if_pos c] at e; cases e
    · rw [if_neg c] at e
      cases e
      exact ⟨rfl, fun _ => by simpa using c⟩
  | lst => cases e; exact ⟨rfl, fun z => nomatch z⟩
  | dk ks => cases e; exact ⟨rfl, fun z => nomatch z⟩
  | dt ks => cases e; exact ⟨rfl, fun z => nomatch z⟩
/-- one level owned, the rest data -/
def O.flat : O → Option PyData
  | .un => none
  | .dat d => some d
  | .nd .tup _ => none
  | .nd k os => (datL os).map k.mk
section
variable {K : PySem.W.Frag} {F F' H H' : Hp}
theorem Dn.node {k : NK} {a : Addr} {vs : List V} {ds : List PyData} (h : H a = some (hoOf k vs)) (hf : k.fit vs.length) (l : DnL K H vs ds) (he : k = .tup → entB ds = false) : Dn K H (.ref a) (k.mk ds) := by
  cases k with
  | lst => exact .lst h l
  | tup => exact .tup (.inl ⟨he rfl, h⟩) l
  | dk ks => exact .dk h hf.1 l
  | dt ks => exact .dt h hf.1 l
mutual
/-- freezing -/
theorem Own.freeze (s : Sub F F') : ∀ {A : List Addr} {x : Option V} {o : O} {d : PyData}, Own K F H A x o → o.toD = some d → (∀ a, a ∈ A → F' a = H a) → ∃ v, x = some v ∧ Dn K F' v d
  | _, _, _, _, .un x, e, _ => by simp [O.toD] at e
  | _, _, _, _, .dat h, e, _ => by
    simp [O.toD] at e
    subst e
    exact ⟨_, rfl, h.mono s⟩
  | _, _, .nd k os, d, .nd (a := a) (vs := vs) h e f l, q, hA => by
    cases ho : O.toDL os with
    | none =>
      unfold O.toD at q
      rw [ho] at q
      cases q
    | some ds =>
      obtain ⟨rfl, hk⟩ := O.toD_inv ho q
      have l' := OwnL.freeze s l ho fun a ha => hA a (List.mem_cons_of_mem _ ha)
      exact ⟨_, rfl, Dn.node ((hA a List.mem_cons_self).trans h) (by rw [e]; exact f) l' hk⟩
theorem OwnL.freeze (s : Sub F F') : ∀ {A : List Addr} {vs : List V} {os : List O} {ds : List PyData}, OwnL K F H A (vs.map some) os → O.toDL os = some ds → (∀ a, a ∈ A → F' a = H a) → DnL K F' vs ds
  | _, [], [], _, .nil, e, _ => by
    simp [O.toDL] at e
    subst e
    exact .nil
  | _, v :: vs, o :: os, ds, .cons h l, e, hA => by
    cases h1 : o.toD with
    | none =>
      unfold O.toDL at e
      rw [h1] at e
      cases e
    | some d =>
      cases h2 : O.toDL os with
      | none =>
        unfold O.toDL at e
        rw [h1, h2] at e
        cases e
      | some ds' =>
        unfold O.toDL at e
        rw [h1, h2] at e
        cases e
        obtain ⟨w, e1, r⟩ := Own.freeze s h h1 fun a ha => hA a (List.mem_append_left _ ha)
        cases e1
        exact .cons r (OwnL.freeze s l h2 fun a ha => hA a (List.mem_append_right _ ha))
end
theorem toDL_datL : ∀ {os : List O} {ds : List PyData}, datL os = some ds → O.toDL os = some ds
  | [], _, h => h
  | .dat d :: os, ds, h => by
    unfold datL at h
    cases e : datL os with
    | none => rw [e] at h; cases h
    | some ds' =>
      rw [e] at h
      cases h
      unfold O.toDL
      rw [toDL_datL e]
      rfl
  | .un :: _, _, h => by cases h
  | .nd _ _ :: _, _, h => by cases h
theorem toD_flat {o : O} {d : PyData} (h : o.flat = some d) : o.toD = some d := by
  cases o with
  | un => cases h
  | dat d' => exact h
  | nd k os =>
    have hk : k ≠ .tup := fun z => by subst z; cases h
    have h : (datL os).map k.mk = some d := by
      cases k <;> first | exact h | cases h
    cases e : datL os with
    | none => rw [e] at h; cases h
    | some ds =>
      rw [e] at h
      cases h
      exact O.toD_nd (toDL_datL e) hk
theorem datL_map (ds : List PyData) : datL (ds.map O.dat) = some ds := by
  induction ds with
  | nil => rfl
  | cons d ds ih =>
    show (match datL (ds.map O.dat) with | some es => some (d :: es) | none => none) = _
    rw [ih]
theorem datL_eq : ∀ {os : List O} {ds : List PyData}, datL os = some ds → os = ds.map O.dat
  | [], _, h => by cases h; rfl
  | .dat d :: os, ds, h => by
    unfold datL at h
    cases e : datL os with
    | none => rw [e] at h; cases h
    | some ds' =>
      rw [e] at h
      cases h
      rw [datL_eq e]
      rfl
  | .un :: _, _, h => by cases h
  | .nd _ _ :: _, _, h => by cases h
/-- the children of a node that are data -/
theorem OwnL.data : ∀ {A : List Addr} {vs : List V} {ds : List PyData}, OwnL K F H A (vs.map some) (ds.map O.dat) → A = [] ∧ DnL K F vs ds
  | _, [], [], .nil => ⟨rfl, .nil⟩
  | _, v :: vs, d :: ds, .cons (.dat h) l => by
    obtain ⟨e, r⟩ := OwnL.data l
    exact ⟨by rw [e]; rfl, .cons h r⟩
theorem OwnL.ofData : ∀ {vs : List V} {ds : List PyData}, DnL K F vs ds → OwnL K F H [] (vs.map some) (ds.map O.dat)
  | _, _, .nil => .nil
  | _, _, .cons h l => .cons (A := []) (.dat h) (OwnL.ofData l)
end

/-! ### a state: items that are owned, each address once -/
abbrev Its := List (Option V × O)
def Rel (K : PySem.W.Frag) (F H : Hp) (its : Its) : Prop :=
  Sub F H ∧ ∃ A, OwnL K F H A (its.map (·.1)) (its.map (·.2)) ∧ A.Nodup ∧ ∀ a, a ∈ A → F a = none
theorem OwnL.perm {K : PySem.W.Frag} {F H : Hp} {its its' : Its} (p : its.Perm its') : ∀ {A : List Addr}, OwnL K F H A (its.map (·.1)) (its.map (·.2)) → ∃ B, A.Perm B ∧ OwnL K F H B (its'.map (·.1)) (its'.map (·.2)) := by
  induction p with
  | nil => exact fun h => ⟨_, .refl _, h⟩
  | cons x p ih =>
    intro A h
    cases h with
    | cons a l =>
      obtain ⟨B, p1, h1⟩ := ih l
      exact ⟨_, List.Perm.append_left _ p1, .cons a h1⟩
  | swap x y l =>
    intro A h
    cases h with
    | cons a l =>
      cases l with
      | cons b l =>
        refine ⟨_, ?_, .cons b (.cons a l)⟩
        rw [← List.append_assoc, ← List.append_assoc]
        exact List.Perm.append_right _ List.perm_append_comm
  | trans p q i1 i2 =>
    intro A h
    obtain ⟨B, p1, h1⟩ := i1 h
    obtain ⟨C, p2, h2⟩ := i2 h1
    exact ⟨C, p1.trans p2, h2⟩
theorem Rel.perm {K : PySem.W.Frag} {F H : Hp} {its its' : Its} (r : Rel K F H its) (p : its.Perm its') : Rel K F H its' := by
  obtain ⟨s, A, h, n, f⟩ := r
  obtain ⟨B, q, h'⟩ := h.perm p
  exact ⟨s, B, h', q.nodup_iff.mp n, fun a ha => f a (q.mem_iff.mpr ha)⟩
theorem perm_eraseIdx {α : Type} : ∀ {l : List α} {i : Nat} {a : α}, l[i]? = some a → l.Perm (a :: l.eraseIdx i)
  | [], _, _, h => by simp at h
  | x :: l, 0, a, h => by
    simp at h
    subst h
    exact .refl _
  | x :: l, i + 1, a, h => by
    simp only [List.getElem?_cons_succ] at h
    rw [List.eraseIdx_cons_succ]
    exact ((perm_eraseIdx h).cons x).trans (.swap _ _ _)
theorem set_eraseIdx {α : Type} : ∀ {l : List α} {i : Nat} {b : α}, (l.set i b).eraseIdx i = l.eraseIdx i
  | [], _, _ => by simp
  | x :: l, 0, b => by simp
  | x :: l, i + 1, b => by
    simp only [List.set_cons_succ, List.eraseIdx_cons_succ]
    rw [set_eraseIdx]
theorem perm_set {α : Type} {l : List α} {i : Nat} {b : α} (h : i < l.length) : (l.set i b).Perm (b :: l.eraseIdx i) := by
  have e : (l.set i b)[i]? = some b := by simp [h]
  have q := perm_eraseIdx e
  rw [set_eraseIdx] at q
  exact q
/-- dropping an item -/
theorem Rel.tail {K : PySem.W.Frag} {F H : Hp} {x : Option V × O} {its : Its} (r : Rel K F H (x :: its)) : Rel K F H its := by
  obtain ⟨s, A, h, n, f⟩ := r
  cases h with
  | cons a l => exact ⟨s, _, l, (List.nodup_append.mp n).2.1, fun b hb => f b (List.mem_append_right _ hb)⟩
theorem Rel.drop {K : PySem.W.Frag} {F H : Hp} : ∀ {its its' : Its}, Rel K F H (its ++ its') → Rel K F H its'
  | [], _, r => r
  | _ :: its, _, r => Rel.drop (its := its) r.tail
theorem Rel.cons_un {K : PySem.W.Frag} {F H : Hp} {x : Option V} {its : Its} (r : Rel K F H its) : Rel K F H ((x, .un) :: its) := by
  obtain ⟨s, A, h, n, f⟩ := r
  exact ⟨s, A, .cons (A := []) (.un x) h, n, f⟩
theorem Rel.cons_dat {K : PySem.W.Frag} {F H : Hp} {v : V} {d : PyData} {its : Its} (r : Rel K F H its) (h : Dn K F v d) : Rel K F H ((some v, .dat d) :: its) := by
  obtain ⟨s, A, l, n, f⟩ := r
  exact ⟨s, A, .cons (A := []) (.dat h) l, n, f⟩
theorem Rel.sub {K : PySem.W.Frag} {F H : Hp} {its : Its} (r : Rel K F H its) : Sub F H := r.1
theorem Rel.dat {K : PySem.W.Frag} {F H : Hp} {x : Option V} {d : PyData} {its : Its} (r : Rel K F H ((x, .dat d) :: its)) : ∃ v, x = some v ∧ Dn K F v d := by
  obtain ⟨s, A, h, n, f⟩ := r
  cases h with
  | cons a l => cases a with
    | dat h => exact ⟨_, rfl, h⟩
/-- the heap grows elsewhere -/
theorem Rel.keep {K : PySem.W.Frag} {F H H' : Hp} {its : Its} (r : Rel K F H its) (k : Sub H H') : Rel K F H' its := by
  obtain ⟨s, A, h, n, f⟩ := r
  refine ⟨s.trans k, A, h.frame (.refl _) fun a ha => ?_, n, f⟩
  cases q : H a with
  | none => exact absurd q (h.there a ha)
  | some o => exact k a o q
/-- freezing the first item -/
theorem Rel.freeze {K : PySem.W.Frag} {F H : Hp} {x : Option V} {o : O} {d : PyData} {its : Its} (r : Rel K F H ((x, o) :: its)) (hd : o.toD = some d) :
    ∃ F' v, Sub F F' ∧ x = some v ∧ Dn K F' v d ∧ Rel K F' H its := by
  obtain ⟨s, A, h, n, f⟩ := r
  cases h with
  | cons a l =>
    rename_i A1 A2
    have ndp := List.nodup_append.mp n
    have s1 : Sub F (fun b => if b ∈ A1 then H b else F b) := fun b u e => by
      by_cases hb : b ∈ A1
      · show (if b ∈ A1 then H b else F b) = some u
        rw [if_pos hb]; exact s b u e
      · show (if b ∈ A1 then H b else F b) = some u
        rw [if_neg hb]; exact e
    have hA : ∀ b, b ∈ A1 → (fun b => if b ∈ A1 then H b else F b) b = H b := fun b hb => if_pos hb
    obtain ⟨v, e, q⟩ := a.freeze s1 hd hA
    refine ⟨_, v, s1, e, q, fun b u e => ?_, A2, l.frame s1 fun _ _ => rfl, ndp.2.1, fun b hb => ?_⟩
    · by_cases hb : b ∈ A1
      · have e' : (if b ∈ A1 then H b else F b) = some u := e
        rw [if_pos hb] at e'; exact e'
      · have e' : (if b ∈ A1 then H b else F b) = some u := e
        rw [if_neg hb] at e'; exact s b u e'
    · have hb1 : b ∉ A1 := fun z => ndp.2.2 b z b hb rfl
      show (if b ∈ A1 then H b else F b) = none
      rw [if_neg hb1]
      exact f b (List.mem_append_right _ hb)
/-- freezing what lies below the first item -/
theorem Rel.flat {K : PySem.W.Frag} {F H : Hp} {x : Option V} {os : List O} {ds : List PyData} {its : Its} (r : Rel K F H ((x, .nd .lst os) :: its)) (hd : O.toDL os = some ds) :
    ∃ F', Sub F F' ∧ Rel K F' H ((x, .nd .lst (ds.map O.dat)) :: its) := by
  obtain ⟨s, A, h, n, f⟩ := r
  cases h with
  | cons a l =>
    rename_i A1 A2
    cases a with
    | nd ha hl hf lo =>
      rename_i a vs A3
      have ndp := List.nodup_append.mp n
      have nd1 := List.nodup_cons.mp ndp.1
      have s1 : Sub F (fun b => if b ∈ A3 then H b else F b) := fun b u e => by
        by_cases hb : b ∈ A3
        · show (if b ∈ A3 then H b else F b) = some u
          rw [if_pos hb]; exact s b u e
        · show (if b ∈ A3 then H b else F b) = some u
          rw [if_neg hb]; exact e
      have hA : ∀ b, b ∈ A3 → (fun b => if b ∈ A3 then H b else F b) b = H b := fun b hb => if_pos hb
      have q := OwnL.freeze s1 lo hd hA
      refine ⟨_, s1, fun b u e => ?_, [a] ++ A2, .cons (.nd ha (by rw [List.length_map]; exact q.length) trivial (OwnL.ofData q)) (l.frame s1 fun _ _ => rfl), ?_, fun b hb => ?_⟩
      · by_cases hb : b ∈ A3
        · have e' : (if b ∈ A3 then H b else F b) = some u := e
          rw [if_pos hb] at e'; exact e'
        · have e' : (if b ∈ A3 then H b else F b) = some u := e
          rw [if_neg hb] at e'; exact s b u e'
      · refine List.nodup_append.mpr ⟨by simp, ndp.2.1, fun b hb c hc e => ?_⟩
        rw [List.mem_singleton.mp hb] at e
        exact ndp.2.2 a List.mem_cons_self c hc e
      · have hb1 : b ∉ A3 := fun z => by
          rcases List.mem_append.mp hb with y | y
          · rw [List.mem_singleton.mp y] at z
            exact nd1.1 z
          · exact ndp.2.2 b (List.mem_cons_of_mem _ z) b y rfl
        show (if b ∈ A3 then H b else F b) = none
        rw [if_neg hb1]
        rcases List.mem_append.mp hb with y | y
        · exact f b (List.mem_append_left _ (by rw [List.mem_singleton.mp y]; exact List.mem_cons_self))
        · exact f b (List.mem_append_right _ y)
/-- what may be read of an item: its own object in H, the rest in F -/
theorem Rel.read {K : PySem.W.Frag} {F H : Hp} {x : Option V} {o : O} {d : PyData} {its : Its} (r : Rel K F H ((x, o) :: its)) (hd : o.toD = some d) : ∃ v, x = some v ∧ Dn K H v d := by
  obtain ⟨s, A, h, n, f⟩ := r
  cases h with
  | cons a l => exact a.freeze s hd fun _ _ => rfl
/-- a new object made of the first items -/
theorem Rel.node {K : PySem.W.Frag} {F H : Hp} {k : NK} {vs : List V} {os : List O} {its : Its} {p : Addr} (hl : vs.length = os.length) (hf : k.fit os.length) (r : Rel K F H ((vs.map some).zip os ++ its)) (hp : H p = none) :
    Rel K F (upd H p (hoOf k vs)) ((some (.ref p), .nd k os) :: its) := by
  obtain ⟨s, A, h, n, f⟩ := r
  have e1 : ((vs.map some).zip os).map (·.1) = vs.map some := by
    rw [List.map_fst_zip]
    simp [hl]
  have e2 : ((vs.map some).zip os).map (·.2) = os := by
    rw [List.map_snd_zip]
    simp [hl]
  rw [List.map_append, List.map_append, e1, e2] at h
  have split : ∀ {xs ys : List (Option V)} {os ps : List O} {A : List Addr}, xs.length = os.length → OwnL K F H A (xs ++ ys) (os ++ ps) → ∃ A1 A2, A = A1 ++ A2 ∧ OwnL K F H A1 xs os ∧ OwnL K F H A2 ys ps := by
    intro xs
    induction xs with
    | nil =>
      intro ys os ps A hl h
      cases os with
      | nil => exact ⟨[], A, rfl, .nil, h⟩
      | cons o os => cases hl
    | cons x xs ih =>
      intro ys os ps A hl h
      cases os with
      | nil => cases hl
      | cons o os =>
        cases h with
        | cons a l =>
          obtain ⟨A1, A2, e, h1, h2⟩ := ih (by simpa using hl) l
          subst e
          exact ⟨_, A2, by rw [List.append_assoc], .cons a h1, h2⟩
  obtain ⟨A1, A2, e, h1, h2⟩ := split (by simp [hl]) h
  subst e
  have hpA : ∀ a, a ∈ A1 ++ A2 → a ≠ p := fun a ha z => h.there a ha (by rw [z]; exact hp)
  refine ⟨s.upd (s.nn hp), (p :: A1) ++ A2, ?_, ?_, ?_⟩
  · refine .cons (.nd (upd_same) hl hf (h1.frame (.refl _) fun a ha => upd_ne (hpA a (List.mem_append_left _ ha)))) ?_
    exact h2.frame (.refl _) fun a ha => upd_ne (hpA a (List.mem_append_right _ ha))
  · show (p :: (A1 ++ A2)).Nodup
    exact List.nodup_cons.mpr ⟨fun z => hpA p z rfl, n⟩
  · intro a ha
    rcases List.mem_cons.mp ha with z | z
    · rw [z]; exact s.nn hp
    · exact f a z
end VS

namespace VS
open PySem PySem.Spec PyProof.Rows L2
/-! ## the small language -/
inductive BF where
  | len | repr_ | list_ | tuple_ | abs_ | int_ | min_ | max_ | str_ | all_ | any_ | sum_
  deriving DecidableEq
def BF.name : BF → Str
  | .len => "len" | .repr_ => "repr" | .list_ => "list" | .tuple_ => "tuple" | .abs_ => "abs" | .int_ => "int" | .min_ => "min" | .max_ => "max" | .str_ => "str" | .all_ => "all" | .any_ => "any" | .sum_ => "sum"
def BF.val : BF → Value
  | .len => .builtin "len" | .repr_ => .builtin "repr" | .list_ => .type "list" | .tuple_ => .type "tuple" | .abs_ => .builtin "abs" | .int_ => .type "int" | .min_ => .builtin "min" | .max_ => .builtin "max" | .str_ => .type "str"
  | .all_ => .builtin "all" | .any_ => .builtin "any" | .sum_ => .builtin "sum"
inductive MF where
  | join
  deriving DecidableEq
/-- built-in types asked for -/
inductive TN where
  | str_ | int_ | bool_ | list_ | tuple_ | dict_ | none_
  deriving DecidableEq
def TN.nm : TN → String
  | .str_ => "str" | .int_ => "int" | .bool_ => "bool" | .list_ => "list" | .tuple_ => "tuple" | .dict_ => "dict" | .none_ => "NoneType"
def TN.name : TN → Str
  | .str_ => "str" | .int_ => "int" | .bool_ => "bool" | .list_ => "list" | .tuple_ => "tuple" | .dict_ => "dict" | .none_ => "NoneType"
/-- methods that change their object -/
inductive WF where
  | append | pop | extend
  deriving DecidableEq
/-- targets -/
inductive CT where
  | nm (i : Nat)
  | tp (ts : List CT)
inductive CE where
  | var (i : Nat)
  | io (i : Nat)
  | con (x : Str)
  | non
  | bl (b : Bool)
  | int (i : Int)
  | str (x : Str)
  | tup (es : List CE)
  | lst (es : List CE)
  | dct (kvs : List CE)
  | dnew (tk : Bool)
  | bin (op : Operator) (a b : CE)
  | neg (a : CE)
  | cmp (op : CmpOp) (a b : CE)
  | chn (o1 o2 : CmpOp) (a b c : CE)
  | bop (isand : Bool) (es : List CE)
  | nt (a : CE)
  | ife (t a b : CE)
  | idx (a i : CE)
  | sl (a : CE) (lo hi : List CE)
  | rev (a : CE)
  | frz (a : CE)
  | fl (a : CE)
  | dctT (kvs : List CE)
  | isi (a : CE) (ty : TN)
  | itv (i : Nat)
  | mv (i : Nat)
  | comp (own : List (Str × Nat)) (elt : CE) (tg : CT) (it : CE) (ifs : List CE)
  | call (f : Str) (args : List CE)
  | blt (f : BF) (args : List CE)
  | mth (m : MF) (recv : CE) (args : List CE)
  | mmt (m : WF) (recv : CE) (args : List CE)
  | rng (args : List CE)
  | enu (a : CE)
  | zip (a b : CE)
  | lzip (a b : CE)
  | rng3 (a b : CE)
  | get1 (a k : CE)
  | get2 (a k e : CE)
  | isin (neg : Bool) (k a : CE)
  | fst (ps : List CE)
  | dof (a : CE)
  | upd (a e : CE)
inductive CS where
  | set (t : CT) (e : CE)
  | par (i j : Nat) (a b : CE)
  | put (o k e : CE)
  | aug (i : Nat) (op : Operator) (e : CE)
  | augP (o k : CE) (op : Operator) (e : CE)
  | ex (e : CE)
  | ret (e : CE)
  | retN
  | ife (t : CE) (a b : List CS)
  | for_ (t : CT) (it : CE) (body : List CS)
  | while_ (t : CE) (body : List CS)
  | pass
  | brk
  | cont
  | never

/-! ## paths -/
mutual
def O.getP (o : O) : List Nat → Option O
  | [] => some o
  | n :: p => match o with
    | .nd _ os => match os[n]? with
      | some o' => O.getP o' p
      | none => none
    | _ => none
end
def O.setP (o : O) : List Nat → O → O
  | [], z => z
  | n :: p, z => match o with
    | .nd k os => match os[n]? with
      | some o' => .nd k (os.set n (O.setP o' p z))
      | none => o
    | _ => o
abbrev Env := List O
def getS (ρ : Env) (i : Nat) (p : List Nat) : Option O := match ρ[i]? with
  | some o => o.getP p
  | none => none
def setS (ρ : Env) (i : Nat) (p : List Nat) (z : O) : Env := match ρ[i]? with
  | some o => ρ.set i (o.setP p z)
  | none => ρ
/-- what an expression gives: a tree of its own, or a place -/
inductive R where
  | own (o : O)
  | pl (i : Nat) (p : List Nat)
  | it (ds : List PyData)
  | iv (i : Nat) (ds : List PyData)
def vw : R → Env → Option PyData
  | .own o, _ => o.flat
  | .pl i p, ρ => match getS ρ i p with
    | some o => o.flat
    | none => none
  | _, _ => none
def asD (r : R) (ρ : Env) (Q : PyData → Env → Prop) : Prop := match r with
  | .own o => match o.toD with
    | some d => Q d ρ
    | none => False
  | .pl i p => match getS ρ i p with
    | some o => match o.toD with
      | some d => Q d (setS ρ i p (.dat d))
      | none => False
    | none => False
  | _ => False
def asO (r : R) (ρ : Env) (Q : O → Env → Prop) : Prop := match r with
  | .own o => Q o ρ
  | .pl i p => asD (.pl i p) ρ fun d ρ => Q (.dat d) ρ
  | _ => False
def hold (r : R) (ρ : Env) (Q : R → Env → Prop) : Prop := match r with
  | .own o => asD (.own o) ρ fun d ρ => Q (.own (.dat d)) ρ
  | .pl i p => Q (.pl i p) ρ
  | _ => False
/-- a place that does not lie deep may wait while anything runs -/
def shallow : R → Bool
  | .pl _ (_ :: _) => false
  | _ => true
def CE.ioOf : CE → Option Nat
  | .io i => some i
  | _ => none
mutual
/-- nothing that stood is changed -/
def pureE : CE → Bool
  | .var _ | .con _ | .non | .bl _ | .int _ | .str _ => true
  | .tup es | .lst es => pureL es
  | .bin _ a b => pureE a && pureE b
  | .neg a | .nt a | .isi a _ => pureE a
  | .cmp _ a b => pureE a && pureE b
  | .idx a b => pureE a && pureE b
  | .blt _ es => pureL es
  | _ => false
def pureL : List CE → Bool
  | [] => true
  | e :: es => pureE e && pureL es
end
end VS

namespace VS
open PySem PySem.Spec PyProof.Rows L2
/-! ## what is read: frozen data, or an owned object of data -/
inductive View (K : PySem.W.Frag) (F H : Hp) : V → PyData → Prop
  | frz {v : V} {d : PyData} : Dn K F v d → View K F H v d
  | own {k : NK} {a : Addr} {vs : List V} {ds : List PyData} : k ≠ .tup → H a = some (hoOf k vs) → k.fit vs.length → DnL K F vs ds → View K F H (.ref a) (k.mk ds)
theorem NK.mk_lst {k : NK} {ds es : List PyData} (e : k.mk ds = .list es) : k = .lst ∧ ds = es := by
  cases k with
  | lst => exact ⟨rfl, PyData.list.inj e⟩
  | tup => exact nomatch (show PyData.tuple ds = .list es from e)
  | dk ks => exact nomatch (show PyData.dict _ = .list es from e)
  | dt ks => exact nomatch (show PyData.dict _ = .list es from e)
def PyData.isBox : PyData → Bool
  | .list _ | .tuple _ | .dict _ => true
  | _ => false
theorem NK.mk_box {k : NK} {ds : List PyData} : PyData.isBox (k.mk ds) = true := by cases k <;> rfl
section
variable {K : PySem.W.Frag} {F H : Hp} {v : V}
theorem View.flat {d : PyData} (h : View K F H v d) (hd : PyData.isBox d = false) : Dn K F v d := by
  cases h with
  | frz h => exact h
  | own n h f l => rw [NK.mk_box] at hd; cases hd
theorem View.non (h : View K F H v .none) : v = .non := by cases h.flat rfl; rfl
theorem View.int {i : Int} (h : View K F H v (.int i)) : v = .int i := by cases h.flat rfl; rfl
theorem View.bl {b : Bool} (h : View K F H v (.bool b)) : v = .bl b := by cases h.flat rfl; rfl
theorem View.str {x : Str} (h : View K F H v (.str x)) : v = .str x := by cases h.flat rfl; rfl
theorem View.list {ds : List PyData} (s : Sub F H) (h : View K F H v (.list ds)) : ∃ a vs, v = .ref a ∧ Rd H a (.lst vs) ∧ DnL K F vs ds := by
  generalize e : PyData.list ds = d at h
  cases h with
  | frz h => subst e; cases h with
    | lst q l => exact ⟨_, _, rfl, .inl (s _ _ q), l⟩
  | own n h f l =>
    obtain ⟨rfl, rfl⟩ := NK.mk_lst e.symm
    exact ⟨_, _, rfl, .inl h, l⟩
theorem View.tuple {ds : List PyData} (s : Sub F H) (h : View K F H v (.tuple ds)) : ∃ a vs, v = .ref a ∧ Tp F a vs (entB ds) ∧ SqT K H a vs ∧ DnL K F vs ds := by
  generalize e : PyData.tuple ds = d at h
  cases h with
  | frz h => subst e; cases h with
    | tup q l => exact ⟨_, _, rfl, q, (q.mono s).sq, l⟩
  | @own k _ _ ds' n h f l =>
    cases k with
    | tup => exact absurd rfl n
    | lst => exact nomatch (show PyData.tuple ds = .list ds' from e)
    | dk ks => exact nomatch (show PyData.tuple ds = .dict _ from e)
    | dt ks => exact nomatch (show PyData.tuple ds = .dict _ from e)
theorem View.dn {d : PyData} (s : Sub F H) (h : View K F H v d) : Dn K H v d := by
  cases h with
  | frz h => exact h.mono s
  | own n h f l => exact Dn.node h f (l.mono s) fun z => absurd z n
mutual
theorem Dn.dp : ∀ {v : V} {d : PyData}, Dn K H v d → d.canLay0 = true → Dp K H v d
  | _, _, .non, _ => .non
  | _, _, .bl b, _ => .bl b
  | _, _, .int i, _ => .int i
  | _, _, .str x, _ => .str x
  | _, _, .lst h l, q => .lst (SqL.of h) (DnL.dp l q)
  | _, _, .scr h l, q => by simp [PyData.canLay0] at q
  | _, _, .tup h l, q => .tup h.sq (DnL.dp l q)
  | _, _, .dk h e l, q => by simp [PyData.canLay0] at q
  | _, _, .dt h e l, q => by simp [PyData.canLay0] at q
theorem DnL.dp : ∀ {vs : List V} {ds : List PyData}, DnL K H vs ds → PyData.canLayAll0 ds = true → DpAll K H vs ds
  | _, _, .nil, _ => .nil
  | _, _, .cons h l, q => by
    have q' := Bool.and_eq_true_iff.mp (show (_ && _) = true from (by simpa [PyData.canLayAll0] using q))
    exact .cons (Dn.dp h q'.1) (DnL.dp l q'.2)
end
end
/-! ## what comes out -/
inductive Res (K : PySem.W.Frag) (F H : Hp) : V → O → Hp → Prop
  | val {z : V} {d : PyData} : Dn K F z d → Res K F H z (.dat d) H
  | new {k : NK} {vs : List V} {ds : List PyData} {p : Addr} : H p = none → k.fit vs.length → DnL K F vs ds → Res K F H (.ref p) (.nd k (ds.map O.dat)) (upd H p (hoOf k vs))
  | newT {vs : List V} {ds : List PyData} {p : Addr} {o : HO} : H p = none → DnL K F vs ds → Tp (upd F p o) p vs (entB ds) → Res K F H (.ref p) (.dat (.tuple ds)) (upd H p o)
theorem Sub.grow {H : Hp} {p : Addr} {o : HO} (h : H p = none) : Sub H (L2.upd H p o) := Sub.upd (Sub.refl H) h
theorem Rel.sub2 {K : PySem.W.Frag} {F F' H : Hp} {its : Its} (r : Rel K F H its) (s : Sub F F') (t : Sub F' H) (n : ∀ b, F b = none → H b ≠ none → F' b = none) : Rel K F' H its := by
  obtain ⟨_, A, h, nd, f⟩ := r
  exact ⟨t, A, h.frame s fun _ _ => rfl, nd, fun a ha => n a (f a ha) (h.there a ha)⟩
theorem zip_fst {vs : List V} {os : List O} (h : vs.length = os.length) : ((vs.map some).zip os).map (·.1) = vs.map some := by
  rw [List.map_fst_zip]
  simp [h]
theorem zip_snd {vs : List V} {os : List O} (h : vs.length = os.length) : ((vs.map some).zip os).map (·.2) = os := by
  rw [List.map_snd_zip]
  simp [h]
theorem Rel.datas {K : PySem.W.Frag} {F H : Hp} {its : Its} : ∀ {vs : List V} {ds : List PyData}, Rel K F H its → DnL K F vs ds → Rel K F H ((vs.map some).zip (ds.map O.dat) ++ its)
  | _, _, r, .nil => r
  | _, _, r, .cons h l => Rel.cons_dat (Rel.datas r l) h
theorem Res.rel {K : PySem.W.Frag} {F H H' : Hp} {z : V} {o : O} {its : Its} (r : Rel K F H its) (h : Res K F H z o H') : ∃ F', Sub F F' ∧ Sub H H' ∧ Rel K F' H' ((some z, o) :: its) := by
  cases h with
  | val d => exact ⟨F, .refl _, .refl _, r.cons_dat d⟩
  | new hp hf l =>
    refine ⟨F, .refl _, Sub.grow hp, Rel.node (by simpa using l.length) (by simpa [l.length] using hf) (r.datas l) hp⟩
  | @newT vs ds p o hp l ht =>
    have hf : F p = none := r.sub.nn hp
    have s1 : Sub F (upd F p o) := Sub.grow hf
    refine ⟨upd F p o, s1, Sub.grow hp, ?_⟩
    have r1 : Rel K (upd F p o) (upd H p o) its := by
      obtain ⟨sF, A, h, nd, f⟩ := r
      refine ⟨fun b u e => ?_, A, h.frame s1 fun a ha => ?_, nd, fun a ha => ?_⟩
      · by_cases hb : b = p
        · subst hb; rw [upd_same] at e ⊢; exact e
        · rw [upd_ne hb] at e ⊢; exact sF b u e
      · exact upd_ne fun z => h.there a ha (by rw [z]; exact hp)
      · rw [upd_ne fun z => h.there a ha (by rw [z]; exact hp)]; exact f a ha
    exact r1.cons_dat (.tup ht (l.mono s1))
theorem Tp.new0 {F : Hp} {p : Addr} {vs : List V} {b : Bool} (h : b = false) : Tp (upd F p (.tup vs)) p vs b := .inl ⟨h, upd_same⟩
theorem Tp.new1 {F : Hp} {p : Addr} {vs : List V} {b : Bool} {o : Obj} (h : b = true) (d : o.dict = none) : Tp (upd F p (.frz o (.tup vs))) p vs b := .inr ⟨h, o, upd_same, d⟩
theorem entB_or (ds : List PyData) : entB ds = false ∨ entB ds = true := by cases entB ds <;> simp

/-! ## new tuples, the very object known -/
section
variable {X : Cx}
theorem Inv.laidZ {pn : List (Addr × Obj)} {sg : L2.St} {H : Hp} {st : Shared} {xs : List V} {us : List Value} (I : Inv X pn sg H st) (r : Vals xs us) (hz : xs.length ≤ sizeLine) :
    Inv X pn sg (upd H st.heap.objs.size (.frz { cls := .type "tuple", data := .seq us.toArray } (.tup xs))) { st with heap := st.heap.push { cls := .type "tuple", data := .seq us.toArray } } :=
  I.laid (t' := st.toks) (fun b u e => Heap.get?_push_of_some _ e) (Nat.le_refl _) ⟨Heap.get?_push_size _ rfl, hz, us, r, ⟨_, Heap.get?_push_size _ rfl, rfl, _, rfl⟩⟩
def rCatZ (K : PySem.W.Frag) : R2 := fun x y H Q => ∃ a b xs ys, x = .ref a ∧ y = .ref b ∧ SqT K H a xs ∧ SqT K H b ys ∧ xs ≠ [] ∧ ys ≠ [] ∧ xs.length + ys.length ≤ sizeLine ∧ ∀ p o, H p = none → o.dict = none → Q (.ref p) (upd H p (.frz o (.tup (xs ++ ys))))
theorem op_catZ : OpR X (binaryOp .Add) (rCatZ X.K) := by
  intro pn st sg H x y v u Q I rx ry h
  obtain ⟨a, b, xs, ys, rfl, rfl, ha, hb, hx, hy, hz, q⟩ := h
  cases rx
  cases ry
  obtain ⟨its, r1, p1, _⟩ := I.tuple ha
  obtain ⟨its2, r2, p2, _⟩ := I.tuple hb
  refine HT.cat_tup p1 p2 (fun z => hx (r1.nil_iff.mp z)) (fun z => absurd (r2.nil_iff.mp z) hy) (fun _ => ?_) (by rw [← r1.length, ← r2.length]; exact hz)
  exact ⟨.ref st.heap.objs.size, _, Inv.laidZ I (r1.append r2) (by rw [List.length_append]; exact hz), rfl, q _ _ (I.hok.fresh (Nat.le_refl _)) rfl⟩
def rSlZ (K : PySem.W.Frag) : V → Option Int → Option Int → Hp → VK → Prop := fun x lo hi H Q => ∃ a xs, x = .ref a ∧ SqT K H a xs ∧
  ¬ (HT.sIx xs.length 0 lo = 0 ∧ HT.sIx xs.length xs.length hi = xs.length) ∧ ∀ p o, H p = none → o.dict = none → Q (.ref p) (upd H p (.frz o (.tup (cutV xs lo hi))))
theorem sl_tupZ : SlR X (rSlZ X.K) := by
  intro pn st sg H x v vl vu lo hi sl Q I rx hs pl pu h
  obtain ⟨a, xs, rfl, hx, hw, q⟩ := h
  cases rx
  obtain ⟨its, r, ht, hz⟩ := I.tuple hx
  have el : its.toArray.size = xs.length := by rw [List.size_toArray]; exact r.length.symm
  refine ⟨"tuple", _, PyProof.Rows.slot_tuple_getitem.lookup, ht.typeIs, HT.getItem_tuple_cut ht hs pl pu (by rw [el]; exact hw) ?_ (by rw [el]; exact hz)⟩
  rw [el]
  exact ⟨.ref st.heap.objs.size, _, Inv.laidZ (xs := cutV xs lo hi) I ((r.drop (HT.sIx xs.length 0 lo)).take _) (Nat.le_trans (cutV_length xs lo hi) hz), rfl, q _ _ (I.hok.fresh (Nat.le_refl _)) rfl⟩
theorem call_tupleZ : CallR X (.type "tuple") (fun xs H Q => ∃ p ys, xs = [.ref p] ∧ SqL X.K H p ys ∧ ∀ l o, H l = none → o.dict = none → Q (.ref l) (upd H l (.frz o (.tup ys)))) := by
  intro pn st sg H xs us Q I r h
  obtain ⟨p, ys, rfl, hq, q⟩ := h
  obtain ⟨u, rfl, rx⟩ := vals1 r
  cases rx
  obtain ⟨its, r', pl, hz⟩ := I.list hq
  have el := r'.length
  refine call_tuple_list pl.isList (fun h' kp => ?_) (by simp only [List.size_toArray] <;> omega)
  have I1 : Inv X pn sg H { st with heap := h' } := I.kept (t' := st.toks) kp
  exact ⟨.ref h'.objs.size, _, Inv.laidZ I1 r' hz, rfl, q _ _ (I1.hok.fresh (Nat.le_refl _)) rfl⟩
end
/-! ## operators on data -/
def dL (ds : List PyData) : O := .nd .lst (ds.map O.dat)
def repL {α : Type} (n : Int) (xs : List α) : List α := (List.replicate n.toNat xs).flatten
def repS (n : Int) (x : Str) : Str := ⟨(List.replicate n.toNat x.cps).foldl (· ++ ·) #[]⟩
def binD (op : Operator) (a b : PyData) (Q : O → Prop) : Prop := match op, a, b with
  | .Add, .int i, .int j => Q (.dat (.int (i + j)))
  | .Add, .str x, .str y => x.length + y.length ≤ sizeLine ∧ Q (.dat (.str (x ++ y)))
  | .Add, .list xs, .list ys => xs.length + ys.length ≤ sizeLine ∧ Q (dL (xs ++ ys))
  | .Add, .tuple xs, .tuple ys => xs.length + ys.length ≤ sizeLine ∧ Q (.dat (.tuple (xs ++ ys)))
  | .Sub, .int i, .int j => Q (.dat (.int (i - j)))
  | .Mult, .int i, .int j => CMul i j ∧ Q (.dat (.int (i * j)))
  | .Mult, .str x, .int j => 1 ≤ j ∧ j ≤ 1000 ∧ x.length ≤ 1000 ∧ Q (.dat (.str (repS j x)))
  | .Mult, .list xs, .int j => -(2 ^ 63) ≤ j ∧ j < 2 ^ 63 ∧ xs.length * j.toNat ≤ sizeLine ∧ Q (dL (repL j xs))
  | .Mult, .tuple xs, .int j => xs ≠ [] ∧ 2 ≤ j ∧ j ≤ 1000 ∧ xs.length ≤ 1000 ∧ entB (repL j xs) = false ∧ Q (.dat (.tuple (repL j xs)))
  | .Mod, .int i, .int j => 0 < j ∧ Q (.dat (.int (i % j)))
  | .FloorDiv, .int i, .int j => CDiv i j ∧ Q (.dat (.int (i / j)))
  | .Pow, .int i, .int j => CPow i j ∧ Q (.dat (.int (i ^ j.toNat)))
  | _, _, _ => False
def rBin (K : PySem.W.Frag) (op : Operator) : R2 := fun x y H Q => ∃ F da db, Sub F H ∧ View K F H x da ∧ View K F H y db ∧ binD op da db fun o => ∀ z H', Res K F H z o H' → Q z H'
section
variable {X : Cx} {pn : List (Addr × Obj)} {st : Shared} {sg : L2.St} {H : Hp} {a b : Addr} {j : Int} {t : Tok} {xs ys : List V} {Q : VK}
theorem seeL (I : Inv X pn sg H st) (ha : Rd H a (.lst xs)) : ∃ (us : List Value) (n : Nat), Vals xs us ∧ us.length = xs.length ∧ st.heap.get? a = some { cls := .type "list", data := .seq us.toArray n } := by
  have q : ObjOk X.prog X.w H st.heap a (.lst xs) := ha.ok I.hok
  obtain ⟨_, us, n, r, e⟩ := q
  exact ⟨us, n, r, r.length.symm, e⟩
theorem add_lists (I : Inv X pn sg H st) (ha : Rd H a (.lst xs)) (hb : Rd H b (.lst ys)) (hz : xs.length + ys.length ≤ sizeLine)
    (q : ∀ p, H p = none → Q (.ref p) (upd H p (.lst (xs ++ ys)))) : wpAny (model X.prog X.w) X.A (binaryOp .Add (.ref a) (.ref b)) (EP X pn sg Q) X.xe st := by
  obtain ⟨ia, na, ra, la, ea⟩ := seeL I ha
  obtain ⟨ib, nb, rb, lb, eb⟩ := seeL I hb
  refine PySem.P.add_list ea eb ?_ (by rw [List.size_toArray, List.size_toArray]; omega)
  rw [show ia.toArray ++ ib.toArray = (ia ++ ib).toArray by simp]
  exact ⟨.ref _, _, I.lnew (t' := st.toks) (ra.append rb) (by rw [List.length_append]; exact hz), rfl, q _ I.fresh⟩
theorem mul_list (I : Inv X pn sg H st) (ha : Rd H a (.lst xs)) (h1 : -(2 ^ 63) ≤ j) (h2 : j < 2 ^ 63) (hz : xs.length * j.toNat ≤ sizeLine)
    (q : ∀ p, H p = none → Q (.ref p) (upd H p (.lst (repL j xs)))) : wpAny (model X.prog X.w) X.A (binaryOp .Mult (.ref a) (.int j t)) (EP X pn sg Q) X.xe st := by
  obtain ⟨us, n, ra, la, ea⟩ := seeL I ha
  have le : us.toArray.size * j.toNat ≤ sizeLine := by rw [List.size_toArray, la]; exact hz
  have cap : ¬ us.toArray.size * j.toNat > (2 ^ 63 - 1) / 8 := by
    have z : (sizeLine : Nat) ≤ (2 ^ 63 - 1) / 8 := by decide
    omega
  have fit : ¬ (!Builtin.List.listFitsIndex j) = true := by rw [fitsIndex_both h1 h2]; decide
  have lng : ¬ Builtin.List.listTooLong (us.toArray.size * j.toNat) = true := by rw [notLongL le]; decide
  have rep : ∀ m : Nat, List.foldl (fun u v => u ++ v) #[] (List.replicate m us.toArray) = (List.replicate m us).flatten.toArray := fun m => by
    have z := foldl_rep us m []
    rw [List.nil_append] at z
    exact z
  have made : List.foldl (fun u v => u ++ v) #[] (List.replicate (if us.toArray.isEmpty = true then 0 else j.toNat) us.toArray) = (List.replicate j.toNat us).flatten.toArray := by
    rw [rep]
    cases us with
    | nil => simp
    | cons c r => rw [if_neg (by simp)]
  have ty : st.TypeIs (.ref a) "list" := ⟨_, ea, rfl⟩
  refine wpAny_binaryOp_repeat_ref (U := "int") (T := "list") (by decide) ty (fun z => typeIs_int z j t) noFill_list_mul F.fills_int_mul F.slot_int_rmul repeat_list F.slot_int_index.lookup
    (call_meets F.slot_int_rmul (typeIs_int st j t) F.entry_int_rmul (F.args_int_rmul_2 _ _) (int___rmul___int_list j t a us.toArray n) ⟨ea, rfl, ty, ?_⟩)
  refine call_meets F.slot_list_mul ty F.entry_list_mul (F.args_list_mul_2 _ _) (AutoListH.list___mul___list_int_3 a us.toArray n j t fit cap lng) ⟨ea, ?_⟩
  rw [made]
  exact ⟨.ref _, _, I.lnew (t' := st.toks) (ra.rep j.toNat) (by rw [PyProof.Rows.lm_len_rep_flat, Nat.mul_comm]; exact hz), rfl, q _ I.fresh⟩
theorem repS_len (j : Int) (x : Str) : (repS j x).length = j.toNat * x.length := by
  have all : ∀ (m : Nat) (acc : Array Nat), ((List.replicate m x.cps).foldl (· ++ ·) acc).size = acc.size + m * x.cps.size := fun m => by
    induction m with
    | zero => intro acc; simp
    | succ m ih => intro acc; rw [List.replicate_succ, List.foldl_cons, ih, Array.size_append, Nat.succ_mul]; omega
  have z := all j.toNat #[]
  show ((List.replicate j.toNat x.cps).foldl (· ++ ·) #[]).size = j.toNat * x.cps.size
  rw [z]; simp
theorem mul_text {x : Str} {u : Tok} (I : Inv X pn sg H st) (h1 : 1 ≤ j) (h2 : j ≤ 1000) (hz : x.length ≤ 1000) (q : Q (.str (repS j x)) H) :
    wpAny (model X.prog X.w) X.A (binaryOp .Mult (.str x u) (.int j t)) (EP X pn sg Q) X.xe st := by
  have hm : x.length * j.toNat ≤ 1000 * 1000 := Nat.mul_le_mul hz (by omega)
  refine PySem.P.mul_str ?_ ?_ ?_ ?_
  · rw [decide_eq_false (by omega), decide_eq_false (by omega)]; rfl
  · intro _ _ z
    have z1 : (x.length : Int) * j ≤ 1000 * 1000 := Int.mul_le_mul (by omega) h2 (by omega) (by decide)
    have z2 : (x.length : Int) ≤ (2 ^ 63 - 1) / j := Int.le_ediv_of_mul_le (by omega) (Int.le_trans z1 (by decide))
    omega
  · intro _ _
    unfold Builtin.Str.tooLong
    exact decide_eq_false (by rw [sizeLine_eq]; omega)
  · rw [if_neg (by omega)]
    by_cases e1 : (j == 1 || x.length == 0) = true
    · rw [if_pos e1]
      have e : repS j x = x := by
        rcases Bool.or_eq_true_iff.mp e1 with e | e
        · have e : j = 1 := by simpa using e
          subst e
          show Str.mk (#[] ++ x.cps) = x
          simp
        · have e : x.length = 0 := by simpa using e
          have ec : x.cps = #[] := Array.eq_empty_of_size_eq_zero e
          have all : ∀ m : Nat, (List.replicate m (#[] : Array Nat)).foldl (· ++ ·) #[] = #[] := fun m => by
            induction m with
            | zero => rfl
            | succ m ih => rw [List.replicate_succ]; exact ih
          show Str.mk ((List.replicate j.toNat x.cps).foldl (· ++ ·) #[]) = x
          rw [ec, all, ← ec]
      rw [e] at q
      exact ⟨.str x, H, I, ⟨_, rfl⟩, q⟩
    · rw [if_neg e1]
      refine ⟨?_, ⟨.str (repS j x), H, I.tok _, ⟨_, rfl⟩, q⟩⟩
      show (repS j x).length ≤ sizeLine
      rw [repS_len, Nat.mul_comm, sizeLine_eq]; omega
theorem DnL.rep {K : PySem.W.Frag} {F : Hp} {vs : List V} {ds : List PyData} (l : DnL K F vs ds) (n : Int) : DnL K F (repL n vs) (repL n ds) := by
  unfold repL
  induction n.toNat with
  | zero => exact .nil
  | succ m ih =>
    rw [List.replicate_succ, List.replicate_succ, List.flatten_cons, List.flatten_cons]
    exact l.append ih
theorem op_binD {op : Operator} : OpR X (binaryOp op) (rBin X.K op) := by
  intro pn st sg Hh x y v u Q I rx ry hh
  obtain ⟨F, da, db, s, va, vb, hh⟩ := hh
  unfold binD at hh
  split at hh
  · obtain rfl := va.int
    obtain rfl := vb.int
    exact op_add pn st sg Hh _ _ v u Q I rx ry ⟨_, _, rfl, rfl, hh _ _ (.val (.int _))⟩
  · obtain rfl := va.str
    obtain rfl := vb.str
    exact op_add_str pn st sg Hh _ _ v u Q I rx ry ⟨_, _, rfl, rfl, hh.1, hh.2 _ _ (.val (.str _))⟩
  · obtain ⟨a, xs, rfl, ha, la⟩ := va.list s
    obtain ⟨b, ys, rfl, hb, lb⟩ := vb.list s
    cases rx
    cases ry
    refine add_lists I ha hb (by rw [la.length, lb.length]; exact hh.1) fun p hp => hh.2 _ _ ?_
    exact .new (k := .lst) hp trivial (la.append lb)
  · obtain ⟨a, xs, rfl, ka, ha, la⟩ := va.tuple s
    obtain ⟨b, ys, rfl, kb, hb, lb⟩ := vb.tuple s
    rename_i ds1 ds2
    by_cases c : xs ≠ [] ∧ ys ≠ [] ∧ entB (ds1 ++ ds2) = true
    · exact op_catZ pn st sg Hh _ _ v u Q I rx ry ⟨a, b, xs, ys, rfl, rfl, ha, hb, c.1, c.2.1, by rw [la.length, lb.length]; exact hh.1, fun p o hp hd => hh.2 _ _ (.newT hp (la.append lb) (Tp.new1 c.2.2 hd))⟩
    · refine op_catA pn st sg Hh _ _ v u Q I rx ry ⟨a, b, xs, ys, rfl, rfl, ha, hb, by rw [la.length, lb.length]; exact hh.1, fun e => hh.2 _ _ ?_, fun _ e => hh.2 _ _ ?_, fun c1 c2 p hp => hh.2 _ _ ?_⟩
      · subst e
        cases la
        exact .val (.tup kb lb)
      · subst e
        cases lb
        rw [List.append_nil]
        exact .val (.tup ka la)
      · exact .newT hp (la.append lb) (Tp.new0 (by
          rcases entB_or (ds1 ++ ds2) with z | z
          · exact z
          · exact absurd ⟨c1, c2, z⟩ c))
  · obtain rfl := va.int
    obtain rfl := vb.int
    exact op_sub pn st sg Hh _ _ v u Q I rx ry ⟨_, _, rfl, rfl, hh _ _ (.val (.int _))⟩
  · obtain rfl := va.int
    obtain rfl := vb.int
    exact op_mul pn st sg Hh _ _ v u Q I rx ry ⟨_, _, rfl, rfl, hh.1, hh.2 _ _ (.val (.int _))⟩
  · obtain rfl := va.str
    obtain rfl := vb.int
    obtain ⟨t1, rfl⟩ := rx
    obtain ⟨t2, rfl⟩ := ry
    exact mul_text I hh.1 hh.2.1 hh.2.2.1 (hh.2.2.2 _ _ (.val (.str _)))
  · obtain ⟨a, xs, rfl, ha, la⟩ := va.list s
    obtain rfl := vb.int
    cases rx
    obtain ⟨t2, rfl⟩ := ry
    exact mul_list I ha hh.1 hh.2.1 (by rw [la.length]; exact hh.2.2.1) fun p hp => hh.2.2.2 _ _ (.new (k := .lst) hp trivial (la.rep _))
  · obtain ⟨a, xs, rfl, ka, ha, la⟩ := va.tuple s
    obtain rfl := vb.int
    refine op_repT pn st sg Hh _ _ v u Q I rx ry ⟨a, _, xs, rfl, rfl, ha, fun e => hh.1 ?_, hh.2.1, hh.2.2.1, by rw [la.length]; exact hh.2.2.2.1, fun p hp => hh.2.2.2.2.2 _ _ (.newT hp (la.rep _) (Tp.new0 hh.2.2.2.2.1))⟩
    have z := la.length
    rw [e] at z
    exact List.length_eq_zero_iff.mp z.symm
  · obtain rfl := va.int
    obtain rfl := vb.int
    exact op_mod pn st sg Hh _ _ v u Q I rx ry ⟨_, _, rfl, rfl, hh.1, hh.2 _ _ (.val (.int _))⟩
  · obtain rfl := va.int
    obtain rfl := vb.int
    exact op_fdiv pn st sg Hh _ _ v u Q I rx ry ⟨_, _, rfl, rfl, hh.1, hh.2 _ _ (.val (.int _))⟩
  · obtain rfl := va.int
    obtain rfl := vb.int
    exact op_pow pn st sg Hh _ _ v u Q I rx ry ⟨_, _, rfl, rfl, hh.1, hh.2 _ _ (.val (.int _))⟩
  · exact hh.elim
end
/-! ## comparisons of data -/
def strIn (x y : Str) : Bool := !(Builtin.Str.occurrences y x 0 y.length 1).isEmpty
def isNone : PyData → Bool
  | .none => true
  | _ => false
/-- the place of a key -/
def keyD : PyData → Option Key
  | .int i => some (.inl i)
  | .str x => some (.inr x)
  | _ => none
def keysD : List PyData → Option (List Key)
  | [] => some []
  | d :: ds => match keyD d, keysD ds with
    | some k, some ks => some (k :: ks)
    | _, _ => none
def flatD : PyData → Bool
  | .none | .int _ | .str _ => true
  | _ => false
def cmpD (op : CmpOp) (a b : PyData) (Q : Bool → Prop) : Prop := match op, a, b with
  | .Eq, .str x, .str y => Q (decide (x = y))
  | .NotEq, .str x, .str y => Q (!decide (x = y))
  | .Eq, .list ds, .list [] => Q ds.isEmpty
  | .NotEq, .list ds, .list [] => Q (!ds.isEmpty)
  | .Eq, a, b => SeqAt.shaped a = true ∧ SeqAt.shaped b = true ∧ Q (PyData.eqv a b)
  | .NotEq, a, b => SeqAt.shaped a = true ∧ SeqAt.shaped b = true ∧ Q (!PyData.eqv a b)
  | .Lt, .int i, .int j => Q (decide (i < j))
  | .LtE, .int i, .int j => Q (decide (i ≤ j))
  | .Gt, .int i, .int j => Q (decide (j < i))
  | .GtE, .int i, .int j => Q (decide (j ≤ i))
  | .Lt, .str x, .str y => Q (decide (x.cps.toList < y.cps.toList))
  | .In, .str x, .str y => Q (strIn x y)
  | .NotIn, .str x, .str y => Q (!strIn x y)
  | .In, a, .list ds => SeqAt.shaped a = true ∧ SeqAt.shaped (.list ds) = true ∧ Q (ds.any fun z => PyData.eqv z a)
  | .NotIn, a, .list ds => SeqAt.shaped a = true ∧ SeqAt.shaped (.list ds) = true ∧ Q (!ds.any fun z => PyData.eqv z a)
  | .Is, a, .none => Q (isNone a)
  | .IsNot, a, .none => Q (!isNone a)
  | _, _, _ => False
def rCmp (K : PySem.W.Frag) (op : CmpOp) : R2 := fun x y H Q => ∃ F da db, Sub F H ∧ View K F H x da ∧ View K F H y db ∧ cmpD op da db fun b => Q (.bl b) H
section
variable {X : Cx}
theorem View.isN {K : PySem.W.Frag} {F H : Hp} {v : V} {d : PyData} (h : View K F H v d) : decide (v = .non) = isNone d := by
  cases h with
  | frz h => cases h <;> rfl
  | own n h f l => rename_i k a vs ds; cases k <;> rfl
theorem op_cmpD (hu : X.A.units + 65 < cLine) {op : CmpOp} : OpR X (compareOp op) (rCmp X.K op) := by
  intro pn st sg Hh x y v u Q I rx ry hh
  obtain ⟨F, da, db, s, va, vb, hh⟩ := hh
  unfold cmpD at hh
  split at hh
  · obtain rfl := va.str
    obtain rfl := vb.str
    refine op_eq pn st sg Hh _ _ v u Q I rx ry ⟨rfl, ?_⟩
    rw [show decide (V.str _ = V.str _) = decide (_ = _) from decide_eq_decide.mpr ⟨fun e => V.str.inj e, fun e => by rw [e]⟩]
    exact hh
  · obtain rfl := va.str
    obtain rfl := vb.str
    refine op_ne pn st sg Hh _ _ v u Q I rx ry ⟨rfl, ?_⟩
    rw [show decide (V.str _ = V.str _) = decide (_ = _) from decide_eq_decide.mpr ⟨fun e => V.str.inj e, fun e => by rw [e]⟩]
    exact hh
  · obtain ⟨a, vs, rfl, ha, la⟩ := va.list s
    obtain ⟨b, ws, rfl, hb, lb⟩ := vb.list s
    cases lb
    cases rx
    cases ry
    obtain ⟨us, n, rv, lv, e1⟩ := seeL I ha
    obtain ⟨us2, n2, rv2, lv2, e2⟩ := seeL I hb
    cases rv2
    have z1 : st.heap.IsList a us.toArray := ⟨_, e1, rfl, n, rfl⟩
    have z2 : st.heap.IsList b ([] : List Value).toArray := ⟨_, e2, rfl, n2, rfl⟩
    cases la with
    | nil =>
      cases rv
      exact PySem.SeqAt.eq_listAt (e := fun _ => true) z1 z2 rfl (by omega) (fun j h1 => by simp at h1) ⟨.bl true, Hh, I, rfl, hh⟩
    | cons x l =>
      cases rv
      exact PySem.SeqAt.eq_list_lengthsAt z1 z2 (by simp) (by omega) ⟨.bl false, Hh, I, rfl, hh⟩
  · obtain ⟨a, vs, rfl, ha, la⟩ := va.list s
    obtain ⟨b, ws, rfl, hb, lb⟩ := vb.list s
    cases lb
    cases rx
    cases ry
    obtain ⟨us, n, rv, lv, e1⟩ := seeL I ha
    obtain ⟨us2, n2, rv2, lv2, e2⟩ := seeL I hb
    cases rv2
    have z1 : st.heap.IsList a us.toArray := ⟨_, e1, rfl, n, rfl⟩
    have z2 : st.heap.IsList b ([] : List Value).toArray := ⟨_, e2, rfl, n2, rfl⟩
    cases la with
    | nil =>
      cases rv
      exact PySem.SeqAt.RcNeAt.lists (e := fun _ => true) z1 z2 rfl (by omega) (fun j h1 => by simp at h1) _ _ _ _ ⟨.bl false, Hh, I, rfl, hh⟩
    | cons x l =>
      cases rv
      exact PySem.SeqAt.RcNeAt.lists_lengths z1 z2 (by simp) (by omega) _ _ _ _ ⟨.bl true, Hh, I, rfl, hh⟩
  · exact op_eqD (by omega) pn st sg Hh _ _ v u Q I rx ry ⟨_, _, (va.dn s).dp (SeqAt.canLay_of_shaped hh.1), (vb.dn s).dp (SeqAt.canLay_of_shaped hh.2.1), hh.1, hh.2.1, hh.2.2⟩
  · exact op_neD (by omega) pn st sg Hh _ _ v u Q I rx ry ⟨_, _, (va.dn s).dp (SeqAt.canLay_of_shaped hh.1), (vb.dn s).dp (SeqAt.canLay_of_shaped hh.2.1), hh.1, hh.2.1, hh.2.2⟩
  · obtain rfl := va.int
    obtain rfl := vb.int
    exact op_lt pn st sg Hh _ _ v u Q I rx ry ⟨_, _, rfl, rfl, hh⟩
  · obtain rfl := va.int
    obtain rfl := vb.int
    exact op_le pn st sg Hh _ _ v u Q I rx ry ⟨_, _, rfl, rfl, hh⟩
  · obtain rfl := va.int
    obtain rfl := vb.int
    exact op_gt pn st sg Hh _ _ v u Q I rx ry ⟨_, _, rfl, rfl, hh⟩
  · obtain rfl := va.int
    obtain rfl := vb.int
    exact op_ge pn st sg Hh _ _ v u Q I rx ry ⟨_, _, rfl, rfl, hh⟩
  · obtain rfl := va.str
    obtain rfl := vb.str
    exact op_lt_str pn st sg Hh _ _ v u Q I rx ry ⟨_, _, rfl, rfl, hh⟩
  · obtain rfl := va.str
    obtain rfl := vb.str
    exact op_in_str pn st sg Hh _ _ v u Q I rx ry ⟨_, _, rfl, rfl, hh⟩
  · obtain rfl := va.str
    obtain rfl := vb.str
    exact op_notin_str pn st sg Hh _ _ v u Q I rx ry ⟨_, _, rfl, rfl, hh⟩
  · exact op_inD hu pn st sg Hh _ _ v u Q I rx ry ⟨_, _, (va.dn s).dp (SeqAt.canLay_of_shaped hh.1), (vb.dn s).dp (SeqAt.canLay_of_shaped hh.2.1), hh.1, hh.2.1, hh.2.2⟩
  · exact op_notInD hu pn st sg Hh _ _ v u Q I rx ry ⟨_, _, (va.dn s).dp (SeqAt.canLay_of_shaped hh.1), (vb.dn s).dp (SeqAt.canLay_of_shaped hh.2.1), hh.1, hh.2.1, hh.2.2⟩
  · obtain rfl := vb.non
    exact op_isN pn st sg Hh _ _ v u Q I rx ry ⟨rfl, by rw [va.isN]; exact hh⟩
  · obtain rfl := vb.non
    exact op_notN pn st sg Hh _ _ v u Q I rx ry ⟨rfl, by rw [va.isN]; exact hh⟩
  · exact hh.elim
end
/-! ## items, slices -/
def atQ {α : Type} (xs : List α) (i : Int) (Q : α → Prop) : Prop := match atI xs i with
  | some x => Q x
  | none => False
def idxD (a k : PyData) (Q : PyData → Prop) : Prop := match a, k with
  | .list ds, .int i => atQ ds i Q
  | .tuple ds, .int i => atQ ds i Q
  | .str x, .int i => x.length ≤ sizeLine ∧ atQ x.cps.toList i fun c => Q (.str ⟨#[c]⟩)
  | _, _ => False
def rIdx (K : PySem.W.Frag) : R2 := fun x y H Q => ∃ F da db, Sub F H ∧ View K F H x da ∧ View K F H y db ∧ idxD da db fun d => ∀ z, Dn K F z d → Q z H
theorem atQ_some {α : Type} {xs : List α} {i : Int} {Q : α → Prop} (h : atQ xs i Q) : ∃ x, atI xs i = some x ∧ Q x := by
  unfold atQ at h
  split at h
  · exact ⟨_, by assumption, h⟩
  · exact h.elim
theorem DnL.atI {K : PySem.W.Frag} {F : Hp} {vs : List V} {ds : List PyData} {i : Int} {d : PyData} (l : DnL K F vs ds) (h : L2.atI ds i = some d) : ∃ v, L2.atI vs i = some v ∧ Dn K F v d := by
  unfold L2.atI at h ⊢
  rw [l.length]
  cases e : ixN ds.length i with
  | none => rw [e] at h; cases h
  | some j =>
    rw [e] at h
    exact l.get h
theorem ix_D {X : Cx} : IxR X (rIdx X.K) := by
  have all := ix_seq (X := X)
  intro ve se pn st sg Hh x y v u Q I rx ry hh plain
  obtain ⟨F, da, db, s, va, vb, hh⟩ := hh
  unfold idxD at hh
  split at hh
  · obtain ⟨a, vs, rfl, ha, la⟩ := va.list s
    obtain rfl := vb.int
    obtain ⟨d, e, q⟩ := atQ_some hh
    obtain ⟨z, ez, dz⟩ := la.atI e
    exact all ve se pn st sg Hh _ _ v u Q I rx ry (.inl ⟨a, vs, _, z, rfl, rfl, .inl ha, ez, q z dz⟩) plain
  · obtain ⟨a, vs, rfl, _, ha, la⟩ := va.tuple s
    obtain rfl := vb.int
    obtain ⟨d, e, q⟩ := atQ_some hh
    obtain ⟨z, ez, dz⟩ := la.atI e
    exact all ve se pn st sg Hh _ _ v u Q I rx ry (.inr (.inl ⟨a, vs, _, z, rfl, rfl, ha, ez, q z dz⟩)) plain
  · obtain rfl := va.str
    obtain rfl := vb.int
    obtain ⟨c, e, q⟩ := atQ_some hh.2
    exact all ve se pn st sg Hh _ _ v u Q I rx ry (.inr (.inr ⟨_, _, c, rfl, rfl, hh.1, e, q _ (.str _)⟩)) plain
  · exact hh.elim
def cutL {α : Type} (xs : List α) (lo hi : Option Int) : List α := (xs.drop (HT.sIx xs.length 0 lo)).take (HT.sIx xs.length xs.length hi - HT.sIx xs.length 0 lo)
theorem DnL.cut {K : PySem.W.Frag} {F : Hp} {vs : List V} {ds : List PyData} (l : DnL K F vs ds) (lo hi : Option Int) : DnL K F (cutV vs lo hi) (cutL ds lo hi) := by
  unfold cutV cutL
  rw [l.length]
  exact (l.drop _).take _
def slD (a : PyData) (lo hi : Option Int) (Q : O → Prop) : Prop := match a with
  | .list ds => Q (dL (cutL ds lo hi))
  | .dict [(.none, .list ds)] => Q (dL (cutL ds lo hi))
  | .tuple ds => Q (.dat (.tuple (cutL ds lo hi)))
  | .str x => x.length ≤ sizeLine ∧ Q (.dat (.str (cutS x lo hi)))
  | _ => False
def rSlD (K : PySem.W.Frag) : V → Option Int → Option Int → Hp → VK → Prop := fun x lo hi H Q => ∃ F da, Sub F H ∧ View K F H x da ∧ slD da lo hi fun o => ∀ z H', Res K F H z o H' → Q z H'
theorem View.scr {K : PySem.W.Frag} {F H : Hp} {v : V} {ds : List PyData} (s : Sub F H) (h : View K F H v (.dict [(.none, .list ds)])) : ∃ a vs, v = .ref a ∧ SqL K H a vs ∧ DnL K F vs ds := by
  generalize e : PyData.dict [(.none, .list ds)] = d at h
  have bad1 : ∀ {ks : List Key} {es : List PyData}, PyData.dict [(.none, .list ds)] ≠ .dict ((ks.map kD).zip es) := fun {ks es} z => by
    have z := PyData.dict.inj z
    cases ks with
    | nil => simp at z
    | cons k ks =>
      cases es with
      | nil => simp at z
      | cons e es =>
        rw [List.map_cons, List.zip_cons_cons] at z
        have z := (Prod.mk.inj (List.cons.inj z).1).1
        cases k <;> cases z
  have bad2 : ∀ {ks : List (List Key)} {es : List PyData}, PyData.dict [(.none, .list ds)] ≠ .dict ((ks.map kD2).zip es) := fun {ks es} z => by
    have z := PyData.dict.inj z
    cases ks with
    | nil => simp at z
    | cons k ks =>
      cases es with
      | nil => simp at z
      | cons e es =>
        rw [List.map_cons, List.zip_cons_cons] at z
        exact nomatch (Prod.mk.inj (List.cons.inj z).1).1
  cases h with
  | frz h =>
    cases h with
    | scr q l =>
      cases e
      exact ⟨_, _, rfl, s.sqL q, l⟩
    | dk _ _ _ => exact absurd e bad1
    | dt _ _ _ => exact absurd e bad2
    | _ => cases e
  | @own k _ _ ds' n h f l =>
    cases k with
    | lst => exact nomatch (show PyData.dict _ = .list ds' from e)
    | tup => exact nomatch (show PyData.dict _ = .tuple ds' from e)
    | dk ks => exact absurd (show PyData.dict _ = .dict _ from e) bad1
    | dt ks => exact absurd (show PyData.dict _ = .dict _ from e) bad2
theorem sl_D {X : Cx} : SlR X (rSlD X.K) := by
  intro pn st sg Hh x v vl vu lo hi sl Q I rx hs pl pu hh
  obtain ⟨F, da, s, va, hh⟩ := hh
  unfold slD at hh
  split at hh
  · obtain ⟨a, vs, rfl, ha, la⟩ := va.list s
    exact sl_list pn st sg Hh _ v vl vu lo hi sl Q I rx hs pl pu ⟨a, vs, rfl, .inl ha, fun p hp => hh _ _ (.new (k := .lst) hp trivial (la.cut lo hi))⟩
  · obtain ⟨a, vs, rfl, ha, la⟩ := va.scr s
    exact sl_list pn st sg Hh _ v vl vu lo hi sl Q I rx hs pl pu ⟨a, vs, rfl, ha, fun p hp => hh _ _ (.new (k := .lst) hp trivial (la.cut lo hi))⟩
  · obtain ⟨a, vs, rfl, ka, ha, la⟩ := va.tuple s
    rename_i ds
    by_cases w : HT.sIx vs.length 0 lo = 0 ∧ HT.sIx vs.length vs.length hi = vs.length
    · refine sl_tupA pn st sg Hh _ v vl vu lo hi sl Q I rx hs pl pu ⟨a, vs, rfl, ha, fun _ => hh _ _ ?_, fun n => absurd w n⟩
      have e2 : cutL ds lo hi = ds := by
        unfold cutL
        rw [← la.length, w.1, w.2, la.length]
        simp
      rw [e2]
      exact .val (.tup ka la)
    · rcases entB_or (cutL ds lo hi) with z | z
      · exact sl_tupA pn st sg Hh _ v vl vu lo hi sl Q I rx hs pl pu ⟨a, vs, rfl, ha, fun n => absurd n w, fun _ p hp => hh _ _ (.newT hp (la.cut lo hi) (Tp.new0 z))⟩
      · exact sl_tupZ pn st sg Hh _ v vl vu lo hi sl Q I rx hs pl pu ⟨a, vs, rfl, ha, w, fun p o hp hd => hh _ _ (.newT hp (la.cut lo hi) (Tp.new1 z hd))⟩
  · obtain rfl := va.str
    exact sl_str pn st sg Hh _ v vl vu lo hi sl Q I rx hs pl pu ⟨_, rfl, hh.1, hh.2 _ _ (.val (.str _))⟩
  · exact hh.elim
/-! ## built-in functions of data -/
def boolsD : List PyData → Option (List Bool)
  | [] => some []
  | .bool b :: ds => match boolsD ds with
    | some bs => some (b :: bs)
    | none => none
  | _ :: _ => none
def intsD : List PyData → Option (List Int)
  | [] => some []
  | .int b :: ds => match intsD ds with
    | some bs => some (b :: bs)
    | none => none
  | _ :: _ => none
def strsD : List PyData → Option (List Str)
  | [] => some []
  | .str b :: ds => match strsD ds with
    | some bs => some (b :: bs)
    | none => none
  | _ :: _ => none
def optQ {α : Type} (o : Option α) (Q : α → Prop) : Prop := match o with
  | some x => Q x
  | none => False
theorem optQ_some {α : Type} {o : Option α} {Q : α → Prop} (h : optQ o Q) : ∃ x, o = some x ∧ Q x := by
  cases o with
  | none => exact h.elim
  | some x => exact ⟨x, rfl, h⟩
/-! ### a datum as it lies in the heap -/
mutual
/-- no script's box in it -/
def okD : PyData → Bool
  | .list ds => okDL ds
  | .tuple ds => okDL ds
  | .dict kvs => okDP kvs
  | _ => true
def okDL : List PyData → Bool
  | [] => true
  | d :: ds => okD d && okDL ds
def okDP : List (PyData × PyData) → Bool
  | [] => true
  | (k, v) :: r => !isNone k && (okD v && okDP r)
end
theorem okDP_zip : ∀ {ks ds : List PyData}, ks.length = ds.length → okDP (ks.zip ds) = true → okDL ds = true
  | [], [], _, _ => rfl
  | k :: ks, d :: ds, h, e => by
    have e : (!isNone k && (okD d && okDP (ks.zip ds))) = true := e
    have e1 := (Bool.and_eq_true_iff.mp (Bool.and_eq_true_iff.mp e).2)
    show (okD d && okDL ds) = true
    rw [e1.1, okDP_zip (by simpa using h) e1.2]
    rfl
  | [], _ :: _, h, _ => by simp at h
  | _ :: _, [], h, _ => by simp at h
/-- the table of modules is a dict -/
def SysD (h : Heap) : Prop := ∃ o es ep, h.get? sysModules = some o ∧ o.data = .dict es ep
theorem SysD.keeps {h h' : Heap} (x : SysD h) (k : ∀ b o, h.get? b = some o → h'.get? b = some o) : SysD h' := let ⟨o, es, ep, e, d⟩ := x; ⟨o, es, ep, k _ _ e, d⟩
theorem SysD.of_ns {h : Heap} {m : Str → Option Value} (x : h.Ns sysModules m) : SysD h := let ⟨o, es, ep, e, d, _⟩ := x; ⟨o, es, ep, e, d⟩
theorem SysD.ne {h : Heap} (x : SysD h) {a : Addr} {o : Obj} {us : Array Value} {n : Nat} (e : h.get? a = some o) (d : o.data = .seq us n) : sysModules ≠ a := fun z => by
  obtain ⟨o', es, ep, e', d'⟩ := x
  rw [z, e] at e'
  cases e'
  rw [d] at d'
  cases d'
theorem readsKey {h : Heap} {k : Key} {u : Value} (x : keyIs k u = true) : Reads h u (kD k) [] := by
  rcases keyIs_shape x with ⟨i, t, rfl, rfl⟩ | ⟨y, t, rfl, rfl⟩
  · exact .int i t
  · exact .str y t
theorem readsKeys {P : Program} {w : World} {h : Heap} : ∀ {ks : List Key} {us : List Value}, PySem.ItemsAre (mixKind P w) ks us → ReadsAll h us (ks.map kD) []
  | _, _, .nil => .nil
  | _, _, .cons a l => .cons (as := []) (readsKey a) (readsKeys l)
theorem readsDK {P : Program} {w : World} {h : Heap} : ∀ {ks : List Key} {vs : List V} {es : List DictEntry} {ws : List (Key × Value)}, ks.length = vs.length → KV (ks.zip vs) ws → Pairs (mixKind P w) es ws → ReadsAll h (es.map (·.key)) (ks.map kD) [] ∧ Vals vs (es.map (·.val))
  | [], [], _, _, _, r, p => by
    cases r
    cases p
    exact ⟨.nil, .nil⟩
  | k :: ks, v :: vs, _, _, e, r, p => by
    cases r with
    | cons h1 t =>
      cases p with
      | cons hk hv q =>
        obtain ⟨a, b⟩ := readsDK (h := h) (by simpa using e) t q
        refine ⟨.cons (as := []) (readsKey ?_) a, .cons ?_ b⟩
        · show keyIs k _ = true
          rw [show k = _ from h1.1]
          exact hk
        · have z := h1.2
          rw [← hv] at z
          exact z
  | [], _ :: _, _, _, e, _, _ => by simp at e
  | _ :: _, [], _, _, e, _, _ => by simp at e
theorem readsDT {P : Program} {w : World} {h : Heap} {H : Hp} : ∀ {ks : List (List Key)} {vs : List V} {ws : List (List Key × Addr × Value)}, ks.length = vs.length → L2.KT H (ks.zip vs) ws → (∀ x ∈ ws, (tupleKind (mixKind P w)).is h x.1 x.2.1) →
    ReadsAll h ((ws.map (entryOfKey (tupleKind (mixKind P w)))).map (·.key)) (ks.map kD2) [] ∧ Vals vs ((ws.map (entryOfKey (tupleKind (mixKind P w)))).map (·.val))
  | [], [], _, _, r, _ => by
    cases r
    exact ⟨.nil, .nil⟩
  | k :: ks, v :: vs, _, e, r, p => by
    cases r with
    | cons h1 t =>
      obtain ⟨a, b⟩ := readsDT (h := h) (by simpa using e) t fun x hx => p x (List.mem_cons_of_mem _ hx)
      obtain ⟨o, items, n, g1, g2, g3, g4⟩ := p _ List.mem_cons_self
      refine ⟨.cons (as := []) ?_ a, .cons h1.2.2 b⟩
      rw [← h1.1] at g4
      exact .tuple g1 g2 g3 (readsKeys g4)
  | [], _ :: _, _, e, _, _ => by simp at e
  | _ :: _, [], _, e, _, _ => by simp at e
theorem zip_pr {α β : Type} : ∀ {ks : List α} {ds : List β}, ks.length = ds.length → (ks.zip ds).map (·.1) = ks ∧ (ks.zip ds).map (·.2) = ds := fun {ks ds} h => ⟨List.map_fst_zip (by omega), List.map_snd_zip (by omega)⟩
mutual
theorem Dn.rds {P : Program} {w : World} {K : PySem.W.Frag} {H : Hp} {h : Heap} (ok : HOk P w H h) (sm : SysD h) : ∀ {v : V} {d : PyData}, Dn K H v d → okD d = true → ∀ {u : Value}, RelV v u → ∃ as, Reads h u d as ∧ sysModules ∉ as
  | _, _, .non, _, _, r => by
    cases r
    exact ⟨[], .none, by simp⟩
  | _, _, .bl b, _, _, r => by
    cases r
    exact ⟨[], .bool b, by simp⟩
  | _, _, .int i, _, _, r => by
    obtain ⟨t, rfl⟩ := r
    exact ⟨[], .int i t, by simp⟩
  | _, _, .str x, _, _, r => by
    obtain ⟨t, rfl⟩ := r
    exact ⟨[], .str x t, by simp⟩
  | _, _, .lst (a := a) e l, q, _, r => by
    cases r
    obtain ⟨_, us, n, rv, g⟩ := (show ObjOk P w H h a (.lst _) from ok _ _ e)
    obtain ⟨as, ra, na⟩ := DnL.rds ok sm l q rv
    refine ⟨a :: as, .list g rfl rfl ra, fun z => ?_⟩
    rcases List.mem_cons.mp z with z | z
    · exact sm.ne g rfl z
    · exact na z
  | _, _, .scr e l, q, _, r => nomatch q
  | _, _, .tup (a := a) e l, q, _, r => by
    cases r
    obtain ⟨_, us, rv, o, g1, g2, n, g3⟩ := (show ObjOk P w H h a (.tup _) from e.rd.ok ok)
    obtain ⟨as, ra, na⟩ := DnL.rds ok sm l q rv
    exact ⟨as, .tuple g1 g2 g3 ra, na⟩
  | _, _, .dk (a := a) (ks := ks) (vs := vs) (ds := ds) e le l, q, _, r => by
    cases r
    obtain ⟨_, ns, ws, kv, o, es, ep, g1, g2, g3, _, g4, _⟩ := dk_of ok e
    have ld := l.length
    obtain ⟨ra, rv⟩ := readsDK (h := h) le kv g4
    obtain ⟨bs, rb, nb⟩ := DnL.rds ok sm l (okDP_zip (by simp; omega) q) rv
    obtain ⟨z1, z2⟩ := zip_pr (ks := ks.map kD) (ds := ds) (by simp; omega)
    refine ⟨a :: [] ++ bs, .dict g1 g2.1 g3 (by rw [z1]; exact ra) (by rw [z2]; exact rb), fun z => ?_⟩
    rcases List.mem_cons.mp z with z | z
    · rw [← z] at ns
      simp at ns
    · exact nb z
  | _, _, .dt (a := a) (ks := ks) (vs := vs) (ds := ds) e le l, q, _, r => by
    cases r
    obtain ⟨_, ns, ws, kt, o, es, ep, g1, g2, g3, g4, g5, _⟩ := dt_of ok e
    have ld := l.length
    obtain ⟨ra, rv⟩ := readsDT (h := h) le kt g5
    rw [← g4] at ra rv
    obtain ⟨bs, rb, nb⟩ := DnL.rds ok sm l (okDP_zip (by simp; omega) q) rv
    obtain ⟨z1, z2⟩ := zip_pr (ks := ks.map kD2) (ds := ds) (by simp; omega)
    refine ⟨a :: [] ++ bs, .dict g1 g2.1 g3 (by rw [z1]; exact ra) (by rw [z2]; exact rb), fun z => ?_⟩
    rcases List.mem_cons.mp z with z | z
    · rw [← z] at ns
      simp at ns
    · exact nb z
theorem DnL.rds {P : Program} {w : World} {K : PySem.W.Frag} {H : Hp} {h : Heap} (ok : HOk P w H h) (sm : SysD h) : ∀ {vs : List V} {ds : List PyData}, DnL K H vs ds → okDL ds = true → ∀ {us : List Value}, Vals vs us → ∃ as, ReadsAll h us ds as ∧ sysModules ∉ as
  | _, _, .nil, _, _, r => by
    cases r
    exact ⟨[], .nil, by simp⟩
  | _, _, .cons a l, q, _, r => by
    cases r with
    | cons r1 r2 =>
      have q := Bool.and_eq_true_iff.mp (show (_ && _) = true from q)
      obtain ⟨as, x1, n1⟩ := Dn.rds ok sm a q.1 r1
      obtain ⟨bs, x2, n2⟩ := DnL.rds ok sm l q.2 r2
      refine ⟨as ++ bs, .cons x1 x2, fun z => ?_⟩
      rcases List.mem_append.mp z with z | z
      · exact n1 z
      · exact n2 z
end
/-- what repr asks of a datum -/
def reprOk (d : PyData) : Prop := okD d = true ∧ d.showable = true ∧ d.depth ≤ 60 ∧ d.shown.length ≤ sizeLine
def bltD (f : BF) (args : List PyData) (Q : O → Prop) : Prop := match f, args with
  | .len, [.list ds] => Q (.dat (.int ds.length))
  | .len, [.tuple ds] => Q (.dat (.int ds.length))
  | .len, [.str x] => x.length ≤ sizeLine ∧ Q (.dat (.int x.length))
  | .repr_, [d] => reprOk d ∧ Q (.dat (.str d.shown))
  | .list_, [.list ds] => Q (dL ds)
  | .list_, [.tuple ds] => Q (dL ds)
  | .tuple_, [.list ds] => Q (.dat (.tuple ds))
  | .tuple_, [.tuple ds] => Q (.dat (.tuple ds))
  | .abs_, [.int i] => Q (.dat (.int (if i < 0 then -i else i)))
  | .int_, [.int i] => Q (.dat (.int i))
  | .int_, [.bool b] => Q (.dat (.int (if b then 1 else 0)))
  | .min_, [.int i, .int j] => Q (.dat (.int (if j < i then j else i)))
  | .max_, [.int i, .int j] => Q (.dat (.int (if j > i then j else i)))
  | .str_, [.int i] => i.natAbs.log2 < 1920 ∧ Q (.dat (.str (toString i)))
  | .all_, [.list ds] => optQ (boolsD ds) fun bs => Q (.dat (.bool (bs.all id)))
  | .any_, [.list ds] => optQ (boolsD ds) fun bs => Q (.dat (.bool (bs.any id)))
  | .sum_, [.list ds] => optQ (intsD ds) fun bs => Q (.dat (.int bs.sum))
  | _, _ => False
inductive ViewL (K : PySem.W.Frag) (F H : Hp) : List V → List PyData → Prop
  | nil : ViewL K F H [] []
  | cons {v : V} {vs : List V} {d : PyData} {ds : List PyData} : View K F H v d → ViewL K F H vs ds → ViewL K F H (v :: vs) (d :: ds)
def rBlt (K : PySem.W.Frag) (f : BF) : List V → Hp → VK → Prop := fun xs H Q => ∃ F das, Sub F H ∧ ViewL K F H xs das ∧ bltD f das fun o => ∀ z H', Res K F H z o H' → Q z H'
theorem DnL.bools {K : PySem.W.Frag} {F : Hp} : ∀ {vs : List V} {ds : List PyData} {bs : List Bool}, DnL K F vs ds → boolsD ds = some bs → vs = bs.map V.bl
  | _, _, _, .nil, e => by cases e; rfl
  | _, _, _, .cons (d := d) (ds := ds) h l, e => by
    cases d with
    | bool b =>
      unfold boolsD at e
      cases e2 : boolsD ds with
      | none => rw [e2] at e; cases e
      | some bs' => rw [e2] at e; cases e; cases h; rw [DnL.bools l e2]; rfl
    | _ => cases e
theorem DnL.ints {K : PySem.W.Frag} {F : Hp} : ∀ {vs : List V} {ds : List PyData} {bs : List Int}, DnL K F vs ds → intsD ds = some bs → vs = bs.map V.int
  | _, _, _, .nil, e => by cases e; rfl
  | _, _, _, .cons (d := d) (ds := ds) h l, e => by
    cases d with
    | int b =>
      unfold intsD at e
      cases e2 : intsD ds with
      | none => rw [e2] at e; cases e
      | some bs' => rw [e2] at e; cases e; cases h; rw [DnL.ints l e2]; rfl
    | _ => cases e
theorem DnL.strs {K : PySem.W.Frag} {F : Hp} : ∀ {vs : List V} {ds : List PyData} {bs : List Str}, DnL K F vs ds → strsD ds = some bs → vs = bs.map V.str
  | _, _, _, .nil, e => by cases e; rfl
  | _, _, _, .cons (d := d) (ds := ds) h l, e => by
    cases d with
    | str b =>
      unfold strsD at e
      cases e2 : strsD ds with
      | none => rw [e2] at e; cases e
      | some bs' => rw [e2] at e; cases e; cases h; rw [DnL.strs l e2]; rfl
    | _ => cases e
theorem noDict_hsm' {d : PyData} {as : List Addr} (h : d.canLay0 = true) : d.hasDict = true → sysModules ∉ as := PyData.noDict_hsm (PyData.hasDict_of_canLay d h)
section
variable {X : Cx}
theorem repr_D (hu : X.A.units + 65 < cLine) (hg : X.A.guards = some []) (sm : SysD X.base) {pn : List (Addr × Obj)} {st : Shared} {sg : L2.St} {Hh : Hp} {v : V} {u : Value} {d : PyData} {Q : VK} (I : Inv X pn sg Hh st) (r : RelV v u) (hd : Dn X.K Hh v d) (ok : reprOk d)
    (q : Q (.str d.shown) Hh) : wpAny (model X.prog X.w) X.A (call (.builtin "repr") [u]) (EP X pn sg Q) X.xe st := by
  obtain ⟨o1, o2, o3, o4⟩ := ok
  have sm' : SysD st.heap := sm.keeps fun b o e => (I.bs b o e).1
  obtain ⟨as, rd, na⟩ := hd.rds I.hok sm' o1 r
  have box : ∀ {a : Addr}, u = .ref a → wpAny (model X.prog X.w) X.A (call (.builtin "repr") [u]) (EP X pn sg Q) X.xe st := fun {a} e => by
    subst e
    exact repr_of_reads' rd o2 (fun _ => na) hg (by omega) (fun _ _ e => e) (fun h' u' tk k => ⟨.str _, Hh, I.kept k, ⟨_, rfl⟩, q⟩) o4
  cases hd with
  | non =>
    cases r
    exact PySem.P.repr_of_none ⟨.str _, Hh, I.tok _, ⟨_, rfl⟩, q⟩
  | bl b =>
    cases r
    exact PySem.P.repr_of_bool ⟨.str _, Hh, I.tok _, ⟨_, rfl⟩, q⟩
  | int i =>
    obtain ⟨t, rfl⟩ := r
    exact PySem.P.repr_of_int (by simpa [PyData.showable] using o2) ⟨.str _, Hh, I.tok _, ⟨_, rfl⟩, q⟩
  | str x =>
    obtain ⟨t, rfl⟩ := r
    exact PySem.P.repr_of_str ⟨.str _, Hh, I.tok _, ⟨_, rfl⟩, q⟩ o4
  | _ => exact box r
theorem vl1 {K : PySem.W.Frag} {F H : Hp} {vs : List V} {d : PyData} (h : ViewL K F H vs [d]) : ∃ v, vs = [v] ∧ View K F H v d := by
  cases h with
  | cons a l => cases l; exact ⟨_, rfl, a⟩
theorem vl2 {K : PySem.W.Frag} {F H : Hp} {vs : List V} {d e : PyData} (h : ViewL K F H vs [d, e]) : ∃ v w, vs = [v, w] ∧ View K F H v d ∧ View K F H w e := by
  cases h with
  | cons a l => cases l with
    | cons b l => cases l; exact ⟨_, _, rfl, a, b⟩
theorem call_all_or {f : Value} {r r' : List V → Hp → VK → Prop} (h : CallR X f r) (h' : ∀ xs H Q, r' xs H Q → r xs H Q) : CallR X f r' := fun pn st sg H xs us Q I rs q => h pn st sg H xs us Q I rs (h' _ _ _ q)
theorem blt_D (hc : X.calm = true) (hu : X.A.units + 65 < cLine) (hg : X.A.guards = some []) (sm : SysD X.base) {f : BF} : CallR X f.val (rBlt X.K f) := by
  intro pn st sg Hh xs us Q I rs hh
  obtain ⟨F, das, s, vL, hh⟩ := hh
  unfold bltD at hh
  split at hh
  · obtain ⟨v, rfl, va⟩ := vl1 vL
    obtain ⟨a, vs, rfl, ha, la⟩ := va.list s
    exact call_len_seq pn st sg Hh _ us Q I rs ⟨a, vs, rfl, .inl (.inl ha), by rw [la.length]; exact hh _ _ (.val (.int _))⟩
  · obtain ⟨v, rfl, va⟩ := vl1 vL
    obtain ⟨a, vs, rfl, _, ha, la⟩ := va.tuple s
    exact call_len_seq pn st sg Hh _ us Q I rs ⟨a, vs, rfl, .inr (ha), by rw [la.length]; exact hh _ _ (.val (.int _))⟩
  · obtain ⟨v, rfl, va⟩ := vl1 vL
    obtain rfl := va.str
    exact call_len_str pn st sg Hh _ us Q I rs ⟨_, rfl, hh.1, hh.2 _ _ (.val (.int _))⟩
  · obtain ⟨v, rfl, va⟩ := vl1 vL
    cases rs with
    | cons r1 rs =>
      cases rs
      exact repr_D hu hg sm I r1 (va.dn s) hh.1 (hh.2 _ _ (.val (.str _)))
  · obtain ⟨v, rfl, va⟩ := vl1 vL
    obtain ⟨a, vs, rfl, ha, la⟩ := va.list s
    exact call_list_of pn st sg Hh _ us Q I rs ⟨a, vs, rfl, .inl (.inl ha), fun p hp => hh _ _ (.new (k := .lst) hp trivial la)⟩
  · obtain ⟨v, rfl, va⟩ := vl1 vL
    obtain ⟨a, vs, rfl, _, ha, la⟩ := va.tuple s
    exact call_list_of pn st sg Hh _ us Q I rs ⟨a, vs, rfl, .inr ha, fun p hp => hh _ _ (.new (k := .lst) hp trivial la)⟩
  · obtain ⟨v, rfl, va⟩ := vl1 vL
    obtain ⟨a, vs, rfl, ha, la⟩ := va.list s
    rename_i ds
    rcases entB_or ds with z | z
    · exact call_tuple_of pn st sg Hh _ us Q I rs ⟨a, vs, rfl, .inl ⟨.inl ha, fun p hp => hh _ _ (.newT hp la (Tp.new0 z))⟩⟩
    · exact call_tupleZ pn st sg Hh _ us Q I rs ⟨a, vs, rfl, .inl ha, fun p o hp hd => hh _ _ (.newT hp la (Tp.new1 z hd))⟩
  · obtain ⟨v, rfl, va⟩ := vl1 vL
    obtain ⟨a, vs, rfl, ka, ha, la⟩ := va.tuple s
    exact call_tuple_of pn st sg Hh _ us Q I rs ⟨a, vs, rfl, .inr ⟨ha, hh _ _ (.val (.tup ka la))⟩⟩
  · obtain ⟨v, rfl, va⟩ := vl1 vL
    obtain rfl := va.int
    exact call_abs pn st sg Hh _ us Q I rs ⟨_, rfl, hh _ _ (.val (.int _))⟩
  · obtain ⟨v, rfl, va⟩ := vl1 vL
    obtain rfl := va.int
    exact call_int1 pn st sg Hh _ us Q I rs (.inl ⟨_, rfl, hh _ _ (.val (.int _))⟩)
  · obtain ⟨v, rfl, va⟩ := vl1 vL
    obtain rfl := va.bl
    exact call_int1 pn st sg Hh _ us Q I rs (.inr ⟨_, rfl, hh _ _ (.val (.int _))⟩)
  · obtain ⟨v, w, rfl, va, vb⟩ := vl2 vL
    obtain rfl := va.int
    obtain rfl := vb.int
    exact call_min2 hc pn st sg Hh _ us Q I rs ⟨_, _, rfl, hh _ _ (.val (.int _))⟩
  · obtain ⟨v, w, rfl, va, vb⟩ := vl2 vL
    obtain rfl := va.int
    obtain rfl := vb.int
    exact call_max2 hc pn st sg Hh _ us Q I rs ⟨_, _, rfl, hh _ _ (.val (.int _))⟩
  · obtain ⟨v, rfl, va⟩ := vl1 vL
    obtain rfl := va.int
    exact call_str_int pn st sg Hh _ us Q I rs ⟨_, rfl, hh.1, hh.2 _ _ (.val (.str _))⟩
  · obtain ⟨v, rfl, va⟩ := vl1 vL
    obtain ⟨a, vs, rfl, ha, la⟩ := va.list s
    obtain ⟨bs, e, q⟩ := optQ_some hh
    have e2 := la.bools e
    subst e2
    exact cr_all hc pn st sg Hh _ us Q I rs ⟨a, bs, rfl, .inl ha, q _ _ (.val (.bl _))⟩
  · obtain ⟨v, rfl, va⟩ := vl1 vL
    obtain ⟨a, vs, rfl, ha, la⟩ := va.list s
    obtain ⟨bs, e, q⟩ := optQ_some hh
    have e2 := la.bools e
    subst e2
    exact cr_any hc pn st sg Hh _ us Q I rs ⟨a, bs, rfl, .inl ha, q _ _ (.val (.bl _))⟩
  · obtain ⟨v, rfl, va⟩ := vl1 vL
    obtain ⟨a, vs, rfl, ha, la⟩ := va.list s
    obtain ⟨bs, e, q⟩ := optQ_some hh
    have e2 := la.ints e
    subst e2
    exact cr_sum hc pn st sg Hh _ us Q I rs ⟨a, bs, rfl, .inl ha, q _ _ (.val (.int _))⟩
  · exact hh.elim
end
/-! ## methods of data -/
def mthD (m : MF) (a : PyData) (args : List PyData) (Q : O → Prop) : Prop := match m, a, args with
  | .join, .str x, [.list ds] => optQ (strsD ds) fun ys => (ys.map (·.length)).sum + ys.length * x.length ≤ 16777216 ∧ Q (.dat (.str (Txt.join x ys)))
  | .join, .str x, [.tuple ds] => optQ (strsD ds) fun ys => (ys.map (·.length)).sum + ys.length * x.length ≤ 16777216 ∧ Q (.dat (.str (Txt.join x ys)))
  | _, _, _ => False
/-! ## truth -/
def truD (d : PyData) (Q : Bool → Prop) : Prop := match d with
  | .none => Q false
  | .bool b => Q b
  | .int i => Q (i != 0)
  | .str x => x.length ≤ sizeLine ∧ Q ((x.length : Int) != 0)
  | .list ds => Q (!ds.isEmpty)
  | .tuple ds => Q (!ds.isEmpty)
  | _ => False
theorem DnL.isEmpty {K : PySem.W.Frag} {F : Hp} {vs : List V} {ds : List PyData} (l : DnL K F vs ds) : (!vs.isEmpty) = !ds.isEmpty := by
  cases l <;> rfl
theorem tru_D {X : Cx} : TruR X (fun x H Q => ∃ F d, Sub F H ∧ View X.K F H x d ∧ truD d fun b => Q b H) := by
  intro pn st sg Hh x v Q I rx hh
  obtain ⟨F, d, s, va, hh⟩ := hh
  unfold truD at hh
  split at hh
  · obtain rfl := va.non
    exact tru_ok pn st sg Hh _ v Q I rx ⟨false, rfl, hh⟩
  · obtain rfl := va.bl
    exact tru_ok pn st sg Hh _ v Q I rx ⟨_, rfl, hh⟩
  · obtain rfl := va.int
    exact tru_ok pn st sg Hh _ v Q I rx ⟨_, rfl, hh⟩
  · obtain rfl := va.str
    exact tru_ok pn st sg Hh _ v Q I rx ⟨_, ⟨hh.1, rfl⟩, hh.2⟩
  · obtain ⟨a, vs, rfl, ha, la⟩ := va.list s
    exact tru_ok pn st sg Hh _ v Q I rx ⟨_, .inl ⟨vs, .inl ha, rfl⟩, by rw [la.isEmpty]; exact hh⟩
  · obtain ⟨a, vs, rfl, _, ha, la⟩ := va.tuple s
    exact tru_ok pn st sg Hh _ v Q I rx ⟨_, .inr (.inl ⟨vs, ha, rfl⟩), by rw [la.isEmpty]; exact hh⟩
  · exact hh.elim
end VS

namespace VS
open PySem PySem.Spec PyProof.Rows L2
/-! ## what a def promises; the module's constants -/
structure FS where
  io : List Bool
  pre : List O → Prop
  post : List O → O → List O → Prop
structure Gm where
  fn : Str → Option FS
  con : Str → Option PyData
def tupO (os : List O) : O := match datL os with
  | some ds => .dat (.tuple ds)
  | none => .nd .tup os
def stab (r : R) (b : Bool) : Prop := shallow r = true ∨ b = true
/-- a value's truth, its view, by name -/
def vwQ (r : R) (ρ : Env) (Q : PyData → Prop) : Prop := optQ (vw r ρ) Q
def vwsQ (ρ : Env) : List R → (List PyData → Prop) → Prop
  | [], Q => Q []
  | r :: rs, Q => vwQ r ρ fun d => vwsQ ρ rs fun ds => Q (d :: ds)
def keyPos {κ : Type} [DecidableEq κ] (k : κ) : List κ → Option Nat
  | [] => none
  | x :: xs => if x = k then some 0 else match keyPos k xs with
    | some n => some (n + 1)
    | none => none
def keyT : PyData → Option (List Key)
  | .tuple ds => if ds.isEmpty = true then none else keysD ds
  | _ => none
/-- the child that an index or a key means -/
def kidx (k : NK) (n : Nat) (d : PyData) : Option Nat := match k with
  | .lst => match d with
    | .int i => ixN n i
    | _ => none
  | .tup => match d with
    | .int i => ixN n i
    | _ => none
  | .dk ks => match keyD d with
    | some k => keyPos k ks
    | none => none
  | .dt ks => match keyT d with
    | some k => keyPos k ks
    | none => none
def idxO (o : O) (i : Nat) (p : List Nat) (k : PyData) (Q : R → Prop) : Prop := match o with
  | .nd kd os => optQ (kidx kd os.length k) fun n => optQ os[n]? fun c => match c with
    | .dat d => Q (.own (.dat d))
    | .nd _ _ => Q (.pl i (p ++ [n]))
    | .un => False
  | .dat d => idxD d k fun d => Q (.own (.dat d))
  | .un => False
def idxR (r : R) (k : PyData) (ρ : Env) (Q : R → Prop) : Prop := match r with
  | .own (.dat d) => idxD d k fun d => Q (.own (.dat d))
  | .pl i p => optQ (getS ρ i p) fun o => idxO o i p k Q
  | _ => False
/-- o[k] = z -/
def putO (o : O) (k : PyData) (z : O) (Q : O → Prop) : Prop := match o with
  | .nd .lst os => match k with
    | .int i => optQ (ixN os.length i) fun n => Q (.nd .lst (os.set n z))
    | _ => False
  | .nd (.dk ks) os => optQ (keyD k) fun k => match keyPos k ks with
    | some n => ks.length < sizeLine ∧ Q (.nd (.dk ks) (os.set n z))
    | none => ks.length < sizeLine ∧ Q (.nd (.dk (ks ++ [k])) (os ++ [z]))
  | .nd (.dt ks) os => optQ (keyT k) fun k => match keyPos k ks with
    | some n => ks.length < sizeLine ∧ Q (.nd (.dt ks) (os.set n z))
    | none => ks.length < sizeLine ∧ Q (.nd (.dt (ks ++ [k])) (os ++ [z]))
  | _ => False
/-- the object's own methods: what comes back, what it is then -/
def mmtO (m : WF) (o : O) (args : List O) (Q : O → O → Prop) : Prop := match m, o, args with
  | .append, .nd .lst os, [z] => os.length < sizeLine ∧ Q (.dat .none) (.nd .lst (os ++ [z]))
  | .pop, .nd .lst os, [] => optQ os[os.length - 1]? fun z => Q z (.nd .lst os.dropLast)
  | .pop, .nd .lst os, [.dat (.int i)] => -(2 ^ 63) ≤ i ∧ i < 2 ^ 63 ∧ optQ (ixN os.length i) fun n => optQ os[n]? fun z => Q z (.nd .lst (os.eraseIdx n))
  | .extend, .nd .lst os, [.dat (.list ds)] => os.length + ds.length ≤ sizeLine ∧ Q (.dat .none) (.nd .lst (os ++ ds.map O.dat))
  | .extend, .nd .lst os, [.nd .lst ps] => os.length + ps.length ≤ sizeLine ∧ optQ (datL ps) fun ds => Q (.dat .none) (.nd .lst (os ++ ds.map O.dat))
  | _, _, _ => False
def bindT : CT → O → Env → (Env → Prop) → Prop
  | .nm i, o, ρ, Q => i < ρ.length ∧ Q (ρ.set i o)
  | .tp ts, .dat (.tuple ds), ρ, Q => bindTs ts ds ρ Q
  | _, _, _, _ => False
where bindTs : List CT → List PyData → Env → (Env → Prop) → Prop
  | [], [], ρ, Q => Q ρ
  | t :: ts, d :: ds, ρ, Q => bindT t (.dat d) ρ fun ρ => bindTs ts ds ρ Q
  | _, _, _, _ => False
def wipeO (ρ : Env) : List Nat → Env
  | [] => ρ
  | v :: vs => (wipeO ρ vs).set v .un
def backO (ρ ρ₀ : Env) : List Nat → Env
  | [] => ρ
  | v :: vs => match ρ₀[v]? with
    | some o => (backO ρ ρ₀ vs).set v o
    | none => backO ρ ρ₀ vs
/-- what a loop walks: its items, and what must stand meanwhile -/
def srcQ (r : R) (ρ : Env) (Q : List PyData → (Env → Prop) → Env → Prop) : Prop := match r with
  | .it ds => Q ds (fun _ => True) ρ
  | .iv i ds => Q ds (fun ρ => ρ[i]? = some (dL ds)) ρ
  | r => asD r ρ fun d ρ => match d with
    | .list ds => Q ds (fun _ => True) ρ
    | .tuple ds => Q ds (fun _ => True) ρ
    | .str x => Q (x.cps.toList.map fun c => .str ⟨#[c]⟩) (fun _ => True) ρ
    | _ => False
def loopC (chk : Env → Prop) (stp : PyData → Env → (Option O → Env → Prop) → Prop) : List PyData → Env → List O → (List O → Env → Prop) → Prop
  | [], ρ, acc, K => chk ρ ∧ K acc ρ
  | d :: ds, ρ, acc, K => chk ρ ∧ stp d ρ fun r ρ => match r with
    | some o => acc.length < sizeLine ∧ loopC chk stp ds ρ (acc ++ [o]) K
    | none => loopC chk stp ds ρ acc K
def loopS (chk : Env → Prop) (stp : PyData → Env → (Env → Prop) → Prop) : List PyData → Env → (Env → Prop) → Prop
  | [], ρ, K => chk ρ ∧ K ρ
  | d :: ds, ρ, K => chk ρ ∧ stp d ρ fun ρ => loopS chk stp ds ρ K
def rangeD (lo hi : Int) : List PyData := (List.range (hi - lo).toNat).map fun (k : Nat) => PyData.int (lo + (k : Int))
def rngQ (ds : List PyData) (Q : List PyData → Prop) : Prop := match ds with
  | [.int j] => -(2 ^ 62) ≤ j ∧ j < 2 ^ 62 ∧ Q (rangeD 0 j)
  | [.int i, .int j] => -(2 ^ 62) ≤ i ∧ i < 2 ^ 62 ∧ -(2 ^ 62) ≤ j ∧ j < 2 ^ 62 ∧ Q (rangeD i j)
  | _ => False
def enuD (ds : List PyData) : List PyData := ds.mapIdx fun i d => .tuple [.int i, d]
def revD (d : PyData) (Q : O → Prop) : Prop := match d with
  | .list ds => Q (dL ds.reverse)
  | _ => False
def keysT : List PyData → Option (List (List Key))
  | [] => some []
  | d :: ds => match keyT d, keysT ds with
    | some k, some ks => some (k :: ks)
    | _, _ => none
/-- a display whose keys are tuples, from the left -/
def putT (acc : List (List Key × PyData)) (k : List Key) (d : PyData) : List (List Key × PyData) :=
  if (acc.any fun kv => decide (kv.1 = k)) = true then acc.map (fun kv => if kv.1 = k then (kv.1, d) else kv) else acc ++ [(k, d)]
def mergeT (acc more : List (List Key × PyData)) : List (List Key × PyData) := more.foldl (fun acc kv => putT acc kv.1 kv.2) acc
def dictT (kvs : List (List Key × PyData)) : O := .nd (.dt ((mergeT [] kvs).map (·.1))) ((mergeT [] kvs).map fun kv => .dat kv.2)
def zipD (ds es : List PyData) : List PyData := List.zipWith (fun d e => .tuple [d, e]) ds es
/-- pairs of a text and a value -/
def pairsD : List PyData → Option (List Key × List PyData)
  | [] => some ([], [])
  | .tuple [.str k, d] :: r => match pairsD r with
    | some kv => some (.inr k :: kv.1, d :: kv.2)
    | none => none
  | _ :: _ => none
/-- d.update(other), no key twice -/
def updO (o e : O) (Q : O → Prop) : Prop := match o, e with
  | .nd (.dk ks) os, .nd (.dk ls) ps => ks.length + ls.length ≤ sizeLine ∧ (∀ k, k ∈ ls → k ∉ ks) ∧ ls.Nodup ∧ Q (.nd (.dk (ks ++ ls)) (os ++ ps))
  | _, _ => False
def rcvU (ρ : Env) (i : Nat) (p : List Nat) : Prop := match getS ρ i p with
  | some (.nd (.dk _) _) => True
  | _ => False
def rangeDn (hi lo : Int) : List PyData := (List.range (hi - lo).toNat).map fun (k : Nat) => PyData.int (hi - (k : Int))
/-- the kind of a dict that is data -/
def kdOf (kvs : List (PyData × PyData)) : Option NK := if kvs.isEmpty = true then none else match keysD (kvs.map (·.1)) with
  | some ks => some (.dk ks)
  | none => match keysT (kvs.map (·.1)) with
    | some ks => some (.dt ks)
    | none => none
def dcvO (o : O) (Q : NK → List O → Prop) : Prop := match o with
  | .nd (.dk ks) os => Q (.dk ks) os
  | .nd (.dt ks) os => Q (.dt ks) os
  | .dat (.dict kvs) => optQ (kdOf kvs) fun kd => Q kd ((kvs.map (·.2)).map O.dat)
  | _ => False
def dcvR (r : R) (ρ : Env) (Q : NK → List O → Prop) : Prop := match r with
  | .own (.dat d) => dcvO (.dat d) Q
  | .pl i p => optQ (getS ρ i p) fun o => dcvO o Q
  | _ => False
/-- where a key stands: none, it may not be asked -/
def dgetK (kd : NK) (k : PyData) : Option (Option Nat) := match kd with
  | .dk ks => match keyD k with
    | some key => some (keyPos key ks)
    | none => match k with
      | .none => some none
      | _ => none
  | .dt ks => match keyT k with
    | some key => some (keyPos key ks)
    | none => none
  | _ => none
def dgetQ (kd : NK) (os : List O) (k dd : PyData) (Q : PyData → Prop) : Prop := optQ (dgetK kd k) fun n => match n with
  | none => Q dd
  | some n => optQ os[n]? fun c => match c with
    | .dat d => Q d
    | _ => False
/-- a field of a text with fields -/
def fmtD (d : PyData) (Q : Str → Prop) : Prop := match d with
  | .str y => y.length ≤ sizeLine ∧ Q y
  | .int i => i.natAbs.log2 < 1920 ∧ Q (toString i)
  | _ => False
def tyN (d : PyData) : TN := match d with
  | .none => .none_
  | .bool _ => .bool_
  | .int _ => .int_
  | .str _ => .str_
  | .list _ => .list_
  | .tuple _ => .tuple_
  | .dict _ => .dict_
def isiD (d : PyData) (T : TN) : Bool := decide (tyN d = T) || (decide (tyN d = .bool_) && decide (T = .int_))
/-- the script's box is no dict -/
def isScr (d : PyData) : Bool := match d with
  | .dict [(.none, _)] => true
  | _ => false
/-- the kinds of receivers -/
def rcvM (m : MF) (r : R) (ρ : Env) : Prop := match m, vw r ρ with
  | .join, some (.str _) => True
  | _, _ => False
def rcvW (ρ : Env) (i : Nat) (p : List Nat) : Prop := match getS ρ i p with
  | some (.nd .lst _) => True
  | _ => False
def argsO (ρ : Env) : List (PyData ⊕ Nat) → List O
  | [] => []
  | .inl d :: r => .dat d :: argsO ρ r
  | .inr i :: r => (ρ[i]?.getD .un) :: argsO ρ r
def backA (ρ : Env) : List (PyData ⊕ Nat) → List O → Env
  | .inr i :: r, o :: os => (backA ρ r os).set i o
  | .inl _ :: r, _ :: os => backA ρ r os
  | _, _ => ρ
def ioA : List (PyData ⊕ Nat) → List Bool
  | [] => []
  | .inl _ :: r => false :: ioA r
  | .inr _ :: r => true :: ioA r
def iosA : List (PyData ⊕ Nat) → List Nat
  | [] => []
  | .inl _ :: r => iosA r
  | .inr i :: r => i :: iosA r
/-- the call of a def by its promise -/
def callQ (S : FS) (ρ : Env) (as : List (PyData ⊕ Nat)) (Q : O → Env → Prop) : Prop :=
  ioA as = S.io ∧ (iosA as).Nodup ∧ (∀ i, i ∈ iosA as → i < ρ.length) ∧ S.pre (argsO ρ as) ∧ ∀ r os, S.post (argsO ρ as) r os → os.length = as.length → Q r (backA ρ as os)
def mutO : O → Prop
  | .nd .lst _ => True
  | .nd (.dk _) _ => True
  | .nd (.dt _) _ => True
  | _ => False
/-- op= of whole numbers -/
def augD (op : Operator) (x d : PyData) (Q : PyData → Prop) : Prop := match op, x, d with
  | .Add, .int i, .int j => Q (.int (i + j))
  | .Sub, .int i, .int j => Q (.int (i - j))
  | _, _, _ => False
def isNd (ρ : Env) (i : Nat) : Prop := match ρ[i]? with
  | some (.nd _ _) => True
  | _ => False
mutual
def ev (G : Gm) : CE → Env → (R → Env → Prop) → Prop
  | .var i, ρ, Q => match ρ[i]? with
    | some (.dat d) => Q (.own (.dat d)) ρ
    | some (.nd _ _) => Q (.pl i []) ρ
    | _ => False
  | .io _, _, _ => False
  | .con x, ρ, Q => optQ (G.con x) fun d => Q (.own (.dat d)) ρ
  | .non, ρ, Q => Q (.own (.dat .none)) ρ
  | .bl b, ρ, Q => Q (.own (.dat (.bool b))) ρ
  | .int i, ρ, Q => Q (.own (.dat (.int i))) ρ
  | .str x, ρ, Q => Q (.own (.dat (.str x))) ρ
  | .tup es, ρ, Q => evL G es ρ fun os ρ => Q (.own (tupO os)) ρ
  | .lst es, ρ, Q => evL G es ρ fun os ρ => Q (.own (.nd .lst os)) ρ
  | .dct kvs, ρ, Q => evP G kvs ρ fun kds os ρ => optQ (keysD kds) fun ks => ks.Nodup ∧ Q (.own (.nd (.dk ks) os)) ρ
  | .dnew tk, ρ, Q => Q (.own (.nd (if tk then .dt [] else .dk []) [])) ρ
  | .bin op a b, ρ, Q => ev G a ρ fun r ρ => hold r ρ fun ra ρ => ev G b ρ fun r ρ => hold r ρ fun rb ρ => stab ra (pureE b) ∧ vwQ ra ρ fun da => vwQ rb ρ fun db => binD op da db fun o => Q (.own o) ρ
  | .neg a, ρ, Q => ev G a ρ fun r ρ => asD r ρ fun d ρ => match d with
    | .int i => Q (.own (.dat (.int (-i)))) ρ
    | _ => False
  | .cmp op a b, ρ, Q => ev G a ρ fun r ρ => hold r ρ fun ra ρ => ev G b ρ fun r ρ => hold r ρ fun rb ρ => stab ra (pureE b) ∧ vwQ ra ρ fun da => vwQ rb ρ fun db => cmpD op da db fun c => Q (.own (.dat (.bool c))) ρ
  | .chn o1 o2 a b c, ρ, Q => ev G a ρ fun r ρ => asD r ρ fun da ρ => ev G b ρ fun r ρ => asD r ρ fun db ρ => cmpD o1 da db fun t => if t = true then ev G c ρ fun r ρ => asD r ρ fun dc ρ => cmpD o2 db dc fun t => Q (.own (.dat (.bool t))) ρ
      else Q (.own (.dat (.bool false))) ρ
  | .bop isand es, ρ, Q => evBop G isand es ρ Q
  | .nt a, ρ, Q => ev G a ρ fun r ρ => hold r ρ fun ra ρ => vwQ ra ρ fun d => truD d fun b => Q (.own (.dat (.bool !b))) ρ
  | .ife t a b, ρ, Q => ev G t ρ fun r ρ => hold r ρ fun rt ρ => vwQ rt ρ fun d => truD d fun c => if c = true then ev G a ρ Q else ev G b ρ Q
  | .idx a i, ρ, Q => ev G a ρ fun r ρ => hold r ρ fun ra ρ => ev G i ρ fun r ρ => asD r ρ fun k ρ => stab ra (pureE i) ∧ idxR ra k ρ fun r => Q r ρ
  | .sl a lo hi, ρ, Q => ev G a ρ fun r ρ => hold r ρ fun ra ρ => evO G lo ρ fun l ρ => evO G hi ρ fun h ρ => stab ra (pureL lo && pureL hi) ∧ vwQ ra ρ fun d => slD d l h fun o => Q (.own o) ρ
  | .rev a, ρ, Q => ev G a ρ fun r ρ => hold r ρ fun ra ρ => vwQ ra ρ fun d => revD d fun o => Q (.own o) ρ
  | .fl a, ρ, Q => ev G a ρ fun r ρ => match r with
    | .own (.nd .lst os) => optQ (O.toDL os) fun ds => Q (.own (dL ds)) ρ
    | _ => False
  | .frz a, ρ, Q => ev G a ρ fun r ρ => asD r ρ fun d ρ => Q (.own (.dat d)) ρ
  | .dctT kvs, ρ, Q => evP G kvs ρ fun kds os ρ => optQ (keysT kds) fun ks => optQ (datL os) fun ds => Q (.own (dictT (ks.zip ds))) ρ
  | .isi a T, ρ, Q => ev G a ρ fun r ρ => hold r ρ fun ra ρ => vwQ ra ρ fun d => isScr d = false ∧ Q (.own (.dat (.bool (isiD d T)))) ρ
  | .itv i, ρ, Q => match ρ[i]? with
    | some (.dat d) => Q (.own (.dat d)) ρ
    | some (.nd .lst os) => optQ (datL os) fun ds => Q (.iv i ds) ρ
    | _ => False
  | .mv i, ρ, Q => match ρ[i]? with
    | some (.dat d) => Q (.own (.dat d)) ρ
    | some (.nd k os) => Q (.own (.nd k os)) (ρ.set i .un)
    | _ => False
  | .comp own elt tg it ifs, ρ, Q => ev G it ρ fun r ρ => srcQ r ρ fun ds chk ρ => loopC chk (fun d ρ k => bindT tg (.dat d) ρ fun ρ => evTs G ifs ρ fun b ρ =>
      if b = true then ev G elt ρ fun r ρ => asO r ρ fun o ρ => k (some o) (wipeO ρ (own.map (·.2))) else k none (wipeO ρ (own.map (·.2)))) ds (wipeO ρ (own.map (·.2))) []
      fun acc ρ' => Q (.own (.nd .lst acc)) (backO ρ' ρ (own.map (·.2)))
  | .call f args, ρ, Q => evC G args ρ fun as ρ => optQ (G.fn f) fun S => callQ S ρ as fun r ρ => Q (.own r) ρ
  | .blt f args, ρ, Q => evH G args ρ fun rs ρ => vwsQ ρ rs fun ds => bltD f ds fun o => Q (.own o) ρ
  | .mth m a args, ρ, Q => ev G a ρ fun r ρ => hold r ρ fun ra ρ => rcvM m ra ρ ∧ evH G args ρ fun rs ρ => stab ra (pureL args) ∧ vwQ ra ρ fun d => vwsQ ρ rs fun ds => mthD m d ds fun o => Q (.own o) ρ
  | .mmt m a args, ρ, Q => ev G a ρ fun r ρ => match r with
    | .pl i p => rcvW ρ i p ∧ evL G args ρ fun os ρ => stab (.pl i p) (pureL args) ∧ optQ (getS ρ i p) fun o => mmtO m o os fun z o' => Q (.own z) (setS ρ i p o')
    | _ => False
  | .rng args, ρ, Q => evH G args ρ fun rs ρ => vwsQ ρ rs fun ds => rngQ ds fun ds => Q (.it ds) ρ
  | .enu a, ρ, Q => ev G a ρ fun r ρ => asD r ρ fun d ρ => match d with
    | .list ds => Q (.it (enuD ds)) ρ
    | .tuple ds => Q (.it (enuD ds)) ρ
    | _ => False
  | .dof a, ρ, Q => ev G a ρ fun r ρ => asD r ρ fun d ρ => match d with
    | .tuple ds => optQ (pairsD ds) fun kv => kv.1.Nodup ∧ ds.length ≤ sizeLine ∧ Q (.own (.nd (.dk kv.1) (kv.2.map O.dat))) ρ
    | _ => False
  | .upd a e, ρ, Q => ev G a ρ fun r ρ => match r with
    | .pl i p => rcvU ρ i p ∧ ev G e ρ fun r ρ => asO r ρ fun o ρ => stab (.pl i p) (pureE e) ∧ optQ (getS ρ i p) fun t => updO t o fun t' => Q (.own (.dat .none)) (setS ρ i p t')
    | _ => False
  | .zip a b, ρ, Q => ev G a ρ fun r ρ => asD r ρ fun d ρ => ev G b ρ fun r ρ => asD r ρ fun e ρ => match d, e with
    | .list ds, .list es => ds.any isEnt = false ∧ Q (.it (zipD ds es)) ρ
    | .tuple ds, .tuple es => ds.any isEnt = false ∧ Q (.it (zipD ds es)) ρ
    | _, _ => False
  | .lzip a b, ρ, Q => ev G a ρ fun r ρ => asD r ρ fun d ρ => ev G b ρ fun r ρ => asD r ρ fun e ρ => match d, e with
    | .list ds, .list es => ds.length ≤ sizeLine ∧ ds.any isEnt = false ∧ Q (.own (dL (zipD ds es))) ρ
    | _, _ => False
  | .rng3 a b, ρ, Q => ev G a ρ fun r ρ => asD r ρ fun d ρ => ev G b ρ fun r ρ => asD r ρ fun e ρ => match d, e with
    | .int i, .int j => -(2 ^ 62) ≤ i ∧ i < 2 ^ 62 ∧ -(2 ^ 62) ≤ j ∧ j < 2 ^ 62 ∧ Q (.it (rangeDn i j)) ρ
    | _, _ => False
  | .get1 a k, ρ, Q => ev G a ρ fun r ρ => hold r ρ fun ra ρ => dcvR ra ρ (fun _ _ => True) ∧ ev G k ρ fun r ρ => asD r ρ fun kd ρ => stab ra (pureE k) ∧ dcvR ra ρ fun nk os => dgetQ nk os kd .none fun d => Q (.own (.dat d)) ρ
  | .get2 a k e, ρ, Q => ev G a ρ fun r ρ => hold r ρ fun ra ρ => dcvR ra ρ (fun _ _ => True) ∧ ev G k ρ fun r ρ => asD r ρ fun kd ρ => ev G e ρ fun r ρ => asD r ρ fun dd ρ => stab ra (pureE k && pureE e) ∧ dcvR ra ρ fun nk os => dgetQ nk os kd dd fun d => Q (.own (.dat d)) ρ
  | .isin neg k a, ρ, Q => ev G k ρ fun r ρ => asD r ρ fun kd ρ => ev G a ρ fun r ρ => hold r ρ fun ra ρ => dcvR ra ρ fun nk _ => optQ (dgetK nk kd) fun n => Q (.own (.dat (.bool (if neg = true then !n.isSome else n.isSome)))) ρ
  | .fst ps, ρ, Q => evF G ps Str.empty ρ fun out ρ => Q (.own (.dat (.str out))) ρ
/-- the fields' texts, one behind the other -/
def evF (G : Gm) : List CE → Str → Env → (Str → Env → Prop) → Prop
  | [], acc, ρ, Q => Q acc ρ
  | e :: es, acc, ρ, Q => ev G e ρ fun r ρ => asD r ρ fun d ρ => fmtD d fun y => (acc ++ y).length ≤ sizeLine ∧ evF G es (acc ++ y) ρ Q
/-- trees of their own, from the left -/
def evL (G : Gm) : List CE → Env → (List O → Env → Prop) → Prop
  | [], ρ, Q => Q [] ρ
  | e :: es, ρ, Q => ev G e ρ fun r ρ => asO r ρ fun o ρ => evL G es ρ fun os ρ => Q (o :: os) ρ
/-- arguments that are looked at -/
def evH (G : Gm) : List CE → Env → (List R → Env → Prop) → Prop
  | [], ρ, Q => Q [] ρ
  | e :: es, ρ, Q => ev G e ρ fun r ρ => hold r ρ fun ra ρ => evH G es ρ fun rs ρ => stab ra (pureL es) ∧ Q (ra :: rs) ρ
def evC (G : Gm) : List CE → Env → (List (PyData ⊕ Nat) → Env → Prop) → Prop
  | [], ρ, Q => Q [] ρ
  | e :: es, ρ, Q => match e.ioOf with
    | some i => isNd ρ i ∧ evC G es ρ fun as ρ => Q (.inr i :: as) ρ
    | none => ev G e ρ fun r ρ => asD r ρ fun d ρ => evC G es ρ fun as ρ => Q (.inl d :: as) ρ
def evP (G : Gm) : List CE → Env → (List PyData → List O → Env → Prop) → Prop
  | [], ρ, Q => Q [] [] ρ
  | [_], _, _ => False
  | k :: v :: r, ρ, Q => ev G k ρ fun q ρ => asD q ρ fun kd ρ => ev G v ρ fun q ρ => asO q ρ fun o ρ => evP G r ρ fun kds os ρ => Q (kd :: kds) (o :: os) ρ
def evBop (G : Gm) (isand : Bool) : List CE → Env → (R → Env → Prop) → Prop
  | [], _, _ => False
  | [e], ρ, Q => ev G e ρ fun r ρ => hold r ρ Q
  | e :: e2 :: es, ρ, Q => ev G e ρ fun r ρ => hold r ρ fun rh ρ => vwQ rh ρ fun d => truD d fun t => if t = isand then evBop G isand (e2 :: es) ρ Q else Q rh ρ
def evO (G : Gm) : List CE → Env → (Option Int → Env → Prop) → Prop
  | [], ρ, Q => Q none ρ
  | [e], ρ, Q => ev G e ρ fun r ρ => asD r ρ fun d ρ => match d with
    | .int i => Q (some i) ρ
    | _ => False
  | _, _, _ => False
def evTs (G : Gm) : List CE → Env → (Bool → Env → Prop) → Prop
  | [], ρ, Q => Q true ρ
  | [e], ρ, Q => ev G e ρ fun r ρ => hold r ρ fun rt ρ => vwQ rt ρ fun d => truD d fun c => Q c ρ
  | _, _, _ => False
end
def evT (G : Gm) (e : CE) (ρ : Env) (Q : Bool → Env → Prop) : Prop := ev G e ρ fun r ρ => hold r ρ fun rt ρ => vwQ rt ρ fun d => truD d fun c => Q c ρ
structure Kn where
  nx : Env → Prop
  rt : O → Env → Prop
  bk : Env → Prop
  ct : Env → Prop
def loopW (tst : Env → (Bool → Env → Prop) → Prop) (stp : Env → (Env → Prop) → Prop) (K : Env → Prop) : Nat → Env → Prop
  | 0, _ => False
  | n + 1, ρ => tst ρ fun b ρ => if b = true then stp ρ (loopW tst stp K n) else K ρ
mutual
def evS (G : Gm) : CS → Env → Kn → Prop
  | .set t e, ρ, K => ev G e ρ fun r ρ => asO r ρ fun o ρ => bindT t o ρ K.nx
  | .par i j a b, ρ, K => ev G a ρ fun r ρ => asO r ρ fun o ρ => ev G b ρ fun r ρ => asO r ρ fun u ρ => i ≠ j ∧ i < ρ.length ∧ j < ρ.length ∧ K.nx ((ρ.set i o).set j u)
  | .put o k e, ρ, K => ev G e ρ fun r ρ => asO r ρ fun z ρ => ev G o ρ fun r ρ => match r with
    | .pl i p => ev G k ρ fun r ρ => asD r ρ fun kd ρ => stab (.pl i p) (pureE k) ∧ optQ (getS ρ i p) fun t => putO t kd z fun t' => K.nx (setS ρ i p t')
    | _ => False
  | .aug i op e, ρ, K => optQ ρ[i]? fun o => match o with
    | .dat x => ev G e ρ fun r ρ => asD r ρ fun d ρ => augD op x d fun z => K.nx (ρ.set i (.dat z))
    | _ => False
  | .augP o k op e, ρ, K => ev G o ρ fun r ρ => match r with
    | .pl i p => ev G k ρ fun r ρ => asD r ρ fun kd ρ => stab (.pl i p) (pureE k && pureE e) ∧ optQ (getS ρ i p) fun t => mutO t ∧ idxO t i p kd fun c => match c with
      | .own (.dat x) => ev G e ρ fun r ρ => asD r ρ fun d ρ => augD op x d fun z => optQ (getS ρ i p) fun t => putO t kd (.dat z) fun t' => K.nx (setS ρ i p t')
      | _ => False
    | _ => False
  | .ex e, ρ, K => ev G e ρ fun r ρ => hold r ρ fun _ ρ => K.nx ρ
  | .ret e, ρ, K => ev G e ρ fun r ρ => asO r ρ K.rt
  | .retN, ρ, K => K.rt (.dat .none) ρ
  | .ife t a b, ρ, K => evT G t ρ fun c ρ => if c = true then evB G a ρ K else evB G b ρ K
  | .for_ t it body, ρ, K => ev G it ρ fun r ρ => srcQ r ρ fun ds chk ρ => loopS chk (fun d ρ k => bindT t (.dat d) ρ fun ρ => evB G body ρ { nx := k, rt := K.rt, bk := K.nx, ct := k }) ds ρ K.nx
  | .while_ t body, ρ, K => ∃ n, loopW (evT G t) (fun ρ k => evB G body ρ { nx := k, rt := K.rt, bk := K.nx, ct := k }) K.nx n ρ
  | .pass, ρ, K => K.nx ρ
  | .brk, ρ, K => K.bk ρ
  | .cont, ρ, K => K.ct ρ
  | .never, _, _ => False
def evB (G : Gm) : List CS → Env → Kn → Prop
  | [], ρ, K => K.nx ρ
  | c :: cs, ρ, K => evS G c ρ { K with nx := fun ρ => evB G cs ρ K }
end
end VS

namespace VS
open PySem PySem.Spec PyProof.Rows L2
theorem optQ_mono {α : Type} {o : Option α} {Q Q' : α → Prop} (h : ∀ x, Q x → Q' x) : optQ o Q → optQ o Q' := by
  cases o with
  | none => exact id
  | some x => exact h x
theorem atQ_mono {α : Type} {xs : List α} {i : Int} {Q Q' : α → Prop} (h : ∀ x, Q x → Q' x) : atQ xs i Q → atQ xs i Q' := by
  unfold atQ
  split
  · exact h _
  · exact id
theorem binD_mono {op : Operator} {a b : PyData} {Q Q' : O → Prop} (h : ∀ x, Q x → Q' x) : binD op a b Q → binD op a b Q' := by
  unfold binD
  split <;> intro q
  all_goals first
    | exact q.elim
    | exact h _ q
    | exact ⟨q.1, h _ q.2⟩
    | exact ⟨q.1, q.2.1, q.2.2.1, h _ q.2.2.2⟩
    | exact ⟨q.1, q.2.1, q.2.2.1, q.2.2.2.1, h _ q.2.2.2.2⟩
    | exact ⟨q.1, q.2.1, q.2.2.1, q.2.2.2.1, q.2.2.2.2.1, h _ q.2.2.2.2.2⟩
theorem cmpD_mono {op : CmpOp} {a b : PyData} {Q Q' : Bool → Prop} (h : ∀ x, Q x → Q' x) : cmpD op a b Q → cmpD op a b Q' := by
  unfold cmpD
  split <;> intro q
  all_goals first
    | exact q.elim
    | exact h _ q
    | exact ⟨q.1, q.2.1, h _ q.2.2⟩
theorem idxD_mono {a k : PyData} {Q Q' : PyData → Prop} (h : ∀ x, Q x → Q' x) : idxD a k Q → idxD a k Q' := by
  unfold idxD
  split <;> intro q
  · exact atQ_mono h q
  · exact atQ_mono h q
  · exact ⟨q.1, atQ_mono (fun c => h _) q.2⟩
  · exact q.elim
theorem slD_mono {a : PyData} {lo hi : Option Int} {Q Q' : O → Prop} (h : ∀ x, Q x → Q' x) : slD a lo hi Q → slD a lo hi Q' := by
  unfold slD
  split <;> intro q
  · exact h _ q
  · exact h _ q
  · exact h _ q
  · exact ⟨q.1, h _ q.2⟩
  · exact q.elim
theorem revD_mono {a : PyData} {Q Q' : O → Prop} (h : ∀ x, Q x → Q' x) : revD a Q → revD a Q' := by
  unfold revD
  split
  · exact h _
  · exact id
theorem bltD_mono {f : BF} {as : List PyData} {Q Q' : O → Prop} (h : ∀ x, Q x → Q' x) : bltD f as Q → bltD f as Q' := by
  unfold bltD
  split <;> intro q
  all_goals first
    | exact q.elim
    | exact h _ q
    | exact ⟨q.1, h _ q.2⟩
    | exact optQ_mono (fun _ => h _) q
theorem mthD_mono {m : MF} {a : PyData} {as : List PyData} {Q Q' : O → Prop} (h : ∀ x, Q x → Q' x) : mthD m a as Q → mthD m a as Q' := by
  unfold mthD
  split <;> intro q
  all_goals first
    | exact q.elim
    | exact h _ q
    | exact optQ_mono (fun _ z => ⟨z.1, h _ z.2⟩) q
theorem truD_mono {d : PyData} {Q Q' : Bool → Prop} (h : ∀ x, Q x → Q' x) : truD d Q → truD d Q' := by
  unfold truD
  split <;> intro q
  all_goals first
    | exact q.elim
    | exact h _ q
    | exact ⟨q.1, h _ q.2⟩
theorem vwQ_mono {r : R} {ρ : Env} {Q Q' : PyData → Prop} (h : ∀ x, Q x → Q' x) : vwQ r ρ Q → vwQ r ρ Q' := optQ_mono h
theorem vwsQ_mono {ρ : Env} : ∀ {rs : List R} {Q Q' : List PyData → Prop}, (∀ x, Q x → Q' x) → vwsQ ρ rs Q → vwsQ ρ rs Q'
  | [], _, _, h, q => h _ q
  | _ :: _, _, _, h, q => vwQ_mono (fun _ z => vwsQ_mono (fun _ => h _) z) q
theorem asD_mono {r : R} {ρ : Env} {Q Q' : PyData → Env → Prop} (h : ∀ x ρ, Q x ρ → Q' x ρ) : asD r ρ Q → asD r ρ Q' := by
  unfold asD
  split
  · split
    · exact h _ _
    · exact id
  · split
    · split
      · exact h _ _
      · exact id
    · exact id
  · exact id
theorem asO_mono {r : R} {ρ : Env} {Q Q' : O → Env → Prop} (h : ∀ x ρ, Q x ρ → Q' x ρ) : asO r ρ Q → asO r ρ Q' := by
  unfold asO
  split
  · exact h _ _
  · exact asD_mono fun _ _ => h _ _
  · exact id
theorem hold_mono {r : R} {ρ : Env} {Q Q' : R → Env → Prop} (h : ∀ x ρ, Q x ρ → Q' x ρ) : hold r ρ Q → hold r ρ Q' := by
  unfold hold
  split
  · exact asD_mono fun _ _ => h _ _
  · exact h _ _
  · exact id
theorem idxO_mono {o : O} {i : Nat} {p : List Nat} {k : PyData} {Q Q' : R → Prop} (h : ∀ x, Q x → Q' x) : idxO o i p k Q → idxO o i p k Q' := by
  unfold idxO
  split
  · refine optQ_mono fun _ => optQ_mono fun c => ?_
    split
    · exact h _
    · exact h _
    · exact id
  · exact idxD_mono fun _ => h _
  · exact id
theorem idxR_mono {r : R} {k : PyData} {ρ : Env} {Q Q' : R → Prop} (h : ∀ x, Q x → Q' x) : idxR r k ρ Q → idxR r k ρ Q' := by
  unfold idxR
  split
  · exact idxD_mono fun _ => h _
  · exact optQ_mono fun _ => idxO_mono h
  · exact id
theorem putO_mono {o : O} {k : PyData} {z : O} {Q Q' : O → Prop} (h : ∀ x, Q x → Q' x) : putO o k z Q → putO o k z Q' := by
  unfold putO
  split
  · split
    · exact optQ_mono fun _ => h _
    · exact id
  · refine optQ_mono fun _ => ?_
    split
    · exact fun q => ⟨q.1, h _ q.2⟩
    · exact fun q => ⟨q.1, h _ q.2⟩
  · refine optQ_mono fun _ => ?_
    split
    · exact fun q => ⟨q.1, h _ q.2⟩
    · exact fun q => ⟨q.1, h _ q.2⟩
  · exact id
theorem updO_mono {o e : O} {Q Q' : O → Prop} (h : ∀ x, Q x → Q' x) : updO o e Q → updO o e Q' := by
  unfold updO
  split
  · exact fun z => ⟨z.1, z.2.1, z.2.2.1, h _ z.2.2.2⟩
  · exact id
theorem dcvO_mono {o : O} {Q Q' : NK → List O → Prop} (h : ∀ x y, Q x y → Q' x y) : dcvO o Q → dcvO o Q' := by
  unfold dcvO
  split
  · exact h _ _
  · exact h _ _
  · exact optQ_mono fun _ => h _ _
  · exact id
theorem dcvR_mono {r : R} {ρ : Env} {Q Q' : NK → List O → Prop} (h : ∀ x y, Q x y → Q' x y) : dcvR r ρ Q → dcvR r ρ Q' := by
  unfold dcvR
  split
  · exact dcvO_mono h
  · exact optQ_mono fun _ => dcvO_mono h
  · exact id
theorem dgetQ_mono {kd : NK} {os : List O} {k dd : PyData} {Q Q' : PyData → Prop} (h : ∀ x, Q x → Q' x) : dgetQ kd os k dd Q → dgetQ kd os k dd Q' := by
  unfold dgetQ
  refine optQ_mono fun n => ?_
  cases n with
  | none => exact h _
  | some n =>
    refine optQ_mono fun c => ?_
    cases c with
    | dat d => exact h _
    | un => exact id
    | nd _ _ => exact id
theorem fmtD_mono {d : PyData} {Q Q' : Str → Prop} (h : ∀ x, Q x → Q' x) : fmtD d Q → fmtD d Q' := by
  unfold fmtD
  split
  · exact fun q => ⟨q.1, h _ q.2⟩
  · exact fun q => ⟨q.1, h _ q.2⟩
  · exact id
theorem mmtO_mono {m : WF} {o : O} {as : List O} {Q Q' : O → O → Prop} (h : ∀ x y, Q x y → Q' x y) : mmtO m o as Q → mmtO m o as Q' := by
  unfold mmtO
  split <;> intro q
  · exact ⟨q.1, h _ _ q.2⟩
  · exact optQ_mono (fun _ => h _ _) q
  · exact ⟨q.1, q.2.1, optQ_mono (fun _ => optQ_mono fun _ => h _ _) q.2.2⟩
  · exact ⟨q.1, h _ _ q.2⟩
  · exact ⟨q.1, optQ_mono (fun _ => h _ _) q.2⟩
  · exact q
mutual
theorem bindT_mono : ∀ {t : CT} {o : O} {ρ : Env} {Q Q' : Env → Prop}, (∀ x, Q x → Q' x) → bindT t o ρ Q → bindT t o ρ Q'
  | .nm i, o, ρ, Q, Q', h, q => by
    unfold bindT at q ⊢
    exact ⟨q.1, h _ q.2⟩
  | .tp ts, o, ρ, Q, Q', h, q => by
    unfold bindT at q ⊢
    split at q
    · cases ‹CT.tp ts = CT.nm _›
    · rename_i e
      cases e
      exact bindTs_mono h q
    · exact q.elim
theorem bindTs_mono : ∀ {ts : List CT} {ds : List PyData} {ρ : Env} {Q Q' : Env → Prop}, (∀ x, Q x → Q' x) → bindT.bindTs ts ds ρ Q → bindT.bindTs ts ds ρ Q'
  | [], [], _, _, _, h, q => by
    unfold bindT.bindTs at q ⊢
    exact h _ q
  | t :: ts, d :: ds, _, _, _, h, q => by
    unfold bindT.bindTs at q ⊢
    exact bindT_mono (fun _ z => bindTs_mono h z) q
  | [], _ :: _, _, _, _, h, q => by
    unfold bindT.bindTs at q
    exact q.elim
  | _ :: _, [], _, _, _, h, q => by
    unfold bindT.bindTs at q
    exact q.elim
end
theorem srcQ_mono {r : R} {ρ : Env} {Q Q' : List PyData → (Env → Prop) → Env → Prop} (h : ∀ x c ρ, Q x c ρ → Q' x c ρ) : srcQ r ρ Q → srcQ r ρ Q' := by
  unfold srcQ
  split
  · exact h _ _ _
  · exact h _ _ _
  · refine asD_mono fun d ρ => ?_
    split
    · exact h _ _ _
    · exact h _ _ _
    · exact h _ _ _
    · exact id
theorem loopC_mono {chk : Env → Prop} {stp stp' : PyData → Env → (Option O → Env → Prop) → Prop} (hs : ∀ d ρ k k', (∀ o ρ, k o ρ → k' o ρ) → stp d ρ k → stp' d ρ k') :
    ∀ {ds : List PyData} {ρ : Env} {acc : List O} {K K' : List O → Env → Prop}, (∀ a ρ, K a ρ → K' a ρ) → loopC chk stp ds ρ acc K → loopC chk stp' ds ρ acc K'
  | [], _, _, _, _, h, q => ⟨q.1, h _ _ q.2⟩
  | d :: ds, ρ, acc, K, K', h, q => ⟨q.1, hs _ _ _ _ (fun o ρ z => by
      cases o with
      | some o => exact ⟨z.1, loopC_mono hs h z.2⟩
      | none => exact loopC_mono hs h z) q.2⟩
theorem loopS_mono {chk : Env → Prop} {stp stp' : PyData → Env → (Env → Prop) → Prop} (hs : ∀ d ρ k k', (∀ ρ, k ρ → k' ρ) → stp d ρ k → stp' d ρ k') :
    ∀ {ds : List PyData} {ρ : Env} {K K' : Env → Prop}, (∀ ρ, K ρ → K' ρ) → loopS chk stp ds ρ K → loopS chk stp' ds ρ K'
  | [], _, _, _, h, q => ⟨q.1, h _ q.2⟩
  | d :: ds, ρ, K, K', h, q => ⟨q.1, hs _ _ _ _ (fun ρ z => loopS_mono hs h z) q.2⟩
theorem rngQ_mono {ds : List PyData} {Q Q' : List PyData → Prop} (h : ∀ x, Q x → Q' x) : rngQ ds Q → rngQ ds Q' := by
  unfold rngQ
  split <;> intro q
  · exact ⟨q.1, q.2.1, h _ q.2.2⟩
  · exact ⟨q.1, q.2.1, q.2.2.1, q.2.2.2.1, h _ q.2.2.2.2⟩
  · exact q
theorem callQ_mono {S : FS} {ρ : Env} {as : List (PyData ⊕ Nat)} {Q Q' : O → Env → Prop} (h : ∀ x ρ, Q x ρ → Q' x ρ) : callQ S ρ as Q → callQ S ρ as Q' := fun q =>
  ⟨q.1, q.2.1, q.2.2.1, q.2.2.2.1, fun r os z l => h _ _ (q.2.2.2.2 r os z l)⟩
mutual
theorem ev_mono (G : Gm) : ∀ {e : CE} {ρ : Env} {Q Q' : R → Env → Prop}, (∀ r ρ, Q r ρ → Q' r ρ) → ev G e ρ Q → ev G e ρ Q'
  | .var i, ρ, Q, Q', h, q => by
    unfold ev at q ⊢
    split at q
    · exact h _ _ q
    · exact h _ _ q
    · exact q.elim
  | .io _, _, _, _, h, q => by
    unfold ev at q
    exact q.elim
  | .con x, ρ, Q, Q', h, q => by
    unfold ev at q ⊢
    exact optQ_mono (fun _ => h _ _) q
  | .non, ρ, Q, Q', h, q => h _ _ q
  | .bl b, ρ, Q, Q', h, q => h _ _ q
  | .int b, ρ, Q, Q', h, q => h _ _ q
  | .str b, ρ, Q, Q', h, q => h _ _ q
  | .tup es, ρ, Q, Q', h, q => by
    unfold ev at q ⊢
    exact evL_mono G (fun _ _ => h _ _) q
  | .lst es, ρ, Q, Q', h, q => by
    unfold ev at q ⊢
    exact evL_mono G (fun _ _ => h _ _) q
  | .dct kvs, ρ, Q, Q', h, q => by
    unfold ev at q ⊢
    exact evP_mono G (fun _ _ _ => optQ_mono fun _ z => ⟨z.1, h _ _ z.2⟩) q
  | .dnew tk, ρ, Q, Q', h, q => h _ _ q
  | .bin op a b, ρ, Q, Q', h, q => by
    unfold ev at q ⊢
    exact ev_mono G (fun _ _ => hold_mono fun _ _ => ev_mono G fun _ _ => hold_mono fun _ _ z => ⟨z.1, vwQ_mono (fun _ => vwQ_mono fun _ => binD_mono fun _ => h _ _) z.2⟩) q
  | .neg a, ρ, Q, Q', h, q => by
    unfold ev at q ⊢
    refine ev_mono G (fun _ _ => asD_mono fun d _ => ?_) q
    split
    · exact h _ _
    · exact id
  | .cmp op a b, ρ, Q, Q', h, q => by
    unfold ev at q ⊢
    exact ev_mono G (fun _ _ => hold_mono fun _ _ => ev_mono G fun _ _ => hold_mono fun _ _ z => ⟨z.1, vwQ_mono (fun _ => vwQ_mono fun _ => cmpD_mono fun _ => h _ _) z.2⟩) q
  | .chn o1 o2 a b c, ρ, Q, Q', h, q => by
    unfold ev at q ⊢
    refine ev_mono G (fun _ _ => asD_mono fun _ _ => ev_mono G fun _ _ => asD_mono fun _ _ => cmpD_mono fun t => ?_) q
    split
    · exact ev_mono G fun _ _ => asD_mono fun _ _ => cmpD_mono fun _ => h _ _
    · exact h _ _
  | .bop isand es, ρ, Q, Q', h, q => by
    unfold ev at q ⊢
    exact evBop_mono G h q
  | .nt a, ρ, Q, Q', h, q => by
    unfold ev at q ⊢
    exact ev_mono G (fun _ _ => hold_mono fun _ _ => vwQ_mono fun _ => truD_mono fun _ => h _ _) q
  | .ife t a b, ρ, Q, Q', h, q => by
    unfold ev at q ⊢
    refine ev_mono G (fun _ _ => hold_mono fun _ _ => vwQ_mono fun _ => truD_mono fun c => ?_) q
    split
    · exact ev_mono G h
    · exact ev_mono G h
  | .idx a i, ρ, Q, Q', h, q => by
    unfold ev at q ⊢
    exact ev_mono G (fun _ _ => hold_mono fun _ _ => ev_mono G fun _ _ => asD_mono fun _ _ z => ⟨z.1, idxR_mono (fun _ => h _ _) z.2⟩) q
  | .sl a lo hi, ρ, Q, Q', h, q => by
    unfold ev at q ⊢
    exact ev_mono G (fun _ _ => hold_mono fun _ _ => evO_mono G fun _ _ => evO_mono G fun _ _ z => ⟨z.1, vwQ_mono (fun _ => slD_mono fun _ => h _ _) z.2⟩) q
  | .rev a, ρ, Q, Q', h, q => by
    unfold ev at q ⊢
    exact ev_mono G (fun _ _ => hold_mono fun _ _ => vwQ_mono fun _ => revD_mono fun _ => h _ _) q
  | .fl a, ρ, Q, Q', h, q => by
    unfold ev at q ⊢
    refine ev_mono G (fun r _ => ?_) q
    split
    · exact optQ_mono fun _ => h _ _
    · exact id
  | .frz a, ρ, Q, Q', h, q => by
    unfold ev at q ⊢
    exact ev_mono G (fun _ _ => asD_mono fun _ _ => h _ _) q
  | .dctT kvs, ρ, Q, Q', h, q => by
    unfold ev at q ⊢
    exact evP_mono G (fun _ _ _ => optQ_mono fun _ => optQ_mono fun _ => h _ _) q
  | .isi a T, ρ, Q, Q', h, q => by
    unfold ev at q ⊢
    exact ev_mono G (fun _ _ => hold_mono fun _ _ => vwQ_mono fun _ z => ⟨z.1, h _ _ z.2⟩) q
  | .itv i, ρ, Q, Q', h, q => by
    unfold ev at q ⊢
    split at q
    · exact h _ _ q
    · exact optQ_mono (fun _ => h _ _) q
    · exact q.elim
  | .mv i, ρ, Q, Q', h, q => by
    unfold ev at q ⊢
    split at q
    · exact h _ _ q
    · exact h _ _ q
    · exact q.elim
  | .comp own elt tg it ifs, ρ, Q, Q', h, q => by
    unfold ev at q ⊢
    refine ev_mono G (fun _ _ => srcQ_mono fun ds chk ρ => ?_) q
    refine loopC_mono (fun d ρ k k' hk => ?_) fun _ _ => h _ _
    refine bindT_mono fun _ => evTs_mono G fun b _ => ?_
    split
    · exact ev_mono G fun _ _ => asO_mono fun _ _ => hk _ _
    · exact hk _ _
  | .call f args, ρ, Q, Q', h, q => by
    unfold ev at q ⊢
    exact evC_mono G (fun _ _ => optQ_mono fun _ => callQ_mono fun _ _ => h _ _) q
  | .blt f args, ρ, Q, Q', h, q => by
    unfold ev at q ⊢
    exact evH_mono G (fun _ _ => vwsQ_mono fun _ => bltD_mono fun _ => h _ _) q
  | .mth m a args, ρ, Q, Q', h, q => by
    unfold ev at q ⊢
    exact ev_mono G (fun _ _ => hold_mono fun _ _ z => ⟨z.1, evH_mono G (fun _ _ z => ⟨z.1, vwQ_mono (fun _ => vwsQ_mono fun _ => mthD_mono fun _ => h _ _) z.2⟩) z.2⟩) q
  | .mmt m a args, ρ, Q, Q', h, q => by
    unfold ev at q ⊢
    refine ev_mono G (fun r _ => ?_) q
    split
    · exact fun z => ⟨z.1, evL_mono G (fun _ _ z => ⟨z.1, optQ_mono (fun _ => mmtO_mono fun _ _ => h _ _) z.2⟩) z.2⟩
    · exact id
  | .rng args, ρ, Q, Q', h, q => by
    unfold ev at q ⊢
    exact evH_mono G (fun _ _ => vwsQ_mono fun _ => rngQ_mono fun _ => h _ _) q
  | .enu a, ρ, Q, Q', h, q => by
    unfold ev at q ⊢
    refine ev_mono G (fun _ _ => asD_mono fun d _ => ?_) q
    split
    · exact h _ _
    · exact h _ _
    · exact id
  | .dof a, ρ, Q, Q', h, q => by
    unfold ev at q ⊢
    refine ev_mono G (fun _ _ => asD_mono fun d _ => ?_) q
    split
    · exact optQ_mono fun _ z => ⟨z.1, z.2.1, h _ _ z.2.2⟩
    · exact id
  | .upd a e, ρ, Q, Q', h, q => by
    unfold ev at q ⊢
    refine ev_mono G (fun r ρ => ?_) q
    cases r with
    | pl i p => exact fun z => ⟨z.1, ev_mono G (fun _ _ => asO_mono fun _ _ y => ⟨y.1, optQ_mono (fun _ => updO_mono fun _ => h _ _) y.2⟩) z.2⟩
    | _ => exact id
  | .zip a b, ρ, Q, Q', h, q => by
    unfold ev at q ⊢
    refine ev_mono G (fun _ _ => asD_mono fun d _ => ev_mono G fun _ _ => asD_mono fun e _ => ?_) q
    split
    · exact fun z => ⟨z.1, h _ _ z.2⟩
    · exact fun z => ⟨z.1, h _ _ z.2⟩
    · exact id
  | .lzip a b, ρ, Q, Q', h, q => by
    unfold ev at q ⊢
    refine ev_mono G (fun _ _ => asD_mono fun d _ => ev_mono G fun _ _ => asD_mono fun e _ => ?_) q
    split
    · exact fun q => ⟨q.1, q.2.1, h _ _ q.2.2⟩
    · exact id
  | .rng3 a b, ρ, Q, Q', h, q => by
    unfold ev at q ⊢
    refine ev_mono G (fun _ _ => asD_mono fun d _ => ev_mono G fun _ _ => asD_mono fun e _ => ?_) q
    split
    · exact fun q => ⟨q.1, q.2.1, q.2.2.1, q.2.2.2.1, h _ _ q.2.2.2.2⟩
    · exact id
  | .get1 a k, ρ, Q, Q', h, q => by
    unfold ev at q ⊢
    exact ev_mono G (fun _ _ => hold_mono fun _ _ z => ⟨z.1, ev_mono G (fun _ _ => asD_mono fun _ _ z => ⟨z.1, dcvR_mono (fun _ _ => dgetQ_mono fun _ => h _ _) z.2⟩) z.2⟩) q
  | .get2 a k e, ρ, Q, Q', h, q => by
    unfold ev at q ⊢
    exact ev_mono G (fun _ _ => hold_mono fun _ _ z => ⟨z.1, ev_mono G (fun _ _ => asD_mono fun _ _ => ev_mono G fun _ _ => asD_mono fun _ _ z => ⟨z.1, dcvR_mono (fun _ _ => dgetQ_mono fun _ => h _ _) z.2⟩) z.2⟩) q
  | .isin neg k a, ρ, Q, Q', h, q => by
    unfold ev at q ⊢
    exact ev_mono G (fun _ _ => asD_mono fun _ _ => ev_mono G fun _ _ => hold_mono fun _ _ => dcvR_mono fun _ _ => optQ_mono fun _ => h _ _) q
  | .fst ps, ρ, Q, Q', h, q => by
    unfold ev at q ⊢
    exact evF_mono G (fun _ _ => h _ _) q
theorem evF_mono (G : Gm) : ∀ {es : List CE} {acc : Str} {ρ : Env} {Q Q' : Str → Env → Prop}, (∀ r ρ, Q r ρ → Q' r ρ) → evF G es acc ρ Q → evF G es acc ρ Q'
  | [], _, _, _, _, h, q => by
    unfold evF at q ⊢
    exact h _ _ q
  | _ :: _, _, _, _, _, h, q => by
    unfold evF at q ⊢
    exact ev_mono G (fun _ _ => asD_mono fun _ _ => fmtD_mono fun _ z => ⟨z.1, evF_mono G h z.2⟩) q
theorem evL_mono (G : Gm) : ∀ {es : List CE} {ρ : Env} {Q Q' : List O → Env → Prop}, (∀ r ρ, Q r ρ → Q' r ρ) → evL G es ρ Q → evL G es ρ Q'
  | [], _, _, _, h, q => h _ _ q
  | _ :: _, _, _, _, h, q => by
    unfold evL at q ⊢
    exact ev_mono G (fun _ _ => asO_mono fun _ _ => evL_mono G fun _ _ => h _ _) q
theorem evH_mono (G : Gm) : ∀ {es : List CE} {ρ : Env} {Q Q' : List R → Env → Prop}, (∀ r ρ, Q r ρ → Q' r ρ) → evH G es ρ Q → evH G es ρ Q'
  | [], _, _, _, h, q => h _ _ q
  | _ :: _, _, _, _, h, q => by
    unfold evH at q ⊢
    exact ev_mono G (fun _ _ => hold_mono fun _ _ => evH_mono G fun _ _ z => ⟨z.1, h _ _ z.2⟩) q
theorem evC_mono (G : Gm) : ∀ {es : List CE} {ρ : Env} {Q Q' : List (PyData ⊕ Nat) → Env → Prop}, (∀ r ρ, Q r ρ → Q' r ρ) → evC G es ρ Q → evC G es ρ Q'
  | [], _, _, _, h, q => h _ _ q
  | e :: _, _, _, _, h, q => by
    unfold evC at q ⊢
    split
    · rename_i e1
      rw [e1] at q
      exact ⟨q.1, evC_mono G (fun _ _ => h _ _) q.2⟩
    · rename_i e1
      rw [e1] at q
      exact ev_mono G (fun _ _ => asD_mono fun _ _ => evC_mono G fun _ _ => h _ _) q
theorem evP_mono (G : Gm) : ∀ {es : List CE} {ρ : Env} {Q Q' : List PyData → List O → Env → Prop}, (∀ r s ρ, Q r s ρ → Q' r s ρ) → evP G es ρ Q → evP G es ρ Q'
  | [], _, _, _, h, q => h _ _ _ q
  | [_], _, _, _, h, q => by
    unfold evP at q
    exact q.elim
  | _ :: _ :: _, _, _, _, h, q => by
    unfold evP at q ⊢
    exact ev_mono G (fun _ _ => asD_mono fun _ _ => ev_mono G fun _ _ => asO_mono fun _ _ => evP_mono G fun _ _ _ => h _ _ _) q
theorem evBop_mono (G : Gm) {isand : Bool} : ∀ {es : List CE} {ρ : Env} {Q Q' : R → Env → Prop}, (∀ r ρ, Q r ρ → Q' r ρ) → evBop G isand es ρ Q → evBop G isand es ρ Q'
  | [], _, _, _, h, q => by
    unfold evBop at q
    exact q.elim
  | [_], _, _, _, h, q => by
    unfold evBop at q ⊢
    exact ev_mono G (fun _ _ => hold_mono h) q
  | _ :: _ :: _, _, _, _, h, q => by
    unfold evBop at q ⊢
    refine ev_mono G (fun _ _ => hold_mono fun _ _ => vwQ_mono fun _ => truD_mono fun t => ?_) q
    split
    · exact evBop_mono G h
    · exact h _ _
theorem evO_mono (G : Gm) : ∀ {es : List CE} {ρ : Env} {Q Q' : Option Int → Env → Prop}, (∀ r ρ, Q r ρ → Q' r ρ) → evO G es ρ Q → evO G es ρ Q'
  | [], _, _, _, h, q => h _ _ q
  | [_], _, _, _, h, q => by
    unfold evO at q ⊢
    refine ev_mono G (fun _ _ => asD_mono fun d _ => ?_) q
    split
    · exact h _ _
    · exact id
  | _ :: _ :: _, _, _, _, h, q => by
    unfold evO at q
    exact q.elim
theorem evTs_mono (G : Gm) : ∀ {es : List CE} {ρ : Env} {Q Q' : Bool → Env → Prop}, (∀ r ρ, Q r ρ → Q' r ρ) → evTs G es ρ Q → evTs G es ρ Q'
  | [], _, _, _, h, q => h _ _ q
  | [_], _, _, _, h, q => by
    unfold evTs at q ⊢
    exact ev_mono G (fun _ _ => hold_mono fun _ _ => vwQ_mono fun _ => truD_mono fun _ => h _ _) q
  | _ :: _ :: _, _, _, _, h, q => by
    unfold evTs at q
    exact q.elim
end
theorem evT_mono (G : Gm) {e : CE} {ρ : Env} {Q Q' : Bool → Env → Prop} (h : ∀ b ρ, Q b ρ → Q' b ρ) : evT G e ρ Q → evT G e ρ Q' :=
  ev_mono G fun _ _ => hold_mono fun _ _ => vwQ_mono fun _ => truD_mono fun _ => h _ _
theorem augD_mono {op : Operator} {x d : PyData} {Q Q' : PyData → Prop} (h : ∀ z, Q z → Q' z) : augD op x d Q → augD op x d Q' := by
  unfold augD
  split
  · exact h _
  · exact h _
  · exact id
structure Kn.Le (K K' : Kn) : Prop where
  nx : ∀ ρ, K.nx ρ → K'.nx ρ
  rt : ∀ o ρ, K.rt o ρ → K'.rt o ρ
  bk : ∀ ρ, K.bk ρ → K'.bk ρ
  ct : ∀ ρ, K.ct ρ → K'.ct ρ
theorem loopW_mono {tst : Env → (Bool → Env → Prop) → Prop} {stp stp' : Env → (Env → Prop) → Prop} {K K' : Env → Prop} (ht : ∀ ρ k k', (∀ b ρ, k b ρ → k' b ρ) → tst ρ k → tst ρ k') (hs : ∀ ρ k k', (∀ ρ, k ρ → k' ρ) → stp ρ k → stp' ρ k')
    (hK : ∀ ρ, K ρ → K' ρ) : ∀ {n : Nat} {ρ : Env}, loopW tst stp K n ρ → loopW tst stp' K' n ρ
  | 0, _, q => q
  | n + 1, _, q => ht _ _ _ (fun b ρ => by
      split
      · exact hs _ _ _ fun _ => loopW_mono ht hs hK
      · exact hK _) q
mutual
theorem evS_mono (G : Gm) : ∀ {c : CS} {ρ : Env} {K K' : Kn}, K.Le K' → evS G c ρ K → evS G c ρ K'
  | .set t e, ρ, K, K', h, q => by
    unfold evS at q ⊢
    exact ev_mono G (fun _ _ => asO_mono fun _ _ => bindT_mono h.nx) q
  | .par i j a b, ρ, K, K', h, q => by
    unfold evS at q ⊢
    exact ev_mono G (fun _ _ => asO_mono fun _ _ => ev_mono G fun _ _ => asO_mono fun _ _ z => ⟨z.1, z.2.1, z.2.2.1, h.nx _ z.2.2.2⟩) q
  | .put o k e, ρ, K, K', h, q => by
    unfold evS at q ⊢
    refine ev_mono G (fun _ _ => asO_mono fun _ _ => ev_mono G fun r _ => ?_) q
    split
    · exact ev_mono G fun _ _ => asD_mono fun _ _ z => ⟨z.1, optQ_mono (fun _ => putO_mono fun _ => h.nx _) z.2⟩
    · exact id
  | .aug i op e, ρ, K, K', h, q => by
    unfold evS at q ⊢
    refine optQ_mono (fun o => ?_) q
    split
    · exact ev_mono G fun _ _ => asD_mono fun _ _ => augD_mono fun _ => h.nx _
    · exact id
  | .augP o k op e, ρ, K, K', h, q => by
    unfold evS at q ⊢
    refine ev_mono G (fun r _ => ?_) q
    split
    · refine ev_mono G fun _ _ => asD_mono fun _ _ z => ⟨z.1, optQ_mono (fun _ y => ⟨y.1, idxO_mono (fun c => ?_) y.2⟩) z.2⟩
      split
      · exact ev_mono G fun _ _ => asD_mono fun _ _ => augD_mono fun _ => optQ_mono fun _ => putO_mono fun _ => h.nx _
      · exact id
    · exact id
  | .ex e, ρ, K, K', h, q => by
    unfold evS at q ⊢
    exact ev_mono G (fun _ _ => hold_mono fun _ _ => h.nx _) q
  | .ret e, ρ, K, K', h, q => by
    unfold evS at q ⊢
    exact ev_mono G (fun _ _ => asO_mono h.rt) q
  | .retN, ρ, K, K', h, q => h.rt _ _ q
  | .ife t a b, ρ, K, K', h, q => by
    unfold evS at q ⊢
    refine evT_mono G (fun c _ => ?_) q
    split
    · exact evB_mono G h
    · exact evB_mono G h
  | .for_ t it body, ρ, K, K', h, q => by
    unfold evS at q ⊢
    refine ev_mono G (fun _ _ => srcQ_mono fun _ _ _ => ?_) q
    refine loopS_mono (fun d ρ k k' hk => ?_) h.nx
    exact bindT_mono fun _ => evB_mono G (K := { nx := k, rt := K.rt, bk := K.nx, ct := k }) (K' := { nx := k', rt := K'.rt, bk := K'.nx, ct := k' }) ⟨hk, h.rt, h.nx, hk⟩
  | .while_ t body, ρ, K, K', h, q => by
    unfold evS at q ⊢
    obtain ⟨n, q⟩ := q
    refine ⟨n, loopW_mono (fun ρ k k' hk => ?_) (fun ρ k k' hk => ?_) h.nx q⟩
    · exact evT_mono G hk
    · exact evB_mono G (K := { nx := k, rt := K.rt, bk := K.nx, ct := k }) (K' := { nx := k', rt := K'.rt, bk := K'.nx, ct := k' }) ⟨hk, h.rt, h.nx, hk⟩
  | .pass, _, _, _, h, q => h.nx _ q
  | .brk, _, _, _, h, q => h.bk _ q
  | .cont, _, _, _, h, q => h.ct _ q
  | .never, _, _, _, h, q => by
    unfold evS at q
    exact q.elim
theorem evB_mono (G : Gm) : ∀ {cs : List CS} {ρ : Env} {K K' : Kn}, K.Le K' → evB G cs ρ K → evB G cs ρ K'
  | [], _, _, _, h, q => h.nx _ q
  | _ :: cs, _, K, K', h, q => by
    unfold evB at q ⊢
    exact evS_mono G (K := { K with nx := fun ρ => evB G cs ρ K }) (K' := { K' with nx := fun ρ => evB G cs ρ K' }) ⟨fun _ => evB_mono G h, h.rt, h.bk, h.ct⟩ q
end
end VS

namespace VS
open PySem PySem.Spec PyProof.Rows L2
/-! ## places in the heap -/
def desc (H : Hp) : V → List Nat → V → Prop
  | v, [], u => v = u
  | v, n :: p, u => ∃ (a : Addr) (k : NK) (vs : List V) (w : V), v = .ref a ∧ H a = some (hoOf k vs) ∧ k.fit vs.length ∧ vs[n]? = some w ∧ desc H w p u
theorem zip_inj {α β : Type} : ∀ {ks ls : List α} {vs ws : List β}, ks.length = vs.length → ls.length = ws.length → ks.zip vs = ls.zip ws → ks = ls ∧ vs = ws
  | [], [], [], [], _, _, _ => ⟨rfl, rfl⟩
  | [], l :: ls, [], w :: ws, _, _, e => by simp at e
  | k :: ks, [], v :: vs, [], _, _, e => by simp at e
  | k :: ks, l :: ls, v :: vs, w :: ws, h1, h2, e => by
    rw [List.zip_cons_cons, List.zip_cons_cons] at e
    obtain ⟨e1, e2⟩ := List.cons.inj e
    obtain ⟨r1, r2⟩ := zip_inj (by simpa using h1) (by simpa using h2) e2
    obtain ⟨q1, q2⟩ := Prod.mk.inj e1
    exact ⟨by rw [q1, r1], by rw [q2, r2]⟩
  | [], _, _ :: _, _, h, _, _ => by simp at h
  | _ :: _, _, [], _, h, _, _ => by simp at h
  | _, [], _, _ :: _, _, h, _ => by simp at h
  | _, _ :: _, _, [], _, h, _ => by simp at h
theorem hoOf_inj {k k' : NK} {vs ws : List V} (f : k.fit vs.length) (f' : k'.fit ws.length) (e : hoOf k vs = hoOf k' ws) : vs = ws := by
  cases k <;> cases k' <;> first
    | exact HO.lst.inj e
    | exact HO.tup.inj e
    | exact (zip_inj f.1 f'.1 (HO.dK.inj e)).2
    | exact (zip_inj f.1 f'.1 (HO.dT.inj e)).2
    | (simp [hoOf] at e)
theorem desc_inj {H : Hp} : ∀ {p : List Nat} {v u w : V}, desc H v p u → desc H v p w → u = w
  | [], _, _, _, a, b => a.symm.trans b
  | n :: p, _, _, _, ⟨a, k, vs, x, e1, e2, f, e3, d⟩, ⟨b, k', ws, y, g1, g2, f', g3, d'⟩ => by
    rw [e1] at g1
    cases g1
    rw [e2] at g2
    have z := hoOf_inj f f' (Option.some.inj g2)
    subst z
    rw [e3] at g3
    cases g3
    exact desc_inj d d'
theorem desc_sub {H H' : Hp} (s : Sub H H') : ∀ {p : List Nat} {v u : V}, desc H v p u → desc H' v p u
  | [], _, _, a => a
  | n :: p, _, _, ⟨a, k, vs, x, e1, e2, f, e3, d⟩ => ⟨a, k, vs, x, e1, s _ _ e2, f, e3, desc_sub s d⟩
theorem desc_snoc {H : Hp} : ∀ {p : List Nat} {v u w : V} {n : Nat}, desc H v p u → desc H u [n] w → desc H v (p ++ [n]) w
  | [], _, _, _, _, a, b => by
    cases a
    exact b
  | n :: p, _, _, _, _, ⟨a, k, vs, x, e1, e2, f, e3, d⟩, b => ⟨a, k, vs, x, e1, e2, f, e3, desc_snoc d b⟩
section
variable {K : PySem.W.Frag} {F F' H H' : Hp}
theorem OwnL.hole : ∀ {A : List Addr} {xs : List (Option V)} {os : List O} {n : Nat} {o : O}, OwnL K F H A xs os → os[n]? = some o →
    ∃ (B C : List Addr) (x : Option V), xs[n]? = some x ∧ A.Perm (B ++ C) ∧ Own K F H B x o ∧
      ∀ (F' H' : Hp) (u : O) (D : List Addr), Sub F F' → (∀ a, a ∈ C → H' a = H a) → Own K F' H' D x u → ∃ E, E.Perm (D ++ C) ∧ OwnL K F' H' E xs (os.set n u)
  | _, _, _, _, _, .nil, e => by simp at e
  | _, _, _, 0, o, .cons (A := A) (B := B) a l, e => by
    simp at e
    subst e
    refine ⟨A, B, _, rfl, .refl _, a, fun F' H' u D s k h => ⟨D ++ B, .refl _, ?_⟩⟩
    exact .cons h (l.frame s k)
  | _, _, _, n + 1, o, .cons (A := A) (B := B) a l, e => by
    obtain ⟨B1, C1, x, ex, p, h, fill⟩ := OwnL.hole l (n := n) (by simpa using e)
    refine ⟨B1, A ++ C1, x, by simpa using ex, ?_, h, fun F' H' u D s k hu => ?_⟩
    · refine (List.Perm.append_left A p).trans ?_
      rw [← List.append_assoc, ← List.append_assoc]
      exact List.Perm.append_right _ List.perm_append_comm
    · obtain ⟨E, pE, hE⟩ := fill F' H' u D s (fun b hb => k b (List.mem_append_right _ hb)) hu
      refine ⟨A ++ E, ?_, .cons (a.frame s fun b hb => k b (List.mem_append_left _ hb)) hE⟩
      refine (List.Perm.append_left A pE).trans ?_
      rw [← List.append_assoc, ← List.append_assoc]
      exact List.Perm.append_right _ List.perm_append_comm
theorem Own.hole : ∀ {p : List Nat} {A : List Addr} {v : V} {o o1 : O}, Own K F H A (some v) o → o.getP p = some o1 →
    ∃ (B C : List Addr) (u : V), A.Perm (B ++ C) ∧ desc H v p u ∧ Own K F H B (some u) o1 ∧
      ∀ (F' H' : Hp) (o2 : O) (D : List Addr), Sub F F' → (∀ a, a ∈ C → H' a = H a) → Own K F' H' D (some u) o2 → ∃ E, E.Perm (D ++ C) ∧ Own K F' H' E (some v) (o.setP p o2)
  | [], A, v, o, o1, h, g => by
    unfold O.getP at g
    cases g
    refine ⟨A, [], v, by simp, rfl, h, fun F' H' o2 D s k h2 => ⟨D, by simp, ?_⟩⟩
    unfold O.setP
    exact h2
  | n :: p, A, v, o, o1, h, g => by
    cases h with
    | dat _ => unfold O.getP at g; cases g
    | un => unfold O.getP at g; cases g
    | @nd a k vs os A1 ha hl hf l =>
      cases e : os[n]? with
      | none =>
        unfold O.getP at g
        simp only [e] at g
        cases g
      | some o' =>
        have g' : o'.getP p = some o1 := by
          unfold O.getP at g
          simp only [e] at g
          exact g
        obtain ⟨B, C, x, ex, pA, hB, fill⟩ := OwnL.hole l e
        obtain ⟨w, ew, hw⟩ : ∃ w, x = some w ∧ vs[n]? = some w := by
          rw [List.getElem?_map] at ex
          cases q : vs[n]? with
          | none => rw [q] at ex; cases ex
          | some w => rw [q] at ex; cases ex; exact ⟨w, rfl, rfl⟩
        subst ew
        obtain ⟨B2, C2, u, p2, d, h2, fill2⟩ := Own.hole hB g'
        refine ⟨B2, a :: (C2 ++ C), u, ?_, ⟨a, k, vs, w, rfl, ha, by rw [hl]; exact hf, hw, d⟩, h2, fun F' H' o2 D s kk hu => ?_⟩
        · refine (List.Perm.cons a (pA.trans (List.Perm.append_right C p2))).trans ?_
          rw [List.append_assoc]
          exact (List.perm_middle).symm
        · obtain ⟨E2, q2, w2⟩ := fill2 F' H' o2 D s (fun b hb => kk b (List.mem_cons_of_mem _ (List.mem_append_left _ hb))) hu
          obtain ⟨E, q, w⟩ := fill F' H' _ E2 s (fun b hb => kk b (List.mem_cons_of_mem _ (List.mem_append_right _ hb))) w2
          refine ⟨a :: E, ?_, ?_⟩
          · refine (List.Perm.cons a (q.trans (List.Perm.append_right C q2))).trans ?_
            rw [List.append_assoc]
            exact (List.perm_middle).symm
          · have es : (O.nd k os).setP (n :: p) o2 = .nd k (os.set n (o'.setP p o2)) := by
              show (match os[n]? with | some o' => O.nd k (os.set n (o'.setP p o2)) | none => _) = _
              rw [e]
            rw [es]
            exact .nd ((kk a List.mem_cons_self).trans ha) (by simpa using hl) (by simpa using hf) w
/-- a view of an owned tree -/
theorem Own.view {A : List Addr} {v : V} {o : O} {d : PyData} (h : Own K F H A (some v) o) (e : o.flat = some d) : View K F H v d := by
  cases h with
  | un => cases e
  | dat h =>
    cases e
    exact .frz h
  | @nd a k vs os A1 ha hl hf l =>
    have ne : k ≠ .tup := fun z => by subst z; cases e
    have e' : (datL os).map k.mk = some d := by
      cases k <;> first | exact e | exact absurd rfl ne
    cases q : datL os with
    | none => rw [q] at e'; cases e'
    | some ds =>
      rw [q] at e'
      cases e'
      have eo := datL_eq q
      subst eo
      obtain ⟨_, l'⟩ := OwnL.data l
      exact .own ne ha (by rw [hl]; exact hf) l'
end
/-! ### the state's items -/
theorem its_get {sg : L2.St} {ρ : Env} {T : Its} {i : Nat} {x : Option V} {o : O} (h1 : sg[i]? = some x) (h2 : ρ[i]? = some o) : (sg.zip ρ ++ T)[i]? = some (x, o) := by
  have l1 := (List.getElem?_eq_some_iff.mp h1).1
  have l2 := (List.getElem?_eq_some_iff.mp h2).1
  rw [List.getElem?_append_left (by rw [List.length_zip]; omega)]
  simp [List.zip, List.getElem?_zipWith, h1, h2]
theorem zip_set2 : ∀ {sg : L2.St} {ρ : Env} {i : Nat} {x : Option V} {o : O}, (sg.set i x).zip (ρ.set i o) = (sg.zip ρ).set i (x, o)
  | [], ρ, i, x, o => by simp
  | y :: sg, [], i, x, o => by simp
  | y :: sg, u :: ρ, 0, x, o => by simp
  | y :: sg, u :: ρ, i + 1, x, o => by simp [zip_set2]
theorem set_same {α : Type} : ∀ {l : List α} {i : Nat} {a : α}, l[i]? = some a → l.set i a = l
  | [], _, _, h => by simp at h
  | b :: l, 0, a, h => by simp at h; subst h; simp
  | b :: l, i + 1, a, h => by
    rw [List.set_cons_succ, set_same (by simpa using h)]
theorem its_set {sg : L2.St} {ρ : Env} {T : Its} {i : Nat} {x : Option V} {o : O} (h1 : sg[i]? = some x) (hi : i < ρ.length) : (sg.zip ρ ++ T).set i (x, o) = sg.zip (ρ.set i o) ++ T := by
  have l1 := (List.getElem?_eq_some_iff.mp h1).1
  have z := zip_set2 (sg := sg) (ρ := ρ) (i := i) (x := x) (o := o)
  rw [set_same h1] at z
  rw [z, List.set_append_left _ _ (by rw [List.length_zip]; omega)]
section
variable {K : PySem.W.Frag} {F F' H H' : Hp} {its tmp outs : Its} {i : Nat} {v : V} {o o1 : O} {p : List Nat}
theorem map_get_fst {its : Its} {i : Nat} {x : Option V × O} (h : its[i]? = some x) : (its.map (·.1))[i]? = some x.1 := by rw [List.getElem?_map, h]; rfl
theorem map_get_snd {its : Its} {i : Nat} {x : Option V × O} (h : its[i]? = some x) : (its.map (·.2))[i]? = some x.2 := by rw [List.getElem?_map, h]; rfl
theorem map_set_fst {its : Its} {i : Nat} {x : Option V} {o u : O} (h : its[i]? = some (x, o)) : (its.set i (x, u)).map (·.1) = its.map (·.1) := by
  rw [List.map_set]
  exact set_same (a := x) (by rw [map_get_fst h])
theorem perm3 {α : Type} {A B C : List α} : (A ++ (B ++ C)).Perm ((B ++ A) ++ C) := by
  rw [← List.append_assoc]
  exact List.Perm.append_right _ List.perm_append_comm
/-- looking at a place -/
theorem Rel.at (r : Rel K F H its) (e : its[i]? = some (some v, o)) (g : o.getP p = some o1) : ∃ u A, desc H v p u ∧ Own K F H A (some u) o1 := by
  obtain ⟨s, A, h, n, f⟩ := r
  obtain ⟨B, C, x, ex, pA, hB, _⟩ := OwnL.hole h (map_get_snd e)
  rw [map_get_fst e] at ex
  cases ex
  obtain ⟨B2, C2, u, _, d, h2, _⟩ := Own.hole hB g
  exact ⟨u, B2, d, h2⟩
theorem Rel.view (r : Rel K F H its) (e : its[i]? = some (some v, o)) (g : o.getP p = some o1) {d : PyData} (hd : o1.flat = some d) : ∃ u, desc H v p u ∧ View K F H u d := by
  obtain ⟨u, A, d1, h⟩ := r.at e g
  exact ⟨u, d1, h.view hd⟩
/-- freezing a place -/
theorem Rel.freezeAt (r : Rel K F H its) (e : its[i]? = some (some v, o)) (g : o.getP p = some o1) {d : PyData} (hd : o1.toD = some d) :
    ∃ F' u, Sub F F' ∧ desc H v p u ∧ Dn K F' u d ∧ Rel K F' H (its.set i (some v, o.setP p (.dat d))) := by
  obtain ⟨s, A, h, n, f⟩ := r
  obtain ⟨B, C, x, ex, pA, hB, fill⟩ := OwnL.hole h (map_get_snd e)
  rw [map_get_fst e] at ex
  cases ex
  obtain ⟨B2, C2, u, pB, d1, h2, fill2⟩ := Own.hole hB g
  have pT : A.Perm (B2 ++ (C2 ++ C)) := by
    have z := pA.trans (List.Perm.append_right C pB)
    rwa [List.append_assoc] at z
  have nT := pT.nodup_iff.mp n
  have ndp := List.nodup_append.mp nT
  have s1 : Sub F (fun b => if b ∈ B2 then H b else F b) := fun b w eb => by
    by_cases hb : b ∈ B2
    · show (if b ∈ B2 then H b else F b) = some w
      rw [if_pos hb]; exact s b w eb
    · show (if b ∈ B2 then H b else F b) = some w
      rw [if_neg hb]; exact eb
  obtain ⟨u', eu, q⟩ := h2.freeze s1 hd fun b hb => if_pos hb
  cases eu
  obtain ⟨E2, q2, w2⟩ := fill2 _ H (.dat d) [] s1 (fun _ _ => rfl) (.dat q)
  obtain ⟨E, qE, wE⟩ := fill _ H _ E2 s1 (fun _ _ => rfl) w2
  have pE : E.Perm (C2 ++ C) := qE.trans (List.Perm.append_right C (by simpa using q2))
  refine ⟨_, u, s1, d1, q, fun b w eb => ?_, E, ?_, pE.nodup_iff.mpr ndp.2.1, fun b hb => ?_⟩
  · by_cases hb : b ∈ B2
    · have e' : (if b ∈ B2 then H b else F b) = some w := eb
      rw [if_pos hb] at e'; exact e'
    · have e' : (if b ∈ B2 then H b else F b) = some w := eb
      rw [if_neg hb] at e'; exact s b w e'
  · rw [map_set_fst e, List.map_set]
    exact wE
  · have hb' : b ∈ C2 ++ C := pE.mem_iff.mp hb
    have hb1 : b ∉ B2 := fun z => ndp.2.2 b z b hb' rfl
    show (if b ∈ B2 then H b else F b) = none
    rw [if_neg hb1]
    exact f b (pT.mem_iff.mpr (List.mem_append_right _ hb'))
theorem zipS_fst {vs : List V} {os : List O} (h : vs.length = os.length) : ((vs.map some).zip os).map (·.1) = vs.map some := zip_fst h
theorem OwnL.split : ∀ {xs ys : List (Option V)} {os ps : List O} {A : List Addr}, xs.length = os.length → OwnL K F H A (xs ++ ys) (os ++ ps) → ∃ B C, A = B ++ C ∧ OwnL K F H B xs os ∧ OwnL K F H C ys ps
  | [], _, [], _, A, _, h => ⟨[], A, rfl, .nil, h⟩
  | x :: xs, ys, o :: os, ps, _, hl, .cons a l => by
    obtain ⟨B, C, e, h1, h2⟩ := OwnL.split (xs := xs) (os := os) (by simpa using hl) l
    subst e
    exact ⟨_, C, by rw [List.append_assoc], .cons a h1, h2⟩
  | [], _, _ :: _, _, _, hl, _ => by simp at hl
  | _ :: _, _, [], _, _, hl, _ => by simp at hl
/-- an object at a place is changed: its new children and what comes out are old children and temporaries -/
theorem Rel.mutate {k : NK} {os : List O} {a : Addr} (r : Rel K F H (tmp ++ its)) (e : its[i]? = some (some v, o)) (g : o.getP p = some (.nd k os)) (hd : desc H v p (.ref a)) :
    ∃ vs, H a = some (hoOf k vs) ∧ vs.length = os.length ∧ k.fit vs.length ∧
      ∀ (outs rst : Its) (k' : NK) (vs' : List V) (os' : List O), vs'.length = os'.length → k'.fit os'.length → (((vs'.map some).zip os' ++ outs) ++ rst).Perm ((vs.map some).zip os ++ tmp) →
        Rel K F (upd H a (hoOf k' vs')) (outs ++ its.set i (some v, o.setP p (.nd k' os'))) := by
  obtain ⟨s, A, h, n, f⟩ := r
  rw [List.map_append, List.map_append] at h
  obtain ⟨At, Ai, eA, ht, hi⟩ := OwnL.split (by simp) h
  subst eA
  obtain ⟨B, C, x, ex, pA, hB, fill⟩ := OwnL.hole hi (map_get_snd e)
  rw [map_get_fst e] at ex
  cases ex
  obtain ⟨B2, C2, u, pB, d1, h2, fill2⟩ := Own.hole hB g
  obtain rfl := desc_inj hd d1
  cases h2 with
  | @nd _ _ vs _ Ac ha hl hf l =>
    have pT : (At ++ Ai).Perm (At ++ (a :: Ac ++ (C2 ++ C))) := List.Perm.append_left At (by
      have z := pA.trans (List.Perm.append_right C pB)
      rwa [List.append_assoc] at z)
    have nT := pT.nodup_iff.mp n
    refine ⟨vs, ha, hl, by rw [hl]; exact hf, fun outs rst k' vs' os' hl' hf' pm => ?_⟩
    have hcs : OwnL K F H (Ac ++ At) (((vs.map some).zip os ++ tmp).map (·.1)) (((vs.map some).zip os ++ tmp).map (·.2)) := by
      rw [List.map_append, List.map_append, zip_fst hl, zip_snd hl]
      exact l.append ht
    obtain ⟨G, pG, hG⟩ := hcs.perm pm.symm
    rw [List.map_append, List.map_append, List.map_append, List.map_append, zip_fst hl', zip_snd hl'] at hG
    obtain ⟨Gco, Gr, eG, hco, _⟩ := OwnL.split (by simp [hl']) hG
    obtain ⟨Gc, Go, eGc, hc, ho⟩ := OwnL.split (by simp [hl']) hco
    subst eGc
    subst eG
    have nA : (a :: ((Gc ++ Go ++ Gr) ++ (C2 ++ C))).Nodup := by
      have q1 : (At ++ (a :: Ac ++ (C2 ++ C))).Perm (a :: ((Ac ++ At) ++ (C2 ++ C))) := by
        exact List.perm_middle.trans (List.Perm.cons a perm3)
      have q2 := q1.trans (List.Perm.cons a (List.Perm.append_right (C2 ++ C) pG))
      exact q2.nodup_iff.mp nT
    obtain ⟨na, nR⟩ := List.nodup_cons.mp nA
    have notA : ∀ b, b ∈ (Gc ++ Go ++ Gr) ++ (C2 ++ C) → b ≠ a := fun b hb z => na (z ▸ hb)
    have inA : ∀ b, b ∈ a :: ((Gc ++ Go ++ Gr) ++ (C2 ++ C)) → F b = none := fun b hb => f b (pT.mem_iff.mpr (by
      rcases List.mem_cons.mp hb with z | z
      · rw [z]; simp
      · rcases List.mem_append.mp z with z | z
        · have := pG.mem_iff.mpr z
          rcases List.mem_append.mp this with y | y
          · simp [y]
          · simp [y]
        · have z' : b ∈ C2 ∨ b ∈ C := List.mem_append.mp z
          rcases z' with y | y <;> simp [y]))
    have agree : ∀ b, b ∈ (Gc ++ Go ++ Gr) ++ (C2 ++ C) → upd H a (hoOf k' vs') b = H b := fun b hb => upd_ne (notA b hb)
    have hnode : Own K F (upd H a (hoOf k' vs')) (a :: Gc) (some (.ref a)) (.nd k' os') :=
      .nd upd_same hl' hf' (hc.frame (.refl _) fun b hb => agree b (by simp [hb]))
    obtain ⟨E2, q2, w2⟩ := fill2 F _ _ _ (.refl _) (fun b hb => agree b (by simp [hb])) hnode
    obtain ⟨E, qE, wE⟩ := fill F _ _ _ (.refl _) (fun b hb => agree b (by simp [hb])) w2
    have pE : E.Perm ((a :: Gc) ++ (C2 ++ C)) := by
      have z := qE.trans (List.Perm.append_right C q2)
      rwa [List.append_assoc] at z
    have ho' := ho.frame (F' := F) (H' := upd H a (hoOf k' vs')) (.refl _) fun b hb => agree b (by simp [hb])
    have pF : (Go ++ E).Perm (a :: ((Gc ++ Go) ++ (C2 ++ C))) := by
      refine (List.Perm.append_left Go pE).trans ?_
      exact List.perm_middle.trans (List.Perm.cons a perm3)
    have sl : (a :: ((Gc ++ Go) ++ (C2 ++ C))).Sublist (a :: ((Gc ++ Go ++ Gr) ++ (C2 ++ C))) :=
      List.Sublist.cons_cons a (List.Sublist.append_right (List.sublist_append_left _ _) _)
    refine ⟨s.upd (inA a List.mem_cons_self), Go ++ E, ?_, pF.nodup_iff.mpr (nA.sublist sl), fun b hb => inA b (sl.subset (pF.mem_iff.mp hb))⟩
    rw [List.map_append, List.map_append, map_set_fst e, List.map_set]
    exact ho'.append wE
end
end VS

namespace VS
open PySem PySem.Spec PyProof.Rows L2
/-! ## results against the heap -/
def RelR (K : PySem.W.Frag) (F H : Hp) (sg : L2.St) (ρ : Env) (T : Its) (v : V) : R → Prop
  | .own o => Rel K F H ((some v, o) :: (sg.zip ρ ++ T))
  | .pl i p => Rel K F H (sg.zip ρ ++ T) ∧ ∃ v0, sg[i]? = some (some v0) ∧ desc H v0 p v
  | _ => False
/-- a held result: data, or a place -/
def Held (K : PySem.W.Frag) (F H : Hp) (sg : L2.St) (v : V) : R → Prop
  | .own o => ∃ d, o = .dat d ∧ Dn K F v d
  | .pl i p => ∃ v0, sg[i]? = some (some v0) ∧ desc H v0 p v
  | _ => False
section
variable {K : PySem.W.Frag} {F F' H H' : Hp} {sg : L2.St} {ρ : Env} {T : Its} {v : V} {r : R}
theorem setS_len {i : Nat} {p : List Nat} {z : O} : (setS ρ i p z).length = ρ.length := by
  unfold setS
  split
  · simp
  · rfl
theorem getS_some {i : Nat} {p : List Nat} {o : O} (h : getS ρ i p = some o) : ∃ o0, ρ[i]? = some o0 ∧ o0.getP p = some o := by
  unfold getS at h
  split at h
  · exact ⟨_, by assumption, h⟩
  · cases h
theorem setS_eq {i : Nat} {p : List Nat} {o z : O} (h : ρ[i]? = some o) : setS ρ i p z = ρ.set i (o.setP p z) := by
  unfold setS
  rw [h]
theorem lt_of_get {α : Type} {l : List α} {i : Nat} {a : α} (h : l[i]? = some a) : i < l.length := (List.getElem?_eq_some_iff.mp h).1
theorem asD_sound {Q : PyData → Env → Prop} (h : asD r ρ Q) (q : RelR K F H sg ρ T v r) : ∃ F' d ρ', Sub F F' ∧ Dn K F' v d ∧ Rel K F' H (sg.zip ρ' ++ T) ∧ ρ'.length = ρ.length ∧ Q d ρ' := by
  cases r with
  | own o =>
    have h : (match o.toD with | some d => Q d ρ | none => False) := h
    cases e : o.toD with
    | none => rw [e] at h; exact h.elim
    | some d =>
      rw [e] at h
      obtain ⟨F', w, s, ew, dn, r'⟩ := Rel.freeze q e
      cases ew
      exact ⟨F', d, ρ, s, dn, r', rfl, h⟩
  | pl i p =>
    obtain ⟨q, v0, ev, d⟩ := q
    unfold asD at h
    simp only at h
    cases e1 : getS ρ i p with
    | none => rw [e1] at h; exact h.elim
    | some o =>
      rw [e1] at h
      simp only at h
      cases e : o.toD with
      | none => rw [e] at h; exact h.elim
      | some dd =>
        rw [e] at h
        obtain ⟨o0, e2, e3⟩ := getS_some e1
        obtain ⟨F', u, s, d1, dn, r'⟩ := Rel.freezeAt q (its_get ev e2) e3 e
        obtain rfl := desc_inj d d1
        refine ⟨F', dd, _, s, dn, ?_, setS_len, h⟩
        rw [setS_eq e2, ← its_set ev (lt_of_get e2)]
        exact r'
  | it ds => exact h.elim
  | iv i ds => exact h.elim
theorem asO_sound {Q : O → Env → Prop} (h : asO r ρ Q) (q : RelR K F H sg ρ T v r) : ∃ F' o ρ', Sub F F' ∧ Rel K F' H ((some v, o) :: (sg.zip ρ' ++ T)) ∧ ρ'.length = ρ.length ∧ Q o ρ' := by
  cases r with
  | own o => exact ⟨F, o, ρ, .refl _, q, rfl, h⟩
  | pl i p =>
    obtain ⟨F', d, ρ', s, dn, r', l, h'⟩ := asD_sound (r := .pl i p) (Q := fun d ρ => Q (.dat d) ρ) h q
    exact ⟨F', .dat d, ρ', s, r'.cons_dat dn, l, h'⟩
  | it ds => exact h.elim
  | iv i ds => exact h.elim
theorem hold_sound {Q : R → Env → Prop} (h : hold r ρ Q) (q : RelR K F H sg ρ T v r) : ∃ F' r' ρ', Sub F F' ∧ Rel K F' H (sg.zip ρ' ++ T) ∧ ρ'.length = ρ.length ∧ Held K F' H sg v r' ∧ Q r' ρ' := by
  cases r with
  | own o =>
    obtain ⟨F', d, ρ', s, dn, r', l, h'⟩ := asD_sound (r := .own o) (Q := fun d ρ => Q (.own (.dat d)) ρ) h q
    exact ⟨F', .own (.dat d), ρ', s, r', l, ⟨d, rfl, dn⟩, h'⟩
  | pl i p => exact ⟨F, .pl i p, ρ, .refl _, q.1, rfl, q.2, h⟩
  | it ds => exact h.elim
  | iv i ds => exact h.elim
theorem Held.keep (h : Held K F H sg v r) (s : Sub F F') (st : shallow r = true ∨ Sub H H') : Held K F' H' sg v r := by
  cases r with
  | own o =>
    obtain ⟨d, e, dn⟩ := h
    exact ⟨d, e, dn.mono s⟩
  | pl i p =>
    obtain ⟨v0, e, d⟩ := h
    refine ⟨v0, e, ?_⟩
    rcases st with st | st
    · cases p with
      | nil => exact d
      | cons n p => cases st
    · exact desc_sub st d
  | it ds => exact h.elim
  | iv i ds => exact h.elim
theorem Held.relR (h : Held K F H sg v r) (q : Rel K F H (sg.zip ρ ++ T)) : RelR K F H sg ρ T v r := by
  cases r with
  | own o =>
    obtain ⟨d, e, dn⟩ := h
    subst e
    exact q.cons_dat dn
  | pl i p => exact ⟨q, h⟩
  | it ds => exact h.elim
  | iv i ds => exact h.elim
theorem Held.view {d : PyData} (h : Held K F H sg v r) (q : Rel K F H (sg.zip ρ ++ T)) (e : vw r ρ = some d) : View K F H v d := by
  cases r with
  | own o =>
    obtain ⟨d', eo, dn⟩ := h
    subst eo
    cases (show some d' = some d from e)
    exact .frz dn
  | pl i p =>
    obtain ⟨v0, ev, dd⟩ := h
    unfold vw at e
    simp only at e
    cases e1 : getS ρ i p with
    | none => rw [e1] at e; cases e
    | some o =>
      rw [e1] at e
      obtain ⟨o0, e2, e3⟩ := getS_some e1
      obtain ⟨u, d1, w⟩ := q.view (its_get ev e2) e3 e
      obtain rfl := desc_inj dd d1
      exact w
  | it ds => exact h.elim
  | iv i ds => exact h.elim
end
/-! ## readings -/
def tE (K : PySem.W.Frag) (G : Gm) (c : CE) : TE := fun sg H Q => ∃ (ρ : Env) (T : Its) (F : Hp), sg.length = ρ.length ∧ Rel K F H (sg.zip ρ ++ T) ∧
  ev G c ρ fun r ρ' => ∀ v F' H', Sub F F' → (pureE c = true → Sub H H') → ρ'.length = ρ.length → RelR K F' H' sg ρ' T v r → Q v H'
def tT (K : PySem.W.Frag) (G : Gm) (c : CE) : TT := fun sg H Q => ∃ (ρ : Env) (T : Its) (F : Hp), sg.length = ρ.length ∧ Rel K F H (sg.zip ρ ++ T) ∧
  evT G c ρ fun b ρ' => ∀ F' H', Sub F F' → (pureE c = true → Sub H H') → ρ'.length = ρ.length → Rel K F' H' (sg.zip ρ' ++ T) → Q b H'
theorem PE.weak {X : Cx} {e : Expr} {t t' : TE} (h : PE X e t) (w : ∀ sg H Q, t' sg H Q → t sg H Q) : PE X e t' := ⟨fun pn st sg H Q I q => h.run pn st sg H Q I (w _ _ _ q)⟩
theorem PT.weak {X : Cx} {e : Expr} {t t' : TT} (h : PT X e t) (w : ∀ sg H Q, t' sg H Q → t sg H Q) : PT X e t' := ⟨fun pn st sg H Q I q => h.run pn st sg H Q I (w _ _ _ q)⟩
section
variable {K : PySem.W.Frag} {G : Gm} {sg : L2.St} {H : Hp} {ρ : Env} {T : Its} {F : Hp}
theorem use {c : CE} {Kc : R → Env → Prop} {Q : VK} (hl : sg.length = ρ.length) (r : Rel K F H (sg.zip ρ ++ T)) (e : ev G c ρ Kc)
    (h : ∀ r ρ' v F' H', Kc r ρ' → Sub F F' → (pureE c = true → Sub H H') → ρ'.length = ρ.length → RelR K F' H' sg ρ' T v r → Q v H') : tE K G c sg H Q :=
  ⟨ρ, T, F, hl, r, ev_mono G (fun r ρ' kc v F' H' s p l q => h r ρ' v F' H' kc s p l q) e⟩
theorem useT {c : CE} {Kc : Bool → Env → Prop} {Q : Bool → Hp → Prop} (hl : sg.length = ρ.length) (r : Rel K F H (sg.zip ρ ++ T)) (e : evT G c ρ Kc)
    (h : ∀ b ρ' F' H', Kc b ρ' → Sub F F' → (pureE c = true → Sub H H') → ρ'.length = ρ.length → Rel K F' H' (sg.zip ρ' ++ T) → Q b H') : tT K G c sg H Q :=
  ⟨ρ, T, F, hl, r, evT_mono G (fun b ρ' kc F' H' s p l q => h b ρ' F' H' kc s p l q) e⟩
/-- .. as data -/
theorem useD {c : CE} {Kc : PyData → Env → Prop} {Q : VK} (hl : sg.length = ρ.length) (r : Rel K F H (sg.zip ρ ++ T)) (e : ev G c ρ fun r ρ => asD r ρ Kc)
    (h : ∀ d ρ' v F' H', Kc d ρ' → Sub F F' → (pureE c = true → Sub H H') → ρ'.length = ρ.length → Rel K F' H' (sg.zip ρ' ++ T) → Dn K F' v d → Q v H') : tE K G c sg H Q :=
  use hl r e fun r ρ' v F' H' kc s p l q => by
    obtain ⟨F2, d, ρ2, s2, dn, r2, l2, k2⟩ := asD_sound kc q
    exact h d ρ2 v F2 H' k2 (s.trans s2) p (l2.trans l) r2 dn
theorem useO {c : CE} {Kc : O → Env → Prop} {Q : VK} (hl : sg.length = ρ.length) (r : Rel K F H (sg.zip ρ ++ T)) (e : ev G c ρ fun r ρ => asO r ρ Kc)
    (h : ∀ o ρ' v F' H', Kc o ρ' → Sub F F' → (pureE c = true → Sub H H') → ρ'.length = ρ.length → Rel K F' H' ((some v, o) :: (sg.zip ρ' ++ T)) → Q v H') : tE K G c sg H Q :=
  use hl r e fun r ρ' v F' H' kc s p l q => by
    obtain ⟨F2, o, ρ2, s2, r2, l2, k2⟩ := asO_sound kc q
    exact h o ρ2 v F2 H' k2 (s.trans s2) p (l2.trans l) r2
theorem useH {c : CE} {Kc : R → Env → Prop} {Q : VK} (hl : sg.length = ρ.length) (r : Rel K F H (sg.zip ρ ++ T)) (e : ev G c ρ fun r ρ => hold r ρ Kc)
    (h : ∀ r ρ' v F' H', Kc r ρ' → Sub F F' → (pureE c = true → Sub H H') → ρ'.length = ρ.length → Rel K F' H' (sg.zip ρ' ++ T) → Held K F' H' sg v r → Q v H') : tE K G c sg H Q :=
  use hl r e fun r ρ' v F' H' kc s p l q => by
    obtain ⟨F2, r2, ρ2, s2, q2, l2, hd, k2⟩ := hold_sound kc q
    exact h r2 ρ2 v F2 H' k2 (s.trans s2) p (l2.trans l) q2 hd
end
theorem vwQ_some {r : R} {ρ : Env} {Q : PyData → Prop} (h : vwQ r ρ Q) : ∃ d, vw r ρ = some d ∧ Q d := optQ_some h
theorem and_l {a b : Bool} (h : (a && b) = true) : a = true := (Bool.and_eq_true_iff.mp h).1
theorem and_r {a b : Bool} (h : (a && b) = true) : b = true := (Bool.and_eq_true_iff.mp h).2
section
variable {X : Cx} {G : Gm} {e1 e2 e3 : Expr} {a b c : CE} {pos : Pos}
theorem vs_bin {op : Operator} (ha : PE X e1 (tE X.K G a)) (hb : PE X e2 (tE X.K G b)) : PE X (.BinOp e1 op e2 pos) (tE X.K G (.bin op a b)) := by
  refine PE.weak (pe_op op_binD ha hb) fun sg H Q ⟨ρ, T, F, hl, r, e⟩ => ?_
  unfold ev at e
  refine useH hl r e fun ra ρ1 v1 F1 H1 k1 s1 p1 l1 r1 h1 => ?_
  refine useH (by rw [l1]; exact hl) r1 k1 fun rb ρ2 v2 F2 H2 k2 s2 p2 l2 r2 h2 => ?_
  obtain ⟨st, k2⟩ := k2
  obtain ⟨da, ea, k2⟩ := vwQ_some k2
  obtain ⟨db, eb, k2⟩ := vwQ_some k2
  have h1' := h1.keep (H' := H2) s2 (st.imp id p2)
  refine ⟨F2, da, db, r2.sub, h1'.view r2 ea, h2.view r2 eb, binD_mono (fun o q z H3 res => ?_) k2⟩
  obtain ⟨F3, s3, sH, r3⟩ := res.rel r2
  exact q z F3 H3 ((s1.trans s2).trans s3) (fun p => ((p1 (and_l p)).trans (p2 (and_r p))).trans sH) (l2.trans l1) r3
theorem vs_non {k : Nat} : PE X (.Constant .none k pos) (tE X.K G .non) :=
  PE.weak pe_non fun sg H Q ⟨ρ, T, F, hl, r, e⟩ => e _ F H (.refl _) (fun _ => .refl _) rfl (r.cons_dat .non)
theorem vs_bl {x : Bool} {k : Nat} : PE X (.Constant (.bool x) k pos) (tE X.K G (.bl x)) :=
  PE.weak pe_bl fun sg H Q ⟨ρ, T, F, hl, r, e⟩ => e _ F H (.refl _) (fun _ => .refl _) rfl (r.cons_dat (.bl _))
theorem vs_int {x : Int} {k : Nat} : PE X (.Constant (.int x) k pos) (tE X.K G (.int x)) :=
  PE.weak pe_int fun sg H Q ⟨ρ, T, F, hl, r, e⟩ => e _ F H (.refl _) (fun _ => .refl _) rfl (r.cons_dat (.int _))
theorem vs_str {x : Str} {k : Nat} : PE X (.Constant (.str x) k pos) (tE X.K G (.str x)) :=
  PE.weak pe_str fun sg H Q ⟨ρ, T, F, hl, r, e⟩ => e _ F H (.refl _) (fun _ => .refl _) rfl (r.cons_dat (.str _))
theorem vs_var {i : Nat} {x : Str} (hN : X.N[i]? = some x) (hv : Vis X.env.scope x) (hd : (x == ("__debug__" : Str)) = false) (hcd : (x == ("__classdict__" : Str)) = false) : PE X (.Name x pos) (tE X.K G (.var i)) := by
  refine PE.weak (pe_var hN hv hd hcd) fun sg H Q ⟨ρ, T, F, hl, r, e⟩ => ?_
  unfold ev at e
  have get : ∀ {o : O}, ρ[i]? = some o → ∃ x, sg[i]? = some x ∧ (sg.zip ρ ++ T)[i]? = some (x, o) := fun {o} q => by
    have z : i < sg.length := by rw [hl]; exact lt_of_get q
    exact ⟨sg[i], by simp [z], its_get (by simp [z]) q⟩
  split at e
  · rename_i d q
    obtain ⟨x, e1, e2⟩ := get q
    have r2 := r.perm (perm_eraseIdx e2)
    obtain ⟨v, ex, dn⟩ := Rel.dat r2
    subst ex
    exact ⟨v, e1, e v F H (.refl _) (fun _ => .refl _) rfl (r.cons_dat dn)⟩
  · rename_i k os q
    obtain ⟨x, e1, e2⟩ := get q
    have r2 := r.perm (perm_eraseIdx e2)
    obtain ⟨_, A, h, _, _⟩ := r2
    cases h with
    | cons a l =>
      cases a with
      | nd ha hl' hf l' => exact ⟨_, e1, e _ F H (.refl _) (fun _ => .refl _) rfl ⟨r, _, e1, rfl⟩⟩
  · exact e.elim
theorem vs_con {x : Str} {u : Value} {d : PyData} {v : V} (hg : Gl X x) (hm : X.mg x = some u) (rv : RelV v u) (hd : (x == ("__debug__" : Str)) = false) (hc : G.con x = some d) (dn : ∀ H, Dn X.K H v d) : PE X (.Name x pos) (tE X.K G (.con x)) := by
  refine PE.weak (pe_glob hg hm rv hd) fun sg H Q ⟨ρ, T, F, hl, r, e⟩ => ?_
  unfold ev at e
  rw [hc] at e
  exact e v F H (.refl _) (fun _ => .refl _) rfl (r.cons_dat (dn F))
theorem vs_neg (ha : PE X e1 (tE X.K G a)) : PE X (.UnaryOp .USub e1 pos) (tE X.K G (.neg a)) := by
  refine PE.weak (pe_un un_neg ha) fun sg H Q ⟨ρ, T, F, hl, r, e⟩ => ?_
  unfold ev at e
  refine useD hl r e fun d ρ1 v1 F1 H1 k1 s1 p1 l1 r1 h1 => ?_
  split at k1
  · cases h1
    exact ⟨_, rfl, k1 _ F1 H1 s1 p1 l1 (r1.cons_dat (.int _))⟩
  · exact k1.elim
/-! ### truth, and, or, not -/
theorem truD_tru {K : PySem.W.Frag} {F H : Hp} {v : V} {d : PyData} {Q : Bool → Prop} (s : Sub F H) (va : View K F H v d) (h : truD d Q) : ∃ k, TruV K v H k ∧ Q k ∧ ∀ Q' : Bool → Prop, truD d Q' → Q' k := by
  unfold truD at h
  split at h
  · obtain rfl := va.non
    exact ⟨false, rfl, h, fun _ q => q⟩
  · obtain rfl := va.bl
    exact ⟨_, rfl, h, fun _ q => q⟩
  · obtain rfl := va.int
    exact ⟨_, rfl, h, fun _ q => q⟩
  · obtain rfl := va.str
    exact ⟨_, ⟨h.1, rfl⟩, h.2, fun _ q => q.2⟩
  · obtain ⟨a, vs, rfl, ha, la⟩ := va.list s
    exact ⟨_, .inl ⟨vs, .inl ha, rfl⟩, by rw [la.isEmpty]; exact h, fun _ q => by rw [la.isEmpty]; exact q⟩
  · obtain ⟨a, vs, rfl, _, ha, la⟩ := va.tuple s
    exact ⟨_, .inr (.inl ⟨vs, ha, rfl⟩), by rw [la.isEmpty]; exact h, fun _ q => by rw [la.isEmpty]; exact q⟩
  · exact h.elim
theorem vs_nt (ha : PE X e1 (tE X.K G a)) : PE X (.UnaryOp .Not e1 pos) (tE X.K G (.nt a)) := by
  refine PE.weak (pe_notT ha) fun sg H Q ⟨ρ, T, F, hl, r, e⟩ => ?_
  unfold ev at e
  refine useH hl r e fun ra ρ1 v1 F1 H1 k1 s1 p1 l1 r1 h1 => ?_
  obtain ⟨d, ed, k1⟩ := vwQ_some k1
  obtain ⟨k, tk, q, _⟩ := truD_tru r1.sub (h1.view r1 ed) k1
  exact ⟨k, tk, q _ F1 H1 s1 p1 l1 (r1.cons_dat (.bl _))⟩
/-- a value as a test -/
theorem vs_test (ha : PE X e1 (tE X.K G a)) (he : ∀ whole, isTrue e1 X.env whole = (do let v ← whole; standAt e1.pos; holding [v] (truthy v))) : PT X e1 (tT X.K G a) := by
  refine PT.weak (pt_truth ha he) fun sg H Q ⟨ρ, T, F, hl, r, e⟩ => ?_
  refine useH hl r e fun ra ρ1 v1 F1 H1 k1 s1 p1 l1 r1 h1 => ?_
  obtain ⟨d, ed, k1⟩ := vwQ_some k1
  obtain ⟨k, tk, q, _⟩ := truD_tru r1.sub (h1.view r1 ed) k1
  exact ⟨k, tk, q F1 H1 s1 p1 l1 r1⟩
theorem evT_cmp {op : CmpOp} {ρ : Env} {Q : Bool → Env → Prop} (h : evT G (.cmp op a b) ρ Q) : ev G (.cmp op a b) ρ fun r ρ' => ∃ t, r = .own (.dat (.bool t)) ∧ Q t ρ' := by
  unfold evT at h
  unfold ev at h ⊢
  exact ev_mono G (fun _ _ => hold_mono fun _ _ => ev_mono G fun _ _ => hold_mono fun _ _ z => ⟨z.1, vwQ_mono (fun _ => vwQ_mono fun _ => cmpD_mono fun t q => ⟨t, rfl, q⟩) z.2⟩) h
theorem evT_chn {o1 o2 : CmpOp} {ρ : Env} {Q : Bool → Env → Prop} (h : evT G (.chn o1 o2 a b c) ρ Q) : ev G (.chn o1 o2 a b c) ρ fun r ρ' => ∃ t, r = .own (.dat (.bool t)) ∧ Q t ρ' := by
  unfold evT at h
  unfold ev at h ⊢
  refine ev_mono G (fun _ _ => asD_mono fun _ _ => ev_mono G fun _ _ => asD_mono fun _ _ => cmpD_mono fun t => ?_) h
  split
  · exact ev_mono G fun _ _ => asD_mono fun _ _ => cmpD_mono fun t q => ⟨t, rfl, q⟩
  · exact fun q => ⟨_, rfl, q⟩
theorem RelR.bool {K : PySem.W.Frag} {F H : Hp} {sg : L2.St} {ρ : Env} {T : Its} {v : V} {t : Bool} (h : RelR K F H sg ρ T v (.own (.dat (.bool t)))) : v = .bl t ∧ Rel K F H (sg.zip ρ ++ T) := by
  obtain ⟨w, e, d⟩ := Rel.dat h
  cases e
  cases d
  exact ⟨rfl, Rel.tail h⟩
theorem cmp_read {op : CmpOp} {sg : L2.St} {H : Hp} {Q : VK} (h : tE X.K G (.cmp op a b) sg H Q) : tOp (rCmp X.K op) (tE X.K G a) (tE X.K G b) sg H Q := by
  obtain ⟨ρ, T, F, hl, r, e⟩ := h
  unfold ev at e
  refine useH hl r e fun ra ρ1 v1 F1 H1 k1 s1 p1 l1 r1 h1 => ?_
  refine useH (by rw [l1]; exact hl) r1 k1 fun rb ρ2 v2 F2 H2 k2 s2 p2 l2 r2 h2 => ?_
  obtain ⟨st, k2⟩ := k2
  obtain ⟨da, ea, k2⟩ := vwQ_some k2
  obtain ⟨db, eb, k2⟩ := vwQ_some k2
  have h1' := h1.keep (H' := H2) s2 (st.imp id p2)
  refine ⟨F2, da, db, r2.sub, h1'.view r2 ea, h2.view r2 eb, cmpD_mono (fun o q => ?_) k2⟩
  exact q _ F2 H2 (s1.trans s2) (fun p => (p1 (and_l p)).trans (p2 (and_r p))) (l2.trans l1) (r2.cons_dat (.bl _))
theorem vs_cmp (hu : X.A.units + 65 < cLine) {op : CmpOp} (ha : PE X e1 (tE X.K G a)) (hb : PE X e2 (tE X.K G b)) (hm : behindInMarks op e2 = false) : PE X (.Compare e1 [op] [e2] pos) (tE X.K G (.cmp op a b)) :=
  PE.weak (pe_cmpR (op_cmpD hu) ha hb hm) fun sg H Q h => cmp_read h
theorem vs_cmp_test (hu : X.A.units + 65 < cLine) {op : CmpOp} (ha : PE X e1 (tE X.K G a)) (hb : PE X e2 (tE X.K G b)) (hm : behindInMarks op e2 = false) : PT X (.Compare e1 [op] [e2] pos) (tT X.K G (.cmp op a b)) := by
  refine PT.weak (pt_cmpR (op_cmpD hu) ha hb hm) fun sg H Q ⟨ρ, T, F, hl, r, e⟩ => ?_
  refine cmp_read (use hl r (evT_cmp e) fun ra ρ1 v1 F1 H1 k1 s1 p1 l1 r1 => ?_)
  obtain ⟨k, rfl, q⟩ := k1
  obtain ⟨rfl, r2⟩ := RelR.bool r1
  exact ⟨k, rfl, q F1 H1 s1 p1 l1 r2⟩
theorem chn_read {o1 o2 : CmpOp} {sg : L2.St} {H : Hp} {Q : VK} (h : tE X.K G (.chn o1 o2 a b c) sg H Q) : tChain (rCmp X.K o1) (rCmp X.K o2) (tE X.K G a) (tE X.K G b) (tE X.K G c) sg H Q := by
  obtain ⟨ρ, T, F, hl, r, e⟩ := h
  unfold ev at e
  refine useD hl r e fun da ρ1 v1 F1 H1 k1 s1 p1 l1 r1 h1 => ?_
  refine useD (by rw [l1]; exact hl) r1 k1 fun db ρ2 v2 F2 H2 k2 s2 p2 l2 r2 h2 => ?_
  refine ⟨F2, da, db, r2.sub, .frz (h1.mono s2), .frz h2, cmpD_mono (fun t q => ⟨t, rfl, ?_⟩) k2⟩
  cases t with
  | false =>
    rw [if_neg (by decide)] at q ⊢
    exact q _ F2 H2 (s1.trans s2) (fun p => nomatch p) (l2.trans l1) (r2.cons_dat (.bl _))
  | true =>
    rw [if_pos rfl] at q ⊢
    refine useD (by rw [l2, l1]; exact hl) r2 q fun dc ρ3 v3 F3 H3 k3 s3 p3 l3 r3 h3 => ?_
    refine ⟨F3, db, dc, r3.sub, .frz (h2.mono s3), .frz h3, cmpD_mono (fun t q => ?_) k3⟩
    exact q _ F3 H3 ((s1.trans s2).trans s3) (fun p => nomatch p) (l3.trans (l2.trans l1)) (r3.cons_dat (.bl _))
theorem vs_chn (hu : X.A.units + 65 < cLine) {o1 o2 : CmpOp} (ha : PE X e1 (tE X.K G a)) (hb : PE X e2 (tE X.K G b)) (hc : PE X e3 (tE X.K G c)) (hm : lastMarks [o1, o2] [e2, e3] = false) :
    PE X (.Compare e1 [o1, o2] [e2, e3] pos) (tE X.K G (.chn o1 o2 a b c)) :=
  PE.weak (pe_chain (op_cmpD hu) (op_cmpD hu) ha hb hc hm) fun sg H Q h => chn_read h
theorem vs_chn_test (hu : X.A.units + 65 < cLine) {o1 o2 : CmpOp} (ha : PE X e1 (tE X.K G a)) (hb : PE X e2 (tE X.K G b)) (hc : PE X e3 (tE X.K G c)) (hm : lastMarks [o1, o2] [e2, e3] = false) :
    PT X (.Compare e1 [o1, o2] [e2, e3] pos) (tT X.K G (.chn o1 o2 a b c)) := by
  refine PT.weak (pt_chain (op_cmpD hu) (op_cmpD hu) ha hb hc hm) fun sg H Q ⟨ρ, T, F, hl, r, e⟩ => ?_
  refine chn_read (use hl r (evT_chn e) fun ra ρ1 v1 F1 H1 k1 s1 p1 l1 r1 => ?_)
  obtain ⟨k, rfl, q⟩ := k1
  obtain ⟨rfl, r2⟩ := RelR.bool r1
  exact ⟨k, rfl, q F1 H1 s1 p1 l1 r2⟩
theorem vs_not_test (ha : PT X e1 (tT X.K G a)) : PT X (.UnaryOp .Not e1 pos) (tT X.K G (.nt a)) := by
  refine PT.weak (pt_not ha) fun sg H Q ⟨ρ, T, F, hl, r, e⟩ => ?_
  have e' : evT G a ρ fun b ρ' => ∀ F' H', Sub F F' → (pureE a = true → Sub H H') → ρ'.length = ρ.length → Rel X.K F' H' (sg.zip ρ' ++ T) → Q (!b) H' := by
    unfold evT at e ⊢
    unfold ev at e
    exact ev_mono G (fun _ _ => hold_mono fun _ _ => vwQ_mono fun _ => truD_mono fun t q => q) e
  exact useT hl r e' fun b ρ1 F1 H1 k1 s1 p1 l1 r1 => k1 F1 H1 s1 p1 l1 r1
end
end VS

namespace VS
open PySem PySem.Spec PyProof.Rows L2
/-! ## lists of expressions -/
def NS (X : Cx) (e : Expr) : Prop := ∀ es, starEach (e :: es) X.env = (false, eval e X.env) :: starEach es X.env
inductive PEl (X : Cx) (G : Gm) : List Expr → List CE → Prop
  | nil : PEl X G [] []
  | cons {e : Expr} {c : CE} {es : List Expr} {cs : List CE} : NS X e → PE X e (tE X.K G c) → PEl X G es cs → PEl X G (e :: es) (c :: cs)
inductive PTl (X : Cx) (G : Gm) : List Expr → List CE → Prop
  | nil : PTl X G [] []
  | cons {e : Expr} {c : CE} {es : List Expr} {cs : List CE} : PT X e (tT X.K G c) → PTl X G es cs → PTl X G (e :: es) (c :: cs)
/-- arguments of a def: names that may be changed, and data -/
inductive PCl (X : Cx) (G : Gm) : List Expr → List CE → Prop
  | nil : PCl X G [] []
  | dat {e : Expr} {c : CE} {es : List Expr} {cs : List CE} : c.ioOf = none → NS X e → PE X e (tE X.K G c) → PCl X G es cs → PCl X G (e :: es) (c :: cs)
  | io {e : Expr} {i : Nat} {es : List Expr} {cs : List CE} : NS X e → PE X e (tVar i) → PCl X G es cs → PCl X G (e :: es) (.io i :: cs)
section
variable {X : Cx} {G : Gm}
theorem any_back {l : List (Bool × Sem Value)} {pos : Pos} : (backTo pos l).any (·.1) = l.any (·.1) := by
  unfold backTo
  rw [List.any_map]
  rfl
theorem PEl.stars {es : List Expr} {cs : List CE} (h : PEl X G es cs) : (starEach es X.env).any (·.1) = false := by
  induction h with
  | nil => rfl
  | cons ns _ _ ih => rw [ns]; simpa using ih
theorem PCl.stars {es : List Expr} {cs : List CE} (h : PCl X G es cs) : (starEach es X.env).any (·.1) = false := by
  induction h with
  | nil => rfl
  | dat _ ns _ _ ih => rw [ns]; simpa using ih
  | io ns _ _ ih => rw [ns]; simpa using ih
/-! ### and, or -/
theorem vs_bop {isand : Bool} {op : BoolOp} {pos : Pos} (ho : op = if isand then .And else .Or) : ∀ {es : List Expr} {cs : List CE}, PEl X G es cs → es ≠ [] → PE X (.BoolOp op es pos) (tE X.K G (.bop isand cs))
  | _, _, .nil, h => absurd rfl h
  | _, _, .cons _ pe .nil, _ => by
    refine PE.weak (pe_one pe) fun sg H Q ⟨ρ, T, F, hl, r, e⟩ => ?_
    unfold ev evBop at e
    exact useH hl r e fun ra ρ1 v1 F1 H1 k1 s1 p1 l1 r1 h1 => k1 v1 F1 H1 s1 (fun p => nomatch p) l1 (h1.relR r1)
  | _, _, .cons (c := c) ns pe (.cons (e := e2) (c := c2) (es := es) (cs := cs) ns2 pe2 l), _ => by
    have ih := vs_bop (pos := pos) ho (.cons ns2 pe2 l) (by simp)
    subst ho
    cases isand with
    | true =>
      refine PE.weak (pe_andT pe ih) fun sg H Q ⟨ρ, T, F, hl, r, e⟩ => ?_
      unfold ev evBop at e
      refine useH hl r e fun ra ρ1 v1 F1 H1 k1 s1 p1 l1 r1 h1 => ?_
      obtain ⟨d, ed, k1⟩ := vwQ_some k1
      obtain ⟨k, tk, q, _⟩ := truD_tru r1.sub (h1.view r1 ed) k1
      refine ⟨k, tk, ?_⟩
      cases k with
      | true =>
        rw [if_pos rfl] at q ⊢
        refine ⟨ρ1, T, F1, by rw [l1]; exact hl, r1, ?_⟩
        unfold ev
        exact evBop_mono G (fun r ρ' z v F' H' s _ l q => z v F' H' (s1.trans s) (fun p => nomatch p) (l.trans l1) q) q
      | false =>
        rw [if_neg (by decide)] at q ⊢
        exact q v1 F1 H1 s1 (fun p => nomatch p) l1 (h1.relR r1)
    | false =>
      refine PE.weak (pe_orT pe ih) fun sg H Q ⟨ρ, T, F, hl, r, e⟩ => ?_
      unfold ev evBop at e
      refine useH hl r e fun ra ρ1 v1 F1 H1 k1 s1 p1 l1 r1 h1 => ?_
      obtain ⟨d, ed, k1⟩ := vwQ_some k1
      obtain ⟨k, tk, q, _⟩ := truD_tru r1.sub (h1.view r1 ed) k1
      refine ⟨k, tk, ?_⟩
      cases k with
      | true =>
        rw [if_neg (by decide)] at q
        rw [if_pos rfl]
        exact q v1 F1 H1 s1 (fun p => nomatch p) l1 (h1.relR r1)
      | false =>
        rw [if_pos rfl] at q
        rw [if_neg (by decide)]
        refine ⟨ρ1, T, F1, by rw [l1]; exact hl, r1, ?_⟩
        unfold ev
        exact evBop_mono G (fun r ρ' z v F' H' s _ l q => z v F' H' (s1.trans s) (fun p => nomatch p) (l.trans l1) q) q
theorem hold_two {r : R} {ρ : Env} {Q : R → Env → Prop} (h : hold r ρ fun r ρ => hold r ρ Q) : hold r ρ Q := by
  cases r with
  | own o =>
    unfold hold asD at h ⊢
    simp only at h ⊢
    cases e : o.toD with
    | none => rw [e] at h; exact h
    | some d => rw [e] at h; exact h
  | pl i p => exact h
  | it ds => exact h
  | iv i ds => exact h
/-- a held result, held again -/
theorem hold_again {r : R} {ρ : Env} {P : R → Env → Prop} {Q : R → Env → Prop} (h : hold r ρ P) (w : ∀ r ρ, P r ρ → hold r ρ Q) : hold r ρ Q := hold_two (hold_mono w h)
theorem evT_bop1 {isand : Bool} {c : CE} {ρ : Env} {Q : Bool → Env → Prop} (h : evT G (.bop isand [c]) ρ Q) : evT G c ρ Q := by
  unfold evT at h ⊢
  unfold ev evBop at h
  exact ev_mono G (fun r ρ z => hold_two z) h
theorem hold_form {r : R} {ρ : Env} {Q : R → Env → Prop} (h : hold r ρ Q) : ∃ r' ρ', Q r' ρ' ∧ (∀ P : R → Env → Prop, P r' ρ' → hold r ρ P) ∧ ∀ P : R → Env → Prop, hold r' ρ' P → P r' ρ' := by
  cases r with
  | own o =>
    unfold hold asD at h
    simp only at h
    cases e : o.toD with
    | none => rw [e] at h; exact h.elim
    | some d =>
      rw [e] at h
      refine ⟨_, _, h, fun P q => ?_, fun P q => q⟩
      unfold hold asD
      simp only
      rw [e]
      exact q
  | pl i p => exact ⟨_, _, h, fun P q => q, fun P q => q⟩
  | it ds => exact h.elim
  | iv i ds => exact h.elim
theorem evT_bop2 {isand : Bool} {c c2 : CE} {cs : List CE} {ρ : Env} {Q : Bool → Env → Prop} (h : evT G (.bop isand (c :: c2 :: cs)) ρ Q) :
    evT G c ρ fun b ρ => if b = isand then evT G (.bop isand (c2 :: cs)) ρ Q else Q b ρ := by
  show ev G c ρ fun r ρ => hold r ρ fun rt ρ => vwQ rt ρ fun d => truD d fun b => if b = isand then evT G (.bop isand (c2 :: cs)) ρ Q else Q b ρ
  unfold evT at h
  unfold ev evBop at h
  refine ev_mono G (fun r ρ z => ?_) h
  obtain ⟨r', ρ', z1, z2, z3⟩ := hold_form z
  refine z2 _ ?_
  obtain ⟨d, ed, k1⟩ := vwQ_some z1
  unfold vwQ
  rw [ed]
  show truD d fun b => if b = isand then evT G (.bop isand (c2 :: cs)) ρ' Q else Q b ρ'
  have det : ∀ (P P' : Bool → Prop), truD d P → (∀ b, (∀ P'' : Bool → Prop, truD d P'' → P'' b) → P b → P' b) → truD d P' := by
    intro P P' t w
    unfold truD at t w ⊢
    split at t <;> first
      | exact t.elim
      | exact w _ (fun _ q => q) t
      | exact ⟨t.1, w _ (fun _ q => q.2) t.2⟩
  refine det _ _ k1 fun b hb q => ?_
  split
  · rename_i eb
    rw [if_pos eb] at q
    unfold evT
    unfold ev
    exact q
  · rename_i eb
    rw [if_neg eb] at q
    have q := z3 _ q
    obtain ⟨d', ed', k2⟩ := vwQ_some q
    rw [ed] at ed'
    cases ed'
    exact hb _ k2
theorem vs_bop_test {isand : Bool} {op : BoolOp} {pos : Pos} (ho : op = if isand then .And else .Or) : ∀ {es : List Expr} {cs : List CE}, PTl X G es cs → es ≠ [] → PW X (.BoolOp op es pos) (tT X.K G (.bop isand cs))
  | _, _, .nil, h => absurd rfl h
  | _, _, .cons (c := c) pt .nil, _ => by
    have w : ∀ sg H Q, tT X.K G (.bop isand [c]) sg H Q → tT X.K G c sg H Q := fun sg H Q ⟨ρ, T, F, hl, r, e⟩ =>
      useT hl r (evT_bop1 e) fun b ρ1 F1 H1 k1 s1 p1 l1 r1 => k1 F1 H1 s1 (fun p => nomatch p) l1 r1
    subst ho
    cases isand with
    | true => exact ⟨fun wh pn st sg H Q I q => (pw_and1 pt).run wh pn st sg H Q I (w _ _ _ q)⟩
    | false => exact ⟨fun wh pn st sg H Q I q => (pw_or1 pt).run wh pn st sg H Q I (w _ _ _ q)⟩
  | _, _, .cons (c := c) pt (.cons (e := e2) (c := c2) (es := es) (cs := cs) pt2 l), _ => by
    have ih := vs_bop_test (pos := pos) ho (.cons pt2 l) (by simp)
    subst ho
    cases isand with
    | true =>
      refine ⟨fun wh pn st sg H Q I q => (pw_and pt ih).run wh pn st sg H Q I ?_⟩
      obtain ⟨ρ, T, F, hl, r, e⟩ := q
      refine useT hl r (evT_bop2 e) fun b ρ1 F1 H1 k1 s1 p1 l1 r1 => ?_
      cases b with
      | true =>
        rw [if_pos rfl] at k1 ⊢
        exact ⟨ρ1, T, F1, by rw [l1]; exact hl, r1, evT_mono G (fun b ρ' z F' H' s _ l q => z F' H' (s1.trans s) (fun p => nomatch p) (l.trans l1) q) k1⟩
      | false =>
        rw [if_neg (by decide)] at k1 ⊢
        exact k1 F1 H1 s1 (fun p => nomatch p) l1 r1
    | false =>
      refine ⟨fun wh pn st sg H Q I q => (pw_or pt ih).run wh pn st sg H Q I ?_⟩
      obtain ⟨ρ, T, F, hl, r, e⟩ := q
      refine useT hl r (evT_bop2 e) fun b ρ1 F1 H1 k1 s1 p1 l1 r1 => ?_
      cases b with
      | true =>
        rw [if_neg (by decide)] at k1
        rw [if_pos rfl]
        exact k1 F1 H1 s1 (fun p => nomatch p) l1 r1
      | false =>
        rw [if_pos rfl] at k1
        rw [if_neg (by decide)]
        exact ⟨ρ1, T, F1, by rw [l1]; exact hl, r1, evT_mono G (fun b ρ' z F' H' s _ l q => z F' H' (s1.trans s) (fun p => nomatch p) (l.trans l1) q) k1⟩
theorem vs_ife {t a b : CE} {e1 e2 e3 : Expr} {pos : Pos} (ht : PT X e1 (tT X.K G t)) (ha : PE X e2 (tE X.K G a)) (hb : PE X e3 (tE X.K G b)) : PE X (.IfExp e1 e2 e3 pos) (tE X.K G (.ife t a b)) := by
  refine PE.weak (pe_ifExp ht ha hb) fun sg H Q ⟨ρ, T, F, hl, r, e⟩ => ?_
  unfold ev at e
  refine useT hl r (show evT G t ρ _ from e) fun c ρ1 F1 H1 k1 s1 p1 l1 r1 => ?_
  cases c with
  | true =>
    rw [if_pos rfl] at k1 ⊢
    exact use (by rw [l1]; exact hl) r1 k1 fun r ρ2 v F2 H2 z s _ l q => z v F2 H2 (s1.trans s) (fun p => nomatch p) (l.trans l1) q
  | false =>
    rw [if_neg (by decide)] at k1 ⊢
    exact use (by rw [l1]; exact hl) r1 k1 fun r ρ2 v F2 H2 z s _ l q => z v F2 H2 (s1.trans s) (fun p => nomatch p) (l.trans l1) q
end
/-! ## lists of results -/
def tL (K : PySem.W.Frag) (G : Gm) (cs : List CE) : TA := fun sg H Q => ∃ (ρ : Env) (T : Its) (F : Hp), sg.length = ρ.length ∧ Rel K F H (sg.zip ρ ++ T) ∧
  evL G cs ρ fun os ρ' => ∀ vs F' H', Sub F F' → (pureL cs = true → Sub H H') → ρ'.length = ρ.length → vs.length = os.length → os.length = cs.length → Rel K F' H' ((vs.map some).zip os ++ (sg.zip ρ' ++ T)) → Q vs H'
inductive HeldL (K : PySem.W.Frag) (F H : Hp) (sg : L2.St) : List V → List R → Prop
  | nil : HeldL K F H sg [] []
  | cons {v : V} {r : R} {vs : List V} {rs : List R} : Held K F H sg v r → HeldL K F H sg vs rs → HeldL K F H sg (v :: vs) (r :: rs)
def tH (K : PySem.W.Frag) (G : Gm) (cs : List CE) : TA := fun sg H Q => ∃ (ρ : Env) (T : Its) (F : Hp), sg.length = ρ.length ∧ Rel K F H (sg.zip ρ ++ T) ∧
  evH G cs ρ fun rs ρ' => ∀ vs F' H', Sub F F' → (pureL cs = true → Sub H H') → ρ'.length = ρ.length → Rel K F' H' (sg.zip ρ' ++ T) → HeldL K F' H' sg vs rs → Q vs H'
inductive ArgL (K : PySem.W.Frag) (F : Hp) (sg : L2.St) : List V → List (PyData ⊕ Nat) → Prop
  | nil : ArgL K F sg [] []
  | dat {v : V} {d : PyData} {vs : List V} {as : List (PyData ⊕ Nat)} : Dn K F v d → ArgL K F sg vs as → ArgL K F sg (v :: vs) (.inl d :: as)
  | io {v : V} {i : Nat} {vs : List V} {as : List (PyData ⊕ Nat)} : sg[i]? = some (some v) → ArgL K F sg vs as → ArgL K F sg (v :: vs) (.inr i :: as)
def tA (K : PySem.W.Frag) (G : Gm) (cs : List CE) : TA := fun sg H Q => ∃ (ρ : Env) (T : Its) (F : Hp), sg.length = ρ.length ∧ Rel K F H (sg.zip ρ ++ T) ∧
  evC G cs ρ fun as ρ' => ∀ vs F' H', Sub F F' → ρ'.length = ρ.length → Rel K F' H' (sg.zip ρ' ++ T) → ArgL K F' sg vs as → Q vs H'
theorem PA.weak {X : Cx} {es : List Expr} {t t' : TA} (h : PA X es t) (w : ∀ sg H Q, t' sg H Q → t sg H Q) : PA X es t' := ⟨fun pos pn st sg H Q I q => h.run pos pn st sg H Q I (w _ _ _ q)⟩
section
variable {X : Cx} {G : Gm}
theorem vs_L : ∀ {es : List Expr} {cs : List CE}, PEl X G es cs → PA X es (tL X.K G cs)
  | _, _, .nil => PA.weak pa_nil fun sg H Q ⟨ρ, T, F, hl, r, e⟩ => e [] F H (.refl _) (fun _ => .refl _) rfl rfl rfl r
  | _, _, .cons (c := c) (cs := cs) ns pe l => by
    refine PA.weak (pa_cons pe (vs_L l) (ns _)) fun sg H Q ⟨ρ, T, F, hl, r, e⟩ => ?_
    unfold evL at e
    refine useO hl r e fun o ρ1 v1 F1 H1 k1 s1 p1 l1 r1 => ?_
    have r1' : Rel X.K F1 H1 (sg.zip ρ1 ++ (some v1, o) :: T) := r1.perm List.perm_middle.symm
    refine ⟨ρ1, (some v1, o) :: T, F1, by rw [l1]; exact hl, r1', evL_mono G (fun os ρ2 z vs F2 H2 s p l2 lv lo q => ?_) k1⟩
    refine z (v1 :: vs) F2 H2 (s1.trans s) (fun pp => (p1 (and_l pp)).trans (p (and_r pp))) (l2.trans l1) (by simpa using lv) (by simpa using lo) ?_
    refine q.perm ?_
    show (((vs.map some).zip os) ++ (sg.zip ρ2 ++ (some v1, o) :: T)).Perm ((some v1, o) :: (((vs.map some).zip os) ++ (sg.zip ρ2 ++ T)))
    refine (List.Perm.append_left _ List.perm_middle).trans ?_
    exact List.perm_middle
theorem HeldL.keep {K : PySem.W.Frag} {F F' H H' : Hp} {sg : L2.St} : ∀ {vs : List V} {rs : List R}, HeldL K F H sg vs rs → Sub F F' → Sub H H' → HeldL K F' H' sg vs rs
  | _, _, .nil, _, _ => .nil
  | _, _, .cons h l, s, t => .cons (h.keep s (.inr t)) (HeldL.keep l s t)
theorem vs_H : ∀ {es : List Expr} {cs : List CE}, PEl X G es cs → PA X es (tH X.K G cs)
  | _, _, .nil => PA.weak pa_nil fun sg H Q ⟨ρ, T, F, hl, r, e⟩ => e [] F H (.refl _) (fun _ => .refl _) rfl r .nil
  | _, _, .cons (c := c) (cs := cs) ns pe l => by
    refine PA.weak (pa_cons pe (vs_H l) (ns _)) fun sg H Q ⟨ρ, T, F, hl, r, e⟩ => ?_
    unfold evH at e
    refine useH hl r e fun ra ρ1 v1 F1 H1 k1 s1 p1 l1 r1 h1 => ?_
    refine ⟨ρ1, T, F1, by rw [l1]; exact hl, r1, evH_mono G (fun rs ρ2 z vs F2 H2 s p l2 q hq => ?_) k1⟩
    obtain ⟨st, z⟩ := z
    refine z (v1 :: vs) F2 H2 (s1.trans s) (fun pp => (p1 (and_l pp)).trans (p (and_r pp))) (l2.trans l1) q (.cons (h1.keep s (st.imp id p)) hq)
theorem HeldL.views {K : PySem.W.Frag} {F H : Hp} {sg : L2.St} {ρ : Env} {T : Its} : ∀ {vs : List V} {rs : List R} {Q : List PyData → Prop}, HeldL K F H sg vs rs → Rel K F H (sg.zip ρ ++ T) → vwsQ ρ rs Q → ∃ ds, ViewL K F H vs ds ∧ Q ds
  | _, _, _, .nil, _, q => ⟨[], .nil, q⟩
  | _, _, _, .cons h l, r, q => by
    obtain ⟨d, ed, q⟩ := vwQ_some q
    obtain ⟨ds, hv, q⟩ := HeldL.views l r q
    exact ⟨d :: ds, .cons (h.view r ed) hv, q⟩
theorem slot_nd {K : PySem.W.Frag} {F H : Hp} {sg : L2.St} {ρ : Env} {T : Its} {i : Nat} (hl : sg.length = ρ.length) (r : Rel K F H (sg.zip ρ ++ T)) (nd : isNd ρ i) : ∃ v, sg[i]? = some (some v) := by
  unfold isNd at nd
  split at nd
  · rename_i k os e
    obtain ⟨x, ex⟩ : ∃ x, sg[i]? = some x := ⟨sg[i]'(by rw [hl]; exact lt_of_get e), by simp⟩
    obtain ⟨_, A, h, _, _⟩ := r.perm (perm_eraseIdx (its_get (T := T) ex e))
    cases h with
    | cons a l => cases a with
      | nd ha hl' hf l' => exact ⟨_, ex⟩
  · exact nd.elim
theorem vs_C : ∀ {es : List Expr} {cs : List CE}, PCl X G es cs → PA X es (tA X.K G cs)
  | _, _, .nil => PA.weak pa_nil fun sg H Q ⟨ρ, T, F, hl, r, e⟩ => e [] F H (.refl _) rfl r .nil
  | _, _, .dat (c := c) (cs := cs) nio ns pe l => by
    refine PA.weak (pa_cons pe (vs_C l) (ns _)) fun sg H Q ⟨ρ, T, F, hl, r, e⟩ => ?_
    unfold evC at e
    rw [nio] at e
    refine useD hl r e fun d ρ1 v1 F1 H1 k1 s1 p1 l1 r1 h1 => ?_
    refine ⟨ρ1, T, F1, by rw [l1]; exact hl, r1, evC_mono G (fun as ρ2 z vs F2 H2 s l2 q hq => ?_) k1⟩
    exact z (v1 :: vs) F2 H2 (s1.trans s) (l2.trans l1) q (.dat (h1.mono s) hq)
  | _, _, .io (i := i) (cs := cs) ns pe l => by
    refine PA.weak (pa_cons pe (vs_C l) (ns _)) fun sg H Q ⟨ρ, T, F, hl, r, e⟩ => ?_
    unfold evC at e
    have e : isNd ρ i ∧ evC G cs ρ _ := e
    obtain ⟨nd, e⟩ := e
    obtain ⟨v, ev⟩ := slot_nd hl r nd
    refine ⟨v, ev, ρ, T, F, hl, r, evC_mono G (fun as ρ2 z vs F2 H2 s l2 q hq => ?_) e⟩
    exact z (v :: vs) F2 H2 s l2 q (.io ev hq)
/-! ### displays -/
theorem Rel.ofDat {K : PySem.W.Frag} {F H : Hp} {its : Its} : ∀ {vs : List V} {ds : List PyData}, vs.length = ds.length → Rel K F H ((vs.map some).zip (ds.map O.dat) ++ its) → DnL K F vs ds ∧ Rel K F H its
  | [], [], _, r => ⟨.nil, r⟩
  | v :: vs, d :: ds, h, r => by
    have r' : Rel K F H ((some v, .dat d) :: ((vs.map some).zip (ds.map O.dat) ++ its)) := r
    obtain ⟨w, e, dn⟩ := Rel.dat r'
    cases e
    obtain ⟨l, q⟩ := Rel.ofDat (by simpa using h) (Rel.tail r')
    exact ⟨.cons dn l, q⟩
  | [], _ :: _, h, _ => by simp at h
  | _ :: _, [], h, _ => by simp at h
def tTupZ (ta : TA) : TE := fun sg H Q => ta sg H fun vs H1 => vs.length ≤ sizeLine ∧ ((∀ p, H1 p = none → Q (.ref p) (upd H1 p (.tup vs))) ∨ ∀ p o, H1 p = none → o.dict = none → Q (.ref p) (upd H1 p (.frz o (.tup vs))))
theorem pe_tupZ {es : List Expr} {ta : TA} {k : Nat} {pos : Pos} (h : PA X es ta) : PE X (.Tuple es k pos) (tTupZ ta) := by
  refine ⟨fun pn st sg H Q I hq => ?_⟩
  refine wpAny_Tuple_spliced (thn (h.run pos pn st sg H _ I hq) fun us s1 ⟨xs, H1, I1, r, z, q⟩ => ⟨by rw [← r.length]; exact z, ?_⟩)
  have fr : H1 s1.heap.objs.size = none := I1.hok.fresh (Nat.le_refl _)
  rcases q with q | q
  · exact ⟨.ref s1.heap.objs.size, upd H1 s1.heap.objs.size (.tup xs), I1.laid (t' := s1.toks) (fun b u e => Heap.get?_push_of_some _ e) (Nat.le_refl _) ⟨z, us, r, ⟨_, Heap.get?_push_size _ rfl, rfl, _, rfl⟩⟩, rfl, q _ fr⟩
  · exact ⟨.ref s1.heap.objs.size, _, Inv.laidZ I1 r z, rfl, q _ _ fr rfl⟩
theorem vs_tup {es : List Expr} {cs : List CE} {k : Nat} {pos : Pos} (l : PEl X G es cs) (hs : cs.length ≤ 1000) : PE X (.Tuple es k pos) (tE X.K G (.tup cs)) := by
  refine PE.weak (pe_tupZ (vs_L l)) fun sg H Q ⟨ρ, T, F, hl, r, e⟩ => ?_
  unfold ev at e
  refine ⟨ρ, T, F, hl, r, evL_mono G (fun os ρ1 z vs F1 H1 s1 p1 l1 lv lo q => ⟨by rw [lv, lo]; exact Nat.le_of_lt (small1000 hs), ?_⟩) e⟩
  unfold tupO at z
  split at z
  · rename_i ds ed
    have eo := datL_eq ed
    subst eo
    obtain ⟨dl, q2⟩ := Rel.ofDat (by simpa using lv) q
    rcases entB_or ds with c | c
    · refine .inl fun p hp => ?_
      obtain ⟨F2, s2, sH, r2⟩ := (Res.newT hp dl (Tp.new0 c)).rel q2
      exact z _ F2 _ (s1.trans s2) (fun pp => (p1 pp).trans sH) l1 r2
    · refine .inr fun p o hp hd => ?_
      obtain ⟨F2, s2, sH, r2⟩ := (Res.newT hp dl (Tp.new1 c hd)).rel q2
      exact z _ F2 _ (s1.trans s2) (fun pp => (p1 pp).trans sH) l1 r2
  · exact .inl fun p hp => z _ F1 _ s1 (fun pp => (p1 pp).trans (Sub.grow hp)) l1 (Rel.node (k := .tup) lv trivial q hp)
theorem vs_lst {es : List Expr} {cs : List CE} {pos : Pos} (l : PEl X G es cs) (hs : cs.length ≤ 1000) : PE X (.List es pos) (tE X.K G (.lst cs)) := by
  refine PE.weak (pe_lst (vs_L l)) fun sg H Q ⟨ρ, T, F, hl, r, e⟩ => ?_
  unfold ev at e
  refine ⟨ρ, T, F, hl, r, evL_mono G (fun os ρ1 z vs F1 H1 s1 p1 l1 lv lo q => ⟨by rw [lv, lo]; exact Nat.le_of_lt (small1000 hs), fun p hp => ?_⟩) e⟩
  exact z _ F1 _ s1 (fun pp => (p1 pp).trans (Sub.grow hp)) l1 (Rel.node (k := .lst) lv trivial q hp)
theorem vs_dnewK {pos : Pos} : PE X (.Dict [] [] pos) (tE X.K G (.dnew false)) :=
  PE.weak pe_dnewK fun sg H Q ⟨ρ, T, F, hl, r, e⟩ p hp => e _ F _ (.refl _) (fun pp => nomatch pp) rfl (Rel.node (k := .dk []) (vs := []) (os := []) rfl ⟨rfl, List.nodup_nil⟩ r hp)
theorem vs_dnewT {pos : Pos} : PE X (.Dict [] [] pos) (tE X.K G (.dnew true)) :=
  PE.weak pe_dnewT fun sg H Q ⟨ρ, T, F, hl, r, e⟩ p hp => e _ F _ (.refl _) (fun pp => nomatch pp) rfl (Rel.node (k := .dt []) (vs := []) (os := []) rfl ⟨rfl, List.nodup_nil⟩ r hp)
/-! ### built-ins -/
theorem vs_bltB {f : BF} {id : String} {e : Expr} {es : List Expr} {c : CE} {cs : List CE} {p pos : Pos} (hc : X.calm = true) (hu : X.A.units + 65 < cLine) (hgd : X.A.guards = some []) (sm : SysD X.base) (hf : f.val = .builtin id) (hg : Gl X f.name) (hm : X.mg f.name = none)
    (hv : bootBuiltins f.name = some (.builtin id)) (hn : f.name ≠ "__name__") (hdb : (f.name == ("__debug__" : Str)) = false) (l : PEl X G (e :: es) (c :: cs)) : PE X (.Call (.Name f.name p) (e :: es) [] pos) (tE X.K G (.blt f (c :: cs))) := by
  have ns : NS X e := by cases l with | cons ns _ _ => exact ns
  have hb : CallR X (.builtin id) (rBlt X.K f) := by rw [← hf]; exact blt_D hc hu hgd sm
  have st : (backTo pos (starEach es X.env)).any (·.1) = false := by
    rw [any_back]
    cases l with | cons _ _ l => exact l.stars
  refine PE.weak (pe_callB hb hg hm hv (vs_H l) hn hdb (ns es) st) fun sg H Q ⟨ρ, T, F, hl, r, ee⟩ => ?_
  unfold ev at ee
  refine ⟨ρ, T, F, hl, r, evH_mono G (fun rs ρ1 z vs F1 H1 s1 p1 l1 q hh => ?_) ee⟩
  obtain ⟨ds, hv, z⟩ := hh.views q z
  refine ⟨F1, ds, q.sub, hv, bltD_mono (fun o z zv H2 res => ?_) z⟩
  obtain ⟨F2, s2, sH, r2⟩ := res.rel q
  exact z zv F2 H2 (s1.trans s2) (fun pp => (p1 pp).trans sH) l1 r2
theorem vs_bltT {f : BF} {id : String} {e : Expr} {es : List Expr} {c : CE} {cs : List CE} {p pos : Pos} (hc : X.calm = true) (hu : X.A.units + 65 < cLine) (hgd : X.A.guards = some []) (sm : SysD X.base) (hf : f.val = .type id) (hg : Gl X f.name) (hm : X.mg f.name = none)
    (hv : bootBuiltins f.name = some (.type id)) (hn : f.name ≠ "__name__") (hdb : (f.name == ("__debug__" : Str)) = false) (l : PEl X G (e :: es) (c :: cs)) : PE X (.Call (.Name f.name p) (e :: es) [] pos) (tE X.K G (.blt f (c :: cs))) := by
  have ns : NS X e := by cases l with | cons ns _ _ => exact ns
  have hb : CallR X (.type id) (rBlt X.K f) := by rw [← hf]; exact blt_D hc hu hgd sm
  have st : (backTo pos (starEach es X.env)).any (·.1) = false := by
    rw [any_back]
    cases l with | cons _ _ l => exact l.stars
  refine PE.weak (pe_callTy hb hg hm hv (vs_H l) hn hdb (ns es) st) fun sg H Q ⟨ρ, T, F, hl, r, ee⟩ => ?_
  unfold ev at ee
  refine ⟨ρ, T, F, hl, r, evH_mono G (fun rs ρ1 z vs F1 H1 s1 p1 l1 q hh => ?_) ee⟩
  obtain ⟨ds, hv, z⟩ := hh.views q z
  refine ⟨F1, ds, q.sub, hv, bltD_mono (fun o z zv H2 res => ?_) z⟩
  obtain ⟨F2, s2, sH, r2⟩ := res.rel q
  exact z zv F2 H2 (s1.trans s2) (fun pp => (p1 pp).trans sH) l1 r2
/-! ### items -/
theorem keyD_V {K : PySem.W.Frag} {F : Hp} {v : V} {d : PyData} {k : Key} (h : Dn K F v d) (e : keyD d = some k) : v = kV k := by
  cases d with
  | int i => cases e; cases h; rfl
  | str x => cases e; cases h; rfl
  | _ => cases e
theorem keysD_V {K : PySem.W.Frag} {F : Hp} : ∀ {vs : List V} {ds : List PyData} {ks : List Key}, DnL K F vs ds → keysD ds = some ks → vs = ks.map kV
  | _, _, _, .nil, e => by cases e; rfl
  | _, _, ks, .cons (d := d) (ds := ds) h l, e => by
    unfold keysD at e
    cases e1 : keyD d with
    | none => rw [e1] at e; cases e
    | some k =>
      cases e2 : keysD ds with
      | none => rw [e1, e2] at e; cases e
      | some ks' =>
        rw [e1, e2] at e
        cases e
        rw [keyD_V h e1, keysD_V l e2]
        rfl
theorem keyT_V {K : PySem.W.Frag} {F : Hp} {v : V} {d : PyData} {k : List Key} (h : Dn K F v d) (e : keyT d = some k) : ∃ b, v = .ref b ∧ F b = some (.tup (k.map kV)) := by
  cases d with
  | tuple ds =>
    cases h with
    | tup q l =>
      have e : (if ds.isEmpty = true then none else keysD ds) = some k := e
      by_cases c : ds.isEmpty = true
      · rw [if_pos c] at e; cases e
      · rw [if_neg c] at e
        have b : entB ds = false := by
          cases ds with
          | nil => exact absurd rfl c
          | cons d ds =>
            have e1 : keyD d ≠ none := fun z => by
              unfold keysD at e
              rw [z] at e
              cases e
            have e2 : isEnt d = false := by
              cases d with
              | tuple xs => exact absurd rfl e1
              | _ => rfl
            show (isEnt d && _) = false
            rw [e2]
            rfl
        rw [b, keysD_V l e] at q
        exact ⟨_, rfl, q.plain⟩
  | _ => cases e
theorem valV_keyPos {κ : Type} [DecidableEq κ] {k : κ} : ∀ {ks : List κ} {vs : List V} {n : Nat}, keyPos k ks = some n → ks.length = vs.length → valV (ks.zip vs) k = vs[n]?
  | [], _, _, e, _ => by cases e
  | x :: ks, [], _, _, h => by simp at h
  | x :: ks, v :: vs, n, e, h => by
    unfold keyPos at e
    split at e
    · rename_i ex
      cases e
      rw [List.zip_cons_cons, valV_pos ex]
      rfl
    · rename_i ex
      cases e2 : keyPos k ks with
      | none => rw [e2] at e; cases e
      | some m =>
        rw [e2] at e
        cases e
        rw [List.zip_cons_cons, valV_neg ex, valV_keyPos e2 (by simpa using h)]
        simp
theorem ix_dict (hu : X.A.units + 1 < cLine) : IxR X (fun x y H Q => ∃ a v, x = .ref a ∧ DGet H a y (some v) ∧ Q v H) := by
  intro ve se pn st sg Hh x y v u Q I rx ry hh plain
  obtain ⟨a, w, ex, g, q⟩ := hh
  subst ex
  obtain rfl : v = Value.ref a := rx
  exact PyProof.Rows.tail_any (dict_typeIs I g) PySem.F.slot_dict_getitem.lookup (d_getItem hu I g ry fun w' s3 I3 rw' => ⟨w, Hh, I3, rw', q⟩) plain
/-- an item of data, of a list, of a dict -/
def rIdx2 (K : PySem.W.Frag) : R2 := fun x y H Q => rIdx K x y H Q ∨ rIx K x y H Q ∨ ∃ a v, x = .ref a ∧ DGet H a y (some v) ∧ Q v H
theorem ix_V (hu : X.A.units + 1 < cLine) : IxR X (rIdx2 X.K) := ix_D.or (ix_seq.or (ix_dict hu))
theorem kidx_V {K : PySem.W.Frag} {F H : Hp} {kd : NK} {a : Addr} {vs : List V} {n m : Nat} {y : V} {d : PyData} {u : V} {Q : VK} (s : Sub F H) (ha : H a = some (hoOf kd vs)) (hl : vs.length = m) (hf : kd.fit vs.length) (hy : Dn K F y d) (e : kidx kd m d = some n) (hu : vs[n]? = some u) (q : Q u H) :
    rIdx2 K (.ref a) y H Q := by
  cases kd with
  | lst =>
    cases d with
    | int i =>
      cases hy
      refine .inr (.inl (.inl ⟨a, vs, i, u, rfl, rfl, SqL.of ha, ?_, q⟩))
      unfold L2.atI
      have e : ixN m i = some n := e
      rw [hl, e]
      exact hu
    | _ => cases e
  | tup =>
    cases d with
    | int i =>
      cases hy
      refine .inr (.inl (.inr (.inl ⟨a, vs, i, u, rfl, rfl, SqT.of ha, ?_, q⟩)))
      unfold L2.atI
      have e : ixN m i = some n := e
      rw [hl, e]
      exact hu
    | _ => cases e
  | dk ks =>
    have e : (match keyD d with | some k => keyPos k ks | none => none) = some n := e
    cases e1 : keyD d with
    | none => rw [e1] at e; cases e
    | some k =>
      rw [e1] at e
      have z := valV_keyPos (vs := vs) e hf.1
      rw [hu] at z
      refine .inr (.inr ⟨a, u, rfl, ?_, q⟩)
      rw [← z, keyD_V hy e1]
      exact DGet.k ha
  | dt ks =>
    have e : (match keyT d with | some k => keyPos k ks | none => none) = some n := e
    cases e1 : keyT d with
    | none => rw [e1] at e; cases e
    | some k =>
      rw [e1] at e
      have z := valV_keyPos (vs := vs) e hf.1
      rw [hu] at z
      obtain ⟨b, eb, hb⟩ := keyT_V hy e1
      subst eb
      refine .inr (.inr ⟨a, u, rfl, ?_, q⟩)
      rw [← z]
      exact DGet.t ha (s _ _ hb)
theorem vs_idx (hu : X.A.units + 1 < cLine) {e1 e2 : Expr} {a b : CE} {pos : Pos} (ha : PE X e1 (tE X.K G a)) (hb : PE X e2 (tE X.K G b)) (hs : PlainIx e2) : PE X (.Subscript e1 e2 pos) (tE X.K G (.idx a b)) := by
  refine PE.weak (pe_ix (ix_V hu) ha hb hs) fun sg H Q ⟨ρ, T, F, hl, r, e⟩ => ?_
  unfold ev at e
  refine useH hl r e fun ra ρ1 v1 F1 H1 k1 s1 p1 l1 r1 h1 => ?_
  refine useD (by rw [l1]; exact hl) r1 k1 fun kd ρ2 v2 F2 H2 k2 s2 p2 l2 r2 h2 => ?_
  obtain ⟨st, k2⟩ := k2
  have h1' := h1.keep (H' := H2) s2 (st.imp id p2)
  have fin : ∀ {v : V} {d : PyData}, Dn X.K F2 v d → _ → Q v H2 := fun {v d} dn (q : ∀ v F' H', Sub F F' → (pureE (a.idx b) = true → Sub H H') → ρ2.length = ρ.length → RelR X.K F' H' sg ρ2 T v (.own (.dat d)) → Q v H') =>
    q v F2 H2 (s1.trans s2) (fun p => (p1 (and_l p)).trans (p2 (and_r p))) (l2.trans l1) (r2.cons_dat dn)
  unfold idxR at k2
  split at k2
  · rename_i d
    obtain ⟨d', ed, dn⟩ := h1'
    cases ed
    exact .inl ⟨F2, _, _, r2.sub, .frz dn, .frz h2, idxD_mono (fun d' q z dz => fin dz q) k2⟩
  · rename_i i p
    obtain ⟨o, eo, k2⟩ := optQ_some k2
    obtain ⟨v0, ev, dd⟩ := h1'
    obtain ⟨o0, e0, g0⟩ := getS_some eo
    obtain ⟨u, A, d1, hown⟩ := r2.at (its_get (T := T) ev e0) g0
    obtain rfl := desc_inj dd d1
    unfold idxO at k2
    split at k2
    · rename_i kd' os
      obtain ⟨n, en, k2⟩ := optQ_some k2
      obtain ⟨c, ec, k2⟩ := optQ_some k2
      cases hown with
      | @nd aa _ vs _ A1 ha' hl' hf' l' =>
        obtain ⟨B, C, x, ex, _, hx, _⟩ := OwnL.hole l' ec
        obtain ⟨w, ew, hw⟩ : ∃ w, x = some w ∧ vs[n]? = some w := by
          rw [List.getElem?_map] at ex
          cases q : vs[n]? with
          | none => rw [q] at ex; cases ex
          | some w => rw [q] at ex; cases ex; exact ⟨w, rfl, rfl⟩
        subst ew
        refine kidx_V r2.sub ha' hl' (by rw [hl']; exact hf') h2 en hw ?_
        split at k2
        · cases hx with
          | dat dn => exact fin dn k2
        · refine k2 w F2 H2 (s1.trans s2) (fun p => (p1 (and_l p)).trans (p2 (and_r p))) (l2.trans l1) ⟨r2, v0, ev, desc_snoc d1 ?_⟩
          exact ⟨aa, _, vs, w, rfl, ha', by rw [hl']; exact hf', hw, rfl⟩
        · exact k2.elim
    · cases hown with
      | dat dn => exact .inl ⟨F2, _, _, r2.sub, .frz dn, .frz h2, idxD_mono (fun d' q z dz => fin dz q) k2⟩
    · exact k2.elim
  · exact k2.elim
/-! ### slices -/
def tO (K : PySem.W.Frag) (G : Gm) (cs : List CE) : TO := fun sg H Q => ∃ (ρ : Env) (T : Its) (F : Hp), sg.length = ρ.length ∧ Rel K F H (sg.zip ρ ++ T) ∧
  evO G cs ρ fun i ρ' => ∀ F' H', Sub F F' → (pureL cs = true → Sub H H') → ρ'.length = ρ.length → Rel K F' H' (sg.zip ρ' ++ T) → Q i H'
theorem PO.weak {e : Option Expr} {t t' : TO} (h : PO X e t) (w : ∀ sg H Q, t' sg H Q → t sg H Q) : PO X e t' := ⟨fun pn st sg H Q I q => h.run pn st sg H Q I (w _ _ _ q)⟩
theorem vs_Onone : PO X none (tO X.K G []) := PO.weak po_none fun sg H Q ⟨ρ, T, F, hl, r, e⟩ => e F H (.refl _) (fun _ => .refl _) rfl r
theorem vs_Osome {e : Expr} {c : CE} (h : PE X e (tE X.K G c)) : PO X (some e) (tO X.K G [c]) := by
  refine PO.weak (po_some h) fun sg H Q ⟨ρ, T, F, hl, r, e⟩ => ?_
  unfold evO at e
  refine useD hl r e fun d ρ1 v1 F1 H1 k1 s1 p1 l1 r1 h1 => ?_
  split at k1
  · cases h1
    exact ⟨_, rfl, k1 F1 H1 s1 (fun pp => p1 (and_l pp)) l1 r1⟩
  · exact k1.elim
theorem useOI {cs : List CE} {sg : L2.St} {H F : Hp} {ρ : Env} {T : Its} {Kc : Option Int → Env → Prop} {Q : Option Int → Hp → Prop} (hl : sg.length = ρ.length) (r : Rel X.K F H (sg.zip ρ ++ T)) (e : evO G cs ρ Kc)
    (h : ∀ i ρ' F' H', Kc i ρ' → Sub F F' → (pureL cs = true → Sub H H') → ρ'.length = ρ.length → Rel X.K F' H' (sg.zip ρ' ++ T) → Q i H') : tO X.K G cs sg H Q :=
  ⟨ρ, T, F, hl, r, evO_mono G (fun i ρ' kc F' H' s p l q => h i ρ' F' H' kc s p l q) e⟩
theorem vs_sl {e : Expr} {lo hi : Option Expr} {a : CE} {cl ch : List CE} {pos p2 : Pos} (ha : PE X e (tE X.K G a)) (hlo : PO X lo (tO X.K G cl)) (hhi : PO X hi (tO X.K G ch)) : PE X (.Subscript e (.Slice lo hi none p2) pos) (tE X.K G (.sl a cl ch)) := by
  refine PE.weak (pe_slice sl_D ha hlo hhi) fun sg H Q ⟨ρ, T, F, hl, r, e⟩ => ?_
  unfold ev at e
  refine useH hl r e fun ra ρ1 v1 F1 H1 k1 s1 p1 l1 r1 h1 => ?_
  refine useOI (by rw [l1]; exact hl) r1 k1 fun i ρ2 F2 H2 k2 s2 p2 l2 r2 => ?_
  refine useOI (by rw [l2, l1]; exact hl) r2 k2 fun j ρ3 F3 H3 k3 s3 p3 l3 r3 => ?_
  obtain ⟨st, k3⟩ := k3
  obtain ⟨d, ed, k3⟩ := vwQ_some k3
  have h1' := h1.keep (H' := H3) (s2.trans s3) (st.imp id fun p => (p2 (and_l p)).trans (p3 (and_r p)))
  refine ⟨F3, d, r3.sub, h1'.view r3 ed, slD_mono (fun o q z H4 res => ?_) k3⟩
  obtain ⟨F4, s4, sH, r4⟩ := res.rel r3
  exact q z F4 H4 (((s1.trans s2).trans s3).trans s4) (fun p => nomatch p) (l3.trans (l2.trans l1)) r4
/-- xs[::-1] -/
theorem vs_rev {e : Expr} {a : CE} {k : Nat} {p1 p2 p3 pos : Pos} (ha : PE X e (tE X.K G a)) : PE X (.Subscript e (.Slice none none (some (.UnaryOp .USub (.Constant (.int 1) k p1) p2)) p3) pos) (tE X.K G (.rev a)) := by
  refine PE.weak (L2.pe_revL ha) fun sg H Q ⟨ρ, T, F, hl, r, e⟩ => ?_
  unfold ev at e
  refine useH hl r e fun ra ρ1 v1 F1 H1 k1 s1 p1 l1 r1 h1 => ?_
  obtain ⟨d, ed, k1⟩ := vwQ_some k1
  have va := h1.view r1 ed
  unfold revD at k1
  split at k1
  · obtain ⟨b, vs, rfl, hb, lb⟩ := va.list r1.sub
    refine ⟨b, vs, rfl, .inl hb, fun p hp => ?_⟩
    obtain ⟨F2, s2, sH, r2⟩ := (Res.new (k := .lst) (F := F1) hp trivial lb.reverse).rel r1
    exact k1 _ F2 _ (s1.trans s2) (fun pp => nomatch pp) l1 r2
  · exact k1.elim
/-- a list's items, frozen -/
theorem vs_fl {e : Expr} {a : CE} (ha : PE X e (tE X.K G a)) : PE X e (tE X.K G (.fl a)) := by
  refine PE.weak ha fun sg H Q ⟨ρ, T, F, hl, r, e⟩ => ?_
  unfold ev at e
  refine use hl r e fun r ρ1 v1 F1 H1 k1 s1 p1 l1 h1 => ?_
  split at k1
  · obtain ⟨ds, ed, k1⟩ := optQ_some k1
    obtain ⟨F2, s2, r2⟩ := Rel.flat h1 ed
    exact k1 v1 F2 H1 (s1.trans s2) (fun pp => nomatch pp) l1 r2
  · exact k1.elim
/-- a tree, frozen -/
theorem vs_frz {e : Expr} {a : CE} (ha : PE X e (tE X.K G a)) : PE X e (tE X.K G (.frz a)) := by
  refine PE.weak ha fun sg H Q ⟨ρ, T, F, hl, r, e⟩ => ?_
  unfold ev at e
  exact useD hl r e fun d ρ1 v1 F1 H1 k1 s1 p1 l1 r1 h1 => k1 v1 F1 H1 s1 (fun pp => nomatch pp) l1 (r1.cons_dat h1)
end
end VS

namespace VS
open PySem PySem.Spec PyProof.Rows L2
section
variable {X : Cx} {G : Gm}
/-! ### dict displays -/
inductive PPl (X : Cx) (G : Gm) : List (Option Expr) → List Expr → List CE → Prop
  | nil : PPl X G [] [] []
  | cons {k v : Expr} {ck cv : CE} {ks : List (Option Expr)} {vs : List Expr} {cs : List CE} : PE X k (tE X.K G ck) → PE X v (tE X.K G cv) → PPl X G ks vs cs → PPl X G (some k :: ks) (v :: vs) (ck :: cv :: cs)
def trsOf (K : PySem.W.Frag) (G : Gm) : List CE → List (TE × TE)
  | k :: v :: r => (tE K G k, tE K G v) :: trsOf K G r
  | _ => []
theorem PPl.pps {pos : Pos} : ∀ {ks : List (Option Expr)} {vs : List Expr} {cs : List CE}, PPl X G ks vs cs → PPs X pos ks vs (trsOf X.K G cs) ∧ ks.all (·.isSome) = true ∧ ks.length = vs.length ∧ cs.length = 2 * ks.length
  | _, _, _, .nil => ⟨pps_nil, rfl, rfl, rfl⟩
  | _, _, _, .cons hk hv l => by
    obtain ⟨h1, h2, h3, h4⟩ := PPl.pps (pos := pos) l
    exact ⟨pps_cons hk hv h1, by simpa using h2, by simpa using h3, by simp [h4]; omega⟩
theorem usePairs {sg : L2.St} : ∀ {ks : List (Option Expr)} {es : List Expr} {cs : List CE} (l : PPl X G ks es cs) {ρ : Env} {T : Its} {F H : Hp} {Kc : List PyData → List O → Env → Prop} {Q : List (V × V) → Hp → Prop},
    sg.length = ρ.length → Rel X.K F H (sg.zip ρ ++ T) → evP G cs ρ Kc →
    (∀ kds os ρ' vks vs F' H', Kc kds os ρ' → Sub F F' → ρ'.length = ρ.length → Rel X.K F' H' ((vs.map some).zip os ++ (sg.zip ρ' ++ T)) → DnL X.K F' vks kds → vs.length = os.length → vks.length = vs.length → vs.length = ks.length → Q (vks.zip vs) H') → tPairs (trsOf X.K G cs) sg H Q
  | _, _, _, .nil, ρ, T, F, H, Kc, Q, hl, r, e, w => w [] [] ρ [] [] F H e (.refl _) rfl r .nil rfl rfl rfl
  | _, _, _, .cons (ck := ck) (cv := cv) (cs := cs) hk hv l, ρ, T, F, H, Kc, Q, hl, r, e, w => by
    unfold evP at e
    refine useD hl r e fun kd ρ1 v1 F1 H1 k1 s1 p1 l1 r1 h1 => ?_
    refine useO (by rw [l1]; exact hl) r1 k1 fun o ρ2 v2 F2 H2 k2 s2 p2 l2 r2 => ?_
    have r2' : Rel X.K F2 H2 (sg.zip ρ2 ++ (some v2, o) :: T) := r2.perm List.perm_middle.symm
    refine usePairs l (by rw [l2, l1]; exact hl) r2' k2 fun kds os ρ3 vks vs F3 H3 k3 s3 l3 q dk e1 e2 e3 => ?_
    refine w (kd :: kds) (o :: os) ρ3 (v1 :: vks) (v2 :: vs) F3 H3 k3 ((s1.trans s2).trans s3) (l3.trans (l2.trans l1)) ?_ (.cons (h1.mono (s2.trans s3)) dk) (by simp [e1]) (by simp [e2]) (by simp [e3])
    refine q.perm ?_
    show (((vs.map some).zip os) ++ (sg.zip ρ3 ++ (some v2, o) :: T)).Perm ((some v2, o) :: (((vs.map some).zip os) ++ (sg.zip ρ3 ++ T)))
    refine (List.Perm.append_left _ List.perm_middle).trans ?_
    exact List.perm_middle
theorem putK_new {κ : Type} [DecidableEq κ] {kvs : List (κ × V)} {k : κ} {v : V} (h : k ∉ kvs.map (·.1)) : putK kvs k v = kvs ++ [(k, v)] := by
  unfold putK
  rw [if_neg]
  intro z
  obtain ⟨kv, hm, e⟩ := List.any_eq_true.mp z
  exact h (List.mem_map.mpr ⟨kv, hm, by simpa using e⟩)
theorem mergeK_zip : ∀ {ks : List Key} {vs : List V} {acc : List (Key × V)}, ks.Nodup → ks.length = vs.length → (∀ k, k ∈ ks → k ∉ acc.map (·.1)) → mergeK acc (ks.zip vs) = acc ++ ks.zip vs
  | [], _, acc, _, _, _ => by simp [mergeK]
  | k :: ks, [], _, _, h, _ => by simp at h
  | k :: ks, v :: vs, acc, nd, h, hn => by
    obtain ⟨n1, n2⟩ := List.nodup_cons.mp nd
    show mergeK (putK acc k v) (ks.zip vs) = acc ++ ((k, v) :: ks.zip vs)
    rw [putK_new (hn k List.mem_cons_self), mergeK_zip n2 (by simpa using h) fun k' hk z => ?_]
    · simp
    · rw [List.map_append] at z
      rcases List.mem_append.mp z with z | z
      · exact hn k' (List.mem_cons_of_mem _ hk) z
      · have e : k' = k := by simpa using z
        exact n1 (e ▸ hk)
theorem zip_kV {ks : List Key} : ∀ {vs : List V}, (ks.map kV).zip vs = (ks.zip vs).map fun kv => (kV kv.1, kv.2) := by
  induction ks with
  | nil => intro vs; simp
  | cons k ks ih =>
    intro vs
    cases vs with
    | nil => simp
    | cons v vs => simp [ih]
theorem vs_dct {ks : List (Option Expr)} {es : List Expr} {cs : List CE} {pos : Pos} (l : PPl X G ks es cs) (h0 : ks ≠ []) (h15 : ks.length ≤ 15) : PE X (.Dict ks es pos) (tE X.K G (.dct cs)) := by
  obtain ⟨hp, hall, hlen, hcs⟩ := l.pps (pos := pos)
  refine PE.weak (pe_disp hp hall hlen h0 h15) fun sg H Q ⟨ρ, T, F, hl, r, e⟩ p hn => ?_
  unfold ev at e
  have r0 : Rel X.K F (upd H p (.dK [])) ((some (.ref p), .nd (.dk []) []) :: (sg.zip ρ ++ T)) := Rel.node (k := .dk []) (vs := []) (os := []) rfl ⟨rfl, List.nodup_nil⟩ r hn
  have r1 : Rel X.K F (upd H p (.dK [])) (sg.zip ρ ++ (some (.ref p), .nd (.dk []) []) :: T) := r0.perm List.perm_middle.symm
  refine usePairs l hl r1 e fun kds os ρ' vks vs F' H' k1 s1 l1 q dk e1 e2 e3 => ?_
  obtain ⟨kk, ek, k1⟩ := optQ_some k1
  obtain ⟨nd, k1⟩ := k1
  have q1 : Rel X.K F' H' ((vs.map some).zip os ++ ((some (.ref p), .nd (.dk []) []) :: (sg.zip ρ' ++ T))) := q.perm (List.Perm.append_left _ List.perm_middle)
  have ekk := keysD_V dk ek
  have lk : kk.length = vs.length := by
    have z := congrArg List.length ekk
    rw [List.length_map] at z
    omega
  obtain ⟨vs0, ha, hl0, hf0, mu⟩ := Rel.mutate (its := (some (.ref p), .nd (.dk []) []) :: (sg.zip ρ' ++ T)) (i := 0) (p := []) q1 rfl rfl rfl
  have e0 : vs0 = [] := List.length_eq_zero_iff.mp (by simpa using hl0)
  subst e0
  have res := mu [] [] (.dk kk) vs os e1 ⟨by rw [← e1]; exact lk, nd⟩ (by simp)
  refine ⟨ha, kk.zip vs, ?_, ?_, ?_⟩
  · rw [ekk, zip_kV]
  · rw [List.length_zip]; omega
  · rw [mergeK_zip nd lk (fun _ _ z => by simp at z)]
    rw [List.nil_append]
    exact k1 (.ref p) F' _ s1 (fun z => nomatch z) l1 res
/-! ### displays whose keys are tuples -/
def mergeKT (acc more : List (List Key × V)) : List (List Key × V) := more.foldl (fun acc kv => putK acc kv.1 kv.2) acc
theorem KT_merge {H : Hp} : ∀ {more : List (List Key × V)} {rs : List (List Key × Addr × Value)} {kvs : List (List Key × V)} {xs : List (List Key × Addr × Value)}, L2.KT H more rs → L2.KT H kvs xs → L2.KT H (mergeKT kvs more) (PySem.storedAllH xs rs) := by
  intro more rs kvs xs r
  induction r generalizing kvs xs with
  | nil => intro q; exact q
  | @cons p q ps qs h t ih =>
    intro r0
    refine ih (kvs := putK kvs p.1 p.2) (xs := storedH xs q.1 q.2.1 q.2.2) ?_
    have e := L2.KT.put r0 p.1 h.2.1 h.2.2
    rw [show q.1 = p.1 from h.1.symm]
    exact e
theorem putK_len {κ : Type} [DecidableEq κ] (kvs : List (κ × V)) (k : κ) (v : V) : (putK kvs k v).length ≤ kvs.length + 1 := length_putK kvs k v
theorem mergeKT_len : ∀ (more acc : List (List Key × V)), (mergeKT acc more).length ≤ acc.length + more.length
  | [], acc => Nat.le_refl _
  | p :: r, acc => by
    have h1 := mergeKT_len r (putK acc p.1 p.2)
    have h2 := putK_len acc p.1 p.2
    show (mergeKT (putK acc p.1 p.2) r).length ≤ _
    rw [List.length_cons]; omega
theorem carriesH_of {P : Program} {w : World} {H : Hp} {h : Heap} (ok : HOk P w H h) : ∀ {kbs : List ((List Key × Addr) × V)} {ws : List (Value × Value)}, VV (kbs.map fun x => (.ref x.1.2, x.2)) ws → (∀ x, x ∈ kbs → H x.1.2 = some (.tup (x.1.1.map kV))) →
    ∃ rs, PySem.CarriesH (tupleKind (mixKind P w)) h ws rs ∧ L2.KT H (kbs.map fun x => (x.1.1, x.2)) rs
  | [], _, r, _ => by
    rw [List.map_nil] at r
    cases r
    exact ⟨[], trivial, .nil⟩
  | x :: kbs, _, r, hk => by
    rw [List.map_cons] at r
    cases r with
    | @cons a b as bs h t =>
      obtain ⟨rs, c, q⟩ := carriesH_of ok t fun y hy => hk y (List.mem_cons_of_mem _ hy)
      obtain ⟨b1, b2⟩ := b
      have e1 : b1 = .ref x.1.2 := h.1
      have hx := hk x List.mem_cons_self
      exact ⟨(x.1.1, x.1.2, b2) :: rs, ⟨e1, rfl, key_of ok hx, c⟩, .cons ⟨rfl, hx, h.2⟩ q⟩
def tDispT (trs : List (TE × TE)) : TE := fun σ H Q => ∀ p, H p = none → tPairs trs σ (upd H p (.dT [])) fun ps H2 => H2 p = some (.dT []) ∧ ∃ kbs : List ((List Key × Addr) × V), ps = kbs.map (fun x => (.ref x.1.2, x.2)) ∧ kbs.length ≤ 15 ∧
  (∀ x, x ∈ kbs → H2 x.1.2 = some (.tup (x.1.1.map kV))) ∧ Q (.ref p) (upd H2 p (.dT (mergeKT [] (kbs.map fun x => (x.1.1, x.2)))))
theorem pe_dispT {pos : Pos} {keys : List (Option Expr)} {values : List Expr} {trs : List (TE × TE)} (hu : X.A.units < cLine) (h : PPs X pos keys values trs) (hall : keys.all (·.isSome) = true) (hl : keys.length = values.length) (h0 : keys ≠ [])
    (h15 : keys.length ≤ 15) : PE X (.Dict keys values pos) (tDispT trs) := by
  refine ⟨fun pins s σ H Q I q => ?_⟩
  have hn := I.hok.fresh (Nat.le_refl s.heap.objs.size)
  have I1 := I.laid (a := s.heap.objs.size) (o := .dT []) (h' := s.heap.push { cls := .type "dict", data := .dict #[] }) (t' := s.toks) (fun _ _ q => Heap.get?_push_of_some _ q) (Nat.le_refl _) (dt_empty s.heap I.big)
  refine PySem.wpAny_Dict_any hall hl h0 h15 (thn (h.run pins _ σ _ _ I1 (q _ hn)) fun ws s2 ⟨ps, H2, I2, rel, e, kbs, ep, lk, hk, q2⟩ => ?_)
  subst ep
  obtain ⟨rs, c, rk⟩ := carriesH_of I2.hok rel hk
  obtain ⟨z, hd, xs, r0, dd⟩ := dt_of I2.hok e
  cases r0
  have lr : rs.length = kbs.length := by
    have z := Paired.length rk
    rw [List.length_map] at z
    exact z.symm
  refine PySem.wpAny_storeAllH (knd := tupleKind (mixKind X.prog X.w)) (show X.A.units < cLine from hu) ws rs [] s2 _ c dd (by rw [List.length_nil, sizeLine_eq]; omega) fun h' tk dd' hs => ⟨.ref s.heap.objs.size, _, ?_, rfl, q2⟩
  have hz : (mergeKT [] (kbs.map fun x => (x.1.1, x.2))).length ≤ sizeLine := by
    have h1 := mergeKT_len (kbs.map fun x => (x.1.1, x.2)) []
    rw [List.length_nil, List.length_map] at h1
    rw [sizeLine_eq]; omega
  obtain ⟨o, es, ep, hq, h2, h3, h4, _, h5⟩ := dd'
  refine d_write I2 (by rw [e]; exact True.intro) hs ⟨o, hq⟩ ⟨hz, hd, _, (KT_merge rk .nil).keeps fun b ys ec => ?_, o, es, ep, hq, h2, h3, h4, h5⟩
  rw [upd_ne (fun z => by rw [z, e] at ec; cases ec)]
  exact ec
abbrev PTd (K : PySem.W.Frag) (F : Hp) : List (List Key × V) → List (List Key × PyData) → Prop := Paired fun p q => p.1 = q.1 ∧ Dn K F p.2 q.2
theorem PTd.repl {K : PySem.W.Frag} {F : Hp} {a : List (List Key × V)} {b : List (List Key × PyData)} (r : PTd K F a b) (k : List Key) {v : V} {d : PyData} (hv : Dn K F v d) : PTd K F (a.map fun kv => if kv.1 = k then (kv.1, v) else kv) (b.map fun kv => if kv.1 = k then (kv.1, d) else kv) := by
  induction r with
  | nil => exact .nil
  | @cons p q ps qs h t ih =>
    rw [List.map_cons, List.map_cons]
    refine .cons ?_ ih
    obtain ⟨h1, h2⟩ := h
    rw [h1]
    split
    · exact ⟨rfl, hv⟩
    · exact ⟨h1, h2⟩
theorem PTd.put {K : PySem.W.Frag} {F : Hp} {a : List (List Key × V)} {b : List (List Key × PyData)} (r : PTd K F a b) (k : List Key) {v : V} {d : PyData} (hv : Dn K F v d) : PTd K F (putK a k v) (putT b k d) := by
  have e : (a.any fun kv => decide (kv.1 = k)) = (b.any fun kv => decide (kv.1 = k)) := by
    induction r with
    | nil => rfl
    | cons h t ih => rw [List.any_cons, List.any_cons, ih, h.1]
  unfold putK putT
  rw [e]
  split
  · exact PTd.repl r k hv
  · exact Paired.snoc r ⟨rfl, hv⟩
theorem PTd.merge {K : PySem.W.Frag} {F : Hp} : ∀ {m : List (List Key × V)} {n : List (List Key × PyData)}, PTd K F m n → ∀ {a : List (List Key × V)} {b : List (List Key × PyData)}, PTd K F a b → PTd K F (mergeKT a m) (mergeT b n) := by
  intro m n r
  induction r with
  | nil => intro a b q; exact q
  | @cons p q ps qs h t ih =>
    intro a b r0
    refine ih (a := putK a p.1 p.2) (b := putT b q.1 q.2) ?_
    rw [show p.1 = q.1 from h.1]
    exact PTd.put r0 _ h.2
theorem PTd.zip {K : PySem.W.Frag} {F : Hp} : ∀ {ks : List (List Key)} {vs : List V} {ds : List PyData}, ks.length = vs.length → DnL K F vs ds → PTd K F (ks.zip vs) (ks.zip ds)
  | [], [], _, _, .nil => .nil
  | k :: ks, v :: vs, _, e, .cons h l => .cons ⟨rfl, h⟩ (PTd.zip (by simpa using e) l)
  | [], _ :: _, _, e, _ => by simp at e
  | _ :: _, [], _, e, _ => by simp at e
theorem PTd.parts {K : PySem.W.Frag} {F : Hp} {a : List (List Key × V)} {b : List (List Key × PyData)} (r : PTd K F a b) : a = (b.map (·.1)).zip (a.map (·.2)) ∧ DnL K F (a.map (·.2)) (b.map (·.2)) := by
  induction r with
  | nil => exact ⟨rfl, .nil⟩
  | @cons p q ps qs h t ih =>
    refine ⟨?_, .cons h.2 ih.2⟩
    rw [List.map_cons, List.map_cons, List.zip_cons_cons, ← ih.1, ← h.1]
theorem putT_nodup {b : List (List Key × PyData)} (h : (b.map (·.1)).Nodup) (k : List Key) (d : PyData) : ((putT b k d).map (·.1)).Nodup := by
  unfold putT
  split
  · rw [List.map_map]
    have e : ((fun kv : List Key × PyData => kv.1) ∘ fun kv => if kv.1 = k then (kv.1, d) else kv) = fun kv => kv.1 := by
      funext kv
      show (if kv.1 = k then (kv.1, d) else kv).1 = kv.1
      split <;> rfl
    rw [e]
    exact h
  · rename_i n
    rw [List.map_append]
    refine List.nodup_append.mpr ⟨h, by simp, fun x hx y hy z => n ?_⟩
    have e : y = k := by simpa using hy
    obtain ⟨kv, hm, ek⟩ := List.mem_map.mp hx
    exact List.any_eq_true.mpr ⟨kv, hm, by simp [ek, z, e]⟩
theorem mergeT_nodup : ∀ (n b : List (List Key × PyData)), (b.map (·.1)).Nodup → ((mergeT b n).map (·.1)).Nodup
  | [], _, h => h
  | p :: r, b, h => mergeT_nodup r (putT b p.1 p.2) (putT_nodup h _ _)
theorem keysT_V {K : PySem.W.Frag} {F : Hp} : ∀ {vks : List V} {kds : List PyData} {ks : List (List Key)}, DnL K F vks kds → keysT kds = some ks → ∃ bs : List Addr, vks = bs.map V.ref ∧ bs.length = ks.length ∧ ∀ x, x ∈ ks.zip bs → F x.2 = some (.tup (x.1.map kV))
  | _, _, _, .nil, e => by
    cases e
    exact ⟨[], rfl, rfl, fun x hx => by simp at hx⟩
  | _, _, ks, .cons (d := d) (ds := ds) h l, e => by
    unfold keysT at e
    cases e1 : keyT d with
    | none => rw [e1] at e; cases e
    | some k =>
      cases e2 : keysT ds with
      | none => rw [e1, e2] at e; cases e
      | some ks' =>
        rw [e1, e2] at e
        cases e
        obtain ⟨b, rfl, hb⟩ := keyT_V h e1
        obtain ⟨bs, rfl, lb, hbs⟩ := keysT_V l e2
        refine ⟨b :: bs, rfl, by simp [lb], fun x hx => ?_⟩
        rw [List.zip_cons_cons] at hx
        rcases List.mem_cons.mp hx with z | z
        · rw [z]; exact hb
        · exact hbs x z
theorem zip3 : ∀ {ks : List (List Key)} {bs : List Addr} {vs : List V}, bs.length = ks.length → vs.length = ks.length → (bs.map V.ref).zip vs = ((ks.zip bs).zip vs).map (fun x => (V.ref x.1.2, x.2)) ∧ ks.zip vs = ((ks.zip bs).zip vs).map fun x => (x.1.1, x.2)
  | [], [], [], _, _ => ⟨rfl, rfl⟩
  | k :: ks, b :: bs, v :: vs, h, g => by
    obtain ⟨e1, e2⟩ := zip3 (ks := ks) (bs := bs) (vs := vs) (by simpa using h) (by simpa using g)
    refine ⟨?_, ?_⟩
    · simp only [List.map_cons, List.zip_cons_cons, e1]
    · simp only [List.map_cons, List.zip_cons_cons]
      rw [← e2]
  | [], _ :: _, _, h, _ => by simp at h
  | [], [], _ :: _, _, h => by simp at h
  | _ :: _, [], _, h, _ => by simp at h
  | _ :: _, _ :: _, [], _, h => by simp at h
theorem vs_dctT (hu : X.A.units < cLine) {ks : List (Option Expr)} {es : List Expr} {cs : List CE} {pos : Pos} (l : PPl X G ks es cs) (h0 : ks ≠ []) (h15 : ks.length ≤ 15) : PE X (.Dict ks es pos) (tE X.K G (.dctT cs)) := by
  obtain ⟨hp, hall, hlen, hcs⟩ := l.pps (pos := pos)
  refine PE.weak (pe_dispT hu hp hall hlen h0 h15) fun sg H Q ⟨ρ, T, F, hl, r, e⟩ p hn => ?_
  unfold ev at e
  have r0 : Rel X.K F (upd H p (.dT [])) ((some (.ref p), .nd (.dt []) []) :: (sg.zip ρ ++ T)) := Rel.node (k := .dt []) (vs := []) (os := []) rfl ⟨rfl, List.nodup_nil⟩ r hn
  have r1 : Rel X.K F (upd H p (.dT [])) (sg.zip ρ ++ (some (.ref p), .nd (.dt []) []) :: T) := r0.perm List.perm_middle.symm
  refine usePairs l hl r1 e fun kds os ρ' vks vs F' H' k1 s1 l1 q dk e1 e2 e3 => ?_
  obtain ⟨kk, ek, k1⟩ := optQ_some k1
  obtain ⟨ds, ed, k3⟩ := optQ_some k1
  have eo := datL_eq ed
  subst eo
  rw [List.length_map] at e1
  obtain ⟨dv, q2⟩ := Rel.ofDat e1 q
  have q3 : Rel X.K F' H' ((some (.ref p), .nd (.dt []) []) :: (sg.zip ρ' ++ T)) := q2.perm List.perm_middle
  obtain ⟨bs, evk, lb, hbs⟩ := keysT_V dk ek
  subst evk
  rw [List.length_map] at e2
  have lk : kk.length = vs.length := by omega
  obtain ⟨z1, z2⟩ := zip3 (ks := kk) (bs := bs) (vs := vs) lb lk.symm
  have pt : PTd X.K F' (mergeKT [] (kk.zip vs)) (mergeT [] (kk.zip ds)) := PTd.merge (PTd.zip lk dv) .nil
  obtain ⟨p1, p2⟩ := PTd.parts pt
  have q4 := Rel.datas q3 p2
  have ln := p2.length
  obtain ⟨vs0, ha, hl0, hf0, mu⟩ := Rel.mutate (its := (some (.ref p), .nd (.dt []) []) :: (sg.zip ρ' ++ T)) (i := 0) (p := []) q4 rfl rfl rfl
  have e0 : vs0 = [] := List.length_eq_zero_iff.mp (by simpa using hl0)
  subst e0
  have res := mu [] [] (.dt ((mergeT [] (kk.zip ds)).map (·.1))) ((mergeKT [] (kk.zip vs)).map (·.2)) (((mergeT [] (kk.zip ds)).map (·.2)).map O.dat) (by simpa using ln) ⟨by simp, mergeT_nodup _ [] List.nodup_nil⟩ (by simp)
  refine ⟨ha, (kk.zip bs).zip vs, z1, ?_, fun x hx => ?_, ?_⟩
  · rw [List.length_zip, List.length_zip]; omega
  · have m : x.1 ∈ kk.zip bs := (List.of_mem_zip (a := x.1) (b := x.2) hx).1
    exact q3.sub _ _ (hbs x.1 m)
  · rw [← z2]
    have k2 := k3 (.ref p) F' _ s1 (fun z => nomatch z) l1 (show RelR X.K F' _ sg ρ' T (.ref p) (.own (dictT (kk.zip ds))) from by
      have r9 := res
      simp only [List.map_map] at r9
      exact r9)
    rw [p1]
    exact k2
/-! ### methods of texts -/
theorem baseOk {o : Expr} {m : Str} {env : PySem.Env} {w : Sem Value} (h : ∀ i p q, o ≠ .Call (.Name i p) [] [] q) : attributeBase o m env w = w := by
  unfold attributeBase
  split
  · rename_i e
    exact absurd rfl (h _ _ _)
  · rfl
theorem vs_join {o e : Expr} {a c : CE} {apos pos : Pos} (ho : PE X o (tE X.K G a)) (he : PE X e (tE X.K G c)) (ns : NS X e) (hb : ∀ i p q, o ≠ .Call (.Name i p) [] [] q) (hline : (apos.endLine == pos.line) = true) :
    PE X (.Call (.Attribute o "join" apos) [e] [] pos) (tE X.K G (.mth .join a [c])) := by
  refine PE.weak (pe_join ho he (ns []) (baseOk hb) hline) fun sg H Q ⟨ρ, T, F, hl, r, ee⟩ => ?_
  unfold ev at ee
  refine useH hl r ee fun ra ρ1 v1 F1 H1 k1 s1 p1 l1 r1 h1 => ?_
  obtain ⟨rc, k1⟩ := k1
  unfold evH at k1
  have hstr : ∃ x, vw ra ρ1 = some (.str x) := by
    unfold rcvM at rc
    split at rc
    · exact ⟨_, by assumption⟩
    · exact rc.elim
  obtain ⟨x, ex⟩ := hstr
  have vx := (h1.view r1 ex).str
  subst vx
  refine ⟨⟨x, rfl⟩, ?_⟩
  refine useH (by rw [l1]; exact hl) r1 k1 fun rb ρ2 v2 F2 H2 k2 s2 p2 l2 r2 h2 => ?_
  unfold evH at k2
  obtain ⟨_, st, k2⟩ := k2
  obtain ⟨d, ed, k2⟩ := vwQ_some k2
  obtain ⟨ds, hv, k2⟩ := HeldL.views (.cons h2 .nil) r2 k2
  have h1' := h1.keep (H' := H2) s2 (st.imp id fun p => p2 (and_l p))
  have va := h1'.view r2 ed
  have fin : ∀ {y : Str}, Q (.str y) H2 → Q (.str y) H2 := fun q => q
  unfold mthD at k2
  split at k2
  · obtain ⟨w, ew, vw2⟩ := vl1 hv
    cases ew
    cases va.str
    obtain ⟨p, vs, rfl, hp, lp⟩ := vw2.list r2.sub
    obtain ⟨ys, ey, k2⟩ := optQ_some k2
    have ev2 := lp.strs ey
    subst ev2
    exact ⟨_, p, ys, rfl, rfl, .inl (.inl hp), k2.1, k2.2 _ F2 H2 (s1.trans s2) (fun z => nomatch z) (l2.trans l1) (r2.cons_dat (.str _))⟩
  · obtain ⟨w, ew, vw2⟩ := vl1 hv
    cases ew
    cases va.str
    obtain ⟨p, vs, rfl, _, hp, lp⟩ := vw2.tuple r2.sub
    obtain ⟨ys, ey, k2⟩ := optQ_some k2
    have ev2 := lp.strs ey
    subst ev2
    exact ⟨_, p, ys, rfl, rfl, .inr (hp), k2.1, k2.2 _ F2 H2 (s1.trans s2) (fun z => nomatch z) (l2.trans l1) (r2.cons_dat (.str _))⟩
  · exact k2.elim
/-! ### methods that change a list -/
theorem rcvW_some {ρ : Env} {i : Nat} {p : List Nat} (h : rcvW ρ i p) : ∃ os, getS ρ i p = some (.nd .lst os) := by
  unfold rcvW at h
  split at h
  · exact ⟨_, by assumption⟩
  · exact h.elim
/-- a list at a place, seen in the heap -/
theorem Rel.seeAt {K : PySem.W.Frag} {F H : Hp} {sg : L2.St} {ρ : Env} {T : Its} {i : Nat} {p : List Nat} {kd : NK} {os : List O} {v0 v : V} (r : Rel K F H (sg.zip ρ ++ T)) (g : getS ρ i p = some (.nd kd os)) (e : sg[i]? = some (some v0)) (d : desc H v0 p v) :
    ∃ a vs, v = .ref a ∧ H a = some (hoOf kd vs) ∧ vs.length = os.length ∧ kd.fit vs.length := by
  obtain ⟨o0, e0, g0⟩ := getS_some g
  obtain ⟨u, A, d1, hown⟩ := r.at (its_get (T := T) e e0) g0
  obtain rfl := desc_inj d d1
  cases hown with
  | nd ha hl hf l => exact ⟨_, _, rfl, ha, hl, by rw [hl]; exact hf⟩
theorem ixN_seq {n : Nat} {i : Int} {k : Nat} (h : ixN n i = some k) : seqIndex? i n = some k := by
  unfold ixN at h
  unfold seqIndex?
  by_cases h0 : 0 ≤ i
  · rw [if_pos h0] at h
    by_cases h1 : i < n
    · rw [if_pos h1] at h
      simp only [show ¬ i < 0 by omega, if_false]
      rw [if_pos (by simp; omega)]
      exact h
    · rw [if_neg h1] at h; cases h
  · rw [if_neg h0] at h
    by_cases h1 : -(n : Int) ≤ i
    · rw [if_pos h1] at h
      simp only [show i < 0 by omega, if_true]
      rw [if_pos (by simp; omega)]
      exact h
    · rw [if_neg h1] at h; cases h
/-- the change of a list at a place, by the state: what the method's rule wants -/
theorem mmt_step {K : PySem.W.Frag} {F H : Hp} {sg : L2.St} {ρ : Env} {T : Its} {i : Nat} {p : List Nat} {os : List O} {v0 : V} {a : Addr} {tmp : Its} (r : Rel K F H (tmp ++ (sg.zip ρ ++ T))) (g : getS ρ i p = some (.nd .lst os)) (e : sg[i]? = some (some v0)) (d : desc H v0 p (.ref a)) :
    ∃ vs, H a = some (.lst vs) ∧ vs.length = os.length ∧ ∀ (outs rst : Its) (vs' : List V) (os' : List O), vs'.length = os'.length → (((vs'.map some).zip os' ++ outs) ++ rst).Perm ((vs.map some).zip os ++ tmp) →
      Rel K F (upd H a (.lst vs')) (outs ++ (sg.zip (setS ρ i p (.nd .lst os')) ++ T)) := by
  obtain ⟨o0, e0, g0⟩ := getS_some g
  obtain ⟨vs, ha, hl, hf, mu⟩ := Rel.mutate r (its_get (T := T) e e0) g0 d
  refine ⟨vs, ha, hl, fun outs rst vs' os' hl' pm => ?_⟩
  have z := mu outs rst .lst vs' os' hl' trivial pm
  rw [its_set e (lt_of_get e0)] at z
  rw [setS_eq e0]
  exact z
theorem zip_app {vs ws : List V} {os ps : List O} (h : vs.length = os.length) : ((vs ++ ws).map some).zip (os ++ ps) = (vs.map some).zip os ++ (ws.map some).zip ps := by
  rw [List.map_append, List.zip_append (by simp [h])]
theorem zip_erase : ∀ {vs : List V} {os : List O} {n : Nat}, ((vs.eraseIdx n).map some).zip (os.eraseIdx n) = ((vs.map some).zip os).eraseIdx n
  | [], os, n => by simp
  | v :: vs, [], n => by simp
  | v :: vs, o :: os, 0 => by simp
  | v :: vs, o :: os, n + 1 => by simp [zip_erase]
theorem zip_getV {vs : List V} {os : List O} {n : Nat} {o : O} (h : vs.length = os.length) (e : os[n]? = some o) : ∃ v, vs[n]? = some v ∧ ((vs.map some).zip os)[n]? = some (some v, o) := by
  have l := lt_of_get e
  refine ⟨vs[n]'(by omega), by simp, ?_⟩
  simp [List.zip, List.getElem?_zipWith, e, show n < vs.length by omega]
theorem eraseIdx_last {α : Type} : ∀ {l : List α}, l.eraseIdx (l.length - 1) = l.dropLast
  | [] => rfl
  | [a] => rfl
  | a :: b :: l => by
    have z := eraseIdx_last (l := b :: l)
    simp only [List.length_cons, Nat.add_sub_cancel] at z ⊢
    rw [List.eraseIdx_cons_succ, z]
    rfl
theorem vs_mmt {id : String} {name : Str} {m : WF} {rule : V → List V → Hp → VK → Prop} {o e : Expr} {es : List Expr} {a c : CE} {cs : List CE} {apos pos : Pos} (slot : Slot "list" name id) (ty : typeOf (.builtin id) = pure (.type "method_descriptor")) (hm : MtR X id rule)
    (ho : PE X o (tE X.K G a)) (l : PEl X G (e :: es) (c :: cs)) (hb : ∀ i p q, o ≠ .Call (.Name i p) [] [] q) (hline : (apos.endLine == pos.line) = true) (hlen : (e :: es).length < 20)
    (step : ∀ {F H : Hp} {sg : L2.St} {ρ : Env} {T : Its} {i : Nat} {p : List Nat} {os : List O} {v0 : V} {b : Addr} {vs : List V} {zs : List O} {Q : VK} {Kc : O → O → Prop}, Rel X.K F H ((vs.map some).zip zs ++ (sg.zip ρ ++ T)) → vs.length = zs.length → zs.length = cs.length + 1 → getS ρ i p = some (.nd .lst os) → sg[i]? = some (some v0) → desc H v0 p (.ref b) →
      mmtO m (.nd .lst os) zs Kc → (∀ z o' v F' H', Kc z o' → Sub F F' → Rel X.K F' H' ((some v, z) :: (sg.zip (setS ρ i p o') ++ T)) → Q v H') → rule (.ref b) vs H Q) :
    PE X (.Call (.Attribute o name apos) (e :: es) [] pos) (tE X.K G (.mmt m a (c :: cs))) := by
  have ns : NS X e := by cases l with | cons ns _ _ => exact ns
  have st : (backTo pos (starEach es X.env)).any (·.1) = false := by
    rw [any_back]
    cases l with | cons _ _ l => exact l.stars
  have few : ((backTo pos (starEach (e :: es) X.env)).all (fun x => !x.1) && (backToKw pos (keywordEach [] X.env)).all (fun x => x.1.isSome) && decide ((e :: es).length + ([] : List Keyword).length + (if ([] : List Keyword).isEmpty then 0 else 1) < 30)) = true := by
    have z : (backTo pos (starEach (e :: es) X.env)).any (·.1) = false := by rw [any_back]; exact l.stars
    have z2 : (backTo pos (starEach (e :: es) X.env)).all (fun x => !x.1) = true := by
      rw [List.all_eq_not_any_not]
      simpa using z
    rw [z2]
    show (true && true && decide _) = true
    simp
    simp at hlen
    omega
  refine PE.weak (pe_bm PySem.F.plainAttrs_list slot ty hm ho (vs_L l) (baseOk hb) few hline (ns es) st) fun sg H Q ⟨ρ, T, F, hl, r, ee⟩ => ?_
  unfold ev at ee
  refine use hl r ee fun ra ρ1 v1 F1 H1 k1 s1 p1 l1 r1 => ?_
  split at k1
  · rename_i i p
    obtain ⟨rc, k1⟩ := k1
    obtain ⟨os, eg⟩ := rcvW_some rc
    obtain ⟨r1, v0, e0, d0⟩ := r1
    obtain ⟨b, vs1, eb, hb1, hl1, _⟩ := r1.seeAt eg e0 d0
    subst eb
    refine ⟨.inl ⟨rfl, vs1, SqL.of hb1⟩, ρ1, T, F1, by rw [l1]; exact hl, r1, evL_mono G (fun zs ρ2 k2 vs F2 H2 s2 p2 l2 lv lo q => ?_) k1⟩
    obtain ⟨stb, k2⟩ := k2
    obtain ⟨o2, eo, k2⟩ := optQ_some k2
    have d2 : desc H2 v0 p (.ref b) := by
      have hd : Held X.K F1 H1 sg (.ref b) (.pl i p) := ⟨v0, e0, d0⟩
      obtain ⟨w0, ew, dw⟩ := hd.keep (H' := H2) s2 (stb.imp _root_.id p2)
      rw [e0] at ew
      cases ew
      exact dw
    have lst2 : ∃ os2, o2 = .nd .lst os2 := by
      unfold mmtO at k2
      split at k2
      all_goals first
        | exact ⟨_, rfl⟩
        | exact k2.elim
    obtain ⟨os2, rfl⟩ := lst2
    exact step q lv (by simpa using lo) eo e0 d2 k2 fun z o' v F3 H3 kz s3 r3 => kz v F3 H3 ((s1.trans s2).trans s3) (fun z => nomatch z) (by rw [setS_len]; exact l2.trans l1) r3
  · exact k1.elim
theorem vs_append {o e : Expr} {a c : CE} {apos pos : Pos} (ho : PE X o (tE X.K G a)) (l : PEl X G [e] [c]) (hb : ∀ i p q, o ≠ .Call (.Name i p) [] [] q) (hline : (apos.endLine == pos.line) = true) :
    PE X (.Call (.Attribute o "append" apos) [e] [] pos) (tE X.K G (.mmt .append a [c])) := by
  refine vs_mmt PySem.F.slot_list_append PySem.F.type_list_append mt_append ho l hb hline (by simp) fun {F H sg ρ T i p os v0 b vs zs Q Kc} r lv lz g e d k w => ?_
  unfold mmtO at k
  split at k
  all_goals first | cases ‹WF.append = _› | skip
  · rename_i e1 e2
    cases e2
    obtain ⟨vs1, ha, hl1, mu⟩ := mmt_step r g e d
    match vs, lv with
    | [y], _ =>
      refine ⟨b, vs1, y, rfl, rfl, ha, by rw [hl1]; exact k.1, w _ _ _ F _ k.2 (.refl _) ?_⟩
      refine Rel.cons_dat (mu [] [] (vs1 ++ [y]) _ (by simp [hl1]) ?_) .non
      rw [zip_app hl1]
      simp
  · exact k.elim
theorem perm_erase_back {α : Type} {l : List α} {n : Nat} {a b : α} (h : l[n]? = some a) : ((l.eraseIdx n ++ [a]) ++ [b]).Perm (l ++ [b]) := by
  refine List.Perm.append_right [b] ?_
  refine List.Perm.trans ?_ (perm_eraseIdx h).symm
  exact List.perm_append_comm
theorem vs_popAt {o e : Expr} {a c : CE} {apos pos : Pos} (ho : PE X o (tE X.K G a)) (l : PEl X G [e] [c]) (hb : ∀ i p q, o ≠ .Call (.Name i p) [] [] q) (hline : (apos.endLine == pos.line) = true) :
    PE X (.Call (.Attribute o "pop" apos) [e] [] pos) (tE X.K G (.mmt .pop a [c])) := by
  refine vs_mmt PySem.F.slot_list_pop PySem.F.type_list_pop mt_popAt ho l hb hline (by simp) fun {F H sg ρ T i p os v0 b vs zs Q Kc} r lv lz g e d k w => ?_
  unfold mmtO at k
  split at k
  all_goals first | cases ‹WF.pop = _› | skip
  · cases lz
  · rename_i i0 e2
    cases e2
    obtain ⟨k1, k2, k⟩ := k
    obtain ⟨n, en, k⟩ := optQ_some k
    obtain ⟨z, ez, k⟩ := optQ_some k
    obtain ⟨vs1, ha, hl1, mu⟩ := mmt_step r g e d
    match vs, lv with
    | [y], _ =>
      obtain ⟨y', ey, dy⟩ := Rel.dat (its := sg.zip ρ ++ T) r
      cases ey
      cases dy
      obtain ⟨w1, ew, ezip⟩ := zip_getV hl1 ez
      refine ⟨b, vs1, _, n, w1, rfl, rfl, ha, k1, k2, by rw [hl1]; exact ixN_seq en, ew, w _ _ _ F _ k (.refl _) ?_⟩
      refine mu [(some w1, z)] [(some (V.int i0), O.dat (.int i0))] (vs1.eraseIdx n) (os.eraseIdx n) (by simp [List.length_eraseIdx, hl1]) ?_
      rw [zip_erase]
      exact perm_erase_back ezip
  · exact k.elim
theorem vs_extend {o e : Expr} {a c : CE} {apos pos : Pos} (ho : PE X o (tE X.K G a)) (l : PEl X G [e] [c]) (hb : ∀ i p q, o ≠ .Call (.Name i p) [] [] q) (hline : (apos.endLine == pos.line) = true) :
    PE X (.Call (.Attribute o "extend" apos) [e] [] pos) (tE X.K G (.mmt .extend a [c])) := by
  refine vs_mmt PySem.F.slot_list_extend PySem.F.type_list_extend mt_extend ho l hb hline (by simp) fun {F H sg ρ T i p os v0 b vs zs Q Kc} r lv lz g e d k w => ?_
  have fin : ∀ {y : V} {u : O} {b2 : Addr} {ws : List V} {ds : List PyData}, Rel X.K F H ((some y, u) :: (sg.zip ρ ++ T)) → y = .ref b2 → H b2 = some (.lst ws) → DnL X.K F ws ds → os.length + ds.length ≤ sizeLine → Kc (.dat .none) (.nd .lst (os ++ ds.map O.dat)) → rExtend (.ref b) [y] H Q := fun {y u b2 ws ds} r ey hb2 lw hs kk => by
    have r2 : Rel X.K F H ((((ws.map some).zip (ds.map O.dat)) ++ [(some y, u)]) ++ (sg.zip ρ ++ T)) := by
      have z := r.datas lw
      rw [List.append_assoc]
      exact z
    obtain ⟨vs1, ha, hl1, mu⟩ := mmt_step r2 g e d
    refine ⟨b, b2, vs1, ws, rfl, by rw [ey], ha, hb2, by rw [hl1, lw.length]; exact hs, w _ _ _ F _ kk (.refl _) ?_⟩
    refine Rel.cons_dat (mu [] [(some y, u)] (vs1 ++ ws) _ (by simp [hl1, lw.length]) ?_) .non
    rw [zip_app hl1]
    simp
  unfold mmtO at k
  split at k
  all_goals first | cases ‹WF.extend = _› | skip
  · rename_i e2
    cases e2
    match vs, lv with
    | [y], _ =>
      obtain ⟨y', ey, dy⟩ := Rel.dat (its := sg.zip ρ ++ T) r
      cases ey
      cases dy with
      | lst hh ll => exact fin r rfl (r.sub _ _ hh) ll k.1 k.2
  · rename_i e2
    cases e2
    obtain ⟨k1, k2⟩ := k
    obtain ⟨ds, ed, k3⟩ := optQ_some k2
    have eo := datL_eq ed
    subst eo
    match vs, lv with
    | [y], _ =>
      have r' : Rel X.K F H ((some y, .nd .lst (ds.map O.dat)) :: (sg.zip ρ ++ T)) := r
      obtain ⟨_, A, hown, _, _⟩ := id r'
      cases hown with
      | cons a1 l1 => cases a1 with
        | nd hh hl' hf l' =>
          obtain ⟨_, dl⟩ := OwnL.data l'
          exact fin r' rfl hh dl (by simpa using k1) k3
  · exact k.elim
/-- xs.pop() -/
theorem vs_pop0 {o : Expr} {a : CE} {apos pos : Pos} (ho : PE X o (tE X.K G a)) (hb : ∀ i p q, o ≠ .Call (.Name i p) [] [] q) (hline : (apos.endLine == pos.line) = true) :
    PE X (.Call (.Attribute o "pop" apos) [] [] pos) (tE X.K G (.mmt .pop a [])) := by
  refine PE.weak (pe_bm0 PySem.F.plainAttrs_list PySem.F.slot_list_pop PySem.F.type_list_pop mt_pop ho (baseOk hb) hline) fun sg H Q ⟨ρ, T, F, hl, r, ee⟩ => ?_
  unfold ev at ee
  refine use hl r ee fun ra ρ1 v1 F1 H1 k1 s1 p1 l1 r1 => ?_
  split at k1
  · rename_i i p
    obtain ⟨rc, k1⟩ := k1
    obtain ⟨os, eg⟩ := rcvW_some rc
    obtain ⟨r1, v0, e0, d0⟩ := r1
    obtain ⟨b, vs1, eb, hb1, hl1, _⟩ := r1.seeAt eg e0 d0
    subst eb
    refine ⟨.inl ⟨rfl, vs1, SqL.of hb1⟩, ?_⟩
    unfold evL at k1
    obtain ⟨_, k1⟩ := k1
    obtain ⟨o2, eo, k1⟩ := optQ_some k1
    rw [eg] at eo
    cases eo
    unfold mmtO at k1
    obtain ⟨z, ez, k1⟩ := optQ_some k1
    obtain ⟨vs2, ha, hl2, mu⟩ := mmt_step (tmp := []) r1 eg e0 d0
    obtain ⟨w1, ew, ezip⟩ := zip_getV hl2 ez
    refine ⟨b, vs2, w1, rfl, rfl, ha, by rw [hl2]; exact ew, k1 w1 F1 _ s1 (fun z => nomatch z) (by rw [setS_len]; exact l1) ?_⟩
    refine mu [(some w1, z)] [] vs2.dropLast os.dropLast (by simp [hl2]) ?_
    rw [← eraseIdx_last, ← eraseIdx_last, hl2, zip_erase, List.append_nil, List.append_nil]
    refine List.Perm.trans ?_ (perm_eraseIdx ezip).symm
    exact List.perm_append_comm
  · exact k1.elim
/-! ### isinstance -/
theorem kit_table (a b : TN) : kitB a.nm b.nm = some (decide (a = b) || (decide (a = .bool_) && decide (b = .int_))) := by
  cases a <;> cases b <;> decide +kernel
theorem ty_of {K : PySem.W.Frag} {F H : Hp} {v : V} {d : PyData} (s : Sub F H) (h : View K F H v d) (hs : isScr d = false) : TyX K H v (.type (tyN d).nm) := by
  have h2 := h.dn s
  cases h2 with
  | non => exact .base .non
  | bl b => exact .base (.bl b)
  | int i => exact .base (.int i)
  | str x => exact .base (.str x)
  | lst q l => exact .base (.lst q)
  | tup q l =>
    rcases q with ⟨_, q⟩ | ⟨_, o, q, _⟩
    · exact .base (.tup q)
    · exact .fTuple q
  | dk q e l => exact .base (.dK q)
  | dt q e l => exact .base (.dT q)
  | scr q l => cases hs
theorem vs_isi {T : TN} {e : Expr} {a : CE} {p p2 pos : Pos} (ha : PE X e (tE X.K G a)) (ns : NS X e) (hg : Gl X "isinstance") (hm : X.mg "isinstance" = none) (hgT : Gl X T.name) (hmT : X.mg T.name = none) (hvT : bootBuiltins T.name = some (.type T.nm)) (hnT : T.name ≠ "__name__") (hdT : (T.name == ("__debug__" : Str)) = false) :
    PE X (.Call (.Name "isinstance" p) [e, .Name T.name p2] [] pos) (tE X.K G (.isi a T)) := by
  have pT : PE X (.Name T.name p2) (tC (.ty T.nm)) := pe_bltn hgT hmT hvT rfl hnT hdT
  refine PE.weak (pe_callB call_isi hg hm (by decide +kernel) (pa_cons ha (pa_cons pT pa_nil) (ns _)) (by decide) (by decide) (ns _)) fun sg H Q ⟨ρ, TT, F, hl, r, ee⟩ => ?_
  unfold ev at ee
  refine useH hl r ee fun ra ρ1 v1 F1 H1 k1 s1 p1 l1 r1 h1 => ?_
  obtain ⟨d, ed, hs, k1⟩ := vwQ_some k1
  refine ⟨v1, .ty T.nm, _, _, _, rfl, .ty _, ty_of r1.sub (h1.view r1 ed) hs, kit_ty (kit_table _ _), ?_⟩
  exact k1 _ F1 H1 s1 p1 l1 (r1.cons_dat (.bl _))
end
end VS

namespace VS
open PySem PySem.Spec PyProof.Rows L2
/-! ## what a def promises, where no repr runs -/
structure FnG (P : Program) (w : World) (K : PySem.W.Frag) (mg : Str → Option Value) (base : Heap) (k : Nat) (f : Addr) (fd : FuncData) (ps : List Str) (sp : Sp) : Prop where
  len : ∀ vs H Q, sp vs H Q E0 → vs.length = ps.length
  run : ∀ (A : Around) (outer : List PySem.Env) (st : Shared) (H : Hp) (args : Args) (us : List Value) (vs : List V) (Q : VK), Room k A → A.guards = some [] → Env0 P w K mg base A outer st H → BindsTo st fd args (ps.zip us) → Vals vs us → sp vs H Q E0 →
    codeAny (model P w) A (.call (.ref f) args) (CR CX0 outer P w H st Q E0) st
/-- the promise of a def by its FS: whatever else is owned (T) stays -/
def spOf (K : PySem.W.Frag) (n : Nat) (S : FS) : Sp := fun vs H Q _ => ∃ (F : Hp) (os : List O) (T : Its), vs.length = n ∧ vs.length = os.length ∧ S.io.length = os.length ∧ Rel K F H ((vs.map some).zip os ++ T) ∧ S.pre os ∧
  ∀ r os' v F' H', S.post os r os' → os'.length = os.length → Sub F F' → Rel K F' H' ((some v, r) :: ((vs.map some).zip os' ++ T)) → Q v H'
/-- a def as it stands, for a caller -/
def FnI (P : Program) (w : World) (K : PySem.W.Frag) (mg : Str → Option Value) (base : Heap) (lvl : Nat) (x : Str) (S : FS) : Prop :=
  ∃ (k : Nat) (f : Addr) (fd : FuncData) (ps : List Str), k ≤ lvl ∧ S.io.length = ps.length ∧ mg x = some (.ref f) ∧ PySem.W.keepIn K (.ref f) = true ∧ Binds K fd ps [] ∧ FnG P w K mg base k f fd ps (spOf K ps.length S)
section
variable {X : Cx} {G : Gm}
theorem run_fnG {k : Nat} {f : Addr} {fd : FuncData} {ps : List Str} {sp : Sp} {pn : List (Addr × Obj)} {sg : L2.St} {H : Hp} {st : Shared} {Q : VK} {us : List Value} {vs : List V} (Fn : FnG X.prog X.w X.K X.mg X.base k f fd ps sp) (hr : Room k X.A) (hgd : X.A.guards = some []) (hb : Binds X.K fd ps [])
    (I : Inv X pn sg H st) (r : Vals vs us) (h : sp vs H Q E0) : wpAny (model X.prog X.w) X.A (call (.ref f) us) (EP X pn sg Q) X.xe st := by
  have ln : us.length = ps.length := by rw [← r.length]; exact Fn.len vs H Q h
  have bd : BindsTo st fd ⟨us, []⟩ (ps.zip us) := by
    have z := hb st us I.kIn (by rw [List.append_nil]; exact ln)
    rw [List.append_nil] at z
    exact z
  refine wpAny_call (codeAny_mono (Fn.run X.A X.stack st H ⟨us, []⟩ us vs Q hr hgd I.env0 bd r h) fun res st' hq => ?_)
  cases res with
  | error e => exact False.elim hq
  | ok fl =>
    cases fl with
    | ret u => exact I.after hq
    | next => exact False.elim hq
    | brk => exact False.elim hq
    | cont => exact False.elim hq
/-! ### arguments taken out of the state, and put back -/
def blank (ρ : Env) : List (PyData ⊕ Nat) → Env
  | [] => ρ
  | .inl _ :: r => blank ρ r
  | .inr i :: r => (blank ρ r).set i .un
theorem blank_len {ρ : Env} : ∀ {as : List (PyData ⊕ Nat)}, (blank ρ as).length = ρ.length
  | [] => rfl
  | .inl _ :: r => blank_len (as := r)
  | .inr i :: r => by
    show ((blank ρ r).set i .un).length = ρ.length
    rw [List.length_set, blank_len]
theorem blank_ne {ρ : Env} {i : Nat} : ∀ {as : List (PyData ⊕ Nat)}, i ∉ iosA as → (blank ρ as)[i]? = ρ[i]?
  | [], _ => rfl
  | .inl _ :: r, h => blank_ne (as := r) h
  | .inr j :: r, h => by
    have h1 : j ≠ i := fun z => h (by rw [z]; exact List.mem_cons_self)
    have h2 : i ∉ iosA r := fun z => h (List.mem_cons_of_mem _ z)
    show ((blank ρ r).set j .un)[i]? = ρ[i]?
    rw [List.getElem?_set_ne h1]
    exact blank_ne h2
theorem Rel.slot {K : PySem.W.Frag} {F H : Hp} {sg : L2.St} {ρ : Env} {T : Its} {i : Nat} {x : Option V} {o : O} (r : Rel K F H (sg.zip ρ ++ T)) (h1 : sg[i]? = some x) (h2 : ρ[i]? = some o) : Rel K F H ((x, o) :: (sg.zip (ρ.set i .un) ++ T)) := by
  have e := its_get (T := T) h1 h2
  have p1 := perm_eraseIdx e
  have p2 := perm_set (b := (x, O.un)) (lt_of_get e)
  rw [its_set h1 (lt_of_get h2)] at p2
  have r1 := r.perm p1
  have r2 : Rel K F H ((x, .un) :: ((x, o) :: (sg.zip ρ ++ T).eraseIdx i)) := r1.cons_un
  exact r2.perm ((List.Perm.swap _ _ _).trans (List.Perm.cons _ p2.symm))
theorem Rel.store {K : PySem.W.Frag} {F H : Hp} {sg : L2.St} {ρ : Env} {T : Its} {i : Nat} {x y : Option V} {o : O} (r : Rel K F H ((x, o) :: (sg.zip ρ ++ T))) (h1 : sg[i]? = some y) (h2 : i < ρ.length) : Rel K F H ((sg.set i x).zip (ρ.set i o) ++ T) := by
  have l1 := lt_of_get h1
  have e : (sg.zip ρ ++ T)[i]? = some (y, ρ[i]) := its_get h1 (by simp [h2])
  have p1 := perm_eraseIdx e
  have r1 : Rel K F H ((x, o) :: ((sg.zip ρ ++ T).eraseIdx i)) := by
    have z : Rel K F H ((y, ρ[i]) :: ((x, o) :: (sg.zip ρ ++ T).eraseIdx i)) := r.perm ((List.Perm.cons _ p1).trans (List.Perm.swap _ _ _))
    exact z.tail
  have p2 := perm_set (b := (x, o)) (lt_of_get e)
  rw [List.set_append_left _ _ (by rw [List.length_zip]; omega), ← zip_set2] at p2
  exact r1.perm p2.symm
theorem perm_swap3 {α : Type} {A B C : List α} : (A ++ (B ++ C)).Perm (B ++ (A ++ C)) := by
  rw [← List.append_assoc, ← List.append_assoc]
  exact List.Perm.append_right _ List.perm_append_comm
theorem argsO_len {ρ : Env} : ∀ {as : List (PyData ⊕ Nat)}, (argsO ρ as).length = as.length
  | [] => rfl
  | .inl _ :: r => by simp [argsO, argsO_len]
  | .inr _ :: r => by simp [argsO, argsO_len]
theorem takeArgs {K : PySem.W.Frag} {F H : Hp} {sg : L2.St} {ρ : Env} {T : Its} (hl : sg.length = ρ.length) (r : Rel K F H (sg.zip ρ ++ T)) : ∀ {vs : List V} {as : List (PyData ⊕ Nat)}, ArgL K F sg vs as → (iosA as).Nodup → (∀ i, i ∈ iosA as → i < ρ.length) →
    Rel K F H ((vs.map some).zip (argsO ρ as) ++ (sg.zip (blank ρ as) ++ T))
  | _, _, .nil, _, _ => r
  | _, _, .dat d l, nd, hb => (takeArgs hl r l nd hb).cons_dat d
  | _, _, .io (i := i) (as := as) e l, nd, hb => by
    obtain ⟨n1, n2⟩ := List.nodup_cons.mp nd
    have hi : i < ρ.length := hb i List.mem_cons_self
    have ih := takeArgs hl r l n2 fun j hj => hb j (List.mem_cons_of_mem _ hj)
    have e2 : (blank ρ as)[i]? = some ρ[i] := by rw [blank_ne n1]; simp [hi]
    have z := Rel.slot (sg := sg) (ρ := blank ρ as) (T := (_ : Its) ++ T) (i := i) (x := _) (o := ρ[i]) (by
      have q : Rel K F H (sg.zip (blank ρ as) ++ (((_ : List V).map some).zip (argsO ρ as) ++ T)) := ih.perm perm_swap3
      exact q) e e2
    have eo : argsO ρ (.inr i :: as) = ρ[i] :: argsO ρ as := by
      show (ρ[i]?.getD .un) :: argsO ρ as = _
      simp [hi]
    rw [eo]
    exact z.perm (List.Perm.cons _ perm_swap3)
theorem putArgs {K : PySem.W.Frag} {F H : Hp} {sg : L2.St} {ρ : Env} (hl : sg.length = ρ.length) : ∀ {vs : List V} {as : List (PyData ⊕ Nat)} {os : List O} {F0 : Hp} {T : Its}, ArgL K F0 sg vs as → (iosA as).Nodup → (∀ i, i ∈ iosA as → i < ρ.length) → os.length = as.length →
    Rel K F H ((vs.map some).zip os ++ (sg.zip (blank ρ as) ++ T)) → Rel K F H (sg.zip (backA ρ as os) ++ T)
  | _, _, [], _, T, .nil, _, _, _, r => r
  | _, _, o :: os, _, T, .dat (v := v) (vs := vs) (as := as) d l, nd, hb, hn, r => by
    have r1 : Rel K F H ((some v, o) :: ((vs.map some).zip os ++ (sg.zip (blank ρ as) ++ T))) := r
    exact putArgs (vs := vs) (as := as) (os := os) hl l nd hb (by simpa using hn) r1.tail
  | _, _, o :: os, _, T, .io (v := v) (i := i) (vs := vs) (as := as) e l, nd, hb, hn, r => by
    obtain ⟨n1, n2⟩ := List.nodup_cons.mp nd
    have hi : i < ρ.length := hb i List.mem_cons_self
    have hb' : ∀ j, j ∈ iosA as → j < ρ.length := fun j hj => hb j (List.mem_cons_of_mem _ hj)
    -- the others first, the item of i waits
    have r1 : Rel K F H ((some v, o) :: ((vs.map some).zip os ++ (sg.zip ((blank ρ as).set i .un) ++ T))) := r
    have e2 : ((blank ρ as).set i .un)[i]? = some .un := by simp [blank_len, hi]
    have r2 : Rel K F H ((vs.map some).zip os ++ (sg.zip (blank (ρ.set i .un) as) ++ ((some v, o) :: T))) := by
      have eb : ∀ {as : List (PyData ⊕ Nat)}, i ∉ iosA as → (blank ρ as).set i .un = blank (ρ.set i .un) as := by
        intro as
        induction as with
        | nil => intro _; rfl
        | cons c as ih =>
          intro h
          cases c with
          | inl d => exact ih h
          | inr j =>
            have h1 : j ≠ i := fun z => h (by rw [z]; exact List.mem_cons_self)
            show ((blank ρ as).set j .un).set i .un = (blank (ρ.set i .un) as).set j .un
            rw [List.set_comm _ _ h1, ih fun z => h (List.mem_cons_of_mem _ z)]
      rw [← eb n1]
      refine r1.perm ?_
      refine List.Perm.trans List.perm_middle.symm (List.Perm.append_left _ ?_)
      exact List.perm_middle.symm
    have r3 := putArgs (ρ := ρ.set i .un) (by rw [List.length_set]; exact hl) l n2 (fun j hj => by rw [List.length_set]; exact hb' j hj) (by simpa using hn) r2
    have r4 : Rel K F H ((some v, o) :: (sg.zip (backA (ρ.set i .un) as os) ++ T)) := r3.perm List.perm_middle
    have ln : ∀ {as : List (PyData ⊕ Nat)} {os : List O} {ρ : Env}, (backA ρ as os).length = ρ.length := by
      intro as
      induction as with
      | nil => intro os ρ; rfl
      | cons c as ih =>
        intro os ρ
        cases os with
        | nil => cases c <;> rfl
        | cons o os =>
          cases c with
          | inl d => exact ih
          | inr j =>
            show ((backA ρ as os).set j o).length = ρ.length
            rw [List.length_set, ih]
    have r5 := Rel.store r4 e (i := i) (by rw [ln, List.length_set]; exact hi)
    have es : sg.set i (some v) = sg := set_same e
    rw [es] at r5
    have ec : ∀ {as : List (PyData ⊕ Nat)} {os : List O}, i ∉ iosA as → (backA (ρ.set i .un) as os).set i o = (backA ρ as os).set i o := by
      intro as
      induction as with
      | nil => intro os _; show (ρ.set i .un).set i o = ρ.set i o; rw [List.set_set]
      | cons c as ih =>
        intro os h
        cases os with
        | nil => cases c <;> (show (ρ.set i .un).set i o = ρ.set i o; rw [List.set_set])
        | cons o2 os =>
          cases c with
          | inl d => exact ih h
          | inr j =>
            have h1 : j ≠ i := fun z => h (by rw [z]; exact List.mem_cons_self)
            show ((backA (ρ.set i .un) as os).set j o2).set i o = ((backA ρ as os).set j o2).set i o
            rw [List.set_comm _ _ h1, ih (fun z => h (List.mem_cons_of_mem _ z)), List.set_comm _ _ h1]
    rw [ec n1] at r5
    exact r5
  | _, _, [], _, _, .dat d l, _, _, hn, _ => by simp at hn
  | _, _, [], _, _, .io e l, _, _, hn, _ => by simp at hn
  | _, _, _ :: _, _, _, .nil, _, _, hn, _ => by simp at hn
theorem ioA_len : ∀ {as : List (PyData ⊕ Nat)}, (ioA as).length = as.length
  | [] => rfl
  | .inl _ :: r => by simp [ioA, ioA_len]
  | .inr _ :: r => by simp [ioA, ioA_len]
theorem backA_len {ρ : Env} : ∀ {as : List (PyData ⊕ Nat)} {os : List O}, (backA ρ as os).length = ρ.length
  | [], _ => rfl
  | .inl _ :: r, [] => rfl
  | .inr _ :: r, [] => rfl
  | .inl _ :: r, _ :: os => backA_len (as := r) (os := os)
  | .inr i :: r, o :: os => by
    show ((backA ρ r os).set i o).length = ρ.length
    rw [List.length_set, backA_len]
theorem ArgL.len {K : PySem.W.Frag} {F : Hp} {sg : L2.St} : ∀ {vs : List V} {as : List (PyData ⊕ Nat)}, ArgL K F sg vs as → vs.length = as.length
  | _, _, .nil => rfl
  | _, _, .dat _ l => by simp [ArgL.len l]
  | _, _, .io _ l => by simp [ArgL.len l]
/-- what the call's promise wants, out of the state -/
theorem call_spec {S : FS} {ps : List Str} {sg : L2.St} {ρ : Env} {T : Its} {F H : Hp} {vs : List V} {as : List (PyData ⊕ Nat)} {Kc : O → Env → Prop} {Q : VK} (hp : as.length = ps.length) (hl : sg.length = ρ.length) (r : Rel X.K F H (sg.zip ρ ++ T)) (al : ArgL X.K F sg vs as) (q : callQ S ρ as Kc)
    (h : ∀ z v ρ' F' H', Kc z ρ' → Sub F F' → ρ'.length = ρ.length → Rel X.K F' H' ((some v, z) :: (sg.zip ρ' ++ T)) → Q v H') : spOf X.K ps.length S vs H Q E0 := by
  obtain ⟨q1, q2, q3, q4, q5⟩ := q
  refine ⟨F, argsO ρ as, sg.zip (blank ρ as) ++ T, by rw [al.len, hp], by rw [al.len, argsO_len], by rw [← q1, ioA_len, argsO_len], takeArgs hl r al q2 q3, q4, fun z os' v F' H' hz ho s r' => ?_⟩
  have ho' : os'.length = as.length := by rw [ho, argsO_len]
  refine h z v _ F' H' (q5 z os' hz ho') s backA_len ?_
  have r2 : Rel X.K F' H' ((vs.map some).zip os' ++ (sg.zip (blank ρ as) ++ ((some v, z) :: T))) := by
    refine r'.perm ?_
    refine List.Perm.trans List.perm_middle.symm (List.Perm.append_left _ ?_)
    exact List.perm_middle.symm
  exact (putArgs hl al q2 q3 ho' r2).perm List.perm_middle
theorem evC_len : ∀ {cs : List CE} {ρ : Env} {Kc : List (PyData ⊕ Nat) → Env → Prop}, evC G cs ρ Kc → evC G cs ρ fun as ρ' => as.length = cs.length ∧ Kc as ρ'
  | [], _, _, h => ⟨rfl, h⟩
  | c :: cs, ρ, Kc, h => by
    unfold evC at h ⊢
    split
    · rename_i e
      rw [e] at h
      exact ⟨h.1, evC_mono G (fun _ _ z => ⟨by simp [z.1], z.2⟩) (evC_len h.2)⟩
    · rename_i e
      rw [e] at h
      exact ev_mono G (fun _ _ => asD_mono fun _ _ z => evC_mono G (fun _ _ z => ⟨by simp [z.1], z.2⟩) (evC_len z)) h
theorem vs_call {lvl : Nat} {f : Str} {S : FS} {e : Expr} {es : List Expr} {c : CE} {cs : List CE} {p pos : Pos} (hr : Room lvl X.A) (hgd : X.A.guards = some []) (hf : G.fn f = some S) (fi : FnI X.prog X.w X.K X.mg X.base lvl f S) (hg : Gl X f) (hdb : (f == ("__debug__" : Str)) = false) (l : PCl X G (e :: es) (c :: cs)) :
    PE X (.Call (.Name f p) (e :: es) [] pos) (tE X.K G (.call f (c :: cs))) := by
  obtain ⟨k, fa, fd, ps, hk, hio, hm, kp, bd, Fn⟩ := fi
  have ns : NS X e := by cases l with | dat _ ns _ _ => exact ns | io ns _ _ => exact ns
  have st : (backTo pos (starEach es X.env)).any (·.1) = false := by
    rw [any_back]
    cases l with | dat _ _ _ l => exact l.stars | io _ _ l => exact l.stars
  refine ⟨fun pn st0 sg H Q I h => ?_⟩
  obtain ⟨ρ, T, F, hl, r, ee⟩ := h
  unfold ev at ee
  refine wpAny_Call_Name_kw (ld_glob I hg hm ?_ hdb)
  refine PySem.W.callWith_K (h₀ := X.base) I.ok.mod.kin kp (thn ((vs_C l).run pos pn st0 sg H (fun vs H1 => spOf X.K ps.length S vs H1 Q E0) I ⟨ρ, T, F, hl, r, evC_mono G (fun as ρ1 z vs F1 H1 s1 l1 q al => ?_) ee⟩) fun us s1 ⟨vs, H1, I1, rv, q⟩ => ⟨I1.kIn, run_fnG Fn (hr.mono hk) hgd bd I1 rv q⟩) (ns es) st
  obtain ⟨S', eS, z⟩ := optQ_some z
  rw [hf] at eS
  cases eS
  exact call_spec (by rw [← hio, ← z.1, ioA_len]) (by rw [l1]; exact hl) q al z fun zz v ρ' F' H' kz s' l' r' => kz v F' H' (s1.trans s') (fun y => nomatch y) (l'.trans l1) r'
theorem vs_call0 {lvl : Nat} {f : Str} {S : FS} {p pos : Pos} (hr : Room lvl X.A) (hgd : X.A.guards = some []) (hf : G.fn f = some S) (fi : FnI X.prog X.w X.K X.mg X.base lvl f S) (hg : Gl X f) (hdb : (f == ("__debug__" : Str)) = false) :
    PE X (.Call (.Name f p) [] [] pos) (tE X.K G (.call f [])) := by
  obtain ⟨k, fa, fd, ps, hk, hio, hm, kp, bd, Fn⟩ := fi
  refine ⟨fun pn st0 sg H Q I h => ?_⟩
  obtain ⟨ρ, T, F, hl, r, ee⟩ := h
  unfold ev evC at ee
  obtain ⟨S', eS, z⟩ := optQ_some ee
  rw [hf] at eS
  cases eS
  refine wpAny_Call_Name_kw (ld_glob I hg hm ?_ hdb)
  refine PySem.W.callWith_K0 I.kIn kp (run_fnG (us := []) (vs := []) Fn (hr.mono hk) hgd bd I .nil ?_)
  exact call_spec (by rw [← hio, ← z.1, ioA_len]) hl r .nil z fun zz v ρ' F' H' kz s' l' r' => kz v F' H' s' (fun y => nomatch y) l' r'
/-! ## what is walked -/
structure SrcOk (K : PySem.W.Frag) (sg0 : L2.St) (F0 : Hp) (J : It) (ds : List PyData) (chk : Env → Prop) (vi : Option Nat) : Prop where
  go : ∀ (n : Nat) (sg : L2.St) (ρ : Env) (T : Its) (F H : Hp), n < ds.length → Sub F0 F → Rel K F H (sg.zip ρ ++ T) → chk ρ → (∀ i, vi = some i → sg[i]? = sg0[i]?) → J.go n H
  stop : ∀ (n : Nat) (sg : L2.St) (ρ : Env) (T : Its) (F H : Hp), ds.length ≤ n → Sub F0 F → Rel K F H (sg.zip ρ ++ T) → chk ρ → (∀ i, vi = some i → sg[i]? = sg0[i]?) → J.stop n H
  yld : ∀ (n : Nat) (sg : L2.St) (ρ : Env) (T : Its) (F H : Hp) (x : V) (H' : Hp), n < ds.length → Sub F0 F → Rel K F H (sg.zip ρ ++ T) → chk ρ → (∀ i, vi = some i → sg[i]? = sg0[i]?) → J.yld n H x H' →
    ∃ F' d, ds[n]? = some d ∧ Sub F F' ∧ Dn K F' x d ∧ Rel K F' H' (sg.zip ρ ++ T)
/-- the slot that must stand -/
def viOf : CE → Option Nat
  | .itv i => some i
  | _ => none
def tI (K : PySem.W.Frag) (G : Gm) (c : CE) : TI := fun sg H R => ∃ (ρ : Env) (T : Its) (F : Hp), sg.length = ρ.length ∧ Rel K F H (sg.zip ρ ++ T) ∧
  ev G c ρ fun r ρ' => srcQ r ρ' fun ds chk ρ' => ∀ J F' H', Sub F F' → ρ'.length = ρ.length → Rel K F' H' (sg.zip ρ' ++ T) → SrcOk K sg F' J ds chk (viOf c) → R J H'
theorem PI.weak {tg e : Expr} {t t' : TI} (h : PI X tg e t) (w : ∀ sg H R, t' sg H R → t sg H R) : PI X tg e t' := ⟨fun pn st sg H R I q => h.run pn st sg H R I (w _ _ _ q)⟩
theorem SrcOk.list {K : PySem.W.Frag} {sg0 : L2.St} {F0 : Hp} {a : Addr} {vs : List V} {ds : List PyData} {vi : Option Nat} (h : F0 a = some (.lst vs)) (l : DnL K F0 vs ds) : SrcOk K sg0 F0 (Itl K a) ds (fun _ => True) vi where
  go := fun n sg ρ T F H hn s r _ _ => by
    have hn' : n < vs.length := by rw [l.length]; exact hn
    exact ⟨vs, vs[n], SqL.of (r.sub _ _ (s _ _ h)), by simp [hn']⟩
  stop := fun n sg ρ T F H hn s r _ _ => ⟨vs, SqL.of (r.sub _ _ (s _ _ h)), by rw [l.length]; exact hn⟩
  yld := fun n sg ρ T F H x H' hn s r _ _ y => by
    obtain ⟨rfl, y⟩ := y
    obtain ⟨d, e, dn⟩ := l.getV (y vs (SqL.of (r.sub _ _ (s _ _ h))))
    exact ⟨F, d, e, .refl _, dn.mono s, r⟩
theorem SrcOk.tuple {K : PySem.W.Frag} {sg0 : L2.St} {F0 : Hp} {a : Addr} {vs : List V} {ds : List PyData} {vi : Option Nat} (h : Tp F0 a vs (entB ds)) (l : DnL K F0 vs ds) : SrcOk K sg0 F0 (Itt K a) ds (fun _ => True) vi where
  go := fun n sg ρ T F H hn s r _ _ => by
    have hn' : n < vs.length := by rw [l.length]; exact hn
    exact ⟨vs, vs[n], ((h.mono s).mono r.sub).sq, by simp [hn']⟩
  stop := fun n sg ρ T F H hn s r _ _ => ⟨vs, ((h.mono s).mono r.sub).sq, by rw [l.length]; exact hn⟩
  yld := fun n sg ρ T F H x H' hn s r _ _ y => by
    obtain ⟨rfl, y⟩ := y
    obtain ⟨d, e, dn⟩ := l.getV (y vs (((h.mono s).mono r.sub).sq))
    exact ⟨F, d, e, .refl _, dn.mono s, r⟩
theorem SrcOk.text {K : PySem.W.Frag} {sg0 : L2.St} {F0 : Hp} {x : Str} {vi : Option Nat} : SrcOk K sg0 F0 (L2.Its x) (x.cps.toList.map fun c => .str ⟨#[c]⟩) (fun _ => True) vi where
  go := fun n sg ρ T F H hn s r _ _ => by
    have z : n < x.cps.size := by simpa using hn
    exact z
  stop := fun n sg ρ T F H hn s r _ _ => by
    have z : x.cps.size ≤ n := by simpa using hn
    exact z
  yld := fun n sg ρ T F H y H' hn s r _ _ q => by
    obtain ⟨rfl, c, e, rfl⟩ := q
    exact ⟨F, .str ⟨#[c]⟩, by rw [List.getElem?_map, Array.getElem?_toList, e]; rfl, .refl _, .str _, r⟩
theorem SrcOk.range {K : PySem.W.Frag} {sg0 : L2.St} {F0 : Hp} {lo hi : Int} {vi : Option Nat} : SrcOk K sg0 F0 (Itr lo (hi - lo).toNat) (rangeD lo hi) (fun _ => True) vi where
  go := fun n sg ρ T F H hn s r _ _ => by
    have z : n < (hi - lo).toNat := by simpa [rangeD] using hn
    exact z
  stop := fun n sg ρ T F H hn s r _ _ => by
    have z : (hi - lo).toNat ≤ n := by simpa [rangeD] using hn
    exact z
  yld := fun n sg ρ T F H x H' hn s r _ _ q => by
    obtain ⟨rfl, rfl⟩ := q
    have z : n < (hi - lo).toNat := by simpa [rangeD] using hn
    exact ⟨F, .int (lo + n), by simp [rangeD, z], .refl _, .int _, r⟩
theorem SrcOk.place {K : PySem.W.Frag} {sg0 : L2.St} {F0 H0 : Hp} {ρ0 : Env} {T0 : Its} {i : Nat} {ds : List PyData} (r0 : Rel K F0 H0 (sg0.zip ρ0 ++ T0)) (hl : sg0.length = ρ0.length) (e : ρ0[i]? = some (dL ds)) :
    ∃ a vs, sg0[i]? = some (some (.ref a)) ∧ H0 a = some (.lst vs) ∧ SrcOk K sg0 F0 (Itl K a) ds (fun ρ => ρ[i]? = some (dL ds)) (some i) := by
  have look : ∀ {sg : L2.St} {ρ : Env} {T : Its} {F H : Hp} {x : Option V}, Rel K F H (sg.zip ρ ++ T) → ρ[i]? = some (dL ds) → sg[i]? = some x → ∃ a vs, x = some (.ref a) ∧ H a = some (.lst vs) ∧ DnL K F vs ds := fun {sg ρ T F H x} r e1 e2 => by
    obtain ⟨_, A, h, _, _⟩ := r.perm (perm_eraseIdx (its_get (T := T) e2 e1))
    cases h with
    | cons a l => cases a with
      | nd ha hl hf l' =>
        obtain ⟨_, dl⟩ := OwnL.data l'
        exact ⟨_, _, rfl, ha, dl⟩
  have hx : ∃ x, sg0[i]? = some x := ⟨sg0[i]'(by rw [hl]; exact lt_of_get e), by simp⟩
  obtain ⟨x, ex⟩ := hx
  obtain ⟨a, vs, e1, ha, dl⟩ := look r0 e ex
  subst e1
  refine ⟨a, vs, ex, ha, fun n sg ρ T F H hn s r c w => ?_, fun n sg ρ T F H hn s r c w => ?_, fun n sg ρ T F H x H' hn s r c w y => ?_⟩
  · obtain ⟨a2, vs2, e2, ha2, dl2⟩ := look r c ((w i rfl).trans ex)
    cases e2
    have hn' : n < vs2.length := by rw [dl2.length]; exact hn
    exact ⟨vs2, vs2[n], SqL.of ha2, by simp [hn']⟩
  · obtain ⟨a2, vs2, e2, ha2, dl2⟩ := look r c ((w i rfl).trans ex)
    cases e2
    exact ⟨vs2, SqL.of ha2, by rw [dl2.length]; exact hn⟩
  · obtain ⟨rfl, y⟩ := y
    obtain ⟨a2, vs2, e2, ha2, dl2⟩ := look r c ((w i rfl).trans ex)
    cases e2
    obtain ⟨d, e, dn⟩ := dl2.getV (y vs2 (SqL.of ha2))
    exact ⟨F, d, e, .refl _, dn, r⟩
/-- any value that may be walked -/
def iAny (K : PySem.W.Frag) (t : TE) : TI := fun sg H R => t sg H fun x H1 => (∃ a vs, x = .ref a ∧ SqL K H1 a vs ∧ R (Itl K a) H1) ∨ (∃ a vs, x = .ref a ∧ SqT K H1 a vs ∧ R (Itt K a) H1) ∨ ∃ z, x = .str z ∧ R (L2.Its z) H1
theorem pi_any {tg e : Expr} {t : TE} (he : PE X e t) : PI X tg e (iAny X.K t) := by
  refine ⟨fun pn st sg H R I h => thn (he.run pn st sg H _ I h) fun u st1 hh => ?_⟩
  obtain ⟨x, H1, I1, rx, q⟩ := hh
  rcases q with ⟨a, vs, rfl, hq, q⟩ | ⟨a, vs, rfl, hq, q⟩ | ⟨z, rfl, q⟩
  · cases rx
    obtain ⟨us, rv, pl, hz⟩ := I1.list hq
    refine wpAny_pyIter_list pl.isList ⟨st1.heap.objs.size, [st1.heap.objs.size], _, _, H1, rfl, I1.kept (t' := st1.toks) (fun b o e => Heap.get?_push_of_some _ e), turn_list a _, ⟨_, Heap.get?_push_size _ rfl, rfl, rfl⟩, fun b hb => ?_, q⟩
    rw [List.mem_singleton.mp hb]
    exact I1.fpOk (Nat.le_refl _) (I1.hok.fresh (Nat.le_refl _))
  · cases rx
    obtain ⟨us, rv, pl, hz⟩ := I1.tuple hq
    refine wpAny_pyIter_tuple (show st1.heap.IsTuple a us.toArray from pl) ⟨st1.heap.objs.size, [st1.heap.objs.size], _, _, H1, rfl, I1.kept (t' := st1.toks) (fun b o e => Heap.get?_push_of_some _ e), turn_tuple a _, ⟨_, Heap.get?_push_size _ rfl, rfl, rfl⟩, fun b hb => ?_, q⟩
    rw [List.mem_singleton.mp hb]
    exact I1.fpOk (Nat.le_refl _) (I1.hok.fresh (Nat.le_refl _))
  · obtain ⟨t, rfl⟩ := rx
    cases ha : z.cps.all (· < 128)
    · exact wpAny_pyIter_wide ha (pi_one (tk := st1.toks) I1 _ (turn_str _ z t "str_iterator" (.inr rfl)) ⟨_, Heap.get?_push_size _ rfl, rfl, rfl⟩ q)
    · exact wpAny_pyIter_ascii ha (pi_one (tk := st1.toks) I1 _ (turn_str _ z t "str_ascii_iterator" (.inl rfl)) ⟨_, Heap.get?_push_size _ rfl, rfl, rfl⟩ q)
def noIt : CE → Bool
  | .itv _ | .rng _ | .enu _ | .zip _ _ => false
  | _ => true
theorem srcD {r : R} {sg : L2.St} {ρ : Env} {T : Its} {K : PySem.W.Frag} {F H : Hp} {v : V} {Kc : List PyData → (Env → Prop) → Env → Prop} (q : RelR K F H sg ρ T v r) (h : srcQ r ρ Kc) (vi : Option Nat) :
    ∃ F' ds ρ' J, Sub F F' ∧ ρ'.length = ρ.length ∧ Rel K F' H (sg.zip ρ' ++ T) ∧ Kc ds (fun _ => True) ρ' ∧ SrcOk K sg F' J ds (fun _ => True) vi ∧
      ((∃ a vs, v = .ref a ∧ SqL K H a vs ∧ J = Itl K a) ∨ (∃ a vs, v = .ref a ∧ SqT K H a vs ∧ J = Itt K a) ∨ ∃ z, v = .str z ∧ J = L2.Its z) := by
  have h2 : asD r ρ fun d ρ => match d with
    | .list ds => Kc ds (fun _ => True) ρ
    | .tuple ds => Kc ds (fun _ => True) ρ
    | .str x => Kc (x.cps.toList.map fun c => .str ⟨#[c]⟩) (fun _ => True) ρ
    | _ => False := by
    cases r with
    | own o => exact h
    | pl i p => exact h
    | it ds => exact q.elim
    | iv i ds => exact q.elim
  obtain ⟨F', d, ρ', s, dn, r', l, h'⟩ := asD_sound h2 q
  split at h'
  · cases dn with
    | lst hh ll => exact ⟨F', _, ρ', _, s, l, r', h', SrcOk.list hh ll, .inl ⟨_, _, rfl, SqL.of (r'.sub _ _ hh), rfl⟩⟩
  · cases dn with
    | tup hh ll => exact ⟨F', _, ρ', _, s, l, r', h', SrcOk.tuple hh ll, .inr (.inl ⟨_, _, rfl, (hh.mono r'.sub).sq, rfl⟩)⟩
  · cases dn
    exact ⟨F', _, ρ', _, s, l, r', h', SrcOk.text, .inr (.inr ⟨_, rfl, rfl⟩)⟩
  · exact h'.elim
theorem vs_itD {tg e : Expr} {c : CE} (he : PE X e (tE X.K G c)) : PI X tg e (tI X.K G c) := by
  refine PI.weak (pi_any he) fun sg H R ⟨ρ, T, F, hl, r, ee⟩ => ?_
  refine use hl r ee fun r ρ1 v F1 H1 k s p l q => ?_
  obtain ⟨F2, ds, ρ2, J, s2, l2, r2, kk, ok, form⟩ := srcD q k (viOf c)
  have z := kk J F2 H1 (s.trans s2) (l2.trans l) r2 ok
  rcases form with ⟨a, vs, e1, e2, rfl⟩ | ⟨a, vs, e1, e2, rfl⟩ | ⟨x, e1, rfl⟩
  · exact .inl ⟨a, vs, e1, e2, z⟩
  · exact .inr (.inl ⟨a, vs, e1, e2, z⟩)
  · exact .inr (.inr ⟨x, e1, z⟩)
theorem vs_itV {tg : Expr} {i : Nat} {x : Str} {pos : Pos} (hN : X.N[i]? = some x) (hv : Vis X.env.scope x) (hd : (x == ("__debug__" : Str)) = false) (hcd : (x == ("__classdict__" : Str)) = false) : PI X tg (.Name x pos) (tI X.K G (.itv i)) := by
  refine PI.weak (pi_any (pe_var hN hv hd hcd)) fun sg H R ⟨ρ, T, F, hl, r, ee⟩ => ?_
  unfold ev at ee
  split at ee
  · rename_i d q
    have hx : ∃ x, sg[i]? = some x := ⟨sg[i]'(by rw [hl]; exact lt_of_get q), by simp⟩
    obtain ⟨x, ex⟩ := hx
    obtain ⟨v, e1, dn⟩ := Rel.dat (r.perm (perm_eraseIdx (its_get (T := T) ex q)))
    subst e1
    refine ⟨v, ex, ?_⟩
    obtain ⟨F2, ds, ρ2, J, s2, l2, r2, kk, ok, form⟩ := srcD (r := .own (.dat d)) (r.cons_dat dn) ee (viOf (.itv i))
    have z := kk J F2 H s2 l2 r2 ok
    rcases form with ⟨a, vs, e1, e2, rfl⟩ | ⟨a, vs, e1, e2, rfl⟩ | ⟨x, e1, rfl⟩
    · exact .inl ⟨a, vs, e1, e2, z⟩
    · exact .inr (.inl ⟨a, vs, e1, e2, z⟩)
    · exact .inr (.inr ⟨x, e1, z⟩)
  · rename_i os q
    obtain ⟨ds, ed, e2⟩ := optQ_some ee
    have eo := datL_eq ed
    have q2 : ρ[i]? = some (dL ds) := by rw [q, eo]; rfl
    obtain ⟨a, vs, ex, ha, ok⟩ := SrcOk.place r hl q2
    exact ⟨_, ex, .inl ⟨a, vs, rfl, SqL.of ha, e2 _ F H (.refl _) rfl r ok⟩⟩
  · exact ee.elim
theorem evH_len : ∀ {cs : List CE} {ρ : Env} {Kc : List R → Env → Prop}, evH G cs ρ Kc → evH G cs ρ fun rs ρ' => rs.length = cs.length ∧ Kc rs ρ'
  | [], _, _, h => ⟨rfl, h⟩
  | c :: cs, ρ, Kc, h => by
    unfold evH at h ⊢
    exact ev_mono G (fun _ _ => hold_mono fun _ _ z => evH_mono G (fun _ _ z => ⟨z.2.1, by simp [z.1], z.2.2⟩) (evH_len (Kc := fun rs ρ => _) z)) h
theorem vwsQ_len {ρ : Env} : ∀ {rs : List R} {Q : List PyData → Prop}, vwsQ ρ rs Q → ∃ ds, ds.length = rs.length ∧ Q ds ∧ vwsQ ρ rs fun ds' => ds' = ds
  | [], _, h => ⟨[], rfl, h, rfl⟩
  | r :: rs, Q, h => by
    obtain ⟨d, ed, h⟩ := vwQ_some h
    obtain ⟨ds, e, q, w⟩ := vwsQ_len h
    refine ⟨d :: ds, by simp [e], q, ?_⟩
    unfold vwsQ vwQ
    rw [ed]
    exact vwsQ_mono (fun ds' z => by rw [z]) w
theorem HeldL.length {K : PySem.W.Frag} {F H : Hp} {sg : L2.St} : ∀ {vs : List V} {rs : List R}, HeldL K F H sg vs rs → vs.length = rs.length
  | _, _, .nil => rfl
  | _, _, .cons _ l => by simp [HeldL.length l]
theorem ViewL.length {K : PySem.W.Frag} {F H : Hp} : ∀ {vs : List V} {ds : List PyData}, ViewL K F H vs ds → vs.length = ds.length
  | _, _, .nil => rfl
  | _, _, .cons _ l => by simp [ViewL.length l]
theorem vs_rng1 {tg e : Expr} {c : CE} {p pos : Pos} (hg : Gl X "range") (hm : X.mg "range" = none) (l : PEl X G [e] [c]) : PI X tg (.Call (.Name "range" p) [e] [] pos) (tI X.K G (.rng [c])) := by
  have ns : NS X e := by cases l with | cons ns _ _ => exact ns
  refine PI.weak (pi_range1 hg hm (vs_H l) (ns [])) fun sg H R ⟨ρ, T, F, hl, r, ee⟩ => ?_
  unfold ev at ee
  refine ⟨ρ, T, F, hl, r, evH_mono G (fun rs ρ1 z vs F1 H1 s1 p1 l1 q hh => ?_) (evH_len ee)⟩
  obtain ⟨ln, z⟩ := z
  obtain ⟨ds, hv, z⟩ := hh.views q z
  have lv := hv.length
  have lh := hh.length
  unfold rngQ at z
  split at z
  · obtain ⟨v, e1, vi⟩ := vl1 hv
    cases e1
    cases vi.int
    refine ⟨_, rfl, z.1, z.2.1, z.2.2 _ F1 H1 s1 l1 q ?_⟩
    have k := SrcOk.range (K := X.K) (sg0 := sg) (F0 := F1) (lo := 0) (hi := ‹Int›) (vi := none)
    rw [Int.sub_zero] at k
    exact k
  · simp at lv ln
    omega
  · exact z.elim
theorem vs_rng2 {tg e e2 : Expr} {c c2 : CE} {p pos : Pos} (hg : Gl X "range") (hm : X.mg "range" = none) (l : PEl X G [e, e2] [c, c2]) : PI X tg (.Call (.Name "range" p) [e, e2] [] pos) (tI X.K G (.rng [c, c2])) := by
  obtain ⟨ns, ns2⟩ : NS X e ∧ NS X e2 := by cases l with | cons ns _ l => cases l with | cons ns2 _ _ => exact ⟨ns, ns2⟩
  have e2' : starEach [e2] X.env = [(false, eval e2 X.env)] := ns2 []
  refine PI.weak (pi_range2 hg hm (vs_H l) (by rw [ns [e2], e2']) e2') fun sg H R ⟨ρ, T, F, hl, r, ee⟩ => ?_
  unfold ev at ee
  refine ⟨ρ, T, F, hl, r, evH_mono G (fun rs ρ1 z vs F1 H1 s1 p1 l1 q hh => ?_) (evH_len ee)⟩
  obtain ⟨ln, z⟩ := z
  obtain ⟨ds, hv, z⟩ := hh.views q z
  have lv := hv.length
  have lh := hh.length
  unfold rngQ at z
  split at z
  · simp at lv ln
    omega
  · obtain ⟨v, w, e1, vi, vj⟩ := vl2 hv
    cases e1
    cases vi.int
    cases vj.int
    exact ⟨_, _, rfl, ⟨z.1, z.2.1, z.2.2.1, z.2.2.2.1⟩, z.2.2.2.2 _ F1 H1 s1 l1 q SrcOk.range⟩
  · exact z.elim
/-- a pair just made -/
theorem pairNew {K : PySem.W.Frag} {F H : Hp} {its : Its} {T : Addr} {vs : List V} {ds : List PyData} (r : Rel K F H its) (hn : H T = none) (l : DnL K F vs ds) (he : entB ds = false) : ∃ F', Sub F F' ∧ Dn K F' (.ref T) (.tuple ds) ∧ Rel K F' (upd H T (.tup vs)) its := by
  have r0 : Rel K F (upd H T (.tup vs)) ((some (.ref T), .nd .tup (ds.map O.dat)) :: its) := by
    refine Rel.node (k := .tup) (vs := vs) (os := ds.map O.dat) (by simp [l.length]) trivial ?_ hn
    obtain ⟨s, A, h, n, f⟩ := r
    refine ⟨s, A, ?_, n, f⟩
    rw [List.map_append, List.map_append]
    have e1 : ((vs.map some).zip (ds.map O.dat)).map (·.1) = vs.map some := by
      rw [List.map_fst_zip]
      simp [l.length]
    have e2 : ((vs.map some).zip (ds.map O.dat)).map (·.2) = ds.map O.dat := by
      rw [List.map_snd_zip]
      simp [l.length]
    rw [e1, e2]
    exact OwnL.append (A := []) (OwnL.ofData l) h
  have hd : (O.nd .tup (ds.map O.dat)).toD = some (.tuple ds) := O.toD_tup (toDL_datL (datL_map ds)) he
  obtain ⟨F', v, s, ev, dn, r'⟩ := Rel.freeze r0 hd
  cases ev
  exact ⟨F', s, dn, r'⟩
theorem SrcOk.enum {K : PySem.W.Frag} {sg0 : L2.St} {F0 : Hp} {a : Addr} {vs : List V} {ds : List PyData} {vi : Option Nat} (h : F0 a = some (.lst vs)) (l : DnL K F0 vs ds) : SrcOk K sg0 F0 (Ite K a) (enuD ds) (fun _ => True) vi where
  go := fun n sg ρ T F H hn s r _ _ => by
    have hn' : n < vs.length := by rw [l.length]; simpa [enuD] using hn
    exact ⟨vs, vs[n], SqL.of (r.sub _ _ (s _ _ h)), by simp [hn']⟩
  stop := fun n sg ρ T F H hn s r _ _ => ⟨vs, SqL.of (r.sub _ _ (s _ _ h)), by rw [l.length]; simpa [enuD] using hn⟩
  yld := fun n sg ρ T F H x H' hn s r _ _ y => by
    obtain ⟨t, y1, rfl, ht, rfl, w⟩ := y
    obtain ⟨d, e, dn⟩ := l.getV (w vs (SqL.of (r.sub _ _ (s _ _ h))))
    obtain ⟨F', s', dn', r'⟩ := pairNew r ht (.cons (.int (n : Nat)) (.cons (dn.mono s) .nil)) rfl
    exact ⟨F', _, by simp [enuD, e], s', dn', r'⟩
theorem noEnt {ds : List PyData} {d e : PyData} (h : ds.any isEnt = false) (m : d ∈ ds) : entB [d, e] = false := by
  have z : isEnt d = false := by
    have y := List.any_eq_false.mp h d m
    simpa using y
  show (isEnt d && _) = false
  rw [z]
  rfl
theorem SrcOk.zip {K : PySem.W.Frag} {sg0 : L2.St} {F0 : Hp} {a b : Addr} {vs ws : List V} {ds es : List PyData} {vi : Option Nat} (h : F0 a = some (.lst vs)) (l : DnL K F0 vs ds) (h2 : F0 b = some (.lst ws)) (l2 : DnL K F0 ws es) (hne : ds.any isEnt = false) : SrcOk K sg0 F0 (Itz K a b) (zipD ds es) (fun _ => True) vi where
  go := fun n sg ρ T F H hn s r _ _ => by
    have z : n < ds.length ∧ n < es.length := by
      have z : n < min ds.length es.length := by simpa [zipD] using hn
      omega
    have hn1 : n < vs.length := by rw [l.length]; exact z.1
    have hn2 : n < ws.length := by rw [l2.length]; exact z.2
    exact ⟨vs, ws, vs[n], ws[n], SqL.of (r.sub _ _ (s _ _ h)), SqL.of (r.sub _ _ (s _ _ h2)), by simp [hn1], by simp [hn2]⟩
  stop := fun n sg ρ T F H hn s r _ _ => by
    have z : ds.length ≤ n ∨ es.length ≤ n := by
      have z : min ds.length es.length ≤ n := by simpa [zipD] using hn
      omega
    exact ⟨vs, ws, SqL.of (r.sub _ _ (s _ _ h)), SqL.of (r.sub _ _ (s _ _ h2)), by rw [l.length, l2.length]; exact z⟩
  yld := fun n sg ρ T F H x H' hn s r _ _ y => by
    obtain ⟨t, y1, y2, rfl, ht, rfl, w1, w2⟩ := y
    obtain ⟨d, e, dn⟩ := l.getV (w1 vs (SqL.of (r.sub _ _ (s _ _ h))))
    obtain ⟨d2, e2, dn2⟩ := l2.getV (w2 ws (SqL.of (r.sub _ _ (s _ _ h2))))
    obtain ⟨F', s', dn', r'⟩ := pairNew r ht (.cons (dn.mono s) (.cons (dn2.mono s) .nil)) (noEnt hne (List.mem_of_getElem? e))
    exact ⟨F', _, by simp [zipD, List.getElem?_zipWith, e, e2], s', dn', r'⟩
theorem SrcOk.zipT {K : PySem.W.Frag} {sg0 : L2.St} {F0 : Hp} {a b : Addr} {vs ws : List V} {ds es : List PyData} {vi : Option Nat} (h : Tp F0 a vs (entB ds)) (l : DnL K F0 vs ds) (h2 : Tp F0 b ws (entB es)) (l2 : DnL K F0 ws es) (hne : ds.any isEnt = false) : SrcOk K sg0 F0 (RZ.ItzT K a b) (zipD ds es) (fun _ => True) vi where
  go := fun n sg ρ T F H hn s r _ _ => by
    have z : n < ds.length ∧ n < es.length := by
      have z : n < min ds.length es.length := by simpa [zipD] using hn
      omega
    have hn1 : n < vs.length := by rw [l.length]; exact z.1
    have hn2 : n < ws.length := by rw [l2.length]; exact z.2
    exact ⟨vs, ws, vs[n], ws[n], ((h.mono s).mono r.sub).sq, ((h2.mono s).mono r.sub).sq, by simp [hn1], by simp [hn2]⟩
  stop := fun n sg ρ T F H hn s r _ _ => by
    have z : ds.length ≤ n ∨ es.length ≤ n := by
      have z : min ds.length es.length ≤ n := by simpa [zipD] using hn
      omega
    exact ⟨vs, ws, ((h.mono s).mono r.sub).sq, ((h2.mono s).mono r.sub).sq, by rw [l.length, l2.length]; exact z⟩
  yld := fun n sg ρ T F H x H' hn s r _ _ y => by
    obtain ⟨t, y1, y2, rfl, ht, rfl, w1, w2⟩ := y
    obtain ⟨d, e, dn⟩ := l.getV (w1 vs (((h.mono s).mono r.sub).sq))
    obtain ⟨d2, e2, dn2⟩ := l2.getV (w2 ws (((h2.mono s).mono r.sub).sq))
    obtain ⟨F', s', dn', r'⟩ := pairNew r ht (.cons (dn.mono s) (.cons (dn2.mono s) .nil)) (noEnt hne (List.mem_of_getElem? e))
    exact ⟨F', _, by simp [zipD, List.getElem?_zipWith, e, e2], s', dn', r'⟩
theorem vs_zip {elts : List Expr} {kk : Nat} {tpos : Pos} {e e2 : Expr} {c c2 : CE} {p pos : Pos} (hg : Gl X "zip") (hm : X.mg "zip" = none) (ns : NS X e) (ns2 : NS X e2) (he : PE X e (tE X.K G c)) (he2 : PE X e2 (tE X.K G c2)) : PI X (.Tuple elts kk tpos) (.Call (.Name "zip" p) [e, e2] [] pos) (tI X.K G (.zip c c2)) := by
  have e2' : starEach [e2] X.env = [(false, eval e2 X.env)] := ns2 []
  refine PI.weak (RZ.pi_zipA hg hm (pa_cons he (pa_cons he2 pa_nil e2') (ns [e2])) (ns [e2]) (by rw [e2']; rfl)) fun sg H R ⟨ρ, T, F, hl, r, ee⟩ => ?_
  unfold ev at ee
  refine useD hl r ee fun d ρ1 v F1 H1 k s p l q dn => ?_
  refine useD (by rw [l]; exact hl) q k fun d2 ρ2 v2 F2 H2 k2 s2 p2 l2 q2 dn2 => ?_
  split at k2
  · cases dn with
    | lst hh ll =>
      cases dn2 with
      | lst hh2 ll2 => exact ⟨_, _, _, _, rfl, .inl ⟨SqL.of (q2.sub _ _ (s2 _ _ hh)), SqL.of (q2.sub _ _ hh2), k2.2 _ F2 H2 (s.trans s2) (l2.trans l) q2 (SrcOk.zip (s2 _ _ hh) (ll.mono s2) hh2 ll2 k2.1)⟩⟩
  · cases dn with
    | tup hh ll =>
      cases dn2 with
      | tup hh2 ll2 => exact ⟨_, _, _, _, rfl, .inr ⟨((hh.mono s2).mono q2.sub).sq, (hh2.mono q2.sub).sq, k2.2 _ F2 H2 (s.trans s2) (l2.trans l) q2 (SrcOk.zipT (hh.mono s2) (ll.mono s2) hh2 ll2 k2.1)⟩⟩
  · exact k2.elim
/-- a name's tree, taken out of it -/
theorem vs_mv {i : Nat} {x : Str} {pos : Pos} (hN : X.N[i]? = some x) (hv : Vis X.env.scope x) (hd : (x == ("__debug__" : Str)) = false) (hcd : (x == ("__classdict__" : Str)) = false) : PE X (.Name x pos) (tE X.K G (.mv i)) := by
  refine PE.weak (pe_var hN hv hd hcd) fun sg H Q ⟨ρ, T, F, hl, r, e⟩ => ?_
  unfold ev at e
  have get : ∀ {o : O}, ρ[i]? = some o → ∃ x, sg[i]? = some x := fun {o} q => by
    have z : i < sg.length := by rw [hl]; exact lt_of_get q
    exact ⟨sg[i], by simp [z]⟩
  split at e
  · rename_i d q
    obtain ⟨x, ex⟩ := get q
    obtain ⟨v, e1, dn⟩ := Rel.dat (r.perm (perm_eraseIdx (its_get (T := T) ex q)))
    subst e1
    exact ⟨v, ex, e v F H (.refl _) (fun _ => .refl _) rfl (r.cons_dat dn)⟩
  · rename_i k os q
    obtain ⟨x, ex⟩ := get q
    have r2 := r.slot ex q
    obtain ⟨_, A, h, _, _⟩ := id r2
    cases h with
    | cons a l =>
      cases a with
      | nd ha hl' hf l' => exact ⟨_, ex, e _ F H (.refl _) (fun _ => .refl _) (by simp) r2⟩
  · exact e.elim
end
end VS

namespace VS
open PySem PySem.Spec PyProof.Rows L2
/-! ## list(zip(a, b)) -/
section
variable {prog : Program} {w : World} {A : Around} {E : Value → Shared → Prop} {s : Shared} {z TI TO i1 i2 l1 l2 T : Addr} {k1 k2 : Nat} {xs ys : Array Value} {x y f1 : Value}
/-- a zip object that has handed a pair out, or not -/
abbrev ZO (h : Heap) (z TI TO : Addr) (f0 f1 : Value) : Prop := h.get? z = some { cls := .type "zip", dict := none, data := .fields #[f0, f1, .bool false, .ref TI, .ref TO], slots := #[] }
theorem wp_alive {a : Addr} {Q : Option Obj → Shared → Prop} (h : Q (s.heap.get? a) s) : wpAny (model prog w) A (loadIfAlive a) Q E s := fun Γ p hΓ => by
  unfold loadIfAlive
  rw [Sem.wp_loadIfAlive]
  exact wpAny_pure (Q := Q) h Γ p hΓ
theorem zip_held {o : Obj} {Q : Bool → Shared → Prop} (hz : ZO s.heap z TI TO (rawInt T) f1) (hT : s.heap.get? T = some o) (hf : f1 = .bool false ∨ f1 = .bool true)
    (k : ∀ h', ZO h' z TI TO (rawInt T) (.bool true) → Heap.SameBut z s.heap h' → Q false { s with heap := h' }) : wpAny (model prog w) A (Builtin.SmallTypes.ownedTupleIsFree (.ref z)) Q E s := by
  unfold Builtin.SmallTypes.ownedTupleIsFree
  refine wpAny_bind (wpAny_field hz rfl (x := rawInt T) rfl ?_)
  refine wpAny_bind (?_ : wpAny _ _ (loadIfAlive (T : Int).toNat) _ _ _)
  rw [Int.toNat_natCast]
  refine wp_alive ?_
  rw [hT]
  refine wpAny_bind (wpAny_field hz rfl (x := f1) rfl ?_)
  rcases hf with rfl | rfl
  · refine wpAny_bind (wpAny_setField_rec hz (by simp) fun h' hz' hs => ?_)
    exact wpAny_pure (k h' hz' hs)
  · exact wpAny_pure (k s.heap hz (Heap.SameBut.refl _ _))
/-- the lists, their iterators -/
structure Two (h : Heap) (TI i1 i2 l1 l2 : Addr) (k : Nat) (xs ys : Array Value) : Prop where
  ti : IsPair h TI (.ref i1) (.ref i2)
  a : h.IsListIter i1 l1 k
  b : h.IsListIter i2 l2 k
  la : h.IsList l1 xs
  lb : h.IsList l2 ys
theorem Two.keep {h h' : Heap} {k : Nat} (t : Two h TI i1 i2 l1 l2 k xs ys) (e : ∀ c o, c = TI ∨ c = i1 ∨ c = i2 ∨ c = l1 ∨ c = l2 → h.get? c = some o → h'.get? c = some o) : Two h' TI i1 i2 l1 l2 k xs ys :=
  ⟨e _ _ (.inl rfl) t.ti, t.a.at fun o => e _ o (by simp), t.b.at fun o => e _ o (by simp), t.la.at fun o => e _ o (by simp), t.lb.at fun o => e _ o (by simp)⟩
theorem ZipApart.five (D : ZipApart z TI TO i1 i2 l1 l2) {c : Addr} (hc : c = TI ∨ c = i1 ∨ c = i2 ∨ c = l1 ∨ c = l2) : c ≠ z := by
  rcases hc with h | h | h | h | h <;> rw [h]
  · exact D.TIz
  · exact D.i1z
  · exact D.i2z
  · exact D.l1z
  · exact D.l2z
/-- a turn whose pair is held elsewhere: a new pair -/
theorem zip_more {k : Nat} {o : Obj} {Q : Value → Shared → Prop} (D : ZipApart z TI TO i1 i2 l1 l2) (hz : ZO s.heap z TI TO (rawInt T) f1) (hT : s.heap.get? T = some o) (hf : f1 = .bool false ∨ f1 = .bool true) (t : Two s.heap TI i1 i2 l1 l2 k xs ys)
    (hx : xs[k]? = some x) (hy : ys[k]? = some y)
    (q : ∀ h', ZO h' z TI TO (rawInt T) (.bool true) → Two h' TI i1 i2 l1 l2 (k + 1) xs ys → IsPair h' s.heap.objs.size x y → (∀ c o, c ≠ z → c ≠ i1 → c ≠ i2 → s.heap.get? c = some o → h'.get? c = some o) → Q (.ref s.heap.objs.size) { s with heap := h' }) :
    wpAny (model prog w) A (Builtin.«zip.__next__» ⟨[.ref z], []⟩) (fun fin s' => ∃ v, fin = .done (.ret v) ∧ Q v s') E s := by
  change wpAny (model prog w) A (field (.ref z) 2 >>= _) _ _ s
  refine wpAny_bind (wpAny_field (i := 2) (x := .bool false) hz rfl rfl ?_)
  change wpAny (model prog w) A (field (.ref z) 3 >>= _) _ _ s
  refine wpAny_bind (wpAny_field (i := 3) (x := .ref TI) hz rfl rfl (wpAny_bind (wpAny_seqItems t.ti rfl ?_)))
  change wpAny (model prog w) A (Builtin.SmallTypes.ownedTupleIsFree (.ref z) >>= _) _ _ s
  refine wpAny_bind (zip_held hz hT hf fun h1 hz1 s1 => ?_)
  have t1 : Two h1 TI i1 i2 l1 l2 k xs ys := t.keep fun c o hc e => (s1.2 c (ZipApart.five D hc)).trans e
  change wpAny (model prog w) A (forIn (#[Value.ref i1, Value.ref i2] : Array Value) ((none, #[]) : Option PySem.Fin × Array Value) _ >>= _) _ _ _
  rw [← Array.forIn_toList]
  refine wpAny_bind ?_
  simp only [List.forIn_cons, List.forIn_nil]
  refine wpAny_bind (wpAny_bind (wpAny_holding ?_))
  change wpAny (model prog w) A (Builtin.SmallTypes.nextOf (.ref i1) >>= _) _ _ { s with heap := h1 }
  refine wpAny_bind (wpAny_nextOf_list_item t1.a t1.la hx fun h2 a2 s2 => wpAny_pure ?_)
  refine wpAny_pure (wpAny_bind (wpAny_bind (wpAny_holding ?_)))
  change wpAny (model prog w) A (Builtin.SmallTypes.nextOf (.ref i2) >>= _) _ _ { s with heap := h2 }
  have b2 : h2.IsListIter i2 l2 k := t1.b.at fun o e => (s2.2 _ D.i12.symm).trans e
  have lb2 : h2.IsList l2 ys := t1.lb.at fun o e => (s2.2 _ D.l2i1).trans e
  refine wpAny_bind (wpAny_nextOf_list_item b2 lb2 hy fun h3 b3 s3 => wpAny_pure (wpAny_pure (wpAny_pure ?_)))
  change wpAny (model prog w) A (newTuple [x, y] >>= _) _ _ { s with heap := h3 }
  have sz : h3.objs.size = s.heap.objs.size := by rw [s3.1, s2.1, s1.1]
  refine wpAny_bind (wpAny_newTuple (wpAny_pure ⟨_, rfl, ?_⟩) (by show 2 ≤ sizeLine; decide))
  have up : ∀ c o, c ≠ z → c ≠ i1 → c ≠ i2 → s.heap.get? c = some o → (h3.push { cls := .type "tuple", data := .seq #[x, y] }).get? c = some o := fun c o e1 e2 e3 e =>
    Heap.get?_push_of_some _ ((s3.2 _ e3).trans ((s2.2 _ e2).trans ((s1.2 _ e1).trans e)))
  have up1 : ∀ c o, c ≠ i1 → c ≠ i2 → h1.get? c = some o → (h3.push { cls := .type "tuple", data := .seq #[x, y] }).get? c = some o := fun c o e2 e3 e =>
    Heap.get?_push_of_some _ ((s3.2 _ e3).trans ((s2.2 _ e2).trans e))
  have r := q _ (up1 _ _ D.i1z.symm D.i2z.symm hz1) ⟨up1 _ _ D.TIi1 D.TIi2 t1.ti, a2.at fun o e => Heap.get?_push_of_some _ ((s3.2 _ D.i12).trans e), b3.at fun o e => Heap.get?_push_of_some _ e, t1.la.at fun o => up1 _ o D.l1i1 D.l1i2, t1.lb.at fun o => up1 _ o D.l2i1 D.l2i2⟩
    (by rw [← sz]; exact Heap.get?_push_size _ rfl) up
  rw [← sz] at r
  exact r
/-- a turn that finds an end, the pair held elsewhere -/
theorem zip_over {k : Nat} {o : Obj} {Q : PySem.Fin → Shared → Prop} (hh : A.handled = none) (D : ZipApart z TI TO i1 i2 l1 l2) (hz : ZO s.heap z TI TO (rawInt T) f1) (hT : s.heap.get? T = some o) (hf : f1 = .bool false ∨ f1 = .bool true) (t : Two s.heap TI i1 i2 l1 l2 k xs ys)
    (he : xs[k]? = none ∨ ys[k]? = none) (q : ∀ h' e, (∀ c o, c ≠ z → c ≠ i1 → c ≠ i2 → s.heap.get? c = some o → h'.get? c = some o) → (∃ o, h'.get? e = some o ∧ o.cls = .type "StopIteration") → E (.ref e) { s with heap := h' }) :
    wpAny (model prog w) A (Builtin.«zip.__next__» ⟨[.ref z], []⟩) Q E s := by
  change wpAny (model prog w) A (field (.ref z) 2 >>= _) _ _ s
  refine wpAny_bind (wpAny_field (i := 2) (x := .bool false) hz rfl rfl ?_)
  change wpAny (model prog w) A (field (.ref z) 3 >>= _) _ _ s
  refine wpAny_bind (wpAny_field (i := 3) (x := .ref TI) hz rfl rfl (wpAny_bind (wpAny_seqItems t.ti rfl ?_)))
  change wpAny (model prog w) A (Builtin.SmallTypes.ownedTupleIsFree (.ref z) >>= _) _ _ s
  refine wpAny_bind (zip_held hz hT hf fun h1 hz1 s1 => ?_)
  have t1 : Two h1 TI i1 i2 l1 l2 k xs ys := t.keep fun c o hc e => (s1.2 c (ZipApart.five D hc)).trans e
  change wpAny (model prog w) A (forIn (#[Value.ref i1, Value.ref i2] : Array Value) ((none, #[]) : Option PySem.Fin × Array Value) _ >>= _) _ _ _
  rw [← Array.forIn_toList]
  refine wpAny_bind ?_
  simp only [List.forIn_cons, List.forIn_nil]
  refine wpAny_bind (wpAny_bind (wpAny_holding ?_))
  change wpAny (model prog w) A (Builtin.SmallTypes.nextOf (.ref i1) >>= _) _ _ { s with heap := h1 }
  cases hx : xs[k]? with
  | none =>
    refine wpAny_bind (wpAny_nextOf_list_end hh t1.a t1.la hx fun h2 e s2 ho => ?_)
    exact q h2 e (fun c o e1 e2 _ h => s2 _ _ e2 ((s1.2 _ e1).trans h)) ho
  | some x =>
    have hy : ys[k]? = none := he.resolve_left fun n => by rw [hx] at n; cases n
    refine wpAny_bind (wpAny_nextOf_list_item t1.a t1.la hx fun h2 a2 s2 => wpAny_pure ?_)
    refine wpAny_pure (wpAny_bind (wpAny_bind (wpAny_holding ?_)))
    change wpAny (model prog w) A (Builtin.SmallTypes.nextOf (.ref i2) >>= _) _ _ { s with heap := h2 }
    have b2 : h2.IsListIter i2 l2 k := t1.b.at fun o e => (s2.2 _ D.i12.symm).trans e
    have lb2 : h2.IsList l2 ys := t1.lb.at fun o e => (s2.2 _ D.l2i1).trans e
    refine wpAny_bind (wpAny_nextOf_list_end hh b2 lb2 hy fun h3 e s3 ho => ?_)
    exact q h3 e (fun c o e1 e2 e3 h => s3 _ _ e3 ((s2.2 _ e2).trans ((s1.2 _ e1).trans h))) ho
/-- the state between two turns -/
def ZSt (h : Heap) (z TI TO i1 i2 l1 l2 : Addr) (k : Nat) (xs ys : Array Value) : Prop :=
  Two h TI i1 i2 l1 l2 k xs ys ∧ (∃ a b, IsPair h TO a b) ∧ (ZO h z TI TO .none (.bool false) ∨ ∃ (T : Addr) (f1 : Value) (o : Obj), ZO h z TI TO (rawInt T) f1 ∧ h.get? T = some o ∧ (f1 = .bool false ∨ f1 = .bool true) ∧ T ≠ z ∧ T ≠ i1 ∧ T ≠ i2 ∧ T ≠ TO)
theorem zst_next {k : Nat} {Q : Option Value → Shared → Prop} (D : ZipApart z TI TO i1 i2 l1 l2) (t : ZSt s.heap z TI TO i1 i2 l1 l2 k xs ys) (hx : xs[k]? = some x) (hy : ys[k]? = some y)
    (q : ∀ h', ZSt h' z TI TO i1 i2 l1 l2 (k + 1) xs ys → IsPair h' s.heap.objs.size x y → (∀ c o, c ∉ [z, TI, TO, i1, i2] → s.heap.get? c = some o → h'.get? c = some o) → Q (some (.ref s.heap.objs.size)) { s with heap := h' }) :
    wpAny (model prog w) A (pyNext (.ref z)) Q E s := by
  obtain ⟨two, ⟨a, b, hTO⟩, st⟩ := t
  have nn : ∀ {c : Addr} {o : Obj}, s.heap.get? c = some o → s.heap.objs.size ≠ c := fun e => Nat.ne_of_gt (Heap.lt_size e)
  have l1 : s.heap.objs.size ≠ i1 := by obtain ⟨o, e, _⟩ := two.a; exact nn e
  have l2 : s.heap.objs.size ≠ i2 := by obtain ⟨o, e, _⟩ := two.b; exact nn e
  rcases st with hz | ⟨T, f1, o, hz, hT, hf, n1, n2, n3, n4⟩
  · refine wpAny_pyNext_zip_item D hz two.ti hTO two.a two.b two.la two.lb hx hy fun h' a1 a2 a3 a4 a5 a6 a7 => ?_
    refine q h' ⟨⟨a7 _ _ D.TIz D.TITO D.TIi1 D.TIi2 two.ti, a3, a4, two.la.at fun o => a7 _ o D.l1z D.l1TO D.l1i1 D.l1i2, two.lb.at fun o => a7 _ o D.l2z D.l2TO D.l2i1 D.l2i2⟩, ⟨_, _, a2⟩, .inr ⟨_, _, _, a1, a5, .inl rfl, nn hz, l1, l2, nn hTO⟩⟩ a5 fun c o hc e => ?_
    simp only [List.mem_cons, List.not_mem_nil, or_false, not_or] at hc
    exact a7 c o hc.1 hc.2.2.1 hc.2.2.2.1 hc.2.2.2.2 e
  · have ty : s.TypeIs (.ref z) "zip" := ⟨_, hz, rfl⟩
    unfold pyNext
    refine wpAny_bind (wpAny_attempt (wpAny_callSpecial?_slot (name := Str.ofString "__next__") ty PySem.F.slot_zip_next (wpAny_call_entry PySem.F.slot_zip_next ty PySem.F.entry_zip_next ?_ (PySem.F.args_zip_next_1 _))))
    refine zip_more D hz hT hf two hx hy fun h' a1 a2 a3 a4 => wpAny_pure ?_
    refine q h' ⟨a2, ⟨a, b, a4 _ _ D.TOz D.TOi1 D.TOi2 hTO⟩, .inr ⟨T, _, o, a1, a4 _ _ n1 n2 n3 hT, .inr rfl, n1, n2, n3, n4⟩⟩ a3 fun c o hc e => ?_
    simp only [List.mem_cons, List.not_mem_nil, or_false, not_or] at hc
    exact a4 c o hc.1 hc.2.2.2.1 hc.2.2.2.2 e
theorem zst_end {k : Nat} {Q : Option Value → Shared → Prop} (hh : A.handled = none) (D : ZipApart z TI TO i1 i2 l1 l2) (t : ZSt s.heap z TI TO i1 i2 l1 l2 k xs ys) (he : xs[k]? = none ∨ ys[k]? = none)
    (q : ∀ h', (∀ c o, c ∉ [z, TI, TO, i1, i2] → s.heap.get? c = some o → h'.get? c = some o) → Q none { s with heap := h' }) :
    wpAny (model prog w) A (pyNext (.ref z)) Q E s := by
  obtain ⟨two, ⟨a, b, hTO⟩, st⟩ := t
  rcases st with hz | ⟨T, f1, o, hz, hT, hf, n1, n2, n3, n4⟩
  · refine wpAny_pyNext_zip_end hh D hz two.ti hTO two.a two.b two.la two.lb he fun h' a7 => q h' fun c o hc e => ?_
    simp only [List.mem_cons, List.not_mem_nil, or_false, not_or] at hc
    exact a7 c o hc.1 hc.2.2.1 hc.2.2.2.1 hc.2.2.2.2 e
  · have ty : s.TypeIs (.ref z) "zip" := ⟨_, hz, rfl⟩
    unfold pyNext
    refine wpAny_bind (wpAny_attempt (wpAny_callSpecial?_slot (name := Str.ofString "__next__") ty PySem.F.slot_zip_next (wpAny_call_entry PySem.F.slot_zip_next ty PySem.F.entry_zip_next ?_ (PySem.F.args_zip_next_1 _))))
    refine zip_over hh D hz hT hf two he fun h' e a4 ⟨o, ho, hc⟩ => ?_
    refine wpAny_bind (wpAny_isInstance (T := "StopIteration") (b := true) ⟨o, ho, hc⟩ isSubtype_stop (wpAny_pure (q h' fun c o hc e => ?_)))
    simp only [List.mem_cons, List.not_mem_nil, or_false, not_or] at hc
    exact a4 c o hc.1 hc.2.2.2.1 hc.2.2.2.2 e
end
/-! ### the list grows, pair by pair -/
def Grow (S : Addr) : List (V × V) → List V → Hp → (Hp → Prop) → Prop
  | [], _, H, Q => Q H
  | p :: r, acc, H, Q => ∀ T, H T = none → Grow S r (acc ++ [.ref T]) (upd (upd H T (.tup [p.1, p.2])) S (.lst (acc ++ [.ref T]))) Q
section
variable {X : Cx} {pn : List (Addr × Obj)} {sg : L2.St} {z TI TO i1 i2 a b S : Addr} {ia ib : Array Value}
theorem zip_nolen : typeLookup (.type "zip") "__len__" = pure none := by (rw [typeLookup_type, builtinLookup_eq_fast]; kernel_rfl)
theorem zip_nohint : typeLookup (.type "zip") "__length_hint__" = pure none := by (rw [typeLookup_type, builtinLookup_eq_fast]; kernel_rfl)
theorem zst_keep {h h' : Heap} {k : Nat} (t : ZSt h z TI TO i1 i2 a b k ia ib) (hs : S ∉ [z, TI, TO, i1, i2, a, b]) (e : ∀ c o, c ≠ S → h.get? c = some o → h'.get? c = some o) (al : ∀ c o, h.get? c = some o → ∃ o', h'.get? c = some o') : ZSt h' z TI TO i1 i2 a b k ia ib := by
  simp only [List.mem_cons, List.not_mem_nil, or_false, not_or] at hs
  obtain ⟨two, ⟨u, v, hTO⟩, st⟩ := t
  have ne : ∀ {c : Addr}, ¬ S = c → c ≠ S := fun n q => n q.symm
  refine ⟨⟨e _ _ (ne hs.2.1) two.ti, two.a.at fun o => e _ o (ne hs.2.2.2.1), two.b.at fun o => e _ o (ne hs.2.2.2.2.1), two.la.at fun o => e _ o (ne hs.2.2.2.2.2.1), two.lb.at fun o => e _ o (ne hs.2.2.2.2.2.2)⟩, ⟨u, v, e _ _ (ne hs.2.2.1) hTO⟩, ?_⟩
  rcases st with hz | ⟨T, f1, o, hz, hT, r⟩
  · exact .inl (e _ _ (ne hs.1) hz)
  · obtain ⟨o', ho'⟩ := al _ _ hT
    exact .inr ⟨T, f1, o', e _ _ (ne hs.1) hz, ho', r⟩
theorem grow_loop {A : Around} {res : Value} {R : Result → Shared → Prop} {Qh : Hp → Prop} (hh : A.handled = none) (D : ZipApart z TI TO i1 i2 a b) (hS : S ∉ [z, TI, TO, i1, i2, a, b]) :
    ∀ (r : List (V × V)) (k : Nat) (st : Shared) (H : Hp) (acc : List V), Inv X pn sg H st → H S = some (.lst acc) → ZSt st.heap z TI TO i1 i2 a b k ia ib → (∀ c ∈ [z, TI, TO, i1, i2], FpOk X pn H c) →
      (∀ j p, r[j]? = some p → ∃ u v, ia[k + j]? = some u ∧ ib[k + j]? = some v ∧ RelV p.1 u ∧ RelV p.2 v) → (ia[k + r.length]? = none ∨ ib[k + r.length]? = none) → acc.length + r.length ≤ sizeLine → Grow S r acc H Qh →
      (∀ st' H', Inv X pn sg H' st' → Qh H' → R (.ok (.ret res)) st') → codeAny (model X.prog X.w) A (.builtin "list.extend.loop" ⟨[.ref S, .ref z, res], []⟩) R st := by
  intro r
  induction r with
  | nil =>
    intro k st H acc I hH zs fp _ he _ g cont
    refine codeAny_builtin PySem.F.entry_extend_loop ?_
    rw [Around.under_plainId PySem.F.plain_extend_loop _]
    change wpAny (model X.prog X.w) A.in1 (pyNext (.ref z) >>= _) _ _ st
    refine wpAny_bind (zst_end hh D zs (by simpa using he) fun h' e => wpAny_pure (cont _ H ?_ g))
    exact I.turnedL (t' := st.toks) (ch := [z, TI, TO, i1, i2]) (fun c o hc q => e c o hc q) fp
  | cons p r ih =>
    intro k st H acc I hH zs fp hi he hz g cont
    obtain ⟨u, v, hu, hv, ru, rv⟩ := hi 0 p rfl
    refine codeAny_builtin PySem.F.entry_extend_loop ?_
    rw [Around.under_plainId PySem.F.plain_extend_loop _]
    change wpAny (model X.prog X.w) A.in1 (pyNext (.ref z) >>= _) _ _ st
    refine wpAny_bind (zst_next D zs (by simpa using hu) (by simpa using hv) fun h' zs' hp e => ?_)
    have fresh := I.hok.fresh (Nat.le_refl st.heap.objs.size)
    have I1 : Inv X pn sg (upd H st.heap.objs.size (.tup [p.1, p.2])) { st with heap := h' } := I.turnedNew (t' := st.toks) (ch := [z, TI, TO, i1, i2]) (fun c o hc q => e c o hc q) fp (Nat.le_refl _) ⟨by show 2 ≤ sizeLine; decide, [u, v], .cons ru (.cons rv .nil), ⟨_, hp, rfl, _, rfl⟩⟩
    have nS : S ≠ st.heap.objs.size := fun q => by rw [← q, hH] at fresh; cases fresh
    have hH1 : upd H st.heap.objs.size (.tup [p.1, p.2]) S = some (.lst acc) := by rw [upd_ne nS]; exact hH
    obtain ⟨_, its, n, rvs, eS⟩ := (show ObjOk X.prog X.w _ h' S (.lst acc) from I1.hok S _ hH1)
    have ln : its.length = acc.length := rvs.length.symm
    rw [List.length_cons] at hz
    change wpAny (model X.prog X.w) A.in1 (updateSeq S (·.push (.ref st.heap.objs.size)) >>= _) _ _ { st with heap := h' }
    refine wpAny_bind (wpAny_updateSeq eS rfl ?_ (by rw [List.size_toArray]; omega) (by rw [Array.size_push, List.size_toArray]; omega))
    have I2 := I1.lset (l := S) (its := its) (its' := its ++ [.ref st.heap.objs.size]) (ys := acc ++ [.ref st.heap.objs.size]) (t' := st.toks) hH1 eS (f := fun q => q.push (.ref st.heap.objs.size)) (by simp) (rvs.append (.cons (show L2.RelV (.ref _) (.ref _) from rfl) .nil)) (by rw [List.length_append]; show _ + 1 ≤ _; omega)
    refine wpAny_pure ⟨plainId_quiet PySem.F.plain_extend_loop _, ih (k + 1) _ _ (acc ++ [.ref st.heap.objs.size]) I2 upd_same ?_ (fun c hc => ?_) (fun j q hq => ?_) ?_ ?_ (g _ fresh) cont⟩
    · exact zst_keep zs' hS (fun c o hc q => (Heap.get?_update_other _ _ (Ne.symm hc)).trans q) fun c o q => by
        by_cases hc : c = S
        · subst hc
          exact ⟨_, Heap.get?_update_self _ eS rfl⟩
        · exact ⟨o, (Heap.get?_update_other _ _ (Ne.symm hc)).trans q⟩
    · have q := fp c hc
      refine ⟨?_, q.2⟩
      have c1 : c ≠ S := fun w => by
        have w1 := q.1
        rw [w, hH] at w1
        cases w1
      have c2 : c ≠ st.heap.objs.size := fun w => by
        obtain ⟨two, ⟨x0, y0, hTO⟩, zz⟩ := zs
        have zl : ∃ o, st.heap.get? z = some o := by
          rcases zz with h | ⟨_, _, _, h, _⟩
          · exact ⟨_, h⟩
          · exact ⟨_, h⟩
        have lt : c < st.heap.objs.size := by
          simp only [List.mem_cons, List.not_mem_nil, or_false] at hc
          rcases hc with rfl | rfl | rfl | rfl | rfl
          · obtain ⟨_, h⟩ := zl; exact Heap.lt_size h
          · exact Heap.lt_size two.ti
          · exact Heap.lt_size hTO
          · obtain ⟨_, h, _⟩ := two.a; exact Heap.lt_size h
          · obtain ⟨_, h, _⟩ := two.b; exact Heap.lt_size h
        exact absurd w (Nat.ne_of_lt lt)
      rw [upd_ne c1, upd_ne c2]
      exact q.1
    · obtain ⟨u2, v2, w1, w2, w3⟩ := hi (j + 1) q (by simpa using hq)
      exact ⟨u2, v2, by rw [show k + 1 + j = k + (j + 1) by omega]; exact w1, by rw [show k + 1 + j = k + (j + 1) by omega]; exact w2, w3⟩
    · rw [show k + 1 + r.length = k + (p :: r).length by rw [List.length_cons]; omega]
      exact he
    · rw [List.length_append]
      show acc.length + 1 + r.length ≤ sizeLine
      omega
theorem call_list_zip {st : Shared} {H : Hp} {xs ys : List V} {Q : VK} (hc : X.calm = true) (I : Inv X pn sg H st) (hz0 : IsZip st.heap z TI TO .none) (D : ZipApart z TI TO i1 i2 a b) (zs : ZSt st.heap z TI TO i1 i2 a b 0 ia ib) (fp : ∀ c ∈ [z, TI, TO, i1, i2], FpOk X pn H c)
    (rx : Vals xs ia.toList) (ry : Vals ys ib.toList) (hz : xs.length ≤ sizeLine) (q : ∀ S, H S = none → Grow S (xs.zip ys) [] (upd H S (.lst [])) fun H' => Q (.ref S) H') :
    wpAny (model X.prog X.w) X.A (call (.type "list") [.ref z]) (EP X pn sg Q) X.xe st := by
  have alive : ∀ c ∈ [z, TI, TO, i1, i2, a, b], c < st.heap.objs.size := fun c hc => by
    obtain ⟨two, ⟨x0, y0, hTO⟩, zz⟩ := zs
    have zl : ∃ o, st.heap.get? z = some o := by
      rcases zz with h | ⟨_, _, _, h, _⟩
      · exact ⟨_, h⟩
      · exact ⟨_, h⟩
    simp only [List.mem_cons, List.not_mem_nil, or_false] at hc
    rcases hc with rfl | rfl | rfl | rfl | rfl | rfl | rfl
    · obtain ⟨_, h⟩ := zl; exact Heap.lt_size h
    · exact Heap.lt_size two.ti
    · exact Heap.lt_size hTO
    · obtain ⟨_, h, _⟩ := two.a; exact Heap.lt_size h
    · obtain ⟨_, h, _⟩ := two.b; exact Heap.lt_size h
    · obtain ⟨_, h, _⟩ := two.la; exact Heap.lt_size h
    · obtain ⟨_, h, _⟩ := two.lb; exact Heap.lt_size h
  have hS : st.heap.objs.size ∉ [z, TI, TO, i1, i2, a, b] := fun w => Nat.lt_irrefl _ (alive _ w)
  have fresh := I.hok.fresh (Nat.le_refl st.heap.objs.size)
  refine callType_codes (Q₁ := fun obj s1 => obj = .ref st.heap.objs.size ∧ s1 = { st with heap := st.heap.push { cls := .type "list", data := .seq #[] } }) PySem.F.called_list (PySem.F.typeCall_list_1 _) PySem.F.entry_list_init (code_list_new _ ⟨rfl, rfl⟩) fun obj s1 h1 => ?_
  obtain ⟨rfl, rfl⟩ := h1
  have e0 : (st.heap.push { cls := .type "list", data := .seq #[] }).get? st.heap.objs.size = some { cls := .type "list", data := .seq #[] } := Heap.get?_push_size _ rfl
  refine ⟨⟨_, e0, rfl⟩, PySem.F.args_list_init_2 _ _, ?_⟩
  have I0 : Inv X pn sg (upd H st.heap.objs.size (.lst [])) { st with heap := st.heap.push { cls := .type "list", data := .seq #[] } } := I.laid (t' := st.toks) (fun c o q => Heap.get?_push_of_some _ q) (Nat.le_refl _) ⟨Nat.zero_le _, [], 0, .nil, e0⟩
  change wpAny (model X.prog X.w) X.A.in1.in1 (Builtin.List.listItems (.ref st.heap.objs.size) >>= _) _ _ _
  refine wpAny_bind (wpAny_bind (wpAny_seqItems e0 rfl (wpAny_pure ?_)))
  change wpAny (model X.prog X.w) X.A.in1.in1 (updateSeq st.heap.objs.size (fun _ => #[]) >>= _) _ _ _
  refine wpAny_bind (wpAny_updateSeq e0 rfl ?_ (by decide) (by decide))
  have I1 := I0.lset (l := st.heap.objs.size) (its := []) (its' := []) (ys := []) (t' := st.toks) upd_same e0 (f := fun _ => #[]) rfl .nil (Nat.zero_le _)
  have e1 := Heap.get?_update_self (Obj.mapSeq fun _ => (#[] : Array Value)) e0 rfl
  refine wpAny_bind (wpAny_letGo ?_)
  change wpAny (model X.prog X.w) X.A.in1.in1 (Builtin.List.listExtendWith (.ref st.heap.objs.size) (.ref z) .none) _ _ _
  have z0 : ZSt (st.heap.push { cls := .type "list", data := .seq #[] }) z TI TO i1 i2 a b 0 ia ib := zst_keep zs hS (fun c o _ w => Heap.get?_push_of_some _ w) fun c o w => ⟨o, Heap.get?_push_of_some _ w⟩
  have up : ∀ (h : Heap) (f : Obj → Obj), (∃ o, h.get? st.heap.objs.size = some o ∧ (f o).isFreed = false) → ZSt h z TI TO i1 i2 a b 0 ia ib → ZSt (h.update st.heap.objs.size f) z TI TO i1 i2 a b 0 ia ib := fun h f ⟨o, ho, hf⟩ t =>
    zst_keep t hS (fun c o hc w => (Heap.get?_update_other _ _ (Ne.symm hc)).trans w) fun c o w => by
      by_cases hc : c = st.heap.objs.size
      · subst hc
        exact ⟨_, Heap.get?_update_self f ho hf⟩
      · exact ⟨o, (Heap.get?_update_other _ _ (Ne.symm hc)).trans w⟩
  have z1 := up _ (Obj.mapSeq fun _ => (#[] : Array Value)) ⟨_, e0, rfl⟩ z0
  have ty : ∀ {h : Heap} {st' : Shared}, st'.heap = h → ZSt h z TI TO i1 i2 a b 0 ia ib → st'.TypeIs (.ref z) "zip" := fun {h st'} e t => by
    subst e
    rcases t.2.2 with w | ⟨_, _, _, w, _⟩
    · exact ⟨_, w, rfl⟩
    · exact ⟨_, w, rfl⟩
  have nz : st.heap.objs.size ≠ z := fun w => hS (by rw [← w]; exact List.mem_cons_self)
  unfold Builtin.List.listExtendWith
  refine wpAny_bind (wpAny_typeOf (ty rfl z1) ?_)
  have b1 : Builtin.List.listSameRef (.ref st.heap.objs.size) (.ref z) = false := by simp [Builtin.List.listSameRef, nz]
  have b2 : (Value.type "zip" == Value.type "list" || Value.type "zip" == Value.type "tuple") = false := by decide
  rw [if_neg (by simp only [b1, b2, Bool.false_or, Bool.or_false]; decide)]
  have hz2 : IsZip (({ st with heap := st.heap.push { cls := .type "list", data := .seq #[] } } : Shared).heap.update st.heap.objs.size (Obj.mapSeq fun _ => (#[] : Array Value))) z TI TO .none := (Heap.get?_update_other _ _ nz).trans (Heap.get?_push_of_some _ hz0)
  refine wpAny_bind (wpAny_pyIter_zip hz2 (wpAny_bind (wpAny_holding ?_)))
  unfold Builtin.List.listLengthHint
  refine wpAny_bind (wpAny_specialOf (ty rfl z1) zip_nolen ?_)
  change wpAny (model X.prog X.w) X.A.in1.in1 (specialOf (Value.ref z) (Str.ofString "__length_hint__") >>= _) _ _ _
  refine wpAny_bind (wpAny_specialOf (ty rfl z1) zip_nohint (wpAny_pure ?_))
  change wpAny (model X.prog X.w) X.A.in1.in1 (rule "list.extend.makes-room" >>= fun _ => Builtin.List.listTouch (.ref st.heap.objs.size) >>= fun _ => again (.builtin "list.extend.loop" ⟨[.ref st.heap.objs.size, .ref z, .none], []⟩)) _ _ _
  refine wpAny_bind (wpAny_rule (wpAny_bind ?_))
  change wpAny (model X.prog X.w) X.A.in1.in1 (updateSeq st.heap.objs.size (·.push .none) >>= fun _ => updateSeq st.heap.objs.size (·.pop)) _ _ _
  refine wpAny_bind (wpAny_updateSeq e1 rfl ?_ (by decide) (by decide))
  have e2 := Heap.get?_update_self (Obj.mapSeq (·.push Value.none)) e1 rfl
  refine wpAny_updateSeq e2 rfl ?_ (by decide) (by decide)
  have z2 := up _ (Obj.mapSeq (·.push Value.none)) ⟨_, e1, rfl⟩ z1
  have z3 := up _ (Obj.mapSeq (·.pop)) ⟨_, e2, rfl⟩ z2
  have e3 := Heap.get?_update_self (Obj.mapSeq (·.pop)) e2 rfl
  have old : ∀ c o, st.heap.get? c = some o → ((((st.heap.push { cls := .type "list", data := .seq #[] }).update st.heap.objs.size (Obj.mapSeq fun _ => (#[] : Array Value))).update st.heap.objs.size (Obj.mapSeq (·.push Value.none))).update st.heap.objs.size (Obj.mapSeq (·.pop))).get? c = some o := fun c o w => by
    have n : st.heap.objs.size ≠ c := Nat.ne_of_gt (Heap.lt_size w)
    exact (Heap.get?_update_other _ _ n).trans ((Heap.get?_update_other _ _ n).trans ((Heap.get?_update_other _ _ n).trans (Heap.get?_push_of_some _ w)))
  have I3 := I.laid (a := st.heap.objs.size) (o := .lst []) (t' := st.toks) old (Nat.le_refl _) ⟨Nat.zero_le _, [], _, .nil, e3⟩
  refine wpAny_pure ⟨plainId_quiet PySem.F.plain_extend_loop _, grow_loop (A := X.A.in1) (I.ok.hd hc) D hS (xs.zip ys) 0 _ _ [] I3 upd_same z3 (fun c hc' => ?_) (fun j p hp => ?_) ?_ ?_ (q _ fresh) fun st' H' I' r => ⟨rfl, .ref st.heap.objs.size, H', I', (show L2.RelV (.ref _) (.ref _) from rfl), r⟩⟩
  · have w := fp c hc'
    refine ⟨?_, w.2⟩
    have lt := alive c (by simp only [List.mem_cons, List.not_mem_nil, or_false] at hc' ⊢; rcases hc' with h | h | h | h | h <;> simp [h])
    rw [upd_ne (Nat.ne_of_lt lt)]
    exact w.1
  · have w1 : xs[j]? = some p.1 ∧ ys[j]? = some p.2 := List.getElem?_zip_eq_some.mp hp
    obtain ⟨u, hu, ru⟩ := rx.get w1.1
    obtain ⟨v, hv, rv⟩ := ry.get w1.2
    exact ⟨u, v, by rw [Nat.zero_add, ← Array.getElem?_toList]; exact hu, by rw [Nat.zero_add, ← Array.getElem?_toList]; exact hv, ru, rv⟩
  · have l1 : xs.length = ia.size := rx.length.trans Array.length_toList
    have l2 : ys.length = ib.size := ry.length.trans Array.length_toList
    rw [Nat.zero_add, List.length_zip]
    by_cases h : xs.length ≤ ys.length
    · rw [Nat.min_eq_left h, l1]
      exact .inl (Array.getElem?_eq_none (Nat.le_refl _))
    · rw [Nat.min_eq_right (Nat.le_of_not_le h), l2]
      exact .inr (Array.getElem?_eq_none (Nat.le_refl _))
  · rw [List.length_zip]
    exact Nat.le_trans (by rw [List.length_nil, Nat.zero_add]; exact Nat.min_le_left _ _) hz
end
end VS

namespace VS
open PySem PySem.Spec PyProof.Rows L2
section
variable {X : Cx} {G : Gm}
/-! ### list(zip(a, b)) -/
theorem grow_rel {K : PySem.W.Frag} {S : Addr} {its : Its} {Q : Hp → Prop} : ∀ {vs ws : List V} {ds es : List PyData} {acc : List PyData} {av : List V} {F H : Hp}, DnL K F vs ds → DnL K F ws es → ds.any isEnt = false → DnL K F av acc → H S = some (.lst av) →
    Rel K F H ((some (.ref S), dL acc) :: its) → (∀ F' H', Sub F F' → Rel K F' H' ((some (.ref S), dL (acc ++ zipD ds es)) :: its) → Q H') → Grow S (vs.zip ws) av H Q
  | [], _, _, _, acc, _, F, H, .nil, _, _, _, _, r, k => by
    refine k F H (.refl _) ?_
    simpa [zipD] using r
  | _ :: _, [], _, _, acc, _, F, H, _, .nil, _, _, _, r, k => by
    refine k F H (.refl _) ?_
    simpa [zipD] using r
  | v :: vs, w :: ws, d :: ds, e :: es, acc, av, F, H, .cons h1 l1, .cons h2 l2, ne, la, hS, r, k => by
    intro T hT
    obtain ⟨F1, s1, dn, r1⟩ := pairNew r hT (.cons h1 (.cons h2 .nil)) (noEnt ne List.mem_cons_self)
    have nT : S ≠ T := fun z => by rw [z, hT] at hS; cases hS
    have hS1 : upd H T (.tup [v, w]) S = some (.lst av) := (upd_ne nT).trans hS
    have r2 : Rel K F1 (upd H T (.tup [v, w])) ([(some (.ref T), O.dat (.tuple [d, e]))] ++ ((some (.ref S), dL acc) :: its)) := r1.cons_dat dn
    obtain ⟨vs1, ha, hl1, hf, mu⟩ := Rel.mutate (i := 0) (p := []) (k := .lst) (os := acc.map O.dat) (a := S) r2 rfl rfl rfl
    have ev : vs1 = av := by
      rw [hS1] at ha
      exact (HO.lst.inj (Option.some.inj ha)).symm
    subst ev
    have r3 := mu [] [] .lst (vs1 ++ [.ref T]) (acc.map O.dat ++ [O.dat (.tuple [d, e])]) (by simp [hl1]) trivial (by
      rw [zip_app hl1]
      simp)
    refine grow_rel (its := its) (acc := acc ++ [PyData.tuple [d, e]]) (l1.mono s1) (l2.mono s1) (by
      have z := ne
      rw [List.any_cons, Bool.or_eq_false_iff] at z
      exact z.2) ((la.mono s1).append (.cons dn .nil)) upd_same ?_ fun F' H' s' r' => k F' H' (s1.trans s') ?_
    · have z : acc.map O.dat ++ [O.dat (.tuple [d, e])] = (acc ++ [PyData.tuple [d, e]]).map O.dat := by simp
      rw [z] at r3
      exact r3
    · have z : zipD (d :: ds) (e :: es) = PyData.tuple [d, e] :: zipD ds es := rfl
      rw [z]
      simpa using r'
/-- list(zip(e, e2)): lists -/
def tLzip (K : PySem.W.Frag) (ta : TA) : TE := fun sg H Q => ta sg H fun vs H1 => ∃ a b xs ys, vs = [.ref a, .ref b] ∧ SqL K H1 a xs ∧ SqL K H1 b ys ∧ xs.length ≤ sizeLine ∧ ∀ S, H1 S = none → Grow S (xs.zip ys) [] (upd H1 S (.lst [])) fun H' => Q (.ref S) H'
theorem pe_lzip {e e2 : Expr} {ta : TA} {p p2 q pos : Pos} (hc : X.calm = true) (hg : Gl X "list") (hm : X.mg "list" = none) (hgz : Gl X "zip") (hmz : X.mg "zip" = none) (ha : PA X [e, e2] ta)
    (hs : starEach [e, e2] X.env = (false, eval e X.env) :: starEach [e2] X.env) (hpl : (backTo q (starEach [e2] X.env)).any (·.1) = false) :
    PE X (.Call (.Name "list" p) [.Call (.Name "zip" p2) [e, e2] [] q] [] pos) (tLzip X.K ta) := by
  refine ⟨fun pins s sg H Q I h => ?_⟩
  refine Call_ (ld_blt I hg hm PyProof.Rows.boot_list ?_)
  refine PyProof.Rows.callWith_type1 (PyProof.Rows.args_cons ?_ rfl) rfl rfl
  refine Call_ (ld_blt I hgz hmz PyProof.Rows.boot_zip (PyProof.Rows.callWith_type1 (thn (ha.run q pins s sg H _ I h) fun us s1 ⟨vs, H1, I1, r1, q1⟩ => ?_) hs hpl))
  obtain ⟨a, b, xs, ys, ex, hqx, hqy, hz, q1⟩ := q1
  subst ex
  cases r1 with
  | cons r rr =>
    cases rr with
    | cons r' rr =>
      cases rr
      cases r
      cases r'
      obtain ⟨its, rv, p1, _⟩ := I1.list hqx
      obtain ⟨its2, rv2, p2, _⟩ := I1.list hqy
      refine call_zip_2 p1.isList p2.isList fun h' hz' hTI hTO h1 h2 hsz hk => ?_
      have I2 : Inv X pins sg H1 { s1 with heap := h' } := I1.kept (t' := s1.toks) hk
      refine PyProof.Rows.args_nil ?_
      obtain ⟨oa, eoa, _⟩ := id p1.isList
      obtain ⟨ob, eob, _⟩ := id p2.isList
      refine call_list_zip (ia := its.toArray) (ib := its2.toArray) hc I2 hz' (PySem.W.ktu_apart s1.heap.objs.size a b p1.lt p2.lt) ⟨⟨hTI, h1, h2, ?_, ?_⟩, ⟨_, _, hTO⟩, .inl hz'⟩ (fun c hcm => ?_) (by simpa using rv) (by simpa using rv2) hz q1
      · exact p1.isList.at fun o w => hk _ o w
      · exact p2.isList.at fun o w => hk _ o w
      · have e' : c = s1.heap.objs.size + 4 ∨ c = s1.heap.objs.size + 2 ∨ c = s1.heap.objs.size + 3 ∨ c = s1.heap.objs.size ∨ c = s1.heap.objs.size + 1 := by simpa using hcm
        have hle : s1.heap.objs.size ≤ c := by
          rcases e' with z | z | z | z | z
          · rw [z]; exact Nat.le_add_right _ _
          · rw [z]; exact Nat.le_add_right _ _
          · rw [z]; exact Nat.le_add_right _ _
          · rw [z]; exact Nat.le_refl _
          · rw [z]; exact Nat.le_add_right _ _
        exact I1.fpOk hle (I1.hok.fresh hle)
theorem vs_lzip {e e2 : Expr} {c c2 : CE} {p p2 q pos : Pos} (hc : X.calm = true) (hg : Gl X "list") (hm : X.mg "list" = none) (hgz : Gl X "zip") (hmz : X.mg "zip" = none) (ns : NS X e) (ns2 : NS X e2) (he : PE X e (tE X.K G c)) (he2 : PE X e2 (tE X.K G c2)) :
    PE X (.Call (.Name "list" p) [.Call (.Name "zip" p2) [e, e2] [] q] [] pos) (tE X.K G (.lzip c c2)) := by
  have e2' : starEach [e2] X.env = [(false, eval e2 X.env)] := ns2 []
  refine PE.weak (pe_lzip hc hg hm hgz hmz (pa_cons he (pa_cons he2 pa_nil e2') (ns [e2])) (ns [e2]) (by rw [e2']; rfl)) fun sg H Q ⟨ρ, T, F, hl, r, ee⟩ => ?_
  unfold ev at ee
  refine useD hl r ee fun d ρ1 v F1 H1 k s pp l q dn => ?_
  refine useD (by rw [l]; exact hl) q k fun d2 ρ2 v2 F2 H2 k2 s2 p2 l2 q2 dn2 => ?_
  split at k2
  · rename_i ds es
    obtain ⟨hz, hne, k2⟩ := k2
    cases dn with
    | lst hh ll =>
      cases dn2 with
      | lst hh2 ll2 =>
        refine ⟨_, _, _, _, rfl, SqL.of (q2.sub _ _ (s2 _ _ hh)), SqL.of (q2.sub _ _ hh2), by rw [ll.length]; exact hz, fun S hS => ?_⟩
        have r0 : Rel X.K F2 (upd H2 S (.lst [])) ((some (.ref S), dL []) :: (sg.zip ρ2 ++ T)) := Rel.node (k := .lst) (vs := []) (os := []) rfl trivial q2 hS
        refine grow_rel (its := sg.zip ρ2 ++ T) (acc := []) (ll.mono s2) ll2 hne .nil upd_same r0 fun F' H' s' r' => ?_
        exact k2 _ F' H' ((s.trans s2).trans s') (fun z => nomatch z) (l2.trans l) r'
  · exact k2.elim
/-! ### range(a, b, -1) -/
theorem SrcOk.rangeDn {K : PySem.W.Frag} {sg0 : L2.St} {F0 : Hp} {lo hi : Int} {vi : Option Nat} : SrcOk K sg0 F0 (Itc hi (-1) (hi - lo).toNat) (rangeDn hi lo) (fun _ => True) vi where
  go := fun n sg ρ T F H hn s r c v => by simpa [VS.rangeDn, Itc] using hn
  stop := fun n sg ρ T F H hn s r c v => by simpa [VS.rangeDn, Itc] using hn
  yld := fun n sg ρ T F H x H' hn s r c v y => by
    obtain ⟨e1, e2⟩ := y
    subst e1 e2
    have z : n < (hi - lo).toNat := by simpa [VS.rangeDn] using hn
    exact ⟨F, .int (hi - (n : Int)), by simp [VS.rangeDn, z], .refl _, by
      have e : hi + (n : Int) * -1 = hi - (n : Int) := by omega
      rw [e]
      exact .int _, r⟩
theorem vs_rng3 {tg e e2 e3 : Expr} {c c2 : CE} {p pos : Pos} (hg : Gl X "range") (hm : X.mg "range" = none) (ns : NS X e) (ns2 : NS X e2) (ns3 : NS X e3) (he : PE X e (tE X.K G c)) (he2 : PE X e2 (tE X.K G c2)) (he3 : PE X e3 (tE X.K G (.neg (.int 1)))) :
    PI X tg (.Call (.Name "range" p) [e, e2, e3] [] pos) (tI X.K G (.rng3 c c2)) := by
  have e3' : starEach [e3] X.env = [(false, eval e3 X.env)] := ns3 []
  have e2' : starEach [e2, e3] X.env = [(false, eval e2 X.env), (false, eval e3 X.env)] := by rw [ns2 [e3], e3']
  refine PI.weak (pi_range3 hg hm (pa_cons he (pa_cons he2 (pa_cons he3 pa_nil e3') (ns2 [e3])) (ns [e2, e3])) (ns [e2, e3]) (by rw [e2']; rfl)) fun sg H R ⟨ρ, T, F, hl, r, ee⟩ => ?_
  unfold ev at ee
  refine useD hl r ee fun d ρ1 v F1 H1 k s pp l q dn => ?_
  refine useD (by rw [l]; exact hl) q k fun d2 ρ2 v2 F2 H2 k2 s2 p2 l2 q2 dn2 => ?_
  split at k2
  · rename_i i j
    cases dn
    cases dn2
    refine useD (c := .neg (.int 1)) (Kc := fun d ρ => d = .int (-1) ∧ ρ = ρ2) (by rw [l2, l]; exact hl) q2 (by unfold ev ev; exact ⟨rfl, rfl⟩) fun d3 ρ3 v3 F3 H3 k3 s3 p3 l3 q3 dn3 => ?_
    obtain ⟨rfl, rfl⟩ := k3
    cases dn3
    exact ⟨_, _, _, _, rfl, RgC.neg k2.1 k2.2.1 k2.2.2.1 k2.2.2.2.1, k2.2.2.2.2 _ F3 H3 ((s.trans s2).trans s3) (l2.trans l) q3 SrcOk.rangeDn⟩
  · exact k2.elim
/-! ### dicts: get, in -/
theorem keysD_kD (ks : List Key) : keysD (ks.map kD) = some ks := by
  induction ks with
  | nil => rfl
  | cons k ks ih =>
    have e : keyD (kD k) = some k := by cases k <;> rfl
    show (match keyD (kD k), keysD (ks.map kD) with | some k, some ks => some (k :: ks) | _, _ => none) = _
    rw [e, ih]
theorem keysT_kD2 : ∀ {ks ls : List (List Key)}, keysT (ks.map kD2) = some ls → ls = ks
  | [], ls, h => by cases h; rfl
  | k :: ks, ls, h => by
    have h : (match keyT (kD2 k), keysT (ks.map kD2) with | some k, some ks => some (k :: ks) | _, _ => none) = some ls := h
    cases e1 : keyT (kD2 k) with
    | none => rw [e1] at h; cases h
    | some k' =>
      cases e2 : keysT (ks.map kD2) with
      | none => rw [e1, e2] at h; cases h
      | some ks' =>
        rw [e1, e2] at h
        cases h
        have e1 : (if (k.map kD).isEmpty = true then none else keysD (k.map kD)) = some k' := e1
        by_cases c : (k.map kD).isEmpty = true
        · rw [if_pos c] at e1; cases e1
        · rw [if_neg c, keysD_kD] at e1
          cases e1
          rw [keysT_kD2 e2]
/-- a dict that is data -/
theorem Dn.dictOf {K : PySem.W.Frag} {F : Hp} {v : V} {kvs : List (PyData × PyData)} {kd : NK} (h : Dn K F v (.dict kvs)) (e : kdOf kvs = some kd) :
    ∃ a vs, v = .ref a ∧ F a = some (hoOf kd vs) ∧ DnL K F vs (kvs.map (·.2)) ∧ ((∃ ks, kd = .dk ks ∧ ks.length = vs.length) ∨ ∃ ks, kd = .dt ks ∧ ks.length = vs.length) := by
  unfold kdOf at e
  split at e
  · cases e
  · rename_i ne
    cases h with
    | scr hq l => cases e
    | @dk a ks vs ds ha hl l =>
      have lk := l.length
      have e1 : ((ks.map kD).zip ds).map (·.1) = ks.map kD := by rw [List.map_fst_zip]; simp; omega
      have e2 : ((ks.map kD).zip ds).map (·.2) = ds := by rw [List.map_snd_zip]; simp; omega
      rw [e1, keysD_kD] at e
      cases e
      exact ⟨a, vs, rfl, ha, by rw [e2]; exact l, .inl ⟨ks, rfl, hl⟩⟩
    | @dt a ks vs ds ha hl l =>
      have lk := l.length
      have e1 : ((ks.map kD2).zip ds).map (·.1) = ks.map kD2 := by rw [List.map_fst_zip]; simp; omega
      have e2 : ((ks.map kD2).zip ds).map (·.2) = ds := by rw [List.map_snd_zip]; simp; omega
      rw [e1] at e
      have n1 : keysD (ks.map kD2) = none := by
        cases ks with
        | nil => exact absurd rfl ne
        | cons k ks => rfl
      rw [n1] at e
      cases q : keysT (ks.map kD2) with
      | none => rw [q] at e; cases e
      | some ls =>
        rw [q] at e
        cases e
        obtain rfl := keysT_kD2 q
        exact ⟨a, vs, rfl, ha, by rw [e2]; exact l, .inr ⟨_, rfl, hl⟩⟩
/-- the object behind a dict's place, its children -/
def DkAt (K : PySem.W.Frag) (F H : Hp) (v : V) (kd : NK) (os : List O) : Prop :=
  ∃ a vs, v = .ref a ∧ H a = some (hoOf kd vs) ∧ vs.length = os.length ∧ (∀ (n : Nat) (d : PyData), os[n]? = some (O.dat d) → ∃ u, vs[n]? = some u ∧ Dn K F u d) ∧ ((∃ ks, kd = .dk ks ∧ ks.length = vs.length) ∨ ∃ ks, kd = .dt ks ∧ ks.length = vs.length)
theorem map_some_get {vs : List V} {n : Nat} {u : V} (h : (vs.map some)[n]? = some (some u)) : vs[n]? = some u := by
  rw [List.getElem?_map] at h
  cases q : vs[n]? with
  | none => rw [q] at h; cases h
  | some w => rw [q] at h; cases h; rfl
theorem map_dat_get {ds : List PyData} {n : Nat} {d : PyData} (h : (ds.map O.dat)[n]? = some (O.dat d)) : ds[n]? = some d := by
  rw [List.getElem?_map] at h
  cases q : ds[n]? with
  | none => rw [q] at h; cases h
  | some w => rw [q] at h; cases h; rfl
theorem dcvO_own {K : PySem.W.Frag} {F H : Hp} {A : List Addr} {v : V} {o : O} {Q : NK → List O → Prop} (s : Sub F H) (h : Own K F H A (some v) o) (e : dcvO o Q) : ∃ kd os, DkAt K F H v kd os ∧ Q kd os ∧ ∀ Q' : NK → List O → Prop, dcvO o Q' → Q' kd os := by
  unfold dcvO at e
  split at e
  · rename_i ks os
    cases h with
    | @nd a _ vs _ A' ha hl hf l =>
      refine ⟨.dk ks, os, ⟨a, vs, rfl, ha, hl, fun n d hn => ?_, .inl ⟨ks, rfl, by rw [hl]; exact hf.1⟩⟩, e, fun Q' q => q⟩
      obtain ⟨B, C, x, ex, _, hx, _⟩ := OwnL.hole l hn
      cases hx with
      | @dat u _ dn => exact ⟨u, map_some_get ex, dn⟩
  · rename_i ks os
    cases h with
    | @nd a _ vs _ A' ha hl hf l =>
      refine ⟨.dt ks, os, ⟨a, vs, rfl, ha, hl, fun n d hn => ?_, .inr ⟨ks, rfl, by rw [hl]; exact hf.1⟩⟩, e, fun Q' q => q⟩
      obtain ⟨B, C, x, ex, _, hx, _⟩ := OwnL.hole l hn
      cases hx with
      | @dat u _ dn => exact ⟨u, map_some_get ex, dn⟩
  · rename_i kvs
    obtain ⟨kd, ek, e⟩ := optQ_some e
    cases h with
    | dat dn =>
      obtain ⟨a, vs, ev, ha, l, hk⟩ := dn.dictOf ek
      subst ev
      refine ⟨kd, _, ⟨a, vs, rfl, s _ _ ha, by rw [List.length_map]; exact l.length, fun n d hn => ?_, hk⟩, e, fun Q' q => ?_⟩
      · exact l.get (map_dat_get hn)
      · have q2 : optQ (kdOf kvs) fun kd => Q' kd ((kvs.map (·.2)).map O.dat) := q
        rw [ek] at q2
        exact q2
  · exact e.elim
theorem dcvR_held {K : PySem.W.Frag} {F H : Hp} {sg : L2.St} {ρ : Env} {T : Its} {v : V} {r : R} {Q : NK → List O → Prop} (h : Held K F H sg v r) (q : Rel K F H (sg.zip ρ ++ T)) (e : dcvR r ρ Q) : ∃ kd os, DkAt K F H v kd os ∧ Q kd os ∧ ∀ Q' : NK → List O → Prop, dcvR r ρ Q' → Q' kd os := by
  unfold dcvR at e
  split at e
  · rename_i d
    obtain ⟨d', ed, dn⟩ := h
    cases ed
    obtain ⟨kd, os, a, b, c⟩ := dcvO_own q.sub (.dat (H := H) dn) e
    exact ⟨kd, os, a, b, fun Q' z => c Q' z⟩
  · rename_i i p
    obtain ⟨o, eo, e⟩ := optQ_some e
    obtain ⟨v0, ev, dd⟩ := h
    obtain ⟨o0, e0, g0⟩ := getS_some eo
    obtain ⟨u, A, d1, hown⟩ := q.at (its_get (T := T) ev e0) g0
    obtain rfl := desc_inj dd d1
    obtain ⟨kd, os, a, b, c⟩ := dcvO_own q.sub hown e
    refine ⟨kd, os, a, b, fun Q' z => c Q' ?_⟩
    have z2 : optQ (getS ρ i p) fun o => dcvO o Q' := z
    rw [eo] at z2
    exact z2
  · exact e.elim
theorem DkAt.isD {K : PySem.W.Frag} {F H : Hp} {v : V} {kd : NK} {os : List O} (h : DkAt K F H v kd os) : ∃ a, v = .ref a ∧ IsD H a := by
  obtain ⟨a, vs, e, ha, _, _, hk⟩ := h
  rcases hk with ⟨ks, rfl, _⟩ | ⟨ks, rfl, _⟩
  · exact ⟨a, e, .inl ⟨_, .inl ha⟩⟩
  · exact ⟨a, e, .inr ⟨_, .inl ha⟩⟩
theorem valV_none {κ : Type} [DecidableEq κ] {k : κ} : ∀ {ks : List κ} {vs : List V}, keyPos k ks = none → valV (ks.zip vs) k = none
  | [], _, _ => rfl
  | x :: ks, [], _ => rfl
  | x :: ks, v :: vs, e => by
    unfold keyPos at e
    split at e
    · cases e
    · rename_i ex
      cases e2 : keyPos k ks with
      | some m => rw [e2] at e; cases e
      | none => rw [List.zip_cons_cons, valV_neg ex, valV_none e2]
/-- what a key finds -/
theorem DkAt.get {K : PySem.W.Frag} {F H : Hp} {v y : V} {kd : NK} {os : List O} {k : PyData} {n : Option Nat} (s : Sub F H) (h : DkAt K F H v kd os) (hy : Dn K F y k) (e : dgetK kd k = some n) :
    ∃ (a : Addr) (vs : List V), v = .ref a ∧ vs.length = os.length ∧ (∀ (n : Nat) (d : PyData), os[n]? = some (O.dat d) → ∃ u, vs[n]? = some u ∧ Dn K F u d) ∧ (DGet H a y (n.bind fun n => vs[n]?) ∧ (∀ m, n = some m → m < vs.length) ∨ n = none ∧ y = .non ∧ ∃ kvs, Rd H a (.dK kvs)) := by
  have bound : ∀ {κ : Type} [DecidableEq κ] {k : κ} {ks : List κ} {n : Nat}, keyPos k ks = some n → n < ks.length := by
    intro κ _ k ks
    induction ks with
    | nil => intro n e; cases e
    | cons x ks ih =>
      intro n e
      unfold keyPos at e
      split at e
      · cases e; simp
      · cases e2 : keyPos k ks with
        | none => rw [e2] at e; cases e
        | some m =>
          rw [e2] at e
          cases e
          have := ih e2
          simp
          omega
  obtain ⟨a, vs, ev, ha, hl, hc, hk⟩ := h
  refine ⟨a, vs, ev, hl, hc, ?_⟩
  rcases hk with ⟨ks, rfl, lk⟩ | ⟨ks, rfl, lk⟩
  · unfold dgetK at e
    cases ek : keyD k with
    | some key =>
      simp only [ek] at e
      cases e
      refine .inl ⟨?_, fun m hm => by rw [← lk]; exact bound hm⟩
      rw [keyD_V hy ek]
      have g := DGet.k (H := H) (a := a) (k := key) ha
      cases ep : keyPos key ks with
      | none => rw [valV_none ep] at g; exact g
      | some m => rw [valV_keyPos ep lk] at g; exact g
    | none =>
      simp only [ek] at e
      split at e
      · cases e
        cases hy
        exact .inr ⟨rfl, rfl, _, .inl ha⟩
      · cases e
  · unfold dgetK at e
    cases ek : keyT k with
    | some key =>
      simp only [ek] at e
      cases e
      refine .inl ⟨?_, fun m hm => by rw [← lk]; exact bound hm⟩
      obtain ⟨b, rfl, hb⟩ := keyT_V hy ek
      have g := DGet.t (H := H) (a := a) (b := b) (k := key) ha (s _ _ hb)
      cases ep : keyPos key ks with
      | none => rw [valV_none ep] at g; exact g
      | some m => rw [valV_keyPos ep lk] at g; exact g
    | none => simp only [ek] at e; cases e
section
variable {pins : List (Addr × Obj)} {sg : L2.St} {H : Hp} {s : Shared} {a : Addr} {kvs : List (Key × V)} {A : Around} {E : Value → Shared → Prop} {d : V} {r : Value}
theorem d_get1n {Q : Value → Shared → Prop} (I : Inv X pins sg H s) (e : Rd H a (.dK kvs)) (h : ∀ s', Inv X pins sg H s' → Q .none s') :
    wpAny (model X.prog X.w) A (call (.builtin "dict.get") [.ref a, .none]) Q E s := by
  obtain ⟨_, hd, vs, _, dd⟩ := dk_rd I.hok e
  obtain ⟨f, hm, hf⟩ := none_map dd
  refine call_meetsIn PySem.F.slot_dict_get dd.typeIs PySem.F.entry_dict_get (PySem.F.args_dict_get_2 _ _) (meets_dict_get (noneKind X.prog X.w) a (k := none) rfl hd) ⟨f, hm, ?_⟩
  rw [hf]
  exact h _ (I.tok _)
theorem d_get2n {Q : Value → Shared → Prop} (I : Inv X pins sg H s) (e : Rd H a (.dK kvs)) (h : ∀ s', Inv X pins sg H s' → Q r s') :
    wpAny (model X.prog X.w) A (call (.builtin "dict.get") [.ref a, .none, r]) Q E s := by
  obtain ⟨_, hd, vs, _, dd⟩ := dk_rd I.hok e
  obtain ⟨f, hm, hf⟩ := none_map dd
  refine call_meetsIn PySem.F.slot_dict_get dd.typeIs PySem.F.entry_dict_get (PySem.F.args_dict_get_3 _ _ _) (meets_dict_get_default (noneKind X.prog X.w) a (k := none) rfl hd r) ⟨f, hm, ?_⟩
  rw [hf]
  exact h _ (I.tok _)
end
def tGet1 (td ty : TE) : TE := fun sg H Q => td sg H fun x H1 => ∃ a, x = .ref a ∧ IsD H1 a ∧ ty sg H1 fun y H2 => (∃ o, DGet H2 a y o ∧ Q (o.getD .non) H2) ∨ ∃ kvs, y = .non ∧ Rd H2 a (.dK kvs) ∧ Q .non H2
def tGet2 (td ty tx : TE) : TE := fun sg H Q => td sg H fun x H1 => ∃ a, x = .ref a ∧ IsD H1 a ∧ ty sg H1 fun y H2 => tx sg H2 fun z H3 => (∃ o, DGet H3 a y o ∧ Q (o.getD z) H3) ∨ ∃ kvs, y = .non ∧ Rd H3 a (.dK kvs) ∧ Q z H3
section
variable {o e f : Expr} {apos cpos : Pos} {td ty tx : TE}
theorem pe_get1n (hu : X.A.units + 1 < cLine) (ho : PE X o td) (he : PE X e ty) (m : M1 X o "get" apos e cpos) : PE X (.Call (.Attribute o "get" apos) [e] [] cpos) (tGet1 td ty) := by
  refine ⟨fun pins s sg H Q I h => ?_⟩
  refine wpAny_Call_method m.base m.few m.line PySem.F.plainAttrs_dict PySem.F.slot_dict_get PySem.F.type_dict_get (thn (ho.run pins s sg H _ I h) fun u s1 ⟨x, H1, I1, rx, a, ex, d, q1⟩ => ?_)
  subst ex
  obtain rfl : u = Value.ref a := rx
  obtain ⟨t1, t2, _⟩ := isD_at I1 d
  refine ⟨t1, t2, ?_⟩
  rw [m.trees]
  refine Calls.callWith_builtin rfl (Calls.evalArgs_plain (Calls.spliced_cons (thn (he.run pins s1 sg H1 _ I1 q1) fun iv s2 ⟨y, H2, I2, ry, q2⟩ => Calls.spliced_nil ?_)))
  rcases q2 with ⟨ov, g, q2⟩ | ⟨kvs, ey, g, q2⟩
  · exact d_get1 hu I2 g ry fun w' s3 I3 rw' => ⟨_, H2, I3, rw', q2⟩
  · subst ey
    obtain rfl : iv = Value.none := ry
    exact d_get1n I2 g fun s3 I3 => ⟨.non, H2, I3, rfl, q2⟩
theorem pe_get2n (hu : X.A.units + 1 < cLine) (ho : PE X o td) (he : PE X e ty) (hf : PE X f tx) (m : M2 X o "get" apos e f cpos) : PE X (.Call (.Attribute o "get" apos) [e, f] [] cpos) (tGet2 td ty tx) := by
  refine ⟨fun pins s sg H Q I h => ?_⟩
  refine wpAny_Call_method m.base m.few m.line PySem.F.plainAttrs_dict PySem.F.slot_dict_get PySem.F.type_dict_get (thn (ho.run pins s sg H _ I h) fun u s1 ⟨x, H1, I1, rx, a, ex, d, q1⟩ => ?_)
  subst ex
  obtain rfl : u = Value.ref a := rx
  obtain ⟨t1, t2, _⟩ := isD_at I1 d
  refine ⟨t1, t2, ?_⟩
  rw [m.trees]
  refine Calls.callWith_builtin rfl (Calls.evalArgs_plain (Calls.spliced_cons (thn (he.run pins s1 sg H1 _ I1 q1) fun iv s2 ⟨y, H2, I2, ry, q2⟩ => Calls.spliced_cons (thn (hf.run pins s2 sg H2 _ I2 q2) fun fv s3 ⟨z, H3, I3, rz, q3⟩ => Calls.spliced_nil ?_))))
  rcases q3 with ⟨ov, g, q3⟩ | ⟨kvs, ey, g, q3⟩
  · exact d_get2 hu I3 g ry rz fun w' s4 I4 rw' => ⟨_, H3, I4, rw', q3⟩
  · subst ey
    obtain rfl : iv = Value.none := ry
    exact d_get2n I3 g fun s4 I4 => ⟨_, H3, I4, rz, q3⟩
end
theorem vs_get1 (hu : X.A.units + 1 < cLine) {o e : Expr} {a k : CE} {apos pos : Pos} (ho : PE X o (tE X.K G a)) (he : PE X e (tE X.K G k)) (ns : NS X e) (hb : ∀ i p q, o ≠ .Call (.Name i p) [] [] q) (hline : (apos.endLine == pos.line) = true) :
    PE X (.Call (.Attribute o "get" apos) [e] [] pos) (tE X.K G (.get1 a k)) := by
  have st : starEach [e] X.env = [(false, eval e X.env)] := ns []
  refine PE.weak (pe_get1n hu ho he ⟨baseOk hb, by rw [st]; rfl, hline, by rw [st]; rfl⟩) fun sg H Q ⟨ρ, T, F, hl, r, ee⟩ => ?_
  unfold ev at ee
  refine useH hl r ee fun ra ρ1 v F1 H1 k1 s p l q hd => ?_
  obtain ⟨kt, k1⟩ := k1
  obtain ⟨_, _, at1, _, _⟩ := dcvR_held hd q kt
  obtain ⟨a1, ea, isd⟩ := at1.isD
  refine ⟨a1, ea, isd, ?_⟩
  refine useD (by rw [l]; exact hl) q k1 fun kd ρ2 v2 F2 H2 k2 s2 p2 l2 q2 dn2 => ?_
  obtain ⟨stb, k2⟩ := k2
  have hd2 := hd.keep (H' := H2) s2 (stb.imp _root_.id p2)
  obtain ⟨nk, os, at2, k3, _⟩ := dcvR_held hd2 q2 k2
  obtain ⟨n, en, k3⟩ := optQ_some k3
  obtain ⟨a2, vs, ev2, hl2, hc, g⟩ := at2.get q2.sub dn2 en
  rw [ea] at ev2
  cases ev2
  rcases g with ⟨g, hlt⟩ | ⟨rfl, ey, kvs, g⟩
  · refine .inl ⟨_, g, ?_⟩
    cases n with
    | none => exact k3 _ F2 H2 (s.trans s2) (fun z => nomatch z) (l2.trans l) (q2.cons_dat .non)
    | some n =>
      obtain ⟨c, ec, k3⟩ := optQ_some k3
      split at k3
      · obtain ⟨u, eu, dn⟩ := hc _ _ ec
        show Q ((vs[n]?).getD .non) H2
        rw [eu]
        exact k3 _ F2 H2 (s.trans s2) (fun z => nomatch z) (l2.trans l) (q2.cons_dat dn)
      · exact k3.elim
  · exact .inr ⟨kvs, ey, g, k3 _ F2 H2 (s.trans s2) (fun z => nomatch z) (l2.trans l) (q2.cons_dat .non)⟩
theorem vs_get2 (hu : X.A.units + 1 < cLine) {o e f : Expr} {a k c : CE} {apos pos : Pos} (ho : PE X o (tE X.K G a)) (he : PE X e (tE X.K G k)) (hf : PE X f (tE X.K G c)) (ns : NS X e) (ns2 : NS X f) (hb : ∀ i p q, o ≠ .Call (.Name i p) [] [] q) (hline : (apos.endLine == pos.line) = true) :
    PE X (.Call (.Attribute o "get" apos) [e, f] [] pos) (tE X.K G (.get2 a k c)) := by
  have st1 : starEach [f] X.env = [(false, eval f X.env)] := ns2 []
  have st : starEach [e, f] X.env = [(false, eval e X.env), (false, eval f X.env)] := by rw [ns [f], st1]
  refine PE.weak (pe_get2n hu ho he hf ⟨baseOk hb, by rw [st]; rfl, hline, by rw [st]; rfl⟩) fun sg H Q ⟨ρ, T, F, hl, r, ee⟩ => ?_
  unfold ev at ee
  refine useH hl r ee fun ra ρ1 v F1 H1 k1 s p l q hd => ?_
  obtain ⟨kt, k1⟩ := k1
  obtain ⟨_, _, at1, _, _⟩ := dcvR_held hd q kt
  obtain ⟨a1, ea, isd⟩ := at1.isD
  refine ⟨a1, ea, isd, ?_⟩
  refine useD (by rw [l]; exact hl) q k1 fun kd ρ2 v2 F2 H2 k2 s2 p2 l2 q2 dn2 => ?_
  refine useD (by rw [l2, l]; exact hl) q2 k2 fun dd ρ3 v3 F3 H3 k3 s3 p3 l3 q3 dn3 => ?_
  obtain ⟨stb, k3⟩ := k3
  have hd2 := hd.keep (H' := H3) (s2.trans s3) (stb.imp _root_.id fun z => (p2 (and_l z)).trans (p3 (and_r z)))
  obtain ⟨nk, os, at2, k4, _⟩ := dcvR_held hd2 q3 k3
  obtain ⟨n, en, k4⟩ := optQ_some k4
  obtain ⟨a2, vs, ev2, hl2, hc, g⟩ := at2.get q3.sub (dn2.mono s3) en
  rw [ea] at ev2
  cases ev2
  have ss := (s.trans s2).trans s3
  have ll := l3.trans (l2.trans l)
  rcases g with ⟨g, hlt⟩ | ⟨rfl, ey, kvs, g⟩
  · refine .inl ⟨_, g, ?_⟩
    cases n with
    | none => exact k4 _ F3 H3 ss (fun z => nomatch z) ll (q3.cons_dat dn3)
    | some n =>
      obtain ⟨c, ec, k4⟩ := optQ_some k4
      split at k4
      · obtain ⟨u, eu, dn⟩ := hc _ _ ec
        show Q ((vs[n]?).getD v3) H3
        rw [eu]
        exact k4 _ F3 H3 ss (fun z => nomatch z) ll (q3.cons_dat dn)
      · exact k4.elim
  · exact .inr ⟨kvs, ey, g, k4 _ F3 H3 ss (fun z => nomatch z) ll (q3.cons_dat dn3)⟩
/-! ### k in d -/
def tIsin (neg : Bool) (ty td : TE) : TE := if neg = true then tDNotInN ty td else tDInN ty td
theorem isin_read {neg : Bool} {k a : CE} {sg : L2.St} {H : Hp} {Q : VK} (h : tE X.K G (.isin neg k a) sg H Q) : tIsin neg (tE X.K G k) (tE X.K G a) sg H Q := by
  obtain ⟨ρ, T, F, hl, r, ee⟩ := h
  unfold ev at ee
  have main : tE X.K G k sg H fun y H1 => tE X.K G a sg H1 fun x H2 => (∃ b o, x = .ref b ∧ DGet H2 b y o ∧ Q (.bl (if neg = true then !o.isSome else o.isSome)) H2) ∨ ∃ b kvs, x = .ref b ∧ y = .non ∧ Rd H2 b (.dK kvs) ∧ Q (.bl neg) H2 := by
    refine useD hl r ee fun kd ρ1 v F1 H1 k1 s p l q dn => ?_
    refine useH (by rw [l]; exact hl) q k1 fun ra ρ2 v2 F2 H2 k2 s2 p2 l2 q2 hd => ?_
    obtain ⟨nk, os, at2, k3, _⟩ := dcvR_held hd q2 k2
    obtain ⟨n, en, k3⟩ := optQ_some k3
    obtain ⟨b, vs, ev2, hl2, hc, g⟩ := at2.get q2.sub (dn.mono s2) en
    have k3 := k3 _ F2 H2 (s.trans s2) (fun z => nomatch z) (l2.trans l) (q2.cons_dat (.bl _))
    rcases g with ⟨g, hlt⟩ | ⟨rfl, ey, kvs, g⟩
    · refine .inl ⟨b, _, ev2, g, ?_⟩
      cases n with
      | none => exact k3
      | some n =>
        have e1 : ((some n).bind fun n => vs[n]?) = some (vs[n]'(hlt n rfl)) := List.getElem?_eq_getElem (hlt n rfl)
        rw [e1]
        exact k3
    · refine .inr ⟨b, kvs, ev2, ey, g, ?_⟩
      cases neg
      · exact k3
      · exact k3
  cases neg
  · exact main
  · exact main
theorem vs_isin (hu : X.A.units + 1 < cLine) {neg : Bool} {op : CmpOp} (ho : op = if neg = true then .NotIn else .In) {e1 e2 : Expr} {k a : CE} {pos : Pos} (hk : PE X e1 (tE X.K G k)) (ha : PE X e2 (tE X.K G a)) (hm : behindInMarks op e2 = false) : PE X (.Compare e1 [op] [e2] pos) (tE X.K G (.isin neg k a)) := by
  subst ho
  cases neg
  · exact PE.weak (pe_cmp (op := .In) (pc_dinN hu hk ha) hm) fun sg H Q h => isin_read h
  · exact PE.weak (pe_cmp (op := .NotIn) (pc_dnotinN hu hk ha) hm) fun sg H Q h => isin_read h
theorem evT_isin {neg : Bool} {k a : CE} {ρ : Env} {Q : Bool → Env → Prop} (h : evT G (.isin neg k a) ρ Q) : ev G (.isin neg k a) ρ fun r ρ' => ∃ t, r = .own (.dat (.bool t)) ∧ Q t ρ' := by
  unfold evT at h
  unfold ev at h ⊢
  exact ev_mono G (fun _ _ => asD_mono fun _ _ => ev_mono G fun _ _ => hold_mono fun _ _ => dcvR_mono fun _ _ => optQ_mono fun _ q => ⟨_, rfl, q⟩) h
theorem vs_isin_test (hu : X.A.units + 1 < cLine) {neg : Bool} {op : CmpOp} (ho : op = if neg = true then .NotIn else .In) {e1 e2 : Expr} {k a : CE} {pos : Pos} (hk : PE X e1 (tE X.K G k)) (ha : PE X e2 (tE X.K G a)) (hm : behindInMarks op e2 = false) : PT X (.Compare e1 [op] [e2] pos) (tT X.K G (.isin neg k a)) := by
  have main : ∀ {sg : L2.St} {H : Hp} {Q : Bool → Hp → Prop}, tT X.K G (.isin neg k a) sg H Q → tIsin neg (tE X.K G k) (tE X.K G a) sg H fun x H' => ∃ b, x = .bl b ∧ Q b H' := by
    intro sg H Q ⟨ρ, T, F, hl, r, e⟩
    refine isin_read (use hl r (evT_isin e) fun ra ρ1 v1 F1 H1 k1 s1 p1 l1 r1 => ?_)
    obtain ⟨k, rfl, q⟩ := k1
    obtain ⟨rfl, r2⟩ := RelR.bool r1
    exact ⟨k, rfl, q F1 H1 s1 p1 l1 r2⟩
  subst ho
  cases neg
  · exact PT.weak (pt_cmp (op := .In) (pc_dinN hu hk ha) hm) fun sg H Q h => main h
  · exact PT.weak (pt_cmp (op := .NotIn) (pc_dnotinN hu hk ha) hm) fun sg H Q h => main h
/-! ### texts with fields -/
/-- a part gives a text -/
def tPart (K : PySem.W.Frag) (G : Gm) (c : CE) : TE := fun sg H Q => ∃ (ρ : Env) (T : Its) (F : Hp), sg.length = ρ.length ∧ Rel K F H (sg.zip ρ ++ T) ∧
  ev G c ρ fun r ρ1 => asD r ρ1 fun d ρ' => fmtD d fun y => ∀ F' H', Sub F F' → ρ'.length = ρ.length → Rel K F' H' (sg.zip ρ' ++ T) → Q (.str y) H'
theorem part_run {e : Expr} {c : CE} {pos : Pos} (he : PE X e (tE X.K G c)) : PE X (.FormattedValue e (-1) none pos) (tPart X.K G c) := by
  refine PE.weak (pe_fmt he) fun sg H Q ⟨ρ, T, F, hl, r, ee⟩ => ?_
  refine useD (Kc := fun d ρ' => fmtD d fun y => ∀ F' H', Sub F F' → ρ'.length = ρ.length → Rel X.K F' H' (sg.zip ρ' ++ T) → Q (.str y) H') hl r ee fun d ρ1 v F1 H1 k s p l q dn => ?_
  unfold fmtD at k
  split at k
  · cases dn
    exact .inl ⟨_, rfl, k.1, k.2 F1 H1 s l q⟩
  · cases dn
    exact .inr ⟨_, rfl, k.1, k.2 F1 H1 s l q⟩
  · exact k.elim
theorem txt_run {x : Str} {e : Expr} (he : PE X e (tE X.K G (.str x))) : PE X e (tPart X.K G (.str x)) := by
  refine PE.weak he fun sg H Q ⟨ρ, T, F, hl, r, ee⟩ => ⟨ρ, T, F, hl, r, ?_⟩
  unfold ev at ee ⊢
  intro v F' H' s pp l q
  obtain ⟨w, ew, dw⟩ := Rel.dat q
  cases ew
  cases dw
  exact ee.2 F' H' s l (Rel.tail q)
inductive PXl (X : Cx) (G : Gm) : List Expr → List CE → Prop
  | nil : PXl X G [] []
  | cons {e : Expr} {c : CE} {es : List Expr} {cs : List CE} (h : PE X e (tPart X.K G c)) (l : PXl X G es cs) : PXl X G (e :: es) (c :: cs)
theorem PXl.pj : ∀ {es : List Expr} {cs : List CE}, PXl X G es cs → PJ X es (cs.map (tPart X.K G))
  | _, _, .nil => .nil
  | _, _, .cons h l => .cons h (PXl.pj l)
theorem tJs_of : ∀ {cs : List CE} {acc : Str} {sg : L2.St} {H F : Hp} {ρ : Env} {T : Its} {Kc : Str → Env → Prop} {Q : Str → Hp → Prop}, sg.length = ρ.length → Rel X.K F H (sg.zip ρ ++ T) → evF G cs acc ρ Kc →
    (∀ out ρ' F' H', Kc out ρ' → Sub F F' → ρ'.length = ρ.length → Rel X.K F' H' (sg.zip ρ' ++ T) → Q out H') → tJs (cs.map (tPart X.K G)) acc sg H Q
  | [], acc, sg, H, F, ρ, T, Kc, Q, hl, r, e, k => by
    unfold evF at e
    exact k acc ρ F H e (.refl _) rfl r
  | c :: cs, acc, sg, H, F, ρ, T, Kc, Q, hl, r, e, k => by
    unfold evF at e
    refine ⟨ρ, T, F, hl, r, ev_mono G (fun r1 ρ1 => asD_mono fun d ρ1 => fmtD_mono fun y z F' H' s l q => ?_) e⟩
    exact ⟨y, rfl, z.1, tJs_of (by rw [l]; exact hl) q z.2 fun out ρ' F2 H2 kk s2 l2 q2 => k out ρ' F2 H2 kk (s.trans s2) (l2.trans l) q2⟩
theorem vs_fst {e1 e2 : Expr} {es : List Expr} {cs : List CE} {pos : Pos} (l : PXl X G (e1 :: e2 :: es) cs) : PE X (.JoinedStr (e1 :: e2 :: es) pos) (tE X.K G (.fst cs)) := by
  refine PE.weak (pe_joined l.pj) fun sg H Q ⟨ρ, T, F, hl, r, ee⟩ => ?_
  unfold ev at ee
  exact tJs_of hl r ee fun out ρ' F' H' kk s l' q => kk (.str out) F' H' s (fun z => nomatch z) l' (q.cons_dat (.str _))
end
end VS

namespace VS
open PySem PySem.Spec PyProof.Rows L2
/-! ## enumerate over a tuple -/
theorem enum_new1 {v : Value} {o : Obj} {Hy : Heap → Prop} (B : Begins v o Hy) :
    Meets (Builtin.«enumerate.__new__» ⟨[.type "enumerate", v], []⟩) (fun _ R st => Hy st.heap ∧
      R (.ok (.ret (.ref (st.heap.push o).objs.size))) { st with heap := (st.heap.push o).push { cls := .type "enumerate", data := .fields #[.none, .bool false, .ref st.heap.objs.size, rawInt 0, .none, .none] } }) :=
  .of_wp fun prog w A R st hh => by
    obtain ⟨hp0, gs, dr, tks, oss⟩ := st
    obtain ⟨hy, hh⟩ := hh
    have hsub := sub_enumerate
    have it1 : ∀ {A' : Around} {E' : Value → Shared → Prop} {Q' : Value → Shared → Prop}, Q' (.ref hp0.objs.size) ⟨hp0.push o, gs, dr, tks, oss⟩ → wpAny (model prog w) A' (pyIter v) Q' E' ⟨hp0, gs, dr, tks, oss⟩ :=
      fun q => B.iter prog w _ _ ⟨hp0, gs, dr, tks, oss⟩ _ hy q
    wp_walk using it1
    refine wpAny_stack_any fun stk => wpAny_pure ?_
    split
    · rename_i cl _ _ _ _ _
      cases (cl == Value.type "enumerate")
      · wp_walk using it1
        exact ⟨_, rfl, hh⟩
      · wp_walk using it1
        exact ⟨_, rfl, hh⟩
    · wp_walk using it1
      exact ⟨_, rfl, hh⟩
section
variable {prog : Program} {w : World} {A : Around} {E : Value → Shared → Prop} {st : Shared}
theorem enum_call1 {v : Value} {o : Obj} {Hy : Heap → Prop} {Q : Value → Shared → Prop} (B : Begins v o Hy) (hy : Hy st.heap)
    (k : ∀ h', IsEnum h' (st.heap.objs.size + 1) st.heap.objs.size 0 .none → h'.get? st.heap.objs.size = some o → (∀ b u, st.heap.get? b = some u → h'.get? b = some u) → Q (.ref (st.heap.objs.size + 1)) { st with heap := h' }) :
    wpAny (model prog w) A (call (.type "enumerate") [v]) Q E st := by
  refine callType_new PySem.F.called_enumerate (by decide) (PySem.F.typeCall_enumerate_1 _) (PySem.F.newCall_enumerate_1 _) (fun u => PySem.F.args_object_init_2 u _) PySem.F.entry_enumerate_new (enum_new1 B) ⟨hy, ?_⟩
  have sz : (st.heap.push o).objs.size = st.heap.objs.size + 1 := Heap.size_push ..
  change _ ∧ _
  rw [sz]
  have en : IsEnum ((st.heap.push o).push { cls := .type "enumerate", data := .fields #[.none, .bool false, .ref st.heap.objs.size, rawInt 0, .none, .none] }) (st.heap.objs.size + 1) st.heap.objs.size 0 .none := by
    have z := Heap.get?_push_size (st.heap.push o) (o := { cls := .type "enumerate", data := .fields #[.none, .bool false, .ref st.heap.objs.size, rawInt 0, .none, .none] }) rfl
    rw [sz] at z
    exact z
  exact ⟨⟨_, en, rfl⟩, k _ en (Heap.get?_push_of_some _ (Heap.get?_push_size _ B.free)) fun b u x => Heap.get?_push_of_some _ (Heap.get?_push_of_some _ x)⟩
end
def IteT (K : PySem.W.Frag) (a : Addr) : It :=
  ⟨fun i H => ∃ (xs : List V) (x : V), SqT K H a xs ∧ xs[i]? = some x, fun i H v H' => ∃ T x, v = .ref T ∧ H T = none ∧ H' = upd H T (.tup [.int (i : Nat), x]) ∧ ∀ xs, SqT K H a xs → xs[i]? = some x, fun i H => ∃ xs : List V, SqT K H a xs ∧ xs.length ≤ i⟩
theorem turn_enuT {P : Program} {w : World} {K : PySem.W.Frag} {elts : List Expr} {kk : Nat} {tpos : Pos} (a e it : Addr) :
    Turn P w K (.Tuple elts kk tpos) (IteT K a) [e, it] e (fun i h => (∃ old, IsEnum h e it ((i : Nat) : Int) old) ∧ h.IsTupleIter it a i ∧ e ≠ it ∧ a ≠ it ∧ a ≠ e) where
  mem := by simp
  obj := fun i h st b hb => by
    obtain ⟨⟨old, he⟩, ⟨o, ho, hc, hd⟩, _⟩ := st
    rcases (show b = e ∨ b = it by simpa using hb) with z | z
    · rw [z]; exact ⟨_, he, fun v q => nomatch q⟩
    · rw [z]; exact ⟨o, ho, fun v q => by rw [hd] at q; cases q⟩
  keep := fun i h h' st k => ⟨let ⟨old, he⟩ := st.1; ⟨old, k e (by simp) _ he⟩, st.2.1.at fun o q => k it (by simp) o q, st.2.2⟩
  item := by
    intro X eP ew eK hc i pn s sg H E I fpo st tgo
    subst eP ew eK
    obtain ⟨⟨old, he⟩, hiter, hne, hai, hae⟩ := st
    obtain ⟨xs, x, hq, hx⟩ := tgo
    obtain ⟨itms, rvs, p, hsize⟩ := I.tuple hq
    obtain ⟨u, hu, ru⟩ := rvs.get hx
    have elt : e < s.heap.objs.size := Heap.lt_size he
    have ilt : it < s.heap.objs.size := by obtain ⟨_, q, _⟩ := hiter; exact Heap.lt_size q
    have il : i < itms.toArray.size := by
      have z := lt_of_get hu
      simpa using z
    have D := Draws.tuple (prog := X.prog) (w := X.w) (A := X.A.in1) (show X.A.in1.handled = none from I.ok.hd hc) it a hai itms.toArray
    refine wpAny_pyNext_enum_itemC D he ⟨hiter, p⟩ il hne (by simp [hne, Ne.symm hae]) fun y h' tk hy ho hst hT hsz hk => ?_
    have ey : y = u := by
      have z : itms.toArray[i]? = some u := by simpa using hu
      rw [z] at hy
      exact (Option.some.inj hy).symm
    subst ey
    refine ⟨_, rfl, wpAny_letOwnedTupleGo_enum (s := { s with heap := h', toks := tk + 1 }) ho fun h2 he2 sb => ?_⟩
    have hT2 : h2.get? s.heap.objs.size = some { cls := .type "tuple", data := .seq #[.int i tk, y] } := (sb.2 _ (Nat.ne_of_gt elt)).trans hT
    have new : ObjOk X.prog X.w (upd H s.heap.objs.size (.tup [.int (i : Nat), x])) h2 s.heap.objs.size (.tup [.int (i : Nat), x]) :=
      ⟨(show 2 ≤ sizeLine by decide), [.int i tk, y], .cons ⟨_, rfl⟩ (.cons ru .nil), ⟨_, hT2, rfl, _, rfl⟩⟩
    have I1 : Inv X pn sg (upd H s.heap.objs.size (.tup [.int (i : Nat), x])) { s with heap := h2, toks := tk + 1 } :=
      I.turnedNew (ch := [e, it]) (fun b ob hb q => (sb.2 b (fun z => hb (by simp [z]))).trans (hk b ob (fun z => hb (by simp [z])) (fun z => hb (by simp [z])) q)) fpo (Nat.le_refl _) new
    refine ⟨.ref s.heap.objs.size, _, I1, rfl, ⟨_, x, rfl, I.hok.fresh (Nat.le_refl _), rfl, fun ys hy => by rw [I.tuple_inj hy hq]; exact hx⟩, ⟨⟨y, ?_⟩, hst.1.at fun o q => (sb.2 it (Ne.symm hne)).trans q, hne, hai, hae⟩, fun b hb => ?_⟩
    · rw [show ((i + 1 : Nat) : Int) = (i : Int) + 1 by omega]
      exact he2
    · have hb2 : b < s.heap.objs.size := by
        rcases (show b = e ∨ b = it by simpa using hb) with z | z
        · rw [z]; exact elt
        · rw [z]; exact ilt
      rw [upd_ne (Nat.ne_of_lt hb2)]
      exact (fpo b hb).1
  done := by
    intro X eP ew eK hc i pn s sg H E I fpo st tgo
    subst eP ew eK
    obtain ⟨⟨old, he⟩, hiter, hne, hai, hae⟩ := st
    obtain ⟨xs, hq, hx⟩ := tgo
    obtain ⟨itms, rvs, p, hsize⟩ := I.tuple hq
    obtain ⟨f0, f1, f2, f3, f4, f5⟩ := fpo it (by simp)
    have hl := rvs.length
    have he0 : itms.toArray[i]? = none := Array.getElem?_eq_none (by simp; omega)
    have ty : s.TypeIs (.ref e) "enumerate" := ⟨_, he, rfl⟩
    unfold pyNext
    refine wpAny_bind (wpAny_attempt (wpAny_callSpecial?_slot (name := Str.ofString "__next__") ty PySem.F.slot_enumerate_next (wpAny_call_entry PySem.F.slot_enumerate_next ty PySem.F.entry_enumerate_next ?_ (PySem.F.args_enumerate_next_1 _))))
    change wpAny _ _ (field (.ref e) 2 >>= _) _ _ _
    refine wpAny_bind (wpAny_field he rfl (x := .ref it) rfl ?_)
    refine wpAny_bind (wpAny_nextOf_tuple_end (show X.A.in1.handled = none from I.ok.hd hc) hiter p he0 fun h' x' he' hx' => ?_)
    obtain ⟨o, ho, hc⟩ := hx'
    refine wpAny_bind (wpAny_isInstance (T := "StopIteration") (b := true) ⟨o, ho, hc⟩ isSubtype_stop (wpAny_pure ⟨rfl, I.turned (t' := s.toks) (fun b o hb q => he' b o hb q) f0 f1 f3 f4 f5⟩))
  self := fun A i s Q E st h => let ⟨⟨_, he⟩, _⟩ := st; wpAny_pyIter_enum he h
section
variable {X : Cx} {G : Gm}
def iEnuA (K : PySem.W.Frag) (ta : TA) : TI := fun sg H R => ta sg H fun vs H1 => ∃ a xs, vs = [.ref a] ∧ ((SqL K H1 a xs ∧ R (Ite K a) H1) ∨ (SqT K H1 a xs ∧ R (IteT K a) H1))
theorem pi_enuA {e : Expr} {ta : TA} {p pos tpos : Pos} {elts : List Expr} {kk : Nat} (hg : Gl X "enumerate") (hm : X.mg "enumerate" = none) (ha : PA X [e] ta) (hs : starEach [e] X.env = (false, eval e X.env) :: starEach [] X.env) :
    PI X (.Tuple elts kk tpos) (.Call (.Name "enumerate" p) [e] [] pos) (iEnuA X.K ta) := by
  refine ⟨fun pins s sg H R I h => ?_⟩
  refine Call_ (ld_blt I hg hm boot_enumerate (PyProof.Rows.callWith_type1 (thn (ha.run pos pins s sg H _ I h) fun us s1 ⟨vs, H1, I1, r1, q1⟩ => ?_) hs rfl))
  obtain ⟨a, xs, ex, q1⟩ := q1
  subst ex
  cases r1 with
  | cons r rr =>
    cases rr
    cases r
    have fr : ∀ b, b ∈ [s1.heap.objs.size + 1, s1.heap.objs.size] → FpOk X pins H1 b := fun b hb => by
      have hle : s1.heap.objs.size ≤ b := by
        rcases (show b = s1.heap.objs.size + 1 ∨ b = s1.heap.objs.size by simpa using hb) with z | z
        · rw [z]; exact Nat.le_add_right _ _
        · rw [z]; exact Nat.le_refl _
      exact I1.fpOk hle (I1.hok.fresh hle)
    rcases q1 with ⟨hq, q⟩ | ⟨hq, q⟩
    · obtain ⟨its, rv, p', hz⟩ := I1.list hq
      refine enum_call1 (begins_list a its.toArray) p'.isList fun h' he hit hk => wpAny_pyIter_enum he ?_
      exact ⟨s1.heap.objs.size + 1, [s1.heap.objs.size + 1, s1.heap.objs.size], _, _, H1, rfl, I1.kept (t' := s1.toks) hk, turn_enum a (s1.heap.objs.size + 1) s1.heap.objs.size, ⟨⟨.none, he⟩, ⟨_, hit, rfl, rfl⟩, Nat.succ_ne_self _⟩, fr, q⟩
    · obtain ⟨its, rv, p', hz⟩ := I1.tuple hq
      obtain ⟨o1, ho1, _⟩ := id p'
      have al := Heap.lt_size ho1
      refine enum_call1 (begins_tuple a its.toArray) p' fun h' he hit hk => wpAny_pyIter_enum he ?_
      exact ⟨s1.heap.objs.size + 1, [s1.heap.objs.size + 1, s1.heap.objs.size], _, _, H1, rfl, I1.kept (t' := s1.toks) hk, turn_enuT a (s1.heap.objs.size + 1) s1.heap.objs.size, ⟨⟨.none, he⟩, ⟨_, hit, rfl, rfl⟩, Nat.succ_ne_self _, Nat.ne_of_lt al, Nat.ne_of_lt (Nat.lt_succ_of_lt al)⟩, fr, q⟩
theorem SrcOk.enumT {K : PySem.W.Frag} {sg0 : L2.St} {F0 : Hp} {a : Addr} {vs : List V} {ds : List PyData} {vi : Option Nat} (h : Tp F0 a vs (entB ds)) (l : DnL K F0 vs ds) : SrcOk K sg0 F0 (IteT K a) (enuD ds) (fun _ => True) vi where
  go := fun n sg ρ T F H hn s r c v => by
    have z : n < vs.length := by rw [l.length]; simpa [enuD] using hn
    exact ⟨vs, vs[n], ((h.mono s).mono r.sub).sq, List.getElem?_eq_getElem z⟩
  stop := fun n sg ρ T F H hn s r c v => ⟨vs, ((h.mono s).mono r.sub).sq, by rw [l.length]; simpa [enuD] using hn⟩
  yld := fun n sg ρ T F H x H' hn s r c v y => by
    obtain ⟨Ta, x1, rfl, hT, rfl, f1⟩ := y
    have hx := f1 vs (((h.mono s).mono r.sub).sq)
    obtain ⟨d, e, dn⟩ := l.getV hx
    obtain ⟨F', s', dn', r'⟩ := pairNew r hT (.cons (.int (n : Nat)) (.cons (dn.mono s) .nil)) rfl
    exact ⟨F', _, by simp [enuD, e], s', dn', r'⟩
theorem vs_enu {elts : List Expr} {kk : Nat} {tpos : Pos} {e : Expr} {c : CE} {p pos : Pos} (hg : Gl X "enumerate") (hm : X.mg "enumerate" = none) (ns : NS X e) (he : PE X e (tE X.K G c)) : PI X (.Tuple elts kk tpos) (.Call (.Name "enumerate" p) [e] [] pos) (tI X.K G (.enu c)) := by
  refine PI.weak (pi_enuA hg hm (pa_cons he pa_nil (ns [])) (ns [])) fun sg H R ⟨ρ, T, F, hl, r, ee⟩ => ?_
  unfold ev at ee
  refine useD hl r ee fun d ρ1 v F1 H1 k s pp l q dn => ?_
  split at k
  · cases dn with
    | lst hh ll => exact ⟨_, _, rfl, .inl ⟨SqL.of (q.sub _ _ hh), k _ F1 H1 s l q (SrcOk.enum hh ll)⟩⟩
  · cases dn with
    | tup hh ll => exact ⟨_, _, rfl, .inr ⟨(hh.mono q.sub).sq, k _ F1 H1 s l q (SrcOk.enumT hh ll)⟩⟩
  · exact k.elim
end
end VS

namespace VS
open PySem PySem.Spec PyProof.Rows L2
/-! ## dict(a tuple of entries) -/
section
variable {X : Cx} {G : Gm}
theorem pairs_val {pins : List (Addr × Obj)} {sg : L2.St} {H : Hp} {s : Shared} (I : Inv X pins sg H s) : ∀ {ps : List Addr} {kvs : List (Key × V)}, Paired (fun p kv => SqT X.K H p [kV kv.1, kv.2]) ps kvs →
    ∃ (prs : List (Key × Value)) (ws : List (Value × Value)), KV kvs prs ∧ prs.length = ps.length ∧ ws.length = ps.length ∧
      ∀ (j : Nat) (u y : Value), ws[j]? = some (u, y) → ∃ (b : Addr) (k : Key), ps[j]? = some b ∧ s.heap.IsTuple b #[u, y] ∧ prs[j]? = some (k, y) ∧ keyIs k u = true
  | _, _, .nil => ⟨[], [], .nil, rfl, rfl, fun j u y e => by simp at e⟩
  | _, _, .cons (a := p) (b := kv) h t => by
    obtain ⟨prs, ws, r, hl, hw, hp⟩ := pairs_val I t
    obtain ⟨its, rv, ht, _⟩ := I.tuple h
    obtain ⟨u, y, ei, ru, ry⟩ := vals2 rv
    subst ei
    refine ⟨(kv.1, y) :: prs, (u, y) :: ws, .cons ⟨rfl, ry⟩ r, by rw [List.length_cons, List.length_cons, hl], by rw [List.length_cons, List.length_cons, hw], fun j u' y' e => ?_⟩
    cases j with
    | zero =>
      have e' : (u, y) = (u', y') := Option.some.inj e
      cases e'
      exact ⟨p, kv.1, rfl, ht, rfl, kV_is (P := X.prog) (w := X.w) ru⟩
    | succ j =>
      obtain ⟨b, k, e1, e2, e3, e4⟩ := hp j u' y' (by simpa using e)
      exact ⟨b, k, by simpa using e1, e2, by simpa using e3, e4⟩
theorem call_dictT (hcalm : X.calm = true) : CallR X (.type "dict") (fun xs H Q => ∃ (a : Addr) (o : Obj) (ps : List Addr) (kvs : List (Key × V)), xs = [.ref a] ∧ H a = some (.frz o (.tup (ps.map V.ref))) ∧ o.dict = none ∧ Paired (fun p kv => SqT X.K H p [kV kv.1, kv.2]) ps kvs ∧
    ∀ p, H p = none → Q (.ref p) (upd H p (.dK (mergeK [] kvs)))) := by
  intro pins s sg H xs us Q I r q
  obtain ⟨a, o, ps, kvs, ex, hq, hdn, hp, q⟩ := q
  subst ex
  obtain ⟨u, eu, rx⟩ := vals1 r
  subst eu
  cases rx
  obtain ⟨ho, hz, its, rv, ot, hot, hc, n, hdat⟩ : ObjOk X.prog X.w H s.heap a (.frz o (.tup (ps.map V.ref))) := I.hok a _ hq
  rw [ho] at hot
  cases hot
  have ei := refs_at rv
  subst ei
  rw [List.length_map] at hz
  obtain ⟨prs, ws, rel, hl, hw, hpr⟩ := pairs_val I hp
  have hts : ∀ (j : Nat) (b : Addr), ps[j]? = some b → (fun j => ps.getD j 0) j = b := fun j b e => by simp [List.getD, e]
  refine _root_.PySem.call_dict_pairs (knd := mixKind X.prog X.w) (kvs := prs) (PairArg.tuple a (ps.map Value.ref).toArray (fun j => ps.getD j 0) ws) (I.ok.hd hcalm) ⟨⟨o, n, ho, hc, hdn, hdat⟩, by simp [hw], fun j k v e => ?_⟩ ⟨by rw [hl, hw], fun j k v e => ?_⟩ (by rw [hw]; exact hz) fun h' tk hd' k => ?_
  · obtain ⟨b, kk, e1, e2, _, _⟩ := hpr j k v e
    rw [hts j b e1]
    exact ⟨by simp [e1], .inl e2⟩
  · obtain ⟨b, kk, _, _, e3, e4⟩ := hpr j k v e
    exact ⟨kk, e3, e4⟩
  · have hm : (s.heap.objs.size == sysModules) = false := beq_eq_false_iff_ne.mpr (Nat.ne_of_gt I.big)
    have hlen : (mergeK [] kvs).length ≤ sizeLine := by
      refine Nat.le_trans (length_mergeK kvs []) ?_
      rw [List.length_nil, Nat.zero_add, rel.length, hl]
      exact hz
    exact ⟨.ref s.heap.objs.size, upd H s.heap.objs.size (.dK (mergeK [] kvs)), I.laid (t' := tk) (fun b q z => k b q (fun y => nomatch y) z) (Nat.le_refl _) (show ObjOk X.prog X.w _ _ _ (.dK (mergeK [] kvs)) from ⟨hlen, hm, merged [] prs, KV.merge rel .nil, hd'⟩), rfl, q _ (I.hok.fresh (Nat.le_refl _))⟩
theorem pairs_dn {K : PySem.W.Frag} {F : Hp} : ∀ {vs : List V} {ds : List PyData} {ks : List Key} {es : List PyData}, DnL K F vs ds → pairsD ds = some (ks, es) →
    ∃ (ps : List Addr) (us : List V), vs = ps.map V.ref ∧ DnL K F us es ∧ ks.length = us.length ∧ Paired (fun p kv => SqT K F p [kV kv.1, kv.2]) ps (ks.zip us)
  | [], [], ks, es, .nil, e => by
    cases e
    exact ⟨[], [], rfl, .nil, rfl, .nil⟩
  | v :: vs, d :: ds, ks, es, .cons h l, e => by
    unfold pairsD at e
    split at e
    · rename_i heq
      cases heq
    · rename_i k d2 r heq
      cases heq
      cases h with
      | tup ht hl =>
        cases hl with
        | cons h1 hl =>
          cases hl with
          | cons h2 hl =>
            cases hl
            cases h1
            cases e2 : pairsD ds with
            | none => rw [e2] at e; cases e
            | some kv =>
              rw [e2] at e
              cases e
              obtain ⟨ps, us, ev, dl, hl, pr⟩ := pairs_dn l e2
              subst ev
              exact ⟨_ :: ps, _ :: us, rfl, .cons h2 dl, by simp [hl], .cons ht.sq pr⟩
    · cases e
theorem pairs_ent : ∀ {ds : List PyData} {kv : List Key × List PyData}, pairsD ds = some kv → entB ds = true
  | [], _, _ => rfl
  | d :: ds, kv, e => by
    unfold pairsD at e
    split at e
    · rename_i heq
      cases heq
    · rename_i k d2 r heq
      cases heq
      cases e2 : pairsD ds with
      | none => rw [e2] at e; cases e
      | some kv =>
        have z := pairs_ent e2
        exact z
    · cases e
theorem vs_dof {e : Expr} {c : CE} {p pos : Pos} (hc : X.calm = true) (hg : Gl X "dict") (hm : X.mg "dict" = none) (ns : NS X e) (he : PE X e (tE X.K G c)) : PE X (.Call (.Name "dict" p) [e] [] pos) (tE X.K G (.dof c)) := by
  refine PE.weak (pe_callTy (call_dictT hc) hg hm (by decide +kernel) (pa_cons he pa_nil (ns [])) (by decide) (by decide) (ns []) rfl) fun sg H Q ⟨ρ, T, F, hl, r, ee⟩ => ?_
  unfold ev at ee
  refine useD hl r ee fun d ρ1 v F1 H1 k s pp l q dn => ?_
  split at k
  · rename_i ds
    obtain ⟨⟨ks, es⟩, ek, nd, hz, k⟩ := optQ_some k
    cases dn with
    | tup ht dl =>
      rw [pairs_ent ek] at ht
      obtain ⟨ps, us, ev, dl2, hlen, pr⟩ := pairs_dn dl ek
      subst ev
      rcases ht with ⟨z, _⟩ | ⟨_, o, ho, hd⟩
      · cases z
      refine ⟨_, o, ps, ks.zip us, rfl, q.sub _ _ ho, hd, Paired.mapP pr fun _ _ z => q.sub.sqT z, fun p hp => ?_⟩
      rw [mergeK_zip nd hlen (fun _ _ z => by simp at z), List.nil_append]
      have hl2 : us.length = (es.map O.dat).length := by rw [List.length_map]; exact dl2.length
      exact k _ F1 _ s (fun z => nomatch z) l (Rel.node (k := .dk ks) hl2 ⟨by rw [← hl2]; exact hlen, nd⟩ (q.datas dl2) hp)
  · exact k.elim
/-! ### d.update(another dict) -/
def rDUpd : V → List V → Hp → VK → Prop := fun x vs H Q => ∃ (a b : Addr) (ks ls : List Key) (vs1 ws : List V), x = .ref a ∧ vs = [.ref b] ∧ a ≠ b ∧ H a = some (.dK (ks.zip vs1)) ∧ H b = some (.dK (ls.zip ws)) ∧ ks.length = vs1.length ∧ ls.length = ws.length ∧
  (∀ k, k ∈ ls → k ∉ ks) ∧ ls.Nodup ∧ ks.length + ls.length ≤ sizeLine ∧ Q .non (upd H a (.dK ((ks ++ ls).zip (vs1 ++ ws))))
theorem mt_dupd : MtR X "dict.update" rDUpd := by
  intro pins s sg H x xs v us Q I rx rs h
  obtain ⟨a, b, ks, ls, vs1, ws, rfl, rfl, hab, ha, hb, l1, l2, dj, nd, hz, q⟩ := h
  cases rx
  obtain ⟨u, eu, ru⟩ := vals1 rs
  subst eu
  cases ru
  obtain ⟨z1, hd1, us1, rel1, dd1⟩ := dk_of I.hok ha
  obtain ⟨z2, hd2, us2, rel2, dd2⟩ := dk_of I.hok hb
  have len1 : (ks.zip vs1).length = ks.length := by rw [List.length_zip]; omega
  have len2 : (ls.zip ws).length = ls.length := by rw [List.length_zip]; omega
  have em : mergeK (ks.zip vs1) (ls.zip ws) = (ks ++ ls).zip (vs1 ++ ws) := by
    rw [mergeK_zip nd l2 (fun k hk z => ?_), List.zip_append l1]
    rw [List.map_fst_zip (by omega)] at z
    exact dj k hk z
  refine call_meetsIn PySem.F.slot_dict_update dd1.typeIs PySem.F.entry_dict_update (PySem.F.args_dict_update_2 _ _) (meets_dict_update (mixKind X.prog X.w) a b hab hd2) ⟨us1, us2, dd1, dd2, by rw [← rel1.length, ← rel2.length, len1, len2]; exact hz, fun h' dd' _ hs => ?_⟩
  have he : ∃ q, h'.get? a = some q := let ⟨q, _, _, hq, _⟩ := dd'; ⟨q, hq⟩
  have rel' := KV.merge rel2 rel1
  rw [em] at rel'
  have hsz : ((ks ++ ls).zip (vs1 ++ ws)).length ≤ sizeLine := by
    rw [List.length_zip, List.length_append, List.length_append]
    omega
  exact ⟨.non, _, d_write I (by rw [ha]; exact True.intro) hs he (dk_new hsz hd1 rel' dd'), rfl, q⟩
/-- a tree taken apart: its children -/
theorem Rel.open {K : PySem.W.Frag} {F H : Hp} {v : V} {k : NK} {os : List O} {its : Its} (r : Rel K F H ((some v, .nd k os) :: its)) :
    ∃ a vs, v = .ref a ∧ H a = some (hoOf k vs) ∧ vs.length = os.length ∧ k.fit os.length ∧ Rel K F H ((vs.map some).zip os ++ its) := by
  obtain ⟨s, A, h, n, f⟩ := r
  cases h with
  | cons a l =>
    rename_i A1 A2
    cases a with
    | @nd a _ vs _ A3 ha hl hf lo =>
      have n' : (a :: (A3 ++ A2)).Nodup := n
      refine ⟨a, vs, rfl, ha, hl, hf, s, A3 ++ A2, ?_, (List.nodup_cons.mp n').2, fun b hb => f b (List.mem_cons_of_mem _ hb)⟩
      rw [List.map_append, List.map_append, zip_fst hl, zip_snd hl]
      exact lo.append l
/-- two owned objects are two -/
theorem Rel.apart {K : PySem.W.Frag} {F H : Hp} {a b : Addr} {v0 : V} {k k' : NK} {os os' : List O} {o : O} {p : List Nat} {i : Nat} {its : Its} (r : Rel K F H ((some (.ref b), .nd k os) :: its)) (e : its[i]? = some (some v0, o)) (g : o.getP p = some (.nd k' os')) (hd : desc H v0 p (.ref a)) : a ≠ b := by
  obtain ⟨s, A, h, n, f⟩ := r
  cases h with
  | cons ab l =>
    rename_i A1 A2
    cases ab with
    | @nd _ _ vs _ A3 ha hl hf lo =>
      have n' : (b :: (A3 ++ A2)).Nodup := n
      obtain ⟨B, C, x, ex, pA, hB, _⟩ := OwnL.hole l (map_get_snd e)
      rw [map_get_fst e] at ex
      cases ex
      obtain ⟨B2, C2, u, pB, d1, h2, _⟩ := Own.hole hB g
      obtain rfl := desc_inj hd d1
      cases h2 with
      | nd ha2 hl2 hf2 lo2 =>
        intro z
        subst z
        refine (List.nodup_cons.mp n').1 (List.mem_append_right _ ?_)
        refine pA.mem_iff.mpr (List.mem_append_left _ (pB.mem_iff.mpr (List.mem_append_left _ List.mem_cons_self)))
theorem rcvU_some {ρ : Env} {i : Nat} {p : List Nat} (h : rcvU ρ i p) : ∃ ks os, getS ρ i p = some (.nd (.dk ks) os) := by
  unfold rcvU at h
  split at h
  · exact ⟨_, _, by assumption⟩
  · exact h.elim
theorem vs_upd {o e : Expr} {a c : CE} {apos pos : Pos} (ho : PE X o (tE X.K G a)) (he : PE X e (tE X.K G c)) (ns : NS X e) (hb : ∀ i p q, o ≠ .Call (.Name i p) [] [] q) (hline : (apos.endLine == pos.line) = true) :
    PE X (.Call (.Attribute o "update" apos) [e] [] pos) (tE X.K G (.upd a c)) := by
  have st : starEach [e] X.env = [(false, eval e X.env)] := ns []
  have few : ((backTo pos (starEach [e] X.env)).all (fun x => !x.1) && (backToKw pos (keywordEach [] X.env)).all (fun x => x.1.isSome) && decide ([e].length + ([] : List Keyword).length + (if ([] : List Keyword).isEmpty then 0 else 1) < 30)) = true := by
    rw [st]
    rfl
  refine PE.weak (pe_bm PySem.F.plainAttrs_dict PySem.F.slot_dict_update PySem.F.type_dict_update mt_dupd ho (pa_cons he pa_nil (ns [])) (baseOk hb) few hline (ns []) rfl) fun sg H Q ⟨ρ, T, F, hl, r, ee⟩ => ?_
  unfold ev at ee
  refine use hl r ee fun ra ρ1 v1 F1 H1 k1 s1 p1 l1 r1 => ?_
  split at k1
  · rename_i i p
    obtain ⟨rc, k1⟩ := k1
    obtain ⟨ks, os, eg⟩ := rcvU_some rc
    obtain ⟨r1, v0, e0, d0⟩ := r1
    obtain ⟨b, vs1, eb, hb1, hl1, _⟩ := r1.seeAt eg e0 d0
    subst eb
    refine ⟨.inr (.inr (.inl ⟨rfl, .inl ⟨_, hb1⟩⟩)), ?_⟩
    refine useO (by rw [l1]; exact hl) r1 k1 fun o2 ρ2 v2 F2 H2 k2 s2 p2 l2 r2 => ?_
    obtain ⟨stb, k2⟩ := k2
    obtain ⟨t, et, k2⟩ := optQ_some k2
    have d2 : desc H2 v0 p (.ref b) := by
      have hd : Held X.K F1 H1 sg (.ref b) (.pl i p) := ⟨v0, e0, d0⟩
      obtain ⟨w0, ew, dw⟩ := hd.keep (H' := H2) s2 (stb.imp _root_.id p2)
      rw [e0] at ew
      cases ew
      exact dw
    unfold updO at k2
    split at k2
    · rename_i ks2 os2 ls ps2 hxx
      obtain ⟨hsz, dj, nd, k2⟩ := k2
      obtain ⟨o0, eo0, g0⟩ := getS_some et
      obtain ⟨b2, ws, ev2, hb2, hlw, hfw, r3⟩ := Rel.open r2
      subst ev2
      have ne := Rel.apart r2 (its_get (T := T) e0 eo0) g0 d2
      obtain ⟨vs2, ha, hl2, hf2, mu⟩ := Rel.mutate r3 (its_get (T := T) e0 eo0) g0 d2
      have hk2 : ks2.length = vs2.length := hf2.1
      have hkw : ls.length = ws.length := by rw [hlw]; exact hfw.1
      have nd2 : (ks2 ++ ls).Nodup := List.nodup_append.mpr ⟨hf2.2, nd, fun x hx y hy e => dj y hy (e ▸ hx)⟩
      refine ⟨b, b2, ks2, ls, vs2, ws, rfl, rfl, ne, ha, hb2, hk2, hkw, dj, nd, hsz, ?_⟩
      have res := mu [] [] (.dk (ks2 ++ ls)) (vs2 ++ ws) (os2 ++ ps2) (by simp [hl2, hlw]) ⟨by rw [List.length_append, List.length_append]; omega, nd2⟩ (by rw [zip_app hl2]; simp)
      rw [its_set e0 (lt_of_get eo0), List.nil_append] at res
      refine k2 _ F2 _ (s1.trans s2) (fun z => nomatch z) (by rw [setS_len]; exact l2.trans l1) (Rel.cons_dat ?_ .non)
      rw [setS_eq eo0]
      exact res
    · exact k2.elim
  · exact k1.elim
end
end VS

namespace VS
open PySem PySem.Spec PyProof.Rows L2
/-! ## targets -/
mutual
def CT.slots : CT → List Nat
  | .nm i => [i]
  | .tp ts => CT.slotsL ts
def CT.slotsL : List CT → List Nat
  | [] => []
  | t :: ts => t.slots ++ CT.slotsL ts
end
/-- nothing but the slots A is changed -/
def Agree (A : List Nat) (sg sg' : L2.St) : Prop := sg'.length = sg.length ∧ ∀ i, i ∉ A → sg'[i]? = sg[i]?
theorem Agree.refl {A : List Nat} {sg : L2.St} : Agree A sg sg := ⟨rfl, fun _ _ => rfl⟩
theorem Agree.trans {A B : List Nat} {a b c : L2.St} (h : Agree A a b) (h2 : Agree B b c) : Agree (A ++ B) a c :=
  ⟨h2.1.trans h.1, fun i hi => (h2.2 i fun z => hi (List.mem_append_right _ z)).trans (h.2 i fun z => hi (List.mem_append_left _ z))⟩
theorem Agree.mono {A B : List Nat} {a b : L2.St} (h : Agree A a b) (s : ∀ i, i ∈ A → i ∈ B) : Agree B a b := ⟨h.1, fun i hi => h.2 i fun z => hi (s i z)⟩
theorem Agree.then {A : List Nat} {a b c : L2.St} (h : Agree A a b) (h2 : Agree A b c) : Agree A a c := ⟨h2.1.trans h.1, fun i hi => (h2.2 i hi).trans (h.2 i hi)⟩
def tG (K : PySem.W.Frag) (t : CT) : TG := fun v sg H Q => ∃ (ρ : Env) (T : Its) (F : Hp) (o : O), sg.length = ρ.length ∧ Rel K F H ((some v, o) :: (sg.zip ρ ++ T)) ∧
  bindT t o ρ fun ρ' => ∀ sg', Agree t.slots sg sg' → ρ'.length = ρ.length → Rel K F H (sg'.zip ρ' ++ T) → Q sg' H
def tGs (K : PySem.W.Frag) (ts : List CT) : TGs := fun vs sg H Q => ∃ (ρ : Env) (T : Its) (F : Hp) (ds : List PyData), sg.length = ρ.length ∧ Rel K F H (sg.zip ρ ++ T) ∧ DnL K F vs ds ∧
  bindT.bindTs ts ds ρ fun ρ' => ∀ sg', Agree (CT.slotsL ts) sg sg' → ρ'.length = ρ.length → Rel K F H (sg'.zip ρ' ++ T) → Q sg' H
theorem PG.weak {X : Cx} {e : Expr} {t t' : TG} (h : PG X e t) (w : ∀ v sg H Q, t' v sg H Q → t v sg H Q) : PG X e t' := ⟨fun pn st sg H v u Q I rv q => h.run pn st sg H v u Q I rv (w _ _ _ _ q)⟩
theorem PGs.weak {X : Cx} {es : List Expr} {t t' : TGs} (h : PGs X es t) (w : ∀ v sg H Q, t' v sg H Q → t v sg H Q) : PGs X es t' := ⟨fun pn st sg H v u Q I rv q => h.run pn st sg H v u Q I rv (w _ _ _ _ q)⟩
def NA (X : Cx) (e : Expr) : Prop := ∀ es, assignEach (e :: es) X.env = (false, assign e X.env) :: assignEach es X.env
inductive PGl (X : Cx) : List Expr → List CT → Prop
  | nil : PGl X [] []
  | cons {e : Expr} {t : CT} {es : List Expr} {ts : List CT} : NA X e → PG X e (tG X.K t) → PGl X es ts → PGl X (e :: es) (t :: ts)
section
variable {X : Cx} {G : Gm}
theorem vs_gname {i : Nat} {x : Str} {pos : Pos} (hN : X.N.Nodup) (hi : X.N[i]? = some x) (hx : Loc X.env.scope x) (hf : X.fn x = true ∨ X.env.scope.names.lookup x = some .local) : PG X (.Name x pos) (tG X.K (.nm i)) := by
  refine PG.weak (pg_name hN hi hx hf) fun v sg H Q ⟨ρ, T, F, o, hl, r, b⟩ => ?_
  unfold bindT at b
  have h1 : i < sg.length := by rw [hl]; exact b.1
  refine b.2 _ ⟨by simp, fun j hj => ?_⟩ (by simp) (r.store (y := sg[i]) (by simp [h1]) b.1)
  have hne : i ≠ j := fun z => hj (by rw [z]; exact List.mem_cons_self)
  rw [List.getElem?_set_ne hne]
theorem PGl.pgs : ∀ {es : List Expr} {ts : List CT}, PGl X es ts → PGs X es (tGs X.K ts)
  | _, _, .nil => PGs.weak pgs_nil fun vs sg H Q ⟨ρ, T, F, ds, hl, r, dl, b⟩ => by
    cases ds with
    | nil =>
      cases dl
      unfold bindT.bindTs at b
      exact ⟨rfl, b sg .refl rfl r⟩
    | cons d ds => exact b.elim
  | _, _, .cons (t := t) (ts := ts) na p l => PGs.weak (pgs_cons p l.pgs (by rw [na]; rfl)) fun vs sg H Q ⟨ρ, T, F, ds, hl, r, dl, b⟩ => by
    cases ds with
    | nil => exact b.elim
    | cons d ds =>
      cases dl with
      | cons dn dl =>
        unfold bindT.bindTs at b
        refine ⟨_, _, rfl, ρ, T, F, .dat d, hl, r.cons_dat dn, bindT_mono (fun ρ1 z sg1 a1 l1 r1 => ?_) b⟩
        exact ⟨ρ1, T, F, ds, by rw [a1.1, l1]; exact hl, r1, dl, bindTs_mono (fun ρ2 z sg2 a2 l2 r2 => z sg2 (a1.trans a2) (l2.trans l1) r2) z⟩
theorem PGl.each : ∀ {es : List Expr} {ts : List CT}, PGl X es ts → (assignEach es X.env).length = ts.length ∧ (assignEach es X.env).findIdx? (·.1) = none
  | _, _, .nil => ⟨rfl, rfl⟩
  | _, _, .cons na p l => by
    obtain ⟨h1, h2⟩ := l.each
    rw [na]
    exact ⟨by simp [h1], by simp [h2, List.findIdx?_cons]⟩
mutual
theorem bindT_no : ∀ {t : CT} {o : O} {ρ : Env}, bindT t o ρ (fun _ => False) → False
  | .nm i, _, _, h => by
    unfold bindT at h
    exact h.2
  | .tp ts, o, ρ, h => by
    unfold bindT at h
    split at h
    · cases ‹CT.tp ts = CT.nm _›
    · rename_i e
      cases e
      exact bindTs_no h
    · exact h
theorem bindTs_no : ∀ {ts : List CT} {ds : List PyData} {ρ : Env}, bindT.bindTs ts ds ρ (fun _ => False) → False
  | [], [], _, h => by
    unfold bindT.bindTs at h
    exact h
  | t :: ts, d :: ds, _, h => by
    unfold bindT.bindTs at h
    exact bindT_no (bindT_mono (fun _ z => bindTs_no z) h)
  | [], _ :: _, _, h => h.elim
  | _ :: _, [], _, h => h.elim
end
theorem bindTs_len : ∀ {ts : List CT} {ds : List PyData} {ρ : Env} {Q : Env → Prop}, bindT.bindTs ts ds ρ Q → ts.length = ds.length
  | [], [], _, _, _ => rfl
  | t :: ts, d :: ds, _, _, h => by
    unfold bindT.bindTs at h
    have z : ∃ ρ, ∃ Q : Env → Prop, bindT.bindTs ts ds ρ Q := by
      have go : ∀ {t : CT} {o : O} {ρ : Env} {P : Env → Prop}, bindT t o ρ P → ∃ ρ, P ρ := fun {t o ρ P} h =>
        Classical.byContradiction fun n => bindT_no (bindT_mono (fun ρ p => n ⟨ρ, p⟩) h)
      obtain ⟨ρ, p⟩ := go h
      exact ⟨ρ, _, p⟩
    obtain ⟨ρ, Q, z⟩ := z
    simp [bindTs_len z]
  | [], _ :: _, _, _, h => h.elim
  | _ :: _, [], _, _, h => h.elim
theorem vs_gtup {es : List Expr} {ts : List CT} {k : Nat} {pos : Pos} (hc : X.calm = true) (l : PGl X es ts) : PG X (.Tuple es k pos) (tG X.K (.tp ts)) := by
  obtain ⟨h1, h2⟩ := l.each
  refine PG.weak (pg_tup hc l.pgs h1 h2) fun v sg H Q ⟨ρ, T, F, o, hl, r, b⟩ => ?_
  unfold bindT at b
  split at b
  · cases ‹CT.tp ts = CT.nm _›
  · rename_i e
    cases e
    obtain ⟨w, ew, dn⟩ := Rel.dat r
    cases ew
    cases dn with
    | tup ha dl => exact ⟨_, _, rfl, (ha.mono r.sub).sq, by rw [dl.length]; exact (bindTs_len b).symm, _, T, F, _, hl, r.tail, dl, b⟩
  · exact b.elim
/-! ## comprehensions -/
def savO (sg : L2.St) (ρ : Env) : List Nat → Its
  | [] => []
  | v :: vs => ((sg[v]?).join, ρ[v]?.getD .un) :: savO sg ρ vs
theorem wipeO_len {ρ : Env} : ∀ {vs : List Nat}, (wipeO ρ vs).length = ρ.length
  | [] => rfl
  | v :: vs => by unfold wipeO; rw [List.length_set, wipeO_len]
theorem wipeO_out {ρ : Env} {i : Nat} : ∀ {vs : List Nat}, i ∉ vs → (wipeO ρ vs)[i]? = ρ[i]?
  | [], _ => rfl
  | v :: vs, h => by
    have h1 : v ≠ i := fun e => h (by rw [e]; exact List.mem_cons_self)
    unfold wipeO
    rw [List.getElem?_set_ne h1]
    exact wipeO_out fun e => h (List.mem_cons_of_mem _ e)
theorem backO_len {ρ ρ0 : Env} : ∀ {vs : List Nat}, (backO ρ ρ0 vs).length = ρ.length
  | [] => rfl
  | v :: vs => by
    unfold backO
    split
    · rw [List.length_set, backO_len]
    · exact backO_len
theorem wipeIts {K : PySem.W.Frag} {F H : Hp} {sg : L2.St} {ρ : Env} {T : Its} (hl : sg.length = ρ.length) (r : Rel K F H (sg.zip ρ ++ T)) : ∀ {vs : List Nat}, vs.Nodup → Rel K F H ((wipe sg vs).zip (wipeO ρ vs) ++ (savO sg ρ vs ++ T))
  | [], _ => r
  | v :: vs, nd => by
    obtain ⟨n1, n2⟩ := List.nodup_cons.mp nd
    have ih := wipeIts hl r n2
    unfold wipe wipeO savO
    by_cases hv : v < ρ.length
    · have hv' : v < sg.length := by rw [hl]; exact hv
      have e1 : (wipe sg vs)[v]? = some sg[v] := by rw [wipe_out n1]; simp [hv']
      have e2 : (wipeO ρ vs)[v]? = some ρ[v] := by rw [wipeO_out n1]; simp [hv]
      have r1 := Rel.slot ih e1 e2
      have r2 : Rel K F H ((wipe sg vs).zip ((wipeO ρ vs).set v .un) ++ ((sg[v], ρ[v]) :: (savO sg ρ vs ++ T))) := r1.perm List.perm_middle.symm
      have r3 := Rel.store (x := none) (o := .un) (i := v) (r2.cons_un (x := none)) e1 (by rw [List.length_set, wipeO_len]; exact hv)
      rw [List.set_set] at r3
      have e3 : (sg[v]?).join = sg[v] := by simp [hv']
      have e4 : ρ[v]?.getD .un = ρ[v] := by simp [hv]
      rw [e3, e4]
      exact r3
    · have e1 : (wipe sg vs).set v none = wipe sg vs := List.set_eq_of_length_le (by rw [wipe_length]; omega)
      have e2 : (wipeO ρ vs).set v .un = wipeO ρ vs := List.set_eq_of_length_le (by rw [wipeO_len]; omega)
      rw [e1, e2]
      have e4 : ρ[v]?.getD .un = .un := by simp [hv]
      rw [e4]
      exact (ih.cons_un (x := (sg[v]?).join)).perm List.perm_middle.symm
theorem backO_set {ρ ρ0 : Env} {v : Nat} {o : O} : ∀ {vs : List Nat}, v ∉ vs → backO (ρ.set v o) ρ0 vs = (backO ρ ρ0 vs).set v o
  | [], _ => rfl
  | w :: vs, h => by
    have h1 : v ≠ w := fun e => h (by rw [e]; exact List.mem_cons_self)
    have ih := backO_set (ρ := ρ) (ρ0 := ρ0) (v := v) (o := o) (vs := vs) fun e => h (List.mem_cons_of_mem _ e)
    unfold backO
    split
    · rw [ih, List.set_comm _ _ h1]
    · exact ih
theorem backIts {K : PySem.W.Frag} {F H : Hp} {sg : L2.St} {ρ : Env} {T : Its} (hl : sg.length = ρ.length) : ∀ {vs : List Nat} {ρ' : Env}, vs.Nodup → ρ'.length = ρ.length → Rel K F H ((wipe sg vs).zip ρ' ++ (savO sg ρ vs ++ T)) → Rel K F H (sg.zip (backO ρ' ρ vs) ++ T)
  | [], _, _, _, r => r
  | v :: vs, ρ', nd, l', r => by
    obtain ⟨n1, n2⟩ := List.nodup_cons.mp nd
    unfold wipe savO at r
    unfold backO
    by_cases hv : v < ρ.length
    · have hv' : v < sg.length := by rw [hl]; exact hv
      have e1 : (wipe sg vs)[v]? = some sg[v] := by rw [wipe_out n1]; simp [hv']
      have e3 : (sg[v]?).join = sg[v] := by simp [hv']
      have e4 : ρ[v]?.getD .un = ρ[v] := by simp [hv]
      rw [e3, e4] at r
      have r1 : Rel K F H ((sg[v], ρ[v]) :: (((wipe sg vs).set v none).zip ρ' ++ (savO sg ρ vs ++ T))) := r.perm List.perm_middle
      have r2 := Rel.store (i := v) r1 (y := none) (by simp [wipe_length, hv']) (by omega)
      rw [List.set_set] at r2
      have e5 : (wipe sg vs).set v sg[v] = wipe sg vs := by
        apply List.ext_getElem?
        intro j
        by_cases hj : v = j
        · subst hj
          rw [e1]
          simp [wipe_length, hv']
        · rw [List.getElem?_set_ne hj]
      rw [e5] at r2
      have ih := backIts (ρ' := ρ'.set v ρ[v]) hl n2 (by rw [List.length_set]; exact l') r2
      rw [backO_set n1] at ih
      simp only [List.getElem?_eq_getElem hv]
      exact ih
    · have e1 : (wipe sg vs).set v none = wipe sg vs := List.set_eq_of_length_le (by rw [wipe_length]; omega)
      rw [e1] at r
      have e4 : ρ[v]? = none := by simp; omega
      simp only [e4]
      exact backIts hl n2 l' (r.perm List.perm_middle).tail
theorem wipe_in {sg : L2.St} {i : Nat} : ∀ {vs : List Nat}, i ∈ vs → i < sg.length → (wipe sg vs)[i]? = some none
  | v :: vs, h, hl => by
    unfold wipe
    by_cases e : v = i
    · subst e
      simp [wipe_length, hl]
    · rw [List.getElem?_set_ne e]
      rcases List.mem_cons.mp h with z | z
      · exact absurd z.symm e
      · exact wipe_in z hl
theorem wipe_eq {a b : L2.St} {vs : List Nat} (hl : a.length = b.length) (h : ∀ i, i ∉ vs → a[i]? = b[i]?) : wipe a vs = wipe b vs := by
  apply List.ext_getElem?
  intro i
  by_cases hi : i ∈ vs
  · by_cases hb : i < b.length
    · rw [wipe_in hi hb, wipe_in hi (by omega)]
    · rw [List.getElem?_eq_none (by rw [wipe_length]; omega), List.getElem?_eq_none (by rw [wipe_length]; omega)]
  · rw [wipe_out hi, wipe_out hi]
    exact h i hi
def tTs (K : PySem.W.Frag) (G : Gm) (cs : List CE) : TT := fun sg H Q => ∃ (ρ : Env) (T : Its) (F : Hp), sg.length = ρ.length ∧ Rel K F H (sg.zip ρ ++ T) ∧
  evTs G cs ρ fun b ρ' => ∀ F' H', Sub F F' → ρ'.length = ρ.length → Rel K F' H' (sg.zip ρ' ++ T) → Q b H'
theorem PTs.weak {X : Cx} {es : List Expr} {t t' : TT} (h : PTs X es t) (w : ∀ sg H Q, t' sg H Q → t sg H Q) : PTs X es t' := ⟨fun pn st sg H Q I q => h.run pn st sg H Q I (w _ _ _ q)⟩
theorem vs_Ts0 : PTs X [] (tTs X.K G []) := PTs.weak pts_nil fun sg H Q ⟨ρ, T, F, hl, r, e⟩ => e F H (.refl _) rfl r
theorem vs_Ts1 {e : Expr} {c : CE} (h : PT X e (tT X.K G c)) : PTs X [e] (tTs X.K G [c]) := by
  refine PTs.weak (pts_one h) fun sg H Q ⟨ρ, T, F, hl, r, ee⟩ => ?_
  unfold evTs at ee
  exact useT hl r (show evT G c ρ _ from ee) fun b ρ1 F1 H1 k s p l q => k F1 H1 s l q
theorem drop_lt {α : Type} {l : List α} {i : Nat} (h : i < l.length) : l.drop i = l[i] :: l.drop (i + 1) := (List.drop_eq_getElem_cons h)
theorem lc_read {own : List (Str × Nat)} {ce : CE} {ct : CT} {ci : CE} {cs : List CE} {K : PySem.W.Frag} {sg : L2.St} {H : Hp} {Q : VK} (nd : (own.map (·.2)).Nodup) (hsl : ∀ i, i ∈ ct.slots → i ∈ own.map (·.2)) (hvi : ∀ i, viOf ci = some i → i ∉ own.map (·.2))
    (h : tE K G (.comp own ce ct ci cs) sg H Q) : tLc (tI K G ci) (tG K ct) (tTs K G cs) (tE K G ce) (own.map (·.2)) sg H Q := by
  obtain ⟨ρ, T, F, hl, r, e⟩ := h
  unfold ev at e
  generalize own.map (·.2) = vs at nd hsl hvi e ⊢
  refine ⟨ρ, T, F, hl, r, ev_mono G (fun r1 ρ1 => srcQ_mono fun ds chk ρ1 z J F1 H1 s1 l1 q1 ok D hD => ?_) e⟩
  have hl1 : sg.length = ρ1.length := by rw [l1]; exact hl
  revert z
  generalize hst : (fun (d : PyData) (ρ : Env) (k : Option O → Env → Prop) => bindT ct (.dat d) ρ fun ρ => evTs G cs ρ fun b ρ => if b = true then ev G ce ρ fun r ρ => asO r ρ fun o ρ => k (some o) (wipeO ρ vs) else k none (wipeO ρ vs)) = stp
  intro z
  refine ⟨fun i m H => m = ds.length - i ∧ ∃ (ρ2 : Env) (F2 : Hp) (acc : List O), Sub F1 F2 ∧ ρ2.length = ρ1.length ∧ Rel K F2 H ((wipe sg vs).zip ρ2 ++ ((some (.ref D), .nd .lst acc) :: (savO sg ρ1 vs ++ T))) ∧
    loopC chk stp (ds.drop i) ρ2 acc _, ⟨ds.length, rfl, wipeO ρ1 vs, F1, [], .refl _, wipeO_len, ?_, z⟩, ?_⟩
  · have r1 := wipeIts hl1 q1 nd
    have r2 : Rel K F1 (upd H1 D (.lst [])) ((some (.ref D), .nd .lst []) :: ((wipe sg vs).zip (wipeO ρ1 vs) ++ (savO sg ρ1 vs ++ T))) := Rel.node (k := .lst) (vs := []) (os := []) rfl trivial r1 hD
    exact r2.perm List.perm_middle.symm
  · rintro i m H2 ⟨rfl, ρ2, F2, acc, s2, l2, r2, lp⟩
    have hw : (wipe sg vs).length = ρ2.length := by rw [wipe_length, l2]; exact hl1
    have vi : ∀ j, viOf ci = some j → (wipe sg vs)[j]? = sg[j]? := fun j hj => wipe_out (hvi j hj)
    by_cases hi : i < ds.length
    · rw [drop_lt hi] at lp
      unfold loopC at lp
      obtain ⟨lc, lp⟩ := lp
      refine .inr ⟨ok.go i _ _ _ _ _ hi s2 r2 lc vi, fun H' => ∃ (ρ2 : Env) (F2 : Hp) (acc : List O), Sub F1 F2 ∧ ρ2.length = ρ1.length ∧ Rel K F2 H' ((wipe sg vs).zip ρ2 ++ ((some (.ref D), .nd .lst acc) :: (savO sg ρ1 vs ++ T))) ∧ loopC chk stp (ds.drop (i + 1)) ρ2 acc _, fun H' n => ⟨ds.length - (i + 1), by omega, rfl, n⟩, fun x H3 y => ?_⟩
      obtain ⟨F3, d, ed, s3, dn, r3⟩ := ok.yld i _ _ _ _ _ x H3 hi s2 r2 lc vi y
      have ed' : ds[i] = d := by
        rw [List.getElem?_eq_getElem hi] at ed
        exact Option.some.inj ed
      rw [ed'] at lp
      subst hst
      refine ⟨ρ2, _, F3, .dat d, hw, r3.cons_dat dn, bindT_mono (fun ρ4 z sg4 a4 l4 r4 => ?_) lp⟩
      have we : wipe sg4 vs = wipe sg vs := wipe_eq (by rw [a4.1, wipe_length]) fun j hj => (a4.2 j fun q => hj (hsl j q)).trans (wipe_out hj)
      have hl4 : sg4.length = ρ4.length := by rw [a4.1, l4]; exact hw
      refine ⟨we, ρ4, _, F3, hl4, r4, evTs_mono G (fun b ρ5 z F5 H5 s5 l5 r5 => ?_) z⟩
      have back : ∀ {ρ6 : Env} {F6 H6 : Hp} {acc : List O}, ρ6.length = ρ4.length → Rel K F6 H6 (sg4.zip ρ6 ++ ((some (.ref D), .nd .lst acc) :: (savO sg ρ1 vs ++ T))) → Rel K F6 H6 ((wipe sg vs).zip (wipeO ρ6 vs) ++ ((some (.ref D), .nd .lst acc) :: (savO sg ρ1 vs ++ T))) := fun {ρ6 F6 H6 acc} l6 r6 => by
        have z := wipeIts (by rw [l6]; exact hl4) r6 nd
        rw [we] at z
        exact Rel.drop (its := savO sg4 ρ6 vs) (z.perm perm_swap3)
      cases b with
      | false =>
        rw [if_neg (by decide)] at z
        show (if false = true then _ else _)
        rw [if_neg (by decide)]
        exact ⟨wipeO ρ5 vs, F5, acc, (s2.trans s3).trans s5, by rw [wipeO_len, l5, l4, l2], back l5 r5, z⟩
      | true =>
        rw [if_pos rfl] at z
        show (if true = true then _ else _)
        rw [if_pos rfl]
        refine useO (by rw [l5]; exact hl4) r5 z fun o ρ6 v6 F6 H6 k6 s6 _ l6 r6 => ?_
        obtain ⟨ka, kl⟩ := k6
        have r7 : Rel K F6 H6 ([(some v6, o)] ++ ((some (.ref D), .nd .lst acc) :: (sg4.zip ρ6 ++ (savO sg ρ1 vs ++ T)))) := r6.perm (List.Perm.cons _ List.perm_middle)
        obtain ⟨vs0, ha, hl0, hf0, mu⟩ := Rel.mutate (i := 0) (p := []) r7 rfl rfl rfl
        have res := mu [] [] .lst (vs0 ++ [v6]) (acc ++ [o]) (by simp [hl0]) trivial (by
          rw [zip_app hl0]
          simp)
        refine ⟨vs0, ha, by rw [hl0]; exact ka, wipeO ρ6 vs, F6, acc ++ [o], ((s2.trans s3).trans s5).trans s6, by rw [wipeO_len, l6, l5, l4, l2], back (l6.trans l5) ?_, kl⟩
        have res : Rel K F6 (upd H6 D (.lst (vs0 ++ [v6]))) ((some (.ref D), .nd .lst (acc ++ [o])) :: (sg4.zip ρ6 ++ (savO sg ρ1 vs ++ T))) := res
        exact res.perm List.perm_middle.symm
    · rw [List.drop_eq_nil_of_le (by omega)] at lp
      unfold loopC at lp
      obtain ⟨lc, lp⟩ := lp
      refine .inl ⟨ok.stop i _ _ _ _ _ (by omega) s2 r2 lc vi, ?_⟩
      refine lp (.ref D) F2 H2 (s1.trans s2) (fun z => nomatch z) (by rw [backO_len, l2, l1]) ?_
      have r3 : Rel K F2 H2 ((wipe sg vs).zip ρ2 ++ (savO sg ρ1 vs ++ ((some (.ref D), .nd .lst acc) :: T))) := r2.perm (List.Perm.append_left _ List.perm_middle.symm)
      exact (backIts hl1 nd l2 r3).perm List.perm_middle
theorem vs_comp {elt tg iter : Expr} {ifs : List Expr} {scope : Scope} {own : List (Str × Nat)} {pos : Pos} {ce : CE} {ct : CT} {ci : CE} {cs : List CE} (hc : X.calm = true) (hN : X.N.Nodup) (hi : PI X tg iter (tI X.K G ci)) (ok : BlkOk X.N X.env.scope scope own)
    (hg : ∀ (s : Shared) (H : Hp) (C : Addr) (cl : List (Str × Addr)) (fp : List Addr), PG (X.blk s H scope (compEnvC scope cl C X.env) fp) tg (tG X.K ct)) (ht : ∀ (s : Shared) (H : Hp) (C : Addr) (cl : List (Str × Addr)) (fp : List Addr), PTs (X.blk s H scope (compEnvC scope cl C X.env) fp) ifs (tTs X.K G cs))
    (he : ∀ (s : Shared) (H : Hp) (C : Addr) (cl : List (Str × Addr)) (fp : List Addr), PE (X.blk s H scope (compEnvC scope cl C X.env) fp) elt (tE X.K G ce)) (hs : ∀ x, foldedSetIterable iter X.env x = pure x)
    (nd : (own.map (·.2)).Nodup) (hsl : ∀ i, i ∈ ct.slots → i ∈ own.map (·.2)) (hvi : ∀ i, viOf ci = some i → i ∉ own.map (·.2)) :
    PE X (.ListComp elt [⟨tg, iter, ifs, 0⟩] scope pos) (tE X.K G (.comp own ce ct ci cs)) :=
  PE.weak (pe_lc hc hN hi ok hg ht he hs) fun sg H Q h => lc_read nd hsl hvi h
end
end VS

namespace VS
open PySem PySem.Spec PyProof.Rows L2
/-! ## which slots a statement may set -/
mutual
def CS.asg : CS → List Nat
  | .set t _ => t.slots
  | .par i j _ _ => [i, j]
  | .put _ _ _ => []
  | .aug i _ _ => [i]
  | .augP _ _ _ _ => []
  | .ex _ => []
  | .ret _ => []
  | .retN => []
  | .ife _ a b => CS.asgB a ++ CS.asgB b
  | .for_ t _ body => t.slots ++ CS.asgB body
  | .while_ _ body => CS.asgB body
  | .pass => []
  | .brk => []
  | .cont => []
  | .never => []
def CS.asgB : List CS → List Nat
  | [] => []
  | c :: cs => c.asg ++ CS.asgB cs
end
/-- what the state's ends want -/
def okK (K : PySem.W.Frag) (D : Ends) (A : List Nat) (sg : L2.St) (n : Nat) (T : Its) (F : Hp) : Kn where
  nx := fun ρ' => ∀ sg' F' H', Sub F F' → Agree A sg sg' → ρ'.length = n → Rel K F' H' (sg'.zip ρ' ++ T) → D.nx sg' H'
  rt := fun o ρ' => ∀ v sg' F' H', Sub F F' → Agree A sg sg' → ρ'.length = n → Rel K F' H' ((some v, o) :: (sg'.zip ρ' ++ T)) → D.rt v H'
  bk := fun ρ' => ∀ sg' F' H', Sub F F' → Agree A sg sg' → ρ'.length = n → Rel K F' H' (sg'.zip ρ' ++ T) → D.bk sg' H'
  ct := fun ρ' => ∀ sg' F' H', Sub F F' → Agree A sg sg' → ρ'.length = n → Rel K F' H' (sg'.zip ρ' ++ T) → D.ct sg' H'
theorem Agree.cut {A B : List Nat} {a b c : L2.St} (h : Agree A a b) (h2 : Agree B b c) (s : ∀ i, i ∈ B → i ∈ A) : Agree A a c := h.then (h2.mono s)
theorem okK_le {K : PySem.W.Frag} {D : Ends} {A B : List Nat} {sg sg1 : L2.St} {n n1 : Nat} {T : Its} {F F1 : Hp} (s : Sub F F1) (a : Agree A sg sg1) (e : n1 = n) (w : ∀ i, i ∈ B → i ∈ A) : (okK K D A sg n T F).Le (okK K D B sg1 n1 T F1) := by
  subst e
  exact ⟨fun ρ h sg' F' H' s' a' => h sg' F' H' (s.trans s') (a.cut a' w), fun o ρ h v sg' F' H' s' a' => h v sg' F' H' (s.trans s') (a.cut a' w), fun ρ h sg' F' H' s' a' => h sg' F' H' (s.trans s') (a.cut a' w), fun ρ h sg' F' H' s' a' => h sg' F' H' (s.trans s') (a.cut a' w)⟩
def tS (K : PySem.W.Frag) (G : Gm) (c : CS) : TS := fun D sg H => ∃ (ρ : Env) (T : Its) (F : Hp), sg.length = ρ.length ∧ Rel K F H (sg.zip ρ ++ T) ∧ evS G c ρ (okK K D c.asg sg ρ.length T F)
def tB (K : PySem.W.Frag) (G : Gm) (cs : List CS) : TS := fun D sg H => ∃ (ρ : Env) (T : Its) (F : Hp), sg.length = ρ.length ∧ Rel K F H (sg.zip ρ ++ T) ∧ evB G cs ρ (okK K D (CS.asgB cs) sg ρ.length T F)
theorem PS.weak {X : Cx} {e : Stmt} {t t' : TS} (h : PS X e t) (w : ∀ D sg H, t' D sg H → t D sg H) : PS X e t' := ⟨fun pn st sg H D I q => h.run pn st sg H D I (w _ _ _ q)⟩
theorem PSs.weak {X : Cx} {e : List Stmt} {t t' : TS} (h : PSs X e t) (w : ∀ D sg H, t' D sg H → t D sg H) : PSs X e t' := ⟨fun pn st sg H D I q => h.run pn st sg H D I (w _ _ _ q)⟩
section
variable {X : Cx} {G : Gm} {pos : Pos}
theorem vs_nil : PSs X [] (tB X.K G []) := PSs.weak pss_nil fun D sg H ⟨ρ, T, F, hl, r, e⟩ => e sg F H (.refl _) .refl rfl r
theorem vs_cons {st : Stmt} {rest : List Stmt} {c : CS} {cs : List CS} (h1 : PS X st (tS X.K G c)) (h2 : PSs X rest (tB X.K G cs)) : PSs X (st :: rest) (tB X.K G (c :: cs)) := by
  refine PSs.weak (pss_cons h1 h2) fun D sg H ⟨ρ, T, F, hl, r, e⟩ => ?_
  unfold evB at e
  refine ⟨ρ, T, F, hl, r, evS_mono G ⟨fun ρ1 z sg1 F1 H1 s1 a1 l1 r1 => ?_, ?_, ?_, ?_⟩ e⟩
  · have al : Agree (CS.asgB (c :: cs)) sg sg1 := a1.mono fun i hi => List.mem_append_left _ hi
    exact ⟨ρ1, T, F1, by rw [a1.1, l1]; exact hl, r1, evB_mono G (okK_le s1 al l1 fun i hi => List.mem_append_right _ hi) z⟩
  · exact (okK_le (.refl _) .refl rfl fun i hi => List.mem_append_left _ hi).rt
  · exact (okK_le (.refl _) .refl rfl fun i hi => List.mem_append_left _ hi).bk
  · exact (okK_le (.refl _) .refl rfl fun i hi => List.mem_append_left _ hi).ct
theorem vs_set {tg e : Expr} {t : CT} {c : CE} (he : PE X e (tE X.K G c)) (hg : PG X tg (tG X.K t)) (hs : swapsWithSole [tg] e pos.line X.env = pure false) (hw : swappedStores [tg] e X.env = pure none)
    (h1 : (assignEach [tg] X.env).map (·.2) = [assign tg X.env]) : PS X (.Assign [tg] e pos) (tS X.K G (.set t c)) := by
  refine PS.weak (ps_asg he hg hs hw h1) fun D sg H ⟨ρ, T, F, hl, r, ee⟩ => ?_
  unfold evS at ee
  refine useO hl r ee fun o ρ1 v F1 H1 k s p l q => ?_
  exact ⟨ρ1, T, F1, o, by rw [l]; exact hl, q, bindT_mono (fun ρ2 z sg2 a2 l2 r2 => z sg2 F1 H1 s a2 (l2.trans l) r2) k⟩
/-- name = [..] where the block's list goes straight into the name -/
theorem vs_setLc {i : Nat} {y : Str} {py : Pos} {elt tg iter : Expr} {ifs : List Expr} {scope : Scope} {own : List (Str × Nat)} {pos spos : Pos} {ce : CE} {ct : CT} {ci : CE} {cs : List CE} (hc : X.calm = true) (hN : X.N.Nodup) (hy : X.N[i]? = some y) (hyl : X.env.scope.names.lookup y = some .local)
    (hsw : swapsWith (.ListComp elt [⟨tg, iter, ifs, 0⟩] scope pos) (some (.Name y py)) spos.line X.env = pure true) (hi : PI X tg iter (tI X.K G ci)) (ok : BlkOk X.N X.env.scope scope own)
    (hg : ∀ (s : Shared) (H : Hp) (C : Addr) (cl : List (Str × Addr)) (fp : List Addr), PG (X.blk s H scope (compEnvC scope cl C X.env) fp) tg (tG X.K ct)) (ht : ∀ (s : Shared) (H : Hp) (C : Addr) (cl : List (Str × Addr)) (fp : List Addr), PTs (X.blk s H scope (compEnvC scope cl C X.env) fp) ifs (tTs X.K G cs))
    (he : ∀ (s : Shared) (H : Hp) (C : Addr) (cl : List (Str × Addr)) (fp : List Addr), PE (X.blk s H scope (compEnvC scope cl C X.env) fp) elt (tE X.K G ce)) (hs : ∀ x, foldedSetIterable iter X.env x = pure x)
    (nd : (own.map (·.2)).Nodup) (hsl : ∀ i, i ∈ ct.slots → i ∈ own.map (·.2)) (hvi : ∀ i, viOf ci = some i → i ∉ own.map (·.2)) :
    PS X (.Assign [.Name y py] (.ListComp elt [⟨tg, iter, ifs, 0⟩] scope pos) spos) (tS X.K G (.set (.nm i) (.comp own ce ct ci cs))) := by
  refine PS.weak (ps_setLc hc hN hy hyl hsw hi ok hg ht he hs) fun D sg H ⟨ρ, T, F, hl, r, ee⟩ => ?_
  unfold evS at ee
  refine lc_read nd hsl hvi (useO hl r ee fun o ρ1 v F1 H1 k s p l q => ?_)
  unfold bindT at k
  have hi : i < sg.length := by rw [hl, ← l]; exact k.1
  refine k.2 _ F1 H1 s ⟨by simp, fun j hj => ?_⟩ (by rw [List.length_set]; exact l) (q.store (y := sg[i]) (by simp [hi]) k.1)
  have hne : i ≠ j := fun z => hj (by rw [z]; exact List.mem_cons_self)
  rw [List.getElem?_set_ne hne]
theorem vs_par {i j : Nat} {x y : Str} {a b : Expr} {ca cb : CE} {px py pt : Pos} {kt k2 pt2} (hc : X.calm = true) (hN : X.N.Nodup) (hi : X.N[i]? = some x) (hj : X.N[j]? = some y)
    (hx : X.env.scope.names.lookup x = some .local) (hy : X.env.scope.names.lookup y = some .local) (l : PEl X G [a, b] [ca, cb]) (hij : i ≠ j)
    (hw : swappedStores [.Tuple [.Name x px, .Name y py] kt pt] (.Tuple [a, b] k2 pt2) X.env = pure (some [x, y]))
    (hs : swapsWithSole [.Tuple [.Name x px, .Name y py] kt pt] (.Tuple [a, b] k2 pt2) pos.line X.env = pure false) :
    PS X (.Assign [.Tuple [.Name x px, .Name y py] kt pt] (.Tuple [a, b] k2 pt2) pos) (tS X.K G (.par i j ca cb)) := by
  refine PS.weak (ps_par hc hN hi hj hij hx hy (vs_L l) hw hs) fun D sg H ⟨ρ, T, F, hl, r, ee⟩ => ?_
  unfold evS at ee
  refine ⟨ρ, T, F, hl, r, ?_⟩
  unfold evL
  refine ev_mono G (fun r ρ => asO_mono fun o ρ => ?_) ee
  intro ee
  unfold evL
  refine ev_mono G (fun r ρ => asO_mono fun u ρ => ?_) ee
  intro k
  unfold evL
  intro vs F' H' s p l lv lo q
  obtain ⟨v1, v2, rfl⟩ : ∃ v1 v2, vs = [v1, v2] := by
    match vs, lv with
    | [v1, v2], _ => exact ⟨v1, v2, rfl⟩
  obtain ⟨_, ki, kj, k⟩ := k
  have q : Rel X.K F' H' ((some v1, o) :: (some v2, u) :: (sg.zip ρ ++ T)) := q
  have q1 : Rel X.K F' H' ((some v1, o) :: (sg.zip ρ ++ ((some v2, u) :: T))) := q.perm (List.Perm.cons _ List.perm_middle.symm)
  have hi' : i < sg.length := by omega
  have hj' : j < sg.length := by omega
  have q2 := q1.store (y := sg[i]) (by simp [hi']) ki
  have q3 : Rel X.K F' H' ((some v2, u) :: ((sg.set i (some v1)).zip (ρ.set i o) ++ T)) := q2.perm List.perm_middle
  have q4 := q3.store (i := j) (y := sg[j]) (by rw [List.getElem?_set_ne hij]; simp [hj']) (by rw [List.length_set]; exact kj)
  refine ⟨v1, v2, rfl, k _ F' H' s ⟨by simp, fun m hm => ?_⟩ (by simp [l]) q4⟩
  have n1 : i ≠ m := fun z => hm (by rw [z]; exact List.mem_cons_self)
  have n2 : j ≠ m := fun z => hm (by rw [z]; exact List.mem_cons_of_mem _ List.mem_cons_self)
  rw [List.getElem?_set_ne n2, List.getElem?_set_ne n1]
theorem vs_ex {e : Expr} {c : CE} (he : PE X e (tE X.K G c)) (hs : swapsWith e none pos.line X.env = pure false) : PS X (.Expr e pos) (tS X.K G (.ex c)) := by
  refine PS.weak (ps_expr he hs) fun D sg H ⟨ρ, T, F, hl, r, ee⟩ => ?_
  unfold evS at ee
  exact useH hl r ee fun r1 ρ1 v F1 H1 k s p l q hd => k sg F1 H1 s .refl l q
theorem vs_doc {x : Str} {j : Nat} {p2 : Pos} : PS X (.Expr (.Constant (.str x) j p2) pos) (tS X.K G .pass) := PS.weak ps_doc fun D sg H ⟨ρ, T, F, hl, r, ee⟩ => ee sg F H (.refl _) .refl rfl r
theorem vs_pass : PS X (.Pass pos) (tS X.K G .pass) := PS.weak ps_pass fun D sg H ⟨ρ, T, F, hl, r, ee⟩ => ee sg F H (.refl _) .refl rfl r
theorem vs_brk : PS X (.Break pos) (tS X.K G .brk) := PS.weak ps_break fun D sg H ⟨ρ, T, F, hl, r, ee⟩ => ee sg F H (.refl _) .refl rfl r
theorem vs_cont : PS X (.Continue pos) (tS X.K G .cont) := PS.weak ps_continue fun D sg H ⟨ρ, T, F, hl, r, ee⟩ => ee sg F H (.refl _) .refl rfl r
theorem vs_never {st : Stmt} : PS X st (tS X.K G .never) := PS.weak ps_never fun D sg H ⟨ρ, T, F, hl, r, ee⟩ => by
  unfold evS at ee
  exact ee
theorem vs_ret {e : Expr} {c : CE} (he : PE X e (tE X.K G c)) : PS X (.Return (some e) pos) (tS X.K G (.ret c)) := by
  refine PS.weak (ps_ret he) fun D sg H ⟨ρ, T, F, hl, r, ee⟩ => ?_
  unfold evS at ee
  exact useO hl r ee fun o ρ1 v F1 H1 k s p l q => k v sg F1 H1 s .refl l q
theorem vs_retN : PS X (.Return none pos) (tS X.K G .retN) := PS.weak ps_retN fun D sg H ⟨ρ, T, F, hl, r, ee⟩ => ee .non sg F H (.refl _) .refl rfl (r.cons_dat .non)
theorem vs_if {c : Expr} {a b : List Stmt} {ct : CE} {ca cb : List CS} (hc : PT X c (tT X.K G ct)) (ha : PSs X a (tB X.K G ca)) (hb : PSs X b (tB X.K G cb)) : PS X (.If c a b pos) (tS X.K G (.ife ct ca cb)) := by
  refine PS.weak (ps_if hc ha hb) fun D sg H ⟨ρ, T, F, hl, r, ee⟩ => ?_
  unfold evS at ee
  refine useT hl r ee fun b1 ρ1 F1 H1 k s p l q => ?_
  cases b1 with
  | true =>
    rw [if_pos rfl] at k ⊢
    exact ⟨ρ1, T, F1, by rw [l]; exact hl, q, evB_mono G (okK_le s .refl l fun i hi => List.mem_append_left _ hi) k⟩
  | false =>
    rw [if_neg (by decide)] at k ⊢
    exact ⟨ρ1, T, F1, by rw [l]; exact hl, q, evB_mono G (okK_le s .refl l fun i hi => List.mem_append_right _ hi) k⟩
theorem vs_aug {i : Nat} {x : Str} {e : Expr} {c : CE} {op : Operator} {pos' : Pos} (ho : op = .Add ∨ op = .Sub) (hN : X.N.Nodup) (hi : X.N[i]? = some x) (hx : Loc X.env.scope x) (hf : X.fn x = true ∨ X.env.scope.names.lookup x = some .local) (he : PE X e (tE X.K G c)) :
    PS X (.AugAssign (.Name x pos') op e pos) (tS X.K G (.aug i op c)) := by
  have main : ∀ {f : Int → Int → Int}, (∀ {x d : PyData} {Q : PyData → Prop}, augD op x d Q → ∃ a b, x = .int a ∧ d = .int b ∧ Q (.int (f a b))) → PIp X op (ipI f) → PS X (.AugAssign (.Name x pos') op e pos) (tS X.K G (.aug i op c)) := fun {f} hf2 ip => by
    refine PS.weak (ps_aug hN hi hx he ip hf) fun D sg H ⟨ρ, T, F, hl, r, ee⟩ => ?_
    unfold evS at ee
    obtain ⟨o, eo, ee⟩ := optQ_some ee
    split at ee
    · rename_i d
      obtain ⟨z, ez⟩ : ∃ z, sg[i]? = some z := ⟨sg[i]'(by rw [hl]; exact lt_of_get eo), by simp⟩
      obtain ⟨w, ew, dn⟩ := Rel.dat (r.perm (perm_eraseIdx (its_get (T := T) ez eo)))
      subst ew
      refine ⟨w, ez, useD hl r ee fun d2 ρ1 v F1 H1 k s p l q dn2 => ?_⟩
      obtain ⟨a, b, rfl, rfl, k2⟩ := hf2 k
      cases dn
      cases dn2
      refine ⟨a, b, rfl, rfl, ?_⟩
      have hi1 : i < ρ1.length := by rw [l]; exact lt_of_get eo
      refine k2 _ F1 H1 s ⟨by simp, fun j hj => ?_⟩ (by simp [l]) (Rel.store (q.cons_dat (.int _)) ez hi1)
      have hne : i ≠ j := fun z => hj (by rw [z]; exact List.mem_cons_self)
      rw [List.getElem?_set_ne hne]
    · exact ee.elim
  rcases ho with rfl | rfl
  · refine main (f := fun a b => a + b) (fun {x d Q} h => ?_) ip_add
    unfold augD at h
    split at h
    · exact ⟨_, _, rfl, rfl, h⟩
    · cases ‹Operator.Add = _›
    · exact h.elim
  · refine main (f := fun a b => a - b) (fun {x d Q} h => ?_) ip_sub
    unfold augD at h
    split at h
    · cases ‹Operator.Sub = _›
    · exact ⟨_, _, rfl, rfl, h⟩
    · exact h.elim
/-! ### loops -/
theorem vs_for {tg iter : Expr} {body : List Stmt} {t : CT} {ci : CE} {cb : List CS} (hp : PassesOwn (model X.prog X.w) X.A X.env X.xe) (hc : X.calm = true) (hi : PI X tg iter (tI X.K G ci)) (hg : PG X tg (tG X.K t)) (hb : PSs X body (tB X.K G cb))
    (hs : ∀ x, foldedSetIterable iter X.env x = pure x) (hvi : ∀ i, viOf ci = some i → i ∉ t.slots ++ CS.asgB cb) : PS X (.For tg iter body [] pos) (tS X.K G (.for_ t ci cb)) := by
  refine PS.weak (ps_for hp hc hi hg hb hs) fun D sg H ⟨ρ, T, F, hl, r, e⟩ => ?_
  unfold evS at e
  refine ⟨ρ, T, F, hl, r, ev_mono G (fun r1 ρ1 => srcQ_mono fun ds chk ρ1 z J F1 H1 s1 l1 q1 ok => ?_) e⟩
  revert z
  generalize hA : (CS.for_ t ci cb).asg = A
  have hA1 : ∀ i, i ∈ t.slots → i ∈ A := fun i h => by rw [← hA]; exact List.mem_append_left _ h
  have hA2 : ∀ i, i ∈ CS.asgB cb → i ∈ A := fun i h => by rw [← hA]; exact List.mem_append_right _ h
  have hvi' : ∀ i, viOf ci = some i → i ∉ A := fun i h => by rw [← hA]; exact hvi i h
  generalize hst : (fun (d : PyData) (ρ2 : Env) (k : Env → Prop) => bindT t (.dat d) ρ2 fun ρ3 => evB G cb ρ3 { nx := k, rt := (okK X.K D A sg ρ.length T F).rt, bk := (okK X.K D A sg ρ.length T F).nx, ct := k }) = stp
  intro z
  refine ⟨fun i m sg2 H2 => m = ds.length - i ∧ ∃ (ρ2 : Env) (F2 : Hp), Sub F1 F2 ∧ ρ2.length = ρ.length ∧ Agree A sg sg2 ∧ Rel X.K F2 H2 (sg2.zip ρ2 ++ T) ∧ loopS chk stp (ds.drop i) ρ2 (okK X.K D A sg ρ.length T F).nx, ⟨ds.length, rfl, ρ1, F1, .refl _, l1, .refl, q1, z⟩, ?_⟩
  rintro i m sg2 H2 ⟨rfl, ρ2, F2, s2, l2, a2, r2, lp⟩
  have hw : sg2.length = ρ2.length := by rw [a2.1, l2]; exact hl
  have vi : ∀ j, viOf ci = some j → sg2[j]? = sg[j]? := fun j hj => a2.2 j (hvi' j hj)
  by_cases hi : i < ds.length
  · rw [drop_lt hi] at lp
    unfold loopS at lp
    obtain ⟨lc, lp⟩ := lp
    refine .inr ⟨ok.go i _ _ _ _ _ hi s2 r2 lc vi, fun sg' H' => ∃ (ρ2 : Env) (F2 : Hp), Sub F1 F2 ∧ ρ2.length = ρ.length ∧ Agree A sg sg' ∧ Rel X.K F2 H' (sg'.zip ρ2 ++ T) ∧ loopS chk stp (ds.drop (i + 1)) ρ2 (okK X.K D A sg ρ.length T F).nx, fun sg' H' n => ⟨ds.length - (i + 1), by omega, rfl, n⟩, fun x H3 y => ?_⟩
    obtain ⟨F3, d, ed, s3, dn, r3⟩ := ok.yld i _ _ _ _ _ x H3 hi s2 r2 lc vi y
    have ed' : ds[i] = d := by
      rw [List.getElem?_eq_getElem hi] at ed
      exact Option.some.inj ed
    rw [ed'] at lp
    subst hst
    refine ⟨ρ2, T, F3, .dat d, hw, r3.cons_dat dn, bindT_mono (fun ρ4 z sg4 a4 l4 r4 => ?_) lp⟩
    have a4' : Agree A sg sg4 := a2.then (a4.mono hA1)
    refine ⟨ρ4, T, F3, by rw [a4.1, l4]; exact hw, r4, evB_mono G ⟨fun ρ5 z sg5 F5 H5 s5 a5 l5 r5 => ?_, fun o ρ5 z => ?_, fun ρ5 z => ?_, fun ρ5 z sg5 F5 H5 s5 a5 l5 r5 => ?_⟩ z⟩
    · exact ⟨ρ5, F5, (s2.trans s3).trans s5, by rw [l5, l4, l2], a4'.cut a5 hA2, r5, z⟩
    · exact (okK_le (D := D) ((s1.trans s2).trans s3) a4' (by rw [l4, l2]) hA2).rt o ρ5 z
    · exact (okK_le (D := { D with bk := D.nx }) ((s1.trans s2).trans s3) a4' (by rw [l4, l2]) hA2).nx ρ5 z
    · exact ⟨ρ5, F5, (s2.trans s3).trans s5, by rw [l5, l4, l2], a4'.cut a5 hA2, r5, z⟩
  · rw [List.drop_eq_nil_of_le (by omega)] at lp
    unfold loopS at lp
    obtain ⟨lc, lp⟩ := lp
    exact .inl ⟨ok.stop i _ _ _ _ _ (by omega) s2 r2 lc vi, lp sg2 F2 H2 (s1.trans s2) a2 l2 r2⟩
theorem vs_while {c : Expr} {body : List Stmt} {ct : CE} {cb : List CS} (hp : PassesOwn (model X.prog X.w) X.A X.env X.xe) (hc : PT X c (tT X.K G ct)) (hb : PSs X body (tB X.K G cb)) : PS X (.While c body [] pos) (tS X.K G (.while_ ct cb)) := by
  refine PS.weak (ps_while hp hc hb) fun D sg H ⟨ρ, T, F, hl, r, e⟩ => ?_
  unfold evS at e
  obtain ⟨n, e⟩ := e
  revert e
  generalize hA : (CS.while_ ct cb).asg = A
  have hA2 : ∀ i, i ∈ CS.asgB cb → i ∈ A := fun i h => by rw [← hA]; exact h
  generalize hst : (fun (ρ2 : Env) (k : Env → Prop) => evB G cb ρ2 { nx := k, rt := (okK X.K D A sg ρ.length T F).rt, bk := (okK X.K D A sg ρ.length T F).nx, ct := k }) = stp
  intro e
  refine ⟨fun m sg2 H2 => ∃ (ρ2 : Env) (F2 : Hp), Sub F F2 ∧ ρ2.length = ρ.length ∧ Agree A sg sg2 ∧ Rel X.K F2 H2 (sg2.zip ρ2 ++ T) ∧ loopW (evT G ct) stp (okK X.K D A sg ρ.length T F).nx m ρ2, ⟨n, ρ, F, .refl _, rfl, .refl, r, e⟩, ?_⟩
  rintro m sg2 H2 ⟨ρ2, F2, s2, l2, a2, r2, lp⟩
  have hw : sg2.length = ρ2.length := by rw [a2.1, l2]; exact hl
  cases m with
  | zero => exact lp.elim
  | succ m =>
    unfold loopW at lp
    refine useT hw r2 lp fun b ρ3 F3 H3 k s3 _ l3 r3 => ?_
    cases b with
    | true =>
      rw [if_pos rfl] at k
      show (if true = true then _ else _)
      rw [if_pos rfl]
      refine ⟨fun sg' H' => ∃ (ρ2 : Env) (F2 : Hp), Sub F F2 ∧ ρ2.length = ρ.length ∧ Agree A sg sg' ∧ Rel X.K F2 H' (sg'.zip ρ2 ++ T) ∧ loopW (evT G ct) stp (okK X.K D A sg ρ.length T F).nx m ρ2, fun sg' H' z => ⟨m, by omega, z⟩, ?_⟩
      subst hst
      refine ⟨ρ3, T, F3, by rw [l3]; exact hw, r3, evB_mono G ⟨fun ρ5 z sg5 F5 H5 s5 a5 l5 r5 => ?_, fun o ρ5 z => ?_, fun ρ5 z => ?_, fun ρ5 z sg5 F5 H5 s5 a5 l5 r5 => ?_⟩ k⟩
      · exact ⟨ρ5, F5, (s2.trans s3).trans s5, by rw [l5, l3, l2], a2.cut a5 hA2, r5, z⟩
      · exact (okK_le (D := D) (s2.trans s3) a2 (by rw [l3, l2]) hA2).rt o ρ5 z
      · exact (okK_le (D := { D with bk := D.nx }) (s2.trans s3) a2 (by rw [l3, l2]) hA2).nx ρ5 z
      · exact ⟨ρ5, F5, (s2.trans s3).trans s5, by rw [l5, l3, l2], a2.cut a5 hA2, r5, z⟩
    | false =>
      rw [if_neg (by decide)] at k
      show (if false = true then _ else _)
      rw [if_neg (by decide)]
      exact k sg2 F3 H3 (s2.trans s3) a2 (l3.trans l2) r3
/-! ### o[k] = e -/
theorem putK_at {κ : Type} [DecidableEq κ] {k : κ} {v : V} : ∀ {ks : List κ} {vs : List V} {n : Nat}, keyPos k ks = some n → ks.length = vs.length → ks.Nodup → putK (ks.zip vs) k v = ks.zip (vs.set n v) := by
  have mp : ∀ {ks : List κ} {vs : List V}, k ∉ ks → (ks.zip vs).map (fun kv => if kv.1 = k then (kv.1, v) else kv) = ks.zip vs := by
    intro ks
    induction ks with
    | nil => intro vs _; simp
    | cons x ks ih =>
      intro vs h
      cases vs with
      | nil => simp
      | cons w vs =>
        have h1 : ¬ x = k := fun z => h (by rw [z]; exact List.mem_cons_self)
        rw [List.zip_cons_cons, List.map_cons, ih fun z => h (List.mem_cons_of_mem _ z), if_neg h1]
  have go : ∀ {ks : List κ} {vs : List V} {n : Nat}, keyPos k ks = some n → ks.length = vs.length → ks.Nodup → (((ks.zip vs).any fun kv => decide (kv.1 = k)) = true ∧ (ks.zip vs).map (fun kv => if kv.1 = k then (kv.1, v) else kv) = ks.zip (vs.set n v)) := by
    intro ks
    induction ks with
    | nil => intro vs n e; cases e
    | cons x ks ih =>
      intro vs n e h nd
      cases vs with
      | nil => simp at h
      | cons w vs =>
        obtain ⟨n1, n2⟩ := List.nodup_cons.mp nd
        unfold keyPos at e
        split at e
        · rename_i ex
          cases e
          subst ex
          refine ⟨by simp, ?_⟩
          rw [List.zip_cons_cons, List.map_cons, mp n1, if_pos rfl]
          simp
        · rename_i ex
          cases e2 : keyPos k ks with
          | none => rw [e2] at e; cases e
          | some m =>
            rw [e2] at e
            cases e
            obtain ⟨h1, h2⟩ := ih (vs := vs) e2 (by simpa using h) n2
            refine ⟨by rw [List.zip_cons_cons, List.any_cons, h1]; simp, ?_⟩
            rw [List.zip_cons_cons, List.map_cons, h2, if_neg ex]
            simp
  intro ks vs n e h nd
  obtain ⟨h1, h2⟩ := go e h nd
  unfold putK
  rw [if_pos h1, h2]
theorem keyPos_none {κ : Type} [DecidableEq κ] {k : κ} : ∀ {ks : List κ}, keyPos k ks = none → k ∉ ks
  | [], _, h => by simp at h
  | x :: ks, e, h => by
    unfold keyPos at e
    split at e
    · cases e
    · rename_i ex
      cases e2 : keyPos k ks with
      | some m => rw [e2] at e; cases e
      | none =>
        rcases List.mem_cons.mp h with z | z
        · exact ex z.symm
        · exact keyPos_none e2 z
theorem keyPos_lt {κ : Type} [DecidableEq κ] {k : κ} : ∀ {ks : List κ} {n : Nat}, keyPos k ks = some n → n < ks.length
  | [], _, e => by cases e
  | x :: ks, n, e => by
    unfold keyPos at e
    split at e
    · cases e; simp
    · cases e2 : keyPos k ks with
      | none => rw [e2] at e; cases e
      | some m =>
        rw [e2] at e
        cases e
        have := keyPos_lt e2
        simp; omega
theorem putK_out {κ : Type} [DecidableEq κ] {k : κ} {v : V} {ks : List κ} {vs : List V} (h : keyPos k ks = none) (hl : ks.length = vs.length) : putK (ks.zip vs) k v = (ks ++ [k]).zip (vs ++ [v]) := by
  rw [putK_new, List.zip_append hl]
  · rfl
  · intro z
    obtain ⟨p, hp, e⟩ := List.mem_map.mp z
    exact keyPos_none h (e ▸ (List.of_mem_zip hp).1)
theorem ixN_lt {n : Nat} {i : Int} {k : Nat} (h : ixN n i = some k) : k < n := by
  unfold ixN at h
  by_cases h0 : 0 ≤ i
  · rw [if_pos h0] at h
    by_cases h1 : i < n
    · rw [if_pos h1] at h
      cases h
      omega
    · rw [if_neg h1] at h; cases h
  · rw [if_neg h0] at h
    by_cases h1 : -(n : Int) ≤ i
    · rw [if_pos h1] at h
      cases h
      omega
    · rw [if_neg h1] at h; cases h
def rSetV : TSet := fun o i v H Q => rSetL o i v H Q ∨ rSetD o i v H Q
theorem set_V (hu : X.A.units + 1 < cLine) : PSet X rSetV := by
  intro pn st sg H o i v ov iv u Q I ro ri rv h
  rcases h with h | h
  · exact set_list pn st sg H o i v ov iv u Q I ro ri rv h
  · exact set_dict hu pn st sg H o i v ov iv u Q I ro ri rv h
theorem set_perm {vs : List V} {os : List O} {n : Nat} {v : V} {z : O} (hl : vs.length = os.length) (hn : n < os.length) : ∃ old, ((((vs.set n v).map some).zip (os.set n z) ++ ([] : Its)) ++ [old]).Perm ((vs.map some).zip os ++ [(some v, z)]) := by
  have hv : n < ((vs.map some).zip os).length := by simp; omega
  refine ⟨((vs.map some).zip os)[n], ?_⟩
  have e : ((vs.set n v).map some).zip (os.set n z) = ((vs.map some).zip os).set n (some v, z) := by
    rw [List.map_set, zip_set2]
  rw [e, List.append_nil]
  have p1 := perm_set (b := ((some v, z) : Option V × O)) hv
  have p2 : ((vs.map some).zip os).Perm (((vs.map some).zip os)[n] :: ((vs.map some).zip os).eraseIdx n) := perm_eraseIdx (List.getElem?_eq_getElem hv)
  refine (List.Perm.append_right _ p1).trans ?_
  refine List.Perm.trans ?_ (List.Perm.append_right _ p2).symm
  refine (List.perm_append_comm (l₂ := [((vs.map some).zip os)[n]])).trans ?_
  refine List.Perm.cons _ ?_
  exact (List.perm_append_comm (l₁ := [(some v, z)]))
theorem put_step {K : PySem.W.Frag} {F H : Hp} {sg : L2.St} {ρ3 : Env} {T : Its} {i : Nat} {p : List Nat} {t z : O} {v0 v1 v2 v3 : V} {kd : PyData} {P : O → Prop} {Qn : Hp → Prop} (q : Rel K F H ((some v1, z) :: (sg.zip ρ3 ++ T))) (et : getS ρ3 i p = some t) (e0 : sg[i]? = some (some v0)) (dw : desc H v0 p v2) (dk : Dn K F v3 kd) (k3 : putO t kd z P)
    (fin0 : ∀ t' Hn, Rel K F Hn (sg.zip (setS ρ3 i p t') ++ T) → P t' → Qn Hn) : rSetV v2 v3 v1 H Qn := by
  obtain ⟨o0, eo, g0⟩ := getS_some et
  have q' : Rel K F H ([(some v1, z)] ++ (sg.zip ρ3 ++ T)) := q
  have q3 : Rel K F H (sg.zip ρ3 ++ T) := q.tail
  have fin : ∀ {t' : O} {Hn : Hp}, Rel K F Hn ([] ++ (sg.zip ρ3 ++ T).set i (some v0, o0.setP p t')) → P t' → Qn Hn := fun {t' Hn} rr kk => by
    rw [its_set e0 (lt_of_get eo)] at rr
    refine fin0 t' Hn ?_ kk
    rw [setS_eq eo]
    exact rr
  unfold putO at k3
  split at k3
  · rename_i os
    split at k3
    · obtain ⟨n, en, k3⟩ := optQ_some k3
      obtain ⟨a, vs, rfl, hb1, hl1, _⟩ := q3.seeAt et e0 dw
      obtain ⟨vs', ha', hl', hf', mu⟩ := Rel.mutate q' (its_get (T := T) e0 eo) g0 dw
      rw [hb1] at ha'
      cases ha'
      cases dk
      have hn := (ixN_lt en)
      obtain ⟨old, pm⟩ := set_perm (v := v1) (z := z) hl1 hn
      refine .inl ⟨a, vs, _, n, rfl, rfl, hb1, by rw [hl1]; exact en, ?_⟩
      exact fin (mu [] [old] .lst (vs.set n v1) (os.set n z) (by simp [hl1]) trivial pm) k3
    · exact k3.elim
  · rename_i ks os
    obtain ⟨kk, ek, k3⟩ := optQ_some k3
    obtain ⟨a, vs, rfl, hb1, hl1, hf1⟩ := q3.seeAt et e0 dw
    obtain ⟨vs', ha', hl', hf', mu⟩ := Rel.mutate q' (its_get (T := T) e0 eo) g0 dw
    have hb2 : H a = some (.dK (ks.zip vs)) := hb1
    have lz : (ks.zip vs).length = ks.length := by rw [List.length_zip, hf1.1]; omega
    split at k3
    · rename_i n en
      obtain ⟨lt, k3⟩ := k3
      have hn : n < os.length := by have := keyPos_lt en; rw [hf1.1] at this; omega
      obtain ⟨old, pm⟩ := set_perm (v := v1) (z := z) hl1 hn
      refine .inr ⟨a, upd H a (.dK (ks.zip (vs.set n v1))), rfl, ?_, fin (mu [] [old] (.dk ks) (vs.set n v1) (os.set n z) (by simp [hl1]) (by
        show ks.length = _ ∧ ks.Nodup
        rw [List.length_set, ← hl1]
        exact hf1) (by
        have e : vs' = vs := by
          have z : HO.dK (ks.zip vs') = HO.dK (ks.zip vs) := Option.some.inj (ha'.symm.trans hb2)
          have z2 : ks.zip vs' = ks.zip vs := HO.dK.inj z
          have z3 := congrArg (List.map Prod.snd) z2
          rw [List.map_snd_zip (by rw [hf'.1]; exact Nat.le_refl _), List.map_snd_zip (by rw [hf1.1]; exact Nat.le_refl _)] at z3
          exact z3
        rw [e]
        exact pm)) k3⟩
      rw [← putK_at en hf1.1 hf1.2, keyD_V dk ek]
      exact DPut.k hb2 (by rw [lz]; exact lt)
    · rename_i en
      obtain ⟨lt, k3⟩ := k3
      refine .inr ⟨a, upd H a (.dK ((ks ++ [kk]).zip (vs ++ [v1]))), rfl, ?_, fin (mu [] [] (.dk (ks ++ [kk])) (vs ++ [v1]) (os ++ [z]) (by simp [hl1]) (by
        show (ks ++ [kk]).length = _ ∧ (ks ++ [kk]).Nodup
        refine ⟨by simp [hf1.1, hl1], List.nodup_append.mpr ⟨hf1.2, by simp, fun x hx y hy e => ?_⟩⟩
        have ey : y = kk := by simpa using hy
        exact keyPos_none en (by rw [← ey, ← e]; exact hx)) (by
        have e : vs' = vs := by
          have z : HO.dK (ks.zip vs') = HO.dK (ks.zip vs) := Option.some.inj (ha'.symm.trans hb2)
          have z2 : ks.zip vs' = ks.zip vs := HO.dK.inj z
          have z3 := congrArg (List.map Prod.snd) z2
          rw [List.map_snd_zip (by rw [hf'.1]; exact Nat.le_refl _), List.map_snd_zip (by rw [hf1.1]; exact Nat.le_refl _)] at z3
          exact z3
        rw [e, zip_app hl1]
        simp)) k3⟩
      rw [← putK_out en hf1.1, keyD_V dk ek]
      exact DPut.k hb2 (by rw [lz]; exact lt)
  · rename_i ks os
    obtain ⟨kk, ek, k3⟩ := optQ_some k3
    obtain ⟨a, vs, rfl, hb1, hl1, hf1⟩ := q3.seeAt et e0 dw
    obtain ⟨vs', ha', hl', hf', mu⟩ := Rel.mutate q' (its_get (T := T) e0 eo) g0 dw
    have hb2 : H a = some (.dT (ks.zip vs)) := hb1
    have lz : (ks.zip vs).length = ks.length := by rw [List.length_zip, hf1.1]; omega
    obtain ⟨b, eb, hbb⟩ := keyT_V dk ek
    have hbb' := q3.sub _ _ hbb
    have e : vs' = vs := by
      have z : HO.dT (ks.zip vs') = HO.dT (ks.zip vs) := Option.some.inj (ha'.symm.trans hb2)
      have z2 : ks.zip vs' = ks.zip vs := HO.dT.inj z
      have z3 := congrArg (List.map Prod.snd) z2
      rw [List.map_snd_zip (by rw [hf'.1]; exact Nat.le_refl _), List.map_snd_zip (by rw [hf1.1]; exact Nat.le_refl _)] at z3
      exact z3
    split at k3
    · rename_i n en
      obtain ⟨lt, k3⟩ := k3
      have hn : n < os.length := by have := keyPos_lt en; rw [hf1.1] at this; omega
      obtain ⟨old, pm⟩ := set_perm (v := v1) (z := z) hl1 hn
      refine .inr ⟨a, upd H a (.dT (ks.zip (vs.set n v1))), rfl, ?_, fin (mu [] [old] (.dt ks) (vs.set n v1) (os.set n z) (by simp [hl1]) (by
        show ks.length = _ ∧ ks.Nodup
        rw [List.length_set, ← hl1]
        exact hf1) (by rw [e]; exact pm)) k3⟩
      rw [← putK_at en hf1.1 hf1.2, eb]
      exact DPut.t hb2 hbb' (by rw [lz]; exact lt)
    · rename_i en
      obtain ⟨lt, k3⟩ := k3
      refine .inr ⟨a, upd H a (.dT ((ks ++ [kk]).zip (vs ++ [v1]))), rfl, ?_, fin (mu [] [] (.dt (ks ++ [kk])) (vs ++ [v1]) (os ++ [z]) (by simp [hl1]) (by
        show (ks ++ [kk]).length = _ ∧ (ks ++ [kk]).Nodup
        refine ⟨by simp [hf1.1, hl1], List.nodup_append.mpr ⟨hf1.2, by simp, fun x hx y hy e => ?_⟩⟩
        have ey : y = kk := by simpa using hy
        exact keyPos_none en (by rw [← ey, ← e]; exact hx)) (by
        rw [e, zip_app hl1]
        simp)) k3⟩
      rw [← putK_out en hf1.1, eb]
      exact DPut.t hb2 hbb' (by rw [lz]; exact lt)
  · exact k3.elim
theorem vs_put (hu : X.A.units + 1 < cLine) {oe ke e : Expr} {co ck c : CE} {p2 : Pos} (ho : PE X oe (tE X.K G co)) (hk : PE X ke (tE X.K G ck)) (he : PE X e (tE X.K G c))
    (ha : ∀ v, assign (.Subscript oe ke p2) X.env v = (do
      let ov ← holding [v] (eval oe X.env)
      let iv ← holding [v, ov] (eval ke X.env)
      standAt p2
      holding [v, ov, iv] (setItem ov iv v)
      release [v, ov, iv] []))
    (hs : swapsWithSole [.Subscript oe ke p2] e pos.line X.env = pure false) (hw : swappedStores [.Subscript oe ke p2] e X.env = pure none) : PS X (.Assign [.Subscript oe ke p2] e pos) (tS X.K G (.put co ck c)) := by
  refine PS.weak (ps_asg he (pg_sub ho hk (set_V hu) ha) hs hw rfl) fun D sg H ⟨ρ, T, F, hl, r, ee⟩ => ?_
  unfold evS at ee
  refine useO hl r ee fun z ρ1 v1 F1 H1 k1 s1 p1 l1 q1 => ?_
  have q1' : Rel X.K F1 H1 (sg.zip ρ1 ++ ((some v1, z) :: T)) := q1.perm List.perm_middle.symm
  refine use (by rw [l1]; exact hl) q1' k1 fun ra ρ2 v2 F2 H2 k2 s2 p2 l2 q2 => ?_
  split at k2
  · rename_i i p
    obtain ⟨q2, v0, e0, d0⟩ := q2
    refine useD (by rw [l2, l1]; exact hl) q2 k2 fun kd ρ3 v3 F3 H3 k3 s3 p3 l3 q3 dk => ?_
    obtain ⟨st, k3⟩ := k3
    obtain ⟨t, et, k3⟩ := optQ_some k3
    have hd : Held X.K F3 H3 sg v2 (.pl i p) := Held.keep (H := H2) (F := F2) ⟨v0, e0, d0⟩ s3 (st.imp _root_.id p3)
    obtain ⟨w0, ew, dw⟩ := hd
    rw [e0] at ew
    cases ew
    exact put_step (q3.perm List.perm_middle) et e0 dw dk k3 fun t' Hn rr kk => kk sg F3 Hn ((s1.trans s2).trans s3) .refl (by rw [setS_len, l3, l2, l1]) rr
  · exact k2.elim
/-! ### o[k] op= e -/
def rGetV (K : PySem.W.Frag) : V → V → Hp → VK → Prop := fun x y H Q => (∃ p xs i z, x = .ref p ∧ y = .int i ∧ SqL K H p xs ∧ L2.atI xs i = some z ∧ Q z H) ∨ ∃ a v, x = .ref a ∧ DGet H a y (some v) ∧ Q v H
theorem get_V (hu : X.A.units + 1 < cLine) : PGet X (rGetV X.K) := by
  intro pn st sg Hh x y ov iv Q I rx ry h
  rcases h with ⟨p, xs, i, z, rfl, rfl, hq, he, q⟩ | ⟨a, w, rfl, g, q⟩
  · obtain rfl : ov = Value.ref p := rx
    obtain ⟨t, rfl⟩ := ry
    obtain ⟨us, r, pl, hz⟩ := I.list hq
    obtain ⟨j, h1, h2, h3, h4, h5⟩ := atI_get he
    obtain ⟨w, ew, rw'⟩ := r.get h2
    have hlen := r.length
    have hn := line63
    have done : EP X pn sg Q w st := ⟨z, Hh, I, rw', q⟩
    by_cases h0 : 0 ≤ i
    · rw [seqIndex_of h0 h5] at h1
      have hj : i.toNat = j := Option.some.inj h1
      exact wpAny_getItem_list pl.isList h0 (by omega) (by rw [hj]; simpa using ew) done
    · rw [seqIndex_neg (by omega) h4] at h1
      have hj : (i + (us.toArray.size : Int)).toNat = j := by
        rw [List.size_toArray, ← hlen]
        exact Option.some.inj h1
      exact wpAny_getItem_list_neg pl.isList (by omega) (by rw [List.size_toArray]; omega) (by omega) (by rw [hj]; simpa using ew) done
  · obtain rfl : ov = Value.ref a := rx
    exact d_getItem hu I g ry fun w' s3 I3 rw' => ⟨w, Hh, I3, rw', q⟩
theorem get_step {K : PySem.W.Frag} {F H : Hp} {kd : NK} {a : Addr} {vs : List V} {os : List O} {n : Nat} {y : V} {d : PyData} {u : V} {Q : VK} (mo : mutO (.nd kd os)) (s : Sub F H) (ha : H a = some (hoOf kd vs)) (hl : vs.length = os.length) (hf : kd.fit vs.length) (hy : Dn K F y d) (e : kidx kd os.length d = some n) (hu : vs[n]? = some u) (q : Q u H) :
    rGetV K (.ref a) y H Q := by
  cases kd with
  | lst =>
    cases d with
    | int i =>
      cases hy
      refine .inl ⟨a, vs, i, u, rfl, rfl, SqL.of ha, ?_, q⟩
      unfold L2.atI
      have e : ixN os.length i = some n := e
      rw [hl, e]
      exact hu
    | _ => cases e
  | tup => exact mo.elim
  | dk ks =>
    have e : (match keyD d with | some k => keyPos k ks | none => none) = some n := e
    cases e1 : keyD d with
    | none => rw [e1] at e; cases e
    | some k =>
      rw [e1] at e
      have z := valV_keyPos (vs := vs) e hf.1
      rw [hu] at z
      refine .inr ⟨a, u, rfl, ?_, q⟩
      rw [← z, keyD_V hy e1]
      exact DGet.k ha
  | dt ks =>
    have e : (match keyT d with | some k => keyPos k ks | none => none) = some n := e
    cases e1 : keyT d with
    | none => rw [e1] at e; cases e
    | some k =>
      rw [e1] at e
      have z := valV_keyPos (vs := vs) e hf.1
      rw [hu] at z
      obtain ⟨b, eb, hb⟩ := keyT_V hy e1
      subst eb
      refine .inr ⟨a, u, rfl, ?_, q⟩
      rw [← z]
      exact DGet.t ha (s _ _ hb)
theorem vs_augP (hu : X.A.units + 1 < cLine) {oe ke e : Expr} {co ck c : CE} {op : Operator} {p2 : Pos} (hop : op = .Add ∨ op = .Sub) (ho : PE X oe (tE X.K G co)) (hk : PE X ke (tE X.K G ck)) (he : PE X e (tE X.K G c))
    (ha : ∀ ov iv new, augStore ke ov iv new = (do holding [new, ov, iv] (setItem ov iv new); release [new, ov, iv] []; pure .next)) : PS X (.AugAssign (.Subscript oe ke p2) op e pos) (tS X.K G (.augP co ck op c)) := by
  have main : ∀ {f : Int → Int → Int}, (∀ {x d : PyData} {Q : PyData → Prop}, augD op x d Q → ∃ a b, x = .int a ∧ d = .int b ∧ Q (.int (f a b))) → PIp X op (ipI f) → PS X (.AugAssign (.Subscript oe ke p2) op e pos) (tS X.K G (.augP co ck op c)) := fun {f} hf2 ip => by
    refine PS.weak (ps_augS ho hk (get_V hu) he ip (set_V hu) ha) fun D sg H ⟨ρ, T, F, hl, r, ee⟩ => ?_
    unfold evS at ee
    refine use hl r ee fun ra ρ1 v1 F1 H1 k1 s1 p1 l1 q1 => ?_
    split at k1
    · rename_i i p
      obtain ⟨q1, v0, e0, d0⟩ := q1
      refine useD (by rw [l1]; exact hl) q1 k1 fun kd ρ2 v2 F2 H2 k2 s2 p2 l2 q2 dk => ?_
      obtain ⟨stb, k2⟩ := k2
      obtain ⟨t, et, mo, k2⟩ := optQ_some k2
      have pu : shallow (.pl i p) = true ∨ (pureE ck = true ∧ pureE c = true) := stb.imp _root_.id fun z => ⟨and_l z, and_r z⟩
      have hd : Held X.K F2 H2 sg v1 (.pl i p) := Held.keep (H := H1) (F := F1) ⟨v0, e0, d0⟩ s2 (pu.imp _root_.id fun z => p2 z.1)
      obtain ⟨w0, ew, d2⟩ := id hd
      rw [e0] at ew
      cases ew
      obtain ⟨kd', os, rfl⟩ : ∃ kd' os, t = .nd kd' os := by
        cases t with
        | nd kd' os => exact ⟨kd', os, rfl⟩
        | un => exact mo.elim
        | dat d => exact mo.elim
      obtain ⟨a, vs, rfl, hb1, hl1, hf1⟩ := q2.seeAt et e0 d2
      unfold idxO at k2
      obtain ⟨n, en, k2⟩ := optQ_some k2
      obtain ⟨cc, ec, k2⟩ := optQ_some k2
      obtain ⟨o0, eo, g0⟩ := getS_some et
      obtain ⟨u, A, du, hown⟩ := q2.at (its_get (T := T) e0 eo) g0
      obtain rfl := desc_inj d2 du
      cases hown with
      | @nd aa _ vs2 _ A1 ha' hl' hf' l' =>
        obtain ⟨B, C, x, ex, _, hx, _⟩ := OwnL.hole l' ec
        obtain ⟨w, ew, hw⟩ : ∃ w, x = some w ∧ vs2[n]? = some w := by
          rw [List.getElem?_map] at ex
          cases q : vs2[n]? with
          | none => rw [q] at ex; cases ex
          | some w => rw [q] at ex; cases ex; exact ⟨w, rfl, rfl⟩
        subst ew
        refine get_step mo q2.sub ha' hl' (by rw [hl']; exact hf') dk en hw ?_
        split at k2
        · cases hx with
          | dat dn =>
            refine useD (by rw [l2, l1]; exact hl) q2 k2 fun d ρ3 v3 F3 H3 k3 s3 p3 l3 q3 dn3 => ?_
            obtain ⟨i1, i2, rfl, rfl, k4⟩ := hf2 k3
            cases dn
            cases dn3
            refine ⟨i1, i2, rfl, rfl, ?_⟩
            obtain ⟨t2, et2, k5⟩ := optQ_some k4
            obtain ⟨w0, ew, d3⟩ := hd.keep (H' := H3) s3 (pu.imp _root_.id fun z => p3 z.2)
            rw [e0] at ew
            cases ew
            exact put_step (q3.cons_dat (.int _)) et2 e0 d3 (dk.mono s3) k5 fun t' Hn rr kk => kk sg F3 Hn ((s1.trans s2).trans s3) .refl (by rw [setS_len, l3, l2, l1]) rr
        · exact k2.elim
        · exact k2.elim
    · exact k1.elim
  rcases hop with rfl | rfl
  · refine main (f := fun a b => a + b) (fun {x d Q} h => ?_) ip_add
    unfold augD at h
    split at h
    · exact ⟨_, _, rfl, rfl, h⟩
    · cases ‹Operator.Add = _›
    · exact h.elim
  · refine main (f := fun a b => a - b) (fun {x d Q} h => ?_) ip_sub
    unfold augD at h
    split at h
    · cases ‹Operator.Sub = _›
    · exact ⟨_, _, rfl, rfl, h⟩
    · exact h.elim
end
end VS

namespace VS
open PySem PySem.Spec PyProof.Rows L2
/-! ## a def by its body -/
section
variable {P : Program} {w : World} {K : PySem.W.Frag} {mg : Str → Option Value} {base : Heap}
theorem fnG_of {x qual : Str} {st : Stmt} {f : Addr} {fd : FuncData} {N ps : List Str} {k : Nat} {sp : Sp} (Fu : L2.Fun K x qual st f fd) (S : FnScope N ps (L2.defScope st)) (ln : ∀ vs H Q, sp vs H Q E0 → vs.length = ps.length)
    (bod : ∀ (cv : Value) (A : Around) (ot : List PySem.Env) (st1 : Shared) (H : Hp) (vs : List V) (Q : VK), Room k (A.deeper (envOfC qual (L2.defScope st) st1.heap.objs.size f cv)) → A.guards = some [] → sp vs H Q E0 →
      ∃ t, PSs (cxOf CX0 P w K mg base N qual (L2.defScope st) f cv A ot st1 H E0).nox (L2.defBody st) t ∧ t { nx := fun _ H' => Q .non H', rt := Q } (start N vs) H) : FnG P w K mg base (k + 1) f fd ps sp := by
  obtain ⟨c1, c2, c3, c4, c5, c6, cv, c8, c9, efd, lk, co⟩ := Fu.ex
  subst efd
  refine ⟨ln, fun A ot s1 H args us vs Q room gd en bt rv q => ?_⟩
  have kin : K.In s1.heap := en.mod.kin.keeps fun b o e => (en.bs b o e).1
  have nl : s1.heap.NoLimit := en.mod.nolimit.keeps fun b o e => (en.bs b o e).1
  have kinds : ∀ y ∈ ps.zip us, (L2.defScope st).names.lookup y.1 = some .local ∨ ((L2.defScope st).names.lookup y.1 = some .cell ∧ ((cellsFrom (s1.heap.objs.size + 1) (L2.defScope st).names []).lookup y.1).isSome = true) := by
    rintro ⟨y, u⟩ hm
    have hp := S.par y (List.of_mem_zip hm).1
    exact hp.imp _root_.id fun z => ⟨z, PySem.W.cellsFrom_some _ _ _ (.inl z)⟩
  have rd : PySem.Heap.CodeRec s1.heap cv qual := PySem.W.codeRec_of kin co
  refine codeAny_call_function room.depth (kin _ _ lk) rfl S.co S.gen rfl rd (bt _ _ _ _ ?_)
  refine wpAny_newFunctionEnv_cells S.kind kinds fun ev ee s2 ic => ?_
  subst ee
  obtain ⟨t, pt, tq⟩ := bod cv A ot s1 H vs Q (room.deeper _) gd q
  have I2 := inv_start (CX := CX0) (E := E0) S room.hd en (ln _ _ _ q) rv ic
  have go := pt.nox.run [] s2 (start N vs) H _ I2 tq
  refine ⟨nl.keeps ic.toInCall.keep, codeAny_func (wpAny_mono go (fun fl s3 hs => ?_) fun _ _ z => z)⟩
  cases fl with
  | next =>
    obtain ⟨sg', H', J, z⟩ := hs
    exact ⟨.non, H', J.os, J.bare, J.base, J.hok, rfl, z⟩
  | ret u =>
    obtain ⟨v, sg', H', J, ru, z⟩ := hs
    exact ⟨v, H', J.os, J.bare, J.base, J.hok, ru, z⟩
  | brk =>
    obtain ⟨_, _, _, z⟩ := hs
    exact z.elim
  | cont =>
    obtain ⟨_, _, _, z⟩ := hs
    exact z.elim
end
/-! ### the parameters that may be changed -/
def outO : List Bool → Env → List O
  | [], _ => []
  | b :: bs, [] => .un :: outO bs []
  | b :: bs, o :: ρ => (if b = true then o else .un) :: outO bs ρ
theorem outO_len : ∀ {io : List Bool} {ρ : Env}, (outO io ρ).length = io.length
  | [], _ => rfl
  | b :: bs, [] => by simp [outO, outO_len]
  | b :: bs, o :: ρ => by simp [outO, outO_len]
theorem Rel.outs {K : PySem.W.Frag} {F H : Hp} : ∀ {io : List Bool} {sg : L2.St} {ρ : Env} {vs : List V} {T : Its}, Rel K F H (sg.zip ρ ++ T) → sg.length = ρ.length → io.length = vs.length → io.length ≤ ρ.length → (∀ i : Nat, io[i]? = some true → sg[i]? = (vs[i]?).map some) →
    Rel K F H ((vs.map some).zip (outO io ρ) ++ T)
  | [], sg, ρ, [], T, r, _, _, _, _ => Rel.drop r
  | b :: bs, [], [], _, _, _, _, _, h, _ => by simp at h
  | b :: bs, x :: sg, o :: ρ, v :: vs, T, r, hl, h1, h2, h3 => by
    have r : Rel K F H ((x, o) :: (sg.zip ρ ++ T)) := r
    cases b with
    | true =>
      have ex : x = some v := by
        have z := h3 0 rfl
        simpa using z
      subst ex
      have r1 : Rel K F H (sg.zip ρ ++ ((some v, o) :: T)) := r.perm List.perm_middle.symm
      have z := Rel.outs (io := bs) (vs := vs) r1 (by simpa using hl) (by simpa using h1) (by simpa using h2) fun i hi => by simpa using h3 (i + 1) (by simpa using hi)
      exact z.perm List.perm_middle
    | false =>
      have z := Rel.outs (io := bs) (vs := vs) r.tail (by simpa using hl) (by simpa using h1) (by simpa using h2) fun i hi => by simpa using h3 (i + 1) (by simpa using hi)
      exact z.cons_un
def ioB (io : List Bool) (A : List Nat) : Bool := (List.range io.length).all fun i => !(decide (io[i]? = some true)) || !(decide (i ∈ A))
theorem ioB_of {io : List Bool} {A : List Nat} (h : ioB io A = true) {i : Nat} (hi : io[i]? = some true) : i ∉ A := by
  unfold ioB at h
  rw [List.all_eq_true] at h
  have z := h i (List.mem_range.mpr (lt_of_get hi))
  simp [hi] at z
  exact z
theorem Rel.blanks {K : PySem.W.Frag} {F H : Hp} {its : Its} (r : Rel K F H its) : ∀ n : Nat, Rel K F H ((List.replicate n (none : Option V)).zip (List.replicate n O.un) ++ its)
  | 0 => r
  | n + 1 => by
    rw [List.replicate_succ, List.replicate_succ]
    exact (Rel.blanks r n).cons_un
/-- what the body is to do -/
def FS.Ok (S : FS) (G : Gm) (cb : List CS) (n m : Nat) : Prop := ∀ os, os.length = n → S.pre os →
  evB G cb (os ++ List.replicate m .un) { nx := fun ρ' => S.post os (.dat .none) (outO S.io ρ'), rt := fun r ρ' => S.post os r (outO S.io ρ'), bk := fun _ => False, ct := fun _ => False }
theorem body_run {K : PySem.W.Frag} {G : Gm} {N : List Str} {n : Nat} {S : FS} {cb : List CS} {vs : List V} {H : Hp} {Q : VK} (hio : S.io.length = n) (hn : n ≤ N.length) (ib : ioB S.io (CS.asgB cb) = true) (ok : S.Ok G cb n (N.length - n)) (q : spOf K n S vs H Q E0) :
    tB K G cb { nx := fun _ H' => Q .non H', rt := Q } (start N vs) H := by
  obtain ⟨F, os, T, h1, h2, h3, r, pre, cont⟩ := q
  have ho : os.length = n := by omega
  have e0 : (start N vs).zip (os ++ List.replicate (N.length - n) O.un) = (vs.map some).zip os ++ (List.replicate (N.length - n) (none : Option V)).zip (List.replicate (N.length - n) O.un) := by
    unfold L2.start
    rw [h1, List.zip_append (by simp [h2])]
  have hl : (start N vs).length = (os ++ List.replicate (N.length - n) O.un).length := by
    unfold L2.start
    simp [h1, ho]
  have r0 : Rel K F H ((start N vs).zip (os ++ List.replicate (N.length - n) O.un) ++ T) := by
    rw [e0]
    have z := Rel.blanks r (N.length - n)
    refine z.perm ?_
    rw [List.append_assoc]
    exact perm_swap3
  have par : ∀ i, S.io[i]? = some true → (start N vs)[i]? = (vs[i]?).map some := fun i hi => by
    have z : i < vs.length := by have := lt_of_get hi; omega
    unfold L2.start
    rw [List.getElem?_append_left (by simpa using z), List.getElem?_map]
  have out : ∀ {res : O} {v : V} {sg' : L2.St} {ρ' : Env} {F' H' : Hp}, S.post os res (outO S.io ρ') → Sub F F' → Agree (CS.asgB cb) (start N vs) sg' → ρ'.length = (os ++ List.replicate (N.length - n) O.un).length → Rel K F' H' ((some v, res) :: (sg'.zip ρ' ++ T)) → Q v H' := fun {res v sg' ρ' F' H'} po s a l rr => by
    refine cont res _ v F' H' po (by rw [outO_len, hio, ho]) s ?_
    have r1 : Rel K F' H' (sg'.zip ρ' ++ ((some v, res) :: T)) := rr.perm List.perm_middle.symm
    have z := Rel.outs (io := S.io) (vs := vs) r1 (by rw [a.1, hl, l]) (by omega) (by rw [l, List.length_append, List.length_replicate]; omega) fun i hi => (a.2 i (ioB_of ib hi)).trans (par i hi)
    exact z.perm List.perm_middle
  refine ⟨_, T, F, hl, r0, evB_mono G ⟨fun ρ' z sg' F' H' s a l rr => out z s a l (rr.cons_dat .non), fun o ρ' z v sg' F' H' s a l rr => out z s a l rr, fun ρ' (z : False) => z.elim, fun ρ' (z : False) => z.elim⟩ (ok os ho pre)⟩
/-! ## the law -/
def scrD (ns : List Int) : PyData := .dict [(.none, .list (ns.map PyData.int))]
theorem dnInts {K : PySem.W.Frag} {H : Hp} : ∀ ns : List Int, DnL K H (ns.map V.int) (ns.map PyData.int)
  | [] => .nil
  | n :: ns => .cons (.int n) (dnInts ns)
/-- the law's promise: True, whatever the script -/
structure LawS (S : FS) (n : Nat) : Prop where
  io : S.io = [false]
  pre : ∀ ns : List Int, ns.length ≤ n → S.pre [.dat (scrD ns)]
  post : ∀ (ns : List Int) r os, S.post [.dat (scrD ns)] r os → r = .dat (.bool true)
theorem LawS.sp {S : FS} {n : Nat} (h : LawS S n) {K : PySem.W.Frag} {H : Hp} {a : Addr} {ns : List Int} (hn : ns.length ≤ n) (hS : SqL K H a (ns.map V.int)) : spOf K 1 S [.ref a] H (fun v _ => v = .bl true) E0 := by
  refine ⟨H, [.dat (scrD ns)], [], rfl, rfl, by rw [h.io]; rfl, ⟨.refl _, [], .cons (A := []) (.dat (.scr hS (dnInts ns))) .nil, List.nodup_nil, fun b z => nomatch z⟩, h.pre ns hn, fun r os' v F' H' po _ _ rr => ?_⟩
  have e := h.post ns r os' po
  subst e
  obtain ⟨u, eu, dn⟩ := Rel.dat rr
  cases eu
  cases dn
  rfl
theorem law_runs {P : Program} {w : World} {K : PySem.W.Frag} {mg mb : Str → Option Value} {k n : Nat} {fa a : Addr} {fd : FuncData} {x : Str} {S : FS} {s1 : Shared} {us : List Value} {ns : List Int}
    (kin : K.In s1.heap) (gs : s1.heap.Ns mainGlobals mg) (bs : s1.heap.Ns builtinsNs mb) (bb : ∀ x : Str, x ≠ "__name__" → mb x = bootBuiltins x) (nl : s1.heap.NoLimit) (ge : s1.gens = #[])
    (sm : SysD s1.heap) (at_ : s1.heap.get? a = some { cls := .type "list", data := .seq us.toArray }) (ia : IntsAre us ns) (lz : n ≤ sizeLine) (ln : ns.length ≤ n) (room : Room k callerA) (L : LawS S n)
    (Fb : ∀ base : Heap, K.In base → base.Ns mainGlobals mg → SysD base → FnG P w K mg base k fa fd [x] (spOf K 1 S)) (bt : ∀ (s : Shared) (u : Value), BindsTo s fd ⟨[u], []⟩ [(x, u)]) :
    codeAny (model P w) callerA (.call (.ref fa) ⟨[.ref a], []⟩) (fun r s' => r = .ok (.ret (.bool true)) ∧ OldK s1.heap s'.heap ∧ s'.os = s1.os ∧ AllBare s'.gens) s1 := by
  have vi := vals_ints ia
  have li : ns.length = us.length := by
    have z := vi.length
    rwa [List.length_map] at z
  -- over any abstract heap that knows at most the script
  have main : ∀ H : Hp, (∀ b u, H b = some u → b = a ∧ ∃ ob, u = .frz ob (.lst (ns.map V.int))) → SqL K H a (ns.map V.int) → HOk P w H s1.heap → (H a ≠ none → K.lookup a = none) →
      codeAny (model P w) callerA (.call (.ref fa) ⟨[.ref a], []⟩) (fun r s' => r = .ok (.ret (.bool true)) ∧ OldK s1.heap s'.heap ∧ s'.os = s1.os ∧ AllBare s'.gens) s1 := by
    intro H one hS hok hK
    have free : ∀ {b : Addr} {o : Obj} {es : Array DictEntry} {ep : Nat}, s1.heap.get? b = some o → o.data = .dict es ep → H b = none := fun {b o es ep} e d => by
      cases q : H b with
      | none => rfl
      | some u =>
        obtain ⟨rfl, _⟩ := one b u q
        rw [at_] at e
        cases e
        cases (show Data.seq us.toArray _ = Data.dict es ep from d)
    have names : ∀ {b : Addr} {m : Str → Option Value}, s1.heap.Ns b m → (hidT s1.heap H).Ns b m := fun {b m} ⟨o, es, ep, e, d, r⟩ => ⟨o, es, ep, hidT_get e (free e d), d, r⟩
    have kb : K.In (hidT s1.heap H) := fun b o e => by
      refine hidT_get (kin b o e) ?_
      cases q : H b with
      | none => rfl
      | some u =>
        obtain ⟨rfl, _⟩ := one b u q
        rw [hK (by rw [q]; exact fun z => nomatch z)] at e
        cases e
    have md : Mod K mg (hidT s1.heap H) := by
      obtain ⟨mc, n1, n2⟩ := nl
      exact ⟨kb, names gs, ⟨mb, names bs, bb⟩, ⟨mc, names n1, n2⟩⟩
    have en : Env0 P w K mg (hidT s1.heap H) callerA [] s1 H := by
      refine ⟨rfl, md, fun b o e => of_hidT e, Nat.le_of_eq (hidT_size _ _), trivial, fun b z => ?_, hok, .of_eq ge⟩
      exact absurd (show b ∈ ([] : List Addr) from z) (by simp)
    have sd : SysD (hidT s1.heap H) := by
      obtain ⟨o, es, ep, e, d⟩ := sm
      exact ⟨o, es, ep, hidT_get e (free e d), d⟩
    have run := (Fb _ kb (names gs) sd).run callerA [] s1 H ⟨[.ref a], []⟩ [.ref a] [.ref a] _ room rfl en (bt s1 (.ref a)) (.cons rfl .nil) (L.sp ln hS)
    refine codeAny_mono run fun res s2 hr => ?_
    match res, hr with
    | .ok (.ret u), hr =>
      obtain ⟨v, H2, o2, b2, un, hok2, ru, ev⟩ := hr
      have ev : v = .bl true := ev
      subst ev
      obtain rfl : u = Value.bool true := ru
      refine ⟨rfl, OldK.of_keep fun b o e => ?_, o2, b2⟩
      cases q : H b with
      | none => exact un.keep b o e q (fun z => absurd (show b ∈ ([] : List Addr) from z) (by simp)) (by simp)
      | some u =>
        obtain ⟨rfl, ob, rfl⟩ := one b u q
        obtain ⟨g1, _⟩ := hok _ _ q
        obtain ⟨g2, _⟩ := hok2 _ _ (un.frzs _ ob _ q)
        rw [e] at g1
        cases g1
        exact g2
  by_cases hk : K.lookup a = none
  · refine main (fun b => if b = a then some (.frz { cls := .type "list", data := .seq us.toArray } (.lst (ns.map V.int))) else none) (fun b u z => ?_) (.inl (.inr ⟨_, if_pos rfl⟩)) (fun b u z => ?_) fun _ => hk
    · by_cases hb : b = a
      · exact ⟨hb, _, (Option.some.inj ((if_pos hb).symm.trans z)).symm⟩
      · cases (if_neg hb).symm.trans z
    · by_cases hb : b = a
      · cases (if_pos hb).symm.trans z
        rw [hb]
        exact ⟨at_, by rw [List.length_map]; exact Nat.le_trans ln lz, us, _, vi, at_⟩
      · cases (if_neg hb).symm.trans z
  · obtain ⟨o, eo⟩ := Option.ne_none_iff_exists'.mp hk
    have e := kin a o eo
    rw [at_] at e
    cases e
    exact main (fun _ => none) (fun b u z => by cases z) (.inr ⟨_, us.toArray, _, eo, rfl, rfl, rfl, by rw [List.size_toArray, ← li]; exact Nat.le_trans ln lz, by simpa using vi⟩) (fun b u z => by cases (show (none : Option HO) = some u from z)) fun z => absurd rfl z
/-- what k_head leaves -/
theorem walk_G {l : PySem.W.OpenLaw} {n k : Nat} {q : Program} {loose : List Str} {XP : (Str → Option Value) → Heap → Prop} {YP : World → Heap → Prop} {d : DefRec} {K : Params → PySem.W.Frag} {S : FS} {x : Str}
    (hn : l.most = some n) (lz : n ≤ sizeLine) (nodf : d.params.defaults = []) (room : Room k callerA) (hY : ∀ (w : World) (h : Heap), YP w h → (K w.params).In h) (L : LawS S n) (hi : PyProof.Rows.importsNone q = true)
    (Fb : ∀ (w : World) (mg : Str → Option Value) (fa : Addr) (h : Heap), (K w.params).In h → h.Ns mainGlobals mg → mg d.name = some (.ref fa) →
      ∃ fd : FuncData, (∀ (s : Shared) (u : Value), BindsTo s fd ⟨[u], []⟩ [(x, u)]) ∧
        ∀ base : Heap, (K w.params).In base → base.Ns mainGlobals mg → SysD base → FnG l.prog w (K w.params) mg base k fa fd [x] (spOf (K w.params) 1 S)) :
    PySem.W.WalkO q loose XP YP l.row.toRowW d [] (fun f vs => PySem.call f vs) := by
  refine Att.attach_call hn nodf fun w s0 s1 mg mb fa o pm cd doc a us ns G Y _ _ _ hm hobj ia ln ge => ?_
  have kin := hY w _ Y
  obtain ⟨fd, bt, Fb⟩ := Fb w mg fa _ kin G.T.g hm
  obtain ⟨mm, hmm, _⟩ := (G.T.seer hi).mods
  exact law_runs kin G.T.g G.T.b G.T.builtins G.T.nolimit ge (.of_ns hmm) hobj ia lz ln room L Fb bt
end VS

namespace VS
open PySem PySem.Spec PyProof.Rows L2
/-! ## the text against the small language, by a look -/
structure Mc where
  N : List Str
  sc : Scope
  fn : Str → Bool
  bs : List Str
  fs : List Str
  cs : List Str
def Mc.blk (M : Mc) (scope : Scope) : Mc := { M with sc := relS scope M.sc, fn := fun x => scope.names.lookup x == some .cell }
inductive Md where
  | val
  | tst
  | it (tup : Bool)
def dbgB (x : Str) : Bool := (x == ("__debug__" : Str)) == false && (x == ("__classdict__" : Str)) == false
def visB (sc : Scope) (x : Str) : Bool := decide (sc.names.lookup x = some .local) || (decide (sc.names.lookup x = some .cell) || decide (sc.names.lookup x = some .free))
def locB (sc : Scope) (x : Str) : Bool := decide (sc.names.lookup x = some .local) || decide (sc.names.lookup x = some .cell)
def hfB (M : Mc) (x : Str) : Bool := M.fn x || decide (M.sc.names.lookup x = some .local)
def glB (M : Mc) (x : Str) : Bool := decide (M.sc.names.lookup x = some .globalImplicit) && dbgB x
def bltB (M : Mc) (x : Str) : Bool := glB M x && decide (x ∈ M.bs)
def nsB : Expr → Bool
  | .Starred _ _ => false
  | _ => true
def plainB : Expr → Bool
  | .Slice _ _ _ _ => false
  | _ => true
def plainT : Expr → Bool
  | .UnaryOp .Not _ _ => false
  | .BoolOp _ _ _ => false
  | .IfExp _ _ _ _ => false
  | .Compare _ _ _ _ => false
  | _ => true
def baseB : Expr → Bool
  | .Call (.Name _ _) [] [] _ => false
  | _ => true
def setB : Expr → Bool
  | .Set _ _ _ => false
  | _ => true
def tupB : Expr → Bool
  | .Tuple _ _ _ => true
  | _ => false
def varB (M : Mc) (i : Nat) : Expr → Bool
  | .Name x _ => decide (M.N[i]? = some x) && visB M.sc x && dbgB x
  | _ => false
mutual
def mG : CT → Mc → Expr → Bool
  | .nm i, M, e => match e with
    | .Name x _ => decide (M.N[i]? = some x) && locB M.sc x && hfB M x
    | _ => false
  | .tp ts, M, e => match e with
    | .Tuple es _ _ => mGs ts M es
    | _ => false
def mGs : List CT → Mc → List Expr → Bool
  | [], _, es => es.isEmpty
  | t :: ts, M, es => match es with
    | e :: es => nsB e && mG t M e && mGs ts M es
    | [] => false
end
def ndB (l : List Nat) : Bool := decide l.Nodup
def ownB (own : List (Str × Nat)) (tg : CT) (it : CE) : Bool := ndB (own.map (·.2)) && tg.slots.all (fun i => decide (i ∈ own.map (·.2))) && (match viOf it with
  | some i => !decide (i ∈ own.map (·.2))
  | none => true)
mutual
def mE : CE → Mc → Md → Expr → Bool
  | .var i, M, _, e => varB M i e
  | .io _, _, _, _ => false
  | .con x, M, _, e => match e with
    | .Name y _ => decide (x = y) && decide (x ∈ M.cs) && glB M x
    | _ => false
  | .non, _, _, e => match e with
    | .Constant .none _ _ => true
    | _ => false
  | .bl b, _, _, e => match e with
    | .Constant (.bool b2) _ _ => decide (b = b2)
    | _ => false
  | .int i, _, _, e => match e with
    | .Constant (.int j) _ _ => decide (i = j)
    | _ => false
  | .str x, _, _, e => match e with
    | .Constant (.str y) _ _ => decide (x = y)
    | _ => false
  | .tup es, M, _, e => match e with
    | .Tuple xs _ _ => mL es M false xs && decide (es.length ≤ 1000)
    | _ => false
  | .lst es, M, _, e => match e with
    | .List xs _ => mL es M false xs && decide (es.length ≤ 1000)
    | _ => false
  | .dct kvs, M, _, e => match e with
    | .Dict ks vs _ => mP kvs M ks vs && !ks.isEmpty && decide (ks.length ≤ 15)
    | _ => false
  | .dnew _, _, _, e => match e with
    | .Dict [] [] _ => true
    | _ => false
  | .bin op a b, M, _, e => match e with
    | .BinOp x op2 y _ => decide (op = op2) && mE a M .val x && mE b M .val y
    | _ => false
  | .neg a, M, _, e => match e with
    | .UnaryOp .USub x _ => mE a M .val x
    | _ => false
  | .cmp op a b, M, _, e => match e with
    | .Compare x [op2] [y] _ => decide (op = op2) && mE a M .val x && mE b M .val y && !behindInMarks op y
    | _ => false
  | .chn o1 o2 a b c, M, _, e => match e with
    | .Compare x [p1, p2] [y, z] _ => decide (o1 = p1) && decide (o2 = p2) && mE a M .val x && mE b M .val y && mE c M .val z && !lastMarks [o1, o2] [y, z]
    | _ => false
  | .bop isand es, M, md, e => match e with
    | .BoolOp op xs _ => decide (op = if isand then .And else .Or) && !xs.isEmpty && (match md with
      | .tst => mL es M true xs
      | _ => mL es M false xs)
    | _ => false
  | .nt a, M, md, e => match e with
    | .UnaryOp .Not x _ => (match md with
      | .tst => mE a M .tst x
      | _ => mE a M .val x)
    | _ => false
  | .ife t a b, M, md, e => match e with
    | .IfExp x y z _ => (match md with
      | .tst => false
      | _ => mE t M .tst x && mE a M .val y && mE b M .val z)
    | _ => false
  | .idx a i, M, _, e => match e with
    | .Subscript x y _ => mE a M .val x && mE i M .val y && plainB y
    | _ => false
  | .sl a lo hi, M, _, e => match e with
    | .Subscript x (.Slice l h none _) _ => mE a M .val x && mO lo M l && mO hi M h
    | _ => false
  | .rev a, M, _, e => match e with
    | .Subscript x (.Slice none none (some (.UnaryOp .USub (.Constant (.int 1) _ _) _)) _) _ => mE a M .val x
    | _ => false
  | .fl a, M, md, e => match md with
    | .val => mE a M .val e
    | _ => false
  | .frz a, M, md, e => match md with
    | .val => mE a M .val e
    | _ => false
  | .dctT kvs, M, _, e => match e with
    | .Dict ks vs _ => mP kvs M ks vs && !ks.isEmpty && decide (ks.length ≤ 15)
    | _ => false
  | .isi a T, M, _, e => match e with
    | .Call (.Name f _) [x, .Name t _] [] _ => decide (f = ("isinstance" : Str)) && decide (t = T.name) && bltB M "isinstance" && bltB M T.name && !decide (T = .none_) && mE a M .val x && nsB x
    | _ => false
  | .itv i, M, md, e => match md with
    | .it _ => varB M i e
    | _ => false
  | .mv i, M, _, e => varB M i e
  | .comp own elt tg it ifs, M, _, e => match e with
    | .ListComp x [⟨t, i, is, k⟩] scope _ => decide (k = 0) && blkC M.N M.sc scope own && ownB own tg it && setB i && mE it M (.it (tupB t)) i && mG tg (M.blk scope) t && mTs ifs (M.blk scope) is && mE elt (M.blk scope) .val x
    | _ => false
  | .call f args, M, _, e => match e with
    | .Call (.Name g _) xs [] _ => decide (f = g) && decide (f ∈ M.fs) && glB M f && mC args M xs
    | _ => false
  | .blt f args, M, _, e => match e with
    | .Call (.Name g _) xs [] _ => decide (g = f.name) && bltB M f.name && !xs.isEmpty && mL args M false xs
    | _ => false
  | .mth .join a args, M, _, e => match e with
    | .Call (.Attribute o nm ap) [x] [] pos => decide (nm = ("join" : Str)) && (ap.endLine == pos.line) && baseB o && mE a M .val o && mL args M false [x]
    | _ => false
  | .mmt m a args, M, _, e => match e with
    | .Call (.Attribute o nm ap) xs [] pos => (ap.endLine == pos.line) && baseB o && mE a M .val o && mL args M false xs && (match m with
      | .append => decide (nm = ("append" : Str)) && decide (xs.length = 1)
      | .extend => decide (nm = ("extend" : Str)) && decide (xs.length = 1)
      | .pop => decide (nm = ("pop" : Str)) && decide (xs.length ≤ 1))
    | _ => false
  | .rng args, M, md, e => match md, e with
    | .it _, .Call (.Name g _) xs [] _ => decide (g = ("range" : Str)) && bltB M "range" && mL args M false xs && (decide (xs.length = 1) || decide (xs.length = 2))
    | _, _ => false
  | .enu a, M, md, e => match md, e with
    | .it true, .Call (.Name g _) [x] [] _ => decide (g = ("enumerate" : Str)) && bltB M "enumerate" && nsB x && mE a M .val x
    | _, _ => false
  | .zip a b, M, md, e => match md, e with
    | .it true, .Call (.Name g _) [x, y] [] _ => decide (g = ("zip" : Str)) && bltB M "zip" && nsB x && nsB y && mE a M .val x && mE b M .val y
    | _, _ => false
  | .lzip a b, M, _, e => match e with
    | .Call (.Name f _) [.Call (.Name g _) [x, y] [] _] [] _ => decide (f = ("list" : Str)) && decide (g = ("zip" : Str)) && bltB M "list" && bltB M "zip" && nsB x && nsB y && mE a M .val x && mE b M .val y
    | _ => false
  | .rng3 a b, M, md, e => match md, e with
    | .it _, .Call (.Name g _) [x, y, .UnaryOp .USub (.Constant (.int 1) _ _) _] [] _ => decide (g = ("range" : Str)) && bltB M "range" && nsB x && nsB y && mE a M .val x && mE b M .val y
    | _, _ => false
  | .get1 a k, M, _, e => match e with
    | .Call (.Attribute o nm ap) [x] [] pos => (ap.endLine == pos.line) && baseB o && decide (nm = ("get" : Str)) && nsB x && mE a M .val o && mE k M .val x
    | _ => false
  | .get2 a k c, M, _, e => match e with
    | .Call (.Attribute o nm ap) [x, y] [] pos => (ap.endLine == pos.line) && baseB o && decide (nm = ("get" : Str)) && nsB x && nsB y && mE a M .val o && mE k M .val x && mE c M .val y
    | _ => false
  | .isin neg k a, M, _, e => match e with
    | .Compare x [op] [y] _ => decide (op = if neg = true then .NotIn else .In) && mE k M .val x && mE a M .val y && !behindInMarks op y
    | _ => false
  | .dof a, M, _, e => match e with
    | .Call (.Name f _) [x] [] _ => decide (f = ("dict" : Str)) && bltB M "dict" && nsB x && mE a M .val x
    | _ => false
  | .upd a c, M, _, e => match e with
    | .Call (.Attribute o nm ap) [x] [] pos => (ap.endLine == pos.line) && baseB o && decide (nm = ("update" : Str)) && nsB x && mE a M .val o && mE c M .val x
    | _ => false
  | .fst ps, M, _, e => match e with
    | .JoinedStr (x :: y :: xs) _ => mF ps M (x :: y :: xs)
    | _ => false
def mF : List CE → Mc → List Expr → Bool
  | [], _, xs => xs.isEmpty
  | c :: cs, M, xs => match xs with
    | x :: xs => (match x with
      | .FormattedValue y cv none _ => decide (cv = -1) && mE c M .val y
      | x => (match c with
        | .str _ => true
        | _ => false) && mE c M .val x) && mF cs M xs
    | [] => false
def mL : List CE → Mc → Bool → List Expr → Bool
  | [], _, _, xs => xs.isEmpty
  | c :: cs, M, b, xs => match xs with
    | x :: xs => (match b with
      | true => mE c M .tst x
      | false => nsB x && mE c M .val x) && mL cs M b xs
    | [] => false
def mP : List CE → Mc → List (Option Expr) → List Expr → Bool
  | [], _, ks, vs => ks.isEmpty && vs.isEmpty
  | [_], _, _, _ => false
  | k :: v :: r, M, ks, vs => match ks, vs with
    | some kx :: ks, vx :: vs => mE k M .val kx && mE v M .val vx && mP r M ks vs
    | _, _ => false
def mC : List CE → Mc → List Expr → Bool
  | [], _, xs => xs.isEmpty
  | c :: cs, M, xs => match xs with
    | x :: xs => (match c.ioOf with
      | some i => nsB x && varB M i x
      | none => nsB x && mE c M .val x) && mC cs M xs
    | [] => false
def mO : List CE → Mc → Option Expr → Bool
  | [], _, x => x.isNone
  | [c], M, x => match x with
    | some x => mE c M .val x
    | none => false
  | _, _, _ => false
def mTs : List CE → Mc → List Expr → Bool
  | [], _, xs => xs.isEmpty
  | [c], M, xs => match xs with
    | [x] => mE c M .tst x
    | _ => false
  | _, _, _ => false
end
/-- what is known of the context -/
structure VC (X : Cx) (G : Gm) (lvl : Nat) (M : Mc) : Prop where
  n : X.N = M.N
  nd : X.N.Nodup
  sc : X.env.scope = M.sc
  fn : ∀ x, M.fn x = true → X.fn x = true
  calm : X.calm = true
  room : Room lvl X.A
  gd : X.A.guards = some []
  sm : SysD X.base
  bs : ∀ x, x ∈ M.bs → X.mg x = none
  fs : ∀ f, f ∈ M.fs → ∃ S, G.fn f = some S ∧ FnI X.prog X.w X.K X.mg X.base lvl f S
  cs : ∀ x, x ∈ M.cs → ∃ d u v, G.con x = some d ∧ X.mg x = some u ∧ RelV v u ∧ ∀ H, Dn X.K H v d
section
variable {X : Cx} {G : Gm} {lvl : Nat} {M : Mc}
theorem VC.u1 (h : VC X G lvl M) : X.A.units + 1 < cLine := by have := h.room.un; omega
theorem VC.u65 (h : VC X G lvl M) : X.A.units + 65 < cLine := by have := h.room.un; omega
theorem VC.blk (h : VC X G lvl M) (s : Shared) (H : Hp) (scope : Scope) (C : Addr) (cl : List (Str × Addr)) (fp : List Addr) : VC (X.blk s H scope (compEnvC scope cl C X.env) fp) G lvl (M.blk scope) where
  n := h.n
  nd := h.nd
  sc := by rw [show (M.blk scope).sc = relS scope M.sc from rfl, ← h.sc]; rfl
  fn := fun _ z => z
  calm := h.calm
  room := h.room
  gd := h.gd
  sm := h.sm
  bs := h.bs
  fs := h.fs
  cs := h.cs
theorem visB_of {sc : Scope} {x : Str} (h : visB sc x = true) : Vis sc x := by
  unfold visB at h
  simpa [Vis] using h
theorem locB_of {sc : Scope} {x : Str} (h : locB sc x = true) : L2.Loc sc x := by
  unfold locB at h
  simpa [L2.Loc] using h
theorem dbgB_of {x : Str} (h : dbgB x = true) : (x == ("__debug__" : Str)) = false ∧ (x == ("__classdict__" : Str)) = false := by
  unfold dbgB at h
  simpa using h
theorem VC.gl (h : VC X G lvl M) {x : Str} (g : glB M x = true) : Gl X x ∧ (x == ("__debug__" : Str)) = false := by
  unfold glB at g
  have g1 := and_l g
  refine ⟨?_, (dbgB_of (and_r g)).1⟩
  show X.env.scope.names.lookup x = some .globalImplicit
  rw [h.sc]
  simpa using g1
theorem VC.blt (h : VC X G lvl M) {x : Str} (g : bltB M x = true) : Gl X x ∧ X.mg x = none ∧ (x == ("__debug__" : Str)) = false := by
  unfold bltB at g
  obtain ⟨g1, g2⟩ := h.gl (and_l g)
  exact ⟨g1, h.bs x (by simpa using and_r g), g2⟩
theorem VC.hf (h : VC X G lvl M) {x : Str} (g : hfB M x = true) : X.fn x = true ∨ X.env.scope.names.lookup x = some .local := by
  unfold hfB at g
  rw [h.sc]
  rcases Bool.or_eq_true_iff.mp g with g | g
  · exact .inl (h.fn x g)
  · exact .inr (by simpa using g)
theorem nsB_of {e : Expr} (h : nsB e = true) : NS X e := by
  cases e <;> first | (intro es; rfl) | cases h
theorem naB_of {e : Expr} (h : nsB e = true) : NA X e := by
  cases e <;> first | (intro es; rfl) | cases h
theorem plainB_of {e : Expr} (h : plainB e = true) : PlainIx e := by
  cases e <;> first | (intro o i; rfl) | cases h
theorem plainT_of {e : Expr} (h : plainT e = true) : ∀ whole, isTrue e X.env whole = (do let v ← whole; standAt e.pos; holding [v] (truthy v)) := by
  intro whole
  cases e with
  | UnaryOp op a p => cases op <;> first | rfl | cases h
  | BoolOp => cases h
  | IfExp => cases h
  | Compare => cases h
  | _ => rfl
theorem baseB_of {e : Expr} (h : baseB e = true) : ∀ i p q, e ≠ .Call (.Name i p) [] [] q := by
  rintro i p q rfl
  cases h
theorem setB_of {e : Expr} (h : setB e = true) : ∀ x, foldedSetIterable e X.env x = pure x := by
  intro x
  cases e <;> first | rfl | cases h
def Good (X : Cx) (G : Gm) (e : Expr) (c : CE) : Md → Prop
  | .val => PE X e (tE X.K G c)
  | .tst => PT X e (tT X.K G c)
  | .it b => ∀ tg, (b = true → ∃ es k p, tg = .Tuple es k p) → PI X tg e (tI X.K G c)
theorem good_of {e : Expr} {c : CE} (h : PE X e (tE X.K G c)) (ht : plainT e = true) : ∀ md, Good X G e c md
  | .val => h
  | .tst => vs_test h (plainT_of ht)
  | .it _ => fun tg _ => vs_itD h
theorem varB_of (h : VC X G lvl M) {i : Nat} {e : Expr} (g : varB M i e = true) : ∃ x p, e = .Name x p ∧ X.N[i]? = some x ∧ Vis X.env.scope x ∧ (x == ("__debug__" : Str)) = false ∧ (x == ("__classdict__" : Str)) = false := by
  unfold varB at g
  split at g
  · rename_i x p
    obtain ⟨d1, d2⟩ := dbgB_of (and_r g)
    refine ⟨x, p, rfl, ?_, ?_, d1, d2⟩
    · rw [h.n]
      simpa using and_l (and_l g)
    · rw [h.sc]
      exact visB_of (and_r (and_l g))
  · cases g
mutual
theorem mG_ok (h : VC X G lvl M) : ∀ {t : CT} {e : Expr}, mG t M e = true → PG X e (tG X.K t)
  | .nm i, e, g => by
    unfold mG at g
    split at g
    · refine vs_gname h.nd ?_ ?_ (h.hf (and_r g))
      · rw [h.n]
        simpa using and_l (and_l g)
      · rw [h.sc]
        exact locB_of (and_r (and_l g))
    · cases g
  | .tp ts, e, g => by
    unfold mG at g
    split at g
    · exact vs_gtup h.calm (mGs_ok h g)
    · cases g
theorem mGs_ok (h : VC X G lvl M) : ∀ {ts : List CT} {es : List Expr}, mGs ts M es = true → PGl X es ts
  | [], es, g => by
    unfold mGs at g
    rw [List.isEmpty_iff.mp g]
    exact .nil
  | t :: ts, es, g => by
    unfold mGs at g
    split at g
    · exact .cons (naB_of (and_l (and_l g))) (mG_ok h (and_r (and_l g))) (mGs_ok h (and_r g))
    · cases g
end
theorem bf_boot : ∀ f : BF, bootBuiltins f.name = some f.val ∧ f.name ≠ "__name__" := by
  intro f
  cases f <;> decide +kernel
theorem tn_boot : ∀ T : TN, T ≠ .none_ → bootBuiltins T.name = some (.type T.nm) ∧ T.name ≠ "__name__" := by
  intro T
  cases T <;> first | (intro _; decide +kernel) | exact fun z => absurd rfl z
theorem ownB_of {own : List (Str × Nat)} {tg : CT} {it : CE} (h : ownB own tg it = true) : (own.map (·.2)).Nodup ∧ (∀ i, i ∈ tg.slots → i ∈ own.map (·.2)) ∧ ∀ i, viOf it = some i → i ∉ own.map (·.2) := by
  unfold ownB ndB at h
  refine ⟨by simpa using and_l (and_l h), fun i hi => ?_, fun i hi => ?_⟩
  · have z := List.all_eq_true.mp (and_r (and_l h)) i hi
    simpa using z
  · have z := and_r h
    rw [hi] at z
    simpa using z
theorem tupB_of {e : Expr} (h : tupB e = true) : ∃ es k p, e = .Tuple es k p := by
  cases e <;> first | exact ⟨_, _, _, rfl⟩ | cases h
theorem one_len {α : Type} {l : List α} (h : l.length = 1) : ∃ a, l = [a] := List.length_eq_one_iff.mp h
theorem two_len {α : Type} {l : List α} (h : l.length = 2) : ∃ a b, l = [a, b] := by
  match l, h with
  | [a, b], _ => exact ⟨a, b, rfl⟩
theorem PEl.len {es : List Expr} {cs : List CE} (h : PEl X G es cs) : es.length = cs.length := by
  induction h with
  | nil => rfl
  | cons _ _ _ ih => simp [ih]
end
mutual
theorem mE_ok {G : Gm} {lvl : Nat} : ∀ (c : CE) {X : Cx} {M : Mc} {md : Md} {e : Expr}, VC X G lvl M → mE c M md e = true → Good X G e c md
  | .var i, X, M, md, e, h, g => by
    unfold mE at g
    obtain ⟨x, p, rfl, h1, h2, h3, h4⟩ := varB_of h g
    exact good_of (vs_var h1 h2 h3 h4) rfl md
  | .io _, X, M, md, e, h, g => by
    unfold mE at g
    cases g
  | .con x, X, M, md, e, h, g => by
    unfold mE at g
    split at g
    · obtain ⟨d, u, v, e1, e2, e3, e4⟩ := h.cs x (by simpa using and_r (and_l g))
      obtain ⟨g1, g2⟩ := h.gl (and_r g)
      have ex := of_decide_eq_true (and_l (and_l g))
      subst ex
      exact good_of (vs_con g1 e2 e3 g2 e1 e4) rfl md
    · cases g
  | .non, X, M, md, e, h, g => by
    unfold mE at g
    split at g
    · exact good_of vs_non rfl md
    · cases g
  | .bl b, X, M, md, e, h, g => by
    unfold mE at g
    split at g
    · obtain rfl := of_decide_eq_true g
      exact good_of vs_bl rfl md
    · cases g
  | .int i, X, M, md, e, h, g => by
    unfold mE at g
    split at g
    · obtain rfl := of_decide_eq_true g
      exact good_of vs_int rfl md
    · cases g
  | .str x, X, M, md, e, h, g => by
    unfold mE at g
    split at g
    · obtain rfl := of_decide_eq_true g
      exact good_of vs_str rfl md
    · cases g
  | .tup es, X, M, md, e, h, g => by
    unfold mE at g
    split at g
    · exact good_of (vs_tup ((mL_ok es h (and_l g)).1 rfl) (of_decide_eq_true (and_r g))) rfl md
    · cases g
  | .lst es, X, M, md, e, h, g => by
    unfold mE at g
    split at g
    · exact good_of (vs_lst ((mL_ok es h (and_l g)).1 rfl) (of_decide_eq_true (and_r g))) rfl md
    · cases g
  | .dct kvs, X, M, md, e, h, g => by
    unfold mE at g
    split at g
    · refine good_of (vs_dct (mP_ok kvs h (and_l (and_l g))) (fun z => ?_) (of_decide_eq_true (and_r g))) rfl md
      have q := and_r (and_l g)
      rw [z] at q
      cases q
    · cases g
  | .dnew tk, X, M, md, e, h, g => by
    unfold mE at g
    split at g
    · cases tk with
      | true => exact good_of vs_dnewT rfl md
      | false => exact good_of vs_dnewK rfl md
    · cases g
  | .bin op a b, X, M, md, e, h, g => by
    unfold mE at g
    split at g
    · obtain rfl := of_decide_eq_true (and_l (and_l g))
      exact good_of (vs_bin (mE_ok a h (and_r (and_l g))) (mE_ok b h (and_r g))) rfl md
    · cases g
  | .neg a, X, M, md, e, h, g => by
    unfold mE at g
    split at g
    · exact good_of (vs_neg (mE_ok a (md := .val) h g)) rfl md
    · cases g
  | .cmp op a b, X, M, md, e, h, g => by
    unfold mE at g
    split at g
    · have hm := and_r g
      have ga := and_r (and_l (and_l g))
      have gb := and_r (and_l g)
      obtain rfl := of_decide_eq_true (and_l (and_l (and_l g)))
      have hm := Bool.not_eq_true' _ |>.mp hm
      have pe := vs_cmp (pos := ‹Pos›) h.u65 (mE_ok a (md := .val) h ga) (mE_ok b (md := .val) h gb) hm
      cases md with
      | val => exact pe
      | tst => exact vs_cmp_test h.u65 (mE_ok a (md := .val) h ga) (mE_ok b (md := .val) h gb) hm
      | it t => exact fun tg _ => vs_itD pe
    · cases g
  | .chn o1 o2 a b c, X, M, md, e, h, g => by
    unfold mE at g
    split at g
    · have hm := Bool.not_eq_true' _ |>.mp (and_r g)
      have g := and_l g
      have gc := and_r g
      have gb := and_r (and_l g)
      have ga := and_r (and_l (and_l g))
      have g := and_l (and_l (and_l g))
      obtain rfl := of_decide_eq_true (and_l g)
      obtain rfl := of_decide_eq_true (and_r g)
      have pe := vs_chn (pos := ‹Pos›) h.u65 (mE_ok a (md := .val) h ga) (mE_ok b (md := .val) h gb) (mE_ok c (md := .val) h gc) hm
      cases md with
      | val => exact pe
      | tst => exact vs_chn_test h.u65 (mE_ok a (md := .val) h ga) (mE_ok b (md := .val) h gb) (mE_ok c (md := .val) h gc) hm
      | it t => exact fun tg _ => vs_itD pe
    · cases g
  | .bop isand es, X, M, md, e, h, g => by
    unfold mE at g
    split at g
    · have ho := of_decide_eq_true (and_l (and_l g))
      have ne : ‹List Expr› ≠ [] := fun z => by
        have q := and_r (and_l g)
        rw [z] at q
        cases q
      have g := and_r g
      cases md with
      | val => exact vs_bop ho ((mL_ok es (b := false) h g).1 rfl) ne
      | tst => exact (vs_bop_test ho ((mL_ok es (b := true) h g).2 rfl) ne).pt
      | it t => exact fun tg _ => vs_itD (vs_bop ho ((mL_ok es (b := false) h g).1 rfl) ne)
    · cases g
  | .nt a, X, M, md, e, h, g => by
    unfold mE at g
    split at g
    · cases md with
      | val => exact vs_nt (mE_ok a (md := .val) h g)
      | tst => exact vs_not_test (mE_ok a (md := .tst) h g)
      | it t => exact fun tg _ => vs_itD (vs_nt (mE_ok a (md := .val) h g))
    · cases g
  | .ife t a b, X, M, md, e, h, g => by
    unfold mE at g
    split at g
    · cases md with
      | val => exact vs_ife (mE_ok t (md := .tst) h (and_l (and_l g))) (mE_ok a (md := .val) h (and_r (and_l g))) (mE_ok b (md := .val) h (and_r g))
      | tst => cases g
      | it t2 => exact fun tg _ => vs_itD (vs_ife (mE_ok t (md := .tst) h (and_l (and_l g))) (mE_ok a (md := .val) h (and_r (and_l g))) (mE_ok b (md := .val) h (and_r g)))
    · cases g
  | .idx a i, X, M, md, e, h, g => by
    unfold mE at g
    split at g
    · exact good_of (vs_idx h.u1 (mE_ok a (md := .val) h (and_l (and_l g))) (mE_ok i (md := .val) h (and_r (and_l g))) (plainB_of (and_r g))) rfl md
    · cases g
  | .sl a lo hi, X, M, md, e, h, g => by
    unfold mE at g
    split at g
    · exact good_of (vs_sl (mE_ok a (md := .val) h (and_l (and_l g))) (mO_ok lo h (and_r (and_l g))) (mO_ok hi h (and_r g))) rfl md
    · cases g
  | .rev a, X, M, md, e, h, g => by
    unfold mE at g
    split at g
    · exact good_of (vs_rev (mE_ok a (md := .val) h g)) rfl md
    · cases g
  | .fl a, X, M, md, e, h, g => by
    unfold mE at g
    split at g
    · exact vs_fl (mE_ok a (md := .val) h g)
    · cases g
  | .frz a, X, M, md, e, h, g => by
    unfold mE at g
    split at g
    · exact vs_frz (mE_ok a (md := .val) h g)
    · cases g
  | .dctT kvs, X, M, md, e, h, g => by
    unfold mE at g
    split at g
    · refine good_of (vs_dctT (by have := h.u1; omega) (mP_ok kvs h (and_l (and_l g))) (fun z => ?_) (of_decide_eq_true (and_r g))) rfl md
      have q := and_r (and_l g)
      rw [z] at q
      cases q
    · cases g
  | .isi a T, X, M, md, e, h, g => by
    unfold mE at g
    split at g
    · have ns := and_r g
      have g := and_l g
      have ga := and_r g
      have g := and_l g
      have nT : T ≠ .none_ := by simpa using and_r g
      have g := and_l g
      obtain ⟨t1, t2, t3⟩ := h.blt (and_r g)
      have g := and_l g
      obtain ⟨i1, i2, i3⟩ := h.blt (and_r g)
      have g := and_l g
      obtain rfl := of_decide_eq_true (and_l g)
      obtain rfl := of_decide_eq_true (and_r g)
      obtain ⟨b1, b2⟩ := tn_boot T nT
      exact good_of (vs_isi (mE_ok a (md := .val) h ga) (nsB_of ns) i1 i2 t1 t2 b1 b2 t3) rfl md
    · cases g
  | .itv i, X, M, md, e, h, g => by
    unfold mE at g
    split at g
    · obtain ⟨x, p, rfl, h1, h2, h3, h4⟩ := varB_of h g
      exact fun tg _ => vs_itV h1 h2 h3 h4
    · cases g
  | .mv i, X, M, md, e, h, g => by
    unfold mE at g
    obtain ⟨x, p, rfl, h1, h2, h3, h4⟩ := varB_of h g
    exact good_of (vs_mv h1 h2 h3 h4) rfl md
  | .comp own elt tg it ifs, X, M, md, e, h, g => by
    unfold mE at g
    split at g
    · rename_i x t i is k scope pos
      have ge := and_r g
      have g := and_l g
      have gi := and_r g
      have g := and_l g
      have gg := and_r g
      have g := and_l g
      have gt := and_r g
      have g := and_l g
      have gs := and_r g
      have g := and_l g
      obtain ⟨o1, o2, o3⟩ := ownB_of (and_r g)
      have g := and_l g
      have bo : BlkOk X.N X.env.scope scope own := by
        rw [h.n, h.sc]
        exact blkOk_by (and_r g)
      obtain rfl := of_decide_eq_true (and_l g)
      refine good_of (vs_comp h.calm h.nd (mE_ok it (md := .it (tupB t)) h gt t fun z => tupB_of z) bo (fun s H C cl fp => mG_ok (h.blk s H scope C cl fp) gg) (fun s H C cl fp => mTs_ok ifs (h.blk s H scope C cl fp) gi)
        (fun s H C cl fp => mE_ok elt (md := .val) (h.blk s H scope C cl fp) ge) (setB_of gs) o1 o2 o3) rfl md
    · cases g
  | .call f args, X, M, md, e, h, g => by
    unfold mE at g
    split at g
    · have gc := and_r g
      have g := and_l g
      obtain ⟨g1, g2⟩ := h.gl (and_r g)
      have g := and_l g
      obtain ⟨S, eS, fi⟩ := h.fs f (by simpa using and_r g)
      obtain rfl := of_decide_eq_true (and_l g)
      have pc := mC_ok args h gc
      refine good_of ?_ rfl md
      cases pc with
      | nil => exact vs_call0 h.room h.gd eS fi g1 g2
      | dat a b c d => exact vs_call h.room h.gd eS fi g1 g2 (.dat a b c d)
      | io a b c => exact vs_call h.room h.gd eS fi g1 g2 (.io a b c)
    · cases g
  | .blt f args, X, M, md, e, h, g => by
    unfold mE at g
    split at g
    · have gl := (mL_ok args (b := false) h (and_r g)).1 rfl
      have g := and_l g
      have ne := and_r g
      have g := and_l g
      obtain ⟨g1, g2, g3⟩ := h.blt (and_r g)
      obtain rfl := of_decide_eq_true (and_l g)
      obtain ⟨b1, b2⟩ := bf_boot f
      refine good_of ?_ rfl md
      cases gl with
      | nil => cases ne
      | cons a b c =>
        have vals : (∃ id, f.val = .builtin id) ∨ ∃ id, f.val = .type id := by
          cases f <;> first | exact .inl ⟨_, rfl⟩ | exact .inr ⟨_, rfl⟩
        rcases vals with ⟨id, ev⟩ | ⟨id, ev⟩
        · exact vs_bltB h.calm h.u65 h.gd h.sm ev g1 g2 (b1.trans (by rw [ev])) b2 g3 (.cons a b c)
        · exact vs_bltT h.calm h.u65 h.gd h.sm ev g1 g2 (b1.trans (by rw [ev])) b2 g3 (.cons a b c)
    · cases g
  | .mth .join a args, X, M, md, e, h, g => by
    unfold mE at g
    split at g
    · have gl := (mL_ok args (b := false) h (and_r g)).1 rfl
      have g := and_l g
      have ga := and_r g
      have g := and_l g
      have gb := and_r g
      have g := and_l g
      have gn := and_r g
      obtain rfl := of_decide_eq_true (and_l g)
      cases gl with
      | cons ns pe l =>
        cases l
        exact good_of (vs_join (mE_ok a (md := .val) h ga) pe ns (baseB_of gb) gn) rfl md
    · cases g
  | .mmt m a args, X, M, md, e, h, g => by
    unfold mE at g
    split at g
    · rename_i o nm ap xs pos
      have gm := and_r g
      have g := and_l g
      have gl := (mL_ok args (b := false) h (and_r g)).1 rfl
      have g := and_l g
      have pa := mE_ok a (md := .val) h (and_r g)
      have g := and_l g
      have gb := baseB_of (and_r g)
      have ln := and_l g
      refine good_of ?_ rfl md
      cases m with
      | append =>
        obtain rfl := of_decide_eq_true (and_l gm)
        obtain ⟨x, rfl⟩ := one_len (of_decide_eq_true (and_r gm))
        have l2 := gl.len
        obtain ⟨c, rfl⟩ := one_len l2.symm
        exact vs_append pa gl gb ln
      | extend =>
        obtain rfl := of_decide_eq_true (and_l gm)
        obtain ⟨x, rfl⟩ := one_len (of_decide_eq_true (and_r gm))
        have l2 := gl.len
        obtain ⟨c, rfl⟩ := one_len l2.symm
        exact vs_extend pa gl gb ln
      | pop =>
        obtain rfl := of_decide_eq_true (and_l gm)
        have lx := of_decide_eq_true (and_r gm)
        cases gl with
        | nil => exact vs_pop0 pa gb ln
        | cons ns pe l =>
          cases l with
          | nil => exact vs_popAt pa (.cons ns pe .nil) gb ln
          | cons _ _ _ => simp at lx
    · cases g
  | .rng args, X, M, md, e, h, g => by
    unfold mE at g
    split at g
    · rename_i xs pos
      have gn := and_r g
      have g := and_l g
      have gl := (mL_ok args (b := false) h (and_r g)).1 rfl
      have g := and_l g
      obtain ⟨g1, g2, g3⟩ := h.blt (and_r g)
      obtain rfl := of_decide_eq_true (and_l g)
      intro tg _
      have l2 := gl.len
      rcases Bool.or_eq_true_iff.mp gn with n | n
      · obtain ⟨x, rfl⟩ := one_len (of_decide_eq_true n)
        obtain ⟨c, rfl⟩ := one_len l2.symm
        exact vs_rng1 g1 g2 gl
      · obtain ⟨x, y, rfl⟩ := two_len (of_decide_eq_true n)
        obtain ⟨c, c2, rfl⟩ := two_len l2.symm
        exact vs_rng2 g1 g2 gl
    · cases g
  | .enu a, X, M, md, e, h, g => by
    unfold mE at g
    split at g
    · have pa := mE_ok a (md := .val) h (and_r g)
      have g := and_l g
      have ns := and_r g
      have g := and_l g
      obtain ⟨g1, g2, g3⟩ := h.blt (and_r g)
      obtain rfl := of_decide_eq_true (and_l g)
      intro tg ht
      obtain ⟨es, k, p, rfl⟩ := ht rfl
      exact vs_enu g1 g2 (nsB_of ns) pa
    · cases g
  | .zip a b, X, M, md, e, h, g => by
    unfold mE at g
    split at g
    · have pb := mE_ok b (md := .val) h (and_r g)
      have g := and_l g
      have pa := mE_ok a (md := .val) h (and_r g)
      have g := and_l g
      have ny := and_r g
      have g := and_l g
      have nx := and_r g
      have g := and_l g
      obtain ⟨g1, g2, g3⟩ := h.blt (and_r g)
      obtain rfl := of_decide_eq_true (and_l g)
      intro tg ht
      obtain ⟨es, k, p, rfl⟩ := ht rfl
      exact vs_zip g1 g2 (nsB_of nx) (nsB_of ny) pa pb
    · cases g
  | .lzip a b, X, M, md, e, h, g => by
    unfold mE at g
    split at g
    · have pb := mE_ok b (md := .val) h (and_r g)
      have g := and_l g
      have pa := mE_ok a (md := .val) h (and_r g)
      have g := and_l g
      have ny := and_r g
      have g := and_l g
      have nx := and_r g
      have g := and_l g
      obtain ⟨g1, g2, g3⟩ := h.blt (and_r g)
      have g := and_l g
      obtain ⟨g4, g5, g6⟩ := h.blt (and_r g)
      have g := and_l g
      obtain rfl := of_decide_eq_true (and_r g)
      obtain rfl := of_decide_eq_true (and_l g)
      exact good_of (vs_lzip h.calm g4 g5 g1 g2 (nsB_of nx) (nsB_of ny) pa pb) rfl md
    · cases g
  | .rng3 a b, X, M, md, e, h, g => by
    unfold mE at g
    split at g
    · have pb := mE_ok b (md := .val) h (and_r g)
      have g := and_l g
      have pa := mE_ok a (md := .val) h (and_r g)
      have g := and_l g
      have ny := and_r g
      have g := and_l g
      have nx := and_r g
      have g := and_l g
      obtain ⟨g1, g2, g3⟩ := h.blt (and_r g)
      obtain rfl := of_decide_eq_true (and_l g)
      intro tg _
      exact vs_rng3 g1 g2 (nsB_of nx) (nsB_of ny) (nsB_of rfl) pa pb (vs_neg vs_int)
    · cases g
  | .get1 a k, X, M, md, e, h, g => by
    unfold mE at g
    split at g
    · have pb := mE_ok k (md := .val) h (and_r g)
      have g := and_l g
      have pa := mE_ok a (md := .val) h (and_r g)
      have g := and_l g
      have nx := and_r g
      have g := and_l g
      obtain rfl := of_decide_eq_true (and_r g)
      have g := and_l g
      exact good_of (vs_get1 h.u1 pa pb (nsB_of nx) (baseB_of (and_r g)) (and_l g)) rfl md
    · cases g
  | .get2 a k c, X, M, md, e, h, g => by
    unfold mE at g
    split at g
    · have pc := mE_ok c (md := .val) h (and_r g)
      have g := and_l g
      have pb := mE_ok k (md := .val) h (and_r g)
      have g := and_l g
      have pa := mE_ok a (md := .val) h (and_r g)
      have g := and_l g
      have ny := and_r g
      have g := and_l g
      have nx := and_r g
      have g := and_l g
      obtain rfl := of_decide_eq_true (and_r g)
      have g := and_l g
      exact good_of (vs_get2 h.u1 pa pb pc (nsB_of nx) (nsB_of ny) (baseB_of (and_r g)) (and_l g)) rfl md
    · cases g
  | .isin neg k a, X, M, md, e, h, g => by
    unfold mE at g
    split at g
    · have hm := Bool.not_eq_true' _ |>.mp (and_r g)
      have g := and_l g
      have pa := mE_ok a (md := .val) h (and_r g)
      have g := and_l g
      have pk := mE_ok k (md := .val) h (and_r g)
      have ho := of_decide_eq_true (and_l g)
      have pe := vs_isin (pos := ‹Pos›) h.u1 ho pk pa hm
      cases md with
      | val => exact pe
      | tst => exact vs_isin_test h.u1 ho pk pa hm
      | it t => exact fun tg _ => vs_itD pe
    · cases g
  | .dof a, X, M, md, e, h, g => by
    unfold mE at g
    split at g
    · have pa := mE_ok a (md := .val) h (and_r g)
      have g := and_l g
      have ns := and_r g
      have g := and_l g
      obtain ⟨g1, g2, g3⟩ := h.blt (and_r g)
      obtain rfl := of_decide_eq_true (and_l g)
      exact good_of (vs_dof h.calm g1 g2 (nsB_of ns) pa) rfl md
    · cases g
  | .upd a c, X, M, md, e, h, g => by
    unfold mE at g
    split at g
    · have pb := mE_ok c (md := .val) h (and_r g)
      have g := and_l g
      have pa := mE_ok a (md := .val) h (and_r g)
      have g := and_l g
      have nx := and_r g
      have g := and_l g
      obtain rfl := of_decide_eq_true (and_r g)
      have g := and_l g
      exact good_of (vs_upd pa pb (nsB_of nx) (baseB_of (and_r g)) (and_l g)) rfl md
    · cases g
  | .fst ps, X, M, md, e, h, g => by
    unfold mE at g
    split at g
    · exact good_of (vs_fst (mF_ok ps h g)) rfl md
    · cases g
theorem mF_ok {G : Gm} {lvl : Nat} : ∀ (cs : List CE) {X : Cx} {M : Mc} {es : List Expr}, VC X G lvl M → mF cs M es = true → PXl X G es cs
  | [], X, M, es, h, g => by
    unfold mF at g
    cases es with
    | nil => exact .nil
    | cons _ _ => cases g
  | c :: cs, X, M, es, h, g => by
    unfold mF at g
    split at g
    · have gl := mF_ok cs h (and_r g)
      have g := and_l g
      refine .cons ?_ gl
      split at g
      · obtain rfl := of_decide_eq_true (and_l g)
        exact part_run (mE_ok c (md := .val) h (and_r g))
      · have ga := mE_ok c (md := .val) h (and_r g)
        have g := and_l g
        split at g
        · exact txt_run ga
        · cases g
    · cases g
theorem mL_ok {G : Gm} {lvl : Nat} : ∀ (cs : List CE) {X : Cx} {M : Mc} {b : Bool} {es : List Expr}, VC X G lvl M → mL cs M b es = true → (b = false → PEl X G es cs) ∧ (b = true → PTl X G es cs)
  | [], X, M, b, es, h, g => by
    unfold mL at g
    rw [List.isEmpty_iff.mp g]
    exact ⟨fun _ => .nil, fun _ => .nil⟩
  | c :: cs, X, M, b, es, h, g => by
    unfold mL at g
    split at g
    · obtain ⟨l1, l2⟩ := mL_ok cs h (and_r g)
      have g := and_l g
      cases b with
      | true => exact ⟨fun z => (nomatch z), fun _ => .cons (mE_ok c (md := .tst) h g) (l2 rfl)⟩
      | false => exact ⟨fun _ => .cons (nsB_of (and_l g)) (mE_ok c (md := .val) h (and_r g)) (l1 rfl), fun z => nomatch z⟩
    · cases g
theorem mP_ok {G : Gm} {lvl : Nat} : ∀ (cs : List CE) {X : Cx} {M : Mc} {ks : List (Option Expr)} {es : List Expr}, VC X G lvl M → mP cs M ks es = true → PPl X G ks es cs
  | [], X, M, ks, es, h, g => by
    unfold mP at g
    rw [List.isEmpty_iff.mp (and_l g), List.isEmpty_iff.mp (and_r g)]
    exact .nil
  | [_], X, M, ks, es, h, g => by
    unfold mP at g
    cases g
  | k :: v :: r, X, M, ks, es, h, g => by
    unfold mP at g
    split at g
    · exact .cons (mE_ok k (md := .val) h (and_l (and_l g))) (mE_ok v (md := .val) h (and_r (and_l g))) (mP_ok r h (and_r g))
    · cases g
theorem mC_ok {G : Gm} {lvl : Nat} : ∀ (cs : List CE) {X : Cx} {M : Mc} {es : List Expr}, VC X G lvl M → mC cs M es = true → PCl X G es cs
  | [], X, M, es, h, g => by
    unfold mC at g
    rw [List.isEmpty_iff.mp g]
    exact .nil
  | c :: cs, X, M, es, h, g => by
    unfold mC at g
    split at g
    · have l := mC_ok cs h (and_r g)
      have g := and_l g
      split at g
      · rename_i i ei
        obtain ⟨x, p, rfl, h1, h2, h3, h4⟩ := varB_of h (and_r g)
        have ec : c = .io i := by
          cases c <;> first | (cases ei; rfl) | cases ei
        subst ec
        exact .io (nsB_of (and_l g)) (pe_var h1 h2 h3 h4) l
      · rename_i ei
        exact .dat ei (nsB_of (and_l g)) (mE_ok c (md := .val) h (and_r g)) l
    · cases g
theorem mO_ok {G : Gm} {lvl : Nat} : ∀ (cs : List CE) {X : Cx} {M : Mc} {e : Option Expr}, VC X G lvl M → mO cs M e = true → PO X e (tO X.K G cs)
  | [], X, M, e, h, g => by
    unfold mO at g
    rw [Option.isNone_iff_eq_none.mp g]
    exact vs_Onone
  | [c], X, M, e, h, g => by
    unfold mO at g
    split at g
    · exact vs_Osome (mE_ok c (md := .val) h g)
    · cases g
  | _ :: _ :: _, X, M, e, h, g => by
    unfold mO at g
    cases g
theorem mTs_ok {G : Gm} {lvl : Nat} : ∀ (cs : List CE) {X : Cx} {M : Mc} {es : List Expr}, VC X G lvl M → mTs cs M es = true → PTs X es (tTs X.K G cs)
  | [], X, M, es, h, g => by
    unfold mTs at g
    rw [List.isEmpty_iff.mp g]
    exact vs_Ts0
  | [c], X, M, es, h, g => by
    unfold mTs at g
    split at g
    · exact vs_Ts1 (mE_ok c (md := .tst) h g)
    · cases g
  | _ :: _ :: _, X, M, es, h, g => by
    unfold mTs at g
    cases g
end
end VS

namespace VS
open PySem PySem.Spec PyProof.Rows L2
/-! ## statements against the small language -/
def compB : Expr → Bool
  | .ListComp _ _ _ _ => true
  | .SetComp _ _ _ _ => true
  | .DictComp _ _ _ _ _ => true
  | _ => false
def nameB : Expr → Bool
  | .Name _ _ => true
  | _ => false
def listB : Expr → Bool
  | .List _ _ => true
  | _ => false
theorem swap_no {v : Expr} {t : Option Expr} {l : Nat} {env : PySem.Env} (h : compB v = false) : swapsWith v t l env = pure false := by
  cases v <;> first | rfl | cases h
theorem swap_other {v t : Expr} {l : Nat} {env : PySem.Env} (h : nameB t = false) : swapsWith v (some t) l env = pure false := by
  unfold swapsWith
  cases v <;> first | rfl | (cases t <;> first | rfl | cases h)
theorem sole {v t : Expr} {l : Nat} {env : PySem.Env} (h : swapsWith v (some t) l env = pure false) : swapsWithSole [t] v l env = pure false := h
/-- the stores keep their order -/
theorem stores_plain {t v : Expr} {env : PySem.Env} (h : (tupB t || listB t) = false ∨ tupB v = false) : swappedStores [t] v env = pure none := by
  unfold swappedStores
  rcases h with h | h
  · cases t <;> first | rfl | cases h
  · cases t <;> first | rfl | (cases v <;> first | rfl | cases h)
def starB : Expr → Bool
  | .Starred _ _ => true
  | _ => false
/-- a, b = x, y with two plain names -/
def parB (x y : Str) (px py : Pos) (a b : Expr) : Bool := (py.line == px.line) && !decide (x = y) && nsB a && nsB b && !(foldedForSure 8 a && foldedForSure 8 b) && !(constantsAlone 8 a && constantsAlone 8 b)
theorem stores_par {x y : Str} {px py pt p2 : Pos} {kt k2 : Nat} {a b : Expr} {env : PySem.Env} (hk : env.scope.kind = .function) (hx : env.scope.names.lookup x = some .local) (hy : env.scope.names.lookup y = some .local) (h : parB x y px py a b = true) :
    swappedStores [.Tuple [.Name x px, .Name y py] kt pt] (.Tuple [a, b] k2 p2) env = pure (some [x, y]) := by
  unfold parB at h
  simp only [Bool.and_eq_true, Bool.not_eq_true', decide_eq_false_iff_not] at h
  obtain ⟨⟨⟨⟨⟨h1, h2⟩, h3⟩, h4⟩, h5⟩, h6⟩ := h
  have bk : env.blockKind = .function := by
    unfold PySem.Env.blockKind
    rw [hk]
    rfl
  have kx : env.kindOf x = some .local := hx
  have ky : env.kindOf y = some .local := hy
  have hyx : ¬ y = x := fun z => h2 z.symm
  have h1 : py.line = px.line := by simpa using h1
  have na : ∀ e, e ∈ [a, b] → nsB e = true := fun e he => by
    rcases List.mem_cons.mp he with z | z
    · rw [z]; exact h3
    · rw [List.mem_singleton.mp z]; exact h4
  unfold swappedStores
  refine (if_neg (by simp [bk])).trans ?_
  refine (if_neg fun z => ?_).trans ?_
  · obtain ⟨e, he, fe⟩ := List.any_eq_true.mp z
    have q := na e he
    cases e <;> first | (cases q; done) | (cases fe; done)
  have e1 : ([Expr.Name x px, Expr.Name y py].filterMap fun
    | .Name id pos => if env.kindOf id == some .local && pos.line == (([Expr.Name x px, Expr.Name y py].head?.map (·.pos.line)).getD 0) then some id else none
    | _ => none) = [x, y] := by
    have l : (([Expr.Name x px, Expr.Name y py].head?.map (·.pos.line)).getD 0) = px.line := rfl
    rw [l]
    simp [kx, ky, h1]
  have e2 : ([x, y] : List Str).eraseDups = [x, y] := by simp [List.eraseDups_cons, hyx]
  refine (if_neg fun z => ?_).trans ?_
  · replace z : ((([Expr.Name x px, Expr.Name y py].filterMap fun
      | .Name id pos => if env.kindOf id == some .local && pos.line == (([Expr.Name x px, Expr.Name y py].head?.map (·.pos.line)).getD 0) then some id else none
      | _ => none).length != 2) || (([Expr.Name x px, Expr.Name y py].filterMap fun
      | .Name id pos => if env.kindOf id == some .local && pos.line == (([Expr.Name x px, Expr.Name y py].head?.map (·.pos.line)).getD 0) then some id else none
      | _ => none).eraseDups.length != ([Expr.Name x px, Expr.Name y py].filterMap fun
      | .Name id pos => if env.kindOf id == some .local && pos.line == (([Expr.Name x px, Expr.Name y py].head?.map (·.pos.line)).getD 0) then some id else none
      | _ => none).length)) = true := z
    rw [e1, e2] at z
    cases z
  refine (if_neg (by simpa using h5)).trans ?_
  refine (if_neg (by simpa using h6)).trans ?_
  exact congrArg (fun l => pure (some l)) e1
/-- does the list go straight into the name? -/
def swB (sc : Scope) (t v : Expr) : Bool := match v, t with
  | .ListComp _ _ scope p, .Name y py => decide (sc.names.lookup y = some .local) && (py.line == p.line) && !(scope.names.any fun (n, k) => n == y && (k == .local || k == .cell))
  | _, _ => false
theorem swap_B {v t : Expr} {l : Nat} {env : PySem.Env} (hk : env.scope.kind = .function) (hs : swB env.scope t v = false) (hv : compB v = false ∨ nameB t = false ∨ ∃ a b c d, v = .ListComp a b c d) : swapsWith v (some t) l env = pure false := by
  rcases hv with h | h | ⟨a, b, c, d, rfl⟩
  · exact swap_no h
  · exact swap_other h
  · cases t <;> first | rfl | skip
    rename_i y py
    have bk : env.blockKind = .function := by
      unfold PySem.Env.blockKind
      rw [hk]
      rfl
    have e : decide (env.scope.names.lookup y = some .local) = (env.kindOf y == some .local) := by
      show decide (env.kindOf y = some .local) = _
      by_cases q : env.kindOf y = some .local
      · simp [q]
      · have q2 : (env.kindOf y == some .local) = false := by simpa using q
        rw [q2]
        simpa using q
    unfold swB at hs
    simp only [e] at hs
    unfold swapsWith
    simp only [bk]
    show pure (_ && _ && _ && _) = _
    rw [show (ScopeKind.function == ScopeKind.function) = true from rfl, Bool.true_and]
    exact congrArg pure hs
def lcB : Expr → Bool
  | .ListComp _ _ _ _ => true
  | _ => false
theorem lcB_of {e : Expr} (h : lcB e = true) : ∃ a b c d, e = .ListComp a b c d := by
  cases e <;> first | exact ⟨_, _, _, _, rfl⟩ | cases h
def viB (it : CE) (A : List Nat) : Bool := match viOf it with
  | some i => !decide (i ∈ A)
  | none => true
theorem viB_of {it : CE} {A : List Nat} (h : viB it A = true) : ∀ i, viOf it = some i → i ∉ A := fun i hi => by
  unfold viB at h
  rw [hi] at h
  simpa using h
/-- the block's list straight into a name -/
def setLcB (M : Mc) : CT → CE → Expr → Expr → Bool
  | .nm i, .comp own elt tg it ifs, .Name y _, .ListComp x [⟨t, im, is, k⟩] scope _ => decide (M.N[i]? = some y) && decide (k = 0) && blkC M.N M.sc scope own && ownB own tg it && setB im && mE it M (.it (tupB t)) im && mG tg (M.blk scope) t && mTs ifs (M.blk scope) is && mE elt (M.blk scope) .val x
  | _, _, _, _ => false
mutual
def mS : CS → Mc → Stmt → Bool
  | .set t c, M, st => match st with
    | .Assign [tg] v _ => (swB M.sc tg v && setLcB M t c tg v) || (!swB M.sc tg v && (!compB v || lcB v) && nsB tg && mG t M tg && mE c M .val v && (!(tupB tg || listB tg) || !tupB v))
    | _ => false
  | .par i j a b, M, st => match st with
    | .Assign [.Tuple [.Name x px, .Name y py] _ _] (.Tuple [e1, e2] _ _) _ => decide (M.N[i]? = some x) && decide (M.N[j]? = some y) && !decide (i = j) && decide (M.sc.names.lookup x = some .local) && decide (M.sc.names.lookup y = some .local) && parB x y px py e1 e2 && mL [a, b] M false [e1, e2]
    | _ => false
  | .put o k c, M, st => match st with
    | .Assign [.Subscript oe ke _] v _ => mE o M .val oe && mE k M .val ke && mE c M .val v && plainB ke
    | _ => false
  | .aug i op c, M, st => match st with
    | .AugAssign (.Name x _) op2 v _ => decide (op = op2) && (decide (op = .Add) || decide (op = .Sub)) && decide (M.N[i]? = some x) && locB M.sc x && hfB M x && mE c M .val v
    | _ => false
  | .augP o k op c, M, st => match st with
    | .AugAssign (.Subscript oe ke _) op2 v _ => decide (op = op2) && (decide (op = .Add) || decide (op = .Sub)) && mE o M .val oe && mE k M .val ke && mE c M .val v && plainB ke
    | _ => false
  | .ex c, M, st => match st with
    | .Expr v _ => mE c M .val v && !compB v
    | _ => false
  | .ret c, M, st => match st with
    | .Return (some v) _ => mE c M .val v
    | _ => false
  | .retN, M, st => match st with
    | .Return none _ => true
    | _ => false
  | .ife t a b, M, st => match st with
    | .If x p q _ => mE t M .tst x && mB a M p && mB b M q
    | _ => false
  | .for_ t it body, M, st => match st with
    | .For tg im b [] _ => mG t M tg && mE it M (.it (tupB tg)) im && setB im && viB it (t.slots ++ CS.asgB body) && mB body M b
    | _ => false
  | .while_ t body, M, st => match st with
    | .While x b [] _ => mE t M .tst x && mB body M b
    | _ => false
  | .pass, M, st => match st with
    | .Pass _ => true
    | .Expr (.Constant (.str _) _ _) _ => true
    | _ => false
  | .brk, M, st => match st with
    | .Break _ => true
    | _ => false
  | .cont, M, st => match st with
    | .Continue _ => true
    | _ => false
  | .never, M, st => true
def mB : List CS → Mc → List Stmt → Bool
  | [], M, sts => sts.isEmpty
  | c :: cs, M, sts => match sts with
    | st :: sts => mS c M st && mB cs M sts
    | [] => false
end
theorem assign_sub {o i : Expr} {pos : Pos} {env : PySem.Env} (h : plainB i = true) (v : Value) : assign (.Subscript o i pos) env v = (do
      let ov ← holding [v] (eval o env)
      let iv ← holding [v, ov] (eval i env)
      standAt pos
      holding [v, ov, iv] (setItem ov iv v)
      release [v, ov, iv] []) := by
  cases i <;> first | rfl | cases h
theorem aug_sub {i : Expr} (h : plainB i = true) (ov iv new : Value) : augStore i ov iv new = (do holding [new, ov, iv] (setItem ov iv new); release [new, ov, iv] []; pure .next) := by
  cases i <;> first | rfl | cases h
theorem opB_of {op : Operator} (h : (decide (op = .Add) || decide (op = .Sub)) = true) : op = .Add ∨ op = .Sub := by simpa using h
mutual
theorem mS_ok {G : Gm} {lvl : Nat} : ∀ (c : CS) {X : Cx} {M : Mc} {st : Stmt}, VC X G lvl M → X.xe = (fun _ _ => False) → X.env.scope.kind = .function → mS c M st = true → PS X st (tS X.K G c)
  | .set t c, X, M, st, h, hx, hk, g => by
    unfold mS at g
    split at g
    · rename_i tg v pos
      rcases Bool.or_eq_true_iff.mp g with g | g
      · have sw := and_l g
        have g := and_r g
        unfold setLcB at g
        split at g
        · have ge := and_r g
          have g := and_l g
          have gi := and_r g
          have g := and_l g
          have gg := and_r g
          have g := and_l g
          have gt := and_r g
          have g := and_l g
          have gs := and_r g
          have g := and_l g
          obtain ⟨o1, o2, o3⟩ := ownB_of (and_r g)
          have g := and_l g
          have bo := blkOk_by (and_r g)
          rw [← h.n, ← h.sc] at bo
          have g := and_l g
          have k0 := of_decide_eq_true (and_r g)
          have hN := of_decide_eq_true (and_l g)
          subst k0
          unfold swB at sw
          have yl := of_decide_eq_true (and_l (and_l sw))
          rw [← h.sc] at yl
          refine vs_setLc h.calm h.nd (by rw [h.n]; exact hN) yl (sw_true hk yl (and_r (and_l sw)) (by simpa using and_r sw)) (mE_ok _ (md := .it (tupB _)) h gt _ fun z => tupB_of z) bo (fun s H C cl fp => mG_ok (h.blk s H _ C cl fp) gg) (fun s H C cl fp => mTs_ok _ (h.blk s H _ C cl fp) gi)
            (fun s H C cl fp => mE_ok _ (md := .val) (h.blk s H _ C cl fp) ge) (setB_of gs) o1 o2 o3
        · cases g
      · have gp := and_r g
        have g := and_l g
        have ge := and_r g
        have g := and_l g
        have gt := and_r g
        have g := and_l g
        have na := and_r g
        have g := and_l g
        have cv := and_r g
        have sw : swB X.env.scope tg v = false := by
          rw [h.sc]
          simpa using and_l g
        refine vs_set (mE_ok c (md := .val) h ge) (mG_ok h gt) ?_ ?_ ?_
        · refine swap_B hk sw ?_
          rcases Bool.or_eq_true_iff.mp cv with z | z
          · exact .inl (by simpa using z)
          · exact .inr (.inr (lcB_of z))
        · refine stores_plain ?_
          rcases Bool.or_eq_true_iff.mp gp with z | z
          · exact .inl (by simpa using z)
          · exact .inr (by simpa using z)
        · have z := naB_of (X := X) na []
          rw [z]
          rfl
    · cases g
  | .par i j a b, X, M, st, h, hx, hk, g => by
    unfold mS at g
    split at g
    · have gl := (mL_ok [a, b] (b := false) h (and_r g)).1 rfl
      have g := and_l g
      have gp := and_r g
      have g := and_l g
      have ly := of_decide_eq_true (and_r g)
      have g := and_l g
      have lx := of_decide_eq_true (and_r g)
      have g := and_l g
      have nij : i ≠ j := by simpa using and_r g
      have g := and_l g
      have hj := of_decide_eq_true (and_r g)
      have hi := of_decide_eq_true (and_l g)
      rw [← h.sc] at lx ly
      rw [← h.n] at hi hj
      exact vs_par h.calm h.nd hi hj lx ly gl nij (stores_par hk lx ly gp) (sole (swap_no (v := .Tuple _ _ _) rfl))
    · cases g
  | .put o k c, X, M, st, h, hx, hk, g => by
    unfold mS at g
    split at g
    · have pk := and_r g
      have g := and_l g
      have gc := and_r g
      have g := and_l g
      exact vs_put h.u1 (mE_ok o (md := .val) h (and_l g)) (mE_ok k (md := .val) h (and_r g)) (mE_ok c (md := .val) h gc) (assign_sub pk) (sole (swap_other (t := .Subscript _ _ _) rfl)) (stores_plain (.inl rfl))
    · cases g
  | .aug i op c, X, M, st, h, hx, hk, g => by
    unfold mS at g
    split at g
    · have gc := and_r g
      have g := and_l g
      have gf := h.hf (and_r g)
      have g := and_l g
      have gl := locB_of (and_r g)
      have g := and_l g
      have hi := of_decide_eq_true (and_r g)
      have g := and_l g
      have ho := opB_of (and_r g)
      obtain rfl := of_decide_eq_true (and_l g)
      rw [← h.sc] at gl
      rw [← h.n] at hi
      exact vs_aug ho h.nd hi gl gf (mE_ok c (md := .val) h gc)
    · cases g
  | .augP o k op c, X, M, st, h, hx, hk, g => by
    unfold mS at g
    split at g
    · have pk := and_r g
      have g := and_l g
      have gc := and_r g
      have g := and_l g
      have gk := and_r g
      have g := and_l g
      have go := and_r g
      have g := and_l g
      have ho := opB_of (and_r g)
      obtain rfl := of_decide_eq_true (and_l g)
      exact vs_augP h.u1 ho (mE_ok o (md := .val) h go) (mE_ok k (md := .val) h gk) (mE_ok c (md := .val) h gc) (aug_sub pk)
    · cases g
  | .ex c, X, M, st, h, hx, hk, g => by
    unfold mS at g
    split at g
    · exact vs_ex (mE_ok c (md := .val) h (and_l g)) (swap_no (by simpa using and_r g))
    · cases g
  | .ret c, X, M, st, h, hx, hk, g => by
    unfold mS at g
    split at g
    · exact vs_ret (mE_ok c (md := .val) h g)
    · cases g
  | .retN, X, M, st, h, hx, hk, g => by
    unfold mS at g
    split at g
    · exact vs_retN
    · cases g
  | .ife t a b, X, M, st, h, hx, hk, g => by
    unfold mS at g
    split at g
    · exact vs_if (mE_ok t (md := .tst) h (and_l (and_l g))) (mB_ok a h hx hk (and_r (and_l g))) (mB_ok b h hx hk (and_r g))
    · cases g
  | .for_ t it body, X, M, st, h, hx, hk, g => by
    unfold mS at g
    split at g
    · have gb := and_r g
      have g := and_l g
      have gv := viB_of (and_r g)
      have g := and_l g
      have gs := and_r g
      have g := and_l g
      have pas : PassesOwn (model X.prog X.w) X.A X.env X.xe := by rw [hx]; exact PassesOwn.never
      exact vs_for pas h.calm (mE_ok it (md := .it (tupB _)) h (and_r g) _ fun z => tupB_of z) (mG_ok h (and_l g)) (mB_ok body h hx hk gb) (setB_of gs) gv
    · cases g
  | .while_ t body, X, M, st, h, hx, hk, g => by
    unfold mS at g
    split at g
    · have pas : PassesOwn (model X.prog X.w) X.A X.env X.xe := by rw [hx]; exact PassesOwn.never
      exact vs_while pas (mE_ok t (md := .tst) h (and_l g)) (mB_ok body h hx hk (and_r g))
    · cases g
  | .pass, X, M, st, h, hx, hk, g => by
    unfold mS at g
    split at g
    · exact vs_pass
    · exact vs_doc
    · cases g
  | .brk, X, M, st, h, hx, hk, g => by
    unfold mS at g
    split at g
    · exact vs_brk
    · cases g
  | .cont, X, M, st, h, hx, hk, g => by
    unfold mS at g
    split at g
    · exact vs_cont
    · cases g
  | .never, X, M, st, h, hx, hk, g => vs_never
theorem mB_ok {G : Gm} {lvl : Nat} : ∀ (cs : List CS) {X : Cx} {M : Mc} {sts : List Stmt}, VC X G lvl M → X.xe = (fun _ _ => False) → X.env.scope.kind = .function → mB cs M sts = true → PSs X sts (tB X.K G cs)
  | [], X, M, sts, h, hx, hk, g => by
    unfold mB at g
    rw [List.isEmpty_iff.mp g]
    exact vs_nil
  | c :: cs, X, M, sts, h, hx, hk, g => by
    unfold mB at g
    split at g
    · exact vs_cons (mS_ok c h hx hk (and_l g)) (mB_ok cs h hx hk (and_r g))
    · cases g
end
/-! ## a def, in full -/
section
variable {P : Program} {w : World} {K : PySem.W.Frag} {mg : Str → Option Value} {base : Heap}
/-- what the callers of a def know of the module -/
structure Env1 (P : Program) (w : World) (K : PySem.W.Frag) (mg : Str → Option Value) (base : Heap) (lvl : Nat) (G : Gm) (M : Mc) : Prop where
  bs : ∀ x, x ∈ M.bs → mg x = none
  fs : ∀ f, f ∈ M.fs → ∃ S, G.fn f = some S ∧ FnI P w K mg base lvl f S
  cs : ∀ x, x ∈ M.cs → ∃ d u v, G.con x = some d ∧ mg x = some u ∧ RelV v u ∧ ∀ H, Dn K H v d
  sm : SysD base
theorem def_FnG {x : Str} {st : Stmt} {f : Addr} {fd : FuncData} {M : Mc} {ps : List Str} {lvl : Nat} {G : Gm} {S : FS} {cb : List CS} (Fu : L2.Fun K x x st f fd) (en : Env1 P w K mg base lvl G M)
    (sc : C8.scC M.N ps (L2.defScope st) = true) (hsc : M.sc = L2.defScope st) (hio : S.io.length = ps.length) (ib : ioB S.io (CS.asgB cb) = true) (mt : mB cb M (L2.defBody st) = true) (ok : S.Ok G cb ps.length (M.N.length - ps.length)) :
    FnG P w K mg base (lvl + 1) f fd ps (spOf K ps.length S) := by
  have S0 := C8.fnScope_by sc
  have hpl : ps.length ≤ M.N.length := by
    have z := congrArg List.length S0.pre
    rw [List.length_take] at z
    omega
  refine fnG_of Fu S0 (fun vs H Q q => ?_) fun cv A ot s1 H vs Q room gd q => ?_
  · obtain ⟨_, _, _, h, _⟩ := q
    exact h
  · refine ⟨_, mB_ok cb (G := G) (lvl := lvl) (M := M) ⟨rfl, S0.nd, hsc.symm, fun _ _ => rfl, rfl, room, gd, en.sm, en.bs, en.fs, en.cs⟩ rfl S0.kind mt, body_run hio hpl ib ok q⟩
theorem def_FnI {x : Str} {st : Stmt} {f : Addr} {fd : FuncData} {M : Mc} {ps : List Str} {lvl : Nat} {G : Gm} {S : FS} {cb : List CS} (Fu : L2.Fun K x x st f fd) (hm : mg x = some (.ref f)) (bi : Binds K fd ps []) (en : Env1 P w K mg base lvl G M)
    (sc : C8.scC M.N ps (L2.defScope st) = true) (hsc : M.sc = L2.defScope st) (hio : S.io.length = ps.length) (ib : ioB S.io (CS.asgB cb) = true) (mt : mB cb M (L2.defBody st) = true) (ok : S.Ok G cb ps.length (M.N.length - ps.length)) :
    FnI P w K mg base (lvl + 1) x S :=
  ⟨lvl + 1, f, fd, ps, Nat.le_refl _, hio, hm, Fu.kp, bi, def_FnG Fu en sc hsc hio ib mt ok⟩
theorem FnI.mono {k l : Nat} {x : Str} {S : FS} (h : FnI P w K mg base k x S) (hl : k ≤ l) : FnI P w K mg base l x S := by
  obtain ⟨k', f, fd, ps, h1, h2, h3, h4, h5, h6⟩ := h
  exact ⟨k', f, fd, ps, Nat.le_trans h1 hl, h2, h3, h4, h5, h6⟩
end
end VS

namespace VS
open PySem PySem.Spec PyProof.Rows L2
/-! ## one step at a time -/
def onPl (r : R) (Q : Nat → List Nat → Prop) : Prop := match r with
  | .pl i p => Q i p
  | _ => False
def onInt (d : PyData) (Q : Int → Prop) : Prop := match d with
  | .int i => Q i
  | _ => False
def onLst (d : PyData) (Q : List PyData → Prop) : Prop := match d with
  | .list ds => Q ds
  | _ => False
def onDat (r : R) (Q : PyData → Prop) : Prop := match r with
  | .own (.dat x) => Q x
  | _ => False
def onZip (d e : PyData) (Q : List PyData → List PyData → Prop) : Prop := match d, e with
  | .list ds, .list es => ds.any isEnt = false ∧ Q ds es
  | .tuple ds, .tuple es => ds.any isEnt = false ∧ Q ds es
  | _, _ => False
theorem r_zipL {ds es : List PyData} {Q : List PyData → List PyData → Prop} (c : ds.any isEnt = false) (h : Q ds es) : onZip (.list ds) (.list es) Q := ⟨c, h⟩
theorem r_zipT {ds es : List PyData} {Q : List PyData → List PyData → Prop} (c : ds.any isEnt = false) (h : Q ds es) : onZip (.tuple ds) (.tuple es) Q := ⟨c, h⟩
def isiQ (d : PyData) (T : TN) (Q : Bool → Prop) : Prop := isScr d = false ∧ Q (isiD d T)
theorem r_isi {d : PyData} {T : TN} {b : Bool} {Q : Bool → Prop} (e1 : isScr d = false) (e2 : isiD d T = b) (h : Q b) : isiQ d T Q := by
  subst e2
  exact ⟨e1, h⟩
def notQ (b : Bool) (Q : Bool → Prop) : Prop := Q (!b)
theorem r_notT {Q : Bool → Prop} (h : Q false) : notQ true Q := h
theorem r_notF {Q : Bool → Prop} (h : Q true) : notQ false Q := h
theorem r_notB {b : Bool} {Q : Bool → Prop} (h : Q (!b)) : notQ b Q := h
theorem r_onPl {i : Nat} {p : List Nat} {Q : Nat → List Nat → Prop} (h : Q i p) : onPl (.pl i p) Q := h
theorem r_onInt {i : Int} {Q : Int → Prop} (h : Q i) : onInt (.int i) Q := h
theorem r_onLst {ds : List PyData} {Q : List PyData → Prop} (h : Q ds) : onLst (.list ds) Q := h
theorem r_onDat {d : PyData} {Q : PyData → Prop} (h : Q d) : onDat (.own (.dat d)) Q := h
section
variable {G : Gm} {ρ : Env} {nx : Env → Prop} {rt : O → Env → Prop} {bk ct : Env → Prop}
/-! ### statements -/
theorem s_consN {c : CS} {cs : List CS} {ρ' : Env} (e : ρ = ρ') (h : evS G c ρ' ⟨fun ρ => evB G cs ρ ⟨nx, rt, bk, ct⟩, rt, bk, ct⟩) : evB G (c :: cs) ρ ⟨nx, rt, bk, ct⟩ := by
  subst e
  unfold evB
  exact h
theorem s_nil (h : nx ρ) : evB G [] ρ ⟨nx, rt, bk, ct⟩ := by
  unfold evB
  exact h
theorem s_cons {c : CS} {cs : List CS} (h : evS G c ρ ⟨fun ρ => evB G cs ρ ⟨nx, rt, bk, ct⟩, rt, bk, ct⟩) : evB G (c :: cs) ρ ⟨nx, rt, bk, ct⟩ := by
  unfold evB
  exact h
theorem s_set {t : CT} {e : CE} (h : ev G e ρ fun r ρ => asO r ρ fun o ρ => bindT t o ρ nx) : evS G (.set t e) ρ ⟨nx, rt, bk, ct⟩ := by
  unfold evS
  exact h
theorem s_nm {i : Nat} {o : O} {Q : Env → Prop} (h1 : i < ρ.length) (h : Q (ρ.set i o)) : bindT (.nm i) o ρ Q := by
  unfold bindT
  exact ⟨h1, h⟩
theorem s_tp {ts : List CT} {ds : List PyData} {Q : Env → Prop} (h : bindT.bindTs ts ds ρ Q) : bindT (.tp ts) (.dat (.tuple ds)) ρ Q := by
  unfold bindT
  exact h
theorem s_tnil {Q : Env → Prop} (h : Q ρ) : bindT.bindTs [] [] ρ Q := by
  unfold bindT.bindTs
  exact h
theorem s_tcons {t : CT} {ts : List CT} {d : PyData} {ds : List PyData} {Q : Env → Prop} (h : bindT t (.dat d) ρ fun ρ => bindT.bindTs ts ds ρ Q) : bindT.bindTs (t :: ts) (d :: ds) ρ Q := by
  unfold bindT.bindTs
  exact h
def parOk (i j : Nat) (ρ : Env) : Prop := i ≠ j ∧ i < ρ.length ∧ j < ρ.length
theorem r_par {i j : Nat} {A : Prop} (n1 : i ≠ j) (n2 : i < ρ.length) (n3 : j < ρ.length) (h : A) : parOk i j ρ ∧ A := ⟨⟨n1, n2, n3⟩, h⟩
theorem s_par {i j : Nat} {a b : CE} (h : ev G a ρ fun r ρ => asO r ρ fun o ρ => ev G b ρ fun r ρ => asO r ρ fun u ρ => parOk i j ρ ∧ nx ((ρ.set i o).set j u)) : evS G (.par i j a b) ρ ⟨nx, rt, bk, ct⟩ := by
  unfold evS
  exact ev_mono G (fun r ρ => asO_mono fun o ρ => ev_mono G fun r ρ => asO_mono fun u ρ z => ⟨z.1.1, z.1.2.1, z.1.2.2, z.2⟩) h
theorem s_put {o k e : CE} (h : ev G e ρ fun r ρ => asO r ρ fun z ρ => ev G o ρ fun r ρ => onPl r fun i p => ev G k ρ fun r ρ => asD r ρ fun kd ρ => stab (.pl i p) (pureE k) ∧ optQ (getS ρ i p) fun t => putO t kd z fun t' => nx (setS ρ i p t')) : evS G (.put o k e) ρ ⟨nx, rt, bk, ct⟩ := by
  unfold evS
  refine ev_mono G (fun r ρ => asO_mono fun z ρ => ev_mono G fun r ρ => ?_) h
  cases r <;> exact fun z => z
theorem s_aug {i : Nat} {op : Operator} {e : CE} {x : PyData} (h1 : ρ[i]? = some (.dat x)) (h : ev G e ρ fun r ρ => asD r ρ fun d ρ => augD op x d fun z => nx (ρ.set i (.dat z))) : evS G (.aug i op e) ρ ⟨nx, rt, bk, ct⟩ := by
  unfold evS
  rw [h1]
  exact h
theorem s_augP {o k e : CE} {op : Operator} (h : ev G o ρ fun r ρ => onPl r fun i p => ev G k ρ fun r ρ => asD r ρ fun kd ρ => stab (.pl i p) (pureE k && pureE e) ∧ optQ (getS ρ i p) fun t => mutO t ∧ idxO t i p kd fun c => onDat c fun x => ev G e ρ fun r ρ => asD r ρ fun d ρ => augD op x d fun z => optQ (getS ρ i p) fun t => putO t kd (.dat z) fun t' => nx (setS ρ i p t')) : evS G (.augP o k op e) ρ ⟨nx, rt, bk, ct⟩ := by
  unfold evS
  refine ev_mono G (fun r ρ => ?_) h
  cases r with
  | pl i p =>
    intro z
    refine ev_mono G (fun r ρ => asD_mono fun kd ρ y => ⟨y.1, optQ_mono (fun t x => ⟨x.1, idxO_mono (fun c => ?_) x.2⟩) y.2⟩) z
    cases c with
    | own o => cases o <;> exact fun z => z
    | _ => exact fun z => z
  | _ => exact fun z => z
theorem s_ex {e : CE} (h : ev G e ρ fun r ρ => hold r ρ fun _ ρ => nx ρ) : evS G (.ex e) ρ ⟨nx, rt, bk, ct⟩ := by
  unfold evS
  exact h
theorem s_ret {e : CE} (h : ev G e ρ fun r ρ => asO r ρ rt) : evS G (.ret e) ρ ⟨nx, rt, bk, ct⟩ := by
  unfold evS
  exact h
theorem s_retN (h : rt (.dat .none) ρ) : evS G .retN ρ ⟨nx, rt, bk, ct⟩ := by
  unfold evS
  exact h
theorem s_if {t : CE} {a b : List CS} (h : evT G t ρ fun c ρ => if c = true then evB G a ρ ⟨nx, rt, bk, ct⟩ else evB G b ρ ⟨nx, rt, bk, ct⟩) : evS G (.ife t a b) ρ ⟨nx, rt, bk, ct⟩ := by
  unfold evS
  exact h
theorem s_for {t : CT} {it : CE} {body : List CS} (h : ev G it ρ fun r ρ => srcQ r ρ fun ds chk ρ => loopS chk (fun d ρ k => bindT t (.dat d) ρ fun ρ => evB G body ρ ⟨k, rt, nx, k⟩) ds ρ nx) : evS G (.for_ t it body) ρ ⟨nx, rt, bk, ct⟩ := by
  unfold evS
  exact h
theorem s_pass (h : nx ρ) : evS G .pass ρ ⟨nx, rt, bk, ct⟩ := by
  unfold evS
  exact h
theorem s_brk (h : bk ρ) : evS G .brk ρ ⟨nx, rt, bk, ct⟩ := by
  unfold evS
  exact h
theorem s_cont (h : ct ρ) : evS G .cont ρ ⟨nx, rt, bk, ct⟩ := by
  unfold evS
  exact h
/-! ### loops, by an invariant -/
theorem s_loop {chk : Env → Prop} {stp : PyData → Env → (Env → Prop) → Prop} {ds : List PyData} {K : Env → Prop} (I : Nat → Env → Prop) (h0 : I 0 ρ) (hc : ∀ i ρ, i ≤ ds.length → I i ρ → chk ρ)
    (hs : ∀ i d ρ (k : Env → Prop), ds[i]? = some d → I i ρ → (∀ ρ', I (i + 1) ρ' → k ρ') → stp d ρ k) (he : ∀ ρ, I ds.length ρ → K ρ) : loopS chk stp ds ρ K := by
  have go : ∀ (n i : Nat) ρ, n = ds.length - i → i ≤ ds.length → I i ρ → loopS chk stp (ds.drop i) ρ K := by
    intro n
    induction n with
    | zero =>
      intro i ρ hn hi hI
      have e : i = ds.length := by omega
      subst e
      rw [List.drop_length]
      unfold loopS
      exact ⟨hc _ _ (Nat.le_refl _) hI, he _ hI⟩
    | succ n ih =>
      intro i ρ hn hi hI
      have lt : i < ds.length := by omega
      rw [drop_lt lt]
      unfold loopS
      exact ⟨hc _ _ hi hI, hs i _ _ _ (List.getElem?_eq_getElem lt) hI fun ρ' h' => ih (i + 1) ρ' (by omega) lt h'⟩
  have z := go ds.length 0 ρ (by omega) (Nat.zero_le _) h0
  rwa [List.drop_zero] at z
theorem s_comps {chk : Env → Prop} {stp : PyData → Env → (Option O → Env → Prop) → Prop} {ds : List PyData} {K : List O → Env → Prop} (I : Nat → Env → List O → Prop) (h0 : I 0 ρ []) (hc : ∀ i ρ acc, i ≤ ds.length → I i ρ acc → chk ρ)
    (hs : ∀ i d ρ acc (k : Option O → Env → Prop), ds[i]? = some d → I i ρ acc → (∀ o ρ', acc.length < sizeLine ∧ I (i + 1) ρ' (acc ++ [o]) → k (some o) ρ') → (∀ ρ', I (i + 1) ρ' acc → k none ρ') → stp d ρ k) (he : ∀ ρ acc, I ds.length ρ acc → K acc ρ) : loopC chk stp ds ρ [] K := by
  have go : ∀ (n i : Nat) ρ acc, n = ds.length - i → i ≤ ds.length → I i ρ acc → loopC chk stp (ds.drop i) ρ acc K := by
    intro n
    induction n with
    | zero =>
      intro i ρ acc hn hi hI
      have e : i = ds.length := by omega
      subst e
      rw [List.drop_length]
      unfold loopC
      exact ⟨hc _ _ _ (Nat.le_refl _) hI, he _ _ hI⟩
    | succ n ih =>
      intro i ρ acc hn hi hI
      have lt : i < ds.length := by omega
      rw [drop_lt lt]
      unfold loopC
      exact ⟨hc _ _ _ hi hI, hs i _ _ _ _ (List.getElem?_eq_getElem lt) hI (fun o ρ' h' => ⟨h'.1, ih (i + 1) ρ' _ (by omega) lt h'.2⟩) fun ρ' h' => ih (i + 1) ρ' _ (by omega) lt h'⟩
  have z := go ds.length 0 ρ [] (by omega) (Nat.zero_le _) h0
  rwa [List.drop_zero] at z
theorem take_snoc {α : Type} {l : List α} {i : Nat} {a : α} (e : l[i]? = some a) : l.take (i + 1) = l.take i ++ [a] := by
  rw [List.take_add_one, e]
  rfl
/-- a list of one value for each item; for some of the items -/
theorem s_compsF {chk : Env → Prop} {stp : PyData → Env → (Option O → Env → Prop) → Prop} {ds : List PyData} {K : List O → Env → Prop} (p : PyData → Bool) (f : PyData → PyData) (hl : ds.length ≤ sizeLine) (hc : chk ρ)
    (hs : ∀ d (k : Option O → Env → Prop), d ∈ ds → (p d = true → k (some (.dat (f d))) ρ) → (p d = false → k none ρ) → stp d ρ k) (he : K (((ds.filter p).map f).map O.dat) ρ) : loopC chk stp ds ρ [] K := by
  refine s_comps (fun i ρ' acc => ρ' = ρ ∧ acc = (((ds.take i).filter p).map f).map O.dat) ⟨rfl, by simp⟩ (fun i ρ' acc _ h => h.1 ▸ hc) ?_ ?_
  · rintro i d ρ' acc k hi ⟨rfl, rfl⟩ h1 h2
    have lt := lt_of_get hi
    have fl := List.length_filter_le p (ds.take i)
    rw [List.length_take] at fl
    refine hs d k (List.mem_of_getElem? hi) (fun e => h1 _ _ ⟨by rw [List.length_map, List.length_map]; omega, rfl, ?_⟩) fun e => h2 _ ⟨rfl, ?_⟩
    · rw [take_snoc hi, List.filter_append, List.filter_cons, if_pos e]
      simp
    · rw [take_snoc hi, List.filter_append, List.filter_cons, if_neg (by simp [e])]
      simp
  · rintro ρ' acc ⟨rfl, rfl⟩
    rw [List.take_length]
    exact he
theorem s_compsM {chk : Env → Prop} {stp : PyData → Env → (Option O → Env → Prop) → Prop} {ds : List PyData} {K : List O → Env → Prop} (f : PyData → PyData) (hl : ds.length ≤ sizeLine) (hc : chk ρ)
    (hs : ∀ d (k : Option O → Env → Prop), d ∈ ds → k (some (.dat (f d))) ρ → stp d ρ k) (he : K ((ds.map f).map O.dat) ρ) : loopC chk stp ds ρ [] K := by
  refine s_compsF (fun _ => true) f hl hc (fun d k hd h _ => hs d k hd (h rfl)) ?_
  rw [List.filter_eq_self.mpr (fun _ _ => rfl)]
  exact he
/-! ### expressions -/
variable {Q : R → Env → Prop}
theorem s_varD {i : Nat} {d : PyData} (h1 : ρ[i]? = some (.dat d)) (h : Q (.own (.dat d)) ρ) : ev G (.var i) ρ Q := by
  unfold ev
  rw [h1]
  exact h
theorem s_varN {i : Nat} {k : NK} {os : List O} (h1 : ρ[i]? = some (.nd k os)) (h : Q (.pl i []) ρ) : ev G (.var i) ρ Q := by
  unfold ev
  rw [h1]
  exact h
theorem s_con {x : Str} {d : PyData} (h1 : G.con x = some d) (h : Q (.own (.dat d)) ρ) : ev G (.con x) ρ Q := by
  unfold ev
  rw [h1]
  exact h
theorem s_non (h : Q (.own (.dat .none)) ρ) : ev G .non ρ Q := by
  unfold ev
  exact h
theorem s_bl {b : Bool} (h : Q (.own (.dat (.bool b))) ρ) : ev G (.bl b) ρ Q := by
  unfold ev
  exact h
theorem s_int {i : Int} (h : Q (.own (.dat (.int i))) ρ) : ev G (.int i) ρ Q := by
  unfold ev
  exact h
theorem s_str {x : Str} (h : Q (.own (.dat (.str x))) ρ) : ev G (.str x) ρ Q := by
  unfold ev
  exact h
theorem s_tup {es : List CE} (h : evL G es ρ fun os ρ => Q (.own (tupO os)) ρ) : ev G (.tup es) ρ Q := by
  unfold ev
  exact h
theorem s_lst {es : List CE} (h : evL G es ρ fun os ρ => Q (.own (.nd .lst os)) ρ) : ev G (.lst es) ρ Q := by
  unfold ev
  exact h
theorem s_dct {kvs : List CE} (h : evP G kvs ρ fun kds os ρ => optQ (keysD kds) fun ks => ks.Nodup ∧ Q (.own (.nd (.dk ks) os)) ρ) : ev G (.dct kvs) ρ Q := by
  unfold ev
  exact h
theorem s_dnewK (h : Q (.own (.nd (.dk []) [])) ρ) : ev G (.dnew false) ρ Q := by
  unfold ev
  exact h
theorem s_dnewT (h : Q (.own (.nd (.dt []) [])) ρ) : ev G (.dnew true) ρ Q := by
  unfold ev
  exact h
theorem s_bin {op : Operator} {a b : CE} (h : ev G a ρ fun r ρ => hold r ρ fun ra ρ => ev G b ρ fun r ρ => hold r ρ fun rb ρ => stab ra (pureE b) ∧ vwQ ra ρ fun da => vwQ rb ρ fun db => binD op da db fun o => Q (.own o) ρ) : ev G (.bin op a b) ρ Q := by
  unfold ev
  exact h
theorem s_neg {a : CE} (h : ev G a ρ fun r ρ => asD r ρ fun d ρ => onInt d fun i => Q (.own (.dat (.int (-i)))) ρ) : ev G (.neg a) ρ Q := by
  unfold ev
  refine ev_mono G (fun r ρ => asD_mono fun d ρ => ?_) h
  cases d <;> exact fun z => z
theorem s_cmp {op : CmpOp} {a b : CE} (h : ev G a ρ fun r ρ => hold r ρ fun ra ρ => ev G b ρ fun r ρ => hold r ρ fun rb ρ => stab ra (pureE b) ∧ vwQ ra ρ fun da => vwQ rb ρ fun db => cmpD op da db fun c => Q (.own (.dat (.bool c))) ρ) : ev G (.cmp op a b) ρ Q := by
  unfold ev
  exact h
theorem s_chn {o1 o2 : CmpOp} {a b c : CE} (h : ev G a ρ fun r ρ => asD r ρ fun da ρ => ev G b ρ fun r ρ => asD r ρ fun db ρ => cmpD o1 da db fun t => if t = true then ev G c ρ fun r ρ => asD r ρ fun dc ρ => cmpD o2 db dc fun t => Q (.own (.dat (.bool t))) ρ
      else Q (.own (.dat (.bool false))) ρ) : ev G (.chn o1 o2 a b c) ρ Q := by
  unfold ev
  exact h
theorem s_bop {isand : Bool} {es : List CE} (h : evBop G isand es ρ Q) : ev G (.bop isand es) ρ Q := by
  unfold ev
  exact h
theorem s_bop1 {isand : Bool} {e : CE} (h : ev G e ρ fun r ρ => hold r ρ Q) : evBop G isand [e] ρ Q := by
  unfold evBop
  exact h
theorem s_bop2 {isand : Bool} {e e2 : CE} {es : List CE} (h : ev G e ρ fun r ρ => hold r ρ fun rh ρ => vwQ rh ρ fun d => truD d fun t => if t = isand then evBop G isand (e2 :: es) ρ Q else Q rh ρ) : evBop G isand (e :: e2 :: es) ρ Q := by
  unfold evBop
  exact h
theorem s_nt {a : CE} (h : ev G a ρ fun r ρ => hold r ρ fun ra ρ => vwQ ra ρ fun d => truD d fun b => notQ b fun b => Q (.own (.dat (.bool b))) ρ) : ev G (.nt a) ρ Q := by
  unfold ev
  exact h
theorem s_ife {t a b : CE} (h : ev G t ρ fun r ρ => hold r ρ fun rt ρ => vwQ rt ρ fun d => truD d fun c => if c = true then ev G a ρ Q else ev G b ρ Q) : ev G (.ife t a b) ρ Q := by
  unfold ev
  exact h
theorem s_idx {a i : CE} (h : ev G a ρ fun r ρ => hold r ρ fun ra ρ => ev G i ρ fun r ρ => asD r ρ fun k ρ => stab ra (pureE i) ∧ idxR ra k ρ fun r => Q r ρ) : ev G (.idx a i) ρ Q := by
  unfold ev
  exact h
theorem s_sl {a : CE} {lo hi : List CE} (h : ev G a ρ fun r ρ => hold r ρ fun ra ρ => evO G lo ρ fun l ρ => evO G hi ρ fun h ρ => stab ra (pureL lo && pureL hi) ∧ vwQ ra ρ fun d => slD d l h fun o => Q (.own o) ρ) : ev G (.sl a lo hi) ρ Q := by
  unfold ev
  exact h
theorem s_isi {a : CE} {T : TN} (h : ev G a ρ fun r ρ => hold r ρ fun ra ρ => vwQ ra ρ fun d => isiQ d T fun b => Q (.own (.dat (.bool b))) ρ) : ev G (.isi a T) ρ Q := by
  unfold ev
  exact h
theorem s_itvD {i : Nat} {d : PyData} (h1 : ρ[i]? = some (.dat d)) (h : Q (.own (.dat d)) ρ) : ev G (.itv i) ρ Q := by
  unfold ev
  rw [h1]
  exact h
theorem s_itvN {i : Nat} {ds : List PyData} (h1 : ρ[i]? = some (dL ds)) (h : Q (.iv i ds) ρ) : ev G (.itv i) ρ Q := by
  unfold ev
  rw [h1]
  show optQ (datL (ds.map O.dat)) _
  rw [datL_map]
  exact h
theorem s_mvD {i : Nat} {d : PyData} (h1 : ρ[i]? = some (.dat d)) (h : Q (.own (.dat d)) ρ) : ev G (.mv i) ρ Q := by
  unfold ev
  rw [h1]
  exact h
theorem s_mvL {i : Nat} {ds : List PyData} (h1 : ρ[i]? = some (dL ds)) (h : Q (.own (dL ds)) (ρ.set i .un)) : ev G (.mv i) ρ Q := by
  unfold ev
  rw [h1]
  exact h
theorem s_mvN {i : Nat} {k : NK} {os : List O} (h1 : ρ[i]? = some (.nd k os)) (h : Q (.own (.nd k os)) (ρ.set i .un)) : ev G (.mv i) ρ Q := by
  unfold ev
  rw [h1]
  exact h
theorem s_comp {own : List (Str × Nat)} {elt : CE} {tg : CT} {it : CE} {ifs : List CE} (h : ev G it ρ fun r ρ => srcQ r ρ fun ds chk ρ => loopC chk (fun d ρ k => bindT tg (.dat d) ρ fun ρ => evTs G ifs ρ fun b ρ =>
      if b = true then ev G elt ρ fun r ρ => asO r ρ fun o ρ => k (some o) (wipeO ρ (own.map (·.2))) else k none (wipeO ρ (own.map (·.2)))) ds (wipeO ρ (own.map (·.2))) []
      fun acc ρ' => Q (.own (.nd .lst acc)) (backO ρ' ρ (own.map (·.2)))) : ev G (.comp own elt tg it ifs) ρ Q := by
  unfold ev
  exact h
theorem s_call {f : Str} {args : List CE} {S : FS} (h1 : G.fn f = some S) (h : evC G args ρ fun as ρ => callQ S ρ as fun r ρ => Q (.own r) ρ) : ev G (.call f args) ρ Q := by
  unfold ev
  rw [h1]
  exact h
theorem s_blt {f : BF} {args : List CE} (h : evH G args ρ fun rs ρ => vwsQ ρ rs fun ds => bltD f ds fun o => Q (.own o) ρ) : ev G (.blt f args) ρ Q := by
  unfold ev
  exact h
theorem s_mth {m : MF} {a : CE} {args : List CE} (h : ev G a ρ fun r ρ => hold r ρ fun ra ρ => rcvM m ra ρ ∧ evH G args ρ fun rs ρ => stab ra (pureL args) ∧ vwQ ra ρ fun d => vwsQ ρ rs fun ds => mthD m d ds fun o => Q (.own o) ρ) : ev G (.mth m a args) ρ Q := by
  unfold ev
  exact h
theorem s_mmt {m : WF} {a : CE} {args : List CE} (h : ev G a ρ fun r ρ => onPl r fun i p => rcvW ρ i p ∧ evL G args ρ fun os ρ => stab (.pl i p) (pureL args) ∧ optQ (getS ρ i p) fun o => mmtO m o os fun z o' => Q (.own z) (setS ρ i p o')) : ev G (.mmt m a args) ρ Q := by
  unfold ev
  refine ev_mono G (fun r ρ => ?_) h
  cases r <;> exact fun z => z
theorem s_rng {args : List CE} (h : evH G args ρ fun rs ρ => vwsQ ρ rs fun ds => rngQ ds fun ds => Q (.it ds) ρ) : ev G (.rng args) ρ Q := by
  unfold ev
  exact h
def onSeq (d : PyData) (Q : List PyData → Prop) : Prop := match d with
  | .list ds => Q ds
  | .tuple ds => Q ds
  | _ => False
theorem r_seqL {ds : List PyData} {Q : List PyData → Prop} (h : Q ds) : onSeq (.list ds) Q := h
theorem r_seqT {ds : List PyData} {Q : List PyData → Prop} (h : Q ds) : onSeq (.tuple ds) Q := h
theorem s_enu {a : CE} (h : ev G a ρ fun r ρ => asD r ρ fun d ρ => onSeq d fun ds => Q (.it (enuD ds)) ρ) : ev G (.enu a) ρ Q := by
  unfold ev
  refine ev_mono G (fun r ρ => asD_mono fun d ρ => ?_) h
  cases d <;> exact fun z => z
theorem s_zip {a b : CE} (h : ev G a ρ fun r ρ => asD r ρ fun d ρ => ev G b ρ fun r ρ => asD r ρ fun e ρ => onZip d e fun ds es => Q (.it (zipD ds es)) ρ) : ev G (.zip a b) ρ Q := by
  unfold ev
  refine ev_mono G (fun r ρ => asD_mono fun d ρ => ev_mono G fun r ρ => asD_mono fun e ρ => ?_) h
  cases d <;> cases e <;> exact fun z => z
theorem s_rev {a : CE} (h : ev G a ρ fun r ρ => hold r ρ fun ra ρ => vwQ ra ρ fun d => revD d fun o => Q (.own o) ρ) : ev G (.rev a) ρ Q := by
  unfold ev
  exact h
def onNdL (r : R) (Q : List O → Prop) : Prop := match r with
  | .own (.nd .lst os) => Q os
  | _ => False
theorem r_onNdL {os : List O} {Q : List O → Prop} (h : Q os) : onNdL (.own (.nd .lst os)) Q := h
theorem r_onNdD {ds : List PyData} {Q : List O → Prop} (h : Q (ds.map O.dat)) : onNdL (.own (dL ds)) Q := h
theorem r_toDL {os : List O} {ds : List PyData} {Q : List PyData → Prop} (e : O.toDL os = some ds) (h : Q ds) : optQ (O.toDL os) Q := by
  rw [e]
  exact h
theorem s_fl {a : CE} (h : ev G a ρ fun r ρ => onNdL r fun os => optQ (O.toDL os) fun ds => Q (.own (dL ds)) ρ) : ev G (.fl a) ρ Q := by
  unfold ev
  refine ev_mono G (fun r ρ => ?_) h
  cases r with
  | own o =>
    cases o with
    | nd k os => cases k <;> exact fun z => z
    | _ => exact fun z => z
  | _ => exact fun z => z
theorem s_frz {a : CE} (h : ev G a ρ fun r ρ => asD r ρ fun d ρ => Q (.own (.dat d)) ρ) : ev G (.frz a) ρ Q := by
  unfold ev
  exact h
theorem s_dctT {kvs : List CE} (h : evP G kvs ρ fun kds os ρ => optQ (keysT kds) fun ks => optQ (datL os) fun ds => Q (.own (dictT (ks.zip ds))) ρ) : ev G (.dctT kvs) ρ Q := by
  unfold ev
  exact h
def onLz (d e : PyData) (Q : List PyData → List PyData → Prop) : Prop := match d, e with
  | .list ds, .list es => ds.length ≤ sizeLine ∧ ds.any isEnt = false ∧ Q ds es
  | _, _ => False
theorem r_lz {ds es : List PyData} {Q : List PyData → List PyData → Prop} (c : ds.length ≤ sizeLine ∧ ds.any isEnt = false) (h : Q ds es) : onLz (.list ds) (.list es) Q := ⟨c.1, c.2, h⟩
def onPairs (d : PyData) (Q : List Key → List PyData → Prop) : Prop := match d with
  | .tuple ds => optQ (pairsD ds) fun kv => kv.1.Nodup ∧ ds.length ≤ sizeLine ∧ Q kv.1 kv.2
  | _ => False
theorem r_pairs {ds : List PyData} {kv : List Key × List PyData} {Q : List Key → List PyData → Prop} (e : pairsD ds = some kv) (c : kv.1.Nodup ∧ ds.length ≤ sizeLine) (h : Q kv.1 kv.2) : onPairs (.tuple ds) Q := by
  show optQ (pairsD ds) _
  rw [e]
  exact ⟨c.1, c.2, h⟩
theorem s_dof {a : CE} (h : ev G a ρ fun r ρ => asD r ρ fun d ρ => onPairs d fun ks ds => Q (.own (.nd (.dk ks) (ds.map O.dat))) ρ) : ev G (.dof a) ρ Q := by
  unfold ev
  refine ev_mono G (fun r ρ => asD_mono fun d ρ => ?_) h
  cases d <;> exact fun z => z
theorem s_upd {a e : CE} (h : ev G a ρ fun r ρ => onPl r fun i p => rcvU ρ i p ∧ ev G e ρ fun r ρ => asO r ρ fun o ρ => stab (.pl i p) (pureE e) ∧ optQ (getS ρ i p) fun t => updO t o fun t' => Q (.own (.dat .none)) (setS ρ i p t')) : ev G (.upd a e) ρ Q := by
  unfold ev
  refine ev_mono G (fun r ρ => ?_) h
  cases r <;> exact fun z => z
theorem r_rcvU {i : Nat} {p : List Nat} {ks : List Key} {os : List O} {A : Prop} (e : getS ρ i p = some (.nd (.dk ks) os)) (h : A) : rcvU ρ i p ∧ A := ⟨by unfold rcvU; rw [e]; trivial, h⟩
theorem d_upd {ks ls : List Key} {os ps : List O} {Q : O → Prop} (c : ks.length + ls.length ≤ sizeLine ∧ (∀ k, k ∈ ls → k ∉ ks) ∧ ls.Nodup) (h : Q (.nd (.dk (ks ++ ls)) (os ++ ps))) : updO (.nd (.dk ks) os) (.nd (.dk ls) ps) Q := ⟨c.1, c.2.1, c.2.2, h⟩
theorem s_lzip {a b : CE} (h : ev G a ρ fun r ρ => asD r ρ fun d ρ => ev G b ρ fun r ρ => asD r ρ fun e ρ => onLz d e fun ds es => Q (.own (dL (zipD ds es))) ρ) : ev G (.lzip a b) ρ Q := by
  unfold ev
  refine ev_mono G (fun r ρ => asD_mono fun d ρ => ev_mono G fun r ρ => asD_mono fun e ρ => ?_) h
  cases d <;> cases e <;> exact fun z => z
def onDn (d e : PyData) (Q : Int → Int → Prop) : Prop := match d, e with
  | .int i, .int j => -(2 ^ 62) ≤ i ∧ i < 2 ^ 62 ∧ -(2 ^ 62) ≤ j ∧ j < 2 ^ 62 ∧ Q i j
  | _, _ => False
theorem r_dn {i j : Int} {Q : Int → Int → Prop} (c : -(2 ^ 62) ≤ i ∧ i < 2 ^ 62 ∧ -(2 ^ 62) ≤ j ∧ j < 2 ^ 62) (h : Q i j) : onDn (.int i) (.int j) Q := ⟨c.1, c.2.1, c.2.2.1, c.2.2.2, h⟩
theorem s_rng3 {a b : CE} (h : ev G a ρ fun r ρ => asD r ρ fun d ρ => ev G b ρ fun r ρ => asD r ρ fun e ρ => onDn d e fun i j => Q (.it (rangeDn i j)) ρ) : ev G (.rng3 a b) ρ Q := by
  unfold ev
  refine ev_mono G (fun r ρ => asD_mono fun d ρ => ev_mono G fun r ρ => asD_mono fun e ρ => ?_) h
  cases d <;> cases e <;> exact fun z => z
theorem s_get1 {a k : CE} (h : ev G a ρ fun r ρ => hold r ρ fun ra ρ => dcvR ra ρ (fun _ _ => True) ∧ ev G k ρ fun r ρ => asD r ρ fun kd ρ => stab ra (pureE k) ∧ dcvR ra ρ fun nk os => dgetQ nk os kd .none fun d => Q (.own (.dat d)) ρ) : ev G (.get1 a k) ρ Q := by
  unfold ev
  exact h
theorem s_get2 {a k e : CE} (h : ev G a ρ fun r ρ => hold r ρ fun ra ρ => dcvR ra ρ (fun _ _ => True) ∧ ev G k ρ fun r ρ => asD r ρ fun kd ρ => ev G e ρ fun r ρ => asD r ρ fun dd ρ => stab ra (pureE k && pureE e) ∧ dcvR ra ρ fun nk os => dgetQ nk os kd dd fun d => Q (.own (.dat d)) ρ) : ev G (.get2 a k e) ρ Q := by
  unfold ev
  exact h
def isinQ (neg : Bool) (n : Option Nat) (Q : Bool → Prop) : Prop := Q (if neg = true then !n.isSome else n.isSome)
theorem s_isin {neg : Bool} {k a : CE} (h : ev G k ρ fun r ρ => asD r ρ fun kd ρ => ev G a ρ fun r ρ => hold r ρ fun ra ρ => dcvR ra ρ fun nk _ => optQ (dgetK nk kd) fun n => isinQ neg n fun b => Q (.own (.dat (.bool b))) ρ) : ev G (.isin neg k a) ρ Q := by
  unfold ev
  exact h
theorem s_fst {ps : List CE} (h : evF G ps Str.empty ρ fun out ρ => Q (.own (.dat (.str out))) ρ) : ev G (.fst ps) ρ Q := by
  unfold ev
  exact h
theorem s_F0 {acc : Str} {Q : Str → Env → Prop} (h : Q acc ρ) : evF G [] acc ρ Q := by
  unfold evF
  exact h
theorem s_F1 {e : CE} {es : List CE} {acc : Str} {Q : Str → Env → Prop} (h : ev G e ρ fun r ρ => asD r ρ fun d ρ => fmtD d fun y => (acc ++ y).length ≤ sizeLine ∧ evF G es (acc ++ y) ρ Q) : evF G (e :: es) acc ρ Q := by
  unfold evF
  exact h
theorem len_apR (a b : Str) : b.length ≤ (a ++ b).length := by
  have e : (a ++ b).length = a.length + b.length := by
    show (a.cps ++ b.cps).size = _
    rw [Array.size_append]
    rfl
  omega
theorem d_fmtS {acc y : Str} {P : Str → Prop} (c : (acc ++ y).length ≤ sizeLine) (h : P y) : fmtD (.str y) fun y => (acc ++ y).length ≤ sizeLine ∧ P y :=
  ⟨Nat.le_trans (len_apR acc y) c, c, h⟩
theorem s_T {e : CE} {Q : Bool → Env → Prop} (h : ev G e ρ fun r ρ => hold r ρ fun rt ρ => vwQ rt ρ fun d => truD d fun c => Q c ρ) : evT G e ρ Q := h
/-! ### lists of expressions -/
theorem s_L0 {Q : List O → Env → Prop} (h : Q [] ρ) : evL G [] ρ Q := by
  unfold evL
  exact h
theorem s_L1 {e : CE} {es : List CE} {Q : List O → Env → Prop} (h : ev G e ρ fun r ρ => asO r ρ fun o ρ => evL G es ρ fun os ρ => Q (o :: os) ρ) : evL G (e :: es) ρ Q := by
  unfold evL
  exact h
theorem s_H0 {Q : List R → Env → Prop} (h : Q [] ρ) : evH G [] ρ Q := by
  unfold evH
  exact h
theorem s_H1 {e : CE} {es : List CE} {Q : List R → Env → Prop} (h : ev G e ρ fun r ρ => hold r ρ fun ra ρ => evH G es ρ fun rs ρ => stab ra (pureL es) ∧ Q (ra :: rs) ρ) : evH G (e :: es) ρ Q := by
  unfold evH
  exact h
theorem s_C0 {Q : List (PyData ⊕ Nat) → Env → Prop} (h : Q [] ρ) : evC G [] ρ Q := by
  unfold evC
  exact h
theorem s_C1 {i : Nat} {es : List CE} {Q : List (PyData ⊕ Nat) → Env → Prop} (h1 : isNd ρ i) (h : evC G es ρ fun as ρ => Q (.inr i :: as) ρ) : evC G (.io i :: es) ρ Q := by
  unfold evC
  exact ⟨h1, h⟩
theorem s_C2 {e : CE} {es : List CE} {Q : List (PyData ⊕ Nat) → Env → Prop} (h1 : e.ioOf = none) (h : ev G e ρ fun r ρ => asD r ρ fun d ρ => evC G es ρ fun as ρ => Q (.inl d :: as) ρ) : evC G (e :: es) ρ Q := by
  unfold evC
  rw [h1]
  exact h
theorem s_P0 {Q : List PyData → List O → Env → Prop} (h : Q [] [] ρ) : evP G [] ρ Q := by
  unfold evP
  exact h
theorem s_P1 {k v : CE} {r : List CE} {Q : List PyData → List O → Env → Prop} (h : ev G k ρ fun q ρ => asD q ρ fun kd ρ => ev G v ρ fun q ρ => asO q ρ fun o ρ => evP G r ρ fun kds os ρ => Q (kd :: kds) (o :: os) ρ) : evP G (k :: v :: r) ρ Q := by
  unfold evP
  exact h
theorem s_O0 {Q : Option Int → Env → Prop} (h : Q none ρ) : evO G [] ρ Q := by
  unfold evO
  exact h
theorem s_O1 {e : CE} {Q : Option Int → Env → Prop} (h : ev G e ρ fun r ρ => asD r ρ fun d ρ => onInt d fun i => Q (some i) ρ) : evO G [e] ρ Q := by
  unfold evO
  refine ev_mono G (fun r ρ => asD_mono fun d ρ => ?_) h
  cases d <;> exact fun z => z
theorem s_Ts0 {Q : Bool → Env → Prop} (h : Q true ρ) : evTs G [] ρ Q := by
  unfold evTs
  exact h
theorem s_Ts1 {e : CE} {Q : Bool → Env → Prop} (h : ev G e ρ fun r ρ => hold r ρ fun rt ρ => vwQ rt ρ fun d => truD d fun c => Q c ρ) : evTs G [e] ρ Q := by
  unfold evTs
  exact h
end
/-! ### results -/
section
variable {ρ : Env}
theorem toD_dL (ds : List PyData) : (dL ds).toD = some (.list ds) := O.toD_nd (toDL_datL (datL_map ds)) (fun z => nomatch z)
theorem toD_two (a b : List PyData) : (O.nd .lst [dL a, dL b]).toD = some (.list [.list a, .list b]) := by
  refine O.toD_nd ?_ (fun z => nomatch z)
  unfold O.toDL
  rw [toD_dL]
  unfold O.toDL
  rw [toD_dL]
  rfl
theorem toD_dat (d : PyData) : (O.dat d).toD = some d := rfl
theorem toD_lst {os : List O} {ds : List PyData} (h : O.toDL os = some ds) : (O.nd .lst os).toD = some (.list ds) := O.toD_nd h (fun z => nomatch z)
theorem toD_dk {ks : List Key} {os : List O} {ds : List PyData} (h : O.toDL os = some ds) : (O.nd (.dk ks) os).toD = some (.dict ((ks.map kD).zip ds)) := O.toD_nd h (fun z => nomatch z)
theorem toD_dt {ks : List (List Key)} {os : List O} {ds : List PyData} (h : O.toDL os = some ds) : (O.nd (.dt ks) os).toD = some (.dict ((ks.map kD2).zip ds)) := O.toD_nd h (fun z => nomatch z)
theorem toD_tupO {os : List O} {ds : List PyData} (h : O.toDL os = some ds) (he : entB ds = false) : (tupO os).toD = some (.tuple ds) := by
  unfold tupO
  cases e : datL os with
  | none => exact O.toD_tup h he
  | some es =>
    rw [toDL_datL e] at h
    cases h
    rfl
theorem toDL_nil : O.toDL [] = some [] := rfl
theorem toDL_cons {o : O} {os : List O} {d : PyData} {ds : List PyData} (h : o.toD = some d) (h2 : O.toDL os = some ds) : O.toDL (o :: os) = some (d :: ds) := by
  unfold O.toDL
  rw [h, h2]
theorem flat_dL (ds : List PyData) : (dL ds).flat = some (.list ds) := by
  show (datL (ds.map O.dat)).map NK.lst.mk = _
  rw [datL_map]
  rfl
theorem r_asDd {d : PyData} {Q : PyData → Env → Prop} (h : Q d ρ) : asD (.own (.dat d)) ρ Q := h
theorem r_asDl {ds : List PyData} {Q : PyData → Env → Prop} (h : Q (.list ds) ρ) : asD (.own (dL ds)) ρ Q := by
  unfold asD
  simp only [toD_dL]
  exact h
theorem r_asDn {o : O} {d : PyData} {Q : PyData → Env → Prop} (e : o.toD = some d) (h : Q d ρ) : asD (.own o) ρ Q := by
  unfold asD
  simp only [e]
  exact h
theorem r_asDp {i : Nat} {p : List Nat} {o : O} {d : PyData} {Q : PyData → Env → Prop} (e1 : getS ρ i p = some o) (e : o.toD = some d) (h : Q d (setS ρ i p (.dat d))) : asD (.pl i p) ρ Q := by
  unfold asD
  simp only [e1, e]
  exact h
theorem r_asOo {o : O} {Q : O → Env → Prop} (h : Q o ρ) : asO (.own o) ρ Q := h
theorem r_asOp {i : Nat} {p : List Nat} {Q : O → Env → Prop} (h : asD (.pl i p) ρ fun d ρ => Q (.dat d) ρ) : asO (.pl i p) ρ Q := h
theorem r_holdD {d : PyData} {Q : R → Env → Prop} (h : Q (.own (.dat d)) ρ) : hold (.own (.dat d)) ρ Q := h
theorem r_holdO {o : O} {Q : R → Env → Prop} (h : asD (.own o) ρ fun d ρ => Q (.own (.dat d)) ρ) : hold (.own o) ρ Q := h
theorem r_holdP {i : Nat} {p : List Nat} {Q : R → Env → Prop} (h : Q (.pl i p) ρ) : hold (.pl i p) ρ Q := h
theorem r_vwD {d : PyData} {Q : PyData → Prop} (h : Q d) : vwQ (.own (.dat d)) ρ Q := h
theorem r_vwP {i : Nat} {p : List Nat} {o : O} {d : PyData} {Q : PyData → Prop} (e1 : getS ρ i p = some o) (e : o.flat = some d) (h : Q d) : vwQ (.pl i p) ρ Q := by
  unfold vwQ vw
  simp only [e1, e]
  exact h
theorem r_vws0 {Q : List PyData → Prop} (h : Q []) : vwsQ ρ [] Q := h
theorem r_vws1 {r : R} {rs : List R} {Q : List PyData → Prop} (h : vwQ r ρ fun d => vwsQ ρ rs fun ds => Q (d :: ds)) : vwsQ ρ (r :: rs) Q := h
theorem r_stabO {o : O} {b : Bool} {A : Prop} (h : A) : stab (.own o) b ∧ A := ⟨.inl rfl, h⟩
theorem r_stabP {i : Nat} {b : Bool} {A : Prop} (h : A) : stab (.pl i []) b ∧ A := ⟨.inl rfl, h⟩
theorem r_stabL {r : R} {b : Bool} {A : Prop} (e : shallow r = true) (h : A) : stab r b ∧ A := ⟨.inl e, h⟩
theorem r_stabR {r : R} {b : Bool} {A : Prop} (e : b = true) (h : A) : stab r b ∧ A := ⟨.inr e, h⟩
theorem r_and {A B : Prop} (h : A) (h2 : B) : A ∧ B := ⟨h, h2⟩
theorem r_rcvM {x : Str} {A : Prop} (h : A) : rcvM .join (.own (.dat (.str x))) ρ ∧ A := ⟨trivial, h⟩
theorem r_rcvW {i : Nat} {p : List Nat} {os : List O} {A : Prop} (e : getS ρ i p = some (.nd .lst os)) (h : A) : rcvW ρ i p ∧ A := ⟨by unfold rcvW; rw [e]; trivial, h⟩
theorem r_stabT {r : R} {A : Prop} (h : A) : stab r true ∧ A := ⟨.inr rfl, h⟩
theorem r_opt {α : Type} {o : Option α} {x : α} {Q : α → Prop} (e : o = some x) (h : Q x) : optQ o Q := by
  rw [e]
  exact h
theorem r_idxO {d k : PyData} {Q : R → Prop} (h : idxD d k fun d => Q (.own (.dat d))) : idxR (.own (.dat d)) k ρ Q := h
theorem r_idxP {i : Nat} {p : List Nat} {o : O} {k : PyData} {Q : R → Prop} (e : getS ρ i p = some o) (h : idxO o i p k Q) : idxR (.pl i p) k ρ Q := r_opt e h
/-- an item of a list of data -/
theorem r_idxL {ds : List PyData} {i : Nat} {p : List Nat} {j : Int} {n : Nat} {d : PyData} {Q : R → Prop} (e1 : ixN ds.length j = some n) (e2 : ds[n]? = some d) (h : Q (.own (.dat d))) : idxO (dL ds) i p (.int j) Q := by
  unfold idxO dL
  refine r_opt (x := n) ?_ (r_opt (x := .dat d) ?_ h)
  · show ixN (ds.map O.dat).length j = some n
    rw [List.length_map]
    exact e1
  · rw [List.getElem?_map, e2]
    rfl
/-- a child that is a datum; a child that is owned -/
theorem r_idxC {k : NK} {os : List O} {i : Nat} {p : List Nat} {kd d : PyData} {n : Nat} {Q : R → Prop} (e1 : kidx k os.length kd = some n) (e2 : os[n]? = some (.dat d)) (h : Q (.own (.dat d))) : idxO (.nd k os) i p kd Q := by
  unfold idxO
  refine r_opt e1 (r_opt e2 h)
theorem r_idxN {k k2 : NK} {os os2 : List O} {i : Nat} {p : List Nat} {kd : PyData} {n : Nat} {Q : R → Prop} (e1 : kidx k os.length kd = some n) (e2 : os[n]? = some (.nd k2 os2)) (h : Q (.pl i (p ++ [n]))) : idxO (.nd k os) i p kd Q := by
  unfold idxO
  refine r_opt e1 (r_opt e2 h)
theorem r_itL {ds : List PyData} {Q : List PyData → (Env → Prop) → Env → Prop} (h : Q ds (fun _ => True) ρ) : srcQ (.own (.dat (.list ds))) ρ Q := h
theorem r_itT {ds : List PyData} {Q : List PyData → (Env → Prop) → Env → Prop} (h : Q ds (fun _ => True) ρ) : srcQ (.own (.dat (.tuple ds))) ρ Q := h
theorem r_itS {x : Str} {Q : List PyData → (Env → Prop) → Env → Prop} (h : Q (x.cps.toList.map fun c => .str ⟨#[c]⟩) (fun _ => True) ρ) : srcQ (.own (.dat (.str x))) ρ Q := h
theorem r_itI {ds : List PyData} {Q : List PyData → (Env → Prop) → Env → Prop} (h : Q ds (fun _ => True) ρ) : srcQ (.it ds) ρ Q := h
theorem r_itV {i : Nat} {ds : List PyData} {Q : List PyData → (Env → Prop) → Env → Prop} (h : Q ds (fun ρ => ρ[i]? = some (dL ds)) ρ) : srcQ (.iv i ds) ρ Q := h
theorem r_itP {i : Nat} {p : List Nat} {ds : List PyData} {Q : List PyData → (Env → Prop) → Env → Prop} (e1 : getS ρ i p = some (dL ds)) (h : Q ds (fun _ => True) (setS ρ i p (.dat (.list ds)))) : srcQ (.pl i p) ρ Q := by
  unfold srcQ
  exact r_asDp e1 (toD_dL ds) h
theorem r_itO {o : O} {ds : List PyData} {Q : List PyData → (Env → Prop) → Env → Prop} (e : o.toD = some (.list ds)) (h : Q ds (fun _ => True) ρ) : srcQ (.own o) ρ Q := by
  unfold srcQ
  exact r_asDn e h
end
section
variable {ρ : Env}
theorem r_dcvK {i : Nat} {p : List Nat} {ks : List Key} {os : List O} {Q : NK → List O → Prop} (e : getS ρ i p = some (.nd (.dk ks) os)) (h : Q (.dk ks) os) : dcvR (.pl i p) ρ Q := by
  show optQ (getS ρ i p) _
  rw [e]
  exact h
theorem r_dcvT {i : Nat} {p : List Nat} {ks : List (List Key)} {os : List O} {Q : NK → List O → Prop} (e : getS ρ i p = some (.nd (.dt ks) os)) (h : Q (.dt ks) os) : dcvR (.pl i p) ρ Q := by
  show optQ (getS ρ i p) _
  rw [e]
  exact h
theorem r_dcvD {kvs : List (PyData × PyData)} {kd : NK} {Q : NK → List O → Prop} (e : kdOf kvs = some kd) (h : Q kd ((kvs.map (·.2)).map O.dat)) : dcvR (.own (.dat (.dict kvs))) ρ Q := by
  show optQ (kdOf kvs) _
  rw [e]
  exact h
theorem r_dcvK2 {i : Nat} {p : List Nat} {ks : List Key} {os : List O} {A : Prop} (e : getS ρ i p = some (.nd (.dk ks) os)) (h : A) : dcvR (.pl i p) ρ (fun _ _ => True) ∧ A := ⟨r_dcvK e trivial, h⟩
theorem r_dcvT2 {i : Nat} {p : List Nat} {ks : List (List Key)} {os : List O} {A : Prop} (e : getS ρ i p = some (.nd (.dt ks) os)) (h : A) : dcvR (.pl i p) ρ (fun _ _ => True) ∧ A := ⟨r_dcvT e trivial, h⟩
theorem r_dcvD2 {kvs : List (PyData × PyData)} {kd : NK} {A : Prop} (e : kdOf kvs = some kd) (h : A) : dcvR (.own (.dat (.dict kvs))) ρ (fun _ _ => True) ∧ A := ⟨r_dcvD e trivial, h⟩
theorem d_getS {kd : NK} {os : List O} {k dd d : PyData} {n : Nat} {Q : PyData → Prop} (e1 : dgetK kd k = some (some n)) (e2 : os[n]? = some (.dat d)) (h : Q d) : dgetQ kd os k dd Q := by
  unfold dgetQ
  rw [e1]
  show optQ os[n]? _
  rw [e2]
  exact h
theorem d_getN {kd : NK} {os : List O} {k dd : PyData} {Q : PyData → Prop} (e1 : dgetK kd k = some none) (h : Q dd) : dgetQ kd os k dd Q := by
  unfold dgetQ
  rw [e1]
  exact h
theorem r_inT {n : Nat} {Q : Bool → Prop} (h : Q true) : isinQ false (some n) Q := h
theorem r_inF {Q : Bool → Prop} (h : Q false) : isinQ false none Q := h
theorem r_ninT {n : Nat} {Q : Bool → Prop} (h : Q false) : isinQ true (some n) Q := h
theorem r_ninF {Q : Bool → Prop} (h : Q true) : isinQ true none Q := h
end
/-! ### data -/
section
variable {i j : Int} {x y : Str} {ds es : List PyData} {QO : O → Prop} {QB : Bool → Prop}
theorem d_add (h : QO (.dat (.int (i + j)))) : binD .Add (.int i) (.int j) QO := h
theorem d_sub (h : QO (.dat (.int (i - j)))) : binD .Sub (.int i) (.int j) QO := h
theorem d_mul (c : CMul i j) (h : QO (.dat (.int (i * j)))) : binD .Mult (.int i) (.int j) QO := ⟨c, h⟩
theorem d_mod (c : 0 < j) (h : QO (.dat (.int (i % j)))) : binD .Mod (.int i) (.int j) QO := ⟨c, h⟩
theorem d_div (c : CDiv i j) (h : QO (.dat (.int (i / j)))) : binD .FloorDiv (.int i) (.int j) QO := ⟨c, h⟩
theorem d_pow (c : CPow i j) (h : QO (.dat (.int (i ^ j.toNat)))) : binD .Pow (.int i) (.int j) QO := ⟨c, h⟩
theorem d_addS (c : x.length + y.length ≤ sizeLine) (h : QO (.dat (.str (x ++ y)))) : binD .Add (.str x) (.str y) QO := ⟨c, h⟩
theorem d_addL (c : ds.length + es.length ≤ sizeLine) (h : QO (dL (ds ++ es))) : binD .Add (.list ds) (.list es) QO := ⟨c, h⟩
theorem d_addT (c : ds.length + es.length ≤ sizeLine) (h : QO (.dat (.tuple (ds ++ es)))) : binD .Add (.tuple ds) (.tuple es) QO := ⟨c, h⟩
theorem d_mulS (c : 1 ≤ j ∧ j ≤ 1000 ∧ x.length ≤ 1000) (h : QO (.dat (.str (repS j x)))) : binD .Mult (.str x) (.int j) QO := ⟨c.1, c.2.1, c.2.2, h⟩
theorem d_mulL (c : -(2 ^ 63) ≤ j ∧ j < 2 ^ 63 ∧ ds.length * j.toNat ≤ sizeLine) (h : QO (dL (repL j ds))) : binD .Mult (.list ds) (.int j) QO := ⟨c.1, c.2.1, c.2.2, h⟩
theorem d_mulT (c : ds ≠ [] ∧ 2 ≤ j ∧ j ≤ 1000 ∧ ds.length ≤ 1000 ∧ entB (repL j ds) = false) (h : QO (.dat (.tuple (repL j ds)))) : binD .Mult (.tuple ds) (.int j) QO := ⟨c.1, c.2.1, c.2.2.1, c.2.2.2.1, c.2.2.2.2, h⟩
theorem d_revL (h : QO (dL ds.reverse)) : revD (.list ds) QO := h
theorem d_lt (h : QB (decide (i < j))) : cmpD .Lt (.int i) (.int j) QB := h
theorem d_le (h : QB (decide (i ≤ j))) : cmpD .LtE (.int i) (.int j) QB := h
theorem d_gt (h : QB (decide (j < i))) : cmpD .Gt (.int i) (.int j) QB := h
theorem d_ge (h : QB (decide (j ≤ i))) : cmpD .GtE (.int i) (.int j) QB := h
theorem d_inS (h : QB (strIn x y)) : cmpD .In (.str x) (.str y) QB := h
theorem d_ninS (h : QB (!strIn x y)) : cmpD .NotIn (.str x) (.str y) QB := h
theorem eqv_int : PyData.eqv (.int i) (.int j) = decide (i = j) := by
  by_cases h : i = j
  · subst h; simp [PyData.eqv]
  · simp [PyData.eqv, h]
theorem d_eqI (h : QB (decide (i = j))) : cmpD .Eq (.int i) (.int j) QB := by
  refine ⟨rfl, rfl, ?_⟩
  rw [eqv_int]
  exact h
theorem d_neI (h : QB (!decide (i = j))) : cmpD .NotEq (.int i) (.int j) QB := by
  refine ⟨rfl, rfl, ?_⟩
  rw [eqv_int]
  exact h
theorem d_eqS (h : QB (decide (x = y))) : cmpD .Eq (.str x) (.str y) QB := h
theorem d_neS (h : QB (!decide (x = y))) : cmpD .NotEq (.str x) (.str y) QB := h
theorem eqv_str : PyData.eqv (.str x) (.str y) = decide (x = y) := by
  by_cases h : x = y
  · subst h; simp [PyData.eqv]
  · simp [PyData.eqv, h]
theorem d_eqE (h : QB ds.isEmpty) : cmpD .Eq (.list ds) (.list []) QB := h
theorem d_neE (h : QB (!ds.isEmpty)) : cmpD .NotEq (.list ds) (.list []) QB := h
theorem eqv_nil : ∀ {l : List PyData}, PyData.eqv (.list l) (.list []) = l.isEmpty
  | [] => rfl
  | _ :: _ => rfl
theorem d_eq {a b : PyData} (c : SeqAt.shaped a = true ∧ SeqAt.shaped b = true) (h : QB (PyData.eqv a b)) : cmpD .Eq a b QB := by
  cases a <;> cases b <;> first | exact ⟨c.1, c.2, h⟩ | (rw [eqv_str] at h; exact h) | skip
  rename_i xs ys
  cases ys with
  | nil => rw [eqv_nil] at h; exact h
  | cons y ys => exact ⟨c.1, c.2, h⟩
theorem d_ne {a b : PyData} (c : SeqAt.shaped a = true ∧ SeqAt.shaped b = true) (h : QB (!PyData.eqv a b)) : cmpD .NotEq a b QB := by
  cases a <;> cases b <;> first | exact ⟨c.1, c.2, h⟩ | (rw [eqv_str] at h; exact h) | skip
  rename_i xs ys
  cases ys with
  | nil => rw [eqv_nil] at h; exact h
  | cons y ys => exact ⟨c.1, c.2, h⟩
theorem d_in {a : PyData} (c : SeqAt.shaped a = true ∧ SeqAt.shaped (.list ds) = true) (h : QB (ds.any fun z => PyData.eqv z a)) : cmpD .In a (.list ds) QB := by
  cases a <;> exact ⟨c.1, c.2, h⟩
theorem d_nin {a : PyData} (c : SeqAt.shaped a = true ∧ SeqAt.shaped (.list ds) = true) (h : QB (!ds.any fun z => PyData.eqv z a)) : cmpD .NotIn a (.list ds) QB := by
  cases a <;> exact ⟨c.1, c.2, h⟩
theorem d_is {a : PyData} (h : QB (isNone a)) : cmpD .Is a .none QB := by
  cases a <;> exact h
theorem d_isn {a : PyData} (h : QB (!isNone a)) : cmpD .IsNot a .none QB := by
  cases a <;> exact h
theorem d_truB {b : Bool} (h : QB b) : truD (.bool b) QB := h
theorem d_truI (h : QB (i != 0)) : truD (.int i) QB := h
theorem d_truL (h : QB (!ds.isEmpty)) : truD (.list ds) QB := h
theorem d_truT (h : QB (!ds.isEmpty)) : truD (.tuple ds) QB := h
theorem d_truN (h : QB false) : truD .none QB := h
theorem d_truS (c : x.length ≤ sizeLine) (h : QB ((x.length : Int) != 0)) : truD (.str x) QB := ⟨c, h⟩
theorem d_lenL (h : QO (.dat (.int ds.length))) : bltD .len [.list ds] QO := h
theorem d_lenT (h : QO (.dat (.int ds.length))) : bltD .len [.tuple ds] QO := h
theorem d_lenS (c : x.length ≤ sizeLine) (h : QO (.dat (.int x.length))) : bltD .len [.str x] QO := ⟨c, h⟩
theorem d_repr {d : PyData} (c : reprOk d) (h : QO (.dat (.str d.shown))) : bltD .repr_ [d] QO := ⟨c, h⟩
theorem boolsD_map (g : PyData → Bool) : ∀ ds : List PyData, boolsD (ds.map fun d => .bool (g d)) = some (ds.map g)
  | [] => rfl
  | d :: ds => by
    show (match boolsD (ds.map fun d => .bool (g d)) with | some bs => some (g d :: bs) | none => none) = _
    rw [boolsD_map g ds]
    rfl
theorem d_allM {g : PyData → Bool} (h : QO (.dat (.bool (ds.all g)))) : bltD .all_ [.list (ds.map fun d => .bool (g d))] QO := by
  show optQ (boolsD _) _
  rw [boolsD_map]
  show QO (.dat (.bool ((ds.map g).all id)))
  rw [List.all_map]
  exact h
theorem d_anyM {g : PyData → Bool} (h : QO (.dat (.bool (ds.any g)))) : bltD .any_ [.list (ds.map fun d => .bool (g d))] QO := by
  show optQ (boolsD _) _
  rw [boolsD_map]
  show QO (.dat (.bool ((ds.map g).any id)))
  rw [List.any_map]
  exact h
theorem d_listL (h : QO (dL ds)) : bltD .list_ [.list ds] QO := h
theorem d_listT (h : QO (dL ds)) : bltD .list_ [.tuple ds] QO := h
theorem d_tupL (h : QO (.dat (.tuple ds))) : bltD .tuple_ [.list ds] QO := h
theorem d_tupT (h : QO (.dat (.tuple ds))) : bltD .tuple_ [.tuple ds] QO := h
theorem d_abs (h : QO (.dat (.int (if i < 0 then -i else i)))) : bltD .abs_ [.int i] QO := h
theorem d_intI (h : QO (.dat (.int i))) : bltD .int_ [.int i] QO := h
theorem d_intB {b : Bool} (h : QO (.dat (.int (if b then 1 else 0)))) : bltD .int_ [.bool b] QO := h
theorem d_min (h : QO (.dat (.int (if j < i then j else i)))) : bltD .min_ [.int i, .int j] QO := h
theorem d_max (h : QO (.dat (.int (if j > i then j else i)))) : bltD .max_ [.int i, .int j] QO := h
theorem d_slL {l u : Option Int} (h : QO (dL (cutL ds l u))) : slD (.list ds) l u QO := h
theorem d_slX {l u : Option Int} (h : QO (dL (cutL ds l u))) : slD (.dict [(.none, .list ds)]) l u QO := h
theorem d_slT {l u : Option Int} (h : QO (.dat (.tuple (cutL ds l u)))) : slD (.tuple ds) l u QO := h
theorem cut_take {α : Type} (l : List α) {k : Int} (h : 0 ≤ k) : cutL l none (some k) = l.take k.toNat := by
  obtain ⟨n, rfl⟩ := Int.eq_ofNat_of_zero_le h
  unfold cutL
  rw [HT.sIx_none, HT.sIx_nat, List.drop_zero, Int.toNat_natCast, Nat.sub_zero]
  by_cases q : n ≤ l.length
  · rw [Nat.min_eq_left q]
  · rw [Nat.min_eq_right (by omega), List.take_length, List.take_of_length_le (by omega)]
theorem cut_drop {α : Type} (l : List α) {k : Int} (h : 0 ≤ k) : cutL l (some k) none = l.drop k.toNat := by
  obtain ⟨n, rfl⟩ := Int.eq_ofNat_of_zero_le h
  unfold cutL
  rw [HT.sIx_none, HT.sIx_nat, Int.toNat_natCast]
  rw [List.take_of_length_le (by rw [List.length_drop]; exact Nat.le_refl _)]
  by_cases q : n ≤ l.length
  · rw [Nat.min_eq_left q]
  · rw [Nat.min_eq_right (by omega), List.drop_length, List.drop_eq_nil_of_le (by omega)]
theorem d_slT0 {k : Int} (c : 0 ≤ k) (h : QO (.dat (.tuple (ds.take k.toNat)))) : slD (.tuple ds) none (some k) QO := d_slT (by rw [cut_take ds c]; exact h)
theorem d_slT1 {k : Int} (c : 0 ≤ k) (h : QO (.dat (.tuple (ds.drop k.toNat)))) : slD (.tuple ds) (some k) none QO := d_slT (by rw [cut_drop ds c]; exact h)
theorem d_slL0 {k : Int} (c : 0 ≤ k) (h : QO (dL (ds.take k.toNat))) : slD (.list ds) none (some k) QO := d_slL (by rw [cut_take ds c]; exact h)
theorem d_slL1 {k : Int} (c : 0 ≤ k) (h : QO (dL (ds.drop k.toNat))) : slD (.list ds) (some k) none QO := d_slL (by rw [cut_drop ds c]; exact h)
theorem d_slS {l u : Option Int} (c : x.length ≤ sizeLine) (h : QO (.dat (.str (cutS x l u)))) : slD (.str x) l u QO := ⟨c, h⟩
theorem d_rng1 {Q : List PyData → Prop} (c : -(2 ^ 62) ≤ j ∧ j < 2 ^ 62) (h : Q (rangeD 0 j)) : rngQ [.int j] Q := ⟨c.1, c.2, h⟩
theorem d_rng2 {Q : List PyData → Prop} (c : -(2 ^ 62) ≤ i ∧ i < 2 ^ 62 ∧ -(2 ^ 62) ≤ j ∧ j < 2 ^ 62) (h : Q (rangeD i j)) : rngQ [.int i, .int j] Q := ⟨c.1, c.2.1, c.2.2.1, c.2.2.2, h⟩
theorem d_app {os : List O} {z : O} {Q : O → O → Prop} (c : os.length < sizeLine) (h : Q (.dat .none) (.nd .lst (os ++ [z]))) : mmtO .append (.nd .lst os) [z] Q := ⟨c, h⟩
theorem d_appL {d : PyData} {Q : O → O → Prop} (c : ds.length < sizeLine) (h : Q (.dat .none) (dL (ds ++ [d]))) : mmtO .append (dL ds) [.dat d] Q := by
  refine ⟨by rw [List.length_map]; exact c, ?_⟩
  unfold dL at h
  rw [List.map_append] at h
  exact h
theorem d_appO {o : O} {d : PyData} {Q : O → O → Prop} (e : o = .dat d) (c : ds.length < sizeLine) (h : Q (.dat .none) (dL (ds ++ [d]))) : mmtO .append (dL ds) [o] Q := by
  rw [e]
  exact d_appL c h
theorem d_putK {ks : List Key} {os : List O} {kd : PyData} {k : Key} {n : Nat} {z : O} {Q : O → Prop} (e1 : keyD kd = some k) (e2 : keyPos k ks = some n) (c : ks.length < sizeLine) (h : Q (.nd (.dk ks) (os.set n z))) : putO (.nd (.dk ks) os) kd z Q := by
  unfold putO
  refine r_opt e1 ?_
  rw [e2]
  exact ⟨c, h⟩
theorem d_putL {n : Nat} {d : PyData} {Q : O → Prop} (e : ixN ds.length i = some n) (h : Q (dL (ds.set n d))) : putO (dL ds) (.int i) (.dat d) Q := by
  unfold putO dL
  refine r_opt (x := n) (by rw [List.length_map]; exact e) ?_
  unfold dL at h
  rw [List.map_set] at h
  exact h
theorem d_putN {os : List O} {n : Nat} {z : O} {Q : O → Prop} (e : ixN os.length i = some n) (h : Q (.nd .lst (os.set n z))) : putO (.nd .lst os) (.int i) z Q := r_opt e h
theorem ixN_nat {n : Nat} {i : Int} (h0 : 0 ≤ i) (h1 : i < n) : ixN n i = some i.toNat := by
  unfold ixN
  rw [if_pos h0, if_pos h1]
theorem atQ_of {α : Type} {xs : List α} {i : Int} {x : α} {P : α → Prop} (e : L2.atI xs i = some x) (h : P x) : atQ xs i P := by
  unfold atQ
  rw [e]
  exact h
theorem atI_in {α : Type} {xs : List α} {i : Int} (h0 : 0 ≤ i) (h1 : i < xs.length) : L2.atI xs i = some (xs[i.toNat]'(by omega)) := by
  unfold L2.atI
  rw [ixN_nat h0 h1]
  have lt : i.toNat < xs.length := by omega
  simp [lt]
theorem d_ixT {d : PyData} {P : PyData → Prop} (e : L2.atI ds i = some d) (h : P d) : idxD (.tuple ds) (.int i) P := atQ_of e h
theorem d_ixL {d : PyData} {P : PyData → Prop} (e : L2.atI ds i = some d) (h : P d) : idxD (.list ds) (.int i) P := atQ_of e h
/-- the item at a place -/
theorem d_atN {n : Nat} {d : PyData} {P : PyData → Prop} (e : ds[n]? = some d) (h : P d) : idxD (.list ds) (.int (n : Int)) P := by
  have l := lt_of_get e
  refine atQ_of (x := d) ?_ h
  rw [atI_in (by omega) (by omega)]
  rw [List.getElem?_eq_getElem l] at e
  exact e
theorem d_augA {Q : PyData → Prop} (h : Q (.int (i + j))) : augD .Add (.int i) (.int j) Q := h
theorem d_augS {Q : PyData → Prop} (h : Q (.int (i - j))) : augD .Sub (.int i) (.int j) Q := h
theorem r_mutL {A : Prop} (h : A) : mutO (dL ds) ∧ A := ⟨trivial, h⟩
/-- an item, whichever -/
theorem d_atM {P : PyData → Prop} (c0 : 0 ≤ i) (c1 : i < ds.length) (h : ∀ x, x ∈ ds → P x) : idxD (.list ds) (.int i) P :=
  atQ_of (atI_in c0 c1) (h _ (List.getElem_mem _))
theorem d_atT {P : PyData → Prop} (c0 : 0 ≤ i) (c1 : i < ds.length) (h : ∀ x, x ∈ ds → P x) : idxD (.tuple ds) (.int i) P :=
  atQ_of (atI_in c0 c1) (h _ (List.getElem_mem _))
theorem d_atS {P : PyData → Prop} (c : x.length ≤ sizeLine) (c0 : 0 ≤ i) (c1 : i < x.length) (h : ∀ ch, ch ∈ x.cps.toList → P (.str ⟨#[ch]⟩)) : idxD (.str x) (.int i) P := by
  have c2 : i < (x.cps.toList.length : Nat) := by
    rw [Array.length_toList]
    exact c1
  exact ⟨c, atQ_of (atI_in c0 c2) (h _ (List.getElem_mem _))⟩
/-- an owned list's item, whichever -/
theorem r_idxM {n : Nat} {p : List Nat} {Q : R → Prop} (c0 : 0 ≤ i) (c1 : i < ds.length) (h : ∀ x, x ∈ ds → Q (.own (.dat x))) : idxO (dL ds) n p (.int i) Q := by
  have lt : i.toNat < ds.length := by omega
  exact r_idxL (ixN_nat c0 c1) (List.getElem?_eq_getElem lt) (h _ (List.getElem_mem lt))
theorem d_popL {d : PyData} {Q : O → O → Prop} (h : Q (.dat d) (dL ds)) : mmtO .pop (dL (d :: ds)) [.dat (.int 0)] Q := by
  refine ⟨by decide, by decide, r_opt (x := 0) ?_ (r_opt (x := .dat d) rfl h)⟩
  exact ixN_nat (by decide) (by simp)
theorem d_popM {Q : O → O → Prop} (c0 : 0 ≤ i) (c1 : i < ds.length) (c2 : ds.length ≤ sizeLine) (h : ∀ d, ds[i.toNat]? = some d → Q (.dat d) (dL (ds.eraseIdx i.toNat))) : mmtO .pop (dL ds) [.dat (.int i)] Q := by
  have lt : i.toNat < ds.length := by omega
  have z : sizeLine < 2 ^ 62 := by decide
  refine ⟨by omega, by omega, r_opt (x := i.toNat) ?_ (r_opt (x := .dat ds[i.toNat]) ?_ ?_)⟩
  · exact ixN_nat c0 (by rw [List.length_map]; exact c1)
  · rw [List.getElem?_map, List.getElem?_eq_getElem lt]
    rfl
  · have y := h _ (List.getElem?_eq_getElem lt)
    have e : (ds.map O.dat).eraseIdx i.toNat = (ds.eraseIdx i.toNat).map O.dat := by rw [List.eraseIdx_eq_take_drop_succ, List.eraseIdx_eq_take_drop_succ, List.map_append, List.map_take, List.map_drop]
    rw [e]
    exact y
theorem d_putKn {ks : List Key} {os : List O} {kd : PyData} {k : Key} {z : O} {Q : O → Prop} (e1 : keyD kd = some k) (e2 : keyPos k ks = none) (c : ks.length < sizeLine) (h : Q (.nd (.dk (ks ++ [k])) (os ++ [z]))) : putO (.nd (.dk ks) os) kd z Q := by
  unfold putO
  refine r_opt e1 ?_
  rw [e2]
  exact ⟨c, h⟩
/-! ### branches -/
theorem b_ite {p : Prop} [Decidable p] {A B : Prop} (h1 : p → A) (h2 : ¬ p → B) : if decide p = true then A else B := by
  by_cases h : p
  · rw [if_pos (decide_eq_true h)]; exact h1 h
  · rw [if_neg (by simpa using h)]; exact h2 h
theorem b_iteN {p : Prop} [Decidable p] {A B : Prop} (h1 : ¬ p → A) (h2 : p → B) : if (!decide p) = true then A else B := by
  by_cases h : p
  · rw [if_neg (by simpa using h)]; exact h2 h
  · rw [if_pos (by simpa using h)]; exact h1 h
theorem b_iteF {p : Prop} [Decidable p] {A B : Prop} (h1 : ¬ p → A) (h2 : p → B) : if decide p = false then A else B := by
  by_cases h : p
  · rw [if_neg (by simpa using h)]; exact h2 h
  · rw [if_pos (by simpa using h)]; exact h1 h
theorem b_iteNF {p : Prop} [Decidable p] {A B : Prop} (h1 : p → A) (h2 : ¬ p → B) : if (!decide p) = false then A else B := by
  by_cases h : p
  · rw [if_pos (by simpa using h)]; exact h1 h
  · rw [if_neg (by simpa using h)]; exact h2 h
theorem b_T {A B : Prop} (h : A) : if true = true then A else B := by rw [if_pos rfl]; exact h
theorem b_F {A B : Prop} (h : B) : if false = true then A else B := by rw [if_neg (by decide)]; exact h
theorem b_TF {A B : Prop} (h : B) : if true = false then A else B := by rw [if_neg (by decide)]; exact h
theorem b_FF {A B : Prop} (h : A) : if false = false then A else B := by rw [if_pos rfl]; exact h
theorem b_anyF {b : Bool} {A B : Prop} (h1 : b = false → A) (h2 : b = true → B) : if b = false then A else B := by
  cases b
  · rw [if_pos rfl]; exact h1 rfl
  · rw [if_neg (by decide)]; exact h2 rfl
theorem b_anyN {b : Bool} {A B : Prop} (h1 : b = false → A) (h2 : b = true → B) : if (!b) = true then A else B := by
  cases b
  · have z : (if (!false) = true then A else B) = A := if_pos rfl
    rw [z]; exact h1 rfl
  · have z : (if (!true) = true then A else B) = B := if_neg (by decide)
    rw [z]; exact h2 rfl
theorem b_anyNF {b : Bool} {A B : Prop} (h1 : b = true → A) (h2 : b = false → B) : if (!b) = false then A else B := by
  cases b
  · have z : (if (!false) = false then A else B) = B := if_neg (by decide)
    rw [z]; exact h2 rfl
  · have z : (if (!true) = false then A else B) = A := if_pos rfl
    rw [z]; exact h1 rfl
theorem b_any {b : Bool} {A B : Prop} (h1 : b = true → A) (h2 : b = false → B) : if b = true then A else B := by
  cases b
  · rw [if_neg (by decide)]; exact h2 rfl
  · rw [if_pos rfl]; exact h1 rfl
end
end VS

namespace VS
open PySem PySem.Spec PyProof.Rows L2
set_option hygiene false
local macro_rules | `(tactic| walk_at "vc") => `(tactic| repeat' (first
      | ((with_reducible apply s_consN); (case e => (first | (dsimp only [backO, wipeO, List.map, setS, getS, O.setP, O.getP, List.set_cons_zero, List.set_cons_succ, List.getElem?_cons_zero, List.getElem?_cons_succ]; first | done | exact rfl) | exact rfl)))
      | with_reducible refine s_nil ?_
      | with_reducible refine d_eqP ?_ ?_ ?_
      | with_reducible refine d_lenP ?_
      | with_reducible refine d_slP0 ?_ ?_
      | with_reducible refine d_slP1 ?_ ?_
      | with_reducible refine d_addP ?_ ?_
      | with_reducible refine d_addP1 ?_ ?_
      | with_reducible refine d_slT0 ?_ ?_
      | with_reducible refine d_slT1 ?_ ?_
      | with_reducible refine d_slL0 ?_ ?_
      | with_reducible refine d_slL1 ?_ ?_
      | with_reducible refine s_set ?_
      | with_reducible refine s_if ?_
      | with_reducible refine s_for ?_
      | with_reducible refine s_ex ?_
      | with_reducible refine s_ret ?_
      | with_reducible refine s_retN ?_
      | with_reducible refine s_pass ?_
      | with_reducible refine s_brk ?_
      | with_reducible refine s_cont ?_
      | with_reducible refine s_put ?_
      | with_reducible refine s_augP ?_
      | with_reducible refine s_par ?_
      | with_reducible refine s_T ?_
      | with_reducible refine s_bin ?_
      | with_reducible refine s_cmp ?_
      | with_reducible refine s_idx ?_
      | with_reducible refine s_int ?_
      | with_reducible refine s_str ?_
      | with_reducible refine s_bl ?_
      | with_reducible refine s_non ?_
      | with_reducible refine s_lst ?_
      | with_reducible refine s_tup ?_
      | with_reducible refine s_dct ?_
      | with_reducible refine s_dnewK ?_
      | with_reducible refine s_dnewT ?_
      | with_reducible refine s_neg ?_
      | with_reducible refine s_chn ?_
      | with_reducible refine s_bop ?_
      | with_reducible refine s_bop1 ?_
      | with_reducible refine s_bop2 ?_
      | with_reducible refine s_nt ?_
      | with_reducible refine s_ife ?_
      | with_reducible refine s_sl ?_
      | with_reducible refine s_isi ?_
      | with_reducible refine s_comp ?_
      | with_reducible refine s_blt ?_
      | with_reducible refine s_mth ?_
      | with_reducible refine s_mmt ?_
      | with_reducible refine s_rng ?_
      | with_reducible refine s_enu ?_
      | with_reducible refine s_zip ?_
      | with_reducible refine s_lzip ?_
      | with_reducible refine s_dof ?_
      | with_reducible refine s_upd ?_
      | with_reducible refine s_rng3 ?_
      | with_reducible refine s_get1 ?_
      | with_reducible refine s_get2 ?_
      | with_reducible refine s_isin ?_
      | with_reducible refine s_fst ?_
      | with_reducible refine s_F0 ?_
      | with_reducible refine s_F1 ?_
      | with_reducible refine s_rev ?_
      | with_reducible refine s_fl ?_
      | with_reducible refine r_onNdD ?_
      | with_reducible refine r_onNdL ?_
      | with_reducible refine s_frz ?_
      | with_reducible refine s_dctT ?_
      | with_reducible refine r_notT ?_
      | with_reducible refine r_notF ?_
      | with_reducible refine r_notB ?_
      | with_reducible refine d_revL ?_
      | with_reducible refine s_L0 ?_
      | with_reducible refine s_L1 ?_
      | with_reducible refine s_H0 ?_
      | with_reducible refine s_H1 ?_
      | with_reducible refine s_C0 ?_
      | with_reducible refine s_P0 ?_
      | with_reducible refine s_P1 ?_
      | with_reducible refine s_O0 ?_
      | with_reducible refine s_O1 ?_
      | with_reducible refine s_Ts0 ?_
      | with_reducible refine s_Ts1 ?_
      | with_reducible refine r_asDd ?_
      | with_reducible refine r_asDl ?_
      | with_reducible refine r_asOo ?_
      | with_reducible refine r_asOp ?_
      | with_reducible refine r_holdD ?_
      | with_reducible refine r_holdP ?_
      | with_reducible refine r_holdO ?_
      | with_reducible refine r_vwD ?_
      | with_reducible refine r_vws0 ?_
      | with_reducible refine r_vws1 ?_
      | with_reducible refine r_stabO ?_
      | with_reducible refine r_stabP ?_
      | with_reducible refine r_stabT ?_
      | with_reducible refine r_idxO ?_
      | with_reducible refine r_itL ?_
      | with_reducible refine r_itT ?_
      | with_reducible refine r_itS ?_
      | with_reducible refine r_itI ?_
      | with_reducible refine r_itV ?_
      | with_reducible refine r_onPl ?_
      | with_reducible refine r_onInt ?_
      | with_reducible refine r_seqL ?_
      | with_reducible refine r_seqT ?_
      | with_reducible refine r_onDat ?_
      | with_reducible refine r_rcvM ?_
      | with_reducible refine d_add ?_
      | with_reducible refine d_sub ?_
      | with_reducible refine d_lt ?_
      | with_reducible refine d_le ?_
      | with_reducible refine d_gt ?_
      | with_reducible refine d_ge ?_
      | with_reducible refine d_inS ?_
      | with_reducible refine d_ninS ?_
      | with_reducible refine d_augA ?_
      | with_reducible refine d_augS ?_
      | with_reducible refine r_mutL ?_
      | with_reducible refine d_eqS ?_
      | with_reducible refine d_neS ?_
      | with_reducible refine d_eqI ?_
      | with_reducible refine d_neI ?_
      | with_reducible refine d_is ?_
      | with_reducible refine d_isn ?_
      | with_reducible refine d_truB ?_
      | with_reducible refine d_truI ?_
      | with_reducible refine d_truL ?_
      | with_reducible refine d_truT ?_
      | with_reducible refine d_truN ?_
      | with_reducible refine d_lenL ?_
      | with_reducible refine d_lenT ?_
      | with_reducible refine d_listL ?_
      | with_reducible refine d_listT ?_
      | with_reducible refine d_tupL ?_
      | with_reducible refine d_tupT ?_
      | with_reducible refine d_abs ?_
      | with_reducible refine d_intI ?_
      | with_reducible refine d_intB ?_
      | with_reducible refine d_min ?_
      | with_reducible refine d_max ?_
      | with_reducible refine d_slL ?_
      | with_reducible refine d_slX ?_
      | with_reducible refine d_slT ?_
      | with_reducible refine b_T ?_
      | with_reducible refine b_F ?_
      | with_reducible refine b_TF ?_
      | with_reducible refine b_FF ?_
      | with_reducible refine s_tp ?_
      | with_reducible refine s_tnil ?_
      | with_reducible refine s_tcons ?_
      | ((with_reducible apply s_varD); (case h1 => exact rfl))
      | ((with_reducible apply s_varN); (case h1 => exact rfl))
      | ((with_reducible apply s_mvD); (case h1 => exact rfl))
      | ((with_reducible apply s_mvL); (case h1 => with_reducible exact rfl))
      | ((with_reducible apply s_mvN); (case h1 => exact rfl))
      | ((with_reducible apply s_nm); (case h1 => (simp only [setS_len, backO_len, wipeO_len, List.length_cons, List.length_nil, List.length_set]; decide)))
      | ((with_reducible apply r_vwP); (case e1 => exact rfl); (case e => first | exact flat_dL _ | exact rfl))
      | ((with_reducible apply r_idxP); (case e => exact rfl))
      | ((with_reducible apply r_opt); (case e => exact rfl))
      | ((with_reducible apply r_idxC); (case e1 => (first | exact pk_cells _ | exact pk_at _ | exact pk_rest _ | exact rfl)); (case e2 => exact rfl))
      | ((with_reducible apply r_idxN); (case e1 => (first | exact pk_cells _ | exact pk_at _ | exact pk_rest _ | exact rfl)); (case e2 => exact rfl))
      | ((with_reducible apply s_C1); (case h1 => exact trivial))
      | ((with_reducible apply s_C2); (case h1 => exact rfl))
      | ((with_reducible apply r_asDn); (case e => first | exact toD_dL _ | with_reducible exact toD_two _ _ | ((repeat' (first | with_reducible exact toD_dL _ | assumption | with_reducible exact toD_dat _ | with_reducible exact toDL_nil | with_reducible apply toD_lst | with_reducible apply toD_tupO | with_reducible apply toD_dk | with_reducible apply toD_dt | with_reducible apply toDL_cons | exact rfl)); done) | exact rfl))
      | ((with_reducible apply r_asDp); (case e1 => exact rfl); (case e => first | exact toD_dL _ | exact rfl))
      | ((with_reducible apply r_rcvW); (case e => exact rfl))
      | ((with_reducible apply s_call); (case h1 => assumption))
      | with_reducible refine d_mul ?_ ?_
      | with_reducible refine d_mod ?_ ?_
      | with_reducible refine d_div ?_ ?_
      | with_reducible refine d_pow ?_ ?_
      | with_reducible refine d_addS ?_ ?_
      | with_reducible refine d_addL ?_ ?_
      | with_reducible refine d_addT ?_ ?_
      | with_reducible refine d_mulS ?_ ?_
      | with_reducible refine d_mulL ?_ ?_
      | with_reducible refine d_mulT ?_ ?_
      | with_reducible refine d_truS ?_ ?_
      | with_reducible refine d_lenS ?_ ?_
      | with_reducible refine d_slS ?_ ?_
      | with_reducible refine d_rng1 ?_ ?_
      | with_reducible refine d_rng2 ?_ ?_
      | with_reducible refine d_app ?_ ?_
      | with_reducible refine d_appL ?_ ?_
      | with_reducible refine d_repr ?_ ?_
      | with_reducible refine d_fmtS ?_ ?_
      | with_reducible refine r_lz ?_ ?_
      | with_reducible refine r_dn ?_ ?_
      | with_reducible refine r_zipL ?_ ?_
      | with_reducible refine r_zipT ?_ ?_
      | with_reducible refine b_ite (fun _ => ?_) (fun _ => ?_)
      | with_reducible refine b_iteN (fun _ => ?_) (fun _ => ?_)
      | with_reducible refine b_iteF (fun _ => ?_) (fun _ => ?_)
      | with_reducible refine b_iteNF (fun _ => ?_) (fun _ => ?_)
      | refine r_stabL rfl ?_
      | refine r_stabR rfl ?_
      | with_reducible refine p_cells ?_
      | with_reducible refine p_at ?_
      | with_reducible refine p_rest ?_
      | refine s_C1p (by exact rfl) (by assumption) ?_
      | refine c_draw (by exact rfl) (by assumption) ?_ (fun _ _ _ _ _ => ?_)
      | with_reducible refine d_eqE ?_
      | with_reducible refine d_neE ?_
      | with_reducible refine d_in ?_ ?_
      | with_reducible refine d_nin ?_ ?_
      | with_reducible refine d_eq ?_ ?_
      | with_reducible refine d_ne ?_ ?_
      | with_reducible refine b_anyN (fun _ => ?_) (fun _ => ?_)
      | with_reducible refine b_anyNF (fun _ => ?_) (fun _ => ?_)
      | with_reducible refine b_any (fun _ => ?_) (fun _ => ?_)
      | with_reducible refine d_popL ?_
      | ((with_reducible apply r_par); (case n1 => decide); (case n2 => (simp only [setS_len, backO_len, wipeO_len, List.length_cons, List.length_nil, List.length_set]; decide)); (case n3 => (simp only [setS_len, backO_len, wipeO_len, List.length_cons, List.length_nil, List.length_set]; decide)))
      | refine c_names (by exact rfl) (by assumption) ?_ (fun _ _ _ _ _ _ => ?_)
      | refine c_pen (fun _ _ => ?_)
      | with_reducible refine b_anyN (fun _ => ?_) (fun _ => ?_)
      | with_reducible refine b_anyNF (fun _ => ?_) (fun _ => ?_)
      | with_reducible refine b_anyF (fun _ => ?_) (fun _ => ?_)
      | ((with_reducible apply r_isi (b := true)); (case e1 => exact rfl); (case e2 => exact rfl))
      | ((with_reducible apply r_isi (b := false)); (case e1 => exact rfl); (case e2 => exact rfl))
      | ((with_reducible apply s_con); (case h1 => assumption))
      | with_reducible refine d_allM ?_
      | with_reducible refine d_anyM ?_
      | ((with_reducible apply r_itO); (case e => first | exact toD_dL _ | ((repeat' (first | with_reducible exact toD_dL _ | assumption | with_reducible exact toD_dat _ | with_reducible exact toDL_nil | with_reducible apply toD_lst | with_reducible apply toD_tupO | with_reducible apply toD_dk | with_reducible apply toD_dt | with_reducible apply toDL_cons | exact rfl)); done) | exact rfl))
      | ((with_reducible apply r_toDL); (case e => first | ((repeat' (first | with_reducible exact toD_dL _ | assumption | with_reducible exact toD_dat _ | with_reducible exact toDL_nil | with_reducible apply toD_lst | with_reducible apply toD_tupO | with_reducible apply toD_dk | with_reducible apply toD_dt | with_reducible apply toDL_cons | exact rfl)); done) | exact toDL_datL (datL_map _)))
      | ((with_reducible apply d_ixT); (case e => exact rfl))
      | ((with_reducible apply d_ixL); (case e => exact rfl))
      | ((with_reducible apply d_appO); (case e => exact rfl))
      | ((with_reducible apply r_itP); (case e1 => exact rfl))
      | with_reducible refine c_fn1 ?_ ?_
      | with_reducible refine c_fn2 ?_ ?_
      | ((with_reducible apply r_dcvK2); (case e => exact rfl))
      | ((with_reducible apply r_dcvT2); (case e => exact rfl))
      | ((with_reducible apply r_dcvK); (case e => exact rfl))
      | ((with_reducible apply r_dcvT); (case e => exact rfl))
      | with_reducible refine r_inT ?_
      | with_reducible refine r_inF ?_
      | with_reducible refine r_ninT ?_
      | with_reducible refine r_ninF ?_
      | refine c_volume (by exact rfl) (by assumption) ?_ (fun _ _ _ _ => ?_)
      | fail))
/-! ## the laws' pen -/
def penK : List Key := [.inr "cells", .inr "at", .inr "rest"]
def penO (ns : List Int) (at_ rest : Int) : O := .nd (.dk penK) [dL (ns.map PyData.int), .dat (.int at_), .dat (.int rest)]
theorem pk_cells (n : Nat) : kidx (.dk penK) n (.str "cells") = some 0 :=
  (show keyPos (.inr "cells") penK = some 0 by decide +kernel)
theorem pk_at (n : Nat) : kidx (.dk penK) n (.str "at") = some 1 :=
  (show keyPos (.inr "at") penK = some 1 by decide +kernel)
theorem pk_rest (n : Nat) : kidx (.dk penK) n (.str "rest") = some 2 :=
  (show keyPos (.inr "rest") penK = some 2 by decide +kernel)
theorem p_at {a b c z : O} {Q : O → Prop} (h : Q (.nd (.dk penK) [a, z, c])) : putO (.nd (.dk penK) [a, b, c]) (.str "at") z Q :=
  d_putK (k := .inr "at") (n := 1) rfl (by decide +kernel) (by decide) h
theorem p_rest {a b c z : O} {Q : O → Prop} (h : Q (.nd (.dk penK) [a, b, z])) : putO (.nd (.dk penK) [a, b, c]) (.str "rest") z Q :=
  d_putK (k := .inr "rest") (n := 2) rfl (by decide +kernel) (by decide) h
theorem shapedInts (ns : List Int) : SeqAt.shaped (.list (ns.map PyData.int)) = true := by
  have a : PyData.canLayAll0 (ns.map PyData.int) = true := by
    induction ns with
    | nil => rfl
    | cons n ns ih => simp [PyData.canLayAll0, PyData.canLay0, ih]
  have b : PyData.depthAll (ns.map PyData.int) = 0 := by
    induction ns with
    | nil => rfl
    | cons n ns ih => simp [PyData.canLayAll0, PyData.canLay0] at a; simp [PyData.depthAll, PyData.depth, ih a]
  simp [SeqAt.shaped, PyData.canLay0, a, PyData.depth, b]
theorem p_cells {ns : List Int} {Q : Bool → Prop} (h : Q (!decide (ns = []))) : cmpD .NotEq (.list (ns.map PyData.int)) (.list []) Q := by
  refine d_neE ?_
  cases ns <;> exact h
/-- a pen that has drawn no more than b times -/
def Pn (b : Nat) (o : O) : Prop := ∃ ns at_ rest, o = penO ns at_ rest ∧ 0 ≤ at_ ∧ at_ ≤ b ∧ 0 ≤ rest
theorem Pn.mono {b c : Nat} {o : O} (h : Pn b o) (l : b ≤ c) : Pn c o := by
  obtain ⟨ns, a, r, e, h1, h2, h3⟩ := h
  exact ⟨ns, a, r, e, h1, by omega, h3⟩
theorem s_C1p {G : Gm} {ρ : Env} {i b : Nat} {o : O} {es : List CE} {Q : List (PyData ⊕ Nat) → Env → Prop} (e : ρ[i]? = some o) (p : Pn b o) (h : evC G es ρ fun as ρ => Q (.inr i :: as) ρ) : evC G (.io i :: es) ρ Q := by
  obtain ⟨ns, a, r, rfl, _⟩ := p
  refine s_C1 ?_ h
  unfold isNd
  rw [e]
  trivial
def drawS : FS where
  io := [true, false]
  pre := fun os => ∃ o m b, os = [o, .dat (.int m)] ∧ Pn b o ∧ b < 1000000 ∧ 1 ≤ m ∧ m < 1000000
  post := fun os r os' => ∃ o m d o', os = [o, .dat (.int m)] ∧ r = .dat (.int d) ∧ 0 ≤ d ∧ d < m ∧ os' = [o', .un] ∧ ∀ b, Pn b o → Pn (b + 1) o'
theorem c_draw {ρ : Env} {i : Nat} {m : Int} {o : O} {b : Nat} {Q : O → Env → Prop} (e : ρ[i]? = some o) (p : Pn b o) (c : b < 1000000 ∧ 1 ≤ m ∧ m < 1000000) (h : ∀ d o', 0 ≤ d → d < m → Pn (b + 1) o' → Q (.dat (.int d)) (ρ.set i o')) : callQ drawS ρ [.inr i, .inl (.int m)] Q := by
  have g : ρ[i]?.getD .un = o := by rw [e]; rfl
  refine ⟨rfl, by simp [iosA], fun j hj => ?_, ?_, fun r os z _ => ?_⟩
  · have ej : j = i := by simpa [iosA] using hj
    rw [ej]
    exact lt_of_get e
  · refine ⟨o, m, b, ?_, p, c⟩
    show [ρ[i]?.getD .un, .dat (.int m)] = _
    rw [g]
  · obtain ⟨o1, m1, d, o', e1, rfl, h1, h2, rfl, h3⟩ := z
    have e1 : [ρ[i]?.getD .un, .dat (.int m)] = [o1, .dat (.int m1)] := e1
    rw [g] at e1
    cases e1
    exact h d o' h1 h2 (h3 b p)
/-- the drawing def, its constants apart -/
def bDraw (c1 c2 m1 a1 b1 m2 a2 b2 m3 : Int) : List CS := [
  .ife (.cmp .Gt (.idx (.var 0) (.str "rest")) (.int 0)) [
    .set (.nm 5) (.bin .Mod (.idx (.var 0) (.str "rest")) (.var 1)),
    .put (.var 0) (.str "rest") (.bin .FloorDiv (.idx (.var 0) (.str "rest")) (.var 1)),
    .ret (.mv 5)] [],
  .set (.nm 2) (.idx (.var 0) (.str "at")),
  .put (.var 0) (.str "at") (.bin .Add (.var 2) (.int 1)),
  .set (.nm 3) (.bin .Add (.bin .Mult (.int c1) (.var 2)) (.int c2)),
  .ife (.cmp .NotEq (.idx (.var 0) (.str "cells")) (.lst [])) [
    .set (.nm 3) (.idx (.idx (.var 0) (.str "cells")) (.bin .Mod (.var 2) (.blt .len [(.idx (.var 0) (.str "cells"))])))] [],
  .ife (.bop true [(.cmp .Lt (.var 2) (.blt .len [(.idx (.var 0) (.str "cells"))])), (.cmp .GtE (.blt .abs_ [(.var 3)]) (.bin .Pow (.int 10) (.int 18)))]) [
    .set (.nm 6) (.bin .Add (.bin .Mult (.int 2) (.blt .abs_ [(.var 3)])) (.blt .int_ [(.cmp .Lt (.var 3) (.int 0))])),
    .put (.var 0) (.str "rest") (.bin .FloorDiv (.var 6) (.var 1)),
    .ret (.bin .Mod (.var 6) (.var 1))] [],
  .set (.nm 4) (.bin .Mod (.bin .Pow (.bin .Add (.bin .Add (.bin .Mod (.var 3) (.int m1)) (.bin .Mult (.int a1) (.var 2))) (.int b1)) (.int 5)) (.int m2)),
  .set (.nm 4) (.bin .Mod (.bin .Pow (.bin .Add (.bin .Mult (.var 4) (.bin .Add (.var 2) (.int b2))) (.bin .Mult (.bin .Mult (.int a2) (.var 2)) (.var 2))) (.int 3)) (.int m3)),
  .ret (.bin .Mod (.bin .FloorDiv (.var 4) (.int 32)) (.var 1))]
structure DC (m1 a1 b1 m2 a2 b2 m3 : Int) : Prop where
  m1 : 0 < m1 ∧ m1 ≤ 2147483648
  a1 : 0 ≤ a1 ∧ a1 ≤ 131072
  b1 : 0 ≤ b1 ∧ b1 ≤ 131072
  m2 : 0 < m2 ∧ m2 ≤ 2147483648
  a2 : 0 ≤ a2 ∧ a2 ≤ 131072
  b2 : 0 ≤ b2 ∧ b2 ≤ 131072
  m3 : 0 < m3
section
variable {m1 a1 b1 m2 a2 b2 m3 : Int}
theorem DC.pow5 (h : DC m1 a1 b1 m2 a2 b2 m3) (x : Int) {at_ : Int} (h0 : 0 ≤ at_) (h1 : at_ ≤ 1000000) : CPow (x % m1 + a1 * at_ + b1) 5 := by
  obtain ⟨⟨q1, q2⟩, ⟨q3, q4⟩, ⟨q5, q6⟩, _, _, _, _⟩ := h
  have e1 := Int.emod_nonneg x (show m1 ≠ 0 by omega)
  have e2 := Int.emod_lt_of_pos x q1
  have e3 : a1 * at_ ≤ 131072 * 1000000 := Int.mul_le_mul q4 h1 h0 (by decide)
  have e4 : 0 ≤ a1 * at_ := Int.mul_nonneg q3 h0
  refine ⟨by decide, by decide, ?_⟩
  omega
theorem DC.pow3 (h : DC m1 a1 b1 m2 a2 b2 m3) (x : Int) {at_ : Int} (h0 : 0 ≤ at_) (h1 : at_ ≤ 1000000) : CPow (x % m2 * (at_ + b2) + a2 * at_ * at_) 3 := by
  obtain ⟨_, _, _, ⟨q1, q2⟩, ⟨q3, q4⟩, ⟨q5, q6⟩, _⟩ := h
  have e1 := Int.emod_nonneg x (show m2 ≠ 0 by omega)
  have e2 := Int.emod_lt_of_pos x q1
  have e3 : x % m2 * (at_ + b2) ≤ 2147483648 * 1131072 := Int.mul_le_mul (by omega) (by omega) (by omega) (by decide)
  have e4 : 0 ≤ x % m2 * (at_ + b2) := Int.mul_nonneg e1 (by omega)
  have e5 : a2 * at_ ≤ 131072 * 1000000 := Int.mul_le_mul q4 h1 h0 (by decide)
  have e6 : 0 ≤ a2 * at_ := Int.mul_nonneg q3 h0
  have e7 : a2 * at_ * at_ ≤ 131072 * 1000000 * 1000000 := Int.mul_le_mul e5 h1 h0 (by decide)
  have e8 : 0 ≤ a2 * at_ * at_ := Int.mul_nonneg e6 h0
  refine ⟨by decide, by decide, ?_⟩
  omega
theorem draw_end {ns : List Int} {at_ rest at2 rest2 m x : Int} {ρ : Env} (hm : 1 ≤ m) (hr : 0 ≤ rest2) (h0 : 0 ≤ at2) (ha : at2 ≤ at_ + 1) : drawS.post [penO ns at_ rest, .dat (.int m)] (.dat (.int (x % m))) (outO [true, false] (penO ns at2 rest2 :: .dat (.int m) :: ρ)) := by
  refine ⟨_, m, x % m, penO ns at2 rest2, rfl, rfl, Int.emod_nonneg x (by omega), Int.emod_lt_of_pos x (by omega), rfl, fun b hb => ?_⟩
  obtain ⟨ns', a', r', e, h1, h2, h3⟩ := hb
  have e2 := (O.nd.inj e).2
  have e3 := O.dat.inj (List.cons.inj (List.cons.inj e2).2).1
  have e4 : at_ = a' := PyData.int.inj e3
  exact ⟨ns, at2, rest2, rfl, h0, by omega, hr⟩
end
theorem draw_ok {G : Gm} {c1 c2 m1 a1 b1 m2 a2 b2 m3 : Int} (h : DC m1 a1 b1 m2 a2 b2 m3) : drawS.Ok G (bDraw c1 c2 m1 a1 b1 m2 a2 b2 m3) 2 5 := by
  rintro os ho ⟨o, m, k, rfl, ⟨ns, at_, rest, rfl, p1, p2, p3⟩, pb, hm1, hm2⟩
  have p4 : at_ ≤ 1000000 := by omega
  have ln : ¬ ns = [] → 0 < ((ns.map PyData.int).length : Int) := fun z => by
    cases ns with
    | nil => exact absurd rfl z
    | cons n ns => simp
  unfold bDraw
  show evB G _ [penO ns at_ rest, .dat (.int m), .un, .un, .un, .un, .un] _
  unfold penO
  walk_at "vc"
  all_goals first
    | omega
    | exact h.m1.1
    | exact h.m2.1
    | exact h.m3
    | exact ⟨by omega, by omega⟩
    | exact .inr ⟨by omega, by omega⟩
    | exact .inr ⟨by have := h.b2; omega, by have := h.b2; omega⟩
    | exact .inl ⟨by decide, by decide⟩
    | exact ⟨by decide, by decide, by decide⟩
    | exact h.pow5 _ p1 p4
    | exact h.pow3 _ p1 p4
    | exact draw_end hm1 p3 (by omega) (by omega)
    | exact draw_end hm1 (Int.ediv_nonneg (by omega) (by omega)) (by omega) (by omega)
    | exact draw_end hm1 (Int.ediv_nonneg (by split <;> split <;> omega) (by omega)) (by omega) (by omega)
    | skip
  · exact ln ‹_›
  · refine r_idxM (Int.emod_nonneg _ (by have := ln ‹_›; omega)) (Int.emod_lt_of_pos _ (ln ‹_›)) fun x hx => ?_
    obtain ⟨cc, _, rfl⟩ := List.mem_map.mp hx
    walk_at "vc"
    all_goals first
      | omega
      | exact h.m1.1
      | exact h.m2.1
      | exact h.m3
      | exact ⟨by omega, by omega⟩
      | exact .inr ⟨by omega, by omega⟩
      | exact .inr ⟨by have := h.b2; omega, by have := h.b2; omega⟩
      | exact .inl ⟨by decide, by decide⟩
      | exact ⟨by decide, by decide, by decide⟩
      | exact h.pow5 _ p1 p4
      | exact h.pow3 _ p1 p4
      | exact draw_end hm1 p3 (by omega) (by omega)
      | exact draw_end hm1 (Int.ediv_nonneg (by omega) (by omega)) (by omega) (by omega)
      | exact draw_end hm1 (Int.ediv_nonneg (by split <;> split <;> omega) (by omega)) (by omega) (by omega)
      | skip
end VS

namespace VS
open PySem PySem.Spec PyProof.Rows L2
set_option hygiene false
local macro_rules | `(tactic| walk_at "vc") => `(tactic| repeat' (first
      | ((with_reducible apply s_consN); (case e => (first | (dsimp only [backO, wipeO, List.map, setS, getS, O.setP, O.getP, List.set_cons_zero, List.set_cons_succ, List.getElem?_cons_zero, List.getElem?_cons_succ]; first | done | exact rfl) | exact rfl)))
      | with_reducible refine s_nil ?_
      | with_reducible refine d_eqP ?_ ?_ ?_
      | with_reducible refine d_lenP ?_
      | with_reducible refine d_slP0 ?_ ?_
      | with_reducible refine d_slP1 ?_ ?_
      | with_reducible refine d_addP ?_ ?_
      | with_reducible refine d_addP1 ?_ ?_
      | with_reducible refine d_slT0 ?_ ?_
      | with_reducible refine d_slT1 ?_ ?_
      | with_reducible refine d_slL0 ?_ ?_
      | with_reducible refine d_slL1 ?_ ?_
      | with_reducible refine s_set ?_
      | with_reducible refine s_if ?_
      | with_reducible refine s_for ?_
      | with_reducible refine s_ex ?_
      | with_reducible refine s_ret ?_
      | with_reducible refine s_retN ?_
      | with_reducible refine s_pass ?_
      | with_reducible refine s_brk ?_
      | with_reducible refine s_cont ?_
      | with_reducible refine s_put ?_
      | with_reducible refine s_augP ?_
      | with_reducible refine s_par ?_
      | with_reducible refine s_T ?_
      | with_reducible refine s_bin ?_
      | with_reducible refine s_cmp ?_
      | with_reducible refine s_idx ?_
      | with_reducible refine s_int ?_
      | with_reducible refine s_str ?_
      | with_reducible refine s_bl ?_
      | with_reducible refine s_non ?_
      | with_reducible refine s_lst ?_
      | with_reducible refine s_tup ?_
      | with_reducible refine s_dct ?_
      | with_reducible refine s_dnewK ?_
      | with_reducible refine s_dnewT ?_
      | with_reducible refine s_neg ?_
      | with_reducible refine s_chn ?_
      | with_reducible refine s_bop ?_
      | with_reducible refine s_bop1 ?_
      | with_reducible refine s_bop2 ?_
      | with_reducible refine s_nt ?_
      | with_reducible refine s_ife ?_
      | with_reducible refine s_sl ?_
      | with_reducible refine s_isi ?_
      | with_reducible refine s_comp ?_
      | with_reducible refine s_blt ?_
      | with_reducible refine s_mth ?_
      | with_reducible refine s_mmt ?_
      | with_reducible refine s_rng ?_
      | with_reducible refine s_enu ?_
      | with_reducible refine s_zip ?_
      | with_reducible refine s_lzip ?_
      | with_reducible refine s_dof ?_
      | with_reducible refine s_upd ?_
      | with_reducible refine s_rng3 ?_
      | with_reducible refine s_get1 ?_
      | with_reducible refine s_get2 ?_
      | with_reducible refine s_isin ?_
      | with_reducible refine s_fst ?_
      | with_reducible refine s_F0 ?_
      | with_reducible refine s_F1 ?_
      | with_reducible refine s_rev ?_
      | with_reducible refine s_fl ?_
      | with_reducible refine r_onNdD ?_
      | with_reducible refine r_onNdL ?_
      | with_reducible refine s_frz ?_
      | with_reducible refine s_dctT ?_
      | with_reducible refine r_notT ?_
      | with_reducible refine r_notF ?_
      | with_reducible refine r_notB ?_
      | with_reducible refine d_revL ?_
      | with_reducible refine s_L0 ?_
      | with_reducible refine s_L1 ?_
      | with_reducible refine s_H0 ?_
      | with_reducible refine s_H1 ?_
      | with_reducible refine s_C0 ?_
      | with_reducible refine s_P0 ?_
      | with_reducible refine s_P1 ?_
      | with_reducible refine s_O0 ?_
      | with_reducible refine s_O1 ?_
      | with_reducible refine s_Ts0 ?_
      | with_reducible refine s_Ts1 ?_
      | with_reducible refine r_asDd ?_
      | with_reducible refine r_asDl ?_
      | with_reducible refine r_asOo ?_
      | with_reducible refine r_asOp ?_
      | with_reducible refine r_holdD ?_
      | with_reducible refine r_holdP ?_
      | with_reducible refine r_holdO ?_
      | with_reducible refine r_vwD ?_
      | with_reducible refine r_vws0 ?_
      | with_reducible refine r_vws1 ?_
      | with_reducible refine r_stabO ?_
      | with_reducible refine r_stabP ?_
      | with_reducible refine r_stabT ?_
      | with_reducible refine r_idxO ?_
      | with_reducible refine r_itL ?_
      | with_reducible refine r_itT ?_
      | with_reducible refine r_itS ?_
      | with_reducible refine r_itI ?_
      | with_reducible refine r_itV ?_
      | with_reducible refine r_onPl ?_
      | with_reducible refine r_onInt ?_
      | with_reducible refine r_seqL ?_
      | with_reducible refine r_seqT ?_
      | with_reducible refine r_onDat ?_
      | with_reducible refine r_rcvM ?_
      | with_reducible refine d_add ?_
      | with_reducible refine d_sub ?_
      | with_reducible refine d_lt ?_
      | with_reducible refine d_le ?_
      | with_reducible refine d_gt ?_
      | with_reducible refine d_ge ?_
      | with_reducible refine d_inS ?_
      | with_reducible refine d_ninS ?_
      | with_reducible refine d_augA ?_
      | with_reducible refine d_augS ?_
      | with_reducible refine r_mutL ?_
      | with_reducible refine d_eqS ?_
      | with_reducible refine d_neS ?_
      | with_reducible refine d_eqI ?_
      | with_reducible refine d_neI ?_
      | with_reducible refine d_is ?_
      | with_reducible refine d_isn ?_
      | with_reducible refine d_truB ?_
      | with_reducible refine d_truI ?_
      | with_reducible refine d_truL ?_
      | with_reducible refine d_truT ?_
      | with_reducible refine d_truN ?_
      | with_reducible refine d_lenL ?_
      | with_reducible refine d_lenT ?_
      | with_reducible refine d_listL ?_
      | with_reducible refine d_listT ?_
      | with_reducible refine d_tupL ?_
      | with_reducible refine d_tupT ?_
      | with_reducible refine d_abs ?_
      | with_reducible refine d_intI ?_
      | with_reducible refine d_intB ?_
      | with_reducible refine d_min ?_
      | with_reducible refine d_max ?_
      | with_reducible refine d_slL ?_
      | with_reducible refine d_slX ?_
      | with_reducible refine d_slT ?_
      | with_reducible refine b_T ?_
      | with_reducible refine b_F ?_
      | with_reducible refine b_TF ?_
      | with_reducible refine b_FF ?_
      | with_reducible refine s_tp ?_
      | with_reducible refine s_tnil ?_
      | with_reducible refine s_tcons ?_
      | ((with_reducible apply s_varD); (case h1 => exact rfl))
      | ((with_reducible apply s_varN); (case h1 => exact rfl))
      | ((with_reducible apply s_mvD); (case h1 => exact rfl))
      | ((with_reducible apply s_mvL); (case h1 => with_reducible exact rfl))
      | ((with_reducible apply s_mvN); (case h1 => exact rfl))
      | ((with_reducible apply s_nm); (case h1 => (simp only [setS_len, backO_len, wipeO_len, List.length_cons, List.length_nil, List.length_set]; decide)))
      | ((with_reducible apply r_vwP); (case e1 => exact rfl); (case e => first | exact flat_dL _ | exact rfl))
      | ((with_reducible apply r_idxP); (case e => exact rfl))
      | ((with_reducible apply r_opt); (case e => exact rfl))
      | ((with_reducible apply r_idxC); (case e1 => (first | exact pk_cells _ | exact pk_at _ | exact pk_rest _ | exact rfl)); (case e2 => exact rfl))
      | ((with_reducible apply r_idxN); (case e1 => (first | exact pk_cells _ | exact pk_at _ | exact pk_rest _ | exact rfl)); (case e2 => exact rfl))
      | ((with_reducible apply s_C1); (case h1 => exact trivial))
      | ((with_reducible apply s_C2); (case h1 => exact rfl))
      | ((with_reducible apply r_asDn); (case e => first | exact toD_dL _ | with_reducible exact toD_two _ _ | ((repeat' (first | with_reducible exact toD_dL _ | assumption | with_reducible exact toD_dat _ | with_reducible exact toDL_nil | with_reducible apply toD_lst | with_reducible apply toD_tupO | with_reducible apply toD_dk | with_reducible apply toD_dt | with_reducible apply toDL_cons | exact rfl)); done) | exact rfl))
      | ((with_reducible apply r_asDp); (case e1 => exact rfl); (case e => first | exact toD_dL _ | exact rfl))
      | ((with_reducible apply r_rcvW); (case e => exact rfl))
      | ((with_reducible apply s_call); (case h1 => assumption))
      | with_reducible refine d_mul ?_ ?_
      | with_reducible refine d_mod ?_ ?_
      | with_reducible refine d_div ?_ ?_
      | with_reducible refine d_pow ?_ ?_
      | with_reducible refine d_addS ?_ ?_
      | with_reducible refine d_addL ?_ ?_
      | with_reducible refine d_addT ?_ ?_
      | with_reducible refine d_mulS ?_ ?_
      | with_reducible refine d_mulL ?_ ?_
      | with_reducible refine d_mulT ?_ ?_
      | with_reducible refine d_truS ?_ ?_
      | with_reducible refine d_lenS ?_ ?_
      | with_reducible refine d_slS ?_ ?_
      | with_reducible refine d_rng1 ?_ ?_
      | with_reducible refine d_rng2 ?_ ?_
      | with_reducible refine d_app ?_ ?_
      | with_reducible refine d_appL ?_ ?_
      | with_reducible refine d_repr ?_ ?_
      | with_reducible refine d_fmtS ?_ ?_
      | with_reducible refine r_lz ?_ ?_
      | with_reducible refine r_dn ?_ ?_
      | with_reducible refine r_zipL ?_ ?_
      | with_reducible refine r_zipT ?_ ?_
      | with_reducible refine b_ite (fun _ => ?_) (fun _ => ?_)
      | with_reducible refine b_iteN (fun _ => ?_) (fun _ => ?_)
      | with_reducible refine b_iteF (fun _ => ?_) (fun _ => ?_)
      | with_reducible refine b_iteNF (fun _ => ?_) (fun _ => ?_)
      | refine r_stabL rfl ?_
      | refine r_stabR rfl ?_
      | with_reducible refine p_cells ?_
      | with_reducible refine p_at ?_
      | with_reducible refine p_rest ?_
      | refine s_C1p (by exact rfl) (by assumption) ?_
      | refine c_draw (by exact rfl) (by assumption) ?_ (fun _ _ _ _ _ => ?_)
      | with_reducible refine d_eqE ?_
      | with_reducible refine d_neE ?_
      | with_reducible refine d_in ?_ ?_
      | with_reducible refine d_nin ?_ ?_
      | with_reducible refine d_eq ?_ ?_
      | with_reducible refine d_ne ?_ ?_
      | with_reducible refine b_anyN (fun _ => ?_) (fun _ => ?_)
      | with_reducible refine b_anyNF (fun _ => ?_) (fun _ => ?_)
      | with_reducible refine b_any (fun _ => ?_) (fun _ => ?_)
      | with_reducible refine d_popL ?_
      | ((with_reducible apply r_par); (case n1 => decide); (case n2 => (simp only [setS_len, backO_len, wipeO_len, List.length_cons, List.length_nil, List.length_set]; decide)); (case n3 => (simp only [setS_len, backO_len, wipeO_len, List.length_cons, List.length_nil, List.length_set]; decide)))
      | refine c_names (by exact rfl) (by assumption) ?_ (fun _ _ _ _ _ _ => ?_)
      | refine c_pen (fun _ _ => ?_)
      | with_reducible refine b_anyN (fun _ => ?_) (fun _ => ?_)
      | with_reducible refine b_anyNF (fun _ => ?_) (fun _ => ?_)
      | with_reducible refine b_anyF (fun _ => ?_) (fun _ => ?_)
      | ((with_reducible apply r_isi (b := true)); (case e1 => exact rfl); (case e2 => exact rfl))
      | ((with_reducible apply r_isi (b := false)); (case e1 => exact rfl); (case e2 => exact rfl))
      | ((with_reducible apply s_con); (case h1 => assumption))
      | with_reducible refine d_allM ?_
      | with_reducible refine d_anyM ?_
      | ((with_reducible apply r_itO); (case e => first | exact toD_dL _ | ((repeat' (first | with_reducible exact toD_dL _ | assumption | with_reducible exact toD_dat _ | with_reducible exact toDL_nil | with_reducible apply toD_lst | with_reducible apply toD_tupO | with_reducible apply toD_dk | with_reducible apply toD_dt | with_reducible apply toDL_cons | exact rfl)); done) | exact rfl))
      | ((with_reducible apply r_toDL); (case e => first | ((repeat' (first | with_reducible exact toD_dL _ | assumption | with_reducible exact toD_dat _ | with_reducible exact toDL_nil | with_reducible apply toD_lst | with_reducible apply toD_tupO | with_reducible apply toD_dk | with_reducible apply toD_dt | with_reducible apply toDL_cons | exact rfl)); done) | exact toDL_datL (datL_map _)))
      | ((with_reducible apply d_ixT); (case e => exact rfl))
      | ((with_reducible apply d_ixL); (case e => exact rfl))
      | ((with_reducible apply d_appO); (case e => exact rfl))
      | ((with_reducible apply r_itP); (case e1 => exact rfl))
      | with_reducible refine c_fn1 ?_ ?_
      | with_reducible refine c_fn2 ?_ ?_
      | ((with_reducible apply r_dcvK2); (case e => exact rfl))
      | ((with_reducible apply r_dcvT2); (case e => exact rfl))
      | ((with_reducible apply r_dcvK); (case e => exact rfl))
      | ((with_reducible apply r_dcvT); (case e => exact rfl))
      | with_reducible refine r_inT ?_
      | with_reducible refine r_inF ?_
      | with_reducible refine r_ninT ?_
      | with_reducible refine r_ninF ?_
      | refine c_volume (by exact rfl) (by assumption) ?_ (fun _ _ _ _ => ?_)
      | fail))
/-! ## the laws' names -/
def abc : Str := "abcdefghijklmnopqrstuvwxyz"
def Low (x : Str) : Prop := ∀ c, c ∈ x.cps.toList → 97 ≤ c ∧ c ≤ 122
theorem abc_low : Low abc := by
  have z : abc.cps.toList.all (fun c => decide (97 ≤ c ∧ c ≤ 122)) = true := by decide +kernel
  intro c hc
  exact of_decide_eq_true (List.all_eq_true.mp z c hc)
theorem abc_len : abc.length = 26 := by decide +kernel
theorem Low.app {x y : Str} (h : Low x) (k : Low y) : Low (x ++ y) := by
  intro c hc
  have e : (x ++ y).cps.toList = x.cps.toList ++ y.cps.toList := by
    show (x.cps ++ y.cps).toList = _
    simp
  rw [e] at hc
  rcases List.mem_append.mp hc with z | z
  · exact h c z
  · exact k c z
theorem Low.one {c : Nat} (h : 97 ≤ c ∧ c ≤ 122) : Low ⟨#[c]⟩ := by
  intro d hd
  have e : d = c := by simpa using hd
  rw [e]
  exact h
theorem len_app (x y : Str) : (x ++ y).length = x.length + y.length := by
  show (x.cps ++ y.cps).size = _
  simp
  rfl
theorem Low.cut {x : Str} (h : Low x) (lo hi : Option Int) : Low (cutS x lo hi) := by
  intro c hc
  have hc : c ∈ (x.cps.toList.drop (HT.sIx x.length 0 lo)).take (HT.sIx x.length x.length hi - HT.sIx x.length 0 lo) := by
    simpa [cutS] using hc
  exact h c (List.mem_of_mem_drop (List.mem_of_mem_take hc))
theorem cut_len (x : Str) {s : Int} (h0 : 0 ≤ s) (h1 : s ≤ x.length) : (cutS x none (some s)).length + (cutS x (some s) none).length = x.length := by
  obtain ⟨n, rfl⟩ := Int.eq_ofNat_of_zero_le h0
  have hx : x.length = x.cps.toList.length := by rw [Array.length_toList]; rfl
  have l1 : (cutS x none (some (n : Int))).length = ((x.cps.toList.drop 0).take (min n x.length - 0)).length := by
    show (Array.size _) = _
    unfold cutS
    rw [HT.sIx_nat, HT.sIx_none, List.size_toArray]
  have l2 : (cutS x (some (n : Int)) none).length = ((x.cps.toList.drop (min n x.length)).take (x.length - min n x.length)).length := by
    show (Array.size _) = _
    unfold cutS
    rw [HT.sIx_nat, HT.sIx_none, List.size_toArray]
  rw [l1, l2]
  simp only [List.length_take, List.length_drop]
  omega
theorem join_tl (ys : List Str) : (Txt.join "" ys).cps.toList = (ys.map fun y => y.cps.toList).flatten := by
  rw [TL.join_eq]
  have z := TL.tl_join "" ys
  have e : ∀ l : List (List Nat), TL.joinL (TL.tl "") l = l.flatten := by
    intro l
    induction l with
    | nil => rfl
    | cons p r ih =>
      cases r with
      | nil => simp [TL.joinL]
      | cons q r =>
        show p ++ (TL.tl "" ++ TL.joinL (TL.tl "") (q :: r)) = _
        rw [ih, show TL.tl "" = [] from rfl]
        simp
  rw [e] at z
  exact z
theorem join_len (ys : List Str) : (Txt.join "" ys).length = (ys.map (·.length)).sum := by
  have z := congrArg List.length (join_tl ys)
  rw [Array.length_toList] at z
  show (Txt.join "" ys).cps.size = _
  rw [z, List.length_flatten, List.map_map]
  congr 1
theorem Low.join {ys : List Str} (h : ∀ y, y ∈ ys → Low y) : Low (Txt.join "" ys) := by
  intro c hc
  rw [join_tl] at hc
  obtain ⟨l, hl, hc⟩ := List.mem_flatten.mp hc
  obtain ⟨y, hy, rfl⟩ := List.mem_map.mp hl
  exact h y hy c hc
theorem strsD_map : ∀ ys : List Str, strsD (ys.map PyData.str) = some ys
  | [] => rfl
  | y :: ys => by
    show (match strsD (ys.map PyData.str) with | some xs => some (y :: xs) | none => none) = _
    rw [strsD_map ys]
theorem sum_ones : ∀ {ys : List Str}, (∀ y, y ∈ ys → y.length = 1 ∧ Low y) → (ys.map (·.length)).sum = ys.length
  | [], _ => rfl
  | y :: ys, h => by
    have z := sum_ones fun x hx => h x (List.mem_cons_of_mem _ hx)
    have e := (h y List.mem_cons_self).1
    simp only [List.map_cons, List.sum_cons, List.length_cons]
    omega
theorem d_joinE {ys : List Str} {Q : O → Prop} (c : (ys.map (·.length)).sum ≤ 16777216) (h : Q (.dat (.str (Txt.join "" ys)))) : mthD .join (.str "") [.list (ys.map PyData.str)] Q := by
  show optQ (strsD (ys.map PyData.str)) _
  rw [strsD_map]
  exact ⟨by rw [show ("" : Str).length = 0 from rfl]; omega, h⟩
theorem big : 1000000 < sizeLine := by decide
def nameD (d : PyData) : Prop := ∃ x, d = .str x ∧ 1 ≤ x.length ∧ x.length ≤ 8 ∧ Low x
theorem Low.ok {x : Str} (h : Low x) : PyData.strOk x = true := by
  unfold PyData.strOk
  rw [← Array.all_toList, List.all_eq_true]
  intro c hc
  have := h c hc
  exact decide_eq_true (by omega)
theorem nameD.lay {d : PyData} (h : nameD d) : d.canLay0 = true ∧ d.depth = 0 := by
  obtain ⟨x, rfl, _, _, w⟩ := h
  exact ⟨w.ok, rfl⟩
theorem shaped_flat : ∀ {ds : List PyData}, (∀ d, d ∈ ds → d.canLay0 = true ∧ d.depth = 0) → PyData.canLayAll0 ds = true ∧ PyData.depthAll ds = 0
  | [], _ => ⟨rfl, rfl⟩
  | d :: ds, h => by
    obtain ⟨a, b⟩ := shaped_flat fun x hx => h x (List.mem_cons_of_mem _ hx)
    obtain ⟨p, q⟩ := h d List.mem_cons_self
    exact ⟨by simp [PyData.canLayAll0, p, a], by simp [PyData.depthAll, q, b]⟩
theorem shaped_list {ds : List PyData} (h : ∀ d, d ∈ ds → d.canLay0 = true ∧ d.depth = 0) : SeqAt.shaped (.list ds) = true := by
  obtain ⟨a, b⟩ := shaped_flat h
  simp [SeqAt.shaped, PyData.canLay0, a, PyData.depth, b]
theorem shaped_one {d : PyData} (h : d.canLay0 = true ∧ d.depth = 0) : SeqAt.shaped d = true := by
  simp [SeqAt.shaped, h.1, h.2]
theorem Low.rep {x : Str} (h : Low x) (j : Int) : Low (repS j x) := by
  have go : ∀ (n : Nat) (acc : Array Nat), (∀ c, c ∈ acc.toList → 97 ≤ c ∧ c ≤ 122) → ∀ c, c ∈ ((List.replicate n x.cps).foldl (· ++ ·) acc).toList → 97 ≤ c ∧ c ≤ 122 := by
    intro n
    induction n with
    | zero => intro acc ha c hc; exact ha c hc
    | succ n ih =>
      intro acc ha c hc
      rw [List.replicate_succ, List.foldl_cons] at hc
      refine ih _ (fun d hd => ?_) c hc
      rw [Array.toList_append] at hd
      rcases List.mem_append.mp hd with z | z
      · exact ha d z
      · exact h d z
  exact go _ #[] fun c hc => by simp at hc
theorem Pn.least {b : Nat} {o : O} (h : Pn b o) : ∃ b0, Pn b0 o ∧ ∀ c, Pn c o → b0 ≤ c := by
  obtain ⟨ns, a, r, rfl, h1, h2, h3⟩ := h
  refine ⟨a.toNat, ⟨ns, a, r, rfl, h1, by omega, h3⟩, fun c hc => ?_⟩
  obtain ⟨ns', a', r', e, g1, g2, g3⟩ := hc
  have e2 := (O.nd.inj e).2
  have e3 : a = a' := PyData.int.inj (O.dat.inj (List.cons.inj (List.cons.inj e2).2).1)
  omega
/-! ### the names, one by one -/
def letr (e : Int) : Nat := 97 + (e % 26).toNat
theorem letr_at (e : Int) : abc.cps.toList[(e % 26).toNat]? = some (letr e) := by
  have h0 := Int.emod_nonneg e (show (26 : Int) ≠ 0 by decide)
  have h1 := Int.emod_lt_of_pos e (show (0 : Int) < 26 by decide)
  unfold letr
  have lt : (e % 26).toNat < 26 := by omega
  revert lt
  generalize (e % 26).toNat = i
  intro lt
  have z : (List.range 26).all (fun i => decide (abc.cps.toList[i]? = some (97 + i))) = true := by decide +kernel
  exact of_decide_eq_true (List.all_eq_true.mp z i (List.mem_range.mpr lt))
theorem letr_low (e : Int) : Low ⟨#[letr e]⟩ := by
  have h0 := Int.emod_nonneg e (show (26 : Int) ≠ 0 by decide)
  have h1 := Int.emod_lt_of_pos e (show (0 : Int) < 26 by decide)
  exact Low.one (by unfold letr; omega)
theorem d_abc {e : Int} {P : PyData → Prop} (h : P (.str ⟨#[letr e]⟩)) : idxD (.str abc) (.int (e % 26)) P := by
  have h0 := Int.emod_nonneg e (show (26 : Int) ≠ 0 by decide)
  have h1 := Int.emod_lt_of_pos e (show (0 : Int) < 26 by decide)
  have l26 : abc.cps.toList.length = 26 := by decide +kernel
  refine ⟨by rw [abc_len]; decide, atQ_of (x := letr e) ?_ h⟩
  rw [atI_in h0 (by rw [l26]; exact h1)]
  have z := letr_at e
  rw [List.getElem?_eq_getElem (by omega)] at z
  exact z
def markS (fi st : Int) (k : Nat) : Str := if k > 25 then ⟨#[letr (fi + st * k)]⟩ ++ ⟨#[letr (fi + (k : Int) / 26)]⟩ else ⟨#[letr (fi + st * k)]⟩
def wordS (base : Str) (sp fi st : Int) (k : Nat) : Str := cutS base none (some sp) ++ markS fi st k ++ cutS base (some sp) none
def wordsD (base : Str) (sp fi st : Int) (n : Nat) : List PyData := (List.range n).map fun k => PyData.str (wordS base sp fi st k)
theorem wordsD_len (base : Str) (sp fi st : Int) (n : Nat) : (wordsD base sp fi st n).length = n := by simp [wordsD]
theorem wordsD_succ (base : Str) (sp fi st : Int) (n : Nat) : wordsD base sp fi st (n + 1) = wordsD base sp fi st n ++ [.str (wordS base sp fi st n)] := by simp [wordsD, List.range_succ]
theorem markS_ok (fi st : Int) (k : Nat) : 1 ≤ (markS fi st k).length ∧ (markS fi st k).length ≤ 2 ∧ Low (markS fi st k) := by
  unfold markS
  split
  · exact ⟨(show 1 ≤ 2 by decide), (show 2 ≤ 2 by decide), (letr_low _).app (letr_low _)⟩
  · exact ⟨(show 1 ≤ 1 by decide), (show 1 ≤ 2 by decide), letr_low _⟩
theorem wordS_ok {base : Str} {sp : Int} (fi st : Int) (k : Nat) (h : base.length ≤ 6) (w : Low base) (s0 : 0 ≤ sp) (s1 : sp ≤ base.length) : nameD (.str (wordS base sp fi st k)) := by
  obtain ⟨a, b, c⟩ := markS_ok fi st k
  have cut := cut_len base s0 s1
  refine ⟨_, rfl, ?_, ?_, ((w.cut _ _).app c).app (w.cut _ _)⟩
  · unfold wordS
    rw [len_app, len_app]; omega
  · unfold wordS
    rw [len_app, len_app]; omega
theorem app_tl (x y : Str) : (x ++ y).cps.toList = x.cps.toList ++ y.cps.toList := by
  show (x.cps ++ y.cps).toList = _
  simp
theorem wordS_inj {base : Str} {sp fi st : Int} {j k : Nat} (ht : st = 1 ∨ st = 3 ∨ st = 5 ∨ st = 7 ∨ st = 9 ∨ st = 11 ∨ st = 15 ∨ st = 17 ∨ st = 19 ∨ st = 21 ∨ st = 23 ∨ st = 25) (hj : j < 65) (hk : k < 65) (e : wordS base sp fi st j = wordS base sp fi st k) : j = k := by
  have e2 := congrArg (fun x : Str => x.cps.toList) e
  simp only [wordS, app_tl] at e2
  have e3 := List.append_cancel_left (List.append_cancel_right e2)
  have l1 : ∀ c : Nat, (⟨#[c]⟩ : Str).cps.toList = [c] := fun c => rfl
  have same : letr (fi + st * j) = letr (fi + st * k) → (j : Int) % 26 = (k : Int) % 26 := by
    intro h
    have a0 := Int.emod_nonneg (fi + st * j) (show (26 : Int) ≠ 0 by decide)
    have b0 := Int.emod_nonneg (fi + st * k) (show (26 : Int) ≠ 0 by decide)
    have h2 : (fi + st * j) % 26 = (fi + st * k) % 26 := by unfold letr at h; omega
    rcases ht with rfl | rfl | rfl | rfl | rfl | rfl | rfl | rfl | rfl | rfl | rfl | rfl <;> omega
  have same2 : letr (fi + (j : Int) / 26) = letr (fi + (k : Int) / 26) → (j : Int) / 26 = (k : Int) / 26 := by
    intro h
    have a0 := Int.emod_nonneg (fi + (j : Int) / 26) (show (26 : Int) ≠ 0 by decide)
    have b0 := Int.emod_nonneg (fi + (k : Int) / 26) (show (26 : Int) ≠ 0 by decide)
    have h2 : (fi + (j : Int) / 26) % 26 = (fi + (k : Int) / 26) % 26 := by unfold letr at h; omega
    omega
  unfold markS at e3
  by_cases c1 : j > 25
  · by_cases c2 : k > 25
    · rw [if_pos c1, if_pos c2, app_tl, app_tl, l1, l1, l1, l1] at e3
      have e4 := same (List.cons.inj e3).1
      have e5 := same2 (List.cons.inj (List.cons.inj e3).2).1
      omega
    · rw [if_pos c1, if_neg c2, app_tl, l1, l1, l1] at e3
      cases (List.cons.inj e3).2
  · by_cases c2 : k > 25
    · rw [if_neg c1, if_pos c2, app_tl, l1, l1, l1] at e3
      cases (List.cons.inj e3).2
    · rw [if_neg c1, if_neg c2, l1, l1] at e3
      have e4 := same (List.cons.inj e3).1
      omega
theorem wordsD_nodup {base : Str} {sp fi st : Int} {n : Nat} (ht : st = 1 ∨ st = 3 ∨ st = 5 ∨ st = 7 ∨ st = 9 ∨ st = 11 ∨ st = 15 ∨ st = 17 ∨ st = 19 ∨ st = 21 ∨ st = 23 ∨ st = 25) (hn : n ≤ 65) : (wordsD base sp fi st n).Nodup := by
  unfold wordsD
  refine List.pairwise_map.mpr ?_
  refine List.Pairwise.imp_of_mem (fun {a b} ha hb ne e => ?_) (List.nodup_range (n := n))
  have a1 := List.mem_range.mp ha
  have b1 := List.mem_range.mp hb
  exact ne (wordS_inj ht (by omega) (by omega) (PyData.str.inj e))
theorem nodup_set {α : Type} {w : α} : ∀ {l : List α} {i : Nat}, l.Nodup → w ∉ l → (l.set i w).Nodup
  | [], _, h, _ => h
  | x :: l, 0, h, k => List.nodup_cons.mpr ⟨fun z => k (List.mem_cons_of_mem _ z), (List.nodup_cons.mp h).2⟩
  | x :: l, i + 1, h, k => by
    obtain ⟨h1, h2⟩ := List.nodup_cons.mp h
    refine List.nodup_cons.mpr ⟨fun z => ?_, nodup_set h2 fun z => k (List.mem_cons_of_mem _ z)⟩
    rcases List.mem_or_eq_of_mem_set z with y | y
    · exact h1 y
    · exact k (by rw [← y]; exact List.mem_cons_self)
theorem any_mem {ds : List PyData} {x : Str} (h : (ds.any fun z => PyData.eqv z (.str x)) = false) : PyData.str x ∉ ds := fun z => by
  have y := List.any_eq_false.mp h _ z
  exact y (by rw [eqv_str]; exact decide_eq_true rfl)
def namesS : FS where
  io := [true, false]
  pre := fun os => ∃ o m b, os = [o, .dat (.int m)] ∧ Pn b o ∧ b + 12 ≤ 1000000 ∧ 0 ≤ m ∧ m ≤ 1000
  post := fun os r os' => ∃ o m ds o', os = [o, .dat (.int m)] ∧ r = dL ds ∧ (ds.length : Int) = m ∧ (∀ d, d ∈ ds → nameD d) ∧ (m ≤ 65 → ds.Nodup) ∧ os' = [o', .un] ∧ ∀ b, Pn b o → Pn (b + 12) o'
def bNames : List CS := [
  .set (.nm 2) (.str abc),
  .set (.nm 3) (.mth .join (.str "") [(.comp [("_law_k", 8)] (.idx (.var 2) (.call "_law_draw" [(.io 0), (.int 26)])) (.nm 8) (.rng [(.idx (.lst [(.int 0), (.int 1), (.int 3), (.int 6)]) (.call "_law_draw" [(.io 0), (.int 4)]))]) [])]),
  .set (.nm 4) (.call "_law_draw" [(.io 0), (.bin .Add (.blt .len [(.var 3)]) (.int 1))]),
  .set (.nm 5) (.call "_law_draw" [(.io 0), (.int 26)]),
  .set (.nm 6) (.idx (.lst [(.int 1), (.int 3), (.int 5), (.int 7), (.int 9), (.int 11), (.int 15), (.int 17), (.int 19), (.int 21), (.int 23), (.int 25)]) (.call "_law_draw" [(.io 0), (.int 12)])),
  .set (.nm 7) (.lst []),
  .for_ (.nm 8) (.rng [(.var 1)]) [
    .set (.nm 10) (.idx (.var 2) (.bin .Mod (.bin .Add (.var 5) (.bin .Mult (.var 6) (.var 8))) (.int 26))),
    .ife (.cmp .Gt (.var 8) (.int 25)) [
      .set (.nm 10) (.bin .Add (.var 10) (.idx (.var 2) (.bin .Mod (.bin .Add (.var 5) (.bin .FloorDiv (.var 8) (.int 26))) (.int 26))))] [],
    .ex (.mmt .append (.var 7) [(.bin .Add (.bin .Add (.sl (.var 3) [] [(.var 4)]) (.var 10)) (.sl (.var 3) [(.var 4)] []))])],
  .set (.nm 9) (.idx (.var 2) (.call "_law_draw" [(.io 0), (.int 26)])),
  .ife (.cmp .Eq (.call "_law_draw" [(.io 0), (.int 3)]) (.int 0)) [
    .for_ (.nm 8) (.rng [(.blt .min_ [(.var 1), (.int 7)])]) [
      .set (.nm 11) (.bin .Mult (.var 9) (.bin .Add (.int 1) (.bin .Mod (.bin .Add (.var 5) (.bin .Mult (.int 3) (.var 8))) (.int 7)))),
      .ife (.cmp .NotIn (.var 11) (.var 7)) [
        .put (.var 7) (.var 8) (.var 11)] []]] [],
  .ret (.mv 7)]
theorem names_ok {G : Gm} (hd : G.fn "_law_draw" = some drawS) : namesS.Ok G bNames 2 10 := by
  rintro os ho ⟨o, m, b1, rfl, hp1, hb1, hm0, hm1⟩
  obtain ⟨b, hp, least⟩ := hp1.least
  have hb : b + 12 ≤ 1000000 := by have := least b1 hp1; omega
  clear hp1 hb1
  unfold bNames
  show evB G _ [o, .dat (.int m), .un, .un, .un, .un, .un, .un, .un, .un, .un, .un] _
  walk_at "vc"
  · exact ⟨by omega, by decide, by decide⟩
  rename_i d1 o1 hd1 hd2 hp1
  refine d_atM hd1 (show d1 < 4 from hd2) fun x hx => ?_
  have hx : ∃ n : Nat, x = .int n ∧ n ≤ 6 := by
    simp only [List.mem_cons, List.not_mem_nil, or_false] at hx
    rcases hx with rfl | rfl | rfl | rfl
    · exact ⟨0, rfl, by decide⟩
    · exact ⟨1, rfl, by decide⟩
    · exact ⟨3, rfl, by decide⟩
    · exact ⟨6, rfl, by decide⟩
  obtain ⟨n, rfl, hn⟩ := hx
  walk_at "vc"
  · exact ⟨by omega, by omega⟩
  refine s_comps (fun i ρ acc => ∃ o2 ys, Pn (b + 1 + i) o2 ∧ ρ = [o2, .dat (.int m), .dat (.str abc), .un, .un, .un, .un, .un, .un, .un, .un, .un] ∧ acc = (ys.map PyData.str).map O.dat ∧ ys.length = i ∧ ∀ y, y ∈ ys → y.length = 1 ∧ Low y) ⟨o1, [], hp1, rfl, rfl, rfl, fun _ z => nomatch z⟩ (fun _ _ _ _ _ => trivial) ?_ ?_
  · rintro i d ρ acc k hi ⟨o2, ys, hp2, rfl, rfl, rfl, hy⟩ hk _
    have hl : ys.length < n := by
      have z := lt_of_get hi
      simpa [rangeD] using z
    walk_at "vc"
    · exact ⟨by omega, by decide, by decide⟩
    rename_i d2 o3 hd3 hd4 hp3
    refine d_atS (by rw [abc_len]; decide) hd3 (by rw [abc_len]; exact hd4) fun ch hch => ?_
    walk_at "vc"
    refine hk _ _ ⟨by have := big; simp; omega, o3, ys ++ [⟨#[ch]⟩], hp3, rfl, by simp, by simp, fun y hy2 => ?_⟩
    rcases List.mem_append.mp hy2 with z | z
    · exact hy y z
    · rw [List.mem_singleton.mp z]
      exact ⟨rfl, Low.one (abc_low ch hch)⟩
  · rintro ρ acc ⟨o2, ys, hp2, rfl, rfl, hl, hy⟩
    have hl : ys.length = n := by simpa [rangeD] using hl
    have sm := sum_ones hy
    walk_at "vc"
    refine d_joinE (by omega) ?_
    have bl : (Txt.join "" ys).length ≤ 6 := by rw [join_len, sm]; omega
    have bw : Low (Txt.join "" ys) := Low.join fun y hy2 => (hy y hy2).2
    revert bl bw
    generalize Txt.join "" ys = base
    intro bl bw
    have hp2 := hp2.mono (c := b + 7) (by omega)
    walk_at "vc"
    · have := big; omega
    · exact ⟨by omega, by omega, by omega⟩
    · exact ⟨by omega, by decide, by decide⟩
    · exact ⟨by omega, by decide, by decide⟩
    rename_i sp o4 hs1 hs2 hp4 fi o5 hf1 hf2 hp5 d6 o6 hd5 hd6 hp6
    refine d_atM hd5 (show d6 < 12 from hd6) fun x hx2 => ?_
    have hx2 : ∃ st : Int, x = .int st ∧ (st = 1 ∨ st = 3 ∨ st = 5 ∨ st = 7 ∨ st = 9 ∨ st = 11 ∨ st = 15 ∨ st = 17 ∨ st = 19 ∨ st = 21 ∨ st = 23 ∨ st = 25) := by
      simp only [List.mem_cons, List.not_mem_nil, or_false] at hx2
      rcases hx2 with rfl | rfl | rfl | rfl | rfl | rfl | rfl | rfl | rfl | rfl | rfl | rfl <;> exact ⟨_, rfl, by decide⟩
    obtain ⟨st, rfl, htt⟩ := hx2
    have ht0 : 1 ≤ st ∧ st ≤ 25 := by omega
    walk_at "vc"
    · exact ⟨by omega, by omega⟩
    refine s_loop (fun i ρ => ∃ u8 u10, ρ = [o6, .dat (.int m), .dat (.str abc), .dat (.str base), .dat (.int sp), .dat (.int fi), .dat (.int st), dL (wordsD base sp fi st i), u8, .un, u10, .un]) ⟨.un, .un, rfl⟩ (fun _ _ _ _ => trivial) ?_ ?_
    · rintro i d ρ k hi ⟨u8, u10, rfl⟩ hk
      have hl2 : i < m.toNat := by
        have z := lt_of_get hi
        simpa [rangeD] using z
      have ed : d = .int i := by
        simp [rangeD, hl2] at hi
        exact hi.symm
      subst ed
      walk_at "vc"
      · exact .inl ⟨by omega, by omega⟩
      · decide
      refine d_abc ?_
      have cut := cut_len base hs1 (by omega)
      have z1 := big
      have wl := wordsD_len base sp fi st i
      have fin : ∀ {v w : O} {mark : Str}, mark = markS fi st i → ∀ ρ', ρ' = [o6, .dat (.int m), .dat (.str abc), .dat (.str base), .dat (.int sp), .dat (.int fi), .dat (.int st), dL (wordsD base sp fi st i ++ [.str (cutS base none (some sp) ++ mark ++ cutS base (some sp) none)]), v, .un, w, .un] → k ρ' := fun {v w mark} e ρ' e2 => by
        refine hk ρ' ⟨v, w, ?_⟩
        rw [e2, wordsD_succ, e]
        rfl
      have l1 : ∀ c : Nat, Str.length ⟨#[c]⟩ = 1 := fun _ => rfl
      walk_at "vc"
      · exact ⟨by decide, by decide⟩
      · decide
      · refine d_abc ?_
        have l3 : ∀ c d : Nat, ((⟨#[c]⟩ : Str) ++ ⟨#[d]⟩).length = 2 := fun _ _ => rfl
        walk_at "vc"
        · rw [l1, l1]; omega
        · omega
        · rw [l3]; omega
        · omega
        · rw [len_app, l3]; omega
        · rw [wl]; omega
        · refine fin ?_ _ rfl
          unfold markS
          rw [if_pos (by omega)]
      · omega
      · rw [l1]; omega
      · omega
      · rw [len_app, l1]; omega
      · rw [wl]; omega
      · refine fin ?_ _ rfl
        unfold markS
        rw [if_neg (by omega)]
    · rintro ρ ⟨u8, u10, rfl⟩
      have em : (rangeD 0 m).length = m.toNat := by simp [rangeD]
      rw [em]
      have hds : ∀ d, d ∈ wordsD base sp fi st m.toNat → nameD d := fun d hd => by
        obtain ⟨k, _, rfl⟩ := List.mem_map.mp hd
        exact wordS_ok fi st k bl bw hs1 (by omega)
      have hnd : m ≤ 65 → (wordsD base sp fi st m.toNat).Nodup := fun h => wordsD_nodup htt (by omega)
      have hl3 : ((wordsD base sp fi st m.toNat).length : Int) = m := by rw [wordsD_len]; omega
      revert hds hnd hl3
      generalize wordsD base sp fi st m.toNat = ds
      intro hds hnd hl3
      walk_at "vc"
      · exact ⟨by omega, by decide, by decide⟩
      rename_i dl o7 hd7 hd8 hp7
      refine d_atS (by rw [abc_len]; decide) hd7 (by rw [abc_len]; exact hd8) fun cl hcl => ?_
      have z1 := big
      have ol : Low ⟨#[cl]⟩ := Low.one (abc_low cl hcl)
      have ret : ∀ {es : List PyData} {o8 : O} {ρ : Env}, (es.length : Int) = m → (∀ d, d ∈ es → nameD d) → (m ≤ 65 → es.Nodup) → Pn (b + 12) o8 → namesS.post [o, .dat (.int m)] (dL es) (outO [true, false] (o8 :: .dat (.int m) :: ρ)) := fun {es o8 ρ} e1 e2 en e3 =>
        ⟨o, m, es, o8, rfl, rfl, e1, e2, en, rfl, fun c hc => e3.mono (by have := least c hc; omega)⟩
      walk_at "vc"
      · exact ⟨by omega, by decide, by decide⟩
      · exact ⟨by split <;> omega, by split <;> omega⟩
      · rename_i d9 o9 hd9 hda hp9 _
        refine s_loop (fun i ρ => ∃ es u8 u11, (∃ mk : Str, ρ = [o9, .dat (.int m), .dat (.str abc), .dat (.str base), .dat (.int sp), .dat (.int fi), .dat (.int st), dL es, u8, .dat (.str ⟨#[cl]⟩), u10, u11]) ∧ (es.length : Int) = m ∧ (∀ d, d ∈ es → nameD d) ∧ (m ≤ 65 → es.Nodup)) ⟨ds, u8, .un, ⟨"", rfl⟩, hl3, hds, hnd⟩ (fun _ _ _ _ => trivial) ?_ ?_
        · rintro i d ρ k hi ⟨es, v8, v11, ⟨mk, rfl⟩, he1, he2, he3⟩ hk
          have hi2 : i < (if 7 < m then 7 else m).toNat := by
            have z := lt_of_get hi
            simpa [rangeD] using z
          have ed : d = .int i := by
            simp [rangeD, hi2] at hi
            exact hi.symm
          subst ed
          have hi3 : (i : Int) < es.length := by
            rw [he1]
            split at hi2 <;> omega
          have j0 := Int.emod_nonneg (fi + 3 * (i : Int)) (show (7 : Int) ≠ 0 by decide)
          have j1 := Int.emod_lt_of_pos (fi + 3 * (i : Int)) (show (0 : Int) < 7 by decide)
          have w1 : nameD (.str (repS (1 + (fi + 3 * (i : Int)) % 7) ⟨#[cl]⟩)) := by
            refine ⟨_, rfl, ?_, ?_, ol.rep _⟩
            · rw [repS_len, show Str.length ⟨#[cl]⟩ = 1 from rfl]; omega
            · rw [repS_len, show Str.length ⟨#[cl]⟩ = 1 from rfl]; omega
          have put : ∀ {w : PyData}, nameD w → ∀ d, d ∈ es.set i w → nameD d := fun {w} hw d hd9 => by
            rcases List.mem_or_eq_of_mem_set hd9 with z | z
            · exact he2 d z
            · rw [z]; exact hw
          have at_i : ixN es.length (i : Int) = some i := by
            rw [ixN_nat (by omega) hi3, Int.toNat_natCast]
          walk_at "vc"
          all_goals first
            | exact .inl ⟨by decide, by decide⟩
            | decide
            | exact ⟨by omega, by omega, by show 1 ≤ 1000; decide⟩
            | exact ⟨shaped_one w1.lay, shaped_list fun d hd => (he2 d hd).lay⟩
            | exact hk _ ⟨es, _, _, ⟨"", rfl⟩, he1, he2, he3⟩
            | skip
          refine d_putL at_i ?_
          walk_at "vc"
          exact hk _ ⟨es.set i _, _, _, ⟨"", rfl⟩, by rw [List.length_set]; exact he1, put w1, fun h => nodup_set (he3 h) (any_mem ‹_›)⟩
        · rintro ρ ⟨es, v8, v11, ⟨mk, rfl⟩, he1, he2, he3⟩
          walk_at "vc"
          exact ret he1 he2 he3 (hp9.mono (by omega))
      · rename_i d9 o9 hd9 hda hp9 _
        exact ret hl3 hds hnd (hp9.mono (by omega))
end VS

namespace VS
open PySem PySem.Spec PyProof.Rows L2
/-! ## what repr may be asked of -/
structure Nz (n s : Nat) (d : PyData) : Prop where
  ok : okD d = true
  sh : d.showable = true
  dp : d.depth ≤ n
  len : d.shown.length ≤ s
theorem Nz.repr {n s : Nat} {d : PyData} (h : Nz n s d) (hn : n ≤ 60) (hs : s ≤ sizeLine) : reprOk d := ⟨h.ok, h.sh, Nat.le_trans h.dp hn, Nat.le_trans h.len hs⟩
theorem Nz.mono {n m s t : Nat} {d : PyData} (h : Nz n s d) (hn : n ≤ m) (hs : s ≤ t) : Nz m t d := ⟨h.ok, h.sh, Nat.le_trans h.dp hn, Nat.le_trans h.len hs⟩
theorem Nz.low {x : Str} {l : Nat} (h : Low x) (hl : x.length ≤ l) : Nz 0 (10 * l + 2) (.str x) := by
  refine ⟨rfl, rfl, Nat.le_refl _, ?_⟩
  have z := StrLaws.reprText_len x fun c hc => by have := h c hc; omega
  show (reprText x).length ≤ _
  omega
theorem Nz.name {d : PyData} (h : nameD d) : Nz 0 82 d := by
  obtain ⟨x, rfl, _, h2, h3⟩ := h
  exact Nz.low (l := 8) h3 h2
theorem Nz.non : Nz 0 4 .none := ⟨rfl, rfl, Nat.le_refl _, by decide +kernel⟩
theorem Nz.bl (b : Bool) : Nz 0 5 (.bool b) := by
  cases b <;> exact ⟨rfl, rfl, Nat.le_refl _, by decide +kernel⟩
theorem Nz.bit (b : Bool) : Nz 0 1 (.int (if b then 1 else 0)) := by
  cases b <;> exact ⟨rfl, by decide +kernel, Nat.le_refl _, by decide +kernel⟩
theorem all_nice {n s : Nat} : ∀ {ds : List PyData}, (∀ d, d ∈ ds → Nz n s d) → okDL ds = true ∧ PyData.showableAll ds = true ∧ PyData.depthAll ds ≤ n ∧ ∀ t, t ∈ PyData.shownAll ds → t.length ≤ s
  | [], _ => ⟨rfl, rfl, Nat.zero_le _, fun t ht => by simp [PyData.shownAll] at ht⟩
  | d :: ds, h => by
    obtain ⟨a1, a2, a3, a4⟩ := all_nice fun x hx => h x (List.mem_cons_of_mem _ hx)
    have q := h d List.mem_cons_self
    refine ⟨by simp [okDL, q.ok, a1], by simp [PyData.showableAll, q.sh, a2], ?_, fun t ht => ?_⟩
    · have := q.dp
      simp only [PyData.depthAll]
      omega
    · simp only [PyData.shownAll] at ht
      rcases List.mem_cons.mp ht with z | z
      · rw [z]; exact q.len
      · exact a4 t z
theorem shownAll_len : ∀ ds : List PyData, (PyData.shownAll ds).length = ds.length
  | [] => rfl
  | d :: ds => by simp [PyData.shownAll, shownAll_len ds]
theorem textFrom_le {s : Nat} : ∀ (ts : List Str) (k : Nat) (acc : Str), (∀ t, t ∈ ts → t.length ≤ s) → (textFrom k acc ts).length ≤ acc.length + ts.length * (s + 2)
  | [], k, acc, _ => by
    show acc.length ≤ _
    omega
  | t :: r, k, acc, h => by
    have ih := textFrom_le r (k + 1) (acc ++ (if k > 0 then ", " else "" : String) ++ t) fun x hx => h x (List.mem_cons_of_mem _ hx)
    have e := h t List.mem_cons_self
    have e2 : (acc ++ (if k > 0 then ", " else "" : String) ++ t).length ≤ acc.length + 2 + t.length := by
      rw [strLen_append, strLen_append]
      split
      · show acc.length + 2 + t.length ≤ _; omega
      · show acc.length + 0 + t.length ≤ _; omega
    show (textFrom (k + 1) (acc ++ (if k > 0 then ", " else "" : String) ++ t) r).length ≤ _
    rw [List.length_cons, Nat.succ_mul]
    omega
theorem piled_le {s : Nat} : ∀ {ts : List Str}, (∀ t, t ∈ ts → t.length ≤ s) → piled ts ≤ ts.length * (s + 2)
  | [], _ => by simp [piled]
  | t :: r, h => by
    have ih := piled_le fun x hx => h x (List.mem_cons_of_mem _ hx)
    have e := h t List.mem_cons_self
    have z : piled (t :: r) = t.length + 2 + piled r := by simp [piled]
    rw [z, List.length_cons, Nat.succ_mul]
    omega
theorem Nz.list {n s k : Nat} {ds : List PyData} (h : ∀ d, d ∈ ds → Nz n s d) (hk : ds.length ≤ k) : Nz (n + 1) (k * (s + 2) + 2) (.list ds) := by
  obtain ⟨a1, a2, a3, a4⟩ := all_nice h
  refine ⟨a1, a2, by simp only [PyData.depth]; omega, ?_⟩
  show (textFrom 0 "[" (PyData.shownAll ds) ++ "]").length ≤ _
  have z := textFrom_le (PyData.shownAll ds) 0 "[" a4
  rw [shownAll_len] at z
  rw [strLen_append]
  have m := Nat.mul_le_mul_right (s + 2) hk
  have e1 : ("[" : Str).length = 1 := rfl
  have e2 : ("]" : Str).length = 1 := rfl
  omega
theorem Nz.tuple {n s k : Nat} {ds : List PyData} (h : ∀ d, d ∈ ds → Nz n s d) (hk : ds.length ≤ k) : Nz (n + 1) (k * (s + 2) + 3) (.tuple ds) := by
  obtain ⟨a1, a2, a3, a4⟩ := all_nice h
  refine ⟨a1, a2, by simp only [PyData.depth]; omega, ?_⟩
  show (("(" : Str) ++ Str.join ", " (PyData.shownAll ds) ++ (if (PyData.shownAll ds).length == 1 then ",)" else ")" : String)).length ≤ _
  have m := Nat.mul_le_mul_right (s + 2) hk
  have p := piled_le a4
  rw [shownAll_len] at p
  have j : (Str.join ", " (PyData.shownAll ds)).length ≤ piled (PyData.shownAll ds) := by
    by_cases e : PyData.shownAll ds = []
    · rw [e]; exact Nat.le_refl _
    · have := join_length_add _ e; omega
  have e1 : ("(" : Str).length = 1 := rfl
  rw [strLen_append, strLen_append]
  split
  · have e2 : ((",)" : String) : Str).length = 2 := rfl
    omega
  · have e2 : ((")" : String) : Str).length = 1 := rfl
    omega
/-- whole numbers of any size -/
theorem Nz.of (d : PyData) (n s : Nat) (c : (okD d && (d.showable && (decide (d.depth ≤ n) && decide (d.shown.length ≤ s)))) = true) : Nz n s d := by
  simp only [Bool.and_eq_true, decide_eq_true_eq] at c
  exact ⟨c.1, c.2.1, c.2.2.1, c.2.2.2⟩
/-! ### what == may be asked of -/
structure Ly (n : Nat) (d : PyData) : Prop where
  lay : d.canLay0 = true
  dp : d.depth ≤ n
theorem Ly.shaped {n : Nat} {d : PyData} (h : Ly n d) (hn : n ≤ 64) : SeqAt.shaped d = true := by
  have := h.dp
  simp [SeqAt.shaped, h.lay]
  omega
theorem Ly.mono {n m : Nat} {d : PyData} (h : Ly n d) (hn : n ≤ m) : Ly m d := ⟨h.lay, Nat.le_trans h.dp hn⟩
theorem Ly.name {d : PyData} (h : nameD d) : Ly 0 d := ⟨h.lay.1, by rw [h.lay.2]; exact Nat.le_refl _⟩
theorem Ly.all {n : Nat} : ∀ {ds : List PyData}, (∀ d, d ∈ ds → Ly n d) → PyData.canLayAll0 ds = true ∧ PyData.depthAll ds ≤ n
  | [], _ => ⟨rfl, Nat.zero_le _⟩
  | d :: ds, h => by
    obtain ⟨a1, a2⟩ := Ly.all fun x hx => h x (List.mem_cons_of_mem _ hx)
    have q := h d List.mem_cons_self
    refine ⟨by simp [PyData.canLayAll0, q.lay, a1], ?_⟩
    have := q.dp
    simp only [PyData.depthAll]
    omega
theorem Ly.tuple {n : Nat} {ds : List PyData} (h : ∀ d, d ∈ ds → Ly n d) : Ly (n + 1) (.tuple ds) := by
  obtain ⟨a1, a2⟩ := Ly.all h
  exact ⟨a1, by simp only [PyData.depth]; omega⟩
theorem Ly.list {n : Nat} {ds : List PyData} (h : ∀ d, d ∈ ds → Ly n d) : Ly (n + 1) (.list ds) := by
  obtain ⟨a1, a2⟩ := Ly.all h
  exact ⟨a1, by simp only [PyData.depth]; omega⟩
end VS

namespace VS
open PySem PySem.Spec PyProof.Rows L2
set_option hygiene false
local macro_rules | `(tactic| walk_at "vc") => `(tactic| repeat' (first
      | ((with_reducible apply s_consN); (case e => (first | (dsimp only [backO, wipeO, List.map, setS, getS, O.setP, O.getP, List.set_cons_zero, List.set_cons_succ, List.getElem?_cons_zero, List.getElem?_cons_succ]; first | done | exact rfl) | exact rfl)))
      | with_reducible refine s_nil ?_
      | with_reducible refine d_eqP ?_ ?_ ?_
      | with_reducible refine d_lenP ?_
      | with_reducible refine d_slP0 ?_ ?_
      | with_reducible refine d_slP1 ?_ ?_
      | with_reducible refine d_addP ?_ ?_
      | with_reducible refine d_addP1 ?_ ?_
      | with_reducible refine d_slT0 ?_ ?_
      | with_reducible refine d_slT1 ?_ ?_
      | with_reducible refine d_slL0 ?_ ?_
      | with_reducible refine d_slL1 ?_ ?_
      | with_reducible refine s_set ?_
      | with_reducible refine s_if ?_
      | with_reducible refine s_for ?_
      | with_reducible refine s_ex ?_
      | with_reducible refine s_ret ?_
      | with_reducible refine s_retN ?_
      | with_reducible refine s_pass ?_
      | with_reducible refine s_brk ?_
      | with_reducible refine s_cont ?_
      | with_reducible refine s_put ?_
      | with_reducible refine s_augP ?_
      | with_reducible refine s_par ?_
      | with_reducible refine s_T ?_
      | with_reducible refine s_bin ?_
      | with_reducible refine s_cmp ?_
      | with_reducible refine s_idx ?_
      | with_reducible refine s_int ?_
      | with_reducible refine s_str ?_
      | with_reducible refine s_bl ?_
      | with_reducible refine s_non ?_
      | with_reducible refine s_lst ?_
      | with_reducible refine s_tup ?_
      | with_reducible refine s_dct ?_
      | with_reducible refine s_dnewK ?_
      | with_reducible refine s_dnewT ?_
      | with_reducible refine s_neg ?_
      | with_reducible refine s_chn ?_
      | with_reducible refine s_bop ?_
      | with_reducible refine s_bop1 ?_
      | with_reducible refine s_bop2 ?_
      | with_reducible refine s_nt ?_
      | with_reducible refine s_ife ?_
      | with_reducible refine s_sl ?_
      | with_reducible refine s_isi ?_
      | with_reducible refine s_comp ?_
      | with_reducible refine s_blt ?_
      | with_reducible refine s_mth ?_
      | with_reducible refine s_mmt ?_
      | with_reducible refine s_rng ?_
      | with_reducible refine s_enu ?_
      | with_reducible refine s_zip ?_
      | with_reducible refine s_lzip ?_
      | with_reducible refine s_dof ?_
      | with_reducible refine s_upd ?_
      | with_reducible refine s_rng3 ?_
      | with_reducible refine s_get1 ?_
      | with_reducible refine s_get2 ?_
      | with_reducible refine s_isin ?_
      | with_reducible refine s_fst ?_
      | with_reducible refine s_F0 ?_
      | with_reducible refine s_F1 ?_
      | with_reducible refine s_rev ?_
      | with_reducible refine s_fl ?_
      | with_reducible refine r_onNdD ?_
      | with_reducible refine r_onNdL ?_
      | with_reducible refine s_frz ?_
      | with_reducible refine s_dctT ?_
      | with_reducible refine r_notT ?_
      | with_reducible refine r_notF ?_
      | with_reducible refine r_notB ?_
      | with_reducible refine d_revL ?_
      | with_reducible refine s_L0 ?_
      | with_reducible refine s_L1 ?_
      | with_reducible refine s_H0 ?_
      | with_reducible refine s_H1 ?_
      | with_reducible refine s_C0 ?_
      | with_reducible refine s_P0 ?_
      | with_reducible refine s_P1 ?_
      | with_reducible refine s_O0 ?_
      | with_reducible refine s_O1 ?_
      | with_reducible refine s_Ts0 ?_
      | with_reducible refine s_Ts1 ?_
      | with_reducible refine r_asDd ?_
      | with_reducible refine r_asDl ?_
      | with_reducible refine r_asOo ?_
      | with_reducible refine r_asOp ?_
      | with_reducible refine r_holdD ?_
      | with_reducible refine r_holdP ?_
      | with_reducible refine r_holdO ?_
      | with_reducible refine r_vwD ?_
      | with_reducible refine r_vws0 ?_
      | with_reducible refine r_vws1 ?_
      | with_reducible refine r_stabO ?_
      | with_reducible refine r_stabP ?_
      | with_reducible refine r_stabT ?_
      | with_reducible refine r_idxO ?_
      | with_reducible refine r_itL ?_
      | with_reducible refine r_itT ?_
      | with_reducible refine r_itS ?_
      | with_reducible refine r_itI ?_
      | with_reducible refine r_itV ?_
      | with_reducible refine r_onPl ?_
      | with_reducible refine r_onInt ?_
      | with_reducible refine r_seqL ?_
      | with_reducible refine r_seqT ?_
      | with_reducible refine r_onDat ?_
      | with_reducible refine r_rcvM ?_
      | with_reducible refine d_add ?_
      | with_reducible refine d_sub ?_
      | with_reducible refine d_lt ?_
      | with_reducible refine d_le ?_
      | with_reducible refine d_gt ?_
      | with_reducible refine d_ge ?_
      | with_reducible refine d_inS ?_
      | with_reducible refine d_ninS ?_
      | with_reducible refine d_augA ?_
      | with_reducible refine d_augS ?_
      | with_reducible refine r_mutL ?_
      | with_reducible refine d_eqS ?_
      | with_reducible refine d_neS ?_
      | with_reducible refine d_eqI ?_
      | with_reducible refine d_neI ?_
      | with_reducible refine d_is ?_
      | with_reducible refine d_isn ?_
      | with_reducible refine d_truB ?_
      | with_reducible refine d_truI ?_
      | with_reducible refine d_truL ?_
      | with_reducible refine d_truT ?_
      | with_reducible refine d_truN ?_
      | with_reducible refine d_lenL ?_
      | with_reducible refine d_lenT ?_
      | with_reducible refine d_listL ?_
      | with_reducible refine d_listT ?_
      | with_reducible refine d_tupL ?_
      | with_reducible refine d_tupT ?_
      | with_reducible refine d_abs ?_
      | with_reducible refine d_intI ?_
      | with_reducible refine d_intB ?_
      | with_reducible refine d_min ?_
      | with_reducible refine d_max ?_
      | with_reducible refine d_slL ?_
      | with_reducible refine d_slX ?_
      | with_reducible refine d_slT ?_
      | with_reducible refine b_T ?_
      | with_reducible refine b_F ?_
      | with_reducible refine b_TF ?_
      | with_reducible refine b_FF ?_
      | with_reducible refine s_tp ?_
      | with_reducible refine s_tnil ?_
      | with_reducible refine s_tcons ?_
      | ((with_reducible apply s_varD); (case h1 => exact rfl))
      | ((with_reducible apply s_varN); (case h1 => exact rfl))
      | ((with_reducible apply s_mvD); (case h1 => exact rfl))
      | ((with_reducible apply s_mvL); (case h1 => with_reducible exact rfl))
      | ((with_reducible apply s_mvN); (case h1 => exact rfl))
      | ((with_reducible apply s_nm); (case h1 => (simp only [setS_len, backO_len, wipeO_len, List.length_cons, List.length_nil, List.length_set]; decide)))
      | ((with_reducible apply r_vwP); (case e1 => exact rfl); (case e => first | exact flat_dL _ | exact rfl))
      | ((with_reducible apply r_idxP); (case e => exact rfl))
      | ((with_reducible apply r_opt); (case e => exact rfl))
      | ((with_reducible apply r_idxC); (case e1 => (first | exact pk_cells _ | exact pk_at _ | exact pk_rest _ | exact rfl)); (case e2 => exact rfl))
      | ((with_reducible apply r_idxN); (case e1 => (first | exact pk_cells _ | exact pk_at _ | exact pk_rest _ | exact rfl)); (case e2 => exact rfl))
      | ((with_reducible apply s_C1); (case h1 => exact trivial))
      | ((with_reducible apply s_C2); (case h1 => exact rfl))
      | ((with_reducible apply r_asDn); (case e => first | exact toD_dL _ | with_reducible exact toD_two _ _ | ((repeat' (first | with_reducible exact toD_dL _ | assumption | with_reducible exact toD_dat _ | with_reducible exact toDL_nil | with_reducible apply toD_lst | with_reducible apply toD_tupO | with_reducible apply toD_dk | with_reducible apply toD_dt | with_reducible apply toDL_cons | exact rfl)); done) | exact rfl))
      | ((with_reducible apply r_asDp); (case e1 => exact rfl); (case e => first | exact toD_dL _ | exact rfl))
      | ((with_reducible apply r_rcvW); (case e => exact rfl))
      | ((with_reducible apply s_call); (case h1 => assumption))
      | with_reducible refine d_mul ?_ ?_
      | with_reducible refine d_mod ?_ ?_
      | with_reducible refine d_div ?_ ?_
      | with_reducible refine d_pow ?_ ?_
      | with_reducible refine d_addS ?_ ?_
      | with_reducible refine d_addL ?_ ?_
      | with_reducible refine d_addT ?_ ?_
      | with_reducible refine d_mulS ?_ ?_
      | with_reducible refine d_mulL ?_ ?_
      | with_reducible refine d_mulT ?_ ?_
      | with_reducible refine d_truS ?_ ?_
      | with_reducible refine d_lenS ?_ ?_
      | with_reducible refine d_slS ?_ ?_
      | with_reducible refine d_rng1 ?_ ?_
      | with_reducible refine d_rng2 ?_ ?_
      | with_reducible refine d_app ?_ ?_
      | with_reducible refine d_appL ?_ ?_
      | with_reducible refine d_repr ?_ ?_
      | with_reducible refine d_fmtS ?_ ?_
      | with_reducible refine r_lz ?_ ?_
      | with_reducible refine r_dn ?_ ?_
      | with_reducible refine r_zipL ?_ ?_
      | with_reducible refine r_zipT ?_ ?_
      | with_reducible refine b_ite (fun _ => ?_) (fun _ => ?_)
      | with_reducible refine b_iteN (fun _ => ?_) (fun _ => ?_)
      | with_reducible refine b_iteF (fun _ => ?_) (fun _ => ?_)
      | with_reducible refine b_iteNF (fun _ => ?_) (fun _ => ?_)
      | refine r_stabL rfl ?_
      | refine r_stabR rfl ?_
      | with_reducible refine p_cells ?_
      | with_reducible refine p_at ?_
      | with_reducible refine p_rest ?_
      | refine s_C1p (by exact rfl) (by assumption) ?_
      | refine c_draw (by exact rfl) (by assumption) ?_ (fun _ _ _ _ _ => ?_)
      | with_reducible refine d_eqE ?_
      | with_reducible refine d_neE ?_
      | with_reducible refine d_in ?_ ?_
      | with_reducible refine d_nin ?_ ?_
      | with_reducible refine d_eq ?_ ?_
      | with_reducible refine d_ne ?_ ?_
      | with_reducible refine b_anyN (fun _ => ?_) (fun _ => ?_)
      | with_reducible refine b_anyNF (fun _ => ?_) (fun _ => ?_)
      | with_reducible refine b_any (fun _ => ?_) (fun _ => ?_)
      | with_reducible refine d_popL ?_
      | ((with_reducible apply r_par); (case n1 => decide); (case n2 => (simp only [setS_len, backO_len, wipeO_len, List.length_cons, List.length_nil, List.length_set]; decide)); (case n3 => (simp only [setS_len, backO_len, wipeO_len, List.length_cons, List.length_nil, List.length_set]; decide)))
      | refine c_names (by exact rfl) (by assumption) ?_ (fun _ _ _ _ _ _ => ?_)
      | refine c_pen (fun _ _ => ?_)
      | with_reducible refine b_anyN (fun _ => ?_) (fun _ => ?_)
      | with_reducible refine b_anyNF (fun _ => ?_) (fun _ => ?_)
      | with_reducible refine b_anyF (fun _ => ?_) (fun _ => ?_)
      | ((with_reducible apply r_isi (b := true)); (case e1 => exact rfl); (case e2 => exact rfl))
      | ((with_reducible apply r_isi (b := false)); (case e1 => exact rfl); (case e2 => exact rfl))
      | ((with_reducible apply s_con); (case h1 => assumption))
      | with_reducible refine d_allM ?_
      | with_reducible refine d_anyM ?_
      | ((with_reducible apply r_itO); (case e => first | exact toD_dL _ | ((repeat' (first | with_reducible exact toD_dL _ | assumption | with_reducible exact toD_dat _ | with_reducible exact toDL_nil | with_reducible apply toD_lst | with_reducible apply toD_tupO | with_reducible apply toD_dk | with_reducible apply toD_dt | with_reducible apply toDL_cons | exact rfl)); done) | exact rfl))
      | ((with_reducible apply r_toDL); (case e => first | ((repeat' (first | with_reducible exact toD_dL _ | assumption | with_reducible exact toD_dat _ | with_reducible exact toDL_nil | with_reducible apply toD_lst | with_reducible apply toD_tupO | with_reducible apply toD_dk | with_reducible apply toD_dt | with_reducible apply toDL_cons | exact rfl)); done) | exact toDL_datL (datL_map _)))
      | ((with_reducible apply d_ixT); (case e => exact rfl))
      | ((with_reducible apply d_ixL); (case e => exact rfl))
      | ((with_reducible apply d_appO); (case e => exact rfl))
      | ((with_reducible apply r_itP); (case e1 => exact rfl))
      | with_reducible refine c_fn1 ?_ ?_
      | with_reducible refine c_fn2 ?_ ?_
      | ((with_reducible apply r_dcvK2); (case e => exact rfl))
      | ((with_reducible apply r_dcvT2); (case e => exact rfl))
      | ((with_reducible apply r_dcvK); (case e => exact rfl))
      | ((with_reducible apply r_dcvT); (case e => exact rfl))
      | with_reducible refine r_inT ?_
      | with_reducible refine r_inF ?_
      | with_reducible refine r_ninT ?_
      | with_reducible refine r_ninF ?_
      | refine c_volume (by exact rfl) (by assumption) ?_ (fun _ _ _ _ => ?_)
      | fail))
/-! ## what the laws have in common -/
def n_lpen : List Str := ["_law_script"]
def b_lpen : List CS := [
  .ret (.dct [(.str "cells"), (.blt .list_ [(.sl (.var 0) [] [(.int 63)])]), (.str "at"), (.int 0), (.str "rest"), (.int 0)])]
def n_ldraw : List Str := ["_law_pen_here", "_law_many", "_law_at", "_law_cell", "_law_mixed", "_law_digit", "_law_great"]
def n_lnames : List Str := ["_law_pen_here", "_law_many", "_law_letters", "_law_base", "_law_spot", "_law_first", "_law_stride", "_law_found", "_law_k", "_law_lone", "_law_mark", "_law_word"]
def penS : FS where
  io := [false]
  pre := fun os => ∃ ns : List Int, os = [.dat (.dict [(.none, .list (ns.map PyData.int))])]
  post := fun os r os' => Pn 0 r
theorem cut_map {α β : Type} (f : α → β) (l : List α) (lo hi : Option Int) : cutL (l.map f) lo hi = (cutL l lo hi).map f := by
  unfold cutL
  rw [List.length_map, List.map_take, List.map_drop]
theorem pen_ok {G : Gm} : penS.Ok G b_lpen 1 0 := by
  rintro os ho ⟨ns, rfl⟩
  unfold b_lpen
  show evB G _ [.dat (.dict [(.none, .list (ns.map PyData.int))])] _
  walk_at "vc"
  refine ⟨by decide +kernel, ?_⟩
  walk_at "vc"
  rw [cut_map]
  exact ⟨cutL ns none (some 63), 0, 0, rfl, by decide, by decide, by decide⟩
theorem c_pen {ρ : Env} {ns : List Int} {Q : O → Env → Prop} (h : ∀ o, Pn 0 o → Q o ρ) : callQ penS ρ [.inl (.dict [(.none, .list (ns.map PyData.int))])] Q :=
  ⟨rfl, by simp [iosA], fun i hi => by simp [iosA] at hi, ⟨ns, rfl⟩, fun r os z l => by
    match os, l with
    | [o], _ => exact h r z⟩
theorem c_names {ρ : Env} {i : Nat} {m : Int} {o : O} {b : Nat} {Q : O → Env → Prop} (e : ρ[i]? = some o) (p : Pn b o) (c : b + 12 ≤ 1000000 ∧ 0 ≤ m ∧ m ≤ 1000) (h : ∀ ds o', (ds.length : Int) = m → (∀ d, d ∈ ds → nameD d) → (m ≤ 65 → ds.Nodup) → Pn (b + 12) o' → Q (dL ds) (ρ.set i o')) : callQ namesS ρ [.inr i, .inl (.int m)] Q := by
  have g : ρ[i]?.getD .un = o := by rw [e]; rfl
  refine ⟨rfl, by simp [iosA], fun j hj => ?_, ?_, fun r os z _ => ?_⟩
  · have ej : j = i := by simpa [iosA] using hj
    rw [ej]
    exact lt_of_get e
  · refine ⟨o, m, b, ?_, p, c⟩
    show [ρ[i]?.getD .un, .dat (.int m)] = _
    rw [g]
  · obtain ⟨o1, m1, ds, o', e1, rfl, h1, h2, hn, rfl, h3⟩ := z
    have e1 : [ρ[i]?.getD .un, .dat (.int m)] = [o1, .dat (.int m1)] := e1
    rw [g] at e1
    cases e1
    exact h ds o' h1 h2 hn (h3 b p)
/-- a def that changes nothing and is a function of its arguments -/
def fn1S (pre : PyData → Prop) (f : PyData → PyData) : FS where
  io := [false]
  pre := fun os => ∃ d, os = [.dat d] ∧ pre d
  post := fun os r os' => ∀ d, os = [.dat d] → r = .dat (f d)
def fn2S (pre : PyData → PyData → Prop) (f : PyData → PyData → PyData) : FS where
  io := [false, false]
  pre := fun os => ∃ d e, os = [.dat d, .dat e] ∧ pre d e
  post := fun os r os' => ∀ d e, os = [.dat d, .dat e] → r = .dat (f d e)
theorem c_fn1 {ρ : Env} {pre : PyData → Prop} {f : PyData → PyData} {d : PyData} {Q : O → Env → Prop} (hp : pre d) (h : Q (.dat (f d)) ρ) : callQ (fn1S pre f) ρ [.inl d] Q :=
  ⟨rfl, by simp [iosA], fun i hi => by simp [iosA] at hi, ⟨d, rfl, hp⟩, fun r os z l => by
    have e := z d rfl
    subst e
    match os, l with
    | [_], _ => exact h⟩
theorem c_fn2 {ρ : Env} {pre : PyData → PyData → Prop} {f : PyData → PyData → PyData} {d e : PyData} {Q : O → Env → Prop} (hp : pre d e) (h : Q (.dat (f d e)) ρ) : callQ (fn2S pre f) ρ [.inl d, .inl e] Q :=
  ⟨rfl, by simp [iosA], fun i hi => by simp [iosA] at hi, ⟨d, e, rfl, hp⟩, fun r os z l => by
    have q := z d e rfl
    subst q
    match os, l with
    | [_, _], _ => exact h⟩
theorem p_fn1 {f : PyData → PyData} {d r : PyData} (e : f d = r) : ∀ d', [O.dat d] = [.dat d'] → O.dat r = .dat (f d') := fun d' e' => by
  cases e'
  rw [e]
theorem p_fn2 {f : PyData → PyData → PyData} {d e r : PyData} (q : f d e = r) : ∀ d' e', [O.dat d, O.dat e] = [.dat d', .dat e'] → O.dat r = .dat (f d' e') := fun d' e2 e' => by
  cases e'
  rw [q]
/-- texts as data -/
def sD (xs : List Str) : List PyData := xs.map PyData.str
theorem sD_len (xs : List Str) : (sD xs).length = xs.length := List.length_map ..
theorem sD_ent : ∀ xs : List Str, (sD xs).any isEnt = false
  | [] => rfl
  | x :: xs => by
    show (isEnt (.str x) || (sD xs).any isEnt) = false
    rw [sD_ent xs]
    rfl
theorem eqvAll_sD : ∀ xs ys : List Str, PyData.eqvAll (sD xs) (sD ys) = decide (xs = ys)
  | [], [] => rfl
  | [], _ :: _ => rfl
  | _ :: _, [] => rfl
  | x :: xs, y :: ys => by
    show (PyData.eqv (.str x) (.str y) && PyData.eqvAll (sD xs) (sD ys)) = _
    rw [eqvAll_sD xs ys, eqv_str]
    by_cases h : x = y
    · by_cases g : xs = ys
      · subst h; subst g; simp
      · simp [h, g]
    · simp [h]
theorem names_sD : ∀ {ds : List PyData}, (∀ d, d ∈ ds → nameD d) → ∃ xs, ds = sD xs
  | [], _ => ⟨[], rfl⟩
  | d :: ds, h => by
    obtain ⟨xs, rfl⟩ := names_sD fun x hx => h x (List.mem_cons_of_mem _ hx)
    obtain ⟨x, rfl, _⟩ := h d List.mem_cons_self
    exact ⟨x :: xs, rfl⟩
def lawS : FS where
  io := [false]
  pre := fun os => ∃ ns : List Int, os = [.dat (.dict [(.none, .list (ns.map PyData.int))])]
  post := fun os r os' => r = .dat (.bool true)
theorem lawS_ok : LawS lawS 63 := ⟨rfl, fun ns _ => ⟨ns, rfl⟩, fun ns r os z => z⟩
end VS

namespace VS
open PySem PySem.Spec PyProof.Rows L2
/-! ## volumes as trees -/
mutual
inductive Tr where
  | no
  | fl (x : Str)
  | dr (l : Str) (es : Es)
inductive Es where
  | nil
  | cons (s : Str) (t : Tr) (r : Es)
end
mutual
def Tr.d : Tr → PyData
  | .no => .none
  | .fl x => .str x
  | .dr l es => .tuple [.str l, .tuple es.ds]
def Es.ds : Es → List PyData
  | .nil => []
  | .cons s t r => .tuple [.str s, t.d] :: r.ds
end
mutual
def Tr.dep : Tr → Nat
  | .no => 0
  | .fl _ => 0
  | .dr _ es => es.dep + 1
def Es.dep : Es → Nat
  | .nil => 0
  | .cons _ t r => max t.dep r.dep
end
def Es.len : Es → Nat
  | .nil => 0
  | .cons _ _ r => r.len + 1
def nmS (x : Str) : Prop := 1 ≤ x.length ∧ x.length ≤ 8 ∧ Low x
mutual
/-- names of one to eight letters, one to four slots -/
def Tr.ok : Tr → Prop
  | .no => True
  | .fl x => nmS x
  | .dr l es => nmS l ∧ 1 ≤ es.len ∧ es.len ≤ 4 ∧ es.ok
def Es.ok : Es → Prop
  | .nil => True
  | .cons s t r => nmS s ∧ t.ok ∧ r.ok
end
def Tr.isDr : Tr → Prop
  | .dr _ _ => True
  | _ => False
def Es.of : List Str → List Tr → Es
  | s :: ss, t :: ts => .cons s t (Es.of ss ts)
  | _, _ => .nil
theorem Es.of_ds : ∀ (ss : List Str) (ts : List Tr), (Es.of ss ts).ds = zipD (sD ss) (ts.map Tr.d)
  | [], _ => by cases ‹List Tr› <;> rfl
  | _ :: _, [] => rfl
  | s :: ss, t :: ts => by
    show PyData.tuple [.str s, t.d] :: (Es.of ss ts).ds = _
    rw [Es.of_ds ss ts]
    rfl
theorem Es.of_len : ∀ {ss : List Str} {ts : List Tr}, ss.length = ts.length → (Es.of ss ts).len = ss.length
  | [], [], _ => rfl
  | [], _ :: _, h => by cases h
  | _ :: _, [], h => by cases h
  | s :: ss, t :: ts, h => by
    show (Es.of ss ts).len + 1 = _
    rw [Es.of_len (by simpa using h)]
    rfl
theorem Es.of_dep {n : Nat} : ∀ {ss : List Str} {ts : List Tr}, (∀ t, t ∈ ts → t.dep ≤ n) → (Es.of ss ts).dep ≤ n
  | [], ts, _ => by
    have e : Es.of [] ts = .nil := by cases ts <;> rfl
    rw [e]
    exact Nat.zero_le _
  | _ :: _, [], _ => Nat.zero_le _
  | s :: ss, t :: ts, h => by
    show max t.dep (Es.of ss ts).dep ≤ n
    exact Nat.max_le.mpr ⟨h t List.mem_cons_self, Es.of_dep fun x hx => h x (List.mem_cons_of_mem _ hx)⟩
theorem Es.of_ok : ∀ {ss : List Str} {ts : List Tr}, (∀ s, s ∈ ss → nmS s) → (∀ t, t ∈ ts → t.ok) → (Es.of ss ts).ok
  | [], ts, _, _ => by
    have e : Es.of [] ts = .nil := by cases ts <;> rfl
    rw [e]
    exact trivial
  | _ :: _, [], _, _ => trivial
  | s :: ss, t :: ts, h, k => ⟨h s List.mem_cons_self, k t List.mem_cons_self, Es.of_ok (fun x hx => h x (List.mem_cons_of_mem _ hx)) fun x hx => k x (List.mem_cons_of_mem _ hx)⟩
theorem nameD.nm {d : PyData} (h : nameD d) : ∃ x, d = .str x ∧ nmS x := by
  obtain ⟨x, e, h⟩ := h
  exact ⟨x, e, h⟩
theorem names_nm : ∀ {ds : List PyData}, (∀ d, d ∈ ds → nameD d) → ∃ xs, ds = sD xs ∧ ∀ x, x ∈ xs → nmS x
  | [], _ => ⟨[], rfl, fun _ z => nomatch z⟩
  | d :: ds, h => by
    obtain ⟨xs, rfl, hx⟩ := names_nm fun x hx => h x (List.mem_cons_of_mem _ hx)
    obtain ⟨x, rfl, w⟩ := h d List.mem_cons_self
    refine ⟨x :: xs, rfl, fun y hy => ?_⟩
    rcases List.mem_cons.mp hy with rfl | hy
    · exact w
    · exact hx y hy
/-! ### a row of the shelf -/
def RowOk (lo hi : Nat) (row : List PyData) : Prop := 1 ≤ row.length ∧ row.length ≤ 4 ∧ ∀ x, x ∈ row → x = .none ∨ nameD x ∨ ∃ j : Nat, x = .int j ∧ lo < j ∧ j < hi
def ShelfOk (hi : Nat) (os : List O) : Prop := ∀ r, r < os.length → ∃ row, os[r]? = some (dL row) ∧ RowOk r hi row
def HolesOk (os : List O) (hs : List PyData) : Prop := ∀ h, h ∈ hs → ∃ r a : Nat, h = .tuple [.int r, .int a] ∧ ∃ row, os[r]? = some (dL row) ∧ a < row.length
theorem RowOk.mono {lo hi hi' : Nat} {row : List PyData} (h : RowOk lo hi row) (k : hi ≤ hi') : RowOk lo hi' row :=
  ⟨h.1, h.2.1, fun x hx => by
    rcases h.2.2 x hx with e | e | ⟨j, e, h1, h2⟩
    · exact .inl e
    · exact .inr (.inl e)
    · exact .inr (.inr ⟨j, e, h1, by omega⟩)⟩
theorem RowOk.put {lo hi a : Nat} {row : List PyData} {x : PyData} (h : RowOk lo hi row) (k : x = .none ∨ nameD x ∨ ∃ j : Nat, x = .int j ∧ lo < j ∧ j < hi) : RowOk lo hi (row.set a x) :=
  ⟨by rw [List.length_set]; exact h.1, by rw [List.length_set]; exact h.2.1, fun y hy => by
    rcases List.mem_or_eq_of_mem_set hy with z | z
    · exact h.2.2 y z
    · rw [z]; exact k⟩
theorem ShelfOk.put {hi r a : Nat} {os : List O} {row : List PyData} {x : PyData} (h : ShelfOk hi os) (e : os[r]? = some (dL row)) (k : x = .none ∨ nameD x ∨ ∃ j : Nat, x = .int j ∧ r < j ∧ j < hi) : ShelfOk hi (os.set r (dL (row.set a x))) := by
  intro q hq
  rw [List.length_set] at hq
  by_cases c : r = q
  · subst c
    obtain ⟨row', e', w⟩ := h r hq
    rw [e] at e'
    have er : row = row' := by
      have z := (O.nd.inj (Option.some.inj e')).2
      exact List.map_inj_right (fun a b w => O.dat.inj w) |>.mp z
    subst er
    exact ⟨_, List.getElem?_set_self hq, w.put k⟩
  · rw [List.getElem?_set_ne c]
    exact h q hq
theorem HolesOk.put {r a : Nat} {os : List O} {hs : List PyData} {row : List PyData} {x : PyData} (h : HolesOk os hs) (e : os[r]? = some (dL row)) : HolesOk (os.set r (dL (row.set a x))) hs := by
  intro q hq
  obtain ⟨r', a', rfl, row', e', l⟩ := h q hq
  by_cases c : r = r'
  · subst c
    rw [e] at e'
    have er : row = row' := by
      have z := (O.nd.inj (Option.some.inj e')).2
      exact List.map_inj_right (fun a b w => O.dat.inj w) |>.mp z
    subst er
    exact ⟨r, a', rfl, _, List.getElem?_set_self (lt_of_get e), by rw [List.length_set]; exact l⟩
  · exact ⟨r', a', rfl, row', by rw [List.getElem?_set_ne c]; exact e', l⟩
theorem HolesOk.sub {os : List O} {hs hs' : List PyData} (h : HolesOk os hs) (k : ∀ x, x ∈ hs' → x ∈ hs) : HolesOk os hs' := fun x hx => h x (k x hx)
theorem HolesOk.more {os : List O} {hs : List PyData} {z : O} (h : HolesOk os hs) : HolesOk (os ++ [z]) hs := fun x hx => by
  obtain ⟨r, a, rfl, row, e, l⟩ := h x hx
  exact ⟨r, a, rfl, row, by rw [List.getElem?_append_left (lt_of_get e)]; exact e, l⟩
theorem ShelfOk.more {hi : Nat} {os : List O} {row : List PyData} (h : ShelfOk hi os) (k : RowOk os.length hi row) : ShelfOk hi (os ++ [dL row]) := by
  intro r hr
  rw [List.length_append] at hr
  by_cases c : r < os.length
  · rw [List.getElem?_append_left c]
    exact h r c
  · have e : r = os.length := by simp at hr; omega
    subst e
    exact ⟨row, by simp, k⟩
theorem ShelfOk.mono {hi hi' : Nat} {os : List O} (h : ShelfOk hi os) (k : hi ≤ hi') : ShelfOk hi' os := fun r hr => by
  obtain ⟨row, e, w⟩ := h r hr
  exact ⟨row, e, w.mono k⟩
theorem getS_one {ρ : Env} {i n : Nat} {k : NK} {os : List O} {o : O} (h : ρ[i]? = some (.nd k os)) (e : os[n]? = some o) : getS ρ i [n] = some o := by
  unfold getS
  rw [h]
  show O.getP (.nd k os) [n] = _
  unfold O.getP
  dsimp only
  rw [e]
  rfl
theorem setS_one {ρ : Env} {i n : Nat} {k : NK} {os : List O} {o z : O} (h : ρ[i]? = some (.nd k os)) (e : os[n]? = some o) : setS ρ i [n] z = ρ.set i (.nd k (os.set n z)) := by
  rw [setS_eq h]
  congr 1
  unfold O.setP
  dsimp only
  rw [e]
  rfl
/-! ### how many directories -/
mutual
/-- a weight for each file and each directory -/
def Tr.ms (a b : Str → Nat) : Tr → Nat
  | .no => 0
  | .fl x => a x
  | .dr l es => es.ms a b + b l
def Es.ms (a b : Str → Nat) : Es → Nat
  | .nil => 0
  | .cons _ t r => t.ms a b + r.ms a b
end
abbrev Tr.nd (t : Tr) : Nat := t.ms (fun _ => 0) (fun _ => 1)
abbrev Es.nd (es : Es) : Nat := es.ms (fun _ => 0) (fun _ => 1)
def isX (x y : Str) : Nat := if y = x then 1 else 0
/-- how often a label stands in it -/
abbrev Tr.cl (x : Str) (t : Tr) : Nat := t.ms (isX x) (isX x)
abbrev Es.cl (x : Str) (es : Es) : Nat := es.ms (isX x) (isX x)
theorem Es.of_ms {a b : Str → Nat} : ∀ {ss : List Str} {ts : List Tr}, ss.length = ts.length → (Es.of ss ts).ms a b = (ts.map (Tr.ms a b)).sum
  | [], [], _ => rfl
  | [], _ :: _, h => by cases h
  | _ :: _, [], h => by cases h
  | s :: ss, t :: ts, h => by
    show t.ms a b + (Es.of ss ts).ms a b = _
    rw [Es.of_ms (by simpa using h)]
    rfl
/-! ### slots of different names -/
def Es.names : Es → List Str
  | .nil => []
  | .cons s _ r => s :: r.names
mutual
def Tr.sd : Tr → Prop
  | .no => True
  | .fl _ => True
  | .dr _ es => es.names.Nodup ∧ es.sd
def Es.sd : Es → Prop
  | .nil => True
  | .cons _ t r => t.sd ∧ r.sd
end
theorem Es.of_names : ∀ {ss : List Str} {ts : List Tr}, ss.length = ts.length → (Es.of ss ts).names = ss
  | [], [], _ => rfl
  | [], _ :: _, h => by cases h
  | _ :: _, [], h => by cases h
  | s :: ss, t :: ts, h => by
    show s :: (Es.of ss ts).names = _
    rw [Es.of_names (by simpa using h)]
theorem Es.of_sd : ∀ {ss : List Str} {ts : List Tr}, (∀ t, t ∈ ts → t.sd) → (Es.of ss ts).sd
  | [], ts, _ => by
    have e : Es.of [] ts = .nil := by cases ts <;> rfl
    rw [e]
    exact trivial
  | _ :: _, [], _ => trivial
  | s :: ss, t :: ts, k => ⟨k t List.mem_cons_self, Es.of_sd fun x hx => k x (List.mem_cons_of_mem _ hx)⟩
theorem sD_nodup {xs : List Str} (h : (sD xs).Nodup) : xs.Nodup := by
  have h := List.pairwise_map.mp h
  exact List.Pairwise.imp (fun {a b} ne e => ne (by rw [e])) h
def sumN (f : Nat → Nat) : Nat → Nat
  | 0 => 0
  | n + 1 => sumN f n + f n
theorem sumN_congr {f g : Nat → Nat} : ∀ {n : Nat}, (∀ k, k < n → f k = g k) → sumN f n = sumN g n
  | 0, _ => rfl
  | n + 1, h => by
    show sumN f n + f n = sumN g n + g n
    rw [sumN_congr fun k hk => h k (by omega), h n (by omega)]
theorem sumN_le {f g : Nat → Nat} : ∀ {n : Nat}, (∀ k, k < n → f k ≤ g k) → sumN f n ≤ sumN g n
  | 0, _ => Nat.le_refl _
  | n + 1, h => Nat.add_le_add (sumN_le fun k hk => h k (by omega)) (h n (by omega))
theorem sumN_add {f g : Nat → Nat} : ∀ n : Nat, sumN (fun k => f k + g k) n = sumN f n + sumN g n
  | 0 => rfl
  | n + 1 => by
    show sumN (fun k => f k + g k) n + (f n + g n) = sumN f n + f n + (sumN g n + g n)
    rw [sumN_add n]
    omega
theorem sumN_zero : ∀ n : Nat, sumN (fun _ => 0) n = 0
  | 0 => rfl
  | n + 1 => sumN_zero n
theorem sumN_ones : ∀ n : Nat, sumN (fun _ => 1) n = n
  | 0 => rfl
  | n + 1 => by
    show sumN (fun _ => 1) n + 1 = n + 1
    rw [sumN_ones n]
theorem sumN_mulR {f : Nat → Nat} {c : Nat} : ∀ n : Nat, sumN (fun k => f k * c) n = sumN f n * c
  | 0 => by simp [sumN]
  | n + 1 => by
    show sumN (fun k => f k * c) n + f n * c = (sumN f n + f n) * c
    rw [sumN_mulR n, Nat.add_mul]
theorem sumN_swap {f : Nat → Nat → Nat} {m : Nat} : ∀ n : Nat, sumN (fun j => sumN (fun q => f j q) m) n = sumN (fun q => sumN (fun j => f j q) n) m
  | 0 => (sumN_zero m).symm
  | n + 1 => by
    show sumN (fun j => sumN (fun q => f j q) m) n + sumN (fun q => f n q) m = sumN (fun q => sumN (fun j => f j q) n + f n q) m
    rw [sumN_swap n, sumN_add]
theorem sumN_one {w : Nat → Nat} {q0 : Nat} : ∀ {n : Nat}, q0 < n → sumN (fun q => (if q = q0 then 1 else 0) * w q) n = w q0
  | 0, h => absurd h (Nat.not_lt_zero _)
  | n + 1, h => by
    show sumN (fun q => (if q = q0 then 1 else 0) * w q) n + (if n = q0 then 1 else 0) * w n = w q0
    by_cases c : n = q0
    · have z : sumN (fun q => (if q = q0 then 1 else 0) * w q) n = 0 := (sumN_congr (g := fun _ => 0) fun k hk => by rw [if_neg (by omega), Nat.zero_mul]).trans (sumN_zero n)
      rw [z, if_pos c, c]
      omega
    · rw [if_neg c, sumN_one (by omega)]
      omega
theorem sumN_list {f : O → Nat} : ∀ l : List O, sumN (fun k => f (l[k]?.getD .un)) l.length = (l.map f).sum := by
  intro l
  have go : ∀ n, n ≤ l.length → sumN (fun k => f (l[k]?.getD .un)) n = ((l.take n).map f).sum := by
    intro n
    induction n with
    | zero => intro _; rfl
    | succ n ih =>
      intro h
      have lt : n < l.length := h
      show sumN _ n + f (l[n]?.getD .un) = _
      rw [ih (by omega), take_snoc (List.getElem?_eq_getElem lt), List.map_append, List.sum_append, List.getElem?_eq_getElem lt]
      simp
  have z := go l.length (Nat.le_refl _)
  rw [List.take_length] at z
  exact z
/-! ### who stands where how often -/
def isI (q : Nat) (x : PyData) : Bool := match x with
  | .int i => decide (i = q)
  | _ => false
def cntR (q : Nat) (row : List PyData) : Nat := row.countP (isI q)
def datI (q : Nat) (o : O) : Bool := match o with
  | .dat d => isI q d
  | _ => false
def cntO (q : Nat) (o : O) : Nat := match o with
  | .nd _ vs => vs.countP (datI q)
  | _ => 0
theorem cntO_dL (q : Nat) (row : List PyData) : cntO q (dL row) = cntR q row := by
  show (row.map O.dat).countP (datI q) = _
  rw [List.countP_map]
  rfl
def occ (q : Nat) (os : List O) : Nat := (os.map (cntO q)).sum
theorem occ_app {q : Nat} {os : List O} {o : O} : occ q (os ++ [o]) = occ q os + cntO q o := by
  unfold occ
  rw [List.map_append, List.sum_append]
  simp
theorem occ_set {q : Nat} : ∀ {os : List O} {r : Nat} {o z : O}, os[r]? = some o → occ q (os.set r z) + cntO q o = occ q os + cntO q z
  | [], _, _, _, h => by simp at h
  | u :: os, 0, o, z, h => by
    have e : u = o := by simpa using h
    subst e
    show cntO q z + occ q os + cntO q u = cntO q u + occ q os + cntO q z
    omega
  | u :: os, r + 1, o, z, h => by
    have ih := occ_set (q := q) (os := os) (r := r) (z := z) (by simpa using h)
    show cntO q u + occ q (os.set r z) + cntO q o = cntO q u + occ q os + cntO q z
    omega
theorem cntR_set {q : Nat} {x : PyData} : ∀ (row : List PyData) (a : Nat), cntR q (row.set a x) ≤ cntR q row + (if isI q x = true then 1 else 0)
  | [], _ => Nat.zero_le _
  | y :: row, 0 => by
    show cntR q (x :: row) ≤ cntR q (y :: row) + _
    unfold cntR
    rw [List.countP_cons, List.countP_cons]
    omega
  | y :: row, a + 1 => by
    have ih := cntR_set (q := q) (x := x) row a
    show cntR q (y :: row.set a x) ≤ cntR q (y :: row) + _
    unfold cntR at ih ⊢
    rw [List.countP_cons, List.countP_cons]
    omega
theorem occ_put {q r a : Nat} {os : List O} {row : List PyData} {x : PyData} (e : os[r]? = some (dL row)) : occ q (os.set r (dL (row.set a x))) ≤ occ q os + (if isI q x = true then 1 else 0) := by
  have z := occ_set (q := q) (z := dL (row.set a x)) e
  rw [cntO_dL, cntO_dL] at z
  have y := cntR_set (q := q) (x := x) row a
  omega
theorem cntR_zero {q lo hi : Nat} {row : List PyData} (h : RowOk lo hi row) (k : q ≤ lo ∨ hi ≤ q) : cntR q row = 0 := by
  unfold cntR
  rw [List.countP_eq_zero]
  intro x hx z
  rcases h.2.2 x hx with e | ⟨y, e, _⟩ | ⟨j, e, h1, h2⟩
  · rw [e] at z; cases z
  · rw [e] at z; cases z
  · rw [e] at z
    have z2 : (j : Int) = q := of_decide_eq_true z
    omega
theorem sum_all0 : ∀ {l : List Nat}, (∀ x, x ∈ l → x = 0) → l.sum = 0
  | [], _ => rfl
  | x :: l, h => by
    show x + l.sum = 0
    rw [h x List.mem_cons_self, sum_all0 fun y hy => h y (List.mem_cons_of_mem _ hy)]
theorem occ_zero {q hi : Nat} {os : List O} (h : ShelfOk hi os) (k : q = 0 ∨ hi ≤ q) : occ q os = 0 := by
  unfold occ
  refine sum_all0 fun x hx => ?_
  obtain ⟨o, ho, rfl⟩ := List.mem_map.mp hx
  obtain ⟨r, hr⟩ := List.mem_iff_getElem?.mp ho
  obtain ⟨row, e, w⟩ := h r (lt_of_get hr)
  rw [hr] at e
  cases e
  rw [cntO_dL]
  exact cntR_zero w (by omega)
theorem sum_le {α : Type} {f : α → Nat} {c : Nat} : ∀ {l : List α}, (∀ a, a ∈ l → f a ≤ c) → (l.map f).sum ≤ l.length * c
  | [], _ => Nat.zero_le _
  | a :: l, h => by
    have ih := sum_le (f := f) fun x hx => h x (List.mem_cons_of_mem _ hx)
    have e := h a List.mem_cons_self
    rw [List.map_cons, List.sum_cons, List.length_cons, Nat.succ_mul]
    omega
/-! ### the weights of the texts that stand there -/
def strW (a : Str → Nat) (x : PyData) : Nat := match x with
  | .str y => a y
  | _ => 0
def sumS (a : Str → Nat) (row : List PyData) : Nat := (row.map (strW a)).sum
theorem sumS_app {a : Str → Nat} (xs ys : List PyData) : sumS a (xs ++ ys) = sumS a xs + sumS a ys := by
  unfold sumS
  rw [List.map_append, List.sum_append]
def datW (a : Str → Nat) (o : O) : Nat := match o with
  | .dat d => strW a d
  | _ => 0
def sumO (a : Str → Nat) (o : O) : Nat := match o with
  | .nd _ vs => (vs.map (datW a)).sum
  | _ => 0
theorem sumO_dL (a : Str → Nat) (row : List PyData) : sumO a (dL row) = sumS a row := by
  show ((row.map O.dat).map (datW a)).sum = _
  rw [List.map_map]
  rfl
def fil (a : Str → Nat) (os : List O) : Nat := (os.map (sumO a)).sum
theorem fil_app {a : Str → Nat} {os : List O} {o : O} : fil a (os ++ [o]) = fil a os + sumO a o := by
  unfold fil
  rw [List.map_append, List.sum_append]
  simp
theorem fil_set {a : Str → Nat} : ∀ {os : List O} {r : Nat} {o z : O}, os[r]? = some o → fil a (os.set r z) + sumO a o = fil a os + sumO a z
  | [], _, _, _, h => by simp at h
  | u :: os, 0, o, z, h => by
    have e : u = o := by simpa using h
    subst e
    show sumO a z + fil a os + sumO a u = sumO a u + fil a os + sumO a z
    omega
  | u :: os, r + 1, o, z, h => by
    have ih := fil_set (a := a) (os := os) (r := r) (z := z) (by simpa using h)
    show sumO a u + fil a (os.set r z) + sumO a o = sumO a u + fil a os + sumO a z
    omega
theorem sumS_set {a : Str → Nat} {x : PyData} : ∀ (row : List PyData) (j : Nat), sumS a (row.set j x) ≤ sumS a row + strW a x
  | [], _ => Nat.zero_le _
  | y :: row, 0 => by
    show strW a x + sumS a row ≤ strW a y + sumS a row + strW a x
    omega
  | y :: row, j + 1 => by
    have ih := sumS_set (a := a) (x := x) row j
    show strW a y + sumS a (row.set j x) ≤ strW a y + sumS a row + strW a x
    omega
theorem fil_put {a : Str → Nat} {r j : Nat} {os : List O} {row : List PyData} {x : PyData} (e : os[r]? = some (dL row)) : fil a (os.set r (dL (row.set j x))) ≤ fil a os + strW a x := by
  have z := fil_set (a := a) (z := dL (row.set j x)) e
  rw [sumO_dL, sumO_dL] at z
  have y := sumS_set (a := a) (x := x) row j
  omega
theorem sumS_none {a : Str → Nat} (z : Nat) : sumS a (List.replicate z PyData.none) = 0 := by
  unfold sumS
  refine sum_all0 fun x hx => ?_
  obtain ⟨y, hy, rfl⟩ := List.mem_map.mp hx
  rw [List.eq_of_mem_replicate hy]
  rfl
theorem sumS_nodup {x : Str} : ∀ {ds : List PyData}, ds.Nodup → sumS (isX x) ds ≤ 1
  | [], _ => Nat.zero_le _
  | d :: ds, h => by
    obtain ⟨h1, h2⟩ := List.nodup_cons.mp h
    have ih := sumS_nodup (x := x) h2
    show strW (isX x) d + sumS (isX x) ds ≤ 1
    by_cases c : d = .str x
    · subst c
      have z : sumS (isX x) ds = 0 := by
        unfold sumS
        refine sum_all0 fun v hv => ?_
        obtain ⟨y, hy, rfl⟩ := List.mem_map.mp hv
        cases y with
        | str y =>
          show isX x y = 0
          exact if_neg fun e => h1 (by rw [← e]; exact hy)
        | _ => rfl
      have e : strW (isX x) (.str x) = 1 := if_pos rfl
      omega
    · have e : strW (isX x) d = 0 := by
        cases d with
        | str y => exact if_neg fun e => c (by rw [e])
        | _ => rfl
      omega
/-- the weight of the label with a number -/
def labW (b : Str → Nat) (ds : List PyData) (k : Nat) : Nat := strW b (ds[k]?.getD .none)
theorem labW_sum {b : Str → Nat} {ds : List PyData} : ∀ {n : Nat}, n ≤ ds.length → sumN (labW b ds) n = sumS b (ds.take n)
  | 0, _ => rfl
  | n + 1, h => by
    have lt : n < ds.length := h
    show sumN (labW b ds) n + labW b ds n = _
    rw [labW_sum (by omega), take_snoc (List.getElem?_eq_getElem lt), sumS_app]
    unfold labW
    rw [List.getElem?_eq_getElem lt]
    rfl
/-- the count, once it is known how the trees are made -/
theorem count_trees {n : Nat} {w : Nat → Nat} {os : List O} (hn : os.length = n) (n1 : 1 ≤ n) {base : Nat → Nat} (hw : ∀ k, k < n → w k = base k + sumN (fun q => cntO q (os[k]?.getD .un) * w q) n) (h0 : occ 0 os = 0) (h1 : ∀ q, occ q os ≤ 1) : w 0 ≤ sumN base n := by
  have e1 : sumN w n = sumN base n + sumN (fun q => occ q os * w q) n := by
    rw [sumN_congr hw, sumN_add, sumN_swap]
    congr 1
    refine sumN_congr fun q hq => ?_
    have z := sumN_list (f := cntO q) os
    rw [hn] at z
    rw [sumN_mulR, z]
    rfl
  have e2 : sumN (fun q => occ q os * w q) n ≤ sumN (fun q => if q = 0 then 0 else w q) n := by
    refine sumN_le fun q hq => ?_
    by_cases c : q = 0
    · rw [if_pos c, c, h0, Nat.zero_mul]
      exact Nat.le_refl _
    · rw [if_neg c]
      have z := Nat.mul_le_mul_right (w q) (h1 q)
      omega
  have e3 : sumN w n = sumN (fun q => if q = 0 then 0 else w q) n + sumN (fun q => (if q = 0 then 1 else 0) * w q) n := by
    rw [← sumN_add]
    refine sumN_congr fun q hq => ?_
    by_cases c : q = 0
    · simp [c]
    · simp [c]
  rw [sumN_one n1] at e3
  omega
end VS

namespace VS
open PySem PySem.Spec PyProof.Rows L2
set_option hygiene false
local macro_rules | `(tactic| walk_at "vc") => `(tactic| repeat' (first
      | ((with_reducible apply s_consN); (case e => (first | (dsimp only [backO, wipeO, List.map, setS, getS, O.setP, O.getP, List.set_cons_zero, List.set_cons_succ, List.getElem?_cons_zero, List.getElem?_cons_succ]; first | done | exact rfl) | exact rfl)))
      | with_reducible refine s_nil ?_
      | with_reducible refine d_eqP ?_ ?_ ?_
      | with_reducible refine d_lenP ?_
      | with_reducible refine d_slP0 ?_ ?_
      | with_reducible refine d_slP1 ?_ ?_
      | with_reducible refine d_addP ?_ ?_
      | with_reducible refine d_addP1 ?_ ?_
      | with_reducible refine d_slT0 ?_ ?_
      | with_reducible refine d_slT1 ?_ ?_
      | with_reducible refine d_slL0 ?_ ?_
      | with_reducible refine d_slL1 ?_ ?_
      | with_reducible refine s_set ?_
      | with_reducible refine s_if ?_
      | with_reducible refine s_for ?_
      | with_reducible refine s_ex ?_
      | with_reducible refine s_ret ?_
      | with_reducible refine s_retN ?_
      | with_reducible refine s_pass ?_
      | with_reducible refine s_brk ?_
      | with_reducible refine s_cont ?_
      | with_reducible refine s_put ?_
      | with_reducible refine s_augP ?_
      | with_reducible refine s_par ?_
      | with_reducible refine s_T ?_
      | with_reducible refine s_bin ?_
      | with_reducible refine s_cmp ?_
      | with_reducible refine s_idx ?_
      | with_reducible refine s_int ?_
      | with_reducible refine s_str ?_
      | with_reducible refine s_bl ?_
      | with_reducible refine s_non ?_
      | with_reducible refine s_lst ?_
      | with_reducible refine s_tup ?_
      | with_reducible refine s_dct ?_
      | with_reducible refine s_dnewK ?_
      | with_reducible refine s_dnewT ?_
      | with_reducible refine s_neg ?_
      | with_reducible refine s_chn ?_
      | with_reducible refine s_bop ?_
      | with_reducible refine s_bop1 ?_
      | with_reducible refine s_bop2 ?_
      | with_reducible refine s_nt ?_
      | with_reducible refine s_ife ?_
      | with_reducible refine s_sl ?_
      | with_reducible refine s_isi ?_
      | with_reducible refine s_comp ?_
      | with_reducible refine s_blt ?_
      | with_reducible refine s_mth ?_
      | with_reducible refine s_mmt ?_
      | with_reducible refine s_rng ?_
      | with_reducible refine s_enu ?_
      | with_reducible refine s_zip ?_
      | with_reducible refine s_lzip ?_
      | with_reducible refine s_dof ?_
      | with_reducible refine s_upd ?_
      | with_reducible refine s_rng3 ?_
      | with_reducible refine s_get1 ?_
      | with_reducible refine s_get2 ?_
      | with_reducible refine s_isin ?_
      | with_reducible refine s_fst ?_
      | with_reducible refine s_F0 ?_
      | with_reducible refine s_F1 ?_
      | with_reducible refine s_rev ?_
      | with_reducible refine s_fl ?_
      | with_reducible refine r_onNdD ?_
      | with_reducible refine r_onNdL ?_
      | with_reducible refine s_frz ?_
      | with_reducible refine s_dctT ?_
      | with_reducible refine r_notT ?_
      | with_reducible refine r_notF ?_
      | with_reducible refine r_notB ?_
      | with_reducible refine d_revL ?_
      | with_reducible refine s_L0 ?_
      | with_reducible refine s_L1 ?_
      | with_reducible refine s_H0 ?_
      | with_reducible refine s_H1 ?_
      | with_reducible refine s_C0 ?_
      | with_reducible refine s_P0 ?_
      | with_reducible refine s_P1 ?_
      | with_reducible refine s_O0 ?_
      | with_reducible refine s_O1 ?_
      | with_reducible refine s_Ts0 ?_
      | with_reducible refine s_Ts1 ?_
      | with_reducible refine r_asDd ?_
      | with_reducible refine r_asDl ?_
      | with_reducible refine r_asOo ?_
      | with_reducible refine r_asOp ?_
      | with_reducible refine r_holdD ?_
      | with_reducible refine r_holdP ?_
      | with_reducible refine r_holdO ?_
      | with_reducible refine r_vwD ?_
      | with_reducible refine r_vws0 ?_
      | with_reducible refine r_vws1 ?_
      | with_reducible refine r_stabO ?_
      | with_reducible refine r_stabP ?_
      | with_reducible refine r_stabT ?_
      | with_reducible refine r_idxO ?_
      | with_reducible refine r_itL ?_
      | with_reducible refine r_itT ?_
      | with_reducible refine r_itS ?_
      | with_reducible refine r_itI ?_
      | with_reducible refine r_itV ?_
      | with_reducible refine r_onPl ?_
      | with_reducible refine r_onInt ?_
      | with_reducible refine r_seqL ?_
      | with_reducible refine r_seqT ?_
      | with_reducible refine r_onDat ?_
      | with_reducible refine r_rcvM ?_
      | with_reducible refine d_add ?_
      | with_reducible refine d_sub ?_
      | with_reducible refine d_lt ?_
      | with_reducible refine d_le ?_
      | with_reducible refine d_gt ?_
      | with_reducible refine d_ge ?_
      | with_reducible refine d_inS ?_
      | with_reducible refine d_ninS ?_
      | with_reducible refine d_augA ?_
      | with_reducible refine d_augS ?_
      | with_reducible refine r_mutL ?_
      | with_reducible refine d_eqS ?_
      | with_reducible refine d_neS ?_
      | with_reducible refine d_eqI ?_
      | with_reducible refine d_neI ?_
      | with_reducible refine d_is ?_
      | with_reducible refine d_isn ?_
      | with_reducible refine d_truB ?_
      | with_reducible refine d_truI ?_
      | with_reducible refine d_truL ?_
      | with_reducible refine d_truT ?_
      | with_reducible refine d_truN ?_
      | with_reducible refine d_lenL ?_
      | with_reducible refine d_lenT ?_
      | with_reducible refine d_listL ?_
      | with_reducible refine d_listT ?_
      | with_reducible refine d_tupL ?_
      | with_reducible refine d_tupT ?_
      | with_reducible refine d_abs ?_
      | with_reducible refine d_intI ?_
      | with_reducible refine d_intB ?_
      | with_reducible refine d_min ?_
      | with_reducible refine d_max ?_
      | with_reducible refine d_slL ?_
      | with_reducible refine d_slX ?_
      | with_reducible refine d_slT ?_
      | with_reducible refine b_T ?_
      | with_reducible refine b_F ?_
      | with_reducible refine b_TF ?_
      | with_reducible refine b_FF ?_
      | with_reducible refine s_tp ?_
      | with_reducible refine s_tnil ?_
      | with_reducible refine s_tcons ?_
      | ((with_reducible apply s_varD); (case h1 => exact rfl))
      | ((with_reducible apply s_varN); (case h1 => exact rfl))
      | ((with_reducible apply s_mvD); (case h1 => exact rfl))
      | ((with_reducible apply s_mvL); (case h1 => with_reducible exact rfl))
      | ((with_reducible apply s_mvN); (case h1 => exact rfl))
      | ((with_reducible apply s_nm); (case h1 => (simp only [setS_len, backO_len, wipeO_len, List.length_cons, List.length_nil, List.length_set]; decide)))
      | ((with_reducible apply r_vwP); (case e1 => exact rfl); (case e => first | exact flat_dL _ | exact rfl))
      | ((with_reducible apply r_idxP); (case e => exact rfl))
      | ((with_reducible apply r_opt); (case e => exact rfl))
      | ((with_reducible apply r_idxC); (case e1 => (first | exact pk_cells _ | exact pk_at _ | exact pk_rest _ | exact rfl)); (case e2 => exact rfl))
      | ((with_reducible apply r_idxN); (case e1 => (first | exact pk_cells _ | exact pk_at _ | exact pk_rest _ | exact rfl)); (case e2 => exact rfl))
      | ((with_reducible apply s_C1); (case h1 => exact trivial))
      | ((with_reducible apply s_C2); (case h1 => exact rfl))
      | ((with_reducible apply r_asDn); (case e => first | exact toD_dL _ | with_reducible exact toD_two _ _ | ((repeat' (first | with_reducible exact toD_dL _ | assumption | with_reducible exact toD_dat _ | with_reducible exact toDL_nil | with_reducible apply toD_lst | with_reducible apply toD_tupO | with_reducible apply toD_dk | with_reducible apply toD_dt | with_reducible apply toDL_cons | exact rfl)); done) | exact rfl))
      | ((with_reducible apply r_asDp); (case e1 => exact rfl); (case e => first | exact toD_dL _ | exact rfl))
      | ((with_reducible apply r_rcvW); (case e => exact rfl))
      | ((with_reducible apply s_call); (case h1 => assumption))
      | with_reducible refine d_mul ?_ ?_
      | with_reducible refine d_mod ?_ ?_
      | with_reducible refine d_div ?_ ?_
      | with_reducible refine d_pow ?_ ?_
      | with_reducible refine d_addS ?_ ?_
      | with_reducible refine d_addL ?_ ?_
      | with_reducible refine d_addT ?_ ?_
      | with_reducible refine d_mulS ?_ ?_
      | with_reducible refine d_mulL ?_ ?_
      | with_reducible refine d_mulT ?_ ?_
      | with_reducible refine d_truS ?_ ?_
      | with_reducible refine d_lenS ?_ ?_
      | with_reducible refine d_slS ?_ ?_
      | with_reducible refine d_rng1 ?_ ?_
      | with_reducible refine d_rng2 ?_ ?_
      | with_reducible refine d_app ?_ ?_
      | with_reducible refine d_appL ?_ ?_
      | with_reducible refine d_repr ?_ ?_
      | with_reducible refine d_fmtS ?_ ?_
      | with_reducible refine r_lz ?_ ?_
      | with_reducible refine r_dn ?_ ?_
      | with_reducible refine r_zipL ?_ ?_
      | with_reducible refine r_zipT ?_ ?_
      | with_reducible refine b_ite (fun _ => ?_) (fun _ => ?_)
      | with_reducible refine b_iteN (fun _ => ?_) (fun _ => ?_)
      | with_reducible refine b_iteF (fun _ => ?_) (fun _ => ?_)
      | with_reducible refine b_iteNF (fun _ => ?_) (fun _ => ?_)
      | refine r_stabL rfl ?_
      | refine r_stabR rfl ?_
      | with_reducible refine p_cells ?_
      | with_reducible refine p_at ?_
      | with_reducible refine p_rest ?_
      | refine s_C1p (by exact rfl) (by assumption) ?_
      | refine c_draw (by exact rfl) (by assumption) ?_ (fun _ _ _ _ _ => ?_)
      | with_reducible refine d_eqE ?_
      | with_reducible refine d_neE ?_
      | with_reducible refine d_in ?_ ?_
      | with_reducible refine d_nin ?_ ?_
      | with_reducible refine d_eq ?_ ?_
      | with_reducible refine d_ne ?_ ?_
      | with_reducible refine b_anyN (fun _ => ?_) (fun _ => ?_)
      | with_reducible refine b_anyNF (fun _ => ?_) (fun _ => ?_)
      | with_reducible refine b_any (fun _ => ?_) (fun _ => ?_)
      | with_reducible refine d_popL ?_
      | ((with_reducible apply r_par); (case n1 => decide); (case n2 => (simp only [setS_len, backO_len, wipeO_len, List.length_cons, List.length_nil, List.length_set]; decide)); (case n3 => (simp only [setS_len, backO_len, wipeO_len, List.length_cons, List.length_nil, List.length_set]; decide)))
      | refine c_names (by exact rfl) (by assumption) ?_ (fun _ _ _ _ _ _ => ?_)
      | refine c_pen (fun _ _ => ?_)
      | with_reducible refine b_anyN (fun _ => ?_) (fun _ => ?_)
      | with_reducible refine b_anyNF (fun _ => ?_) (fun _ => ?_)
      | with_reducible refine b_anyF (fun _ => ?_) (fun _ => ?_)
      | ((with_reducible apply r_isi (b := true)); (case e1 => exact rfl); (case e2 => exact rfl))
      | ((with_reducible apply r_isi (b := false)); (case e1 => exact rfl); (case e2 => exact rfl))
      | ((with_reducible apply s_con); (case h1 => assumption))
      | with_reducible refine d_allM ?_
      | with_reducible refine d_anyM ?_
      | ((with_reducible apply r_itO); (case e => first | exact toD_dL _ | ((repeat' (first | with_reducible exact toD_dL _ | assumption | with_reducible exact toD_dat _ | with_reducible exact toDL_nil | with_reducible apply toD_lst | with_reducible apply toD_tupO | with_reducible apply toD_dk | with_reducible apply toD_dt | with_reducible apply toDL_cons | exact rfl)); done) | exact rfl))
      | ((with_reducible apply r_toDL); (case e => first | ((repeat' (first | with_reducible exact toD_dL _ | assumption | with_reducible exact toD_dat _ | with_reducible exact toDL_nil | with_reducible apply toD_lst | with_reducible apply toD_tupO | with_reducible apply toD_dk | with_reducible apply toD_dt | with_reducible apply toDL_cons | exact rfl)); done) | exact toDL_datL (datL_map _)))
      | ((with_reducible apply d_ixT); (case e => exact rfl))
      | ((with_reducible apply d_ixL); (case e => exact rfl))
      | ((with_reducible apply d_appO); (case e => exact rfl))
      | ((with_reducible apply r_itP); (case e1 => exact rfl))
      | with_reducible refine c_fn1 ?_ ?_
      | with_reducible refine c_fn2 ?_ ?_
      | ((with_reducible apply r_dcvK2); (case e => exact rfl))
      | ((with_reducible apply r_dcvT2); (case e => exact rfl))
      | ((with_reducible apply r_dcvK); (case e => exact rfl))
      | ((with_reducible apply r_dcvT); (case e => exact rfl))
      | with_reducible refine r_inT ?_
      | with_reducible refine r_inF ?_
      | with_reducible refine r_ninT ?_
      | with_reducible refine r_ninF ?_
      | refine c_volume (by exact rfl) (by assumption) ?_ (fun _ _ _ _ => ?_)
      | fail))
/-! ## the laws' volumes -/
def n_lvolume : List Str := ["_law_pen_here", "_law_most", "_law_labels", "_law_many", "_law_shelf", "_law_holes", "_law_k", "_law_done", "_law_size", "_law_slots", "_law_inner", "_law_row", "_law_at", "_law_one", "_law_j"]
/-- from the last loop on -/
def b_lvol3 : List CS := [
  .set (.nm 7) (.dnew false),
  .for_ (.nm 6) (.rng3 (.bin .Sub (.var 3) (.int 1)) (.neg (.int 1))) [
    .set (.nm 9) (.call "_law_names" [(.io 0), (.blt .len [(.idx (.var 4) (.var 6))])]),
    .set (.nm 10) (.comp [("_law_one", 13)] (.get2 (.var 7) (.var 13) (.var 13)) (.nm 13) (.idx (.var 4) (.var 6)) []),
    .put (.var 7) (.var 6) (.tup [(.idx (.var 2) (.var 6)), (.blt .tuple_ [(.lzip (.var 9) (.var 10))])])],
  .ret (.idx (.var 7) (.int 0))]
def b_lvol2 : List CS :=
  .set (.nm 3) (.idx (.lst [(.var 1), (.bin .Add (.int 1) (.call "_law_draw" [(.io 0), (.var 1)])), (.bin .Add (.int 1) (.call "_law_draw" [(.io 0), (.blt .min_ [(.var 1), (.int 4)])]))]) (.call "_law_draw" [(.io 0), (.int 3)])) ::
  .set (.nm 4) (.lst []) ::
  .set (.nm 5) (.lst []) ::
  .for_ (.nm 6) (.rng [(.var 3)]) [
    .set (.nm 8) (.idx (.lst [(.int 1), (.int 2), (.int 4), (.bin .Add (.int 1) (.call "_law_draw" [(.io 0), (.int 4)]))]) (.call "_law_draw" [(.io 0), (.int 4)])),
    .ex (.mmt .append (.var 4) [(.comp [("_law_j", 14)] .non (.nm 14) (.rng [(.var 8)]) [])]),
    .ife (.cmp .Gt (.var 6) (.int 0)) [
      .set (.tp [(.nm 11), (.nm 12)]) (.mmt .pop (.var 5) [(.call "_law_draw" [(.io 0), (.blt .len [(.var 5)])])]),
      .put (.idx (.var 4) (.var 11)) (.var 12) (.var 6)] [],
    .set (.nm 5) (.bin .Add (.var 5) (.comp [("_law_j", 14)] (.tup [(.var 6), (.var 14)]) (.nm 14) (.rng [(.var 8)]) []))] ::
  .for_ (.nm 6) (.rng [(.idx (.lst [(.int 0), (.blt .len [(.var 5)]), (.call "_law_draw" [(.io 0), (.bin .Add (.blt .len [(.var 5)]) (.int 1))])]) (.call "_law_draw" [(.io 0), (.int 3)]))]) [
    .set (.tp [(.nm 11), (.nm 12)]) (.mmt .pop (.var 5) [(.call "_law_draw" [(.io 0), (.blt .len [(.var 5)])])]),
    .put (.idx (.var 4) (.var 11)) (.var 12) (.idx (.var 2) (.bin .Add (.var 3) (.var 6)))] :: b_lvol3
def b_lvolume : List CS :=
  .set (.nm 2) (.call "_law_names" [(.io 0), (.int 65)]) ::
  .ife (.cmp .Eq (.call "_law_draw" [(.io 0), (.int 2)]) (.int 0)) [
    .set (.nm 2) (.rev (.var 2))] [] :: b_lvol2
/-- what is known of a volume with m directories at most -/
structure VolT (m : Int) (t : Tr) : Prop where
  dr : t.isDr
  ok : t.ok
  dep : (t.dep : Int) ≤ m
  nd : (t.nd : Int) ≤ m
  sd : t.sd
  cl : ∀ x, t.cl x ≤ 1
def volumeS : FS where
  io := [true, false]
  pre := fun os => ∃ o m b, os = [o, .dat (.int m)] ∧ Pn b o ∧ b + 400 ≤ 1000000 ∧ 1 ≤ m ∧ m ≤ 16
  post := fun os r os' => ∃ o m t o', os = [o, .dat (.int m)] ∧ r = .dat (Tr.d t) ∧ VolT m t ∧ os' = [o', .un] ∧ ∀ b, Pn b o → Pn (b + 400) o'
theorem keyPos_out {κ : Type} [DecidableEq κ] {k : κ} : ∀ {l : List κ}, k ∉ l → keyPos k l = none
  | [], _ => rfl
  | x :: l, h => by
    unfold keyPos
    rw [if_neg (fun z => h (by rw [z]; exact List.mem_cons_self)), keyPos_out fun z => h (List.mem_cons_of_mem _ z)]
theorem keyPos_at {κ : Type} [DecidableEq κ] {k : κ} : ∀ {l : List κ} {j : Nat}, l.Nodup → l[j]? = some k → keyPos k l = some j
  | [], _, _, h => by simp at h
  | x :: l, 0, _, h => by
    unfold keyPos
    rw [if_pos (by simpa using h)]
  | x :: l, j + 1, nd, h => by
    have h2 : l[j]? = some k := by simpa using h
    have ne : ¬ x = k := fun z => (List.nodup_cons.mp nd).1 (by rw [z]; exact List.mem_of_getElem? h2)
    unfold keyPos
    rw [if_neg ne, keyPos_at (List.nodup_cons.mp nd).2 h2]
/-- the numbers from n-1 downwards -/
def dnK (n i : Nat) : List Key := (List.range i).map fun (j : Nat) => (Sum.inl ((n : Int) - 1 - (j : Int)) : Key)
theorem dnK_len (n i : Nat) : (dnK n i).length = i := by simp [dnK]
theorem dnK_succ (n i : Nat) : dnK n (i + 1) = dnK n i ++ [.inl ((n : Int) - 1 - i)] := by simp [dnK, List.range_succ]
theorem dnK_nodup (n i : Nat) : (dnK n i).Nodup := by
  unfold dnK
  refine List.Pairwise.map _ (fun a b h => ?_) List.nodup_range
  intro e
  have e2 : (n : Int) - 1 - a = (n : Int) - 1 - b := Sum.inl.inj e
  omega
theorem dnK_in {n i k : Nat} (h1 : n - i ≤ k) (h2 : k < n) : keyPos (.inl (k : Int)) (dnK n i) = some (n - 1 - k) := by
  refine keyPos_at (dnK_nodup n i) ?_
  have lt : n - 1 - k < i := by omega
  simp only [dnK, List.getElem?_map, List.getElem?_range lt, Option.map_some]
  congr 2
  omega
theorem dnK_not {n i k : Nat} (h1 : k < n - i) : keyPos (.inl (k : Int)) (dnK n i) = none := by
  refine keyPos_out fun z => ?_
  obtain ⟨j, hj, e⟩ := List.mem_map.mp z
  have hj := List.mem_range.mp hj
  have e2 := Sum.inl.inj e
  omega
theorem dnK_str {n i : Nat} {x : Str} : keyPos (.inr x) (dnK n i) = none := by
  refine keyPos_out fun z => ?_
  obtain ⟨j, hj, e⟩ := List.mem_map.mp z
  cases e
/-- the directories below a number -/
def wK (f : Tr → Nat) (ts : List Tr) (n k : Nat) : Nat := ((ts[n - 1 - k]?).map f).getD 0
theorem wK_app {f : Tr → Nat} {ts : List Tr} {t : Tr} {n k : Nat} (h : n - 1 - k < ts.length) : wK f (ts ++ [t]) n k = wK f ts n k := by
  unfold wK
  rw [List.getElem?_append_left h]
theorem wK_new {f : Tr → Nat} {ts : List Tr} {t : Tr} {n k : Nat} (h : n - 1 - k = ts.length) : wK f (ts ++ [t]) n k = f t := by
  unfold wK
  rw [h, List.getElem?_append_right (Nat.le_refl _), Nat.sub_self]
  rfl
theorem cntR_snoc {q : Nat} {l : List PyData} {x : PyData} : cntR q (l ++ [x]) = cntR q l + (if isI q x = true then 1 else 0) := by
  unfold cntR
  rw [List.countP_append, List.countP_cons, List.countP_nil]
  omega
theorem cnt_flat {l : List PyData} {x : PyData} {w : Nat → Nat} {n : Nat} (h : ∀ q, isI q x = false) : sumN (fun q => cntR q (l ++ [x]) * w q) n = sumN (fun q => cntR q l * w q) n :=
  sumN_congr fun q _ => by rw [cntR_snoc, h q]; rfl
theorem cnt_int {l : List PyData} {w : Nat → Nat} {n q0 : Nat} (h : q0 < n) : sumN (fun q => cntR q (l ++ [.int (q0 : Int)]) * w q) n = sumN (fun q => cntR q l * w q) n + w q0 := by
  rw [← sumN_one (w := w) h, ← sumN_add]
  refine sumN_congr fun q _ => ?_
  rw [cntR_snoc, Nat.add_mul]
  congr 2
  show (if decide ((q0 : Int) = q) = true then 1 else 0) = _
  by_cases c : q = q0
  · rw [if_pos c, if_pos (decide_eq_true (by omega))]
  · rw [if_neg c, if_neg (by simp; omega)]
section
variable {G : Gm} {rt : O → Env → Prop} {nx bk ct : Env → Prop} {m : Int}
theorem vol3_ok (h2 : G.fn "_law_names" = some namesS) {o1 : O} {b : Nat} {ds hs : List PyData} {os : List O} {u6 u8 u11 u12 : O} (hp : Pn b o1) (hb : b + 192 ≤ 1000000) (hm : (os.length : Int) ≤ m) (m16 : m ≤ 16) (hos : 1 ≤ os.length) (hsh : ShelfOk os.length os) (hoc : ∀ q, occ q os ≤ 1) (hfl : ∀ a, fil a os ≤ sumS a (ds.drop os.length)) (hl : ds.length = 65) (hn : ∀ x, x ∈ ds → nameD x) (hnd : ds.Nodup)
    (ret : ∀ (t : Tr) o' ρ, VolT m t → Pn (b + 192) o' → rt (.dat t.d) (o' :: .dat (.int m) :: ρ)) :
    evB G b_lvol3 [o1, .dat (.int m), dL ds, .dat (.int os.length), .nd .lst os, dL hs, u6, .un, u8, .un, .un, u11, u12, .un, .un] ⟨nx, rt, bk, ct⟩ := by
  unfold b_lvol3
  walk_at "vc"
  · exact ⟨by omega, by omega, by decide, by decide⟩
  have bg := big
  refine s_loop (fun i ρ => ∃ o' os' ts v6 v9 v10, Pn (b + 12 * i) o' ∧ ρ = [o', .dat (.int m), dL ds, .dat (.int os.length), .nd .lst os', dL hs, v6, .nd (.dk (dnK os.length i)) (ts.map fun t => .dat (Tr.d t)), u8, v9, v10, u11, u12, .un, .un] ∧ os'.length = os.length ∧
    (∀ r, r < os.length - i → os'[r]? = os[r]?) ∧ ts.length = i ∧ (∀ j t, ts[j]? = some t → t.isDr ∧ t.ok ∧ t.dep ≤ j + 1 ∧ t.sd) ∧
    ∀ a b k, os.length - i ≤ k → k < os.length → wK (Tr.ms a b) ts os.length k = (labW b ds k + sumO a (os[k]?.getD .un)) + sumN (fun q => cntO q (os[k]?.getD .un) * wK (Tr.ms a b) ts os.length q) os.length) ⟨o1, os, [], u6, .un, .un, hp, rfl, rfl, (fun r hr => rfl), rfl, (fun j t e => by simp at e), (fun a b k h1 h2 => by omega)⟩ (fun _ _ _ _ => trivial) ?_ ?_
  · rintro i d ρ kk hi ⟨o', os', ts, v6, v9, v10, hp', rfl, hol, hrow, htl, hts, hwk⟩ hk
    have hi2 : i < os.length := by
      have z := lt_of_get hi
      simp [rangeDn] at z
      omega
    have ed : d = .int ((os.length - 1 - i : Nat) : Int) := by
      have z := lt_of_get hi
      simp [rangeDn] at z
      simp [rangeDn, z] at hi
      rw [← hi]
      congr 1
      omega
    subst ed
    obtain ⟨row, erow0, hrw⟩ := hsh (os.length - 1 - i) (by omega)
    have erow : os'[os.length - 1 - i]? = some (dL row) := (hrow _ (by omega)).trans erow0
    have hp2 : Pn (b + 12 * i) o' := hp'
    have ix : kidx .lst os'.length (.int ((os.length - 1 - i : Nat) : Int)) = some (os.length - 1 - i) := by
      show ixN os'.length _ = _
      rw [ixN_nat (by omega) (by omega), Int.toNat_natCast]
    walk_at "vc"
    refine r_idxN (k2 := .lst) (os2 := row.map O.dat) ix erow ?_
    walk_at "vc"
    refine r_vwP (o := dL row) (getS_one rfl erow) (flat_dL _) ?_
    have rl := hrw.1
    have rl2 := hrw.2.1
    walk_at "vc"
    · exact ⟨by omega, by omega, by omega⟩
    rename_i ns o2 hns hnn hnnd hp3
    refine r_idxN (k2 := .lst) (os2 := row.map O.dat) ix erow ?_
    walk_at "vc"
    refine r_itP (ds := row) (getS_one rfl erow) ?_
    rw [List.nil_append, setS_one rfl erow]
    refine s_comps (fun j ρ acc => ρ = wipeO [o2, .dat (.int m), dL ds, .dat (.int os.length), .nd .lst (os'.set (os.length - 1 - i) (.dat (.list row))), dL hs, .dat (.int ((os.length - 1 - i : Nat) : Int)), .nd (.dk (dnK os.length i)) (ts.map fun t => .dat (Tr.d t)), u8, dL ns, v10, u11, u12, .un, .un] [13] ∧
      ∃ us : List Tr, us.length = j ∧ acc = (us.map Tr.d).map O.dat ∧ (∀ t, t ∈ us → t.ok ∧ t.dep ≤ i ∧ t.sd) ∧ ∀ a b, (us.map (Tr.ms a b)).sum = sumS a (row.take j) + sumN (fun q => cntR q (row.take j) * wK (Tr.ms a b) ts os.length q) os.length) ⟨rfl, [], rfl, rfl, (by intro _ z; cases z), fun a b => by
        show 0 = sumS a [] + sumN (fun q => cntR q [] * wK (Tr.ms a b) ts os.length q) os.length
        have e : sumN (fun q => cntR q [] * wK (Tr.ms a b) ts os.length q) os.length = 0 := (sumN_congr (g := fun _ => 0) fun q _ => Nat.zero_mul _).trans (sumN_zero _)
        rw [e]
        rfl⟩ (fun _ _ _ _ _ => trivial) ?_ ?_
    · rintro j x ρ acc k2 hj ⟨rfl, us, rfl, rfl, hus, husn⟩ hk2 _
      have hx := hrw.2.2 x (List.mem_of_getElem? hj)
      have jl := lt_of_get hj
      have fin : ∀ t : Tr, t.ok → t.dep ≤ i → t.sd → (∀ a b, strW a x + sumN (fun q => cntR q (row.take us.length ++ [x]) * wK (Tr.ms a b) ts os.length q) os.length = sumN (fun q => cntR q (row.take us.length) * wK (Tr.ms a b) ts os.length q) os.length + t.ms a b) →
          (((us.map Tr.d).map O.dat).length < sizeLine ∧ ((∃ us' : List Tr, us'.length = us.length + 1 ∧ ((us.map Tr.d).map O.dat) ++ [O.dat t.d] = (us'.map Tr.d).map O.dat ∧ (∀ t, t ∈ us' → t.ok ∧ t.dep ≤ i ∧ t.sd) ∧ ∀ a b, (us'.map (Tr.ms a b)).sum = sumS a (row.take (us.length + 1)) + sumN (fun q => cntR q (row.take (us.length + 1)) * wK (Tr.ms a b) ts os.length q) os.length))) := fun t h1 h3 hs h4 => by
        refine ⟨by simp; omega, us ++ [t], by simp, by simp, fun t' ht => ?_, fun a b => ?_⟩
        · rcases List.mem_append.mp ht with z | z
          · exact hus t' z
          · rw [List.mem_singleton.mp z]; exact ⟨h1, h3, hs⟩
        · have e4 := h4 a b
          have e5 := husn a b
          have e6 : ((us ++ [t]).map (Tr.ms a b)).sum = (us.map (Tr.ms a b)).sum + t.ms a b := by simp
          rw [take_snoc hj, sumS_app, e6, e5]
          have e7 : sumS a [x] = strW a x := by simp [sumS]
          rw [e7]
          omega
      walk_at "vc"
      rcases hx with rfl | ⟨y, rfl, hy⟩ | ⟨q, rfl, q1, q2⟩
      · refine d_getN rfl ?_
        walk_at "vc"
        obtain ⟨f1, f2⟩ := fin .no trivial (Nat.zero_le _) trivial (fun a b => by rw [cnt_flat fun _ => rfl]; exact Nat.add_comm _ _)
        exact hk2 _ _ ⟨f1, rfl, f2⟩
      · refine d_getN (congrArg some dnK_str) ?_
        walk_at "vc"
        obtain ⟨f1, f2⟩ := fin (.fl y) hy (Nat.zero_le _) trivial (fun a b => by rw [cnt_flat fun _ => rfl]; exact Nat.add_comm _ _)
        exact hk2 _ _ ⟨f1, rfl, f2⟩
      · have lq : os.length - 1 - q < ts.length := by omega
        obtain ⟨_, w2, w3, w4⟩ := hts (os.length - 1 - q) _ (List.getElem?_eq_getElem lq)
        refine d_getS (n := os.length - 1 - q) (congrArg some (dnK_in (by omega) q2)) (d := (ts[os.length - 1 - q]).d) ?_ ?_
        · rw [List.getElem?_map, List.getElem?_eq_getElem lq]
          rfl
        · walk_at "vc"
          obtain ⟨f1, f2⟩ := fin _ w2 (by omega) w4 (fun a b => by
            rw [cnt_int q2]
            unfold wK
            rw [List.getElem?_eq_getElem (l := ts) (i := os.length - 1 - q) lq]
            exact Nat.zero_add _)
          exact hk2 _ _ ⟨f1, rfl, f2⟩
    · rintro ρ acc ⟨rfl, us, hul, rfl, hus, husn⟩
      rw [List.take_length] at husn
      walk_at "vc"
      have lk : os.length - 1 - i < ds.length := by omega
      obtain ⟨lab, elb, hlab⟩ := (hn _ (List.getElem_mem lk)).nm
      refine r_idxL (n := os.length - 1 - i) (by rw [ixN_nat (by omega) (by omega), Int.toNat_natCast]) (List.getElem?_eq_getElem lk) ?_
      rw [elb]
      obtain ⟨ss, rfl, hss⟩ := names_nm hnn
      rw [sD_len] at hns
      have ssnd := sD_nodup (hnnd (by omega))
      have ssl : ss.length = us.length := by omega
      walk_at "vc"
      · exact ⟨by rw [sD_len]; omega, sD_ent _⟩
      rw [← Es.of_ds]
      refine d_putKn (k := .inl ((os.length - 1 - i : Nat) : Int)) rfl (dnK_not (by omega)) (by rw [dnK_len]; omega) ?_
      have ek : (Sum.inl ((os.length - 1 - i : Nat) : Int) : Key) = .inl ((os.length : Int) - 1 - i) := by
        congr 1
        omega
      walk_at "vc"
      refine hk _ ⟨o2, os'.set (os.length - 1 - i) (.dat (.list row)), ts ++ [.dr lab (Es.of ss us)], .dat (.int ((os.length - 1 - i : Nat) : Int)), .dat (.list (sD ss)), .dat (.list (us.map Tr.d)), hp3.mono (by omega), ?_, ?_, ?_, ?_, ?_, ?_⟩
      · rw [ek, ← dnK_succ, List.map_append]
        rfl
      · rw [List.length_set]; exact hol
      · intro r hr
        rw [List.getElem?_set_ne (by omega)]
        exact hrow r (by omega)
      · rw [List.length_append, htl]; rfl
      · intro j t ht
        by_cases c : j < ts.length
        · rw [List.getElem?_append_left c] at ht
          exact hts j t ht
        · have e : j = ts.length := by
            have z := lt_of_get ht
            simp at z
            omega
          subst e
          have ht2 : Tr.dr lab (Es.of ss us) = t := by simpa using ht
          subst ht2
          refine ⟨trivial, ⟨hlab, by rw [Es.of_len ssl]; omega, by rw [Es.of_len ssl]; omega, Es.of_ok hss fun t ht => (hus t ht).1⟩, ?_, (by rw [Es.of_names ssl]; exact ssnd), Es.of_sd fun t ht => (hus t ht).2.2⟩
          have z := Es.of_dep (ss := ss) (ts := us) (n := i) fun t ht => (hus t ht).2.1
          show (Es.of ss us).dep + 1 ≤ _
          omega
      · intro a b k hk1 hk2
        have same : sumN (fun q => cntO q (os[k]?.getD .un) * wK (Tr.ms a b) (ts ++ [.dr lab (Es.of ss us)]) os.length q) os.length = sumN (fun q => cntO q (os[k]?.getD .un) * wK (Tr.ms a b) ts os.length q) os.length := by
          refine sumN_congr fun q hq => ?_
          obtain ⟨rw2, e2, w2⟩ := hsh k hk2
          rw [e2]
          show cntO q (dL rw2) * _ = cntO q (dL rw2) * _
          by_cases c2 : q ≤ k
          · rw [cntO_dL, cntR_zero w2 (.inl c2), Nat.zero_mul, Nat.zero_mul]
          · rw [wK_app (by omega)]
        rw [same]
        by_cases c : k = os.length - 1 - i
        · subst c
          rw [wK_new (by omega), erow0]
          show (Es.of ss us).ms a b + b lab = labW b ds (os.length - 1 - i) + sumO a (dL row) + sumN (fun q => cntO q (dL row) * _) _
          have e8 : labW b ds (os.length - 1 - i) = b lab := by
            unfold labW
            rw [List.getElem?_eq_getElem lk, Option.getD_some, elb]
            rfl
          have e9 : sumN (fun q => cntO q (dL row) * wK (Tr.ms a b) ts os.length q) os.length = sumN (fun q => cntR q row * wK (Tr.ms a b) ts os.length q) os.length := sumN_congr fun q _ => by rw [cntO_dL]
          rw [Es.of_ms ssl, husn a b, e8, sumO_dL, e9]
          omega
        · rw [wK_app (by omega)]
          exact hwk a b k (by omega) hk2
  · rintro ρ ⟨o', os', ts, v6, v9, v10, hp', rfl, hol, hrow, htl, hts, hwk⟩
    have e1 : (rangeDn ((os.length : Int) - 1) (-1)).length = os.length := by
      simp [rangeDn]
    rw [e1] at hp' htl
    rw [e1]
    walk_at "vc"
    refine r_idxC (n := os.length - 1) (d := (ts[os.length - 1]'(by omega)).d) (show keyPos _ _ = _ from dnK_in (k := 0) (by omega) (by omega)) ?_ ?_
    · rw [List.getElem?_map, List.getElem?_eq_getElem (by omega)]
      rfl
    · walk_at "vc"
      obtain ⟨w1, w2, w3, w4⟩ := hts (os.length - 1) _ (List.getElem?_eq_getElem (by omega))
      have e0 : ∀ f : Tr → Nat, wK f ts os.length 0 = f (ts[os.length - 1]'(by omega)) := fun f => by
        unfold wK
        rw [Nat.sub_zero, List.getElem?_eq_getElem (by omega)]
        rfl
      have cnt : ∀ a b, (ts[os.length - 1]'(by omega)).ms a b ≤ sumS b (ds.take os.length) + fil a os := fun a b => by
        have z := count_trees (w := wK (Tr.ms a b) ts os.length) (base := fun k => labW b ds k + sumO a (os[k]?.getD .un)) rfl hos (fun k hk => hwk a b k (by rw [e1]; omega) hk) (occ_zero hsh (.inl rfl)) hoc
        rw [sumN_add, labW_sum (by omega), sumN_list (f := sumO a) os] at z
        rw [← e0 (Tr.ms a b)]
        exact z
      have nd : (ts[os.length - 1]'(by omega)).nd ≤ _ := cnt (fun _ => 0) (fun _ => 1)
      have z0 : fil (fun _ => 0) os = 0 := by
        have z := hfl (fun _ => 0)
        have z2 : sumS (fun _ => 0) (ds.drop os.length) = 0 := by
          unfold sumS
          refine sum_all0 fun v hv => ?_
          obtain ⟨y, hy, rfl⟩ := List.mem_map.mp hv
          cases y <;> rfl
        omega
      have z1 : sumS (fun _ => 1) (ds.take os.length) ≤ os.length := by
        have z := sum_le (l := ds.take os.length) (f := strW (fun _ => 1)) (c := 1) fun y _ => by cases y <;> first | exact Nat.zero_le _ | exact Nat.le_refl _
        rw [List.length_take] at z
        unfold sumS
        omega
      refine ret _ _ _ ⟨w1, w2, by omega, by omega, w4, fun x => ?_⟩ (hp'.mono (by omega))
      have c1 := cnt (isX x) (isX x)
      have c2 := hfl (isX x)
      have c3 := sumS_nodup (x := x) hnd
      rw [← List.take_append_drop os.length ds, sumS_app] at c3
      exact Nat.le_trans c1 (by omega)
theorem vol2_ok (h1 : G.fn "_law_draw" = some drawS) (h2 : G.fn "_law_names" = some namesS) {o1 : O} {b : Nat} {ds : List PyData} (hp : Pn b o1) (hb : b + 320 ≤ 1000000) (m1 : 1 ≤ m) (m16 : m ≤ 16) (hl : ds.length = 65) (hn : ∀ x, x ∈ ds → nameD x) (hnd : ds.Nodup)
    (ret : ∀ (t : Tr) o' ρ, VolT m t → Pn (b + 320) o' → rt (.dat t.d) (o' :: .dat (.int m) :: ρ)) :
    evB G b_lvol2 [o1, .dat (.int m), dL ds, .un, .un, .un, .un, .un, .un, .un, .un, .un, .un, .un, .un] ⟨nx, rt, bk, ct⟩ := by
  unfold b_lvol2
  walk_at "vc"
  all_goals first
    | exact ⟨by omega, by omega, by omega⟩
    | exact ⟨by omega, by split <;> omega, by split <;> omega⟩
    | skip
  rename_i d1 o2 hd1 hd2 hp2 d2 o3 hd3 hd4 hp3 d3 o4 hd5 hd6 hp4
  refine d_atM hd5 (show d3 < 3 from hd6) fun x hx => ?_
  have hx : ∃ n : Nat, x = .int n ∧ 1 ≤ n ∧ (n : Int) ≤ m := by
    simp only [List.mem_cons, List.not_mem_nil, or_false] at hx
    rcases hx with rfl | rfl | rfl
    · exact ⟨m.toNat, by rw [Int.toNat_of_nonneg (by omega)], by omega, by omega⟩
    · exact ⟨(1 + d1).toNat, by rw [Int.toNat_of_nonneg (by omega)], by omega, by omega⟩
    · refine ⟨(1 + d2).toNat, by rw [Int.toNat_of_nonneg (by omega)], by omega, ?_⟩
      split at hd4 <;> omega
  obtain ⟨n, rfl, hn1, hnm⟩ := hx
  have bg := big
  have hp4 : Pn (b + 3) o4 := hp4
  walk_at "vc"
  · exact ⟨by omega, by omega⟩
  refine s_loop (fun i ρ => ∃ o' os hs v6 v8 v11 v12, Pn (b + 3 + 3 * i) o' ∧ ρ = [o', .dat (.int m), dL ds, .dat (.int n), .nd .lst os, dL hs, v6, .un, v8, .un, .un, v11, v12, .un, .un] ∧ os.length = i ∧ ShelfOk i os ∧ ((∀ q, occ q os ≤ 1) ∧ ∀ a, fil a os = 0) ∧ HolesOk os hs ∧ hs.length ≤ 3 * i + 1 ∧ (i = 0 → hs = []) ∧ (1 ≤ i → 1 ≤ hs.length))
    ⟨o4, [], [], .un, .un, .un, .un, hp4, rfl, rfl, (fun r hr => absurd hr (Nat.not_lt_zero _)), ⟨(fun q => Nat.zero_le _), (fun a => rfl)⟩, (by intro _ z; cases z), Nat.zero_le _, (fun _ => rfl), (fun z => absurd z (by decide))⟩ (fun _ _ _ _ => trivial) ?_ ?_
  · rintro i d ρ kk hi ⟨o', os, hs, v6, v8, v11, v12, hp', rfl, rfl, hsh, ⟨hoc, hfi⟩, hho, hhl, hh0, hh1⟩ hk
    have hi2 : os.length < n := by
      have z := lt_of_get hi
      simp [rangeD] at z
      omega
    have ed : d = .int (os.length : Int) := by
      simp [rangeD, hi2] at hi
      exact hi.symm
    subst ed
    walk_at "vc"
    all_goals first
      | exact ⟨by omega, by omega, by omega⟩
      | skip
    rename_i e1 o5 he1 he2 hp5 e2 o6 he3 he4 hp6
    refine d_atM he3 (show e2 < 4 from he4) fun x hx => ?_
    have hx : ∃ z : Nat, x = .int z ∧ 1 ≤ z ∧ z ≤ 4 := by
      simp only [List.mem_cons, List.not_mem_nil, or_false] at hx
      rcases hx with rfl | rfl | rfl | rfl
      · exact ⟨1, rfl, by decide, by decide⟩
      · exact ⟨2, rfl, by decide, by decide⟩
      · exact ⟨4, rfl, by decide, by decide⟩
      · exact ⟨(1 + e1).toNat, by rw [Int.toNat_of_nonneg (by omega)], by omega, by omega⟩
    obtain ⟨z, rfl, hz1, hz4⟩ := hx
    walk_at "vc"
    · exact ⟨by omega, by omega⟩
    refine s_comps (fun j ρ acc => ρ = [o6, .dat (.int m), dL ds, .dat (.int n), .nd .lst os, dL hs, .dat (.int (os.length : Int)), .un, .dat (.int (z : Int)), .un, .un, v11, v12, .un, .un] ∧ acc = (List.replicate j PyData.none).map O.dat) ⟨rfl, rfl⟩ (fun _ _ _ _ _ => trivial) ?_ ?_
    · rintro j x ρ acc k2 hj ⟨rfl, rfl⟩ hk2 _
      have jl := lt_of_get hj
      have jl2 : j < z := by simpa [rangeD] using jl
      walk_at "vc"
      refine hk2 _ _ ⟨by simp; omega, rfl, ?_⟩
      rw [List.replicate_succ']
      simp
    · rintro ρ acc ⟨rfl, rfl⟩
      have ez : (rangeD 0 (z : Int)).length = z := by simp [rangeD]
      rw [ez]
      have comp : ∀ (o' : O) (os2 : List O) (hs2 : List PyData) (w11 w12 : O) (K : List O → Env → Prop), K (((List.range z).map fun (q : Nat) => PyData.tuple [.int (os.length : Int), .int q]).map O.dat) [o', .dat (.int m), dL ds, .dat (.int n), .nd .lst os2, dL hs2, .dat (.int (os.length : Int)), .un, .dat (.int (z : Int)), .un, .un, w11, w12, .un, .un] →
          loopC (fun _ => True) (fun d ρ k => bindT (.nm 14) (.dat d) ρ fun ρ => evTs G [] ρ fun b ρ => if b = true then ev G (.tup [.var 6, .var 14]) ρ fun r ρ => asO r ρ fun o ρ => k (some o) (wipeO ρ ([(("_law_j" : Str), 14)].map (·.2))) else k none (wipeO ρ ([(("_law_j" : Str), 14)].map (·.2)))) (rangeD 0 (z : Int))
            [o', .dat (.int m), dL ds, .dat (.int n), .nd .lst os2, dL hs2, .dat (.int (os.length : Int)), .un, .dat (.int (z : Int)), .un, .un, w11, w12, .un, .un] [] K := by
        intro o' os2 hs2 w11 w12 K hK
        refine s_comps (fun j ρ acc => ρ = [o', .dat (.int m), dL ds, .dat (.int n), .nd .lst os2, dL hs2, .dat (.int (os.length : Int)), .un, .dat (.int (z : Int)), .un, .un, w11, w12, .un, .un] ∧ acc = ((List.range j).map fun (q : Nat) => PyData.tuple [.int (os.length : Int), .int q]).map O.dat) ⟨rfl, rfl⟩ (fun _ _ _ _ _ => trivial) ?_ ?_
        · rintro j x ρ acc k2 hj ⟨rfl, rfl⟩ hk2 _
          have jl := lt_of_get hj
          have jl2 : j < z := by simpa [rangeD] using jl
          have ex : x = .int (j : Int) := by
            simp [rangeD, jl2] at hj
            exact hj.symm
          subst ex
          walk_at "vc"
          refine hk2 _ _ ⟨by simp; omega, rfl, ?_⟩
          rw [List.range_succ]
          simp
          rfl
        · rintro ρ acc ⟨rfl, rfl⟩
          rw [ez]
          exact hK
      have sh2 : ShelfOk (os.length + 1) (os ++ [dL (List.replicate z PyData.none)]) := (hsh.mono (by omega)).more ⟨by rw [List.length_replicate]; exact hz1, by rw [List.length_replicate]; exact hz4, fun x hx => .inl (List.eq_of_mem_replicate hx)⟩
      have oc2 : ∀ q, occ q (os ++ [dL (List.replicate z PyData.none)]) ≤ 1 ∧ (os.length ≤ q → occ q (os ++ [dL (List.replicate z PyData.none)]) = 0) := fun q => by
        have e : cntO q (dL (List.replicate z PyData.none)) = 0 := by
          rw [cntO_dL]
          unfold cntR
          rw [List.countP_eq_zero]
          intro x hx w
          rw [List.eq_of_mem_replicate hx] at w
          cases w
        rw [occ_app, e]
        exact ⟨hoc q, fun h => occ_zero hsh (.inr h)⟩
      have last : ∀ (o' : O) (os2 : List O) (hs2 : List PyData) (w11 w12 : O), Pn (b + 3 + 3 * os.length + 3) o' → os2.length = os.length + 1 → ShelfOk (os.length + 1) os2 → ((∀ q, occ q os2 ≤ 1) ∧ ∀ a, fil a os2 = 0) → HolesOk os2 hs2 → hs2.length ≤ 3 * os.length → (∃ row, os2[os.length]? = some (dL row) ∧ row.length = z) →
          kk [o', .dat (.int m), dL ds, .dat (.int n), .nd .lst os2, dL (hs2 ++ (List.range z).map fun (q : Nat) => PyData.tuple [.int (os.length : Int), .int q]), .dat (.int (os.length : Int)), .un, .dat (.int (z : Int)), .un, .un, w11, w12, .un, .un] := by
        intro o' os2 hs2 w11 w12 a1 a2 a3 ac a4 a5 ⟨row, a6, a7⟩
        refine hk _ ⟨o', os2, _, _, _, _, _, a1.mono (by omega), rfl, a2, a3, ac, fun h hh => ?_, ?_, fun q => absurd q (Nat.succ_ne_zero _), fun _ => ?_⟩
        · rcases List.mem_append.mp hh with q | q
          · exact a4 h q
          · obtain ⟨j, hj, rfl⟩ := List.mem_map.mp q
            exact ⟨os.length, j, rfl, row, a6, by rw [a7]; exact List.mem_range.mp hj⟩
        · rw [List.length_append, List.length_map, List.length_range]; omega
        · rw [List.length_append, List.length_map, List.length_range]; omega
      walk_at "vc"
      all_goals first
        | omega
        | exact ⟨by omega, by omega⟩
        | exact ⟨by omega, by have := hh1 (by omega); omega, by omega⟩
        | skip
      · rename_i e3 o7 he5 he6 hp7
        refine d_popM he5 he6 (by omega) fun h eh => ?_
        obtain ⟨r, a, rfl, row, erow, al⟩ := hho h (List.mem_of_getElem? eh)
        have rlt := lt_of_get erow
        have erow2 : (os ++ [dL (List.replicate z PyData.none)])[r]? = some (dL row) := by rw [List.getElem?_append_left rlt]; exact erow
        walk_at "vc"
        refine r_idxN (k2 := .lst) (os2 := row.map O.dat) (n := r) ?_ erow2 ?_
        · show ixN _ _ = _
          rw [ixN_nat (by omega) (by rw [List.length_append]; simp; omega), Int.toNat_natCast]
        walk_at "vc"
        refine r_opt (x := dL row) (getS_one rfl erow2) ?_
        refine d_putL (n := a) ?_ ?_
        · rw [ixN_nat (by omega) (by omega), Int.toNat_natCast]
        rw [List.nil_append, setS_one rfl erow2]
        have sh3 := sh2.put (a := a) (x := .int (os.length : Int)) erow2 (.inr (.inr ⟨os.length, rfl, rlt, by omega⟩))
        have ho2 : HolesOk (os ++ [dL (List.replicate z PyData.none)]) (hs.eraseIdx e3.toNat) := (hho.sub fun x hx => List.mem_of_mem_eraseIdx hx).more
        have ho3 := ho2.put (a := a) (x := .int (os.length : Int)) erow2
        have hel : (hs.eraseIdx e3.toNat).length = hs.length - 1 := List.length_eraseIdx_of_lt (by omega)
        walk_at "vc"
        · exact ⟨by omega, by omega⟩
        refine comp _ _ _ _ _ _ ?_
        walk_at "vc"
        · rw [hel, List.length_map, List.length_range]; omega
        have oc3 : ∀ q, occ q ((os ++ [dL (List.replicate z PyData.none)]).set r (dL (row.set a (.int (os.length : Int))))) ≤ 1 := fun q => by
          have p := occ_put (q := q) (a := a) (x := .int (os.length : Int)) erow2
          obtain ⟨p1, p2⟩ := oc2 q
          by_cases c : q = os.length
          · rw [p2 (by omega)] at p
            split at p <;> omega
          · rw [if_neg (by show ¬ decide ((os.length : Int) = q) = true; simp; omega)] at p
            omega
        have fi3 : ∀ a', fil a' ((os ++ [dL (List.replicate z PyData.none)]).set r (dL (row.set a (.int (os.length : Int))))) = 0 := fun a' => by
          have p := fil_put (a := a') (j := a) (x := .int (os.length : Int)) erow2
          rw [fil_app, sumO_dL, sumS_none, hfi a'] at p
          exact Nat.le_zero.mp p
        refine last _ _ _ _ _ hp7 (by simp) sh3 ⟨oc3, fi3⟩ ho3 (by omega) ⟨List.replicate z .none, ?_, List.length_replicate⟩
        rw [List.getElem?_set_ne (by omega), List.getElem?_append_right (Nat.le_refl _), Nat.sub_self]
        rfl
      · refine comp _ _ _ _ _ _ ?_
        have e0 : os.length = 0 := by omega
        have hs0 := hh0 e0
        subst hs0
        walk_at "vc"
        · rw [List.length_map, List.length_range]; show 0 + _ ≤ _; omega
        refine last _ _ _ _ _ (hp6.mono (by omega)) (by simp) sh2 ⟨fun q => (oc2 q).1, fun a => by
          show fil a (os ++ [dL (List.replicate z PyData.none)]) = 0
          rw [fil_app, sumO_dL, sumS_none, hfi a]⟩ (by intro _ q; cases q) (Nat.zero_le _) ⟨List.replicate z .none, ?_, List.length_replicate⟩
        rw [List.getElem?_append_right (Nat.le_refl _), Nat.sub_self]
        rfl
  · rintro ρ ⟨o', os, hs, v6, v8, v11, v12, hp', rfl, hol, hsh, ⟨hoc, hfi⟩, hho, hhl, _, hh1⟩
    have en : (rangeD 0 (n : Int)).length = n := by simp [rangeD]
    rw [en] at hp' hol hsh hhl hh1
    walk_at "vc"
    all_goals first
      | exact ⟨by omega, by omega, by omega⟩
      | skip
    rename_i f1 o6 hf1 hf2 hp6 f2 o7 hf3 hf4 hp7
    refine d_atM hf3 (show f2 < 3 from hf4) fun x hx => ?_
    have hx : ∃ c : Nat, x = .int c ∧ c ≤ hs.length := by
      simp only [List.mem_cons, List.not_mem_nil, or_false] at hx
      rcases hx with rfl | rfl | rfl
      · exact ⟨0, rfl, Nat.zero_le _⟩
      · exact ⟨hs.length, rfl, Nat.le_refl _⟩
      · exact ⟨f1.toNat, by rw [Int.toNat_of_nonneg (by omega)], by omega⟩
    obtain ⟨c, rfl, hc⟩ := hx
    walk_at "vc"
    · exact ⟨by omega, by omega⟩
    refine s_loop (fun i ρ => ∃ o' os' hs' w6 w11 w12, Pn (b + 5 + 3 * n + i) o' ∧ ρ = [o', .dat (.int m), dL ds, .dat (.int n), .nd .lst os', dL hs', w6, .un, v8, .un, .un, w11, w12, .un, .un] ∧ os'.length = n ∧ ShelfOk n os' ∧ ((∀ q, occ q os' ≤ 1) ∧ ∀ a, fil a os' ≤ sumS a ((ds.drop n).take i)) ∧ HolesOk os' hs' ∧ hs'.length + i = hs.length)
      ⟨o7, os, hs, v6, v11, v12, hp7.mono (by omega), rfl, hol, hsh, ⟨hoc, fun a => by rw [hfi a]; exact Nat.zero_le _⟩, hho, rfl⟩ (fun _ _ _ _ => trivial) ?_ ?_
    · rintro i d ρ kk hi ⟨o', os', hs', w6, w11, w12, hp', rfl, hol', hsh', ⟨hoc', hfi'⟩, hho', hl'⟩ hk
      have ci : i < c := by
        have z := lt_of_get hi
        simpa [rangeD] using z
      have ed : d = .int (i : Int) := by
        simp [rangeD, ci] at hi
        exact hi.symm
      subst ed
      walk_at "vc"
      all_goals first
        | exact ⟨by omega, by omega, by omega⟩
        | skip
      rename_i g1 o8 hg1 hg2 hp8
      refine d_popM hg1 hg2 (by omega) fun h eh => ?_
      obtain ⟨r, a, rfl, row, erow, al⟩ := hho' h (List.mem_of_getElem? eh)
      have rlt := lt_of_get erow
      walk_at "vc"
      have lk : n + i < ds.length := by omega
      have hy := hn _ (List.getElem_mem lk)
      refine r_idxL (n := n + i) ?_ (List.getElem?_eq_getElem lk) ?_
      · rw [ixN_nat (by omega) (by omega)]
        congr 1
      have hdy : (ds.drop n)[i]? = some ds[n + i] := by rw [List.getElem?_drop]; exact List.getElem?_eq_getElem lk
      revert hy hdy
      generalize ds[n + i] = y
      intro hy hdy
      walk_at "vc"
      refine r_idxN (k2 := .lst) (os2 := row.map O.dat) (n := r) ?_ erow ?_
      · show ixN _ _ = _
        rw [ixN_nat (by omega) (by omega), Int.toNat_natCast]
      walk_at "vc"
      refine r_opt (x := dL row) (getS_one rfl erow) ?_
      refine d_putL (n := a) ?_ ?_
      · rw [ixN_nat (by omega) (by omega), Int.toNat_natCast]
      rw [List.nil_append, setS_one rfl erow]
      have hel : (hs'.eraseIdx g1.toNat).length = hs'.length - 1 := List.length_eraseIdx_of_lt (by omega)
      walk_at "vc"
      refine hk _ ⟨o8, _, _, _, _, _, hp8, rfl, by rw [List.length_set]; exact hol', hsh'.put erow (.inr (.inl hy)), ⟨fun q => by
        have p := occ_put (q := q) (a := a) (x := y) erow
        obtain ⟨y', rfl, _⟩ := hy
        exact Nat.le_trans p (hoc' q), fun a' => by
        have p := fil_put (a := a') (j := a) (x := y) erow
        have p2 := hfi' a'
        rw [take_snoc hdy, sumS_app]
        have e7 : sumS a' [y] = strW a' y := by simp [sumS]
        rw [e7]
        omega⟩, (hho'.sub fun x hx => List.mem_of_mem_eraseIdx hx).put erow, by omega⟩
    · rintro ρ ⟨o', os', hs', w6, w11, w12, hp', rfl, hol', hsh', ⟨hoc', hfi'⟩, hho', hl'⟩
      have ec : (rangeD 0 (c : Int)).length = c := by simp [rangeD]
      rw [ec] at hp' hfi'
      subst hol'
      refine vol3_ok h2 hp' (by omega) (by omega) m16 hn1 hsh' hoc' (fun a => Nat.le_trans (hfi' a) ?_) hl hn hnd fun t o'' ρ k1 k4 => ret t o'' ρ k1 (k4.mono (by omega))
      rw [← List.take_append_drop c (ds.drop os'.length), sumS_app, List.take_append_drop c (ds.drop os'.length)]
      exact Nat.le_add_right _ _
end
theorem lvolume_ok {G : Gm} (h1 : G.fn "_law_draw" = some drawS) (h2 : G.fn "_law_names" = some namesS) : volumeS.Ok G b_lvolume 2 13 := by
  rintro os ho ⟨o, m, b1, rfl, hp1, hb1, hm1, hm16⟩
  obtain ⟨b, hp, least⟩ := hp1.least
  have hb : b + 400 ≤ 1000000 := by have := least b1 hp1; omega
  clear hp1 hb1
  unfold b_lvolume
  show evB G _ [o, .dat (.int m), .un, .un, .un, .un, .un, .un, .un, .un, .un, .un, .un, .un, .un] _
  walk_at "vc"
  · exact ⟨by omega, by decide, by decide⟩
  · exact ⟨by omega, by decide, by decide⟩
  all_goals rename_i ds o1 hl hn hnd hp1 d o2 hd1 hd2 hp2 _
  all_goals have fin : ∀ (t : Tr) o' ρ, VolT m t → Pn (b + 13 + 320) o' → volumeS.post [o, .dat (.int m)] (.dat t.d) (outO volumeS.io (o' :: .dat (.int m) :: ρ)) := fun t o' ρ k1 k4 => ⟨o, m, t, o', rfl, rfl, k1, rfl, fun c hc => k4.mono (by have := least c hc; omega)⟩
  · exact vol2_ok h1 h2 hp2 (by omega) hm1 hm16 (by rw [List.length_reverse]; omega) (fun x hx => hn x (List.mem_reverse.mp hx)) (List.pairwise_reverse.mpr (List.Pairwise.imp (fun {a b} h e => h e.symm) (hnd (by decide)))) fin
  · exact vol2_ok h1 h2 hp2 (by omega) hm1 hm16 (by omega) hn (hnd (by decide)) fin
theorem c_volume {ρ : Env} {i : Nat} {m : Int} {o : O} {b : Nat} {Q : O → Env → Prop} (e : ρ[i]? = some o) (p : Pn b o) (c : b + 400 ≤ 1000000 ∧ 1 ≤ m ∧ m ≤ 16) (h : ∀ t o', VolT m t → Pn (b + 400) o' → Q (.dat t.d) (ρ.set i o')) : callQ volumeS ρ [.inr i, .inl (.int m)] Q := by
  have g : ρ[i]?.getD .un = o := by rw [e]; rfl
  refine ⟨rfl, by simp [iosA], fun j hj => ?_, ?_, fun r os z _ => ?_⟩
  · have ej : j = i := by simpa [iosA] using hj
    rw [ej]
    exact lt_of_get e
  · refine ⟨o, m, b, ?_, p, c⟩
    show [ρ[i]?.getD .un, .dat (.int m)] = _
    rw [g]
  · obtain ⟨o1, m1, t, o', e1, rfl, h1, rfl, h4⟩ := z
    have e1 : [ρ[i]?.getD .un, .dat (.int m)] = [o1, .dat (.int m1)] := e1
    rw [g] at e1
    cases e1
    exact h t o' h1 (h4 b p)
end VS

namespace VS
open PySem PySem.Spec PyProof.Rows L2
/-! ## defs that are functions of what their argument stands for -/
def encS {α : Type} (enc : α → PyData) (pre : α → Prop) (f : α → PyData) : FS where
  io := [false]
  pre := fun os => ∃ a, os = [.dat (enc a)] ∧ pre a
  post := fun os r os' => ∀ a, os = [.dat (enc a)] → pre a → r = .dat (f a)
theorem c_enc {α : Type} {enc : α → PyData} {pre : α → Prop} {f : α → PyData} {ρ : Env} {a : α} {Q : O → Env → Prop} (hp : pre a) (h : Q (.dat (f a)) ρ) : callQ (encS enc pre f) ρ [.inl (enc a)] Q :=
  ⟨rfl, by simp [iosA], fun i hi => by simp [iosA] at hi, ⟨a, rfl, hp⟩, fun r os z l => by
    have e := z a rfl hp
    subst e
    match os, l with
    | [_], _ => exact h⟩
theorem p_enc {α : Type} {enc : α → PyData} {pre : α → Prop} {f : α → PyData} {a : α} {r : O} (inj : ∀ a b, enc a = enc b → a = b) (e : r = .dat (f a)) : ∀ a', [O.dat (enc a)] = [.dat (enc a')] → pre a' → r = .dat (f a') := fun a' e' _ => by
  obtain rfl := inj a a' (O.dat.inj (List.cons.inj e').1)
  exact e
/-! ### trees -/
mutual
theorem Tr.d_inj : ∀ (a b : Tr), a.d = b.d → a = b
  | .no, .no, _ => rfl
  | .no, .fl _, h => by cases h
  | .no, .dr _ _, h => by cases h
  | .fl _, .no, h => by cases h
  | .fl _, .fl _, h => by cases h; rfl
  | .fl _, .dr _ _, h => by cases h
  | .dr _ _, .no, h => by cases h
  | .dr _ _, .fl _, h => by cases h
  | .dr l es, .dr m fs, h => by
    have h2 : [PyData.str l, .tuple es.ds] = [.str m, .tuple fs.ds] := PyData.tuple.inj h
    have h3 := (List.cons.inj h2).1
    have h4 := (List.cons.inj (List.cons.inj h2).2).1
    rw [PyData.str.inj h3, Es.ds_inj es fs (PyData.tuple.inj h4)]
theorem Es.ds_inj : ∀ (a b : Es), a.ds = b.ds → a = b
  | .nil, .nil, _ => rfl
  | .nil, .cons _ _ _, h => by cases h
  | .cons _ _ _, .nil, h => by cases h
  | .cons s t r, .cons s' t' r', h => by
    have h1 := PyData.tuple.inj (List.cons.inj h).1
    have h2 := (List.cons.inj h).2
    rw [PyData.str.inj (List.cons.inj h1).1, Tr.d_inj t t' (List.cons.inj (List.cons.inj h1).2).1, Es.ds_inj r r' h2]
end
def Es.toL : Es → List (Str × Tr)
  | .nil => []
  | .cons s t r => (s, t) :: r.toL
def slotD (p : Str × Tr) : PyData := .tuple [.str p.1, p.2.d]
theorem Es.ds_toL : ∀ es : Es, es.ds = es.toL.map slotD
  | .nil => rfl
  | .cons s t r => by
    show PyData.tuple [.str s, t.d] :: r.ds = _
    rw [Es.ds_toL r]
    rfl
theorem Es.len_toL : ∀ es : Es, es.toL.length = es.len
  | .nil => rfl
  | .cons s t r => by
    show r.toL.length + 1 = r.len + 1
    rw [Es.len_toL r]
theorem Es.mem_toL : ∀ {es : Es} {p : Str × Tr}, es.ok → p ∈ es.toL → nmS p.1 ∧ p.2.ok ∧ p.2.dep ≤ es.dep ∧ p.2.nd ≤ es.nd
  | .nil, _, _, h => nomatch h
  | .cons s t r, p, k, h => by
    rcases List.mem_cons.mp h with e | h
    · subst e
      exact ⟨k.1, k.2.1, Nat.le_max_left _ _, Nat.le_add_right _ _⟩
    · obtain ⟨a, b, c, d⟩ := Es.mem_toL k.2.2 h
      exact ⟨a, b, Nat.le_trans c (Nat.le_max_right _ _), Nat.le_trans d (Nat.le_add_left _ _)⟩
theorem nmS.d {x : Str} (h : nmS x) : nameD (.str x) := ⟨x, rfl, h⟩
/-! ### repr of a tree -/
theorem shown_tuple (ds : List PyData) : (PyData.tuple ds).shown.length ≤ piled (PyData.shownAll ds) + 3 := by
  show (("(" : Str) ++ Str.join ", " (PyData.shownAll ds) ++ (if (PyData.shownAll ds).length == 1 then ",)" else ")" : String)).length ≤ _
  have j : (Str.join ", " (PyData.shownAll ds)).length ≤ piled (PyData.shownAll ds) := by
    by_cases e : PyData.shownAll ds = []
    · rw [e]; exact Nat.le_refl _
    · have := join_length_add _ e; omega
  have e1 : ("(" : Str).length = 1 := rfl
  rw [strLen_append, strLen_append]
  split
  · have e2 : ((",)" : String) : Str).length = 2 := rfl
    omega
  · have e2 : ((")" : String) : Str).length = 1 := rfl
    omega
theorem piled_cons (d : PyData) (ds : List PyData) : piled (PyData.shownAll (d :: ds)) = d.shown.length + 2 + piled (PyData.shownAll ds) := by
  show piled (d.shown :: PyData.shownAll ds) = _
  simp [piled]
mutual
theorem Tr.nz : ∀ {t : Tr}, t.ok → Nz (3 * t.dep) (784 * t.nd + 82) t.d
  | .no, _ => Nz.non.mono (Nat.zero_le _) (by show 4 ≤ 784 * 0 + 82; decide)
  | .fl x, h => (Nz.name (nmS.d h)).mono (Nat.zero_le _) (by show 82 ≤ 784 * 0 + 82; decide)
  | .dr l es, h => by
    obtain ⟨h1, h2, h3, h4⟩ := h
    obtain ⟨a1, a2, a3, a4⟩ := Es.nz h4
    have b := Nz.name (nmS.d h1)
    have bl := b.len
    have bd := b.dp
    have s1 := shown_tuple es.ds
    have s2 := shown_tuple [.str l, .tuple es.ds]
    rw [piled_cons, piled_cons] at s2
    have z : piled (PyData.shownAll []) = 0 := rfl
    refine ⟨?_, ?_, ?_, ?_⟩
    · show okDL [.str l, .tuple es.ds] = true
      simp [okDL, okD, a1]
    · show PyData.showableAll [.str l, .tuple es.ds] = true
      simp [PyData.showableAll, PyData.showable, a2]
    · show (PyData.tuple [.str l, .tuple es.ds]).depth ≤ 3 * (es.dep + 1)
      simp only [PyData.depth, PyData.depthAll]
      omega
    · show (PyData.tuple [.str l, .tuple es.ds]).shown.length ≤ 784 * (es.nd + 1) + 82
      omega
theorem Es.nz : ∀ {es : Es}, es.ok → okDL es.ds = true ∧ PyData.showableAll es.ds = true ∧ PyData.depthAll es.ds ≤ 3 * es.dep + 1 ∧ piled (PyData.shownAll es.ds) ≤ 173 * es.len + 784 * es.nd
  | .nil, _ => ⟨rfl, rfl, Nat.zero_le _, Nat.zero_le _⟩
  | .cons s t r, h => by
    obtain ⟨h1, h2, h3⟩ := h
    obtain ⟨a1, a2, a3, a4⟩ := Es.nz h3
    have q := Tr.nz h2
    have b := Nz.name (nmS.d h1)
    have bl := b.len
    have ql := q.len
    have qd := q.dp
    have s2 := shown_tuple [.str s, t.d]
    rw [piled_cons, piled_cons] at s2
    have z : piled (PyData.shownAll []) = 0 := rfl
    have m1 : t.dep ≤ max t.dep r.dep := Nat.le_max_left _ _
    have m2 : r.dep ≤ max t.dep r.dep := Nat.le_max_right _ _
    refine ⟨?_, ?_, ?_, ?_⟩
    · show okDL (.tuple [.str s, t.d] :: r.ds) = true
      simp [okDL, okD, a1, q.ok]
    · show PyData.showableAll (.tuple [.str s, t.d] :: r.ds) = true
      simp [PyData.showableAll, PyData.showable, a2, q.sh]
    · show PyData.depthAll (.tuple [.str s, t.d] :: r.ds) ≤ 3 * max t.dep r.dep + 1
      simp only [PyData.depth, PyData.depthAll]
      omega
    · show piled (PyData.shownAll (.tuple [.str s, t.d] :: r.ds)) ≤ 173 * (r.len + 1) + 784 * (t.nd + r.nd)
      rw [piled_cons]
      omega
end
/-! ### texts -/
def Ac (x : Str) : Prop := ∀ c, c ∈ x.cps.toList → c < 128
theorem Ac.low {x : Str} (h : Low x) : Ac x := fun c hc => by have := h c hc; omega
theorem Ac.of {x : Str} (h : x.cps.toList.all (fun c => decide (c < 128)) = true) : Ac x := fun c hc => of_decide_eq_true (List.all_eq_true.mp h c hc)
theorem Ac.app {x y : Str} (h : Ac x) (k : Ac y) : Ac (x ++ y) := by
  intro c hc
  have e : (x ++ y).cps.toList = x.cps.toList ++ y.cps.toList := by
    show (x.cps ++ y.cps).toList = _
    simp
  rw [e] at hc
  rcases List.mem_append.mp hc with z | z
  · exact h c z
  · exact k c z
theorem joinL_mem {S : List Nat} {c : Nat} : ∀ {ps : List (List Nat)}, c ∈ TL.joinL S ps → c ∈ S ∨ ∃ p, p ∈ ps ∧ c ∈ p
  | [], h => nomatch h
  | [p], h => .inr ⟨p, List.mem_cons_self, h⟩
  | p :: q :: r, h => by
    have h2 : c ∈ p ++ (S ++ TL.joinL S (q :: r)) := h
    rcases List.mem_append.mp h2 with z | z
    · exact .inr ⟨p, List.mem_cons_self, z⟩
    · rcases List.mem_append.mp z with z | z
      · exact .inl z
      · rcases joinL_mem z with y | ⟨p', y, w⟩
        · exact .inl y
        · exact .inr ⟨p', List.mem_cons_of_mem _ y, w⟩
theorem joinL_len {S : List Nat} : ∀ ps : List (List Nat), (TL.joinL S ps).length ≤ (ps.map List.length).sum + ps.length * S.length
  | [] => Nat.zero_le _
  | [p] => by simp [TL.joinL]
  | p :: q :: r => by
    have ih := joinL_len (S := S) (q :: r)
    show (p ++ (S ++ TL.joinL S (q :: r))).length ≤ _
    rw [List.length_append, List.length_append, List.map_cons, List.sum_cons, List.length_cons (as := q :: r), Nat.succ_mul]
    omega
theorem join_tl2 (y : Str) (ys : List Str) : (Txt.join y ys).cps.toList = TL.joinL y.cps.toList (ys.map fun z => z.cps.toList) := by
  rw [TL.join_eq]
  exact TL.tl_join y ys
theorem Ac.join {y : Str} {ys : List Str} (h : Ac y) (k : ∀ z, z ∈ ys → Ac z) : Ac (Txt.join y ys) := by
  intro c hc
  rw [join_tl2] at hc
  rcases joinL_mem hc with z | ⟨p, hp, z⟩
  · exact h c z
  · obtain ⟨w, hw, rfl⟩ := List.mem_map.mp hp
    exact k w hw c z
theorem join_le (y : Str) (ys : List Str) : (Txt.join y ys).length ≤ (ys.map (·.length)).sum + ys.length * y.length := by
  have z := joinL_len (S := y.cps.toList) (ys.map fun z => z.cps.toList)
  rw [← join_tl2, List.map_map, List.length_map, Array.length_toList, Array.length_toList] at z
  exact z
theorem Nz.text {x : Str} {l : Nat} (h : Ac x) (hl : x.length ≤ l) : Nz 0 (10 * l + 2) (.str x) := by
  refine ⟨rfl, rfl, Nat.le_refl _, ?_⟩
  have z := StrLaws.reprText_len x fun c hc => by have := h c hc; omega
  show (reprText x).length ≤ _
  omega
theorem d_joinL {x : Str} {ys : List Str} {Q : O → Prop} (c : (ys.map (·.length)).sum + ys.length * x.length ≤ 16777216) (h : Q (.dat (.str (Txt.join x ys)))) : mthD .join (.str x) [.list (sD ys)] Q := by
  show optQ (strsD (sD ys)) _
  rw [show strsD (sD ys) = some ys from strsD_map ys]
  exact ⟨c, h⟩
theorem d_joinT {x : Str} {ys : List Str} {Q : O → Prop} (c : (ys.map (·.length)).sum + ys.length * x.length ≤ 16777216) (h : Q (.dat (.str (Txt.join x ys)))) : mthD .join (.str x) [.tuple (sD ys)] Q := by
  show optQ (strsD (sD ys)) _
  rw [show strsD (sD ys) = some ys from strsD_map ys]
  exact ⟨c, h⟩
theorem empty_app (x : Str) : Str.empty ++ x = x := by
  have e : (Str.empty ++ x).cps.toList = x.cps.toList := by
    show (Str.empty.cps ++ x.cps).toList = _
    simp [Str.empty]
  cases x
  exact congrArg Str.mk (Array.ext' e)
mutual
def Tr.txt : Tr → Str
  | .no => ""
  | .fl x => x
  | .dr l es => l ++ "(" ++ Txt.join "," es.txts ++ ")"
def Es.txts : Es → List Str
  | .nil => []
  | .cons s t r => (s ++ ":" ++ t.txt) :: r.txts
end
def slotT (p : Str × Tr) : Str := p.1 ++ ":" ++ p.2.txt
theorem Es.txts_toL : ∀ es : Es, es.txts = es.toL.map slotT
  | .nil => rfl
  | .cons s t r => by
    show (s ++ ":" ++ t.txt) :: r.txts = _
    rw [Es.txts_toL r]
    rfl
theorem comma_len : ("," : Str).length = 1 := rfl
mutual
theorem Tr.txt_ok : ∀ {t : Tr}, t.ok → t.txt.length ≤ 82 * t.nd + 8 ∧ Ac t.txt
  | .no, _ => ⟨Nat.zero_le _, Ac.of rfl⟩
  | .fl x, h => ⟨Nat.le_trans h.2.1 (Nat.le_add_left _ _), Ac.low h.2.2⟩
  | .dr l es, h => by
    obtain ⟨h1, h2, h3, h4⟩ := h
    obtain ⟨a1, a2, a3⟩ := Es.txts_ok h4
    have j := join_le "," es.txts
    rw [comma_len, Nat.mul_one, a2] at j
    have e1 : ("(" : Str).length = 1 := rfl
    have e2 : (")" : Str).length = 1 := rfl
    have n1 := h1.2.1
    refine ⟨?_, ((Ac.low h1.2.2).app (Ac.of rfl)).app (Ac.join (Ac.of rfl) a3) |>.app (Ac.of rfl)⟩
    show (l ++ "(" ++ Txt.join "," es.txts ++ ")").length ≤ 82 * (es.nd + 1) + 8
    rw [len_app, len_app, len_app]
    omega
theorem Es.txts_ok : ∀ {es : Es}, es.ok → (es.txts.map (·.length)).sum ≤ 17 * es.len + 82 * es.nd ∧ es.txts.length = es.len ∧ ∀ z, z ∈ es.txts → Ac z
  | .nil, _ => ⟨Nat.zero_le _, rfl, fun _ z => nomatch z⟩
  | .cons s t r, h => by
    obtain ⟨h1, h2, h3⟩ := h
    obtain ⟨a1, a2, a3⟩ := Es.txts_ok h3
    obtain ⟨b1, b2⟩ := Tr.txt_ok h2
    have n1 := h1.2.1
    have e1 : (":" : Str).length = 1 := rfl
    refine ⟨?_, ?_, fun z hz => ?_⟩
    · show (s ++ ":" ++ t.txt).length + (r.txts.map (·.length)).sum ≤ 17 * (r.len + 1) + 82 * (t.nd + r.nd)
      rw [len_app, len_app]
      omega
    · show r.txts.length + 1 = r.len + 1
      rw [a2]
    · rcases List.mem_cons.mp hz with e | hz
      · rw [e]; exact ((Ac.low h1.2.2).app (Ac.of rfl)).app b2
      · exact a3 z hz
end
/-- one value for each, whatever stands behind them -/
theorem s_compsE {ρ : Env} {α : Type} {chk : Env → Prop} {stp : PyData → Env → (Option O → Env → Prop) → Prop} {l : List α} {g : α → PyData} {K : List O → Env → Prop} (f : α → PyData) (hl : l.length ≤ sizeLine) (hc : chk ρ)
    (hs : ∀ a (k : Option O → Env → Prop), a ∈ l → k (some (.dat (f a))) ρ → stp (g a) ρ k) (he : K ((l.map f).map O.dat) ρ) : loopC chk stp (l.map g) ρ [] K := by
  refine s_comps (fun i ρ' acc => ρ' = ρ ∧ acc = ((l.take i).map f).map O.dat) ⟨rfl, by simp⟩ (fun i ρ' acc _ h => h.1 ▸ hc) ?_ ?_
  · rintro i d ρ' acc k hi ⟨rfl, rfl⟩ h1 h2
    have lt := lt_of_get hi
    rw [List.length_map] at lt
    rw [List.getElem?_map, List.getElem?_eq_getElem lt] at hi
    cases hi
    refine hs _ k (List.getElem_mem lt) (h1 _ _ ⟨by rw [List.length_map, List.length_map, List.length_take]; omega, rfl, ?_⟩)
    rw [take_snoc (List.getElem?_eq_getElem lt), List.map_append, List.map_append]
    rfl
  · rintro ρ' acc ⟨rfl, rfl⟩
    rw [List.length_map, List.take_length]
    exact he
end VS

namespace VS
open PySem PySem.Spec PyProof.Rows L2
/-! ## defs that call themselves -/
theorem fnI_bot {P : Program} {w : World} {K : PySem.W.Frag} {mg : Str → Option Value} {base : Heap} {x : Str} {st : Stmt} {f : Addr} {fd : FuncData} {ps : List Str} {lvl : Nat} {S : FS} (Fu : L2.Fun K x x st f fd) (hm : mg x = some (.ref f)) (bi : Binds K fd ps []) (hio : S.io.length = ps.length) (no : ∀ os, ¬ S.pre os) :
    FnI P w K mg base lvl x S :=
  ⟨0, f, fd, ps, Nat.zero_le _, hio, hm, Fu.kp, bi, ⟨fun vs H Q ⟨_, _, _, h, _⟩ => h, fun A outer st H args us vs Q _ _ _ _ _ ⟨_, _, _, _, _, _, _, p, _⟩ => absurd p (no _)⟩⟩
def gmU (G : Gm) (x : Str) (S : FS) : Gm := { G with fn := fun f => if f = x then some S else G.fn f }
theorem gmU_same {G : Gm} {x : Str} {S : FS} : (gmU G x S).fn x = some S := if_pos rfl
theorem gmU_ne {G : Gm} {x f : Str} {S : FS} (h : f ≠ x) : (gmU G x S).fn f = G.fn f := if_neg h
end VS

namespace VS
open PySem PySem.Spec PyProof.Rows L2
set_option hygiene false
local macro_rules | `(tactic| walk_at "vc") => `(tactic| repeat' (first
      | ((with_reducible apply s_consN); (case e => (first | (dsimp only [backO, wipeO, List.map, setS, getS, O.setP, O.getP, List.set_cons_zero, List.set_cons_succ, List.getElem?_cons_zero, List.getElem?_cons_succ]; first | done | exact rfl) | exact rfl)))
      | with_reducible refine s_nil ?_
      | with_reducible refine d_eqP ?_ ?_ ?_
      | with_reducible refine d_lenP ?_
      | with_reducible refine d_slP0 ?_ ?_
      | with_reducible refine d_slP1 ?_ ?_
      | with_reducible refine d_addP ?_ ?_
      | with_reducible refine d_addP1 ?_ ?_
      | with_reducible refine d_slT0 ?_ ?_
      | with_reducible refine d_slT1 ?_ ?_
      | with_reducible refine d_slL0 ?_ ?_
      | with_reducible refine d_slL1 ?_ ?_
      | with_reducible refine s_set ?_
      | with_reducible refine s_if ?_
      | with_reducible refine s_for ?_
      | with_reducible refine s_ex ?_
      | with_reducible refine s_ret ?_
      | with_reducible refine s_retN ?_
      | with_reducible refine s_pass ?_
      | with_reducible refine s_brk ?_
      | with_reducible refine s_cont ?_
      | with_reducible refine s_put ?_
      | with_reducible refine s_augP ?_
      | with_reducible refine s_par ?_
      | with_reducible refine s_T ?_
      | with_reducible refine s_bin ?_
      | with_reducible refine s_cmp ?_
      | with_reducible refine s_idx ?_
      | with_reducible refine s_int ?_
      | with_reducible refine s_str ?_
      | with_reducible refine s_bl ?_
      | with_reducible refine s_non ?_
      | with_reducible refine s_lst ?_
      | with_reducible refine s_tup ?_
      | with_reducible refine s_dct ?_
      | with_reducible refine s_dnewK ?_
      | with_reducible refine s_dnewT ?_
      | with_reducible refine s_neg ?_
      | with_reducible refine s_chn ?_
      | with_reducible refine s_bop ?_
      | with_reducible refine s_bop1 ?_
      | with_reducible refine s_bop2 ?_
      | with_reducible refine s_nt ?_
      | with_reducible refine s_ife ?_
      | with_reducible refine s_sl ?_
      | with_reducible refine s_isi ?_
      | with_reducible refine s_comp ?_
      | with_reducible refine s_blt ?_
      | with_reducible refine s_mth ?_
      | with_reducible refine s_mmt ?_
      | with_reducible refine s_rng ?_
      | with_reducible refine s_enu ?_
      | with_reducible refine s_zip ?_
      | with_reducible refine s_lzip ?_
      | with_reducible refine s_dof ?_
      | with_reducible refine s_upd ?_
      | with_reducible refine s_rng3 ?_
      | with_reducible refine s_get1 ?_
      | with_reducible refine s_get2 ?_
      | with_reducible refine s_isin ?_
      | with_reducible refine s_fst ?_
      | with_reducible refine s_F0 ?_
      | with_reducible refine s_F1 ?_
      | with_reducible refine s_rev ?_
      | with_reducible refine s_fl ?_
      | with_reducible refine r_onNdD ?_
      | with_reducible refine r_onNdL ?_
      | with_reducible refine s_frz ?_
      | with_reducible refine s_dctT ?_
      | with_reducible refine r_notT ?_
      | with_reducible refine r_notF ?_
      | with_reducible refine r_notB ?_
      | with_reducible refine d_revL ?_
      | with_reducible refine s_L0 ?_
      | with_reducible refine s_L1 ?_
      | with_reducible refine s_H0 ?_
      | with_reducible refine s_H1 ?_
      | with_reducible refine s_C0 ?_
      | with_reducible refine s_P0 ?_
      | with_reducible refine s_P1 ?_
      | with_reducible refine s_O0 ?_
      | with_reducible refine s_O1 ?_
      | with_reducible refine s_Ts0 ?_
      | with_reducible refine s_Ts1 ?_
      | with_reducible refine r_asDd ?_
      | with_reducible refine r_asDl ?_
      | with_reducible refine r_asOo ?_
      | with_reducible refine r_asOp ?_
      | with_reducible refine r_holdD ?_
      | with_reducible refine r_holdP ?_
      | with_reducible refine r_holdO ?_
      | with_reducible refine r_vwD ?_
      | with_reducible refine r_vws0 ?_
      | with_reducible refine r_vws1 ?_
      | with_reducible refine r_stabO ?_
      | with_reducible refine r_stabP ?_
      | with_reducible refine r_stabT ?_
      | with_reducible refine r_idxO ?_
      | with_reducible refine r_itL ?_
      | with_reducible refine r_itT ?_
      | with_reducible refine r_itS ?_
      | with_reducible refine r_itI ?_
      | with_reducible refine r_itV ?_
      | with_reducible refine r_onPl ?_
      | with_reducible refine r_onInt ?_
      | with_reducible refine r_seqL ?_
      | with_reducible refine r_seqT ?_
      | with_reducible refine r_onDat ?_
      | with_reducible refine r_rcvM ?_
      | with_reducible refine d_add ?_
      | with_reducible refine d_sub ?_
      | with_reducible refine d_lt ?_
      | with_reducible refine d_le ?_
      | with_reducible refine d_gt ?_
      | with_reducible refine d_ge ?_
      | with_reducible refine d_inS ?_
      | with_reducible refine d_ninS ?_
      | with_reducible refine d_augA ?_
      | with_reducible refine d_augS ?_
      | with_reducible refine r_mutL ?_
      | with_reducible refine d_eqS ?_
      | with_reducible refine d_neS ?_
      | with_reducible refine d_eqI ?_
      | with_reducible refine d_neI ?_
      | with_reducible refine d_is ?_
      | with_reducible refine d_isn ?_
      | with_reducible refine d_truB ?_
      | with_reducible refine d_truI ?_
      | with_reducible refine d_truL ?_
      | with_reducible refine d_truT ?_
      | with_reducible refine d_truN ?_
      | with_reducible refine d_lenL ?_
      | with_reducible refine d_lenT ?_
      | with_reducible refine d_listL ?_
      | with_reducible refine d_listT ?_
      | with_reducible refine d_tupL ?_
      | with_reducible refine d_tupT ?_
      | with_reducible refine d_abs ?_
      | with_reducible refine d_intI ?_
      | with_reducible refine d_intB ?_
      | with_reducible refine d_min ?_
      | with_reducible refine d_max ?_
      | with_reducible refine d_slL ?_
      | with_reducible refine d_slX ?_
      | with_reducible refine d_slT ?_
      | with_reducible refine b_T ?_
      | with_reducible refine b_F ?_
      | with_reducible refine b_TF ?_
      | with_reducible refine b_FF ?_
      | with_reducible refine s_tp ?_
      | with_reducible refine s_tnil ?_
      | with_reducible refine s_tcons ?_
      | ((with_reducible apply s_varD); (case h1 => exact rfl))
      | ((with_reducible apply s_varN); (case h1 => exact rfl))
      | ((with_reducible apply s_mvD); (case h1 => exact rfl))
      | ((with_reducible apply s_mvL); (case h1 => with_reducible exact rfl))
      | ((with_reducible apply s_mvN); (case h1 => exact rfl))
      | ((with_reducible apply s_nm); (case h1 => (simp only [setS_len, backO_len, wipeO_len, List.length_cons, List.length_nil, List.length_set]; decide)))
      | ((with_reducible apply r_vwP); (case e1 => exact rfl); (case e => first | exact flat_dL _ | exact rfl))
      | ((with_reducible apply r_idxP); (case e => exact rfl))
      | ((with_reducible apply r_opt); (case e => exact rfl))
      | ((with_reducible apply r_idxC); (case e1 => (first | exact pk_cells _ | exact pk_at _ | exact pk_rest _ | exact rfl)); (case e2 => exact rfl))
      | ((with_reducible apply r_idxN); (case e1 => (first | exact pk_cells _ | exact pk_at _ | exact pk_rest _ | exact rfl)); (case e2 => exact rfl))
      | ((with_reducible apply s_C1); (case h1 => exact trivial))
      | ((with_reducible apply s_C2); (case h1 => exact rfl))
      | ((with_reducible apply r_asDn); (case e => first | exact toD_dL _ | with_reducible exact toD_two _ _ | ((repeat' (first | with_reducible exact toD_dL _ | assumption | with_reducible exact toD_dat _ | with_reducible exact toDL_nil | with_reducible apply toD_lst | with_reducible apply toD_tupO | with_reducible apply toD_dk | with_reducible apply toD_dt | with_reducible apply toDL_cons | exact rfl)); done) | exact rfl))
      | ((with_reducible apply r_asDp); (case e1 => exact rfl); (case e => first | exact toD_dL _ | exact rfl))
      | ((with_reducible apply r_rcvW); (case e => exact rfl))
      | ((with_reducible apply s_call); (case h1 => assumption))
      | with_reducible refine d_mul ?_ ?_
      | with_reducible refine d_mod ?_ ?_
      | with_reducible refine d_div ?_ ?_
      | with_reducible refine d_pow ?_ ?_
      | with_reducible refine d_addS ?_ ?_
      | with_reducible refine d_addL ?_ ?_
      | with_reducible refine d_addT ?_ ?_
      | with_reducible refine d_mulS ?_ ?_
      | with_reducible refine d_mulL ?_ ?_
      | with_reducible refine d_mulT ?_ ?_
      | with_reducible refine d_truS ?_ ?_
      | with_reducible refine d_lenS ?_ ?_
      | with_reducible refine d_slS ?_ ?_
      | with_reducible refine d_rng1 ?_ ?_
      | with_reducible refine d_rng2 ?_ ?_
      | with_reducible refine d_app ?_ ?_
      | with_reducible refine d_appL ?_ ?_
      | with_reducible refine d_repr ?_ ?_
      | with_reducible refine d_fmtS ?_ ?_
      | with_reducible refine r_lz ?_ ?_
      | with_reducible refine r_dn ?_ ?_
      | with_reducible refine r_zipL ?_ ?_
      | with_reducible refine r_zipT ?_ ?_
      | with_reducible refine b_ite (fun _ => ?_) (fun _ => ?_)
      | with_reducible refine b_iteN (fun _ => ?_) (fun _ => ?_)
      | with_reducible refine b_iteF (fun _ => ?_) (fun _ => ?_)
      | with_reducible refine b_iteNF (fun _ => ?_) (fun _ => ?_)
      | refine r_stabL rfl ?_
      | refine r_stabR rfl ?_
      | with_reducible refine p_cells ?_
      | with_reducible refine p_at ?_
      | with_reducible refine p_rest ?_
      | refine s_C1p (by exact rfl) (by assumption) ?_
      | refine c_draw (by exact rfl) (by assumption) ?_ (fun _ _ _ _ _ => ?_)
      | with_reducible refine d_eqE ?_
      | with_reducible refine d_neE ?_
      | with_reducible refine d_in ?_ ?_
      | with_reducible refine d_nin ?_ ?_
      | with_reducible refine d_eq ?_ ?_
      | with_reducible refine d_ne ?_ ?_
      | with_reducible refine b_anyN (fun _ => ?_) (fun _ => ?_)
      | with_reducible refine b_anyNF (fun _ => ?_) (fun _ => ?_)
      | with_reducible refine b_any (fun _ => ?_) (fun _ => ?_)
      | with_reducible refine d_popL ?_
      | ((with_reducible apply r_par); (case n1 => decide); (case n2 => (simp only [setS_len, backO_len, wipeO_len, List.length_cons, List.length_nil, List.length_set]; decide)); (case n3 => (simp only [setS_len, backO_len, wipeO_len, List.length_cons, List.length_nil, List.length_set]; decide)))
      | refine c_names (by exact rfl) (by assumption) ?_ (fun _ _ _ _ _ _ => ?_)
      | refine c_pen (fun _ _ => ?_)
      | with_reducible refine b_anyN (fun _ => ?_) (fun _ => ?_)
      | with_reducible refine b_anyNF (fun _ => ?_) (fun _ => ?_)
      | with_reducible refine b_anyF (fun _ => ?_) (fun _ => ?_)
      | ((with_reducible apply r_isi (b := true)); (case e1 => exact rfl); (case e2 => exact rfl))
      | ((with_reducible apply r_isi (b := false)); (case e1 => exact rfl); (case e2 => exact rfl))
      | ((with_reducible apply s_con); (case h1 => assumption))
      | with_reducible refine d_allM ?_
      | with_reducible refine d_anyM ?_
      | ((with_reducible apply r_itO); (case e => first | exact toD_dL _ | ((repeat' (first | with_reducible exact toD_dL _ | assumption | with_reducible exact toD_dat _ | with_reducible exact toDL_nil | with_reducible apply toD_lst | with_reducible apply toD_tupO | with_reducible apply toD_dk | with_reducible apply toD_dt | with_reducible apply toDL_cons | exact rfl)); done) | exact rfl))
      | ((with_reducible apply r_toDL); (case e => first | ((repeat' (first | with_reducible exact toD_dL _ | assumption | with_reducible exact toD_dat _ | with_reducible exact toDL_nil | with_reducible apply toD_lst | with_reducible apply toD_tupO | with_reducible apply toD_dk | with_reducible apply toD_dt | with_reducible apply toDL_cons | exact rfl)); done) | exact toDL_datL (datL_map _)))
      | ((with_reducible apply d_ixT); (case e => exact rfl))
      | ((with_reducible apply d_ixL); (case e => exact rfl))
      | ((with_reducible apply d_appO); (case e => exact rfl))
      | ((with_reducible apply r_itP); (case e1 => exact rfl))
      | with_reducible refine c_fn1 ?_ ?_
      | with_reducible refine c_fn2 ?_ ?_
      | ((with_reducible apply r_dcvK2); (case e => exact rfl))
      | ((with_reducible apply r_dcvT2); (case e => exact rfl))
      | ((with_reducible apply r_dcvK); (case e => exact rfl))
      | ((with_reducible apply r_dcvT); (case e => exact rfl))
      | with_reducible refine r_inT ?_
      | with_reducible refine r_inF ?_
      | with_reducible refine r_ninT ?_
      | with_reducible refine r_ninF ?_
      | refine c_volume (by exact rfl) (by assumption) ?_ (fun _ _ _ _ => ?_)
      | fail))
/-! ## promises over what the arguments stand for -/
theorem argsO_inl (ρ : Env) : ∀ ds : List PyData, argsO ρ (ds.map Sum.inl) = ds.map O.dat
  | [] => rfl
  | d :: ds => by
    show O.dat d :: argsO ρ (ds.map Sum.inl) = _
    rw [argsO_inl ρ ds]
    rfl
theorem ioA_inl : ∀ ds : List PyData, ioA (ds.map Sum.inl) = List.replicate ds.length false
  | [] => rfl
  | d :: ds => by
    show false :: ioA (ds.map Sum.inl) = _
    rw [ioA_inl ds]
    rfl
theorem iosA_inl : ∀ ds : List PyData, iosA (ds.map Sum.inl) = []
  | [] => rfl
  | d :: ds => by
    show iosA (ds.map Sum.inl) = _
    exact iosA_inl ds
theorem backA_inl (ρ : Env) : ∀ (ds : List PyData) (os : List O), backA ρ (ds.map Sum.inl) os = ρ
  | [], [] => rfl
  | [], _ :: _ => rfl
  | _ :: _, [] => rfl
  | d :: ds, o :: os => by
    show backA ρ (ds.map Sum.inl) os = _
    exact backA_inl ρ ds os
/-- what the arguments stand for, what then comes back; nothing is changed -/
def relS {α : Type} (k : Nat) (enc : α → List PyData) (pre : α → Prop) (R : α → O → Prop) : FS where
  io := List.replicate k false
  pre := fun os => ∃ a, os = (enc a).map O.dat ∧ pre a
  post := fun os r os' => ∀ a, os = (enc a).map O.dat → pre a → R a r
theorem c_rel {α : Type} {k : Nat} {enc : α → List PyData} {pre : α → Prop} {R : α → O → Prop} {ρ : Env} {Q : O → Env → Prop} (a : α) (hl : (enc a).length = k) (hp : pre a) (h : ∀ r, R a r → Q r ρ) : callQ (relS k enc pre R) ρ ((enc a).map Sum.inl) Q := by
  refine ⟨by rw [ioA_inl, hl]; rfl, by rw [iosA_inl]; exact List.nodup_nil, fun i hi => (by rw [iosA_inl] at hi; cases hi), ⟨a, argsO_inl _ _, hp⟩, fun r os z _ => ?_⟩
  rw [backA_inl]
  exact h r (z a (argsO_inl _ _) hp)
theorem p_rel {α : Type} {enc : α → List PyData} {pre : α → Prop} {R : α → O → Prop} {a : α} {r : O} (inj : ∀ a b, enc a = enc b → a = b) (h : R a r) : ∀ a', (enc a).map O.dat = (enc a').map O.dat → pre a' → R a' r := fun a' e _ => by
  have z := List.map_inj_right (fun a b w => O.dat.inj w) |>.mp e
  rw [← inj a a' z]
  exact h
theorem p_relS {α : Type} {k : Nat} {enc : α → List PyData} {pre : α → Prop} {R : α → O → Prop} (a : α) {r : O} {os' : List O} (inj : ∀ a b, enc a = enc b → a = b) (h : R a r) : (relS k enc pre R).post ((enc a).map O.dat) r os' := p_rel inj h
/-- .. and a pen that is drawn from -/
def dranS {α : Type} (k : Nat) (enc : α → List PyData) (cost : Nat) (pre : α → Prop) (R : α → O → Prop) : FS where
  io := true :: List.replicate k false
  pre := fun os => ∃ o a b, os = o :: (enc a).map O.dat ∧ Pn b o ∧ b + cost ≤ 1000000 ∧ pre a
  post := fun os r os' => ∀ o a, os = o :: (enc a).map O.dat → pre a → R a r ∧ ∃ o', os' = o' :: List.replicate k .un ∧ ∀ b, Pn b o → Pn (b + cost) o'
theorem c_dran {α : Type} {k : Nat} {enc : α → List PyData} {cost : Nat} {pre : α → Prop} {R : α → O → Prop} {ρ : Env} {i b : Nat} {o : O} {Q : O → Env → Prop} (a : α) (e : ρ[i]? = some o) (p : Pn b o) (hl : (enc a).length = k) (c : b + cost ≤ 1000000) (hp : pre a)
    (h : ∀ r o', R a r → Pn (b + cost) o' → Q r (ρ.set i o')) : callQ (dranS k enc cost pre R) ρ (.inr i :: (enc a).map Sum.inl) Q := by
  have ea : argsO ρ (.inr i :: (enc a).map Sum.inl) = o :: (enc a).map O.dat := by
    show (ρ[i]?.getD .un) :: argsO ρ ((enc a).map Sum.inl) = _
    rw [e, argsO_inl]
    rfl
  have ei : iosA (.inr i :: (enc a).map Sum.inl) = [i] := by
    show i :: iosA ((enc a).map Sum.inl) = _
    rw [iosA_inl]
  refine ⟨?_, by rw [ei]; simp, fun j hj => ?_, ⟨o, a, b, ea, p, c, hp⟩, fun r os z _ => ?_⟩
  · show true :: ioA ((enc a).map Sum.inl) = true :: List.replicate k false
    rw [ioA_inl, hl]
  · rw [ei] at hj
    rw [List.mem_singleton.mp hj]
    exact lt_of_get e
  · obtain ⟨hr, o', rfl, hb⟩ := z o a ea hp
    have eb : backA ρ (.inr i :: (enc a).map Sum.inl) (o' :: List.replicate k .un) = ρ.set i o' := by
      show (backA ρ ((enc a).map Sum.inl) (List.replicate k .un)).set i o' = _
      rw [backA_inl]
    rw [eb]
    exact h r o' hr (hb b p)
theorem p_dran {α : Type} {k cost : Nat} {enc : α → List PyData} {pre : α → Prop} {R : α → O → Prop} {a : α} {o o' : O} {r : O} (inj : ∀ a b, enc a = enc b → a = b) (h : R a r) (hb : ∀ b, Pn b o → Pn (b + cost) o') :
    ∀ o2 a', o :: (enc a).map O.dat = o2 :: (enc a').map O.dat → pre a' → R a' r ∧ ∃ o3, (o' :: List.replicate k O.un) = o3 :: List.replicate k .un ∧ ∀ b, Pn b o2 → Pn (b + cost) o3 := fun o2 a' e _ => by
  obtain ⟨e1, e2⟩ := List.cons.inj e
  subst e1
  have z := List.map_inj_right (fun a b w => O.dat.inj w) |>.mp e2
  rw [← inj a a' z]
  exact ⟨h, o', rfl, hb⟩
theorem p_dranS {α : Type} {k cost : Nat} {enc : α → List PyData} {pre : α → Prop} {R : α → O → Prop} (a : α) {o o' : O} {r : O} (inj : ∀ a b, enc a = enc b → a = b) (h : R a r) (hb : ∀ b, Pn b o → Pn (b + cost) o') : (dranS k enc cost pre R).post (o :: (enc a).map O.dat) r (o' :: List.replicate k O.un) := p_dran inj h hb
/-- a loop over what a list's items stand for -/
theorem s_loopE {ρ : Env} {α : Type} {chk : Env → Prop} {stp : PyData → Env → (Env → Prop) → Prop} {l : List α} {g : α → PyData} {K : Env → Prop} (I : Nat → Env → Prop) (h0 : I 0 ρ) (hc : ∀ i ρ, i ≤ l.length → I i ρ → chk ρ)
    (hs : ∀ i a ρ (k : Env → Prop), l[i]? = some a → I i ρ → (∀ ρ', I (i + 1) ρ' → k ρ') → stp (g a) ρ k) (he : ∀ ρ, I l.length ρ → K ρ) : loopS chk stp (l.map g) ρ K := by
  refine s_loop I h0 (fun i ρ hi => hc i ρ (by rw [List.length_map] at hi; exact hi)) (fun i d ρ k hi hI hk => ?_) (fun ρ h => he ρ (by rw [List.length_map] at h; exact h))
  rw [List.getElem?_map] at hi
  cases e : l[i]? with
  | none => rw [e] at hi; cases hi
  | some a =>
    rw [e] at hi
    cases hi
    exact hs i a ρ k e hI hk
/-- .. with its index -/
theorem s_loopN {ρ : Env} {α : Type} {chk : Env → Prop} {stp : PyData → Env → (Env → Prop) → Prop} {l : List α} {g : α → PyData} {K : Env → Prop} (I : Nat → Env → Prop) (h0 : I 0 ρ) (hc : ∀ i ρ, i ≤ l.length → I i ρ → chk ρ)
    (hs : ∀ (i : Nat) a ρ (k : Env → Prop), l[i]? = some a → I i ρ → (∀ ρ', I (i + 1) ρ' → k ρ') → stp (.tuple [.int i, g a]) ρ k) (he : ∀ ρ, I l.length ρ → K ρ) : loopS chk stp (enuD (l.map g)) ρ K := by
  have hl : (enuD (l.map g)).length = l.length := by unfold enuD; rw [List.length_mapIdx, List.length_map]
  refine s_loop I h0 (fun i ρ hi => hc i ρ (by rw [hl] at hi; exact hi)) (fun i d ρ k hi hI hk => ?_) (fun ρ h => he ρ (by rw [hl] at h; exact h))
  unfold enuD at hi
  rw [List.getElem?_mapIdx, List.getElem?_map] at hi
  cases e : l[i]? with
  | none => rw [e] at hi; cases hi
  | some a =>
    rw [e] at hi
    cases hi
    exact hs i a ρ k e hI hk
/-- a loop over so many numbers -/
theorem s_loopR {ρ : Env} {chk : Env → Prop} {stp : PyData → Env → (Env → Prop) → Prop} {n : Nat} {K : Env → Prop} (I : Nat → Env → Prop) (h0 : I 0 ρ) (hc : ∀ i ρ, i ≤ n → I i ρ → chk ρ)
    (hs : ∀ (i : Nat) ρ (k : Env → Prop), i < n → I i ρ → (∀ ρ', I (i + 1) ρ' → k ρ') → stp (.int i) ρ k) (he : ∀ ρ, I n ρ → K ρ) : loopS chk stp (rangeD 0 (n : Int)) ρ K := by
  have hl : (rangeD 0 (n : Int)).length = n := by simp [rangeD]
  refine s_loop I h0 (fun i ρ hi => hc i ρ (by rw [hl] at hi; exact hi)) (fun i d ρ k hi hI hk => ?_) (fun ρ h => he ρ (by rw [hl] at h; exact h))
  have lt : i < n := by have := lt_of_get hi; rw [hl] at this; exact this
  have ed : d = .int (i : Int) := by
    simp [rangeD, lt] at hi
    exact hi.symm
  subst ed
  exact hs i ρ k lt hI hk
/-! ## paths -/
def pathD (xs : List Str) : PyData := .tuple (sD xs)
theorem sD_inj : ∀ (a b : List Str), sD a = sD b → a = b
  | [], [], _ => rfl
  | [], _ :: _, h => by cases h
  | _ :: _, [], h => by cases h
  | x :: a, y :: b, h => by
    have h1 := PyData.str.inj (List.cons.inj h).1
    rw [h1, sD_inj a b (List.cons.inj h).2]
theorem pathD_inj (a b : List Str) (h : pathD a = pathD b) : a = b := sD_inj a b (PyData.tuple.inj h)
theorem list_map_inj {α β : Type} {f : α → β} (inj : ∀ a b, f a = f b → a = b) : ∀ (a b : List α), a.map f = b.map f → a = b
  | [], [], _ => rfl
  | [], _ :: _, h => by cases h
  | _ :: _, [], h => by cases h
  | x :: a, y :: b, h => by
    rw [inj x y (List.cons.inj h).1, list_map_inj inj a b (List.cons.inj h).2]
def NmS (xs : List Str) : Prop := ∀ x, x ∈ xs → nmS x
theorem NmS.app {xs ys : List Str} (h : NmS xs) (k : NmS ys) : NmS (xs ++ ys) := fun x hx => (List.mem_append.mp hx).elim (h x) (k x)
theorem NmS.take {xs : List Str} (h : NmS xs) (n : Nat) : NmS (xs.take n) := fun x hx => h x (List.mem_of_mem_take hx)
theorem NmS.drop {xs : List Str} (h : NmS xs) (n : Nat) : NmS (xs.drop n) := fun x hx => h x (List.mem_of_mem_drop hx)
theorem NmS.one {x : Str} (h : nmS x) : NmS [x] := fun y hy => by rw [List.mem_singleton.mp hy]; exact h
theorem NmS.nil : NmS [] := fun _ h => nomatch h
/-- a path -/
def PathOk (xs : List Str) : Prop := 1 ≤ xs.length ∧ xs.length ≤ 16 ∧ NmS xs
theorem NmS.ly {xs : List Str} (h : NmS xs) : Ly 1 (pathD xs) := Ly.tuple (n := 0) fun d hd => by
  obtain ⟨x, hx, rfl⟩ := List.mem_map.mp hd
  exact Ly.name (nmS.d (h x hx))
theorem NmS.nz {xs : List Str} (h : NmS xs) (k : xs.length ≤ 32) : Nz 1 2691 (pathD xs) :=
  (Nz.tuple (n := 0) (s := 82) (k := 32) (fun x hx => by
    obtain ⟨y, hy, rfl⟩ := List.mem_map.mp hx
    exact Nz.name (nmS.d (h y hy))) (by rw [sD_len]; exact k)).mono (by decide) (by decide)
theorem d_eqP {xs ys : List Str} {Q : Bool → Prop} (h1 : NmS xs) (h2 : NmS ys) (h : Q (decide (xs = ys))) : cmpD .Eq (.tuple (sD xs)) (.tuple (sD ys)) Q := by
  refine d_eq ⟨h1.ly.shaped (by decide), h2.ly.shaped (by decide)⟩ ?_
  show Q (PyData.eqvAll (sD xs) (sD ys))
  rw [eqvAll_sD]
  exact h
theorem d_slP0 {xs : List Str} {k : Int} {QO : O → Prop} (c : 0 ≤ k) (h : QO (.dat (.tuple (sD (xs.take k.toNat))))) : slD (.tuple (sD xs)) none (some k) QO := d_slT0 c (by rw [show (sD xs).take k.toNat = sD (xs.take k.toNat) from (List.map_take ..).symm]; exact h)
theorem d_slP1 {xs : List Str} {k : Int} {QO : O → Prop} (c : 0 ≤ k) (h : QO (.dat (.tuple (sD (xs.drop k.toNat))))) : slD (.tuple (sD xs)) (some k) none QO := d_slT1 c (by rw [show (sD xs).drop k.toNat = sD (xs.drop k.toNat) from (List.map_drop ..).symm]; exact h)
theorem d_addP {xs ys : List Str} {QO : O → Prop} (c : xs.length + ys.length ≤ sizeLine) (h : QO (.dat (.tuple (sD (xs ++ ys))))) : binD .Add (.tuple (sD xs)) (.tuple (sD ys)) QO := d_addT (by rw [sD_len, sD_len]; exact c) (by rw [show sD xs ++ sD ys = sD (xs ++ ys) from (List.map_append ..).symm]; exact h)
theorem d_addP1 {xs : List Str} {y : Str} {QO : O → Prop} (c : xs.length + 1 ≤ sizeLine) (h : QO (.dat (.tuple (sD (xs ++ [y]))))) : binD .Add (.tuple (sD xs)) (.tuple [.str y]) QO := d_addP (ys := [y]) c h
theorem d_lenP {xs : List Str} {QO : O → Prop} (h : QO (.dat (.int xs.length))) : bltD .len [.tuple (sD xs)] QO := d_lenT (by rw [sD_len]; exact h)
def isPre (p q : List Str) : Bool := decide (q.take p.length = p)
theorem isPre_refl (p : List Str) : isPre p p = true := by simp [isPre]
abbrev isprefS : FS := relS 2 (fun a : List Str × List Str => [pathD a.1, pathD a.2]) (fun a => NmS a.1 ∧ NmS a.2) fun a r => r = .dat (.bool (isPre a.1 a.2))
theorem two_inj {α β : Type} {f : α → PyData} {g : β → PyData} (hf : ∀ a b, f a = f b → a = b) (hg : ∀ a b, g a = g b → a = b) (a b : α × β) (h : [f a.1, g a.2] = [f b.1, g b.2]) : a = b := by
  obtain ⟨a1, a2⟩ := a
  obtain ⟨b1, b2⟩ := b
  have e1 := (List.cons.inj h).1
  have e2 := (List.cons.inj (List.cons.inj h).2).1
  rw [hf a1 b1 e1, hg a2 b2 e2]
theorem one_inj {α : Type} {f : α → PyData} (hf : ∀ a b, f a = f b → a = b) (a b : α) (h : [f a] = [f b]) : a = b := hf a b (List.cons.inj h).1
theorem three_inj {α β γ : Type} {f : α → PyData} {g : β → PyData} {u : γ → PyData} (hf : ∀ a b, f a = f b → a = b) (hg : ∀ a b, g a = g b → a = b) (hu : ∀ a b, u a = u b → a = b) (a b : α × β × γ) (h : [f a.1, g a.2.1, u a.2.2] = [f b.1, g b.2.1, u b.2.2]) : a = b := by
  obtain ⟨a1, a2, a3⟩ := a
  obtain ⟨b1, b2, b3⟩ := b
  have e1 := (List.cons.inj h).1
  have e2 := (List.cons.inj (List.cons.inj h).2).1
  have e3 := (List.cons.inj (List.cons.inj (List.cons.inj h).2).2).1
  rw [hf a1 b1 e1, hg a2 b2 e2, hu a3 b3 e3]
def b_isprefix : List CS := [
  .ret (.cmp .Eq (.sl (.var 1) [] [(.blt .len [(.var 0)])]) (.var 0))]
def n_isprefix : List Str := ["path", "other"]
theorem isPre_app (p q : List Str) : isPre p (p ++ q) = true := by simp [isPre]
theorem isPre_iff {p q : List Str} : isPre p q = true ↔ ∃ r, q = p ++ r := by
  constructor
  · intro h
    exact ⟨q.drop p.length, by
      have e := of_decide_eq_true h
      have z := List.take_append_drop p.length q
      rw [e] at z
      exact z.symm⟩
  · rintro ⟨r, rfl⟩
    exact isPre_app p r
theorem ispref_ok {G : Gm} : isprefS.Ok G b_isprefix 2 0 := by
  rintro os ho ⟨⟨p, q⟩, rfl, hp, hq⟩
  unfold b_isprefix
  show evB G _ [.dat (.tuple (sD p)), .dat (.tuple (sD q))] _
  walk_at "vc"
  · omega
  · exact hq.take _
  · exact hp
  rw [Int.toNat_natCast]
  exact p_relS (p, q) (two_inj pathD_inj pathD_inj) rfl
end VS

namespace VS
open PySem PySem.Spec PyProof.Rows L2
set_option hygiene false
local macro_rules | `(tactic| walk_at "vc") => `(tactic| repeat' (first
      | ((with_reducible apply s_consN); (case e => (first | (dsimp only [backO, wipeO, List.map, setS, getS, O.setP, O.getP, List.set_cons_zero, List.set_cons_succ, List.getElem?_cons_zero, List.getElem?_cons_succ]; first | done | exact rfl) | exact rfl)))
      | with_reducible refine s_nil ?_
      | with_reducible refine d_eqP ?_ ?_ ?_
      | with_reducible refine d_lenP ?_
      | with_reducible refine d_slP0 ?_ ?_
      | with_reducible refine d_slP1 ?_ ?_
      | with_reducible refine d_addP ?_ ?_
      | with_reducible refine d_addP1 ?_ ?_
      | with_reducible refine d_slT0 ?_ ?_
      | with_reducible refine d_slT1 ?_ ?_
      | with_reducible refine d_slL0 ?_ ?_
      | with_reducible refine d_slL1 ?_ ?_
      | with_reducible refine s_set ?_
      | with_reducible refine s_if ?_
      | with_reducible refine s_for ?_
      | with_reducible refine s_ex ?_
      | with_reducible refine s_ret ?_
      | with_reducible refine s_retN ?_
      | with_reducible refine s_pass ?_
      | with_reducible refine s_brk ?_
      | with_reducible refine s_cont ?_
      | with_reducible refine s_put ?_
      | with_reducible refine s_augP ?_
      | with_reducible refine s_par ?_
      | with_reducible refine s_T ?_
      | with_reducible refine s_bin ?_
      | with_reducible refine s_cmp ?_
      | with_reducible refine s_idx ?_
      | with_reducible refine s_int ?_
      | with_reducible refine s_str ?_
      | with_reducible refine s_bl ?_
      | with_reducible refine s_non ?_
      | with_reducible refine s_lst ?_
      | with_reducible refine s_tup ?_
      | with_reducible refine s_dct ?_
      | with_reducible refine s_dnewK ?_
      | with_reducible refine s_dnewT ?_
      | with_reducible refine s_neg ?_
      | with_reducible refine s_chn ?_
      | with_reducible refine s_bop ?_
      | with_reducible refine s_bop1 ?_
      | with_reducible refine s_bop2 ?_
      | with_reducible refine s_nt ?_
      | with_reducible refine s_ife ?_
      | with_reducible refine s_sl ?_
      | with_reducible refine s_isi ?_
      | with_reducible refine s_comp ?_
      | with_reducible refine s_blt ?_
      | with_reducible refine s_mth ?_
      | with_reducible refine s_mmt ?_
      | with_reducible refine s_rng ?_
      | with_reducible refine s_enu ?_
      | with_reducible refine s_zip ?_
      | with_reducible refine s_lzip ?_
      | with_reducible refine s_dof ?_
      | with_reducible refine s_upd ?_
      | with_reducible refine s_rng3 ?_
      | with_reducible refine s_get1 ?_
      | with_reducible refine s_get2 ?_
      | with_reducible refine s_isin ?_
      | with_reducible refine s_fst ?_
      | with_reducible refine s_F0 ?_
      | with_reducible refine s_F1 ?_
      | with_reducible refine s_rev ?_
      | with_reducible refine s_fl ?_
      | with_reducible refine r_onNdD ?_
      | with_reducible refine r_onNdL ?_
      | with_reducible refine s_frz ?_
      | with_reducible refine s_dctT ?_
      | with_reducible refine r_notT ?_
      | with_reducible refine r_notF ?_
      | with_reducible refine r_notB ?_
      | with_reducible refine d_revL ?_
      | with_reducible refine s_L0 ?_
      | with_reducible refine s_L1 ?_
      | with_reducible refine s_H0 ?_
      | with_reducible refine s_H1 ?_
      | with_reducible refine s_C0 ?_
      | with_reducible refine s_P0 ?_
      | with_reducible refine s_P1 ?_
      | with_reducible refine s_O0 ?_
      | with_reducible refine s_O1 ?_
      | with_reducible refine s_Ts0 ?_
      | with_reducible refine s_Ts1 ?_
      | with_reducible refine r_asDd ?_
      | with_reducible refine r_asDl ?_
      | with_reducible refine r_asOo ?_
      | with_reducible refine r_asOp ?_
      | with_reducible refine r_holdD ?_
      | with_reducible refine r_holdP ?_
      | with_reducible refine r_holdO ?_
      | with_reducible refine r_vwD ?_
      | with_reducible refine r_vws0 ?_
      | with_reducible refine r_vws1 ?_
      | with_reducible refine r_stabO ?_
      | with_reducible refine r_stabP ?_
      | with_reducible refine r_stabT ?_
      | with_reducible refine r_idxO ?_
      | with_reducible refine r_itL ?_
      | with_reducible refine r_itT ?_
      | with_reducible refine r_itS ?_
      | with_reducible refine r_itI ?_
      | with_reducible refine r_itV ?_
      | with_reducible refine r_onPl ?_
      | with_reducible refine r_onInt ?_
      | with_reducible refine r_seqL ?_
      | with_reducible refine r_seqT ?_
      | with_reducible refine r_onDat ?_
      | with_reducible refine r_rcvM ?_
      | with_reducible refine d_add ?_
      | with_reducible refine d_sub ?_
      | with_reducible refine d_lt ?_
      | with_reducible refine d_le ?_
      | with_reducible refine d_gt ?_
      | with_reducible refine d_ge ?_
      | with_reducible refine d_inS ?_
      | with_reducible refine d_ninS ?_
      | with_reducible refine d_augA ?_
      | with_reducible refine d_augS ?_
      | with_reducible refine r_mutL ?_
      | with_reducible refine d_eqS ?_
      | with_reducible refine d_neS ?_
      | with_reducible refine d_eqI ?_
      | with_reducible refine d_neI ?_
      | with_reducible refine d_is ?_
      | with_reducible refine d_isn ?_
      | with_reducible refine d_truB ?_
      | with_reducible refine d_truI ?_
      | with_reducible refine d_truL ?_
      | with_reducible refine d_truT ?_
      | with_reducible refine d_truN ?_
      | with_reducible refine d_lenL ?_
      | with_reducible refine d_lenT ?_
      | with_reducible refine d_listL ?_
      | with_reducible refine d_listT ?_
      | with_reducible refine d_tupL ?_
      | with_reducible refine d_tupT ?_
      | with_reducible refine d_abs ?_
      | with_reducible refine d_intI ?_
      | with_reducible refine d_intB ?_
      | with_reducible refine d_min ?_
      | with_reducible refine d_max ?_
      | with_reducible refine d_slL ?_
      | with_reducible refine d_slX ?_
      | with_reducible refine d_slT ?_
      | with_reducible refine b_T ?_
      | with_reducible refine b_F ?_
      | with_reducible refine b_TF ?_
      | with_reducible refine b_FF ?_
      | with_reducible refine s_tp ?_
      | with_reducible refine s_tnil ?_
      | with_reducible refine s_tcons ?_
      | ((with_reducible apply s_varD); (case h1 => exact rfl))
      | ((with_reducible apply s_varN); (case h1 => exact rfl))
      | ((with_reducible apply s_mvD); (case h1 => exact rfl))
      | ((with_reducible apply s_mvL); (case h1 => with_reducible exact rfl))
      | ((with_reducible apply s_mvN); (case h1 => exact rfl))
      | ((with_reducible apply s_nm); (case h1 => (simp only [setS_len, backO_len, wipeO_len, List.length_cons, List.length_nil, List.length_set]; decide)))
      | ((with_reducible apply r_vwP); (case e1 => exact rfl); (case e => first | exact flat_dL _ | exact rfl))
      | ((with_reducible apply r_idxP); (case e => exact rfl))
      | ((with_reducible apply r_opt); (case e => exact rfl))
      | ((with_reducible apply r_idxC); (case e1 => (first | exact pk_cells _ | exact pk_at _ | exact pk_rest _ | exact rfl)); (case e2 => exact rfl))
      | ((with_reducible apply r_idxN); (case e1 => (first | exact pk_cells _ | exact pk_at _ | exact pk_rest _ | exact rfl)); (case e2 => exact rfl))
      | ((with_reducible apply s_C1); (case h1 => exact trivial))
      | ((with_reducible apply s_C2); (case h1 => exact rfl))
      | ((with_reducible apply r_asDn); (case e => first | exact toD_dL _ | with_reducible exact toD_two _ _ | ((repeat' (first | with_reducible exact toD_dL _ | assumption | with_reducible exact toD_dat _ | with_reducible exact toDL_nil | with_reducible apply toD_lst | with_reducible apply toD_tupO | with_reducible apply toD_dk | with_reducible apply toD_dt | with_reducible apply toDL_cons | exact rfl)); done) | exact rfl))
      | ((with_reducible apply r_asDp); (case e1 => exact rfl); (case e => first | exact toD_dL _ | exact rfl))
      | ((with_reducible apply r_rcvW); (case e => exact rfl))
      | ((with_reducible apply s_call); (case h1 => assumption))
      | with_reducible refine d_mul ?_ ?_
      | with_reducible refine d_mod ?_ ?_
      | with_reducible refine d_div ?_ ?_
      | with_reducible refine d_pow ?_ ?_
      | with_reducible refine d_addS ?_ ?_
      | with_reducible refine d_addL ?_ ?_
      | with_reducible refine d_addT ?_ ?_
      | with_reducible refine d_mulS ?_ ?_
      | with_reducible refine d_mulL ?_ ?_
      | with_reducible refine d_mulT ?_ ?_
      | with_reducible refine d_truS ?_ ?_
      | with_reducible refine d_lenS ?_ ?_
      | with_reducible refine d_slS ?_ ?_
      | with_reducible refine d_rng1 ?_ ?_
      | with_reducible refine d_rng2 ?_ ?_
      | with_reducible refine d_app ?_ ?_
      | with_reducible refine d_appL ?_ ?_
      | with_reducible refine d_repr ?_ ?_
      | with_reducible refine d_fmtS ?_ ?_
      | with_reducible refine r_lz ?_ ?_
      | with_reducible refine r_dn ?_ ?_
      | with_reducible refine r_zipL ?_ ?_
      | with_reducible refine r_zipT ?_ ?_
      | with_reducible refine b_ite (fun _ => ?_) (fun _ => ?_)
      | with_reducible refine b_iteN (fun _ => ?_) (fun _ => ?_)
      | with_reducible refine b_iteF (fun _ => ?_) (fun _ => ?_)
      | with_reducible refine b_iteNF (fun _ => ?_) (fun _ => ?_)
      | refine r_stabL rfl ?_
      | refine r_stabR rfl ?_
      | with_reducible refine p_cells ?_
      | with_reducible refine p_at ?_
      | with_reducible refine p_rest ?_
      | refine s_C1p (by exact rfl) (by assumption) ?_
      | refine c_draw (by exact rfl) (by assumption) ?_ (fun _ _ _ _ _ => ?_)
      | with_reducible refine d_eqE ?_
      | with_reducible refine d_neE ?_
      | with_reducible refine d_in ?_ ?_
      | with_reducible refine d_nin ?_ ?_
      | with_reducible refine d_eq ?_ ?_
      | with_reducible refine d_ne ?_ ?_
      | with_reducible refine b_anyN (fun _ => ?_) (fun _ => ?_)
      | with_reducible refine b_anyNF (fun _ => ?_) (fun _ => ?_)
      | with_reducible refine b_any (fun _ => ?_) (fun _ => ?_)
      | with_reducible refine d_popL ?_
      | ((with_reducible apply r_par); (case n1 => decide); (case n2 => (simp only [setS_len, backO_len, wipeO_len, List.length_cons, List.length_nil, List.length_set]; decide)); (case n3 => (simp only [setS_len, backO_len, wipeO_len, List.length_cons, List.length_nil, List.length_set]; decide)))
      | refine c_names (by exact rfl) (by assumption) ?_ (fun _ _ _ _ _ _ => ?_)
      | refine c_pen (fun _ _ => ?_)
      | with_reducible refine b_anyN (fun _ => ?_) (fun _ => ?_)
      | with_reducible refine b_anyNF (fun _ => ?_) (fun _ => ?_)
      | with_reducible refine b_anyF (fun _ => ?_) (fun _ => ?_)
      | ((with_reducible apply r_isi (b := true)); (case e1 => exact rfl); (case e2 => exact rfl))
      | ((with_reducible apply r_isi (b := false)); (case e1 => exact rfl); (case e2 => exact rfl))
      | ((with_reducible apply s_con); (case h1 => assumption))
      | with_reducible refine d_allM ?_
      | with_reducible refine d_anyM ?_
      | ((with_reducible apply r_itO); (case e => first | exact toD_dL _ | ((repeat' (first | with_reducible exact toD_dL _ | assumption | with_reducible exact toD_dat _ | with_reducible exact toDL_nil | with_reducible apply toD_lst | with_reducible apply toD_tupO | with_reducible apply toD_dk | with_reducible apply toD_dt | with_reducible apply toDL_cons | exact rfl)); done) | exact rfl))
      | ((with_reducible apply r_toDL); (case e => first | ((repeat' (first | with_reducible exact toD_dL _ | assumption | with_reducible exact toD_dat _ | with_reducible exact toDL_nil | with_reducible apply toD_lst | with_reducible apply toD_tupO | with_reducible apply toD_dk | with_reducible apply toD_dt | with_reducible apply toDL_cons | exact rfl)); done) | exact toDL_datL (datL_map _)))
      | ((with_reducible apply d_ixT); (case e => exact rfl))
      | ((with_reducible apply d_ixL); (case e => exact rfl))
      | ((with_reducible apply d_appO); (case e => exact rfl))
      | ((with_reducible apply r_itP); (case e1 => exact rfl))
      | with_reducible refine c_fn1 ?_ ?_
      | with_reducible refine c_fn2 ?_ ?_
      | ((with_reducible apply r_dcvK2); (case e => exact rfl))
      | ((with_reducible apply r_dcvT2); (case e => exact rfl))
      | ((with_reducible apply r_dcvK); (case e => exact rfl))
      | ((with_reducible apply r_dcvT); (case e => exact rfl))
      | with_reducible refine r_inT ?_
      | with_reducible refine r_inF ?_
      | with_reducible refine r_ninT ?_
      | with_reducible refine r_ninF ?_
      | refine c_volume (by exact rfl) (by assumption) ?_ (fun _ _ _ _ => ?_)
      | fail))
/-! ## walks of a tree -/
mutual
def Tr.wk (ah : List Str) : Tr → List (List Str × Tr)
  | .dr _ es => es.wk ah
  | _ => []
def Es.wk (ah : List Str) : Es → List (List Str × Tr)
  | .nil => []
  | .cons s t r => (ah ++ [s], t) :: (t.wk (ah ++ [s]) ++ r.wk ah)
end
def wkS (ah : List Str) (p : Str × Tr) : List (List Str × Tr) := (ah ++ [p.1], p.2) :: p.2.wk (ah ++ [p.1])
theorem Es.wk_toL (ah : List Str) : ∀ es : Es, es.wk ah = es.toL.flatMap (wkS ah)
  | .nil => rfl
  | .cons s t r => by
    show (ah ++ [s], t) :: (t.wk (ah ++ [s]) ++ r.wk ah) = wkS ah (s, t) ++ r.toL.flatMap (wkS ah)
    rw [Es.wk_toL ah r]
    rfl
mutual
theorem Tr.wk_len (ah : List Str) : ∀ {t : Tr}, t.ok → (t.wk ah).length ≤ 4 * t.nd
  | .no, _ => Nat.zero_le _
  | .fl _, _ => Nat.zero_le _
  | .dr l es, h => by
    have z := Es.wk_len ah h.2.2.2
    have l4 := h.2.2.1
    show (es.wk ah).length ≤ 4 * (es.nd + 1)
    omega
theorem Es.wk_len (ah : List Str) : ∀ {es : Es}, es.ok → (es.wk ah).length ≤ es.len + 4 * es.nd
  | .nil, _ => Nat.zero_le _
  | .cons s t r, h => by
    have a := Tr.wk_len (ah ++ [s]) h.2.1
    have b := Es.wk_len ah h.2.2
    show ((ah ++ [s], t) :: (t.wk (ah ++ [s]) ++ r.wk ah)).length ≤ (r.len + 1) + 4 * (t.nd + r.nd)
    rw [List.length_cons, List.length_append]
    omega
end
mutual
theorem Tr.wk_mem {ah : List Str} {n : Nat} : ∀ {t : Tr}, t.ok → t.dep ≤ n → NmS ah → ∀ {p : List Str × Tr}, p ∈ t.wk ah → NmS p.1 ∧ ah.length < p.1.length ∧ p.1.length + p.2.dep ≤ ah.length + n ∧ p.2.ok ∧ p.2.nd ≤ t.nd
  | .no, _, _, _, _, z => nomatch z
  | .fl _, _, _, _, _, z => nomatch z
  | .dr l es, h, hd, ha, p, hp => by
    have d1 : es.dep + 1 ≤ n := hd
    obtain ⟨m, rfl⟩ : ∃ m, n = m + 1 := ⟨n - 1, by omega⟩
    obtain ⟨a, b, c, d, e⟩ := Es.wk_mem (n := m) h.2.2.2 (by omega) ha hp
    exact ⟨a, b, by omega, d, by show p.2.nd ≤ es.nd + 1; omega⟩
theorem Es.wk_mem {ah : List Str} {n : Nat} : ∀ {es : Es}, es.ok → es.dep ≤ n → NmS ah → ∀ {p : List Str × Tr}, p ∈ es.wk ah → NmS p.1 ∧ ah.length < p.1.length ∧ p.1.length + p.2.dep ≤ ah.length + (n + 1) ∧ p.2.ok ∧ p.2.nd ≤ es.nd
  | .nil, _, _, _, _, z => nomatch z
  | .cons s t r, h, hd, ha, p, hp => by
    have d1 : max t.dep r.dep ≤ n := hd
    have d2 : t.dep ≤ n := Nat.le_trans (Nat.le_max_left ..) d1
    have d3 : r.dep ≤ n := Nat.le_trans (Nat.le_max_right ..) d1
    have l1 : (ah ++ [s]).length = ah.length + 1 := by simp
    have nn : NmS (ah ++ [s]) := ha.app (NmS.one h.1)
    rcases List.mem_cons.mp hp with z | z
    · rw [z]
      exact ⟨nn, by rw [l1]; omega, by rw [l1]; show ah.length + 1 + t.dep ≤ _; omega, h.2.1, Nat.le_add_right _ _⟩
    · rcases List.mem_append.mp z with z | z
      · obtain ⟨a, b, c, d, e⟩ := Tr.wk_mem h.2.1 d2 nn z
        rw [l1] at b c
        exact ⟨a, by omega, by omega, d, by show p.2.nd ≤ t.nd + r.nd; omega⟩
      · obtain ⟨a, b, c, d, e⟩ := Es.wk_mem h.2.2 d3 ha z
        exact ⟨a, b, c, d, by show p.2.nd ≤ t.nd + r.nd; omega⟩
end
def wkD (p : List Str × Tr) : PyData := .tuple [pathD p.1, p.2.d]
abbrev walkS (n : Nat) : FS := relS 2 (fun a : Tr × List Str => [a.1.d, pathD a.2]) (fun a => a.1.ok ∧ a.1.dep < n ∧ a.1.nd ≤ 16 ∧ a.2.length + a.1.dep ≤ 1000) fun a r => r = dL ((a.1.wk a.2).map wkD)
theorem walk_inj : ∀ a b : Tr × List Str, [a.1.d, pathD a.2] = [b.1.d, pathD b.2] → a = b := two_inj Tr.d_inj pathD_inj
theorem Tr.noScr (t : Tr) : isScr t.d = false := by cases t <;> rfl
theorem flatMap_take {α β : Type} {f : α → List β} {l : List α} {i : Nat} {a : α} (e : l[i]? = some a) : (l.take (i + 1)).flatMap f = (l.take i).flatMap f ++ f a := by
  rw [take_snoc e, List.flatMap_append]
  simp
theorem flatMap_le {α β : Type} {f : α → List β} : ∀ {l : List α} (i : Nat), ((l.take i).flatMap f).length ≤ (l.flatMap f).length
  | [], i => by simp
  | a :: l, 0 => by simp
  | a :: l, i + 1 => by
    rw [List.take_succ_cons, List.flatMap_cons, List.flatMap_cons, List.length_append, List.length_append]
    have := flatMap_le (f := f) (l := l) i
    omega
def n_lwalk : List Str := ["_law_held", "_law_ahead", "_law_found", "_law_slot", "_law_inner"]
def b_lwalk : List CS := [
  .set (.nm 2) (.lst []),
  .ife (.isi (.var 0) .tuple_) [
    .for_ (.tp [(.nm 3), (.nm 4)]) (.idx (.var 0) (.int 1)) [
      .ex (.mmt .append (.var 2) [(.tup [(.bin .Add (.var 1) (.tup [(.var 3)])), (.var 4)])]),
      .set (.nm 2) (.bin .Add (.var 2) (.call "_law_walk" [(.var 4), (.bin .Add (.var 1) (.tup [(.var 3)]))]))]] [],
  .ret (.mv 2)]
theorem lwalk_ok {G : Gm} {n : Nat} (h1 : G.fn "_law_walk" = some (walkS n)) : (walkS (n + 1)).Ok G b_lwalk 2 3 := by
  rintro os ho ⟨⟨t, ah⟩, rfl, hok, hdep, hnd, hlen⟩
  have bg := big
  unfold b_lwalk
  cases t with
  | no =>
    show evB G _ [.dat .none, .dat (.tuple (sD ah)), .un, .un, .un] _
    walk_at "vc"
    exact p_relS (Tr.no, ah) walk_inj rfl
  | fl x =>
    show evB G _ [.dat (.str x), .dat (.tuple (sD ah)), .un, .un, .un] _
    walk_at "vc"
    exact p_relS (Tr.fl x, ah) walk_inj rfl
  | dr l es =>
    have wl := Tr.wk_len ah hok
    have dep2 : es.dep + 1 < n + 1 := hdep
    have nd2 : es.nd + 1 ≤ 16 := hnd
    have len2 : ah.length + (es.dep + 1) ≤ 1000 := hlen
    have wl2 : (es.toL.flatMap (wkS ah)).length ≤ 64 := by
      rw [← Es.wk_toL]
      have z : (es.wk ah).length ≤ 4 * (es.nd + 1) := wl
      omega
    show evB G _ [.dat (.tuple [.str l, .tuple es.ds]), .dat (.tuple (sD ah)), .un, .un, .un] _
    rw [Es.ds_toL]
    walk_at "vc"
    refine s_loopE (fun i ρ => ∃ w3 w4, ρ = [.dat (.tuple [.str l, .tuple (es.toL.map slotD)]), .dat (.tuple (sD ah)), dL (((es.toL.take i).flatMap (wkS ah)).map wkD), w3, w4]) ⟨.un, .un, rfl⟩ (fun _ _ _ _ => trivial) ?_ ?_
    · rintro i ⟨s, u⟩ ρ k hi ⟨w3, w4, rfl⟩ hk
      obtain ⟨q1, q2, q3, q4⟩ := Es.mem_toL hok.2.2.2 (List.mem_of_getElem? hi)
      have q3 : u.dep ≤ es.dep := q3
      have q4 : u.nd ≤ es.nd := q4
      have ft := flatMap_take (f := wkS ah) hi
      have fl := flatMap_le (f := wkS ah) (l := es.toL) i
      have fl2 := flatMap_le (f := wkS ah) (l := es.toL) (i + 1)
      rw [ft, List.length_append] at fl2
      have f3 : (wkS ah (s, u)).length = (u.wk (ah ++ [s])).length + 1 := rfl
      show bindT _ (.dat (.tuple [.str s, u.d])) _ _
      walk_at "vc"
      · omega
      · rw [List.length_map]; omega
      · omega
      refine c_rel (u, ah ++ [s]) rfl ⟨q2, by show u.dep < n; omega, by show u.nd ≤ 16; omega, by show (ah ++ [s]).length + u.dep ≤ 1000; rw [List.length_append]; simp; omega⟩ ?_
      intro r hr
      have hr : r = dL ((u.wk (ah ++ [s])).map wkD) := hr
      subst hr
      walk_at "vc"
      · rw [List.length_append, List.length_map, List.length_map, List.length_singleton]; omega
      refine hk _ ⟨.dat (.str s), .dat u.d, ?_⟩
      rw [ft, List.map_append]
      show _ = [_, _, dL (_ ++ (wkD (ah ++ [s], u) :: (u.wk (ah ++ [s])).map wkD)), _, _]
      rw [List.append_assoc]
      rfl
    · rintro ρ ⟨w3, w4, rfl⟩
      walk_at "vc"
      rw [List.take_length, ← Es.wk_toL, ← Es.ds_toL]
      exact p_relS (Tr.dr l es, ah) walk_inj rfl
/-! ## how far names lead -/
def findL (n : Str) : List (Str × Tr) → Option Tr
  | [] => none
  | p :: r => if p.1 = n then some p.2 else findL n r
def Tr.kids : Tr → Es
  | .dr _ es => es
  | _ => .nil
def Tr.go : Tr → List Str → Nat × Tr
  | t, [] => (0, t)
  | t, n :: p => match findL n t.kids.toL with
    | none => (0, t)
    | some u => ((u.go p).1 + 1, (u.go p).2)
theorem Tr.go_cons {t : Tr} {n : Str} {p : List Str} : t.go (n :: p) = match findL n t.kids.toL with
    | none => (0, t)
    | some u => ((u.go p).1 + 1, (u.go p).2) := by rw [Tr.go]
theorem findL_mem {n : Str} {u : Tr} : ∀ {l : List (Str × Tr)}, findL n l = some u → (n, u) ∈ l
  | [], h => by cases h
  | (s, t) :: r, h => by
    unfold findL at h
    split at h
    · rename_i e
      cases h
      have e : s = n := e
      subst e
      exact List.mem_cons_self
    · exact List.mem_cons_of_mem _ (findL_mem h)
theorem findL_pos {n : Str} : ∀ (l : List (Str × Tr)), findL n l = (keyPos n (l.map (·.1))).bind fun i => (l[i]?).map (·.2)
  | [] => rfl
  | (s, t) :: r => by
    show (if s = n then some t else findL n r) = _
    rw [List.map_cons]
    unfold keyPos
    by_cases e : s = n
    · rw [if_pos e, if_pos e]
      rfl
    · rw [if_neg e, if_neg e, findL_pos r]
      cases keyPos n (r.map (·.1)) with
      | none => rfl
      | some i => simp
theorem keyPos_inr (n : Str) : ∀ xs : List Str, keyPos (Sum.inr n : Key) (xs.map Sum.inr) = keyPos n xs
  | [] => rfl
  | x :: xs => by
    rw [List.map_cons]
    unfold keyPos
    by_cases e : x = n
    · rw [if_pos e, if_pos (by rw [e])]
    · rw [if_neg e, if_neg (fun z => e (Sum.inr.inj z)), keyPos_inr n xs]
theorem Es.names_toL : ∀ es : Es, es.names = es.toL.map (·.1)
  | .nil => rfl
  | .cons s t r => by
    show s :: r.names = _
    rw [Es.names_toL r]
    rfl
theorem pairsD_slots : ∀ l : List (Str × Tr), pairsD (l.map slotD) = some ((l.map (·.1)).map Sum.inr, l.map fun p => p.2.d)
  | [] => rfl
  | p :: l => by
    show (match pairsD (l.map slotD) with
      | some kv => some (Sum.inr p.1 :: kv.1, p.2.d :: kv.2)
      | none => none) = _
    rw [pairsD_slots l]
    rfl
theorem Es.sd_kid : ∀ {es : Es} {p : Str × Tr}, es.sd → p ∈ es.toL → p.2.sd
  | .cons s t r, p, h, hp => by
    rcases List.mem_cons.mp hp with e | hp
    · rw [e]; exact h.1
    · exact Es.sd_kid (es := r) h.2 hp
theorem Tr.sd_names {t : Tr} (h : t.sd) : (t.kids.toL.map (·.1)).Nodup := by
  cases t with
  | dr l es =>
    rw [show (Tr.dr l es).kids = es from rfl, ← Es.names_toL]
    exact h.1
  | _ => exact List.nodup_nil
theorem Tr.kid_of {t u : Tr} {n : Str} (h : findL n t.kids.toL = some u) : (n, u) ∈ t.kids.toL := findL_mem h
theorem Tr.kid_ok {t u : Tr} {n : Str} (hok : t.ok) (hsd : t.sd) (h : (n, u) ∈ t.kids.toL) : u.ok ∧ u.sd ∧ u.dep ≤ t.dep ∧ u.nd ≤ t.nd ∧ u.dep < t.dep := by
  cases t with
  | dr l es =>
    obtain ⟨q1, q2, q3, q4⟩ := Es.mem_toL hok.2.2.2 h
    have q3 : u.dep ≤ es.dep := q3
    have q4 : u.nd ≤ es.nd := q4
    refine ⟨q2, Es.sd_kid hsd.2 h, ?_, ?_, ?_⟩
    · show u.dep ≤ es.dep + 1; omega
    · show u.nd ≤ es.nd + 1; omega
    · show u.dep < es.dep + 1; omega
  | no => cases h
  | fl x => cases h
theorem Tr.kids_len {t : Tr} (h : t.ok) : t.kids.toL.length ≤ 4 := by
  cases t with
  | dr l es => rw [show (Tr.dr l es).kids = es from rfl, Es.len_toL]; exact h.2.2.1
  | no => exact Nat.zero_le _
  | fl x => exact Nat.zero_le _
theorem Tr.go_snd {t : Tr} : ∀ {p : List Str} , t.ok → t.sd → (t.go p).2.ok ∧ (t.go p).2.sd ∧ (t.go p).2.dep ≤ t.dep ∧ (t.go p).2.nd ≤ t.nd := fun {p} => by
  induction p generalizing t with
  | nil => exact fun a b => ⟨a, b, Nat.le_refl _, Nat.le_refl _⟩
  | cons n p ih =>
    intro a b
    rw [Tr.go_cons]
    cases e : findL n t.kids.toL with
    | none => exact ⟨a, b, Nat.le_refl _, Nat.le_refl _⟩
    | some u =>
      obtain ⟨h1, h2, h3, h4, _⟩ := Tr.kid_ok a b (findL_mem e)
      obtain ⟨k1, k2, k3, k4⟩ := ih h1 h2
      exact ⟨k1, k2, Nat.le_trans k3 h3, Nat.le_trans k4 h4⟩
theorem Tr.go_le {t : Tr} {p : List Str} : (t.go p).1 ≤ p.length := by
  induction p generalizing t with
  | nil => exact Nat.le_refl _
  | cons n p ih =>
    rw [Tr.go_cons]
    cases findL n t.kids.toL with
    | none => exact Nat.zero_le _
    | some u =>
      have := ih (t := u)
      show (u.go p).1 + 1 ≤ p.length + 1
      omega
def n_isdirectory : List Str := ["content"]
def b_isdirectory : List CS := [
  .ret (.isi (.var 0) .tuple_)]
def Tr.isD : Tr → Bool
  | .dr _ _ => true
  | _ => false
abbrev isdirS : FS := relS 1 (fun t : Tr => [t.d]) (fun _ => True) fun t r => r = .dat (.bool t.isD)
theorem tr_inj : ∀ a b : Tr, [a.d] = [b.d] → a = b := one_inj Tr.d_inj
theorem isdir_ok {G : Gm} : isdirS.Ok G b_isdirectory 1 0 := by
  rintro os ho ⟨t, rfl, _⟩
  unfold b_isdirectory
  cases t <;> (show evB G _ [.dat _] _)
  all_goals walk_at "vc"
  · exact p_relS Tr.no tr_inj rfl
  · exact p_relS (Tr.fl _) tr_inj rfl
  · exact p_relS (Tr.dr _ _) tr_inj rfl
def n_entriesof : List Str := ["content"]
def b_entriesof : List CS := [
  .ret (.ife (.call "is_directory" [(.var 0)]) (.idx (.var 0) (.int 1)) (.tup []))]
abbrev entriesS : FS := relS 1 (fun t : Tr => [t.d]) (fun _ => True) fun t r => r = .dat (.tuple (t.kids.toL.map slotD))
theorem entries_ok {G : Gm} (h1 : G.fn "is_directory" = some isdirS) : entriesS.Ok G b_entriesof 1 0 := by
  rintro os ho ⟨t, rfl, _⟩
  unfold b_entriesof
  show evB G _ [.dat t.d] _
  walk_at "vc"
  refine c_rel t rfl trivial ?_
  rintro r rfl
  cases t with
  | no =>
    rw [show Tr.isD .no = false from rfl]
    walk_at "vc"
    exact p_relS Tr.no tr_inj rfl
  | fl x =>
    rw [show (Tr.fl x).isD = false from rfl]
    walk_at "vc"
    exact p_relS (Tr.fl _) tr_inj rfl
  | dr l es =>
    rw [show (Tr.dr l es).isD = true from rfl]
    walk_at "vc"
    refine p_relS (Tr.dr _ _) tr_inj ?_
    show O.dat (.tuple es.ds) = .dat (.tuple (es.toL.map slotD))
    rw [Es.ds_toL]
def n_resolve : List Str := ["volume", "path", "here", "depth", "name", "inner"]
def b_resolve : List CS := [
  .set (.nm 2) (.var 0),
  .for_ (.tp [(.nm 3), (.nm 4)]) (.enu (.var 1)) [
    .set (.nm 5) (.dof (.call "entries_of" [(.var 2)])),
    .ife (.isin true (.var 4) (.var 5)) [
      .ret (.tup [(.var 3), (.var 2)])] [],
    .set (.nm 2) (.idx (.var 5) (.var 4))],
  .ret (.tup [(.blt .len [(.var 1)]), (.var 2)])]
abbrev resolveS : FS := relS 2 (fun a : Tr × List Str => [a.1.d, pathD a.2]) (fun a => a.1.ok ∧ a.1.sd) fun a r => r = .dat (.tuple [.int (a.1.go a.2).1, (a.1.go a.2).2.d])
theorem resolve_ok {G : Gm} (h1 : G.fn "entries_of" = some entriesS) : resolveS.Ok G b_resolve 2 4 := by
  rintro os ho ⟨⟨t, p⟩, rfl, hok, hsd⟩
  have bg := big
  unfold b_resolve
  show evB G _ [.dat t.d, .dat (.tuple (p.map PyData.str)), .un, .un, .un, .un] _
  walk_at "vc"
  refine s_loopN (fun i ρ => ∃ (u : Tr) (w3 w4 w5 : O), ρ = [.dat t.d, .dat (.tuple (p.map PyData.str)), .dat u.d, w3, w4, w5] ∧ u.ok ∧ u.sd ∧ t.go p = (i + (u.go (p.drop i)).1, (u.go (p.drop i)).2)) ⟨t, .un, .un, .un, rfl, hok, hsd, by rw [List.drop_zero, Nat.zero_add]⟩ (fun _ _ _ _ => trivial) ?_ ?_
  · rintro i x ρ k hi ⟨u, w3, w4, w5, rfl, uok, usd, ego⟩ hk
    have ed : p.drop i = x :: p.drop (i + 1) := by
      have lt := lt_of_get hi
      rw [List.getElem?_eq_getElem lt] at hi
      rw [List.drop_eq_getElem_cons lt, Option.some.inj hi]
    rw [ed, Tr.go_cons, findL_pos] at ego
    walk_at "vc"
    refine c_rel u rfl trivial ?_
    rintro r rfl
    walk_at "vc"
    refine r_pairs (pairsD_slots _) ⟨?_, ?_⟩ ?_
    · exact List.pairwise_map.mpr (List.Pairwise.imp (fun h e => h (Sum.inr.inj e)) (Tr.sd_names usd))
    · rw [List.length_map]
      have := Tr.kids_len uok
      omega
    walk_at "vc"
    rw [keyPos_inr]
    cases e : keyPos x (u.kids.toL.map (·.1)) with
    | none =>
      rw [e] at ego
      walk_at "vc"
      refine p_relS (t, p) walk_inj ?_
      show O.dat (.tuple [.int i, u.d]) = .dat (.tuple [.int (t.go p).1, (t.go p).2.d])
      rw [ego]
      rfl
    | some m =>
      have lt := keyPos_lt e
      rw [List.length_map] at lt
      rw [e] at ego
      have em : u.kids.toL[m]? = some u.kids.toL[m] := List.getElem?_eq_getElem lt
      simp only [Option.bind_some, em, Option.map_some] at ego
      walk_at "vc"
      refine r_idxC (n := m) (d := u.kids.toL[m].2.d) ?_ ?_ ?_
      · show keyPos (Sum.inr x : Key) ((u.kids.toL.map (·.1)).map Sum.inr) = some m
        rw [keyPos_inr, e]
      · rw [List.getElem?_map, List.getElem?_map, em]
        rfl
      walk_at "vc"
      obtain ⟨g1, g2, _⟩ := Tr.kid_ok (n := u.kids.toL[m].1) (u := u.kids.toL[m].2) uok usd (List.getElem_mem lt)
      refine hk _ ⟨u.kids.toL[m].2, _, _, _, rfl, g1, g2, ?_⟩
      rw [ego]
      have ar : ∀ a b : Nat, a + (b + 1) = a + 1 + b := fun a b => by omega
      rw [ar]
  · rintro ρ ⟨u, w3, w4, w5, rfl, uok, usd, ego⟩
    rw [List.drop_length] at ego
    walk_at "vc"
    refine p_relS (t, p) walk_inj ?_
    rw [show (p.map PyData.str).length = p.length from List.length_map ..]
    show O.dat (.tuple [.int p.length, u.d]) = .dat (.tuple [.int (t.go p).1, (t.go p).2.d])
    rw [ego]
    rfl
def n_depth : List Str := ["volume", "path"]
def b_depth : List CS := [
  .ret (.idx (.call "resolve" [(.var 0), (.var 1)]) (.int 0))]
abbrev depthS : FS := relS 2 (fun a : Tr × List Str => [a.1.d, pathD a.2]) (fun a => a.1.ok ∧ a.1.sd) fun a r => r = .dat (.int (a.1.go a.2).1)
theorem depth_ok {G : Gm} (h1 : G.fn "resolve" = some resolveS) : depthS.Ok G b_depth 2 0 := by
  rintro os ho ⟨⟨t, p⟩, rfl, hp⟩
  unfold b_depth
  show evB G _ [.dat t.d, .dat (pathD p)] _
  walk_at "vc"
  refine c_rel (t, p) rfl hp ?_
  rintro r rfl
  walk_at "vc"
  exact p_relS (t, p) walk_inj rfl
end VS

namespace VS
open PySem PySem.Spec PyProof.Rows L2
set_option hygiene false
local macro_rules | `(tactic| walk_at "vc") => `(tactic| repeat' (first
      | ((with_reducible apply s_consN); (case e => (first | (dsimp only [backO, wipeO, List.map, setS, getS, O.setP, O.getP, List.set_cons_zero, List.set_cons_succ, List.getElem?_cons_zero, List.getElem?_cons_succ]; first | done | exact rfl) | exact rfl)))
      | with_reducible refine s_nil ?_
      | with_reducible refine d_eqP ?_ ?_ ?_
      | with_reducible refine d_lenP ?_
      | with_reducible refine d_slP0 ?_ ?_
      | with_reducible refine d_slP1 ?_ ?_
      | with_reducible refine d_addP ?_ ?_
      | with_reducible refine d_addP1 ?_ ?_
      | with_reducible refine d_slT0 ?_ ?_
      | with_reducible refine d_slT1 ?_ ?_
      | with_reducible refine d_slL0 ?_ ?_
      | with_reducible refine d_slL1 ?_ ?_
      | with_reducible refine s_set ?_
      | with_reducible refine s_if ?_
      | with_reducible refine s_for ?_
      | with_reducible refine s_ex ?_
      | with_reducible refine s_ret ?_
      | with_reducible refine s_retN ?_
      | with_reducible refine s_pass ?_
      | with_reducible refine s_brk ?_
      | with_reducible refine s_cont ?_
      | with_reducible refine s_put ?_
      | with_reducible refine s_augP ?_
      | with_reducible refine s_par ?_
      | with_reducible refine s_T ?_
      | with_reducible refine s_bin ?_
      | with_reducible refine s_cmp ?_
      | with_reducible refine s_idx ?_
      | with_reducible refine s_int ?_
      | with_reducible refine s_str ?_
      | with_reducible refine s_bl ?_
      | with_reducible refine s_non ?_
      | with_reducible refine s_lst ?_
      | with_reducible refine s_tup ?_
      | with_reducible refine s_dct ?_
      | with_reducible refine s_dnewK ?_
      | with_reducible refine s_dnewT ?_
      | with_reducible refine s_neg ?_
      | with_reducible refine s_chn ?_
      | with_reducible refine s_bop ?_
      | with_reducible refine s_bop1 ?_
      | with_reducible refine s_bop2 ?_
      | with_reducible refine s_nt ?_
      | with_reducible refine s_ife ?_
      | with_reducible refine s_sl ?_
      | with_reducible refine s_isi ?_
      | with_reducible refine s_comp ?_
      | with_reducible refine s_blt ?_
      | with_reducible refine s_mth ?_
      | with_reducible refine s_mmt ?_
      | with_reducible refine s_rng ?_
      | with_reducible refine s_enu ?_
      | with_reducible refine s_zip ?_
      | with_reducible refine s_lzip ?_
      | with_reducible refine s_dof ?_
      | with_reducible refine s_upd ?_
      | with_reducible refine s_rng3 ?_
      | with_reducible refine s_get1 ?_
      | with_reducible refine s_get2 ?_
      | with_reducible refine s_isin ?_
      | with_reducible refine s_fst ?_
      | with_reducible refine s_F0 ?_
      | with_reducible refine s_F1 ?_
      | with_reducible refine s_rev ?_
      | with_reducible refine s_fl ?_
      | with_reducible refine r_onNdD ?_
      | with_reducible refine r_onNdL ?_
      | with_reducible refine s_frz ?_
      | with_reducible refine s_dctT ?_
      | with_reducible refine r_notT ?_
      | with_reducible refine r_notF ?_
      | with_reducible refine r_notB ?_
      | with_reducible refine d_revL ?_
      | with_reducible refine s_L0 ?_
      | with_reducible refine s_L1 ?_
      | with_reducible refine s_H0 ?_
      | with_reducible refine s_H1 ?_
      | with_reducible refine s_C0 ?_
      | with_reducible refine s_P0 ?_
      | with_reducible refine s_P1 ?_
      | with_reducible refine s_O0 ?_
      | with_reducible refine s_O1 ?_
      | with_reducible refine s_Ts0 ?_
      | with_reducible refine s_Ts1 ?_
      | with_reducible refine r_asDd ?_
      | with_reducible refine r_asDl ?_
      | with_reducible refine r_asOo ?_
      | with_reducible refine r_asOp ?_
      | with_reducible refine r_holdD ?_
      | with_reducible refine r_holdP ?_
      | with_reducible refine r_holdO ?_
      | with_reducible refine r_vwD ?_
      | with_reducible refine r_vws0 ?_
      | with_reducible refine r_vws1 ?_
      | with_reducible refine r_stabO ?_
      | with_reducible refine r_stabP ?_
      | with_reducible refine r_stabT ?_
      | with_reducible refine r_idxO ?_
      | with_reducible refine r_itL ?_
      | with_reducible refine r_itT ?_
      | with_reducible refine r_itS ?_
      | with_reducible refine r_itI ?_
      | with_reducible refine r_itV ?_
      | with_reducible refine r_onPl ?_
      | with_reducible refine r_onInt ?_
      | with_reducible refine r_seqL ?_
      | with_reducible refine r_seqT ?_
      | with_reducible refine r_onDat ?_
      | with_reducible refine r_rcvM ?_
      | with_reducible refine d_add ?_
      | with_reducible refine d_sub ?_
      | with_reducible refine d_lt ?_
      | with_reducible refine d_le ?_
      | with_reducible refine d_gt ?_
      | with_reducible refine d_ge ?_
      | with_reducible refine d_inS ?_
      | with_reducible refine d_ninS ?_
      | with_reducible refine d_augA ?_
      | with_reducible refine d_augS ?_
      | with_reducible refine r_mutL ?_
      | with_reducible refine d_eqS ?_
      | with_reducible refine d_neS ?_
      | with_reducible refine d_eqI ?_
      | with_reducible refine d_neI ?_
      | with_reducible refine d_is ?_
      | with_reducible refine d_isn ?_
      | with_reducible refine d_truB ?_
      | with_reducible refine d_truI ?_
      | with_reducible refine d_truL ?_
      | with_reducible refine d_truT ?_
      | with_reducible refine d_truN ?_
      | with_reducible refine d_lenL ?_
      | with_reducible refine d_lenT ?_
      | with_reducible refine d_listL ?_
      | with_reducible refine d_listT ?_
      | with_reducible refine d_tupL ?_
      | with_reducible refine d_tupT ?_
      | with_reducible refine d_abs ?_
      | with_reducible refine d_intI ?_
      | with_reducible refine d_intB ?_
      | with_reducible refine d_min ?_
      | with_reducible refine d_max ?_
      | with_reducible refine d_slL ?_
      | with_reducible refine d_slX ?_
      | with_reducible refine d_slT ?_
      | with_reducible refine b_T ?_
      | with_reducible refine b_F ?_
      | with_reducible refine b_TF ?_
      | with_reducible refine b_FF ?_
      | with_reducible refine s_tp ?_
      | with_reducible refine s_tnil ?_
      | with_reducible refine s_tcons ?_
      | ((with_reducible apply s_varD); (case h1 => exact rfl))
      | ((with_reducible apply s_varN); (case h1 => exact rfl))
      | ((with_reducible apply s_mvD); (case h1 => exact rfl))
      | ((with_reducible apply s_mvL); (case h1 => with_reducible exact rfl))
      | ((with_reducible apply s_mvN); (case h1 => exact rfl))
      | ((with_reducible apply s_nm); (case h1 => (simp only [setS_len, backO_len, wipeO_len, List.length_cons, List.length_nil, List.length_set]; decide)))
      | ((with_reducible apply r_vwP); (case e1 => exact rfl); (case e => first | exact flat_dL _ | exact rfl))
      | ((with_reducible apply r_idxP); (case e => exact rfl))
      | ((with_reducible apply r_opt); (case e => exact rfl))
      | ((with_reducible apply r_idxC); (case e1 => (first | exact pk_cells _ | exact pk_at _ | exact pk_rest _ | exact rfl)); (case e2 => exact rfl))
      | ((with_reducible apply r_idxN); (case e1 => (first | exact pk_cells _ | exact pk_at _ | exact pk_rest _ | exact rfl)); (case e2 => exact rfl))
      | ((with_reducible apply s_C1); (case h1 => exact trivial))
      | ((with_reducible apply s_C2); (case h1 => exact rfl))
      | ((with_reducible apply r_asDn); (case e => first | exact toD_dL _ | with_reducible exact toD_two _ _ | ((repeat' (first | with_reducible exact toD_dL _ | assumption | with_reducible exact toD_dat _ | with_reducible exact toDL_nil | with_reducible apply toD_lst | with_reducible apply toD_tupO | with_reducible apply toD_dk | with_reducible apply toD_dt | with_reducible apply toDL_cons | exact rfl)); done) | exact rfl))
      | ((with_reducible apply r_asDp); (case e1 => exact rfl); (case e => first | exact toD_dL _ | exact rfl))
      | ((with_reducible apply r_rcvW); (case e => exact rfl))
      | ((with_reducible apply s_call); (case h1 => assumption))
      | with_reducible refine d_mul ?_ ?_
      | with_reducible refine d_mod ?_ ?_
      | with_reducible refine d_div ?_ ?_
      | with_reducible refine d_pow ?_ ?_
      | with_reducible refine d_addS ?_ ?_
      | with_reducible refine d_addL ?_ ?_
      | with_reducible refine d_addT ?_ ?_
      | with_reducible refine d_mulS ?_ ?_
      | with_reducible refine d_mulL ?_ ?_
      | with_reducible refine d_mulT ?_ ?_
      | with_reducible refine d_truS ?_ ?_
      | with_reducible refine d_lenS ?_ ?_
      | with_reducible refine d_slS ?_ ?_
      | with_reducible refine d_rng1 ?_ ?_
      | with_reducible refine d_rng2 ?_ ?_
      | with_reducible refine d_app ?_ ?_
      | with_reducible refine d_appL ?_ ?_
      | with_reducible refine d_repr ?_ ?_
      | with_reducible refine d_fmtS ?_ ?_
      | with_reducible refine r_lz ?_ ?_
      | with_reducible refine r_dn ?_ ?_
      | with_reducible refine r_zipL ?_ ?_
      | with_reducible refine r_zipT ?_ ?_
      | with_reducible refine b_ite (fun _ => ?_) (fun _ => ?_)
      | with_reducible refine b_iteN (fun _ => ?_) (fun _ => ?_)
      | with_reducible refine b_iteF (fun _ => ?_) (fun _ => ?_)
      | with_reducible refine b_iteNF (fun _ => ?_) (fun _ => ?_)
      | refine r_stabL rfl ?_
      | refine r_stabR rfl ?_
      | with_reducible refine p_cells ?_
      | with_reducible refine p_at ?_
      | with_reducible refine p_rest ?_
      | refine s_C1p (by exact rfl) (by assumption) ?_
      | refine c_draw (by exact rfl) (by assumption) ?_ (fun _ _ _ _ _ => ?_)
      | with_reducible refine d_eqE ?_
      | with_reducible refine d_neE ?_
      | with_reducible refine d_in ?_ ?_
      | with_reducible refine d_nin ?_ ?_
      | with_reducible refine d_eq ?_ ?_
      | with_reducible refine d_ne ?_ ?_
      | with_reducible refine b_anyN (fun _ => ?_) (fun _ => ?_)
      | with_reducible refine b_anyNF (fun _ => ?_) (fun _ => ?_)
      | with_reducible refine b_any (fun _ => ?_) (fun _ => ?_)
      | with_reducible refine d_popL ?_
      | ((with_reducible apply r_par); (case n1 => decide); (case n2 => (simp only [setS_len, backO_len, wipeO_len, List.length_cons, List.length_nil, List.length_set]; decide)); (case n3 => (simp only [setS_len, backO_len, wipeO_len, List.length_cons, List.length_nil, List.length_set]; decide)))
      | refine c_names (by exact rfl) (by assumption) ?_ (fun _ _ _ _ _ _ => ?_)
      | refine c_pen (fun _ _ => ?_)
      | with_reducible refine b_anyN (fun _ => ?_) (fun _ => ?_)
      | with_reducible refine b_anyNF (fun _ => ?_) (fun _ => ?_)
      | with_reducible refine b_anyF (fun _ => ?_) (fun _ => ?_)
      | ((with_reducible apply r_isi (b := true)); (case e1 => exact rfl); (case e2 => exact rfl))
      | ((with_reducible apply r_isi (b := false)); (case e1 => exact rfl); (case e2 => exact rfl))
      | ((with_reducible apply s_con); (case h1 => assumption))
      | with_reducible refine d_allM ?_
      | with_reducible refine d_anyM ?_
      | ((with_reducible apply r_itO); (case e => first | exact toD_dL _ | ((repeat' (first | with_reducible exact toD_dL _ | assumption | with_reducible exact toD_dat _ | with_reducible exact toDL_nil | with_reducible apply toD_lst | with_reducible apply toD_tupO | with_reducible apply toD_dk | with_reducible apply toD_dt | with_reducible apply toDL_cons | exact rfl)); done) | exact rfl))
      | ((with_reducible apply r_toDL); (case e => first | ((repeat' (first | with_reducible exact toD_dL _ | assumption | with_reducible exact toD_dat _ | with_reducible exact toDL_nil | with_reducible apply toD_lst | with_reducible apply toD_tupO | with_reducible apply toD_dk | with_reducible apply toD_dt | with_reducible apply toDL_cons | exact rfl)); done) | exact toDL_datL (datL_map _)))
      | ((with_reducible apply d_ixT); (case e => exact rfl))
      | ((with_reducible apply d_ixL); (case e => exact rfl))
      | ((with_reducible apply d_appO); (case e => exact rfl))
      | ((with_reducible apply r_itP); (case e1 => exact rfl))
      | with_reducible refine c_fn1 ?_ ?_
      | with_reducible refine c_fn2 ?_ ?_
      | ((with_reducible apply r_dcvK2); (case e => exact rfl))
      | ((with_reducible apply r_dcvT2); (case e => exact rfl))
      | ((with_reducible apply r_dcvK); (case e => exact rfl))
      | ((with_reducible apply r_dcvT); (case e => exact rfl))
      | with_reducible refine r_inT ?_
      | with_reducible refine r_inF ?_
      | with_reducible refine r_ninT ?_
      | with_reducible refine r_ninF ?_
      | refine c_volume (by exact rfl) (by assumption) ?_ (fun _ _ _ _ => ?_)
      | fail))
/-! ## a flat table of a volume's slots -/
def Tr.lab : Tr → Option Str
  | .no => none
  | .fl x => some x
  | .dr l _ => some l
def labD : Option Str → PyData
  | none => .none
  | some x => .str x
theorem labD_inj : ∀ a b : Option Str, labD a = labD b → a = b
  | none, none, _ => rfl
  | none, some _, h => by cases h
  | some _, none, h => by cases h
  | some x, some y, h => by rw [PyData.str.inj h]
abbrev Row := List (Str × Option Str)
abbrev Flat := List (Str × Row)
def cellD (p : Str × Option Str) : PyData := .list [.str p.1, labD p.2]
theorem cellD_inj (a b : Str × Option Str) (h : cellD a = cellD b) : a = b := two_inj (f := PyData.str) (fun _ _ e => PyData.str.inj e) labD_inj a b (PyData.list.inj h)
def rowD (r : Row) : PyData := .list (r.map cellD)
theorem rowD_inj (a b : Row) (h : rowD a = rowD b) : a = b := list_map_inj cellD_inj a b (PyData.list.inj h)
def entD (p : Str × Row) : PyData × PyData := (.str p.1, rowD p.2)
theorem entD_inj (a b : Str × Row) (h : entD a = entD b) : a = b := by
  obtain ⟨a1, a2⟩ := a
  obtain ⟨b1, b2⟩ := b
  have e1 : a1 = b1 := PyData.str.inj (Prod.mk.inj h).1
  have e2 : a2 = b2 := rowD_inj a2 b2 (Prod.mk.inj h).2
  rw [e1, e2]
def tabD (F : Flat) : PyData := .dict (F.map entD)
theorem tabD_inj (a b : Flat) (h : tabD a = tabD b) : a = b := by
  have z : a.map entD = b.map entD := PyData.dict.inj h
  have e : ∀ (a b : Flat), a.map entD = b.map entD → a = b := by
    intro a
    induction a with
    | nil => intro b h; cases b with
      | nil => rfl
      | cons _ _ => cases h
    | cons x a ih => intro b h; cases b with
      | nil => cases h
      | cons y b => rw [entD_inj x y (List.cons.inj h).1, ih b (List.cons.inj h).2]
  exact e a b z
def cellO (p : Str × Option Str) : O := .nd .lst [.dat (.str p.1), .dat (labD p.2)]
def rowO (r : Row) : O := .nd .lst (r.map cellO)
def flatO (F : Flat) : O := .nd (.dk (F.map fun p => .inr p.1)) (F.map fun p => rowO p.2)
theorem cellO_toD (p : Str × Option Str) : (cellO p).toD = some (cellD p) := rfl
theorem toDL_all {α : Type} {f : α → O} {g : α → PyData} (h : ∀ a, (f a).toD = some (g a)) : ∀ l : List α, O.toDL (l.map f) = some (l.map g)
  | [] => rfl
  | a :: l => toDL_cons (h a) (toDL_all h l)
theorem rowO_toD (r : Row) : (rowO r).toD = some (rowD r) := toD_lst (toDL_all cellO_toD r)
theorem flat_zip (F : Flat) : ((F.map fun p => (Sum.inr p.1 : Key)).map kD).zip (F.map fun p => rowD p.2) = F.map entD := by
  induction F with
  | nil => rfl
  | cons p F ih =>
    rw [List.map_cons, List.map_cons, List.map_cons, List.zip_cons_cons, ih]
    rfl
theorem flatO_toD (F : Flat) : (flatO F).toD = some (tabD F) := by
  have z := toD_dk (ks := F.map fun p => (Sum.inr p.1 : Key)) (toDL_all (f := fun p : Str × Row => rowO p.2) (g := fun p => rowD p.2) (fun p => rowO_toD p.2) F)
  rw [flat_zip] at z
  exact z
def Es.row (es : Es) : Row := es.toL.map fun p => (p.1, p.2.lab)
mutual
def Tr.flat : Tr → Flat
  | .dr l es => (l, es.row) :: es.flat
  | _ => []
def Es.flat : Es → Flat
  | .nil => []
  | .cons _ t r => t.flat ++ r.flat
end
mutual
/-- the labels of the files -/
def Tr.fils : Tr → List Str
  | .no => []
  | .fl x => [x]
  | .dr _ es => es.fils
def Es.fils : Es → List Str
  | .nil => []
  | .cons _ t r => t.fils ++ r.fils
end
def keysF (F : Flat) : List Str := F.map (·.1)
theorem count_one (x y : Str) : [y].count x = isX x y := by
  unfold isX
  by_cases e : y = x
  · subst e; simp
  · rw [if_neg e]
    exact List.count_eq_zero.mpr (fun z => e (List.mem_singleton.mp z).symm)
mutual
theorem Tr.cl_eq (x : Str) : ∀ t : Tr, t.cl x = (keysF t.flat).count x + t.fils.count x
  | .no => rfl
  | .fl y => by
    show isX x y = 0 + [y].count x
    rw [count_one, Nat.zero_add]
  | .dr l es => by
    have z := Es.cl_eq x es
    show es.cl x + isX x l = (l :: keysF es.flat).count x + es.fils.count x
    rw [z, List.count_cons]
    unfold isX
    by_cases e : l = x
    · subst e; simp; omega
    · rw [if_neg e, if_neg (by simpa using e)]; omega
theorem Es.cl_eq (x : Str) : ∀ es : Es, es.cl x = (keysF es.flat).count x + es.fils.count x
  | .nil => rfl
  | .cons s t r => by
    show t.cl x + r.cl x = (keysF (t.flat ++ r.flat)).count x + (t.fils ++ r.fils).count x
    rw [Tr.cl_eq x t, Es.cl_eq x r]
    unfold keysF
    rw [List.map_append, List.count_append, List.count_append]
    omega
end
theorem nodup_count : ∀ {l : List Str}, (∀ x, l.count x ≤ 1) → l.Nodup
  | [], _ => List.nodup_nil
  | a :: l, h => by
    refine List.nodup_cons.mpr ⟨fun m => ?_, nodup_count fun x => ?_⟩
    · have z := h a
      rw [List.count_cons_self] at z
      have := List.count_pos_iff.mpr m
      omega
    · have z := h x
      rw [List.count_cons] at z
      omega
theorem count_nodup {l : List Str} (h : l.Nodup) (x : Str) : l.count x ≤ 1 := by
  induction l with
  | nil => exact Nat.zero_le _
  | cons a l ih =>
    obtain ⟨n, nd⟩ := List.nodup_cons.mp h
    rw [List.count_cons]
    by_cases e : a = x
    · subst e
      rw [List.count_eq_zero.mpr n]
      simp
    · rw [if_neg (by simpa using e)]
      exact ih nd
/-- no label twice -/
def Tr.one (t : Tr) : Prop := ∀ x, t.cl x ≤ 1
theorem Tr.one.keys {t : Tr} (h : t.one) : (keysF t.flat).Nodup := nodup_count fun x => by
  have z := h x
  rw [Tr.cl_eq] at z
  omega
theorem Tr.one.apart {t : Tr} (h : t.one) {x : Str} (k : x ∈ t.fils) : x ∉ keysF t.flat := fun m => by
  have z := h x
  rw [Tr.cl_eq] at z
  have a := List.count_pos_iff.mpr m
  have b := List.count_pos_iff.mpr k
  omega
def sumL (f : Str × Tr → Nat) (l : List (Str × Tr)) : Nat := (l.map f).sum
theorem Es.cl_toL (x : Str) : ∀ es : Es, es.cl x = sumL (fun p => p.2.cl x) es.toL
  | .nil => rfl
  | .cons s t r => by
    show t.cl x + r.cl x = sumL _ ((s, t) :: r.toL)
    rw [Es.cl_toL x r]
    rfl
theorem sumL_mem {f : Str × Tr → Nat} {p : Str × Tr} : ∀ {l : List (Str × Tr)}, p ∈ l → f p ≤ sumL f l
  | a :: l, h => by
    show f p ≤ f a + sumL f l
    rcases List.mem_cons.mp h with e | h
    · rw [e]; omega
    · have := sumL_mem (f := f) h
      omega
theorem Tr.one.kid {l : Str} {es : Es} {p : Str × Tr} (h : (Tr.dr l es).one) (k : p ∈ es.toL) : p.2.one := fun x => by
  have z := h x
  have e : (Tr.dr l es).cl x = es.cl x + isX x l := rfl
  rw [e, Es.cl_toL] at z
  have := sumL_mem (f := fun p => p.2.cl x) k
  omega
/-! ### what stands in it -/
theorem Es.flat_kid : ∀ {es : Es} {p : Str × Tr}, p ∈ es.toL → (∀ e, e ∈ p.2.flat → e ∈ es.flat) ∧ ∀ x, x ∈ p.2.fils → x ∈ es.fils
  | .cons s t r, p, h => by
    rcases List.mem_cons.mp h with e | h
    · rw [e]
      exact ⟨fun e h => List.mem_append_left _ h, fun x h => List.mem_append_left _ h⟩
    · obtain ⟨a, b⟩ := Es.flat_kid (es := r) h
      exact ⟨fun e h => List.mem_append_right _ (a e h), fun x h => List.mem_append_right _ (b x h)⟩
/-- u is a content of t -/
def Tr.In (u t : Tr) : Prop := (∀ e, e ∈ u.flat → e ∈ t.flat) ∧ ∀ x, x ∈ u.fils → x ∈ t.fils
theorem Tr.In.refl (t : Tr) : t.In t := ⟨fun _ h => h, fun _ h => h⟩
theorem Tr.In.kid {u t v : Tr} {n : Str} (h : u.In t) (k : (n, v) ∈ u.kids.toL) : v.In t := by
  cases u with
  | dr l es =>
    obtain ⟨a, b⟩ := Es.flat_kid (es := es) k
    exact ⟨fun e he => h.1 e (List.mem_cons_of_mem _ (a e he)), fun x hx => h.2 x (b x hx)⟩
  | no => cases k
  | fl x => cases k
def Flat.get (F : Flat) (l : Option Str) : Row := match l with
  | none => []
  | some x => (F.lookup x).getD []
theorem lookup_put2 {k l : Str} {q : Row} {F : Flat} : ((k, q) :: F).lookup l = if l = k then some q else F.lookup l := by
  by_cases h : l = k
  · subst h
    simp [List.lookup]
  · have e : (l == k) = false := by simpa using h
    rw [if_neg h]
    simp [List.lookup, e]
theorem lookup_of : ∀ {F : Flat} {l : Str} {r : Row}, (keysF F).Nodup → (l, r) ∈ F → F.lookup l = some r
  | (k, q) :: F, l, r, nd, h => by
    obtain ⟨n, nd⟩ := List.nodup_cons.mp nd
    rw [lookup_put2]
    rcases List.mem_cons.mp h with e | h
    · cases e
      rw [if_pos rfl]
    · have ne : ¬ l = k := fun e => n (by rw [← e]; exact List.mem_map.mpr ⟨_, h, rfl⟩)
      rw [if_neg ne]
      exact lookup_of nd h
theorem lookup_not : ∀ {F : Flat} {l : Str}, l ∉ keysF F → F.lookup l = none
  | [], _, _ => rfl
  | (k, q) :: F, l, h => by
    have ne : ¬ l = k := fun e => h (by rw [e]; exact List.mem_cons_self)
    rw [lookup_put2, if_neg ne, lookup_not (fun m => h (List.mem_cons_of_mem _ m))]
theorem lookup_pos (l : Str) : ∀ F : Flat, F.lookup l = (keyPos l (keysF F)).bind fun i => (F[i]?).map (·.2)
  | [] => rfl
  | (k, q) :: F => by
    rw [lookup_put2, show keysF ((k, q) :: F) = k :: keysF F from rfl]
    unfold keyPos
    by_cases e : l = k
    · rw [if_pos e, if_pos e.symm]
      rfl
    · rw [if_neg e, if_neg (fun z => e z.symm), lookup_pos l F]
      cases keyPos l (keysF F) with
      | none => rfl
      | some i => simp
theorem Tr.In.get {u t : Tr} (h : u.In t) (o : t.one) : t.flat.get u.lab = u.kids.row := by
  cases u with
  | no => rfl
  | fl x =>
    have n := o.apart (h.2 x List.mem_cons_self)
    show (t.flat.lookup x).getD [] = _
    rw [lookup_not n]
    rfl
  | dr l es =>
    have m := h.1 (l, es.row) List.mem_cons_self
    show (t.flat.lookup l).getD [] = _
    rw [lookup_of o.keys m]
    rfl
/-- how far names lead in a flat table, and the cell behind -/
def findF (F : Flat) : Option Str → Option (Str × Option Str) → List Str → Nat × Option (Str × Option Str)
  | _, e, [] => (0, e)
  | l, e, n :: p => match (F.get l).filter (fun c => decide (c.1 = n)) with
    | [] => (0, e)
    | c :: _ => ((findF F c.2 (some c) p).1 + 1, (findF F c.2 (some c) p).2)
theorem findF_cons {F : Flat} {l : Option Str} {e : Option (Str × Option Str)} {n : Str} {p : List Str} : findF F l e (n :: p) = match (F.get l).filter (fun c => decide (c.1 = n)) with
    | [] => (0, e)
    | c :: _ => ((findF F c.2 (some c) p).1 + 1, (findF F c.2 (some c) p).2) := by rw [findF]
theorem filter_find (n : Str) : ∀ l : List (Str × Tr), ((l.map fun p => (p.1, p.2.lab)).filter fun c => decide (c.1 = n)).head? = (findL n l).map fun u => (n, u.lab)
  | [] => rfl
  | (s, t) :: r => by
    rw [List.map_cons, List.filter_cons]
    unfold findL
    by_cases e : s = n
    · rw [if_pos (by simpa using e), if_pos e]
      subst e
      rfl
    · rw [if_neg (by simpa using e), if_neg e]
      exact filter_find n r
theorem findF_go {t : Tr} (o : t.one) : ∀ (p : List Str) (u : Tr) (e : Option (Str × Option Str)), u.In t → (findF t.flat u.lab e p).1 = (u.go p).1
  | [], _, _, _ => rfl
  | n :: p, u, e, h => by
    have f := filter_find n u.kids.toL
    rw [Tr.go_cons]
    unfold findF
    rw [h.get o]
    show (match (u.kids.toL.map fun p : Str × Tr => (p.1, p.2.lab)).filter (fun c : Str × Option Str => decide (c.1 = n)) with
      | [] => (0, e)
      | c :: _ => ((findF t.flat c.2 (some c) p).1 + 1, (findF t.flat c.2 (some c) p).2)).1 = _
    cases g : (u.kids.toL.map fun p : Str × Tr => (p.1, p.2.lab)).filter (fun c : Str × Option Str => decide (c.1 = n)) with
    | nil =>
      rw [g] at f
      cases q : findL n u.kids.toL with
      | none => rfl
      | some v => rw [q] at f; cases f
    | cons c r =>
      rw [g] at f
      cases q : findL n u.kids.toL with
      | none => rw [q] at f; cases f
      | some v =>
        rw [q] at f
        have ec : c = (n, v.lab) := Option.some.inj f
        subst ec
        show (findF t.flat v.lab _ p).1 + 1 = (v.go p).1 + 1
        rw [findF_go o p v _ (h.kid (findL_mem q))]
/-! ### reasons -/
inductive Rsn where
  | done | nested
  | missing (i d : Nat)
def rsnD : Rsn → PyData
  | .done => .none
  | .nested => .tuple [.str "nested"]
  | .missing i d => .tuple [.str "missing", .int i, .int d]
def skipBy (dep : List Str → Nat) (p q : List Str) : Rsn :=
  if (isPre p q || isPre q p) = true then .nested else if dep p < p.length then .missing 0 (dep p) else if dep q < q.length then .missing 1 (dep q) else .done
def reqD2 (p : List Str × List Str) : PyData := .tuple [pathD p.1, pathD p.2]
theorem reqD2_inj (a b : List Str × List Str) (h : reqD2 a = reqD2 b) : a = b := two_inj pathD_inj pathD_inj a b (PyData.tuple.inj h)
/-! ### the defs -/
theorem s_compsX {ρ : Env} {α : Type} {chk : Env → Prop} {stp : PyData → Env → (Option O → Env → Prop) → Prop} {l : List α} {g : α → PyData} {K : List O → Env → Prop} (f : α → O) (hl : l.length ≤ sizeLine) (hc : chk ρ)
    (hs : ∀ a (k : Option O → Env → Prop), a ∈ l → k (some (f a)) ρ → stp (g a) ρ k) (he : K (l.map f) ρ) : loopC chk stp (l.map g) ρ [] K := by
  refine s_comps (fun i ρ' acc => ρ' = ρ ∧ acc = (l.take i).map f) ⟨rfl, by simp⟩ (fun i ρ' acc _ h => h.1 ▸ hc) ?_ ?_
  · rintro i d ρ' acc k hi ⟨rfl, rfl⟩ h1 h2
    have lt := lt_of_get hi
    rw [List.length_map] at lt
    rw [List.getElem?_map, List.getElem?_eq_getElem lt] at hi
    cases hi
    refine hs _ k (List.getElem_mem lt) (h1 _ _ ⟨by rw [List.length_map, List.length_take]; omega, rfl, ?_⟩)
    rw [take_snoc (List.getElem?_eq_getElem lt), List.map_append]
    rfl
  · rintro ρ' acc ⟨rfl, rfl⟩
    rw [List.length_map, List.take_length]
    exact he
def n_lflat : List Str := ["_law_held", "_law_found", "_law_slot", "_law_inner"]
def b_lflat : List CS := [
  .set (.nm 1) (.dnew false),
  .ife (.isi (.var 0) .tuple_) [
    .put (.var 1) (.idx (.var 0) (.int 0)) (.comp [("_law_slot", 2), ("_law_inner", 3)] (.lst [(.var 2), (.ife (.isi (.var 3) .tuple_) (.idx (.var 3) (.int 0)) (.var 3))]) (.tp [(.nm 2), (.nm 3)]) (.idx (.var 0) (.int 1)) []),
    .for_ (.tp [(.nm 2), (.nm 3)]) (.idx (.var 0) (.int 1)) [
      .ex (.upd (.var 1) (.call "_law_flat" [(.var 3)]))]] [],
  .ret (.mv 1)]
def flatP (n : Nat) (t : Tr) : Prop := t.ok ∧ t.dep < n ∧ t.nd ≤ 16 ∧ t.one
abbrev lflatS (n : Nat) : FS := relS 1 (fun t : Tr => [t.d]) (flatP n) fun t r => r = flatO t.flat
theorem flatO_app (F G : Flat) : O.nd (.dk ((F.map fun p => (Sum.inr p.1 : Key)) ++ G.map fun p => .inr p.1)) ((F.map fun p => rowO p.2) ++ G.map fun p => rowO p.2) = flatO (F ++ G) := by
  unfold flatO
  rw [List.map_append, List.map_append]
theorem Es.flat_toL : ∀ es : Es, es.flat = es.toL.flatMap fun p => p.2.flat
  | .nil => rfl
  | .cons s t r => by
    show t.flat ++ r.flat = _
    rw [Es.flat_toL r]
    rfl
mutual
theorem Tr.flat_len : ∀ t : Tr, t.flat.length = t.nd
  | .no => rfl
  | .fl _ => rfl
  | .dr l es => by
    show es.flat.length + 1 = es.nd + 1
    rw [Es.flat_len es]
theorem Es.flat_len : ∀ es : Es, es.flat.length = es.nd
  | .nil => rfl
  | .cons s t r => by
    show (t.flat ++ r.flat).length = t.nd + r.nd
    rw [List.length_append, Tr.flat_len t, Es.flat_len r]
end
theorem flatMap_split {α β : Type} {f : α → List β} {l : List α} {i : Nat} {a : α} (e : l[i]? = some a) : l.flatMap f = (l.take i).flatMap f ++ (f a ++ (l.drop (i + 1)).flatMap f) := by
  have lt := lt_of_get e
  rw [List.getElem?_eq_getElem lt] at e
  have ed : l.drop i = a :: l.drop (i + 1) := by rw [List.drop_eq_getElem_cons lt, Option.some.inj e]
  have z : l.flatMap f = (l.take i ++ l.drop i).flatMap f := by rw [List.take_append_drop]
  rw [z, List.flatMap_append, ed]
  rfl
theorem keys_inr {F : Flat} {k : Key} (h : k ∈ F.map fun p => (Sum.inr p.1 : Key)) : ∃ x, k = .inr x ∧ x ∈ keysF F := by
  obtain ⟨p, hp, rfl⟩ := List.mem_map.mp h
  exact ⟨p.1, rfl, List.mem_map.mpr ⟨p, hp, rfl⟩⟩
theorem nodup_inr {F : Flat} (h : (keysF F).Nodup) : (F.map fun p => (Sum.inr p.1 : Key)).Nodup := by
  have z : (F.map fun p => (Sum.inr p.1 : Key)) = (keysF F).map Sum.inr := by unfold keysF; rw [List.map_map]; rfl
  rw [z]
  exact List.pairwise_map.mpr (List.Pairwise.imp (fun h e => h (Sum.inr.inj e)) h)
theorem lflat_ok {G : Gm} {n : Nat} (h1 : G.fn "_law_flat" = some (lflatS n)) : (lflatS (n + 1)).Ok G b_lflat 1 3 := by
  rintro os ho ⟨t, rfl, hok, hdep, hnd, hone⟩
  have bg := big
  unfold b_lflat
  cases t with
  | no =>
    show evB G _ [.dat .none, .un, .un, .un] _
    walk_at "vc"
    exact p_relS Tr.no tr_inj rfl
  | fl x =>
    show evB G _ [.dat (.str x), .un, .un, .un] _
    walk_at "vc"
    exact p_relS (Tr.fl x) tr_inj rfl
  | dr l es =>
    have dep2 : es.dep + 1 < n + 1 := hdep
    have nd2 : es.nd + 1 ≤ 16 := hnd
    have l4 : es.toL.length ≤ 4 := by rw [Es.len_toL]; exact hok.2.2.1
    have keys := hone.keys
    have ek : keysF (Tr.dr l es).flat = l :: keysF (es.toL.flatMap fun p => p.2.flat) := by
      show l :: keysF es.flat = _
      rw [Es.flat_toL]
    rw [ek] at keys
    obtain ⟨k1, k2⟩ := List.nodup_cons.mp keys
    have fl : (es.toL.flatMap fun p => p.2.flat).length = es.nd := by rw [← Es.flat_toL, Es.flat_len]
    show evB G _ [.dat (.tuple [.str l, .tuple es.ds]), .un, .un, .un] _
    rw [Es.ds_toL]
    walk_at "vc"
    refine s_compsX (fun p => cellO (p.1, p.2.lab)) (by omega) trivial (fun p k hp hk => ?_) ?_
    · obtain ⟨s, u⟩ := p
      show bindT _ (.dat (.tuple [.str s, u.d])) _ _
      cases u with
      | no =>
        show bindT _ (.dat (.tuple [.str s, .none])) _ _
        walk_at "vc"
        exact hk
      | fl x =>
        show bindT _ (.dat (.tuple [.str s, .str x])) _ _
        walk_at "vc"
        exact hk
      | dr l2 es2 =>
        show bindT _ (.dat (.tuple [.str s, .tuple [.str l2, .tuple es2.ds]])) _ _
        walk_at "vc"
        exact hk
    walk_at "vc"
    refine d_putKn (k := .inr l) rfl rfl (by decide) ?_
    walk_at "vc"
    refine s_loopE (fun i ρ => ∃ w2 w3, ρ = [.dat (.tuple [.str l, .tuple (es.toL.map slotD)]), flatO ((l, es.row) :: (es.toL.take i).flatMap fun p => p.2.flat), w2, w3]) ⟨.un, .un, ?_⟩ (fun _ _ _ _ => trivial) ?_ ?_
    · have e : es.toL.map (fun p => cellO (p.1, p.2.lab)) = es.row.map cellO := by
        unfold Es.row
        rw [List.map_map]
        rfl
      rw [e]
      rfl
    · rintro i ⟨s, u⟩ ρ k hi ⟨w2, w3, rfl⟩ hk
      have hm := List.mem_of_getElem? hi
      obtain ⟨q1, q2, q3, q4⟩ := Es.mem_toL hok.2.2.2 hm
      have q3 : u.dep ≤ es.dep := q3
      have q4 : u.nd ≤ es.nd := q4
      have sp := flatMap_split (f := fun p : Str × Tr => p.2.flat) hi
      have ft := flatMap_take (f := fun p : Str × Tr => p.2.flat) hi
      rw [sp] at k1 k2 fl
      rw [List.length_append, List.length_append] at fl
      have fl : ((es.toL.take i).flatMap fun p => p.2.flat).length + (u.flat.length + _) = es.nd := fl
      have k1 : l ∉ keysF (((es.toL.take i).flatMap fun p => p.2.flat) ++ (u.flat ++ _)) := k1
      have k2 : (keysF (((es.toL.take i).flatMap fun p => p.2.flat) ++ (u.flat ++ _))).Nodup := k2
      unfold keysF at k1 k2
      rw [List.map_append, List.map_append] at k1 k2
      have uone : u.one := hone.kid hm
      show bindT _ (.dat (.tuple [.str s, u.d])) _ _
      walk_at "vc"
      refine r_rcvU rfl ?_
      walk_at "vc"
      refine c_rel u rfl ⟨q2, by omega, by omega, uone⟩ ?_
      rintro r rfl
      walk_at "vc"
      refine d_upd ⟨?_, ?_, ?_⟩ ?_
      · rw [List.length_map, List.length_map, List.length_cons]; omega
      · intro k hk' hk2
        obtain ⟨x, rfl, hx⟩ := keys_inr hk'
        obtain ⟨y, ey, hy⟩ := keys_inr hk2
        cases ey
        rcases List.mem_cons.mp hy with e | hy
        · have e : x = l := e
          subst e
          exact k1 (List.mem_append_right _ (List.mem_append_left _ hx))
        · exact (List.nodup_append.mp k2).2.2 x hy x (List.mem_append_left _ hx) rfl
      · exact nodup_inr uone.keys
      rw [flatO_app]
      walk_at "vc"
      refine hk _ ⟨.dat (.str s), .dat u.d, ?_⟩
      rw [ft]
      rfl
    · rintro ρ ⟨w2, w3, rfl⟩
      walk_at "vc"
      rw [List.take_length, ← Es.flat_toL, ← Es.ds_toL]
      exact p_relS (Tr.dr l es) tr_inj rfl
theorem kdOf_tab {F : Flat} (h : F ≠ []) : kdOf (F.map entD) = some (.dk (F.map fun p => .inr p.1)) := by
  unfold kdOf
  have ne : (F.map entD).isEmpty = false := by
    cases F with
    | nil => exact absurd rfl h
    | cons _ _ => rfl
  rw [if_neg (by rw [ne]; decide)]
  have e : (F.map entD).map (·.1) = (F.map fun p => (Sum.inr p.1 : Key)).map kD := by
    rw [List.map_map, List.map_map]
    rfl
  rw [e, keysD_kD]
theorem tab_vals (F : Flat) : ((F.map entD).map (·.2)).map O.dat = F.map fun p => O.dat (rowD p.2) := by
  rw [List.map_map, List.map_map]
  rfl
theorem dget_tab {F : Flat} {l : Option Str} {Q : PyData → Prop} (h : Q (rowD (F.get l))) : dgetQ (.dk (F.map fun p => .inr p.1)) (((F.map entD).map (·.2)).map O.dat) (labD l) (.list []) Q := by
  cases l with
  | none => exact d_getN rfl h
  | some x =>
    have e1 : keyPos (Sum.inr x : Key) (F.map fun p => .inr p.1) = keyPos x (keysF F) := by
      have z : (F.map fun p => (Sum.inr p.1 : Key)) = (keysF F).map Sum.inr := by unfold keysF; rw [List.map_map]; rfl
      rw [z, keyPos_inr]
    have lp := lookup_pos x F
    have eg : F.get (some x) = (F.lookup x).getD [] := rfl
    rw [eg, lp] at h
    cases e : keyPos x (keysF F) with
    | none =>
      rw [e] at h
      refine d_getN (by show some (keyPos (Sum.inr x : Key) _) = _; rw [e1, e]) h
    | some i =>
      have lt := keyPos_lt e
      have lt : i < F.length := by unfold keysF at lt; rw [List.length_map] at lt; exact lt
      rw [e] at h
      simp only [Option.bind_some, List.getElem?_eq_getElem lt, Option.map_some, Option.getD_some] at h
      refine d_getS (n := i) (d := rowD F[i].2) (by show some (keyPos (Sum.inr x : Key) _) = _; rw [e1, e]) ?_ h
      rw [tab_vals, List.getElem?_map, List.getElem?_eq_getElem lt]
      rfl
def n_lfind : List Str := ["_law_flat_here", "_law_root", "_law_trail_here", "_law_here", "_law_entry", "_law_deep", "_law_name", "_law_some", "_law_one"]
def b_lfind : List CS := [
  .set (.nm 3) (.var 1),
  .set (.nm 4) .non,
  .for_ (.tp [(.nm 5), (.nm 6)]) (.enu (.var 2)) [
    .set (.nm 7) (.comp [("_law_one", 8)] (.var 8) (.nm 8) (.get2 (.var 0) (.var 3) (.lst [])) [(.cmp .Eq (.idx (.var 8) (.int 0)) (.var 6))]),
    .ife (.cmp .Eq (.var 7) (.lst [])) [
      .ret (.tup [(.var 5), (.var 4)])] [],
    .set (.nm 4) (.idx (.var 7) (.int 0)),
    .set (.nm 3) (.idx (.var 4) (.int 1))],
  .ret (.tup [(.blt .len [(.var 2)]), (.var 4)])]
def ecD : Option (Str × Option Str) → PyData
  | none => .none
  | some c => cellD c
abbrev Q3 := Flat × Option Str × List Str
def encF (a : Q3) : List PyData := [tabD a.1, labD a.2.1, pathD a.2.2]
theorem encF_inj : ∀ a b : Q3, encF a = encF b → a = b := three_inj tabD_inj labD_inj pathD_inj
abbrev lfindS : FS := relS 3 encF (fun a => a.1 ≠ [] ∧ ∀ p, p ∈ a.1 → p.2.length ≤ 4) fun a r => r = .dat (.tuple [.int (findF a.1 a.2.1 none a.2.2).1, ecD (findF a.1 a.2.1 none a.2.2).2])
theorem Flat.get_len {F : Flat} {l : Option Str} (h : ∀ p, p ∈ F → p.2.length ≤ 4) : (F.get l).length ≤ 4 := by
  cases l with
  | none => exact Nat.zero_le _
  | some x =>
    show ((F.lookup x).getD []).length ≤ 4
    rw [lookup_pos]
    cases e : keyPos x (keysF F) with
    | none => exact Nat.zero_le _
    | some i =>
      cases e2 : F[i]? with
      | none => simp [e2]
      | some p => simpa [e2] using h p (List.mem_of_getElem? e2)
theorem lfind_ok {G : Gm} : lfindS.Ok G b_lfind 3 6 := by
  rintro os ho ⟨⟨F, l, p⟩, rfl, hF, h4⟩
  have hF : F ≠ [] := hF
  have h4 : ∀ p, p ∈ F → p.2.length ≤ 4 := h4
  have bg := big
  unfold b_lfind
  show evB G _ [.dat (.dict (F.map entD)), .dat (labD l), .dat (.tuple (p.map PyData.str)), .un, .un, .un, .un, .un, .un] _
  walk_at "vc"
  refine s_loopN (fun i ρ => ∃ (h : Option Str) (e : Option (Str × Option Str)) (w5 w6 w7 : O), ρ = [.dat (.dict (F.map entD)), .dat (labD l), .dat (.tuple (p.map PyData.str)), .dat (labD h), .dat (ecD e), w5, w6, w7, .un] ∧ findF F l none p = (i + (findF F h e (p.drop i)).1, (findF F h e (p.drop i)).2)) ⟨l, none, .un, .un, .un, rfl, by rw [List.drop_zero, Nat.zero_add]⟩ (fun _ _ _ _ => trivial) ?_ ?_
  · rintro i x ρ k hi ⟨h, e, w5, w6, w7, rfl, ego⟩ hk
    have ed : p.drop i = x :: p.drop (i + 1) := by
      have lt := lt_of_get hi
      rw [List.getElem?_eq_getElem lt] at hi
      rw [List.drop_eq_getElem_cons lt, Option.some.inj hi]
    have gl := Flat.get_len (l := h) h4
    rw [ed, findF_cons] at ego
    walk_at "vc"
    refine r_dcvD2 (kdOf_tab hF) ?_
    walk_at "vc"
    refine r_dcvD (kdOf_tab hF) (dget_tab ?_)
    walk_at "vc"
    refine s_compsF (fun d => match d with | .list (.str y :: _) => decide (y = x) | _ => false) id (by rw [List.length_map]; omega) trivial (fun d k hd h1 h2 => ?_) ?_
    · obtain ⟨c, hc, rfl⟩ := List.mem_map.mp hd
      show bindT _ (.dat (.list [.str c.1, labD c.2])) _ _
      walk_at "vc"
      · rename_i e1
        exact h1 (decide_eq_true e1)
      · rename_i e1
        exact h2 (decide_eq_false e1)
    have ef : (((F.get h).map cellD).filter fun d => match d with | .list (.str y :: _) => decide (y = x) | _ => false) = ((F.get h).filter fun c => decide (c.1 = x)).map cellD := by
      rw [List.filter_map]
      rfl
    rw [List.map_id, ef]
    generalize (F.get h).filter (fun c => decide (c.1 = x)) = g at ego ⊢
    walk_at "vc"
    · rename_i he
      cases g with
      | cons c r => cases he
      | nil =>
        refine p_relS (F, l, p) encF_inj ?_
        show O.dat (.tuple [.int i, ecD e]) = .dat (.tuple [.int (findF F l none p).1, ecD (findF F l none p).2])
        rw [ego]
        rfl
    · rename_i he
      cases g with
      | nil => cases he
      | cons c r =>
        refine r_idxL (n := 0) (d := cellD c) (ixN_nat (by decide) (by rw [List.length_map]; simp)) rfl ?_
        walk_at "vc"
        show idxD (.list [.str c.1, labD c.2]) _ _
        walk_at "vc"
        refine hk _ ⟨c.2, some c, _, _, _, rfl, ?_⟩
        rw [ego]
        have ar : ∀ a b : Nat, a + (b + 1) = a + 1 + b := fun a b => by omega
        show (i + ((findF F c.2 (some c) (p.drop (i + 1))).1 + 1), _) = _
        rw [ar]
  · rintro ρ ⟨h, e, w5, w6, w7, rfl, ego⟩
    rw [List.drop_length] at ego
    walk_at "vc"
    refine p_relS (F, l, p) encF_inj ?_
    rw [show (p.map PyData.str).length = p.length from List.length_map ..]
    show O.dat (.tuple [.int p.length, ecD e]) = .dat (.tuple [.int (findF F l none p).1, ecD (findF F l none p).2])
    rw [ego]
    rfl
end VS

namespace VS
open PySem PySem.Spec PyProof.Rows L2
set_option hygiene false
local macro_rules | `(tactic| walk_at "vc") => `(tactic| repeat' (first
      | ((with_reducible apply s_consN); (case e => (first | (dsimp only [backO, wipeO, List.map, setS, getS, O.setP, O.getP, List.set_cons_zero, List.set_cons_succ, List.getElem?_cons_zero, List.getElem?_cons_succ]; first | done | exact rfl) | exact rfl)))
      | with_reducible refine s_nil ?_
      | with_reducible refine d_eqP ?_ ?_ ?_
      | with_reducible refine d_lenP ?_
      | with_reducible refine d_slP0 ?_ ?_
      | with_reducible refine d_slP1 ?_ ?_
      | with_reducible refine d_addP ?_ ?_
      | with_reducible refine d_addP1 ?_ ?_
      | with_reducible refine d_slT0 ?_ ?_
      | with_reducible refine d_slT1 ?_ ?_
      | with_reducible refine d_slL0 ?_ ?_
      | with_reducible refine d_slL1 ?_ ?_
      | with_reducible refine s_set ?_
      | with_reducible refine s_if ?_
      | with_reducible refine s_for ?_
      | with_reducible refine s_ex ?_
      | with_reducible refine s_ret ?_
      | with_reducible refine s_retN ?_
      | with_reducible refine s_pass ?_
      | with_reducible refine s_brk ?_
      | with_reducible refine s_cont ?_
      | with_reducible refine s_put ?_
      | with_reducible refine s_augP ?_
      | with_reducible refine s_par ?_
      | with_reducible refine s_T ?_
      | with_reducible refine s_bin ?_
      | with_reducible refine s_cmp ?_
      | with_reducible refine s_idx ?_
      | with_reducible refine s_int ?_
      | with_reducible refine s_str ?_
      | with_reducible refine s_bl ?_
      | with_reducible refine s_non ?_
      | with_reducible refine s_lst ?_
      | with_reducible refine s_tup ?_
      | with_reducible refine s_dct ?_
      | with_reducible refine s_dnewK ?_
      | with_reducible refine s_dnewT ?_
      | with_reducible refine s_neg ?_
      | with_reducible refine s_chn ?_
      | with_reducible refine s_bop ?_
      | with_reducible refine s_bop1 ?_
      | with_reducible refine s_bop2 ?_
      | with_reducible refine s_nt ?_
      | with_reducible refine s_ife ?_
      | with_reducible refine s_sl ?_
      | with_reducible refine s_isi ?_
      | with_reducible refine s_comp ?_
      | with_reducible refine s_blt ?_
      | with_reducible refine s_mth ?_
      | with_reducible refine s_mmt ?_
      | with_reducible refine s_rng ?_
      | with_reducible refine s_enu ?_
      | with_reducible refine s_zip ?_
      | with_reducible refine s_lzip ?_
      | with_reducible refine s_dof ?_
      | with_reducible refine s_upd ?_
      | with_reducible refine s_rng3 ?_
      | with_reducible refine s_get1 ?_
      | with_reducible refine s_get2 ?_
      | with_reducible refine s_isin ?_
      | with_reducible refine s_fst ?_
      | with_reducible refine s_F0 ?_
      | with_reducible refine s_F1 ?_
      | with_reducible refine s_rev ?_
      | with_reducible refine s_fl ?_
      | with_reducible refine r_onNdD ?_
      | with_reducible refine r_onNdL ?_
      | with_reducible refine s_frz ?_
      | with_reducible refine s_dctT ?_
      | with_reducible refine r_notT ?_
      | with_reducible refine r_notF ?_
      | with_reducible refine r_notB ?_
      | with_reducible refine d_revL ?_
      | with_reducible refine s_L0 ?_
      | with_reducible refine s_L1 ?_
      | with_reducible refine s_H0 ?_
      | with_reducible refine s_H1 ?_
      | with_reducible refine s_C0 ?_
      | with_reducible refine s_P0 ?_
      | with_reducible refine s_P1 ?_
      | with_reducible refine s_O0 ?_
      | with_reducible refine s_O1 ?_
      | with_reducible refine s_Ts0 ?_
      | with_reducible refine s_Ts1 ?_
      | with_reducible refine r_asDd ?_
      | with_reducible refine r_asDl ?_
      | with_reducible refine r_asOo ?_
      | with_reducible refine r_asOp ?_
      | with_reducible refine r_holdD ?_
      | with_reducible refine r_holdP ?_
      | with_reducible refine r_holdO ?_
      | with_reducible refine r_vwD ?_
      | with_reducible refine r_vws0 ?_
      | with_reducible refine r_vws1 ?_
      | with_reducible refine r_stabO ?_
      | with_reducible refine r_stabP ?_
      | with_reducible refine r_stabT ?_
      | with_reducible refine r_idxO ?_
      | with_reducible refine r_itL ?_
      | with_reducible refine r_itT ?_
      | with_reducible refine r_itS ?_
      | with_reducible refine r_itI ?_
      | with_reducible refine r_itV ?_
      | with_reducible refine r_onPl ?_
      | with_reducible refine r_onInt ?_
      | with_reducible refine r_seqL ?_
      | with_reducible refine r_seqT ?_
      | with_reducible refine r_onDat ?_
      | with_reducible refine r_rcvM ?_
      | with_reducible refine d_add ?_
      | with_reducible refine d_sub ?_
      | with_reducible refine d_lt ?_
      | with_reducible refine d_le ?_
      | with_reducible refine d_gt ?_
      | with_reducible refine d_ge ?_
      | with_reducible refine d_inS ?_
      | with_reducible refine d_ninS ?_
      | with_reducible refine d_augA ?_
      | with_reducible refine d_augS ?_
      | with_reducible refine r_mutL ?_
      | with_reducible refine d_eqS ?_
      | with_reducible refine d_neS ?_
      | with_reducible refine d_eqI ?_
      | with_reducible refine d_neI ?_
      | with_reducible refine d_is ?_
      | with_reducible refine d_isn ?_
      | with_reducible refine d_truB ?_
      | with_reducible refine d_truI ?_
      | with_reducible refine d_truL ?_
      | with_reducible refine d_truT ?_
      | with_reducible refine d_truN ?_
      | with_reducible refine d_lenL ?_
      | with_reducible refine d_lenT ?_
      | with_reducible refine d_listL ?_
      | with_reducible refine d_listT ?_
      | with_reducible refine d_tupL ?_
      | with_reducible refine d_tupT ?_
      | with_reducible refine d_abs ?_
      | with_reducible refine d_intI ?_
      | with_reducible refine d_intB ?_
      | with_reducible refine d_min ?_
      | with_reducible refine d_max ?_
      | with_reducible refine d_slL ?_
      | with_reducible refine d_slX ?_
      | with_reducible refine d_slT ?_
      | with_reducible refine b_T ?_
      | with_reducible refine b_F ?_
      | with_reducible refine b_TF ?_
      | with_reducible refine b_FF ?_
      | with_reducible refine s_tp ?_
      | with_reducible refine s_tnil ?_
      | with_reducible refine s_tcons ?_
      | ((with_reducible apply s_varD); (case h1 => exact rfl))
      | ((with_reducible apply s_varN); (case h1 => exact rfl))
      | ((with_reducible apply s_mvD); (case h1 => exact rfl))
      | ((with_reducible apply s_mvL); (case h1 => with_reducible exact rfl))
      | ((with_reducible apply s_mvN); (case h1 => exact rfl))
      | ((with_reducible apply s_nm); (case h1 => (simp only [setS_len, backO_len, wipeO_len, List.length_cons, List.length_nil, List.length_set]; decide)))
      | ((with_reducible apply r_vwP); (case e1 => exact rfl); (case e => first | exact flat_dL _ | exact rfl))
      | ((with_reducible apply r_idxP); (case e => exact rfl))
      | ((with_reducible apply r_opt); (case e => exact rfl))
      | ((with_reducible apply r_idxC); (case e1 => (first | exact pk_cells _ | exact pk_at _ | exact pk_rest _ | exact rfl)); (case e2 => exact rfl))
      | ((with_reducible apply r_idxN); (case e1 => (first | exact pk_cells _ | exact pk_at _ | exact pk_rest _ | exact rfl)); (case e2 => exact rfl))
      | ((with_reducible apply s_C1); (case h1 => exact trivial))
      | ((with_reducible apply s_C2); (case h1 => exact rfl))
      | ((with_reducible apply r_asDn); (case e => first | exact toD_dL _ | with_reducible exact toD_two _ _ | ((repeat' (first | with_reducible exact toD_dL _ | assumption | with_reducible exact toD_dat _ | with_reducible exact toDL_nil | with_reducible apply toD_lst | with_reducible apply toD_tupO | with_reducible apply toD_dk | with_reducible apply toD_dt | with_reducible apply toDL_cons | exact rfl)); done) | exact rfl))
      | ((with_reducible apply r_asDp); (case e1 => exact rfl); (case e => first | exact toD_dL _ | exact rfl))
      | ((with_reducible apply r_rcvW); (case e => exact rfl))
      | ((with_reducible apply s_call); (case h1 => assumption))
      | with_reducible refine d_mul ?_ ?_
      | with_reducible refine d_mod ?_ ?_
      | with_reducible refine d_div ?_ ?_
      | with_reducible refine d_pow ?_ ?_
      | with_reducible refine d_addS ?_ ?_
      | with_reducible refine d_addL ?_ ?_
      | with_reducible refine d_addT ?_ ?_
      | with_reducible refine d_mulS ?_ ?_
      | with_reducible refine d_mulL ?_ ?_
      | with_reducible refine d_mulT ?_ ?_
      | with_reducible refine d_truS ?_ ?_
      | with_reducible refine d_lenS ?_ ?_
      | with_reducible refine d_slS ?_ ?_
      | with_reducible refine d_rng1 ?_ ?_
      | with_reducible refine d_rng2 ?_ ?_
      | with_reducible refine d_app ?_ ?_
      | with_reducible refine d_appL ?_ ?_
      | with_reducible refine d_repr ?_ ?_
      | with_reducible refine d_fmtS ?_ ?_
      | with_reducible refine r_lz ?_ ?_
      | with_reducible refine r_dn ?_ ?_
      | with_reducible refine r_zipL ?_ ?_
      | with_reducible refine r_zipT ?_ ?_
      | with_reducible refine b_ite (fun _ => ?_) (fun _ => ?_)
      | with_reducible refine b_iteN (fun _ => ?_) (fun _ => ?_)
      | with_reducible refine b_iteF (fun _ => ?_) (fun _ => ?_)
      | with_reducible refine b_iteNF (fun _ => ?_) (fun _ => ?_)
      | refine r_stabL rfl ?_
      | refine r_stabR rfl ?_
      | with_reducible refine p_cells ?_
      | with_reducible refine p_at ?_
      | with_reducible refine p_rest ?_
      | refine s_C1p (by exact rfl) (by assumption) ?_
      | refine c_draw (by exact rfl) (by assumption) ?_ (fun _ _ _ _ _ => ?_)
      | with_reducible refine d_eqE ?_
      | with_reducible refine d_neE ?_
      | with_reducible refine d_in ?_ ?_
      | with_reducible refine d_nin ?_ ?_
      | with_reducible refine d_eq ?_ ?_
      | with_reducible refine d_ne ?_ ?_
      | with_reducible refine b_anyN (fun _ => ?_) (fun _ => ?_)
      | with_reducible refine b_anyNF (fun _ => ?_) (fun _ => ?_)
      | with_reducible refine b_any (fun _ => ?_) (fun _ => ?_)
      | with_reducible refine d_popL ?_
      | ((with_reducible apply r_par); (case n1 => decide); (case n2 => (simp only [setS_len, backO_len, wipeO_len, List.length_cons, List.length_nil, List.length_set]; decide)); (case n3 => (simp only [setS_len, backO_len, wipeO_len, List.length_cons, List.length_nil, List.length_set]; decide)))
      | refine c_names (by exact rfl) (by assumption) ?_ (fun _ _ _ _ _ _ => ?_)
      | refine c_pen (fun _ _ => ?_)
      | with_reducible refine b_anyN (fun _ => ?_) (fun _ => ?_)
      | with_reducible refine b_anyNF (fun _ => ?_) (fun _ => ?_)
      | with_reducible refine b_anyF (fun _ => ?_) (fun _ => ?_)
      | ((with_reducible apply r_isi (b := true)); (case e1 => exact rfl); (case e2 => exact rfl))
      | ((with_reducible apply r_isi (b := false)); (case e1 => exact rfl); (case e2 => exact rfl))
      | ((with_reducible apply s_con); (case h1 => assumption))
      | with_reducible refine d_allM ?_
      | with_reducible refine d_anyM ?_
      | ((with_reducible apply r_itO); (case e => first | exact toD_dL _ | ((repeat' (first | with_reducible exact toD_dL _ | assumption | with_reducible exact toD_dat _ | with_reducible exact toDL_nil | with_reducible apply toD_lst | with_reducible apply toD_tupO | with_reducible apply toD_dk | with_reducible apply toD_dt | with_reducible apply toDL_cons | exact rfl)); done) | exact rfl))
      | ((with_reducible apply r_toDL); (case e => first | ((repeat' (first | with_reducible exact toD_dL _ | assumption | with_reducible exact toD_dat _ | with_reducible exact toDL_nil | with_reducible apply toD_lst | with_reducible apply toD_tupO | with_reducible apply toD_dk | with_reducible apply toD_dt | with_reducible apply toDL_cons | exact rfl)); done) | exact toDL_datL (datL_map _)))
      | ((with_reducible apply d_ixT); (case e => exact rfl))
      | ((with_reducible apply d_ixL); (case e => exact rfl))
      | ((with_reducible apply d_appO); (case e => exact rfl))
      | ((with_reducible apply r_itP); (case e1 => exact rfl))
      | with_reducible refine c_fn1 ?_ ?_
      | with_reducible refine c_fn2 ?_ ?_
      | ((with_reducible apply r_dcvK2); (case e => exact rfl))
      | ((with_reducible apply r_dcvT2); (case e => exact rfl))
      | ((with_reducible apply r_dcvK); (case e => exact rfl))
      | ((with_reducible apply r_dcvT); (case e => exact rfl))
      | with_reducible refine r_inT ?_
      | with_reducible refine r_inF ?_
      | with_reducible refine r_ninT ?_
      | with_reducible refine r_ninF ?_
      | refine c_volume (by exact rfl) (by assumption) ?_ (fun _ _ _ _ => ?_)
      | fail))
/-! ## drawn paths -/
structure VolP (t : Tr) : Prop where
  dr : t.isDr
  ok : t.ok
  dep : t.dep ≤ 16
  nd : t.nd ≤ 16
  sd : t.sd
  one : t.one
theorem VolT.vp {m : Int} {t : Tr} (h : VolT m t) (hm : m ≤ 16) : VolP t := ⟨h.dr, h.ok, by have := h.dep; omega, by have := h.nd; omega, h.sd, h.cl⟩
theorem VolP.wk {t : Tr} (h : VolP t) : 1 ≤ (t.wk []).length ∧ (t.wk []).length ≤ 64 ∧ ∀ p, p ∈ t.wk [] → PathOk p.1 ∧ p.2.ok ∧ p.2.nd ≤ 16 := by
  refine ⟨?_, ?_, fun p hp => ?_⟩
  · cases t with
    | dr l es =>
      have e := h.ok.2.1
      cases es with
      | nil => cases e
      | cons s t r =>
        show 1 ≤ (([] ++ [s], t) :: (t.wk ([] ++ [s]) ++ r.wk [])).length
        rw [List.length_cons]
        omega
    | no => exact h.dr.elim
    | fl x => exact h.dr.elim
  · have a := Tr.wk_len [] h.ok
    have b := h.nd
    omega
  · obtain ⟨a, b, c, d, e⟩ := Tr.wk_mem (n := 16) h.ok h.dep NmS.nil hp
    have b : 0 < p.1.length := b
    have c : p.1.length + p.2.dep ≤ 0 + 16 := c
    exact ⟨⟨by omega, by omega, a⟩, d, Nat.le_trans e h.nd⟩
theorem VolP.flat {t : Tr} (h : VolP t) : t.flat ≠ [] ∧ ∀ p, p ∈ t.flat → p.2.length ≤ 4 := by
  have rows : (∀ t : Tr, t.ok → ∀ p, p ∈ t.flat → p.2.length ≤ 4) := by
    intro t hok p hp
    exact (rowsT t hok p hp)
  refine ⟨?_, rows t h.ok⟩
  cases t with
  | dr l es => exact fun z => nomatch z
  | no => exact h.dr.elim
  | fl x => exact h.dr.elim
where
  rowsT : ∀ t : Tr, t.ok → ∀ p, p ∈ t.flat → p.2.length ≤ 4
    | .dr l es, h, p, hp => by
      rcases List.mem_cons.mp hp with e | hp
      · rw [e]
        show es.row.length ≤ 4
        unfold Es.row
        rw [List.length_map, Es.len_toL]
        exact h.2.2.1
      · exact rowsE es h.2.2.2 p hp
  rowsE : ∀ es : Es, es.ok → ∀ p, p ∈ es.flat → p.2.length ≤ 4
    | .cons s t r, h, p, hp => by
      rcases List.mem_append.mp hp with hp | hp
      · exact rowsT t h.2.1 p hp
      · exact rowsE r h.2.2 p hp
def n_ltrail : List Str := ["_law_pen_here", "_law_volume_here", "_law_some", "_law_trail_here", "_law_way", "_law_other", "_law_at", "_law_inner"]
def b_ltrail : List CS := [
  .set (.nm 2) (.comp [("_law_trail_here", 3), ("_law_inner", 7)] (.var 3) (.tp [(.nm 3), (.nm 7)]) (.call "_law_walk" [(.var 1), (.tup [])]) []),
  .set (.nm 3) (.idx (.var 2) (.call "_law_draw" [(.io 0), (.blt .len [(.var 2)])])),
  .set (.nm 4) (.call "_law_draw" [(.io 0), (.int 8)]),
  .set (.nm 5) (.idx (.idx (.var 2) (.call "_law_draw" [(.io 0), (.blt .len [(.var 2)])])) (.neg (.int 1))),
  .ife (.bop true [(.cmp .Eq (.var 4) (.int 0)), (.cmp .Lt (.blt .len [(.var 3)]) (.int 16))]) [
    .ret (.bin .Add (.var 3) (.tup [(.var 5)]))] [],
  .ife (.cmp .Eq (.var 4) (.int 1)) [
    .set (.nm 6) (.call "_law_draw" [(.io 0), (.blt .len [(.var 3)])]),
    .ret (.bin .Add (.bin .Add (.sl (.var 3) [] [(.var 6)]) (.tup [(.idx (.lst [(.var 5), (.str "zzz")]) (.call "_law_draw" [(.io 0), (.int 2)]))])) (.sl (.var 3) [(.bin .Add (.var 6) (.int 1))] []))] [],
  .ife (.cmp .Eq (.var 4) (.int 2)) [
    .ret (.sl (.var 3) [] [(.bin .Add (.int 1) (.call "_law_draw" [(.io 0), (.blt .len [(.var 3)])]))])] [],
  .ret (.mv 3)]
abbrev ltrailS : FS := dranS 1 (fun t : Tr => [t.d]) 5 VolP fun t r => ∃ xs, r = .dat (pathD xs) ∧ PathOk xs
theorem d_lastP {xs : List Str} {P : PyData → Prop} (h : 1 ≤ xs.length) (k : ∀ x, x ∈ xs → P (.str x)) : idxD (.tuple (sD xs)) (.int (-1)) P := by
  have e : ixN (sD xs).length (-1) = some (xs.length - 1) := by
    unfold ixN
    rw [if_neg (by omega), if_pos (by rw [sD_len]; omega), sD_len]
    congr 1
    omega
  have lt : xs.length - 1 < (sD xs).length := by rw [sD_len]; omega
  refine atQ_of (x := .str (xs[xs.length - 1]'(by omega))) ?_ (k _ (List.getElem_mem _))
  unfold L2.atI
  rw [e]
  show (sD xs)[xs.length - 1]? = _
  unfold sD
  rw [List.getElem?_map, List.getElem?_eq_getElem (by omega)]
  rfl
theorem zzz_nm : nmS ("zzz" : Str) := ⟨by decide, by decide, by unfold Low; decide⟩
theorem ltrail_ok {G : Gm} (h1 : G.fn "_law_draw" = some drawS) (h2 : G.fn "_law_walk" = some (walkS 17)) : ltrailS.Ok G b_ltrail 2 6 := by
  rintro os ho ⟨o, t, b1, rfl, hp1, hb1, hv⟩
  obtain ⟨b, hp, least⟩ := hp1.least
  have hb : b + 5 ≤ 1000000 := by have := least b1 hp1; omega
  clear hp1 hb1
  have bg := big
  obtain ⟨w1, w2, w3⟩ := hv.wk
  have fin : ∀ {o' : O} {xs : List Str}, PathOk xs → Pn (b + 5) o' → ltrailS.post (o :: [O.dat t.d]) (.dat (pathD xs)) (o' :: List.replicate 1 .un) := fun {o' xs} h1 h2 =>
    p_dranS t tr_inj ⟨xs, rfl, h1⟩ fun c hc => h2.mono (by have := least c hc; omega)
  unfold b_ltrail
  show evB G _ [o, .dat t.d, .un, .un, .un, .un, .un, .un] _
  walk_at "vc"
  refine c_rel (t, []) rfl ⟨hv.ok, by have := hv.dep; show t.dep < 17; omega, hv.nd, by have := hv.dep; show 0 + t.dep ≤ 1000; omega⟩ ?_
  intro r hr
  have hr : r = dL ((t.wk []).map wkD) := hr
  subst hr
  walk_at "vc"
  refine s_compsE (fun p => pathD p.1) (by omega) trivial (fun p k hpm hk => ?_) ?_
  · show bindT _ (.dat (.tuple [pathD p.1, p.2.d])) _ _
    walk_at "vc"
    exact hk
  have ps : ∀ x, x ∈ (t.wk []).map (fun p => pathD p.1) → ∃ xs, x = .tuple (sD xs) ∧ PathOk xs := fun x hx => by
    obtain ⟨p, hpm, rfl⟩ := List.mem_map.mp hx
    exact ⟨p.1, rfl, (w3 p hpm).1⟩
  have lps : ((t.wk []).map fun p => pathD p.1).length = (t.wk []).length := List.length_map ..
  generalize (t.wk []).map (fun p => pathD p.1) = L at ps lps ⊢
  walk_at "vc"
  · exact ⟨by omega, by omega, by omega⟩
  rename_i d1 o1 a1 a2 hq1
  refine r_idxM a1 a2 fun x hx => ?_
  obtain ⟨xs, rfl, hxs⟩ := ps x hx
  obtain ⟨x1, x2, x3⟩ := hxs
  walk_at "vc"
  · exact ⟨by omega, by decide, by decide⟩
  · exact ⟨by omega, by omega, by omega⟩
  rename_i d2 o2 b1 b2 hq2 d3 o3 c1 c2 hq3
  refine r_idxM c1 c2 fun y hy => ?_
  obtain ⟨ys, rfl, hys⟩ := ps y hy
  obtain ⟨y1, y2, y3⟩ := hys
  walk_at "vc"
  refine d_lastP y1 fun z hz => ?_
  have nz := y3 z hz
  walk_at "vc"
  · omega
  · refine fin ⟨?_, ?_, x3.app (NmS.one nz)⟩ (hq3.mono (by omega))
    · rw [List.length_append]; simp
    · rw [List.length_append, List.length_singleton]; omega
  · exact ⟨by omega, by omega, by omega⟩
  · assumption
  · exact ⟨by omega, by decide, by decide⟩
  · rename_i d4 o4 m1 m2 hq4 d5 o5 n1 n2 hq5
    refine d_atM n1 n2 fun u hu => ?_
    obtain ⟨nu, rfl, hnu⟩ : ∃ nu, u = .str nu ∧ nmS nu := by
      simp only [List.mem_cons, List.not_mem_nil, or_false] at hu
      rcases hu with rfl | rfl
      · exact ⟨_, rfl, nz⟩
      · exact ⟨_, rfl, zzz_nm⟩
    walk_at "vc"
    · rw [List.length_take]; omega
    · omega
    · rw [List.length_append, List.length_take, List.length_drop, List.length_singleton]; omega
    refine fin ⟨?_, ?_, ((x3.take _).app (NmS.one hnu)).app (x3.drop _)⟩ (hq5.mono (by omega))
    · rw [List.length_append, List.length_append, List.length_singleton]; omega
    · rw [List.length_append, List.length_append, List.length_take, List.length_drop, List.length_singleton]; omega
  · exact ⟨by omega, by omega, by omega⟩
  · omega
  · rename_i d4 o4 m1 m2 hq4
    refine fin ⟨?_, ?_, x3.take _⟩ (hq4.mono (by omega))
    · rw [List.length_take]; omega
    · rw [List.length_take]; omega
  · exact fin ⟨x1, x2, x3⟩ (hq3.mono (by omega))
  · omega
  · refine fin ⟨?_, ?_, x3.app (NmS.one nz)⟩ (hq3.mono (by omega))
    · rw [List.length_append]; simp
    · rw [List.length_append, List.length_singleton]; omega
  · exact ⟨by omega, by omega, by omega⟩
  · assumption
  · exact ⟨by omega, by decide, by decide⟩
  · rename_i d4 o4 m1 m2 hq4 d5 o5 n1 n2 hq5
    refine d_atM n1 n2 fun u hu => ?_
    obtain ⟨nu, rfl, hnu⟩ : ∃ nu, u = .str nu ∧ nmS nu := by
      simp only [List.mem_cons, List.not_mem_nil, or_false] at hu
      rcases hu with rfl | rfl
      · exact ⟨_, rfl, nz⟩
      · exact ⟨_, rfl, zzz_nm⟩
    walk_at "vc"
    · rw [List.length_take]; omega
    · omega
    · rw [List.length_append, List.length_take, List.length_drop, List.length_singleton]; omega
    refine fin ⟨?_, ?_, ((x3.take _).app (NmS.one hnu)).app (x3.drop _)⟩ (hq5.mono (by omega))
    · rw [List.length_append, List.length_append, List.length_singleton]; omega
    · rw [List.length_append, List.length_append, List.length_take, List.length_drop, List.length_singleton]; omega
  · exact ⟨by omega, by omega, by omega⟩
  · omega
  · rename_i d4 o4 m1 m2 hq4
    refine fin ⟨?_, ?_, x3.take _⟩ (hq4.mono (by omega))
    · rw [List.length_take]; omega
    · rw [List.length_take]; omega
  · exact fin ⟨x1, x2, x3⟩ (hq3.mono (by omega))
theorem isnested_inj : ∀ a b : List Str × List Str, [reqD2 a] = [reqD2 b] → a = b := one_inj reqD2_inj
def NmR (a : List Str × List Str) : Prop := NmS a.1 ∧ NmS a.2
def n_isnested : List Str := ["request", "p", "q"]
def b_isnested : List CS := [
  .set (.tp [(.nm 1), (.nm 2)]) (.var 0),
  .ret (.bop false [(.call "is_prefix" [(.var 1), (.var 2)]), (.call "is_prefix" [(.var 2), (.var 1)])])]
abbrev isnestedS : FS := relS 1 (fun a : List Str × List Str => [reqD2 a]) NmR fun a r => r = .dat (.bool (isPre a.1 a.2 || isPre a.2 a.1))
theorem isnested_ok {G : Gm} (h1 : G.fn "is_prefix" = some isprefS) : isnestedS.Ok G b_isnested 1 2 := by
  rintro os ho ⟨⟨p, q⟩, rfl, hp, hq⟩
  unfold b_isnested
  show evB G _ [.dat (.tuple [pathD p, pathD q]), .un, .un] _
  walk_at "vc"
  refine c_rel (p, q) rfl ⟨hp, hq⟩ ?_
  rintro r rfl
  walk_at "vc"
  · rename_i e
    have e : isPre p q = false := e
    refine c_rel (q, p) rfl ⟨hq, hp⟩ ?_
    rintro r rfl
    walk_at "vc"
    refine p_relS (p, q) isnested_inj ?_
    show O.dat (.bool (isPre q p)) = .dat (.bool (isPre p q || isPre q p))
    rw [e]
    rfl
  · rename_i e
    have e : isPre p q = true := e
    refine p_relS (p, q) isnested_inj ?_
    show O.dat (.bool (isPre p q)) = .dat (.bool (isPre p q || isPre q p))
    rw [e]
    rfl
theorem s_lp0 {ρ : Env} {stp : PyData → Env → (Env → Prop) → Prop} {K : Env → Prop} (h : K ρ) : loopS (fun _ => True) stp [] ρ K := by
  unfold loopS
  exact ⟨trivial, h⟩
theorem s_lp1 {ρ : Env} {stp : PyData → Env → (Env → Prop) → Prop} {a : PyData} {ds : List PyData} {K : Env → Prop} (h : stp a ρ fun ρ => loopS (fun _ => True) stp ds ρ K) : loopS (fun _ => True) stp (a :: ds) ρ K := by
  unfold loopS
  exact ⟨trivial, h⟩
def n_skipreason : List Str := ["volume", "request", "index", "path", "found"]
def b_skipreason : List CS := [
  .ife (.call "is_nested" [(.var 1)]) [
    .ret (.tup [(.str "nested")])] [],
  .for_ (.tp [(.nm 2), (.nm 3)]) (.enu (.var 1)) [
    .set (.nm 4) (.call "depth" [(.var 0), (.var 3)]),
    .ife (.cmp .Lt (.var 4) (.blt .len [(.var 3)])) [
      .ret (.tup [(.str "missing"), (.var 2), (.var 4)])] []],
  .ret .non]
abbrev T2 := Tr × List Str × List Str
def encT2 (a : T2) : List PyData := [a.1.d, reqD2 a.2]
theorem encT2_inj : ∀ a b : T2, encT2 a = encT2 b → a = b := two_inj Tr.d_inj reqD2_inj
abbrev skipreasonS : FS := relS 2 encT2 (fun a => a.1.ok ∧ a.1.sd ∧ NmR a.2) fun a r => r = .dat (rsnD (skipBy (fun p => (a.1.go p).1) a.2.1 a.2.2))
theorem skipreason_ok {G : Gm} (h1 : G.fn "is_nested" = some isnestedS) (h2 : G.fn "depth" = some depthS) : skipreasonS.Ok G b_skipreason 2 3 := by
  rintro os ho ⟨⟨t, p, q⟩, rfl, hok, hsd, hp, hq⟩
  unfold b_skipreason
  show evB G _ [.dat t.d, .dat (.tuple [pathD p, pathD q]), .un, .un, .un] _
  walk_at "vc"
  refine c_rel (p, q) rfl ⟨hp, hq⟩ ?_
  rintro r rfl
  walk_at "vc"
  · rename_i e
    have e : (isPre p q || isPre q p) = true := e
    refine p_relS (t, p, q) encT2_inj ?_
    show _ = O.dat (rsnD (skipBy _ p q))
    unfold skipBy
    rw [if_pos e]
    rfl
  · rename_i e
    have e : ¬ (isPre p q || isPre q p) = true := by
      have e : (isPre p q || isPre q p) = false := e
      rw [e]
      decide
    have fin : ∀ {R : Rsn}, skipBy (fun p => (t.go p).1) p q = R → skipreasonS.post ((encT2 (t, p, q)).map O.dat) (.dat (rsnD R)) [.un, .un] := fun h => p_relS (t, p, q) encT2_inj (by rw [← h])
    unfold skipBy at fin
    rw [if_neg e] at fin
    show loopS _ _ [.tuple [.int 0, .tuple (sD p)], .tuple [.int 1, .tuple (sD q)]] _ _
    refine s_lp1 ?_
    walk_at "vc"
    refine c_rel (t, p) rfl ⟨hok, hsd⟩ ?_
    rintro r rfl
    walk_at "vc"
    · rename_i l1
      have l1 : (t.go p).1 < p.length := by
        have l1 : ((t.go p).1 : Int) < p.length := l1
        omega
      exact fin (if_pos l1)
    · rename_i l1
      have l1 : ¬ (t.go p).1 < p.length := by
        have l1 : ¬ ((t.go p).1 : Int) < p.length := l1
        omega
      rw [if_neg l1] at fin
      refine s_lp1 ?_
      walk_at "vc"
      refine c_rel (t, q) rfl ⟨hok, hsd⟩ ?_
      rintro r rfl
      walk_at "vc"
      · rename_i l2
        have l2 : (t.go q).1 < q.length := by
          have l2 : ((t.go q).1 : Int) < q.length := l2
          omega
        exact fin (if_pos l2)
      · rename_i l2
        have l2 : ¬ (t.go q).1 < q.length := by
          have l2 : ¬ ((t.go q).1 : Int) < q.length := l2
          omega
        refine s_lp0 ?_
        walk_at "vc"
        exact fin (if_neg l2)
def n_lskip : List Str := ["_law_flat_here", "_law_root", "_law_pair", "_law_index", "_law_p", "_law_q", "_law_deep"]
def b_lskip : List CS := [
  .set (.tp [(.nm 4), (.nm 5)]) (.var 2),
  .ife (.bop false [(.cmp .Eq (.var 4) (.sl (.var 5) [] [(.blt .len [(.var 4)])])), (.cmp .Eq (.var 5) (.sl (.var 4) [] [(.blt .len [(.var 5)])]))]) [
    .ret (.tup [(.str "nested")])] [],
  .for_ (.nm 3) (.rng [(.int 2)]) [
    .set (.nm 6) (.idx (.call "_law_find" [(.var 0), (.var 1), (.idx (.var 2) (.var 3))]) (.int 0)),
    .ife (.cmp .Lt (.var 6) (.blt .len [(.idx (.var 2) (.var 3))])) [
      .ret (.tup [(.str "missing"), (.var 3), (.var 6)])] []],
  .ret .non]
abbrev F3 := Flat × Option Str × List Str × List Str
def encF3 (a : F3) : List PyData := [tabD a.1, labD a.2.1, reqD2 a.2.2]
theorem encF3_inj : ∀ a b : F3, encF3 a = encF3 b → a = b := three_inj tabD_inj labD_inj reqD2_inj
def FlatOk (F : Flat) : Prop := F ≠ [] ∧ ∀ p, p ∈ F → p.2.length ≤ 4
abbrev lskipS : FS := relS 3 encF3 (fun a => FlatOk a.1 ∧ NmR a.2.2) fun a r => r = .dat (rsnD (skipBy (fun p => (findF a.1 a.2.1 none p).1) a.2.2.1 a.2.2.2))
theorem lskip_ok {G : Gm} (h1 : G.fn "_law_find" = some lfindS) : lskipS.Ok G b_lskip 3 4 := by
  rintro os ho ⟨⟨F, l, p, q⟩, rfl, hF, hp, hq⟩
  unfold b_lskip
  show evB G _ [.dat (tabD F), .dat (labD l), .dat (.tuple [.tuple (sD p), .tuple (sD q)]), .un, .un, .un, .un] _
  have fin : ∀ {R : Rsn} {w : List O}, skipBy (fun p => (findF F l none p).1) p q = R → lskipS.post ((encF3 (F, l, p, q)).map O.dat) (.dat (rsnD R)) w := fun h => p_relS (F, l, p, q) encF3_inj (by rw [← h])
  unfold skipBy at fin
  have e1 : ∀ (a b : List Str), (a = b.take (a.length : Int).toNat) ↔ isPre a b = true := fun a b => by
    unfold isPre
    rw [Int.toNat_natCast, decide_eq_true_iff]
    exact ⟨fun h => h.symm, fun h => h.symm⟩
  walk_at "vc"
  · omega
  · exact hp
  · exact hq.take _
  · exact Int.natCast_nonneg _
  · exact hq
  · exact hp.take _
  all_goals try exact ⟨by decide, by decide⟩
  · rename_i _ e2
    have e2 := (e1 q p).mp e2
    exact fin (if_pos (by rw [e2, Bool.or_true]))
  · rename_i f1 f3
    have f1 : isPre p q = false := by
      cases h : isPre p q with
      | false => rfl
      | true => exact absurd ((e1 p q).mpr h) f1
    have f3 : isPre q p = false := by
      cases h : isPre q p with
      | false => rfl
      | true => exact absurd ((e1 q p).mpr h) f3
    rw [if_neg (by rw [f1, f3]; decide)] at fin
    show loopS _ _ [.int 0, .int 1] _ _
    refine s_lp1 ?_
    walk_at "vc"
    refine c_rel (F, l, p) rfl hF ?_
    rintro r rfl
    walk_at "vc"
    · rename_i l1
      have l1 : (findF F l none p).1 < p.length := by
        have l1 : ((findF F l none p).1 : Int) < p.length := l1
        omega
      exact fin (if_pos l1)
    · rename_i l1
      have l1 : ¬ (findF F l none p).1 < p.length := by
        have l1 : ¬ ((findF F l none p).1 : Int) < p.length := l1
        omega
      rw [if_neg l1] at fin
      refine s_lp1 ?_
      walk_at "vc"
      refine c_rel (F, l, q) rfl hF ?_
      rintro r rfl
      walk_at "vc"
      · rename_i l2
        have l2 : (findF F l none q).1 < q.length := by
          have l2 : ((findF F l none q).1 : Int) < q.length := l2
          omega
        exact fin (if_pos l2)
      · rename_i l2
        have l2 : ¬ (findF F l none q).1 < q.length := by
          have l2 : ¬ ((findF F l none q).1 : Int) < q.length := l2
          omega
        refine s_lp0 ?_
        walk_at "vc"
        exact fin (if_neg l2)
  · rename_i e2 _
    have e2 := (e1 p q).mp e2
    exact fin (if_pos (by rw [e2, Bool.true_or]))
  · rename_i z1 z2
    exact absurd z1 z2
end VS

namespace VS
open PySem PySem.Spec PyProof.Rows L2
set_option hygiene false
local macro_rules | `(tactic| walk_at "vc") => `(tactic| repeat' (first
      | ((with_reducible apply s_consN); (case e => (first | (dsimp only [backO, wipeO, List.map, setS, getS, O.setP, O.getP, List.set_cons_zero, List.set_cons_succ, List.getElem?_cons_zero, List.getElem?_cons_succ]; first | done | exact rfl) | exact rfl)))
      | with_reducible refine s_nil ?_
      | with_reducible refine d_eqP ?_ ?_ ?_
      | with_reducible refine d_lenP ?_
      | with_reducible refine d_slP0 ?_ ?_
      | with_reducible refine d_slP1 ?_ ?_
      | with_reducible refine d_addP ?_ ?_
      | with_reducible refine d_addP1 ?_ ?_
      | with_reducible refine d_slT0 ?_ ?_
      | with_reducible refine d_slT1 ?_ ?_
      | with_reducible refine d_slL0 ?_ ?_
      | with_reducible refine d_slL1 ?_ ?_
      | with_reducible refine s_set ?_
      | with_reducible refine s_if ?_
      | with_reducible refine s_for ?_
      | with_reducible refine s_ex ?_
      | with_reducible refine s_ret ?_
      | with_reducible refine s_retN ?_
      | with_reducible refine s_pass ?_
      | with_reducible refine s_brk ?_
      | with_reducible refine s_cont ?_
      | with_reducible refine s_put ?_
      | with_reducible refine s_augP ?_
      | with_reducible refine s_par ?_
      | with_reducible refine s_T ?_
      | with_reducible refine s_bin ?_
      | with_reducible refine s_cmp ?_
      | with_reducible refine s_idx ?_
      | with_reducible refine s_int ?_
      | with_reducible refine s_str ?_
      | with_reducible refine s_bl ?_
      | with_reducible refine s_non ?_
      | with_reducible refine s_lst ?_
      | with_reducible refine s_tup ?_
      | with_reducible refine s_dct ?_
      | with_reducible refine s_dnewK ?_
      | with_reducible refine s_dnewT ?_
      | with_reducible refine s_neg ?_
      | with_reducible refine s_chn ?_
      | with_reducible refine s_bop ?_
      | with_reducible refine s_bop1 ?_
      | with_reducible refine s_bop2 ?_
      | with_reducible refine s_nt ?_
      | with_reducible refine s_ife ?_
      | with_reducible refine s_sl ?_
      | with_reducible refine s_isi ?_
      | with_reducible refine s_comp ?_
      | with_reducible refine s_blt ?_
      | with_reducible refine s_mth ?_
      | with_reducible refine s_mmt ?_
      | with_reducible refine s_rng ?_
      | with_reducible refine s_enu ?_
      | with_reducible refine s_zip ?_
      | with_reducible refine s_lzip ?_
      | with_reducible refine s_dof ?_
      | with_reducible refine s_upd ?_
      | with_reducible refine s_rng3 ?_
      | with_reducible refine s_get1 ?_
      | with_reducible refine s_get2 ?_
      | with_reducible refine s_isin ?_
      | with_reducible refine s_fst ?_
      | with_reducible refine s_F0 ?_
      | with_reducible refine s_F1 ?_
      | with_reducible refine s_rev ?_
      | with_reducible refine s_fl ?_
      | with_reducible refine r_onNdD ?_
      | with_reducible refine r_onNdL ?_
      | with_reducible refine s_frz ?_
      | with_reducible refine s_dctT ?_
      | with_reducible refine r_notT ?_
      | with_reducible refine r_notF ?_
      | with_reducible refine r_notB ?_
      | with_reducible refine d_revL ?_
      | with_reducible refine s_L0 ?_
      | with_reducible refine s_L1 ?_
      | with_reducible refine s_H0 ?_
      | with_reducible refine s_H1 ?_
      | with_reducible refine s_C0 ?_
      | with_reducible refine s_P0 ?_
      | with_reducible refine s_P1 ?_
      | with_reducible refine s_O0 ?_
      | with_reducible refine s_O1 ?_
      | with_reducible refine s_Ts0 ?_
      | with_reducible refine s_Ts1 ?_
      | with_reducible refine r_asDd ?_
      | with_reducible refine r_asDl ?_
      | with_reducible refine r_asOo ?_
      | with_reducible refine r_asOp ?_
      | with_reducible refine r_holdD ?_
      | with_reducible refine r_holdP ?_
      | with_reducible refine r_holdO ?_
      | with_reducible refine r_vwD ?_
      | with_reducible refine r_vws0 ?_
      | with_reducible refine r_vws1 ?_
      | with_reducible refine r_stabO ?_
      | with_reducible refine r_stabP ?_
      | with_reducible refine r_stabT ?_
      | with_reducible refine r_idxO ?_
      | with_reducible refine r_itL ?_
      | with_reducible refine r_itT ?_
      | with_reducible refine r_itS ?_
      | with_reducible refine r_itI ?_
      | with_reducible refine r_itV ?_
      | with_reducible refine r_onPl ?_
      | with_reducible refine r_onInt ?_
      | with_reducible refine r_seqL ?_
      | with_reducible refine r_seqT ?_
      | with_reducible refine r_onDat ?_
      | with_reducible refine r_rcvM ?_
      | with_reducible refine d_add ?_
      | with_reducible refine d_sub ?_
      | with_reducible refine d_lt ?_
      | with_reducible refine d_le ?_
      | with_reducible refine d_gt ?_
      | with_reducible refine d_ge ?_
      | with_reducible refine d_inS ?_
      | with_reducible refine d_ninS ?_
      | with_reducible refine d_augA ?_
      | with_reducible refine d_augS ?_
      | with_reducible refine r_mutL ?_
      | with_reducible refine d_eqS ?_
      | with_reducible refine d_neS ?_
      | with_reducible refine d_eqI ?_
      | with_reducible refine d_neI ?_
      | with_reducible refine d_is ?_
      | with_reducible refine d_isn ?_
      | with_reducible refine d_truB ?_
      | with_reducible refine d_truI ?_
      | with_reducible refine d_truL ?_
      | with_reducible refine d_truT ?_
      | with_reducible refine d_truN ?_
      | with_reducible refine d_lenL ?_
      | with_reducible refine d_lenT ?_
      | with_reducible refine d_listL ?_
      | with_reducible refine d_listT ?_
      | with_reducible refine d_tupL ?_
      | with_reducible refine d_tupT ?_
      | with_reducible refine d_abs ?_
      | with_reducible refine d_intI ?_
      | with_reducible refine d_intB ?_
      | with_reducible refine d_min ?_
      | with_reducible refine d_max ?_
      | with_reducible refine d_slL ?_
      | with_reducible refine d_slX ?_
      | with_reducible refine d_slT ?_
      | with_reducible refine b_T ?_
      | with_reducible refine b_F ?_
      | with_reducible refine b_TF ?_
      | with_reducible refine b_FF ?_
      | with_reducible refine s_tp ?_
      | with_reducible refine s_tnil ?_
      | with_reducible refine s_tcons ?_
      | ((with_reducible apply s_varD); (case h1 => exact rfl))
      | ((with_reducible apply s_varN); (case h1 => exact rfl))
      | ((with_reducible apply s_mvD); (case h1 => exact rfl))
      | ((with_reducible apply s_mvL); (case h1 => with_reducible exact rfl))
      | ((with_reducible apply s_mvN); (case h1 => exact rfl))
      | ((with_reducible apply s_nm); (case h1 => (simp only [setS_len, backO_len, wipeO_len, List.length_cons, List.length_nil, List.length_set]; decide)))
      | ((with_reducible apply r_vwP); (case e1 => exact rfl); (case e => first | exact flat_dL _ | exact rfl))
      | ((with_reducible apply r_idxP); (case e => exact rfl))
      | ((with_reducible apply r_opt); (case e => exact rfl))
      | ((with_reducible apply r_idxC); (case e1 => (first | exact pk_cells _ | exact pk_at _ | exact pk_rest _ | exact rfl)); (case e2 => exact rfl))
      | ((with_reducible apply r_idxN); (case e1 => (first | exact pk_cells _ | exact pk_at _ | exact pk_rest _ | exact rfl)); (case e2 => exact rfl))
      | ((with_reducible apply s_C1); (case h1 => exact trivial))
      | ((with_reducible apply s_C2); (case h1 => exact rfl))
      | ((with_reducible apply r_asDn); (case e => first | exact toD_dL _ | with_reducible exact toD_two _ _ | ((repeat' (first | with_reducible exact toD_dL _ | assumption | with_reducible exact toD_dat _ | with_reducible exact toDL_nil | with_reducible apply toD_lst | with_reducible apply toD_tupO | with_reducible apply toD_dk | with_reducible apply toD_dt | with_reducible apply toDL_cons | exact rfl)); done) | exact rfl))
      | ((with_reducible apply r_asDp); (case e1 => exact rfl); (case e => first | exact toD_dL _ | exact rfl))
      | ((with_reducible apply r_rcvW); (case e => exact rfl))
      | ((with_reducible apply s_call); (case h1 => assumption))
      | with_reducible refine d_mul ?_ ?_
      | with_reducible refine d_mod ?_ ?_
      | with_reducible refine d_div ?_ ?_
      | with_reducible refine d_pow ?_ ?_
      | with_reducible refine d_addS ?_ ?_
      | with_reducible refine d_addL ?_ ?_
      | with_reducible refine d_addT ?_ ?_
      | with_reducible refine d_mulS ?_ ?_
      | with_reducible refine d_mulL ?_ ?_
      | with_reducible refine d_mulT ?_ ?_
      | with_reducible refine d_truS ?_ ?_
      | with_reducible refine d_lenS ?_ ?_
      | with_reducible refine d_slS ?_ ?_
      | with_reducible refine d_rng1 ?_ ?_
      | with_reducible refine d_rng2 ?_ ?_
      | with_reducible refine d_app ?_ ?_
      | with_reducible refine d_appL ?_ ?_
      | with_reducible refine d_repr ?_ ?_
      | with_reducible refine d_fmtS ?_ ?_
      | with_reducible refine r_lz ?_ ?_
      | with_reducible refine r_dn ?_ ?_
      | with_reducible refine r_zipL ?_ ?_
      | with_reducible refine r_zipT ?_ ?_
      | with_reducible refine b_ite (fun _ => ?_) (fun _ => ?_)
      | with_reducible refine b_iteN (fun _ => ?_) (fun _ => ?_)
      | with_reducible refine b_iteF (fun _ => ?_) (fun _ => ?_)
      | with_reducible refine b_iteNF (fun _ => ?_) (fun _ => ?_)
      | refine r_stabL rfl ?_
      | refine r_stabR rfl ?_
      | with_reducible refine p_cells ?_
      | with_reducible refine p_at ?_
      | with_reducible refine p_rest ?_
      | refine s_C1p (by exact rfl) (by assumption) ?_
      | refine c_draw (by exact rfl) (by assumption) ?_ (fun _ _ _ _ _ => ?_)
      | with_reducible refine d_eqE ?_
      | with_reducible refine d_neE ?_
      | with_reducible refine d_in ?_ ?_
      | with_reducible refine d_nin ?_ ?_
      | with_reducible refine d_eq ?_ ?_
      | with_reducible refine d_ne ?_ ?_
      | with_reducible refine b_anyN (fun _ => ?_) (fun _ => ?_)
      | with_reducible refine b_anyNF (fun _ => ?_) (fun _ => ?_)
      | with_reducible refine b_any (fun _ => ?_) (fun _ => ?_)
      | with_reducible refine d_popL ?_
      | ((with_reducible apply r_par); (case n1 => decide); (case n2 => (simp only [setS_len, backO_len, wipeO_len, List.length_cons, List.length_nil, List.length_set]; decide)); (case n3 => (simp only [setS_len, backO_len, wipeO_len, List.length_cons, List.length_nil, List.length_set]; decide)))
      | refine c_names (by exact rfl) (by assumption) ?_ (fun _ _ _ _ _ _ => ?_)
      | refine c_pen (fun _ _ => ?_)
      | with_reducible refine b_anyN (fun _ => ?_) (fun _ => ?_)
      | with_reducible refine b_anyNF (fun _ => ?_) (fun _ => ?_)
      | with_reducible refine b_anyF (fun _ => ?_) (fun _ => ?_)
      | ((with_reducible apply r_isi (b := true)); (case e1 => exact rfl); (case e2 => exact rfl))
      | ((with_reducible apply r_isi (b := false)); (case e1 => exact rfl); (case e2 => exact rfl))
      | ((with_reducible apply s_con); (case h1 => assumption))
      | with_reducible refine d_allM ?_
      | with_reducible refine d_anyM ?_
      | ((with_reducible apply r_itO); (case e => first | exact toD_dL _ | ((repeat' (first | with_reducible exact toD_dL _ | assumption | with_reducible exact toD_dat _ | with_reducible exact toDL_nil | with_reducible apply toD_lst | with_reducible apply toD_tupO | with_reducible apply toD_dk | with_reducible apply toD_dt | with_reducible apply toDL_cons | exact rfl)); done) | exact rfl))
      | ((with_reducible apply r_toDL); (case e => first | ((repeat' (first | with_reducible exact toD_dL _ | assumption | with_reducible exact toD_dat _ | with_reducible exact toDL_nil | with_reducible apply toD_lst | with_reducible apply toD_tupO | with_reducible apply toD_dk | with_reducible apply toD_dt | with_reducible apply toDL_cons | exact rfl)); done) | exact toDL_datL (datL_map _)))
      | ((with_reducible apply d_ixT); (case e => exact rfl))
      | ((with_reducible apply d_ixL); (case e => exact rfl))
      | ((with_reducible apply d_appO); (case e => exact rfl))
      | ((with_reducible apply r_itP); (case e1 => exact rfl))
      | with_reducible refine c_fn1 ?_ ?_
      | with_reducible refine c_fn2 ?_ ?_
      | ((with_reducible apply r_dcvK2); (case e => exact rfl))
      | ((with_reducible apply r_dcvT2); (case e => exact rfl))
      | ((with_reducible apply r_dcvK); (case e => exact rfl))
      | ((with_reducible apply r_dcvT); (case e => exact rfl))
      | with_reducible refine r_inT ?_
      | with_reducible refine r_inF ?_
      | with_reducible refine r_ninT ?_
      | with_reducible refine r_ninF ?_
      | refine c_volume (by exact rfl) (by assumption) ?_ (fun _ _ _ _ => ?_)
      | fail))
/-! ## k08: why requests are skipped -/
def n_law : List Str := ["_law_script", "_law_pen_here", "_law_turn", "_law_volume_here", "_law_flat_here", "_law_kept", "_law_asked", "_law_k", "_law_pair", "_law_p", "_law_q", "_law_due"]
def b_law : List CS := [
  .set (.nm 1) (.call "_law_pen" [(.var 0)]),
  .for_ (.nm 2) (.rng [(.int 3)]) [
    .set (.nm 3) (.call "_law_volume" [(.io 1), (.int 16)]),
    .set (.nm 4) (.frz (.call "_law_flat" [(.var 3)])),
    .set (.nm 5) (.blt .repr_ [(.var 3)]),
    .set (.nm 6) (.lst []),
    .for_ (.nm 7) (.rng [(.int 14)]) [
      .set (.nm 9) (.call "_law_trail" [(.io 1), (.var 3)]),
      .set (.nm 10) (.idx (.lst [(.call "_law_trail" [(.io 1), (.var 3)]), (.call "_law_trail" [(.io 1), (.var 3)]), (.sl (.bin .Add (.var 9) (.var 9)) [] [(.int 16)]), (.sl (.var 9) [] [(.int 1)]), (.var 9)]) (.call "_law_draw" [(.io 1), (.int 5)])),
      .ex (.mmt .append (.var 6) [(.idx (.lst [(.tup [(.var 9), (.var 10)]), (.tup [(.var 10), (.var 9)])]) (.call "_law_draw" [(.io 1), (.int 2)]))])],
    .set (.nm 6) (.bin .Add (.var 6) (.lst [(.tup [(.tup [(.str "zz"), (.str "y")]), (.tup [(.str "zz")])]), (.tup [(.tup [(.str "zz"), (.str "y")]), (.tup [(.str "yy"), (.str "y")])]), (.tup [(.tup [(.str "zz")]), (.tup [(.str "zz")])])])),
    .for_ (.nm 8) (.bin .Add (.var 6) (.rev (.var 6))) [
      .set (.nm 11) (.call "_law_skip" [(.var 4), (.idx (.var 3) (.int 0)), (.var 8)]),
      .ife (.cmp .NotEq (.blt .repr_ [(.call "skip_reason" [(.var 3), (.var 8)])]) (.blt .repr_ [(.var 11)])) [
        .ret (.bl false)] []],
    .ife (.cmp .NotEq (.blt .repr_ [(.var 3)]) (.var 5)) [
      .ret (.bl false)] []],
  .ret (.bl true)]
theorem Nz.small : ∀ n : Nat, n < 40 → Nz 0 2 (.int n) := fun n h => by
  have z : ∀ k : Fin 40, (okD (.int (k.val : Int)) && ((PyData.int (k.val : Int)).showable && (decide ((PyData.int (k.val : Int)).depth ≤ 0) && decide ((PyData.int (k.val : Int)).shown.length ≤ 2)))) = true := by decide +kernel
  exact Nz.of _ _ _ (z ⟨n, h⟩)
def rsnP : Rsn → Prop
  | .missing i d => i < 2 ∧ d < 40
  | _ => True
theorem Nz.rsn {r : Rsn} (h : rsnP r) : reprOk (rsnD r) := by
  cases r with
  | done => exact Nz.non.repr (by decide) (by decide)
  | nested => exact (Nz.of (.tuple [.str "nested"]) 1 20 (by decide +kernel)).repr (by decide) (by decide)
  | missing i d =>
    refine (Nz.tuple (n := 0) (s := 20) (k := 3) (fun x hx => ?_) (Nat.le_refl _)).repr (by decide) (by decide)
    simp only [List.mem_cons, List.not_mem_nil, or_false] at hx
    rcases hx with rfl | rfl | rfl
    · exact Nz.of _ _ _ (by decide +kernel)
    · exact (Nz.small i (by have := h.1; omega)).mono (by decide) (by decide)
    · exact (Nz.small d h.2).mono (by decide) (by decide)
theorem skipBy_ok {f : List Str → Nat} {p q : List Str} (h1 : p.length ≤ 32) (h2 : q.length ≤ 32) : rsnP (skipBy f p q) := by
  unfold skipBy
  split
  · exact trivial
  · split
    · exact ⟨by decide, by omega⟩
    · split
      · exact ⟨by decide, by omega⟩
      · exact trivial
def ReqOk (a : List Str × List Str) : Prop := NmR a ∧ a.1.length ≤ 32 ∧ a.2.length ≤ 32
def odd3 : List (List Str × List Str) := [(["zz", "y"], ["zz"]), (["zz", "y"], ["yy", "y"]), (["zz"], ["zz"])]
theorem odd3_ok : ∀ a, a ∈ odd3 → ReqOk a := by
  have nz : nmS ("zz" : Str) := ⟨by decide, by decide, by unfold Low; decide⟩
  have ny : nmS ("y" : Str) := ⟨by decide, by decide, by unfold Low; decide⟩
  have nyy : nmS ("yy" : Str) := ⟨by decide, by decide, by unfold Low; decide⟩
  intro a ha
  unfold odd3 at ha
  simp only [List.mem_cons, List.not_mem_nil, or_false] at ha
  have o2 : ∀ {x y : Str}, nmS x → nmS y → NmS [x, y] := fun h k => (NmS.one h).app (NmS.one k)
  rcases ha with rfl | rfl | rfl
  · exact ⟨⟨o2 nz ny, NmS.one nz⟩, by decide, by decide⟩
  · exact ⟨⟨o2 nz ny, o2 nyy ny⟩, by decide, by decide⟩
  · exact ⟨⟨NmS.one nz, NmS.one nz⟩, by decide, by decide⟩
theorem law_ok {G : Gm} (h0 : G.fn "_law_pen" = some penS) (h1 : G.fn "_law_draw" = some drawS) (h3 : G.fn "_law_volume" = some volumeS) (h4 : G.fn "_law_flat" = some (lflatS 17)) (h5 : G.fn "_law_trail" = some ltrailS) (h6 : G.fn "_law_skip" = some lskipS) (h7 : G.fn "skip_reason" = some skipreasonS) : lawS.Ok G b_law 1 11 := by
  rintro os ho ⟨ns, rfl⟩
  have bg := big
  unfold b_law
  show evB G _ [.dat (.dict [(.none, .list (ns.map PyData.int))]), .un, .un, .un, .un, .un, .un, .un, .un, .un, .un, .un] _
  walk_at "vc"
  · exact ⟨by decide, by decide⟩
  rename_i o1 hp1
  generalize PyData.dict _ = S
  refine s_loopR (n := 3) (fun i ρ => ∃ o' v2 v3 v4 v5 v6 v7 v8 v9 v10 v11, Pn (1000 * i) o' ∧ ρ = [.dat S, o', v2, v3, v4, v5, v6, v7, v8, v9, v10, v11]) ⟨o1, .un, .un, .un, .un, .un, .un, .un, .un, .un, .un, hp1, rfl⟩ (fun _ _ _ _ => trivial) ?_ ?_
  · rintro i ρ kk hi ⟨o', v2, v3, v4, v5, v6, v7, v8, v9, v10, v11, hp, rfl⟩ hk
    walk_at "vc"
    · exact ⟨by omega, by decide, by decide⟩
    rename_i t o2 hvt hp2
    have hv := hvt.vp (by decide)
    refine c_rel t rfl ⟨hv.ok, by have := hv.dep; omega, hv.nd, hv.one⟩ ?_
    rintro r rfl
    refine r_asDn (flatO_toD _) ?_
    walk_at "vc"
    · have z := Tr.nz hv.ok
      have a := hv.dep
      have b := hv.nd
      exact z.repr (by omega) (by omega)
    · exact ⟨by decide, by decide⟩
    refine s_loopR (n := 14) (fun j ρ => ∃ o' rs w7 w9 w10, Pn (1000 * i + 400 + 17 * j) o' ∧ ρ = [.dat S, o', .dat (.int i), .dat t.d, .dat (tabD t.flat), .dat (.str t.d.shown), dL (rs.map reqD2), w7, v8, w9, w10, v11] ∧ rs.length = j ∧ ∀ a, a ∈ rs → ReqOk a) ⟨o2, [], v7, v9, v10, hp2, rfl, rfl, (fun _ z => nomatch z)⟩ (fun _ _ _ _ => trivial) ?_ ?_
    · rintro j ρ k2 hj ⟨o3, rs, w7, w9, w10, hp3, rfl, hl, hrs⟩ hk2
      walk_at "vc"
      refine c_dran t rfl hp3 rfl (by omega) hv ?_
      rintro r o4 ⟨p, rfl, hpp⟩ hp4
      walk_at "vc"
      refine c_dran t rfl hp4 rfl (by omega) hv ?_
      rintro r o5 ⟨q1, rfl, hq1⟩ hp5
      walk_at "vc"
      refine c_dran t rfl hp5 rfl (by omega) hv ?_
      rintro r o6 ⟨q2, rfl, hq2⟩ hp6
      unfold pathD
      walk_at "vc"
      · have := hpp.2.1; omega
      · decide
      · decide
      · exact ⟨by omega, by decide, by decide⟩
      rename_i d1 o7 a1 a2 hp7
      refine d_atM a1 a2 fun u hu => ?_
      have hu : ∃ q : List Str, u = .tuple (sD q) ∧ NmS q ∧ q.length ≤ 16 := by
        simp only [List.mem_cons, List.not_mem_nil, or_false] at hu
        rcases hu with rfl | rfl | rfl | rfl | rfl
        · exact ⟨_, rfl, hq1.2.2, hq1.2.1⟩
        · exact ⟨_, rfl, hq2.2.2, hq2.2.1⟩
        · exact ⟨_, rfl, (hpp.2.2.app hpp.2.2).take _, by rw [List.length_take]; exact Nat.min_le_left _ _⟩
        · exact ⟨_, rfl, hpp.2.2.take _, by rw [List.length_take]; exact Nat.le_trans (Nat.min_le_left _ _) (by decide)⟩
        · exact ⟨_, rfl, hpp.2.2, hpp.2.1⟩
      obtain ⟨q, rfl, hq, lq⟩ := hu
      have lp := hpp.2.1
      walk_at "vc"
      · exact ⟨by omega, by decide, by decide⟩
      rename_i d2 o8 b1 b2 hp8
      refine d_atM b1 b2 fun u hu => ?_
      have hu : ∃ a : List Str × List Str, u = reqD2 a ∧ ReqOk a := by
        simp only [List.mem_cons, List.not_mem_nil, or_false] at hu
        rcases hu with rfl | rfl
        · exact ⟨(p, q), rfl, ⟨hpp.2.2, hq⟩, Nat.le_trans lp (by decide), Nat.le_trans lq (by decide)⟩
        · exact ⟨(q, p), rfl, ⟨hq, hpp.2.2⟩, Nat.le_trans lq (by decide), Nat.le_trans lp (by decide)⟩
      obtain ⟨a, rfl, ha⟩ := hu
      walk_at "vc"
      · rw [List.length_map]; omega
      refine hk2 _ ⟨o8, rs ++ [a], .dat (.int j), .dat (.tuple (sD p)), .dat (.tuple (sD q)), hp8.mono (by omega), ?_, by rw [List.length_append, hl]; rfl, fun b hb => ?_⟩
      · rw [List.map_append]
        rfl
      · rcases List.mem_append.mp hb with hb | hb
        · exact hrs b hb
        · rw [List.mem_singleton.mp hb]; exact ha
    · rintro ρ ⟨o3, rs, w7, w9, w10, hp3, rfl, hl, hrs⟩
      have hall : ∀ a, a ∈ rs ++ odd3 → ReqOk a := fun a ha => (List.mem_append.mp ha).elim (hrs a) (odd3_ok a)
      obtain ⟨l, es, et⟩ : ∃ l es, t = .dr l es := by
        cases t with
        | dr l es => exact ⟨l, es, rfl⟩
        | no => exact hv.dr.elim
        | fl x => exact hv.dr.elim
      walk_at "vc"
      · rw [List.length_map]
        show _ + 3 ≤ _
        omega
      · rw [List.length_reverse, List.length_append, List.length_map]
        show _ + 3 + (_ + 3) ≤ _
        omega
      have ea : rs.map reqD2 ++ [PyData.tuple [PyData.tuple [PyData.str "zz", PyData.str "y"], PyData.tuple [PyData.str "zz"]], PyData.tuple [PyData.tuple [PyData.str "zz", PyData.str "y"], PyData.tuple [PyData.str "yy", PyData.str "y"]], PyData.tuple [PyData.tuple [PyData.str "zz"], PyData.tuple [PyData.str "zz"]]] = (rs ++ odd3).map reqD2 := by
        rw [List.map_append]
        rfl
      rw [ea, ← List.map_reverse, ← List.map_append]
      have hal : ∀ a, a ∈ (rs ++ odd3) ++ (rs ++ odd3).reverse → ReqOk a := fun a ha => hall a ((List.mem_append.mp ha).elim (fun z => z) List.mem_reverse.mp)
      generalize (rs ++ odd3) ++ (rs ++ odd3).reverse = L at hal
      generalize dL (List.map reqD2 (rs ++ odd3)) = w6
      refine s_loopE (fun _ ρ => ∃ w8 w11, ρ = [.dat S, o3, .dat (.int i), .dat t.d, .dat (tabD t.flat), .dat (.str t.d.shown), w6, w7, w8, w9, w10, w11]) ⟨v8, v11, rfl⟩ (fun _ _ _ _ => trivial) ?_ ?_
      · rintro n a ρ k3 hn ⟨w8, w11, rfl⟩ hk3
        have ha := hal a (List.mem_of_getElem? hn)
        have he : skipBy (fun p => (findF t.flat t.lab none p).1) a.1 a.2 = skipBy (fun p => (t.go p).1) a.1 a.2 := by
          have e : (fun p => (findF t.flat t.lab none p).1) = fun p => (t.go p).1 := by
            funext p
            exact findF_go hv.one p t none (.refl t)
          rw [e]
        have hr := Nz.rsn (skipBy_ok (f := fun p => (t.go p).1) ha.2.1 ha.2.2)
        have ei : ∀ {P : PyData → Prop}, P (labD t.lab) → idxD t.d (.int 0) P := fun {P} h => by
          rw [et] at h ⊢
          exact d_ixT rfl h
        walk_at "vc"
        refine ei ?_
        walk_at "vc"
        refine c_rel (t.flat, t.lab, a) rfl ⟨hv.flat, ha.1⟩ ?_
        intro r er
        have er : r = .dat (rsnD (skipBy (fun p => (findF t.flat t.lab none p).1) a.1 a.2)) := er
        subst er
        rw [he]
        walk_at "vc"
        refine c_rel (t, a) rfl ⟨hv.ok, hv.sd, ha.1⟩ ?_
        intro r er
        have er : r = .dat (rsnD (skipBy (fun p => (t.go p).1) a.1 a.2)) := er
        subst er
        walk_at "vc"
        · exact hr
        · exact hr
        · exact absurd rfl ‹¬ _›
        · exact hk3 _ ⟨_, _, rfl⟩
      · rintro ρ ⟨w8, w11, rfl⟩
        walk_at "vc"
        · have z := Tr.nz hv.ok
          have a := hv.dep
          have b := hv.nd
          exact z.repr (by omega) (by omega)
        · exact absurd rfl ‹¬ _›
        · exact hk _ ⟨_, _, _, _, _, _, _, _, _, _, _, hp3.mono (by omega), rfl⟩
  · rintro ρ ⟨o', v2, v3, v4, v5, v6, v7, v8, v9, v10, v11, hp, rfl⟩
    walk_at "vc"
    rfl
end VS

namespace VS
open PySem PySem.Spec PyProof.Rows L2
abbrev b_draw : List CS := bDraw 1709 331 2147483563 70997 79 2147483647 85009 65539 2147483399
theorem b_draw_c : DC 2147483563 70997 79 2147483647 85009 65539 2147483399 := ⟨by decide, by decide, by decide, by decide, by decide, by decide, by decide⟩
/-! ## all of it together -/
def topS (i : Nat) : Stmt := PySem.Challenge.pw_pathswap_k08_why_requests_are_skipped.main.body.getD i (.Pass ⟨0, 0, 0, 0⟩)
def mcs (N : List Str) (i : Nat) (fs cs : List Str) : Mc := { N := N, sc := L2.defScope (topS i), fn := fun _ => true, bs := ["len", "repr", "list", "tuple", "abs", "int", "min", "range", "isinstance", "zip", "enumerate", "dict"], fs := fs, cs := cs }
def gms : Gm := { fn := fun f => if f = "_law_pen" then some penS else if f = "_law_draw" then some drawS else if f = "_law_names" then some namesS else if f = "_law_volume" then some volumeS else if f = "is_prefix" then some isprefS else if f = "is_directory" then some isdirS else if f = "entries_of" then some entriesS else if f = "resolve" then some resolveS else if f = "depth" then some depthS else if f = "is_nested" then some isnestedS else if f = "skip_reason" then some skipreasonS else if f = "_law_walk" then some (walkS 17) else if f = "_law_flat" then some (lflatS 17) else if f = "_law_find" then some lfindS else if f = "_law_trail" then some ltrailS else if f = "_law_skip" then some lskipS else none, con := fun _ => none }
theorem g_0 : gms.fn "_law_pen" = some penS := by
  unfold gms
  dsimp only
  exact if_pos rfl
theorem g_1 : gms.fn "_law_draw" = some drawS := by
  unfold gms
  dsimp only
  exact (if_neg (by decide +kernel)).trans (if_pos rfl)
theorem g_2 : gms.fn "_law_names" = some namesS := by
  unfold gms
  dsimp only
  exact (if_neg (by decide +kernel)).trans ((if_neg (by decide +kernel)).trans (if_pos rfl))
theorem g_3 : gms.fn "_law_volume" = some volumeS := by
  unfold gms
  dsimp only
  exact (if_neg (by decide +kernel)).trans ((if_neg (by decide +kernel)).trans ((if_neg (by decide +kernel)).trans (if_pos rfl)))
theorem g_4 : gms.fn "is_prefix" = some isprefS := by
  unfold gms
  dsimp only
  exact (if_neg (by decide +kernel)).trans ((if_neg (by decide +kernel)).trans ((if_neg (by decide +kernel)).trans ((if_neg (by decide +kernel)).trans (if_pos rfl))))
theorem g_5 : gms.fn "is_directory" = some isdirS := by
  unfold gms
  dsimp only
  exact (if_neg (by decide +kernel)).trans ((if_neg (by decide +kernel)).trans ((if_neg (by decide +kernel)).trans ((if_neg (by decide +kernel)).trans ((if_neg (by decide +kernel)).trans (if_pos rfl)))))
theorem g_6 : gms.fn "entries_of" = some entriesS := by
  unfold gms
  dsimp only
  exact (if_neg (by decide +kernel)).trans ((if_neg (by decide +kernel)).trans ((if_neg (by decide +kernel)).trans ((if_neg (by decide +kernel)).trans ((if_neg (by decide +kernel)).trans ((if_neg (by decide +kernel)).trans (if_pos rfl))))))
theorem g_7 : gms.fn "resolve" = some resolveS := by
  unfold gms
  dsimp only
  exact (if_neg (by decide +kernel)).trans ((if_neg (by decide +kernel)).trans ((if_neg (by decide +kernel)).trans ((if_neg (by decide +kernel)).trans ((if_neg (by decide +kernel)).trans ((if_neg (by decide +kernel)).trans ((if_neg (by decide +kernel)).trans (if_pos rfl)))))))
theorem g_8 : gms.fn "depth" = some depthS := by
  unfold gms
  dsimp only
  exact (if_neg (by decide +kernel)).trans ((if_neg (by decide +kernel)).trans ((if_neg (by decide +kernel)).trans ((if_neg (by decide +kernel)).trans ((if_neg (by decide +kernel)).trans ((if_neg (by decide +kernel)).trans ((if_neg (by decide +kernel)).trans ((if_neg (by decide +kernel)).trans (if_pos rfl))))))))
theorem g_9 : gms.fn "is_nested" = some isnestedS := by
  unfold gms
  dsimp only
  exact (if_neg (by decide +kernel)).trans ((if_neg (by decide +kernel)).trans ((if_neg (by decide +kernel)).trans ((if_neg (by decide +kernel)).trans ((if_neg (by decide +kernel)).trans ((if_neg (by decide +kernel)).trans ((if_neg (by decide +kernel)).trans ((if_neg (by decide +kernel)).trans ((if_neg (by decide +kernel)).trans (if_pos rfl)))))))))
theorem g_10 : gms.fn "skip_reason" = some skipreasonS := by
  unfold gms
  dsimp only
  exact (if_neg (by decide +kernel)).trans ((if_neg (by decide +kernel)).trans ((if_neg (by decide +kernel)).trans ((if_neg (by decide +kernel)).trans ((if_neg (by decide +kernel)).trans ((if_neg (by decide +kernel)).trans ((if_neg (by decide +kernel)).trans ((if_neg (by decide +kernel)).trans ((if_neg (by decide +kernel)).trans ((if_neg (by decide +kernel)).trans (if_pos rfl))))))))))
theorem g_11 : gms.fn "_law_walk" = some (walkS 17) := by
  unfold gms
  dsimp only
  exact (if_neg (by decide +kernel)).trans ((if_neg (by decide +kernel)).trans ((if_neg (by decide +kernel)).trans ((if_neg (by decide +kernel)).trans ((if_neg (by decide +kernel)).trans ((if_neg (by decide +kernel)).trans ((if_neg (by decide +kernel)).trans ((if_neg (by decide +kernel)).trans ((if_neg (by decide +kernel)).trans ((if_neg (by decide +kernel)).trans ((if_neg (by decide +kernel)).trans (if_pos rfl)))))))))))
theorem g_12 : gms.fn "_law_flat" = some (lflatS 17) := by
  unfold gms
  dsimp only
  exact (if_neg (by decide +kernel)).trans ((if_neg (by decide +kernel)).trans ((if_neg (by decide +kernel)).trans ((if_neg (by decide +kernel)).trans ((if_neg (by decide +kernel)).trans ((if_neg (by decide +kernel)).trans ((if_neg (by decide +kernel)).trans ((if_neg (by decide +kernel)).trans ((if_neg (by decide +kernel)).trans ((if_neg (by decide +kernel)).trans ((if_neg (by decide +kernel)).trans ((if_neg (by decide +kernel)).trans (if_pos rfl))))))))))))
theorem g_13 : gms.fn "_law_find" = some lfindS := by
  unfold gms
  dsimp only
  exact (if_neg (by decide +kernel)).trans ((if_neg (by decide +kernel)).trans ((if_neg (by decide +kernel)).trans ((if_neg (by decide +kernel)).trans ((if_neg (by decide +kernel)).trans ((if_neg (by decide +kernel)).trans ((if_neg (by decide +kernel)).trans ((if_neg (by decide +kernel)).trans ((if_neg (by decide +kernel)).trans ((if_neg (by decide +kernel)).trans ((if_neg (by decide +kernel)).trans ((if_neg (by decide +kernel)).trans ((if_neg (by decide +kernel)).trans (if_pos rfl)))))))))))))
theorem g_14 : gms.fn "_law_trail" = some ltrailS := by
  unfold gms
  dsimp only
  exact (if_neg (by decide +kernel)).trans ((if_neg (by decide +kernel)).trans ((if_neg (by decide +kernel)).trans ((if_neg (by decide +kernel)).trans ((if_neg (by decide +kernel)).trans ((if_neg (by decide +kernel)).trans ((if_neg (by decide +kernel)).trans ((if_neg (by decide +kernel)).trans ((if_neg (by decide +kernel)).trans ((if_neg (by decide +kernel)).trans ((if_neg (by decide +kernel)).trans ((if_neg (by decide +kernel)).trans ((if_neg (by decide +kernel)).trans ((if_neg (by decide +kernel)).trans (if_pos rfl))))))))))))))
theorem g_15 : gms.fn "_law_skip" = some lskipS := by
  unfold gms
  dsimp only
  exact (if_neg (by decide +kernel)).trans ((if_neg (by decide +kernel)).trans ((if_neg (by decide +kernel)).trans ((if_neg (by decide +kernel)).trans ((if_neg (by decide +kernel)).trans ((if_neg (by decide +kernel)).trans ((if_neg (by decide +kernel)).trans ((if_neg (by decide +kernel)).trans ((if_neg (by decide +kernel)).trans ((if_neg (by decide +kernel)).trans ((if_neg (by decide +kernel)).trans ((if_neg (by decide +kernel)).trans ((if_neg (by decide +kernel)).trans ((if_neg (by decide +kernel)).trans ((if_neg (by decide +kernel)).trans (if_pos rfl)))))))))))))))
theorem m_0 : mB b_lpen (mcs n_lpen 11 [] []) (L2.defBody (topS 11)) = true := by decide +kernel
theorem s_0 : C8.scC n_lpen ["_law_script"] (L2.defScope (topS 11)) = true := by decide +kernel
theorem i_0 : ioB penS.io (CS.asgB b_lpen) = true := by decide +kernel
theorem m_1 : mB b_draw (mcs n_ldraw 12 [] []) (L2.defBody (topS 12)) = true := by decide +kernel
theorem s_1 : C8.scC n_ldraw ["_law_pen_here", "_law_many"] (L2.defScope (topS 12)) = true := by decide +kernel
theorem i_1 : ioB drawS.io (CS.asgB b_draw) = true := by decide +kernel
theorem m_2 : mB bNames (mcs n_lnames 13 ["_law_draw"] []) (L2.defBody (topS 13)) = true := by decide +kernel
theorem s_2 : C8.scC n_lnames ["_law_pen_here", "_law_many"] (L2.defScope (topS 13)) = true := by decide +kernel
theorem i_2 : ioB namesS.io (CS.asgB bNames) = true := by decide +kernel
theorem m_3 : mB b_lvolume (mcs n_lvolume 14 ["_law_draw", "_law_names"] []) (L2.defBody (topS 14)) = true := by decide +kernel
theorem s_3 : C8.scC n_lvolume ["_law_pen_here", "_law_most"] (L2.defScope (topS 14)) = true := by decide +kernel
theorem i_3 : ioB volumeS.io (CS.asgB b_lvolume) = true := by decide +kernel
theorem m_4 : mB b_isprefix (mcs n_isprefix 1 [] []) (L2.defBody (topS 1)) = true := by decide +kernel
theorem s_4 : C8.scC n_isprefix ["path", "other"] (L2.defScope (topS 1)) = true := by decide +kernel
theorem i_4 : ioB isprefS.io (CS.asgB b_isprefix) = true := by decide +kernel
theorem m_5 : mB b_isdirectory (mcs n_isdirectory 3 [] []) (L2.defBody (topS 3)) = true := by decide +kernel
theorem s_5 : C8.scC n_isdirectory ["content"] (L2.defScope (topS 3)) = true := by decide +kernel
theorem i_5 : ioB isdirS.io (CS.asgB b_isdirectory) = true := by decide +kernel
theorem m_6 : mB b_entriesof (mcs n_entriesof 4 ["is_directory"] []) (L2.defBody (topS 4)) = true := by decide +kernel
theorem s_6 : C8.scC n_entriesof ["content"] (L2.defScope (topS 4)) = true := by decide +kernel
theorem i_6 : ioB entriesS.io (CS.asgB b_entriesof) = true := by decide +kernel
theorem m_7 : mB b_resolve (mcs n_resolve 5 ["entries_of"] []) (L2.defBody (topS 5)) = true := by decide +kernel
theorem s_7 : C8.scC n_resolve ["volume", "path"] (L2.defScope (topS 5)) = true := by decide +kernel
theorem i_7 : ioB resolveS.io (CS.asgB b_resolve) = true := by decide +kernel
theorem m_8 : mB b_depth (mcs n_depth 6 ["resolve"] []) (L2.defBody (topS 6)) = true := by decide +kernel
theorem s_8 : C8.scC n_depth ["volume", "path"] (L2.defScope (topS 6)) = true := by decide +kernel
theorem i_8 : ioB depthS.io (CS.asgB b_depth) = true := by decide +kernel
theorem m_9 : mB b_isnested (mcs n_isnested 8 ["is_prefix"] []) (L2.defBody (topS 8)) = true := by decide +kernel
theorem s_9 : C8.scC n_isnested ["request"] (L2.defScope (topS 8)) = true := by decide +kernel
theorem i_9 : ioB isnestedS.io (CS.asgB b_isnested) = true := by decide +kernel
theorem m_10 : mB b_skipreason (mcs n_skipreason 9 ["is_nested", "depth"] []) (L2.defBody (topS 9)) = true := by decide +kernel
theorem s_10 : C8.scC n_skipreason ["volume", "request"] (L2.defScope (topS 9)) = true := by decide +kernel
theorem i_10 : ioB skipreasonS.io (CS.asgB b_skipreason) = true := by decide +kernel
theorem m_11 : mB b_lwalk (mcs n_lwalk 15 ["_law_walk"] []) (L2.defBody (topS 15)) = true := by decide +kernel
theorem s_11 : C8.scC n_lwalk ["_law_held", "_law_ahead"] (L2.defScope (topS 15)) = true := by decide +kernel
theorem i_11 : ioB (walkS 17).io (CS.asgB b_lwalk) = true := by decide +kernel
theorem m_12 : mB b_lflat (mcs n_lflat 16 ["_law_flat"] []) (L2.defBody (topS 16)) = true := by decide +kernel
theorem s_12 : C8.scC n_lflat ["_law_held"] (L2.defScope (topS 16)) = true := by decide +kernel
theorem i_12 : ioB (lflatS 17).io (CS.asgB b_lflat) = true := by decide +kernel
theorem m_13 : mB b_lfind (mcs n_lfind 17 [] []) (L2.defBody (topS 17)) = true := by decide +kernel
theorem s_13 : C8.scC n_lfind ["_law_flat_here", "_law_root", "_law_trail_here"] (L2.defScope (topS 17)) = true := by decide +kernel
theorem i_13 : ioB lfindS.io (CS.asgB b_lfind) = true := by decide +kernel
theorem m_14 : mB b_ltrail (mcs n_ltrail 18 ["_law_draw", "_law_walk"] []) (L2.defBody (topS 18)) = true := by decide +kernel
theorem s_14 : C8.scC n_ltrail ["_law_pen_here", "_law_volume_here"] (L2.defScope (topS 18)) = true := by decide +kernel
theorem i_14 : ioB ltrailS.io (CS.asgB b_ltrail) = true := by decide +kernel
theorem m_15 : mB b_lskip (mcs n_lskip 19 ["_law_find"] []) (L2.defBody (topS 19)) = true := by decide +kernel
theorem s_15 : C8.scC n_lskip ["_law_flat_here", "_law_root", "_law_pair"] (L2.defScope (topS 19)) = true := by decide +kernel
theorem i_15 : ioB lskipS.io (CS.asgB b_lskip) = true := by decide +kernel
theorem m_16 : mB b_law (mcs n_law 20 ["_law_pen", "_law_draw", "_law_volume", "_law_flat", "_law_trail", "_law_skip", "skip_reason"] []) (L2.defBody (topS 20)) = true := by decide +kernel
theorem s_16 : C8.scC n_law ["_law_script"] (L2.defScope (topS 20)) = true := by decide +kernel
theorem i_16 : ioB lawS.io (CS.asgB b_law) = true := by decide +kernel
theorem all_of {l : PySem.W.OpenLaw} {w : World} {K : PySem.W.Frag} {h : Heap} {mg : Str → Option Value} {fa f0 f1 f2 f3 f4 f5 f6 f7 f8 f9 f10 f11 f12 f13 f14 f15 f16 : Addr} (X : K.In h) (G : h.Ns mainGlobals mg) (hfa : mg "law" = some (.ref fa))
    {od0 an0 : Option Addr} {sl0 : Array (Option Value)} {oc0 kV0 dc0 pm0 cd0 ct0 : Value}
    (a0 : PySem.W.nsIn K mainGlobals "_law_pen" = some (some (.ref f0))) (l0 : K.lookup f0 = some ⟨oc0, od0, .func (PySem.W.fnOf "_law_pen" "_law_pen" (L2.defArgs (topS 11)) (L2.defBody (topS 11)) (L2.defScope (topS 11)) .none kV0 dc0 pm0 an0 cd0 ct0), sl0⟩) (c0 : PySem.W.codeIn K cd0 "_law_pen" = true) (k0 : PySem.W.keepIn K (.ref f0) = true)
    {od1 an1 : Option Addr} {sl1 : Array (Option Value)} {oc1 kV1 dc1 pm1 cd1 ct1 : Value}
    (a1 : PySem.W.nsIn K mainGlobals "_law_draw" = some (some (.ref f1))) (l1 : K.lookup f1 = some ⟨oc1, od1, .func (PySem.W.fnOf "_law_draw" "_law_draw" (L2.defArgs (topS 12)) (L2.defBody (topS 12)) (L2.defScope (topS 12)) .none kV1 dc1 pm1 an1 cd1 ct1), sl1⟩) (c1 : PySem.W.codeIn K cd1 "_law_draw" = true) (k1 : PySem.W.keepIn K (.ref f1) = true)
    {od2 an2 : Option Addr} {sl2 : Array (Option Value)} {oc2 kV2 dc2 pm2 cd2 ct2 : Value}
    (a2 : PySem.W.nsIn K mainGlobals "_law_names" = some (some (.ref f2))) (l2 : K.lookup f2 = some ⟨oc2, od2, .func (PySem.W.fnOf "_law_names" "_law_names" (L2.defArgs (topS 13)) (L2.defBody (topS 13)) (L2.defScope (topS 13)) .none kV2 dc2 pm2 an2 cd2 ct2), sl2⟩) (c2 : PySem.W.codeIn K cd2 "_law_names" = true) (k2 : PySem.W.keepIn K (.ref f2) = true)
    {od3 an3 : Option Addr} {sl3 : Array (Option Value)} {oc3 kV3 dc3 pm3 cd3 ct3 : Value}
    (a3 : PySem.W.nsIn K mainGlobals "_law_volume" = some (some (.ref f3))) (l3 : K.lookup f3 = some ⟨oc3, od3, .func (PySem.W.fnOf "_law_volume" "_law_volume" (L2.defArgs (topS 14)) (L2.defBody (topS 14)) (L2.defScope (topS 14)) .none kV3 dc3 pm3 an3 cd3 ct3), sl3⟩) (c3 : PySem.W.codeIn K cd3 "_law_volume" = true) (k3 : PySem.W.keepIn K (.ref f3) = true)
    {od4 an4 : Option Addr} {sl4 : Array (Option Value)} {oc4 kV4 dc4 pm4 cd4 ct4 : Value}
    (a4 : PySem.W.nsIn K mainGlobals "is_prefix" = some (some (.ref f4))) (l4 : K.lookup f4 = some ⟨oc4, od4, .func (PySem.W.fnOf "is_prefix" "is_prefix" (L2.defArgs (topS 1)) (L2.defBody (topS 1)) (L2.defScope (topS 1)) .none kV4 dc4 pm4 an4 cd4 ct4), sl4⟩) (c4 : PySem.W.codeIn K cd4 "is_prefix" = true) (k4 : PySem.W.keepIn K (.ref f4) = true)
    {od5 an5 : Option Addr} {sl5 : Array (Option Value)} {oc5 kV5 dc5 pm5 cd5 ct5 : Value}
    (a5 : PySem.W.nsIn K mainGlobals "is_directory" = some (some (.ref f5))) (l5 : K.lookup f5 = some ⟨oc5, od5, .func (PySem.W.fnOf "is_directory" "is_directory" (L2.defArgs (topS 3)) (L2.defBody (topS 3)) (L2.defScope (topS 3)) .none kV5 dc5 pm5 an5 cd5 ct5), sl5⟩) (c5 : PySem.W.codeIn K cd5 "is_directory" = true) (k5 : PySem.W.keepIn K (.ref f5) = true)
    {od6 an6 : Option Addr} {sl6 : Array (Option Value)} {oc6 kV6 dc6 pm6 cd6 ct6 : Value}
    (a6 : PySem.W.nsIn K mainGlobals "entries_of" = some (some (.ref f6))) (l6 : K.lookup f6 = some ⟨oc6, od6, .func (PySem.W.fnOf "entries_of" "entries_of" (L2.defArgs (topS 4)) (L2.defBody (topS 4)) (L2.defScope (topS 4)) .none kV6 dc6 pm6 an6 cd6 ct6), sl6⟩) (c6 : PySem.W.codeIn K cd6 "entries_of" = true) (k6 : PySem.W.keepIn K (.ref f6) = true)
    {od7 an7 : Option Addr} {sl7 : Array (Option Value)} {oc7 kV7 dc7 pm7 cd7 ct7 : Value}
    (a7 : PySem.W.nsIn K mainGlobals "resolve" = some (some (.ref f7))) (l7 : K.lookup f7 = some ⟨oc7, od7, .func (PySem.W.fnOf "resolve" "resolve" (L2.defArgs (topS 5)) (L2.defBody (topS 5)) (L2.defScope (topS 5)) .none kV7 dc7 pm7 an7 cd7 ct7), sl7⟩) (c7 : PySem.W.codeIn K cd7 "resolve" = true) (k7 : PySem.W.keepIn K (.ref f7) = true)
    {od8 an8 : Option Addr} {sl8 : Array (Option Value)} {oc8 kV8 dc8 pm8 cd8 ct8 : Value}
    (a8 : PySem.W.nsIn K mainGlobals "depth" = some (some (.ref f8))) (l8 : K.lookup f8 = some ⟨oc8, od8, .func (PySem.W.fnOf "depth" "depth" (L2.defArgs (topS 6)) (L2.defBody (topS 6)) (L2.defScope (topS 6)) .none kV8 dc8 pm8 an8 cd8 ct8), sl8⟩) (c8 : PySem.W.codeIn K cd8 "depth" = true) (k8 : PySem.W.keepIn K (.ref f8) = true)
    {od9 an9 : Option Addr} {sl9 : Array (Option Value)} {oc9 kV9 dc9 pm9 cd9 ct9 : Value}
    (a9 : PySem.W.nsIn K mainGlobals "is_nested" = some (some (.ref f9))) (l9 : K.lookup f9 = some ⟨oc9, od9, .func (PySem.W.fnOf "is_nested" "is_nested" (L2.defArgs (topS 8)) (L2.defBody (topS 8)) (L2.defScope (topS 8)) .none kV9 dc9 pm9 an9 cd9 ct9), sl9⟩) (c9 : PySem.W.codeIn K cd9 "is_nested" = true) (k9 : PySem.W.keepIn K (.ref f9) = true)
    {od10 an10 : Option Addr} {sl10 : Array (Option Value)} {oc10 kV10 dc10 pm10 cd10 ct10 : Value}
    (a10 : PySem.W.nsIn K mainGlobals "skip_reason" = some (some (.ref f10))) (l10 : K.lookup f10 = some ⟨oc10, od10, .func (PySem.W.fnOf "skip_reason" "skip_reason" (L2.defArgs (topS 9)) (L2.defBody (topS 9)) (L2.defScope (topS 9)) .none kV10 dc10 pm10 an10 cd10 ct10), sl10⟩) (c10 : PySem.W.codeIn K cd10 "skip_reason" = true) (k10 : PySem.W.keepIn K (.ref f10) = true)
    {od11 an11 : Option Addr} {sl11 : Array (Option Value)} {oc11 kV11 dc11 pm11 cd11 ct11 : Value}
    (a11 : PySem.W.nsIn K mainGlobals "_law_walk" = some (some (.ref f11))) (l11 : K.lookup f11 = some ⟨oc11, od11, .func (PySem.W.fnOf "_law_walk" "_law_walk" (L2.defArgs (topS 15)) (L2.defBody (topS 15)) (L2.defScope (topS 15)) .none kV11 dc11 pm11 an11 cd11 ct11), sl11⟩) (c11 : PySem.W.codeIn K cd11 "_law_walk" = true) (k11 : PySem.W.keepIn K (.ref f11) = true)
    {od12 an12 : Option Addr} {sl12 : Array (Option Value)} {oc12 kV12 dc12 pm12 cd12 ct12 : Value}
    (a12 : PySem.W.nsIn K mainGlobals "_law_flat" = some (some (.ref f12))) (l12 : K.lookup f12 = some ⟨oc12, od12, .func (PySem.W.fnOf "_law_flat" "_law_flat" (L2.defArgs (topS 16)) (L2.defBody (topS 16)) (L2.defScope (topS 16)) .none kV12 dc12 pm12 an12 cd12 ct12), sl12⟩) (c12 : PySem.W.codeIn K cd12 "_law_flat" = true) (k12 : PySem.W.keepIn K (.ref f12) = true)
    {od13 an13 : Option Addr} {sl13 : Array (Option Value)} {oc13 kV13 dc13 pm13 cd13 ct13 : Value}
    (a13 : PySem.W.nsIn K mainGlobals "_law_find" = some (some (.ref f13))) (l13 : K.lookup f13 = some ⟨oc13, od13, .func (PySem.W.fnOf "_law_find" "_law_find" (L2.defArgs (topS 17)) (L2.defBody (topS 17)) (L2.defScope (topS 17)) .none kV13 dc13 pm13 an13 cd13 ct13), sl13⟩) (c13 : PySem.W.codeIn K cd13 "_law_find" = true) (k13 : PySem.W.keepIn K (.ref f13) = true)
    {od14 an14 : Option Addr} {sl14 : Array (Option Value)} {oc14 kV14 dc14 pm14 cd14 ct14 : Value}
    (a14 : PySem.W.nsIn K mainGlobals "_law_trail" = some (some (.ref f14))) (l14 : K.lookup f14 = some ⟨oc14, od14, .func (PySem.W.fnOf "_law_trail" "_law_trail" (L2.defArgs (topS 18)) (L2.defBody (topS 18)) (L2.defScope (topS 18)) .none kV14 dc14 pm14 an14 cd14 ct14), sl14⟩) (c14 : PySem.W.codeIn K cd14 "_law_trail" = true) (k14 : PySem.W.keepIn K (.ref f14) = true)
    {od15 an15 : Option Addr} {sl15 : Array (Option Value)} {oc15 kV15 dc15 pm15 cd15 ct15 : Value}
    (a15 : PySem.W.nsIn K mainGlobals "_law_skip" = some (some (.ref f15))) (l15 : K.lookup f15 = some ⟨oc15, od15, .func (PySem.W.fnOf "_law_skip" "_law_skip" (L2.defArgs (topS 19)) (L2.defBody (topS 19)) (L2.defScope (topS 19)) .none kV15 dc15 pm15 an15 cd15 ct15), sl15⟩) (c15 : PySem.W.codeIn K cd15 "_law_skip" = true) (k15 : PySem.W.keepIn K (.ref f15) = true)
    {od16 an16 : Option Addr} {sl16 : Array (Option Value)} {oc16 kV16 dc16 pm16 cd16 ct16 : Value}
    (a16 : PySem.W.nsIn K mainGlobals "law" = some (some (.ref f16))) (l16 : K.lookup f16 = some ⟨oc16, od16, .func (PySem.W.fnOf "law" "law" (L2.defArgs (topS 20)) (L2.defBody (topS 20)) (L2.defScope (topS 20)) .none kV16 dc16 pm16 an16 cd16 ct16), sl16⟩) (c16 : PySem.W.codeIn K cd16 "law" = true) (k16 : PySem.W.keepIn K (.ref f16) = true)
    (z0 : PySem.W.nsIn K mainGlobals "len" = some none) (z1 : PySem.W.nsIn K mainGlobals "repr" = some none) (z2 : PySem.W.nsIn K mainGlobals "list" = some none) (z3 : PySem.W.nsIn K mainGlobals "tuple" = some none) (z4 : PySem.W.nsIn K mainGlobals "abs" = some none) (z5 : PySem.W.nsIn K mainGlobals "int" = some none) (z6 : PySem.W.nsIn K mainGlobals "min" = some none) (z7 : PySem.W.nsIn K mainGlobals "range" = some none) (z8 : PySem.W.nsIn K mainGlobals "isinstance" = some none) (z9 : PySem.W.nsIn K mainGlobals "zip" = some none) (z10 : PySem.W.nsIn K mainGlobals "enumerate" = some none) (z11 : PySem.W.nsIn K mainGlobals "dict" = some none) :
    ∃ fd : FuncData, (∀ (s : Shared) (v : Value), BindsTo s fd ⟨[v], []⟩ [("_law_script", v)]) ∧ ∀ base : Heap, K.In base → base.Ns mainGlobals mg → SysD base → FnG l.prog w K mg base 19 fa fd ["_law_script"] (spOf K 1 lawS) := by
  have e := hfa.symm.trans (PySem.W.mg_of X G a16)
  cases e
  have zs : ∀ x : Str, x ∈ (["len", "repr", "list", "tuple", "abs", "int", "min", "range", "isinstance", "zip", "enumerate", "dict"] : List Str) → mg x = none := fun x hx => by
    simp only [List.mem_cons, List.not_mem_nil, or_false] at hx
    rcases hx with rfl | rfl | rfl | rfl | rfl | rfl | rfl | rfl | rfl | rfl | rfl | rfl
    · exact PySem.W.mg_none_of X G z0
    · exact PySem.W.mg_none_of X G z1
    · exact PySem.W.mg_none_of X G z2
    · exact PySem.W.mg_none_of X G z3
    · exact PySem.W.mg_none_of X G z4
    · exact PySem.W.mg_none_of X G z5
    · exact PySem.W.mg_none_of X G z6
    · exact PySem.W.mg_none_of X G z7
    · exact PySem.W.mg_none_of X G z8
    · exact PySem.W.mg_none_of X G z9
    · exact PySem.W.mg_none_of X G z10
    · exact PySem.W.mg_none_of X G z11
  have F0 := L2.fun_mk (st := topS 11) l0 c0 k0
  have b0 := F0.binds (ps := ["_law_script"]) fun _ _ _ _ _ _ us hl => match us, hl with | [_], _ => rfl
  have F1 := L2.fun_mk (st := topS 12) l1 c1 k1
  have b1 := F1.binds (ps := ["_law_pen_here", "_law_many"]) fun _ _ _ _ _ _ us hl => match us, hl with | [_, _], _ => rfl
  have F2 := L2.fun_mk (st := topS 13) l2 c2 k2
  have b2 := F2.binds (ps := ["_law_pen_here", "_law_many"]) fun _ _ _ _ _ _ us hl => match us, hl with | [_, _], _ => rfl
  have F3 := L2.fun_mk (st := topS 14) l3 c3 k3
  have b3 := F3.binds (ps := ["_law_pen_here", "_law_most"]) fun _ _ _ _ _ _ us hl => match us, hl with | [_, _], _ => rfl
  have F4 := L2.fun_mk (st := topS 1) l4 c4 k4
  have b4 := F4.binds (ps := ["path", "other"]) fun _ _ _ _ _ _ us hl => match us, hl with | [_, _], _ => rfl
  have F5 := L2.fun_mk (st := topS 3) l5 c5 k5
  have b5 := F5.binds (ps := ["content"]) fun _ _ _ _ _ _ us hl => match us, hl with | [_], _ => rfl
  have F6 := L2.fun_mk (st := topS 4) l6 c6 k6
  have b6 := F6.binds (ps := ["content"]) fun _ _ _ _ _ _ us hl => match us, hl with | [_], _ => rfl
  have F7 := L2.fun_mk (st := topS 5) l7 c7 k7
  have b7 := F7.binds (ps := ["volume", "path"]) fun _ _ _ _ _ _ us hl => match us, hl with | [_, _], _ => rfl
  have F8 := L2.fun_mk (st := topS 6) l8 c8 k8
  have b8 := F8.binds (ps := ["volume", "path"]) fun _ _ _ _ _ _ us hl => match us, hl with | [_, _], _ => rfl
  have F9 := L2.fun_mk (st := topS 8) l9 c9 k9
  have b9 := F9.binds (ps := ["request"]) fun _ _ _ _ _ _ us hl => match us, hl with | [_], _ => rfl
  have F10 := L2.fun_mk (st := topS 9) l10 c10 k10
  have b10 := F10.binds (ps := ["volume", "request"]) fun _ _ _ _ _ _ us hl => match us, hl with | [_, _], _ => rfl
  have F11 := L2.fun_mk (st := topS 15) l11 c11 k11
  have b11 := F11.binds (ps := ["_law_held", "_law_ahead"]) fun _ _ _ _ _ _ us hl => match us, hl with | [_, _], _ => rfl
  have F12 := L2.fun_mk (st := topS 16) l12 c12 k12
  have b12 := F12.binds (ps := ["_law_held"]) fun _ _ _ _ _ _ us hl => match us, hl with | [_], _ => rfl
  have F13 := L2.fun_mk (st := topS 17) l13 c13 k13
  have b13 := F13.binds (ps := ["_law_flat_here", "_law_root", "_law_trail_here"]) fun _ _ _ _ _ _ us hl => match us, hl with | [_, _, _], _ => rfl
  have F14 := L2.fun_mk (st := topS 18) l14 c14 k14
  have b14 := F14.binds (ps := ["_law_pen_here", "_law_volume_here"]) fun _ _ _ _ _ _ us hl => match us, hl with | [_, _], _ => rfl
  have F15 := L2.fun_mk (st := topS 19) l15 c15 k15
  have b15 := F15.binds (ps := ["_law_flat_here", "_law_root", "_law_pair"]) fun _ _ _ _ _ _ us hl => match us, hl with | [_, _, _], _ => rfl
  have F16 := L2.fun_mk (st := topS 20) l16 c16 k16
  refine ⟨PySem.W.fnOf "law" "law" (L2.defArgs (topS 20)) (L2.defBody (topS 20)) (L2.defScope (topS 20)) .none kV16 dc16 pm16 an16 cd16 ct16, fun s v => .of_eq rfl, fun base _ _ sm => ?_⟩
  have I0 : FnI l.prog w K mg base 1 "_law_pen" penS := by
    have en : Env1 l.prog w K mg base 0 gms (mcs n_lpen 11 [] []) := ⟨zs, fun f hf => absurd hf (by simp [mcs]), fun x hx => absurd hx (by simp [mcs]), sm⟩
    exact def_FnI F0 (PySem.W.mg_of X G a0) b0 en s_0 rfl rfl i_0 m_0 (pen_ok)
  have I1 : FnI l.prog w K mg base 1 "_law_draw" drawS := by
    have en : Env1 l.prog w K mg base 0 gms (mcs n_ldraw 12 [] []) := ⟨zs, fun f hf => absurd hf (by simp [mcs]), fun x hx => absurd hx (by simp [mcs]), sm⟩
    exact def_FnI F1 (PySem.W.mg_of X G a1) b1 en s_1 rfl rfl i_1 m_1 (draw_ok b_draw_c)
  have I2 : FnI l.prog w K mg base 2 "_law_names" namesS := by
    have en : Env1 l.prog w K mg base 1 gms (mcs n_lnames 13 ["_law_draw"] []) := ⟨zs, fun f hf => by
      simp only [mcs, List.mem_cons, List.not_mem_nil, or_false] at hf
      rcases hf with rfl
      · exact ⟨_, g_1, I1.mono (by decide)⟩, fun x hx => absurd hx (by simp [mcs]), sm⟩
    exact def_FnI F2 (PySem.W.mg_of X G a2) b2 en s_2 rfl rfl i_2 m_2 (names_ok g_1)
  have I3 : FnI l.prog w K mg base 3 "_law_volume" volumeS := by
    have en : Env1 l.prog w K mg base 2 gms (mcs n_lvolume 14 ["_law_draw", "_law_names"] []) := ⟨zs, fun f hf => by
      simp only [mcs, List.mem_cons, List.not_mem_nil, or_false] at hf
      rcases hf with rfl | rfl
      · exact ⟨_, g_1, I1.mono (by decide)⟩
      · exact ⟨_, g_2, I2.mono (by decide)⟩, fun x hx => absurd hx (by simp [mcs]), sm⟩
    exact def_FnI F3 (PySem.W.mg_of X G a3) b3 en s_3 rfl rfl i_3 m_3 (lvolume_ok g_1 g_2)
  have I4 : FnI l.prog w K mg base 1 "is_prefix" isprefS := by
    have en : Env1 l.prog w K mg base 0 gms (mcs n_isprefix 1 [] []) := ⟨zs, fun f hf => absurd hf (by simp [mcs]), fun x hx => absurd hx (by simp [mcs]), sm⟩
    exact def_FnI F4 (PySem.W.mg_of X G a4) b4 en s_4 rfl rfl i_4 m_4 (ispref_ok)
  have I5 : FnI l.prog w K mg base 1 "is_directory" isdirS := by
    have en : Env1 l.prog w K mg base 0 gms (mcs n_isdirectory 3 [] []) := ⟨zs, fun f hf => absurd hf (by simp [mcs]), fun x hx => absurd hx (by simp [mcs]), sm⟩
    exact def_FnI F5 (PySem.W.mg_of X G a5) b5 en s_5 rfl rfl i_5 m_5 (isdir_ok)
  have I6 : FnI l.prog w K mg base 2 "entries_of" entriesS := by
    have en : Env1 l.prog w K mg base 1 gms (mcs n_entriesof 4 ["is_directory"] []) := ⟨zs, fun f hf => by
      simp only [mcs, List.mem_cons, List.not_mem_nil, or_false] at hf
      rcases hf with rfl
      · exact ⟨_, g_5, I5.mono (by decide)⟩, fun x hx => absurd hx (by simp [mcs]), sm⟩
    exact def_FnI F6 (PySem.W.mg_of X G a6) b6 en s_6 rfl rfl i_6 m_6 (entries_ok g_5)
  have I7 : FnI l.prog w K mg base 3 "resolve" resolveS := by
    have en : Env1 l.prog w K mg base 2 gms (mcs n_resolve 5 ["entries_of"] []) := ⟨zs, fun f hf => by
      simp only [mcs, List.mem_cons, List.not_mem_nil, or_false] at hf
      rcases hf with rfl
      · exact ⟨_, g_6, I6.mono (by decide)⟩, fun x hx => absurd hx (by simp [mcs]), sm⟩
    exact def_FnI F7 (PySem.W.mg_of X G a7) b7 en s_7 rfl rfl i_7 m_7 (resolve_ok g_6)
  have I8 : FnI l.prog w K mg base 4 "depth" depthS := by
    have en : Env1 l.prog w K mg base 3 gms (mcs n_depth 6 ["resolve"] []) := ⟨zs, fun f hf => by
      simp only [mcs, List.mem_cons, List.not_mem_nil, or_false] at hf
      rcases hf with rfl
      · exact ⟨_, g_7, I7.mono (by decide)⟩, fun x hx => absurd hx (by simp [mcs]), sm⟩
    exact def_FnI F8 (PySem.W.mg_of X G a8) b8 en s_8 rfl rfl i_8 m_8 (depth_ok g_7)
  have I9 : FnI l.prog w K mg base 2 "is_nested" isnestedS := by
    have en : Env1 l.prog w K mg base 1 gms (mcs n_isnested 8 ["is_prefix"] []) := ⟨zs, fun f hf => by
      simp only [mcs, List.mem_cons, List.not_mem_nil, or_false] at hf
      rcases hf with rfl
      · exact ⟨_, g_4, I4.mono (by decide)⟩, fun x hx => absurd hx (by simp [mcs]), sm⟩
    exact def_FnI F9 (PySem.W.mg_of X G a9) b9 en s_9 rfl rfl i_9 m_9 (isnested_ok g_4)
  have I10 : FnI l.prog w K mg base 5 "skip_reason" skipreasonS := by
    have en : Env1 l.prog w K mg base 4 gms (mcs n_skipreason 9 ["is_nested", "depth"] []) := ⟨zs, fun f hf => by
      simp only [mcs, List.mem_cons, List.not_mem_nil, or_false] at hf
      rcases hf with rfl | rfl
      · exact ⟨_, g_9, I9.mono (by decide)⟩
      · exact ⟨_, g_8, I8.mono (by decide)⟩, fun x hx => absurd hx (by simp [mcs]), sm⟩
    exact def_FnI F10 (PySem.W.mg_of X G a10) b10 en s_10 rfl rfl i_10 m_10 (skipreason_ok g_9 g_8)
  have R11 : ∀ n : Nat, FnI l.prog w K mg base (0 + 1 * n) "_law_walk" (walkS n) := by
    intro n
    induction n with
    | zero => exact fnI_bot F11 (PySem.W.mg_of X G a11) b11 rfl (fun os ⟨_, _, h⟩ => absurd h.2.1 (Nat.not_lt_zero _))
    | succ n ih =>
      have ih0 := ih
      have n0 : FnI l.prog w K mg base (0 + 1 * n + 1) "_law_walk" (walkS (n + 1)) := by
        have en : Env1 l.prog w K mg base (0 + 1 * n + 0) (gmU (gms) "_law_walk" (walkS n)) (mcs n_lwalk 15 ["_law_walk"] []) := ⟨zs, fun f hf => by
            simp only [mcs, List.mem_cons, List.not_mem_nil, or_false] at hf
            rcases hf with rfl
            · exact ⟨_, (gmU_same), ih0.mono (by omega)⟩, fun x hx => absurd hx (by simp [mcs]), sm⟩
        exact def_FnI F11 (PySem.W.mg_of X G a11) b11 en s_11 rfl rfl i_11 m_11 (lwalk_ok (gmU_same))
      exact n0.mono (by omega)
  have I11 : FnI l.prog w K mg base 17 "_law_walk" (walkS 17) := (R11 17)
  have R12 : ∀ n : Nat, FnI l.prog w K mg base (0 + 1 * n) "_law_flat" (lflatS n) := by
    intro n
    induction n with
    | zero => exact fnI_bot F12 (PySem.W.mg_of X G a12) b12 rfl (fun os ⟨_, _, h⟩ => absurd h.2.1 (Nat.not_lt_zero _))
    | succ n ih =>
      have ih0 := ih
      have n0 : FnI l.prog w K mg base (0 + 1 * n + 1) "_law_flat" (lflatS (n + 1)) := by
        have en : Env1 l.prog w K mg base (0 + 1 * n + 0) (gmU (gms) "_law_flat" (lflatS n)) (mcs n_lflat 16 ["_law_flat"] []) := ⟨zs, fun f hf => by
            simp only [mcs, List.mem_cons, List.not_mem_nil, or_false] at hf
            rcases hf with rfl
            · exact ⟨_, (gmU_same), ih0.mono (by omega)⟩, fun x hx => absurd hx (by simp [mcs]), sm⟩
        exact def_FnI F12 (PySem.W.mg_of X G a12) b12 en s_12 rfl rfl i_12 m_12 (lflat_ok (gmU_same))
      exact n0.mono (by omega)
  have I12 : FnI l.prog w K mg base 17 "_law_flat" (lflatS 17) := (R12 17)
  have I13 : FnI l.prog w K mg base 1 "_law_find" lfindS := by
    have en : Env1 l.prog w K mg base 0 gms (mcs n_lfind 17 [] []) := ⟨zs, fun f hf => absurd hf (by simp [mcs]), fun x hx => absurd hx (by simp [mcs]), sm⟩
    exact def_FnI F13 (PySem.W.mg_of X G a13) b13 en s_13 rfl rfl i_13 m_13 (lfind_ok)
  have I14 : FnI l.prog w K mg base 18 "_law_trail" ltrailS := by
    have en : Env1 l.prog w K mg base 17 gms (mcs n_ltrail 18 ["_law_draw", "_law_walk"] []) := ⟨zs, fun f hf => by
      simp only [mcs, List.mem_cons, List.not_mem_nil, or_false] at hf
      rcases hf with rfl | rfl
      · exact ⟨_, g_1, I1.mono (by decide)⟩
      · exact ⟨_, g_11, I11.mono (by decide)⟩, fun x hx => absurd hx (by simp [mcs]), sm⟩
    exact def_FnI F14 (PySem.W.mg_of X G a14) b14 en s_14 rfl rfl i_14 m_14 (ltrail_ok g_1 g_11)
  have I15 : FnI l.prog w K mg base 2 "_law_skip" lskipS := by
    have en : Env1 l.prog w K mg base 1 gms (mcs n_lskip 19 ["_law_find"] []) := ⟨zs, fun f hf => by
      simp only [mcs, List.mem_cons, List.not_mem_nil, or_false] at hf
      rcases hf with rfl
      · exact ⟨_, g_13, I13.mono (by decide)⟩, fun x hx => absurd hx (by simp [mcs]), sm⟩
    exact def_FnI F15 (PySem.W.mg_of X G a15) b15 en s_15 rfl rfl i_15 m_15 (lskip_ok g_13)
  have en : Env1 l.prog w K mg base 18 gms (mcs n_law 20 ["_law_pen", "_law_draw", "_law_volume", "_law_flat", "_law_trail", "_law_skip", "skip_reason"] []) := ⟨zs, fun f hf => by
      simp only [mcs, List.mem_cons, List.not_mem_nil, or_false] at hf
      rcases hf with rfl | rfl | rfl | rfl | rfl | rfl | rfl
      · exact ⟨_, g_0, I0.mono (by decide)⟩
      · exact ⟨_, g_1, I1.mono (by decide)⟩
      · exact ⟨_, g_3, I3.mono (by decide)⟩
      · exact ⟨_, g_12, I12.mono (by decide)⟩
      · exact ⟨_, g_14, I14.mono (by decide)⟩
      · exact ⟨_, g_15, I15.mono (by decide)⟩
      · exact ⟨_, g_10, I10.mono (by decide)⟩, fun x hx => absurd hx (by simp [mcs]), sm⟩
  exact def_FnG F16 en s_16 rfl rfl i_16 m_16 (law_ok g_0 g_1 g_3 g_12 g_14 g_15 g_10)
end VS
open PySem PySem.W PyProof.Rows
set_option maxHeartbeats 0 in
theorem PySem.Challenge.cw_pathswap_k08_why_requests_are_skipped_holds : PySem.Challenge.rw_pathswap_k08_why_requests_are_skipped.Holds := by
  w_on; o_law; k_head; (case hw => w_witness2)
  k_fill
  refine VS.walk_G (l := PySem.Challenge.rw_pathswap_k08_why_requests_are_skipped) (n := 63) (k := 19) (x := "_law_script") (S := VS.lawS) rfl (by decide) rfl ⟨rfl, by decide, by decide⟩ (fun w h Y => PySem.W.kIn_of Y) VS.lawS_ok (by decide +kernel) ?F
  case F =>
    intro w mg fa h KX G hmg
    refine' VS.all_of KX G hmg ?a0 ?l0 ?c0 ?k0 ?a1 ?l1 ?c1 ?k1 ?a2 ?l2 ?c2 ?k2 ?a3 ?l3 ?c3 ?k3 ?a4 ?l4 ?c4 ?k4 ?a5 ?l5 ?c5 ?k5 ?a6 ?l6 ?c6 ?k6 ?a7 ?l7 ?c7 ?k7 ?a8 ?l8 ?c8 ?k8 ?a9 ?l9 ?c9 ?k9 ?a10 ?l10 ?c10 ?k10 ?a11 ?l11 ?c11 ?k11 ?a12 ?l12 ?c12 ?k12 ?a13 ?l13 ?c13 ?k13 ?a14 ?l14 ?c14 ?k14 ?a15 ?l15 ?c15 ?k15 ?a16 ?l16 ?c16 ?k16 ?z0 ?z1 ?z2 ?z3 ?z4 ?z5 ?z6 ?z7 ?z8 ?z9 ?z10 ?z11
    (case a0 => k_is); (case l0 => k_is); (case c0 => k_is); (case k0 => k_is); (case a1 => k_is); (case l1 => k_is); (case c1 => k_is); (case k1 => k_is); (case a2 => k_is); (case l2 => k_is); (case c2 => k_is); (case k2 => k_is); (case a3 => k_is); (case l3 => k_is); (case c3 => k_is); (case k3 => k_is); (case a4 => k_is); (case l4 => k_is); (case c4 => k_is); (case k4 => k_is); (case a5 => k_is); (case l5 => k_is); (case c5 => k_is); (case k5 => k_is); (case a6 => k_is); (case l6 => k_is); (case c6 => k_is); (case k6 => k_is); (case a7 => k_is); (case l7 => k_is); (case c7 => k_is); (case k7 => k_is); (case a8 => k_is); (case l8 => k_is); (case c8 => k_is); (case k8 => k_is); (case a9 => k_is); (case l9 => k_is); (case c9 => k_is); (case k9 => k_is); (case a10 => k_is); (case l10 => k_is); (case c10 => k_is); (case k10 => k_is); (case a11 => k_is); (case l11 => k_is); (case c11 => k_is); (case k11 => k_is); (case a12 => k_is); (case l12 => k_is); (case c12 => k_is); (case k12 => k_is); (case a13 => k_is); (case l13 => k_is); (case c13 => k_is); (case k13 => k_is); (case a14 => k_is); (case l14 => k_is); (case c14 => k_is); (case k14 => k_is); (case a15 => k_is); (case l15 => k_is); (case c15 => k_is); (case k15 => k_is); (case a16 => k_is); (case l16 => k_is); (case c16 => k_is); (case k16 => k_is); (case z0 => k_is); (case z1 => k_is); (case z2 => k_is); (case z3 => k_is); (case z4 => k_is); (case z5 => k_is); (case z6 => k_is); (case z7 => k_is); (case z8 => k_is); (case z9 => k_is); (case z10 => k_is); (case z11 => k_is)

