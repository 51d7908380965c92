import PyProof.Rows.All
import Wide.All
import OpenK.AllK
import Wide.FinOn
import HandS.ForMost
import HandS.WordsExc
import HandS.Deep
import HandS.Style
import HandS.IsInst
import HandS.TupSets
import HandS.ExcCtx
import HandS.Wide
import HandS.Conv
import HandS.TupAny
import HandS.TupMul
import HandS.SortInts
import KE.KDictKeyed
import HandS.HotCalls
import KE.KTupSum
import HandS.Strs
import HandS.Small
import KE.KDictDisplayH
import KE.GoesEnum
import HandS.Codes
import HandS.Ends
import KE.GoesZip
import HandS.Iter
import HandS.Comp
import HandS.ExcIs
import PyProof.ExcBaseAll.ValueError
import PySem.Challenge.RW_redvisits_k22_who_can_still_win
set_option Elab.async false
set_option linter.all false
set_option autoImplicit false
set_option maxRecDepth 100000
set_option maxHeartbeats 2000000
namespace DL
open PySem L2

/-! ### data -/
inductive D where
  | non | bl (b : Bool) | int (i : Int) | str (s : Str)
  | tup (xs : List D) | lst (xs : List D) | scr (xs : List D)
  | dI (ks : List Int) (vs : List D)
  | dT (ks : List D) (vs : List D)
instance : Inhabited D := ⟨.non⟩

mutual
/-- a key of a dict: tuples, nested -/
def D.key : D → NestedKey
  | .non => .none
  | .bl b => .num (if b then 1 else 0)
  | .int i => .num i
  | .str s => .text s
  | .tup xs => .tup (keys xs)
  | .lst _ => .none
  | .scr _ => .none
  | .dI _ _ => .none
  | .dT _ _ => .none
def keys : List D → List NestedKey
  | [] => []
  | x :: xs => x.key :: keys xs
end
mutual
/-- may be a key -/
def D.isKey : D → Bool
  | .non => true
  | .bl _ => true
  | .int _ => true
  | .str _ => true
  | .tup xs => areKeys xs
  | .lst _ => false
  | .scr _ => false
  | .dI _ _ => false
  | .dT _ _ => false
def areKeys : List D → Bool
  | [] => true
  | x :: xs => x.isKey && areKeys xs
end
/-- a tuple that may be a key -/
def kOk1 (d : D) : Bool := match d with
  | .tup xs => areKeys xs && decide (NestedKey.depth (.tup (keys xs)) ≤ 8)
  | _ => false
def kOk (ks : List D) : Bool := ks.all kOk1
mutual
/-- as the library's data (no dicts) -/
def D.py : D → PyData
  | .non => .none
  | .bl b => .bool b
  | .int i => .int i
  | .str s => .str s
  | .tup xs => .tuple (pys xs)
  | .lst xs => .list (pys xs)
  | .scr _ => .none
  | .dI _ _ => .none
  | .dT _ _ => .none
def pys : List D → List PyData
  | [] => []
  | x :: xs => x.py :: pys xs
end
mutual
/-- no dict within, texts as the library lays them -/
def D.flat : D → Bool
  | .non => true
  | .bl _ => true
  | .int _ => true
  | .str s => PyData.canLay0 (.str s)
  | .tup xs => flats xs
  | .lst xs => flats xs
  | .scr _ => false
  | .dI _ _ => false
  | .dT _ _ => false
def flats : List D → Bool
  | [] => true
  | x :: xs => x.flat && flats xs
end

/-! ### heaps -/
abbrev Ex (H H' : Hp) : Prop := ∀ a o, H a = some o → H' a = some o
theorem Ex.refl (H : Hp) : Ex H H := fun _ _ h => h
theorem Ex.trans {H H1 H2 : Hp} (a : Ex H H1) (b : Ex H1 H2) : Ex H H2 := fun x o h => b x o (a x o h)
theorem Ex.new {H : Hp} {p : Addr} {o : HO} (h : H p = none) : Ex H (upd H p o) := fun a u e => by
  rw [upd_ne (ne_of_none e h)]
  exact e
theorem Ex.upd2 {H H' : Hp} {p : Addr} {o : HO} (e : Ex H H') : Ex (upd H p o) (upd H' p o) := fun a u h => by
  by_cases c : a = p
  · subst c; rw [upd_same] at h ⊢; exact h
  · rw [upd_ne c] at h ⊢; exact e a u h
theorem Ex.into {H H' : Hp} {p : Addr} {o : HO} (e : Ex H H') (h : H' p = some o) : Ex (upd H p o) H' := fun a u q => by
  by_cases c : a = p
  · subst c; rw [upd_same] at q; cases q; exact h
  · rw [upd_ne c] at q; exact e a u q
theorem Ex.out {H H' : Hp} {p : Addr} {o : HO} (e : Ex H H') (h : H p = none) : Ex H (upd H' p o) := fun a u q => by
  rw [upd_ne (ne_of_none q h)]
  exact e a u q
theorem Ex.free {H H' : Hp} (e : Ex H H') {p : Addr} (h : H' p = none) : H p = none := by
  cases q : H p with
  | none => rfl
  | some o => rw [e p o q] at h; cases h
theorem ex_rd {H H' : Hp} {a : Addr} {u : HO} (e : Ex H H') (h : Rd H a u) : Rd H' a u := by
  rcases h with h | ⟨o, h⟩
  · exact .inl (e a _ h)
  · exact .inr ⟨o, e a _ h⟩
theorem ex_l {K : PySem.W.Frag} {H H' : Hp} {a : Addr} {xs : List V} (e : Ex H H') (h : SqL K H a xs) : SqL K H' a xs := by
  rcases h with h | h
  · exact .inl (ex_rd e h)
  · exact .inr h
theorem ex_t {K : PySem.W.Frag} {H H' : Hp} {a : Addr} {xs : List V} (e : Ex H H') (h : SqT K H a xs) : SqT K H' a xs := by
  rcases h with h | h
  · exact .inl (ex_rd e h)
  · exact .inr h

/-! ### dicts with tuple keys -/
/-- the entries of a dict with nested keys, as they lie -/
def TEnt (P : Program) (w : World) (h : Heap) (a : Addr) (ks : List NestedKey) (as : List Addr) (vs : List V) : Prop :=
  (a == sysModules) = false ∧ ks.length ≤ sizeLine ∧ ks.length = as.length ∧ ks.length = vs.length ∧ ∃ us : List Value, Vals vs us ∧ ∃ o es ep, h.get? a = some o ∧ o.ExactDict ∧ o.data = .dict es ep ∧
    es.toList = (ks.zip (as.zip us)).map (entryOfKey (nestedKind P w)) ∧ ks.Nodup
def TO (P : Program) (w : World) (a : Addr) (ks : List NestedKey) (as : List Addr) (vs : List V) : HO := .ext fun h => TEnt P w h a ks as vs
theorem TEnt.at {P : Program} {w : World} {h h' : Heap} {a : Addr} {ks as vs} (x : TEnt P w h a ks as vs) (k : ∀ o, h.get? a = some o → h'.get? a = some o) : TEnt P w h' a ks as vs := by
  obtain ⟨h1, h2, h3, h4, us, r, o, es, ep, e, q⟩ := x
  exact ⟨h1, h2, h3, h4, us, r, o, es, ep, k o e, q⟩
theorem TEnt.ok {P : Program} {w : World} {H : Hp} {h : Heap} {a : Addr} {ks as vs} (x : TEnt P w h a ks as vs) : ObjOk P w H h a (TO P w a ks as vs) := by
  obtain ⟨_, _, _, _, us, r, o, es, ep, e, q⟩ := id x
  exact ⟨x, ⟨o, e⟩, fun h1 h2 y k => TEnt.at y k⟩

/-! ### what a value of the heap is, as data -/
abbrev kvI (ks : List Int) (vs : List V) : List (Key × V) := (ks.map Sum.inl).zip vs
section
variable (P : Program) (w : World) (K : PySem.W.Frag) (H : Hp)
mutual
def Rep : D → V → Prop
  | .non, v => v = .non
  | .bl b, v => v = .bl b
  | .int i, v => v = .int i
  | .str s, v => v = .str s
  | .tup ds, v => ∃ a vs, v = .ref a ∧ H a = some (.tup vs) ∧ Reps ds vs
  | .lst ds, v => ∃ a vs, v = .ref a ∧ H a = some (.lst vs) ∧ Reps ds vs
  | .scr ds, v => ∃ a vs, v = .ref a ∧ SqL K H a vs ∧ Reps ds vs
  | .dI ks ds, v => ∃ a o vs, v = .ref a ∧ H a = some (.frz o (.dK (kvI ks vs))) ∧ ks.length = ds.length ∧ Reps ds vs
  | .dT ks ds, v => ∃ a o as vs, v = .ref a ∧ H a = some (.frz o (TO P w a (keys ks) as vs)) ∧ ks.length = ds.length ∧ kOk ks = true ∧ Reps ks (as.map V.ref) ∧ Reps ds vs
def Reps : List D → List V → Prop
  | [], vs => vs = []
  | d :: ds, vs => ∃ v r, vs = v :: r ∧ Rep d v ∧ Reps ds r
end
end
section
variable {P : Program} {w : World} {K : PySem.W.Frag} {H H' : Hp}
mutual
theorem Rep.mono (e : Ex H H') : ∀ (d : D) (v : V), Rep P w K H d v → Rep P w K H' d v
  | .non, _, h => by simpa only [Rep] using h
  | .bl _, _, h => by simpa only [Rep] using h
  | .int _, _, h => by simpa only [Rep] using h
  | .str _, _, h => by simpa only [Rep] using h
  | .tup ds, _, h => by
    simp only [Rep] at h ⊢
    obtain ⟨a, vs, h1, h2, h3⟩ := h
    exact ⟨a, vs, h1, e _ _ h2, Reps.mono e ds vs h3⟩
  | .lst ds, _, h => by
    simp only [Rep] at h ⊢
    obtain ⟨a, vs, h1, h2, h3⟩ := h
    exact ⟨a, vs, h1, e _ _ h2, Reps.mono e ds vs h3⟩
  | .scr ds, _, h => by
    simp only [Rep] at h ⊢
    obtain ⟨a, vs, h1, h2, h3⟩ := h
    exact ⟨a, vs, h1, ex_l e h2, Reps.mono e ds vs h3⟩
  | .dI ks ds, _, h => by
    simp only [Rep] at h ⊢
    obtain ⟨a, o, vs, h1, h2, h3, h4⟩ := h
    exact ⟨a, o, vs, h1, e _ _ h2, h3, Reps.mono e ds vs h4⟩
  | .dT ks ds, _, h => by
    simp only [Rep] at h ⊢
    obtain ⟨a, o, as, vs, h1, h2, h3, h4, h5, h6⟩ := h
    exact ⟨a, o, as, vs, h1, e _ _ h2, h3, h4, Reps.mono e ks _ h5, Reps.mono e ds vs h6⟩
theorem Reps.mono (e : Ex H H') : ∀ (ds : List D) (vs : List V), Reps P w K H ds vs → Reps P w K H' ds vs
  | [], _, h => by simpa only [Reps] using h
  | d :: ds, _, h => by
    simp only [Reps] at h ⊢
    obtain ⟨v, r, h1, h2, h3⟩ := h
    exact ⟨v, r, h1, Rep.mono e d v h2, Reps.mono e ds r h3⟩
end
theorem Reps.nil : Reps P w K H [] [] := by simp only [Reps]
theorem Reps.cons {d : D} {v : V} {ds vs} (h : Rep P w K H d v) (t : Reps P w K H ds vs) : Reps P w K H (d :: ds) (v :: vs) := by
  simp only [Reps]; exact ⟨v, vs, rfl, h, t⟩
theorem Reps.cons_inv {d : D} {v : V} {ds vs} (h : Reps P w K H (d :: ds) (v :: vs)) : Rep P w K H d v ∧ Reps P w K H ds vs := by
  simp only [Reps] at h
  obtain ⟨_, _, e, h1, h2⟩ := h
  cases e
  exact ⟨h1, h2⟩
theorem Reps.length : ∀ {ds : List D} {vs : List V}, Reps P w K H ds vs → ds.length = vs.length
  | [], _, h => by simp only [Reps] at h; subst h; rfl
  | d :: ds, _, h => by
    simp only [Reps] at h
    obtain ⟨v, r, rfl, _, h3⟩ := h
    simp [Reps.length h3]
theorem Reps.append : ∀ {ds es : List D} {vs us : List V}, Reps P w K H ds vs → Reps P w K H es us → Reps P w K H (ds ++ es) (vs ++ us)
  | [], _, _, _, h, q => by simp only [Reps] at h; subst h; exact q
  | d :: ds, _, _, _, h, q => by
    simp only [Reps] at h
    obtain ⟨v, r, rfl, h2, h3⟩ := h
    exact Reps.cons h2 (Reps.append h3 q)
theorem Reps.get : ∀ {ds : List D} {vs : List V} {i : Nat} {d : D}, Reps P w K H ds vs → ds[i]? = some d → ∃ v, vs[i]? = some v ∧ Rep P w K H d v
  | [], _, _, _, _, e => by simp at e
  | d :: ds, _, 0, _, h, e => by
    simp only [Reps] at h
    obtain ⟨v, r, rfl, h2, h3⟩ := h
    simp at e; subst e
    exact ⟨v, rfl, h2⟩
  | d :: ds, _, i + 1, _, h, e => by
    simp only [Reps] at h
    obtain ⟨v, r, rfl, h2, h3⟩ := h
    obtain ⟨u, e1, e2⟩ := Reps.get (i := i) h3 (by simpa using e)
    exact ⟨u, by simpa using e1, e2⟩
theorem Reps.getV : ∀ {ds : List D} {vs : List V} {i : Nat} {v : V}, Reps P w K H ds vs → vs[i]? = some v → ∃ d, ds[i]? = some d ∧ Rep P w K H d v
  | [], _, _, _, h, e => by simp only [Reps] at h; subst h; simp at e
  | d :: ds, _, 0, _, h, e => by
    simp only [Reps] at h
    obtain ⟨v, r, rfl, h2, h3⟩ := h
    simp at e; subst e
    exact ⟨d, rfl, h2⟩
  | d :: ds, _, i + 1, _, h, e => by
    simp only [Reps] at h
    obtain ⟨v, r, rfl, h2, h3⟩ := h
    obtain ⟨u, e1, e2⟩ := Reps.getV (i := i) h3 (by simpa using e)
    exact ⟨u, by simpa using e1, e2⟩
theorem Reps.set : ∀ {ds : List D} {vs : List V} {d : D} {v : V} (i : Nat), Reps P w K H ds vs → Rep P w K H d v → Reps P w K H (ds.set i d) (vs.set i v)
  | [], _, _, _, _, h, _ => by simp only [Reps] at h; subst h; exact Reps.nil
  | d :: ds, _, _, _, 0, h, q => by
    simp only [Reps] at h
    obtain ⟨v, r, rfl, h2, h3⟩ := h
    exact Reps.cons q h3
  | d :: ds, _, _, _, i + 1, h, q => by
    simp only [Reps] at h
    obtain ⟨v, r, rfl, h2, h3⟩ := h
    exact Reps.cons h2 (Reps.set i h3 q)
theorem Reps.take : ∀ {ds : List D} {vs : List V} (n : Nat), Reps P w K H ds vs → Reps P w K H (ds.take n) (vs.take n)
  | _, _, 0, _ => by rw [List.take_zero, List.take_zero]; exact Reps.nil
  | [], _, n + 1, h => by simp only [Reps] at h; subst h; exact Reps.nil
  | d :: ds, _, n + 1, h => by
    simp only [Reps] at h
    obtain ⟨v, r, rfl, h2, h3⟩ := h
    exact Reps.cons h2 (Reps.take n h3)
theorem Reps.drop : ∀ {ds : List D} {vs : List V} (n : Nat), Reps P w K H ds vs → Reps P w K H (ds.drop n) (vs.drop n)
  | _, _, 0, h => h
  | [], _, n + 1, h => by simp only [Reps] at h; subst h; exact Reps.nil
  | d :: ds, _, n + 1, h => by
    simp only [Reps] at h
    obtain ⟨v, r, rfl, h2, h3⟩ := h
    exact Reps.drop n h3
theorem Reps.reverse : ∀ {ds : List D} {vs : List V}, Reps P w K H ds vs → Reps P w K H ds.reverse vs.reverse
  | [], _, h => by simp only [Reps] at h; subst h; exact Reps.nil
  | d :: ds, _, h => by
    simp only [Reps] at h
    obtain ⟨v, r, rfl, h2, h3⟩ := h
    rw [List.reverse_cons, List.reverse_cons]
    exact Reps.append (Reps.reverse h3) (Reps.cons h2 Reps.nil)
theorem Reps.mem {ds : List D} {vs : List V} {v : V} (h : Reps P w K H ds vs) (m : v ∈ vs) : ∃ d ∈ ds, Rep P w K H d v := by
  obtain ⟨i, hi, e⟩ := List.getElem_of_mem m
  obtain ⟨d, e1, e2⟩ := h.getV (i := i) (v := v) (by rw [List.getElem?_eq_getElem hi, e])
  exact ⟨d, List.mem_of_getElem? e1, e2⟩
end
end DL

set_option maxHeartbeats 2000000
namespace DL
open PySem L2

/-! ### what slots hold, what expressions hand back -/
inductive Own where
  | l (xs : List D)
  | i (ks : List Int) (vs : List D)
  | t (ks : List D) (vs : List D)
  | n (qs : List Addr) (ks : List Int) (cs : List (List D × List D))
@[reducible] def Own.d : Own → D
  | .l xs => .lst xs
  | .i ks vs => .dI ks vs
  | .t ks vs => .dT ks vs
  | .n _ ks cs => .dI ks (cs.map fun c => .dT c.1 c.2)
def Own.flat : Own → Bool
  | .n _ _ _ => false
  | _ => true
/-- the objects below it that are one's own, too -/
def Own.kids : Own → List Addr
  | .n qs _ _ => qs
  | _ => []
inductive Sl where
  | val (d : D)
  | own (c : Own)
  | io (xs : List D)
def Sl.mut : Sl → Bool
  | .val _ => false
  | .own _ => true
  | .io _ => true
def Sl.kids : Sl → List Addr
  | .own c => c.kids
  | _ => []
abbrev DSt := List (Option Sl)
inductive Rs where
  | v (d : D)
  | o (c : Own)
/-- as a value: an own list may be frozen at once -/
def Rs.d (r : Rs) (k : D → Prop) : Prop := match r with
  | .v d => k d
  | .o (.l xs) => k (.lst xs)
  | _ => False

/-! ### finite maps -/
section
variable {κ α : Type} [DecidableEq κ]
def lookL : List κ → List α → κ → Option α
  | a :: ks, b :: vs, k => if a = k then some b else lookL ks vs k
  | _, _, _ => none
def putKs (ks : List κ) (k : κ) : List κ := if k ∈ ks then ks else ks ++ [k]
def putVs (ks : List κ) (vs : List α) (k : κ) (v : α) : List α := if k ∈ ks then (ks.zip vs).map fun p => if p.1 = k then v else p.2 else vs ++ [v]
theorem lookL_isSome : ∀ (ks : List κ) (vs : List α) (k : κ), ks.length = vs.length → (lookL ks vs k).isSome = decide (k ∈ ks)
  | [], [], k, _ => by simp [lookL]
  | a :: ks, b :: vs, k, h => by
    by_cases e : a = k
    · simp [lookL, e]
    · have e' : ¬ k = a := fun q => e q.symm
      simp [lookL, e, e', lookL_isSome ks vs k (by simpa using h)]
theorem putVs_length (ks : List κ) (vs : List α) (k : κ) (v : α) (h : ks.length = vs.length) : (putKs ks k).length = (putVs ks vs k v).length := by
  unfold putKs putVs
  split
  · simp [h]
  · simp [h]
end

/-! ### heaps and states -/
structure Stp (A : Addr → Prop) (F H F' H' : Hp) : Prop where
  ex : Ex F F'
  kp : ∀ b o, H b = some o → ¬ A b → H' b = some o
  nw : ∀ a o, F' a = some o → F a ≠ none ∨ H a = none ∨ A a
theorem Stp.refl (A : Addr → Prop) (F H : Hp) : Stp A F H F H := ⟨Ex.refl F, fun _ _ h _ => h, fun a o h => .inl (by rw [h]; exact nofun)⟩
theorem Stp.trans {A A1 : Addr → Prop} {F H F1 H1 F2 H2 : Hp} (s1 : Stp A F H F1 H1) (s2 : Stp A1 F1 H1 F2 H2) (h : ∀ a, A1 a → A a ∨ H a = none) : Stp A F H F2 H2 where
  ex := s1.ex.trans s2.ex
  kp := fun b o e n => s2.kp b o (s1.kp b o e n) fun q => by
    rcases h b q with z | z
    · exact n z
    · rw [z] at e; cases e
  nw := fun a o e => by
    rcases s2.nw a o e with z | z | z
    · cases q : F1 a with
      | none => exact absurd q z
      | some u => exact s1.nw a u q
    · cases q : H a with
      | none => exact .inr (.inl rfl)
      | some u =>
        by_cases n : A a
        · exact .inr (.inr n)
        · rw [s1.kp a u q n] at z; cases z
    · rcases h a z with z | z
      · exact .inr (.inr z)
      · exact .inr (.inl z)
theorem Stp.mono {A A1 : Addr → Prop} {F H F' H' : Hp} (s : Stp A1 F H F' H') (h : ∀ a, A1 a → A a) : Stp A F H F' H' :=
  ⟨s.ex, fun b o e n => s.kp b o e fun z => n (h b z), fun a o e => (s.nw a o e).elim .inl fun z => z.elim (fun y => .inr (.inl y)) fun y => .inr (.inr (h a y))⟩

section
variable (P : Program) (w : World) (K : PySem.W.Frag)
/-- an object of one's own at p -/
def OwnAt (F H : Hp) (p : Addr) : Own → Prop
  | .l xs => ∃ vs, H p = some (.lst vs) ∧ Reps P w K F xs vs
  | .i ks ds => ∃ vs, H p = some (.dK (kvI ks vs)) ∧ ks.length = ds.length ∧ Reps P w K F ds vs
  | .t ks ds => ∃ as vs, H p = some (TO P w p (keys ks) as vs) ∧ ks.length = ds.length ∧ kOk ks = true ∧ Reps P w K F ks (as.map V.ref) ∧ Reps P w K F ds vs
  | .n qs ks cs => H p = some (.dK (kvI ks (qs.map V.ref))) ∧ ks.length = qs.length ∧ qs.length = cs.length ∧ qs.Nodup ∧ p ∉ qs ∧ ∀ (i : Nat) (q : Addr) (c : List D × List D), qs[i]? = some q → cs[i]? = some c →
      F q = none ∧ ∃ as vs, H q = some (TO P w q (keys c.1) as vs) ∧ c.1.length = c.2.length ∧ kOk c.1 = true ∧ Reps P w K F c.1 (as.map V.ref) ∧ Reps P w K F c.2 vs
def SlOk (A0 : Addr → Prop) (H0 F H : Hp) (v : V) : Sl → Prop
  | .val d => Rep P w K F d v
  | .own c => ∃ p, v = .ref p ∧ F p = none ∧ (A0 p ∨ H0 p = none) ∧ OwnAt P w K F H p c ∧ ∀ q ∈ c.kids, A0 q ∨ H0 q = none
  | .io xs => ∃ p, v = .ref p ∧ F p = none ∧ A0 p ∧ OwnAt P w K F H p (.l xs)
/-- what a slot owns -/
def Owns (σ : L2.St) (i : Nat) (s : Sl) (p : Addr) : Prop := (s.mut = true ∧ σ[i]? = some (some (V.ref p))) ∨ p ∈ s.kids
/-- the addresses of what is one's own -/
def ownA (σ : L2.St) (S : DSt) : Addr → Prop := fun p => ∃ (i : Nat) (s : Sl), S[i]? = some (some s) ∧ Owns σ i s p
structure Wd (A0 : Addr → Prop) (F0 H0 F H : Hp) (σ : L2.St) (S : DSt) : Prop where
  len : σ.length = S.length
  ex : Ex F H
  st : Stp A0 F0 H0 F H
  sl : ∀ (i : Nat) (s : Sl), S[i]? = some (some s) → ∃ v : V, σ[i]? = some (some v) ∧ SlOk P w K A0 H0 F H v s
  ap : ∀ (i j : Nat) (s t : Sl) (p : Addr), S[i]? = some (some s) → S[j]? = some (some t) → Owns σ i s p → Owns σ j t p → i = j
/-- what stands behind an expression: A, H the start's -/
def RsOk (A : Addr → Prop) (H F' H' : Hp) (σ : L2.St) (S' : DSt) (v : V) : Rs → Prop
  | .v d => Rep P w K F' d v
  | .o c => ∃ p, v = .ref p ∧ F' p = none ∧ OwnAt P w K F' H' p c ∧ ¬ ownA σ S' p ∧ (A p ∨ H p = none) ∧ ∀ q ∈ c.kids, ¬ ownA σ S' q ∧ (A q ∨ H q = none)
end

section
variable {P : Program} {w : World} {K : PySem.W.Frag} {A0 : Addr → Prop} {F0 H0 F H F' H' : Hp} {σ : L2.St} {S S' : DSt}
theorem OwnAt.mono {p : Addr} {c : Own} (h : OwnAt P w K F H p c) (e : Ex F F') (k : H' p = H p) (kk : ∀ q ∈ c.kids, H' q = H q ∧ (F q = none → F' q = none)) : OwnAt P w K F' H' p c := by
  cases c with
  | l xs => obtain ⟨vs, h1, h2⟩ := h; exact ⟨vs, k.trans h1, Reps.mono e _ _ h2⟩
  | i ks ds => obtain ⟨vs, h1, h2, h3⟩ := h; exact ⟨vs, k.trans h1, h2, Reps.mono e _ _ h3⟩
  | t ks ds => obtain ⟨as, vs, h1, h2, h3, h4, h5⟩ := h; exact ⟨as, vs, k.trans h1, h2, h3, Reps.mono e _ _ h4, Reps.mono e _ _ h5⟩
  | n qs ks cs =>
    obtain ⟨h1, h2, h3, h4, h5, h6⟩ := h
    refine ⟨k.trans h1, h2, h3, h4, h5, fun i q c e1 e2 => ?_⟩
    obtain ⟨h7, as, vs, h8, h9, h10, h11, h12⟩ := h6 i q c e1 e2
    obtain ⟨k1, k2⟩ := kk q (List.mem_of_getElem? e1)
    exact ⟨k2 h7, as, vs, k1.trans h8, h9, h10, Reps.mono e _ _ h11, Reps.mono e _ _ h12⟩
theorem OwnAt.some {p : Addr} {c : Own} (h : OwnAt P w K F H p c) : ∃ o, H p = some o := by
  cases c with
  | l xs => obtain ⟨vs, h1, h2⟩ := h; exact ⟨_, h1⟩
  | i ks ds => obtain ⟨vs, h1, h2, h3⟩ := h; exact ⟨_, h1⟩
  | t ks ds => obtain ⟨as, vs, h1, h2, h3, h4, h5⟩ := h; exact ⟨_, h1⟩
  | n qs ks cs => exact ⟨_, h.1⟩
theorem OwnAt.kid {p q : Addr} {c : Own} (h : OwnAt P w K F H p c) (hq : q ∈ c.kids) : F q = none ∧ ∃ o, H q = Option.some o := by
  cases c with
  | l xs => cases hq
  | i ks ds => cases hq
  | t ks ds => cases hq
  | n qs ks cs =>
    obtain ⟨h1, h2, h3, h4, h5, h6⟩ := h
    obtain ⟨i, hi, e⟩ := List.getElem_of_mem (show q ∈ qs from hq)
    have e1 : qs[i]? = Option.some q := by rw [List.getElem?_eq_getElem hi, e]
    have e2 : cs[i]? = Option.some (cs[i]'(by omega)) := List.getElem?_eq_getElem _
    obtain ⟨h7, as, vs, h8, _⟩ := h6 i q _ e1 e2
    exact ⟨h7, _, h8⟩
theorem Wd.own (x : Wd P w K A0 F0 H0 F H σ S) {p : Addr} (h : ownA σ S p) : F p = none ∧ (A0 p ∨ H0 p = none) ∧ ∃ o, H p = some o := by
  obtain ⟨i, s, e, m⟩ := h
  obtain ⟨v, e1, ok⟩ := x.sl i s e
  rcases m with ⟨m, q⟩ | m
  · rw [q] at e1; cases e1
    cases s with
    | val d => cases m
    | own c => obtain ⟨p', z, h1, h2, h3, _⟩ := ok; cases z; exact ⟨h1, h2, h3.some⟩
    | io xs => obtain ⟨p', z, h1, h2, h3⟩ := ok; cases z; exact ⟨h1, .inl h2, h3.some⟩
  · cases s with
    | val d => cases m
    | own c => obtain ⟨p', z, h1, h2, h3, h4⟩ := ok; exact ⟨(OwnAt.kid h3 m).1, h4 p m, (OwnAt.kid h3 m).2⟩
    | io xs => cases m
/-- new frozen things; what is one's own stays -/
theorem Wd.step (x : Wd P w K A0 F0 H0 F H σ S) (ex : Ex F' H') (s : Stp (fun _ => False) F H F' H') : Wd P w K A0 F0 H0 F' H' σ S where
  len := x.len
  ex := ex
  st := x.st.trans s fun _ z => z.elim
  sl := fun i s' e => by
    obtain ⟨v, e1, ok⟩ := x.sl i s' e
    have kp : ∀ p : Addr, F p = none → (∃ o, H p = some o) → F' p = none ∧ H' p = H p := fun p hf ⟨o, ho⟩ => by
      refine ⟨?_, by rw [ho]; exact s.kp p o ho id⟩
      cases q : F' p with
      | none => rfl
      | some u =>
        rcases s.nw p u q with z | z | z
        · exact absurd hf z
        · rw [ho] at z; cases z
        · exact z.elim
    refine ⟨v, e1, ?_⟩
    cases s' with
    | val d => exact Rep.mono s.ex _ _ ok
    | own c =>
      obtain ⟨p, rfl, h1, h2, h3, h4⟩ := ok
      obtain ⟨k1, k2⟩ := kp p h1 h3.some
      refine ⟨p, rfl, k1, h2, h3.mono s.ex k2 fun q hq => ?_, h4⟩
      obtain ⟨k3, k4⟩ := kp q (OwnAt.kid h3 hq).1 (OwnAt.kid h3 hq).2
      exact ⟨k4, fun _ => k3⟩
    | io xs =>
      obtain ⟨p, rfl, h1, h2, h3⟩ := ok
      obtain ⟨k1, k2⟩ := kp p h1 h3.some
      exact ⟨p, rfl, k1, h2, h3.mono s.ex k2 fun q hq => nomatch hq⟩
  ap := x.ap
/-- one new object, frozen -/
theorem Wd.add (x : Wd P w K A0 F0 H0 F H σ S) {p : Addr} {o : HO} (hp : H p = none) : Wd P w K A0 F0 H0 (upd F p o) (upd H p o) σ S :=
  x.step (Ex.upd2 x.ex) ⟨Ex.new (x.ex.free hp), fun b u e _ => by rw [upd_ne (ne_of_none e hp)]; exact e, fun a u e => by
    by_cases c : a = p
    · subst c; exact .inr (.inl hp)
    · rw [upd_ne c] at e; exact .inl (by rw [e]; exact nofun)⟩
/-- one new object, not frozen (yet) -/
theorem Wd.addH (x : Wd P w K A0 F0 H0 F H σ S) {p : Addr} {o : HO} (hp : H p = none) : Wd P w K A0 F0 H0 F (upd H p o) σ S :=
  x.step (x.ex.trans (Ex.new hp)) ⟨Ex.refl F, fun b u e _ => by rw [upd_ne (ne_of_none e hp)]; exact e, fun a u e => .inl (by rw [e]; exact nofun)⟩
theorem stp_add {A : Addr → Prop} {p : Addr} {o : HO} (hp : H p = none) (hf : F p = none) : Stp A F H (upd F p o) (upd H p o) :=
  ⟨Ex.new hf, fun b u e _ => by rw [upd_ne (ne_of_none e hp)]; exact e, fun a u e => by
    by_cases c : a = p
    · subst c; exact .inr (.inl hp)
    · rw [upd_ne c] at e; exact .inl (by rw [e]; exact nofun)⟩
theorem stp_addH {A : Addr → Prop} {p : Addr} {o : HO} (hp : H p = none) : Stp A F H F (upd H p o) :=
  ⟨Ex.refl F, fun b u e _ => by rw [upd_ne (ne_of_none e hp)]; exact e, fun a u e => .inl (by rw [e]; exact nofun)⟩
/-- a temporary list is frozen -/
theorem Wd.frz (x : Wd P w K A0 F0 H0 F H σ S) {p : Addr} {vs : List V} (hf : F p = none) (hp : H p = some (.lst vs)) (no : ¬ ownA σ S p) (hn : A0 p ∨ H0 p = none) : Wd P w K A0 F0 H0 (upd F p (.lst vs)) H σ S where
  len := x.len
  ex := x.ex.into hp
  st := x.st.trans (A1 := fun a => a = p) ⟨Ex.new hf, fun _ _ h _ => h, fun a u e => by
    by_cases c : a = p
    · exact .inr (.inr c)
    · rw [upd_ne c] at e; exact .inl (by rw [e]; exact nofun)⟩ fun a z => by subst z; exact hn
  sl := fun i s' e => by
    obtain ⟨v, e1, ok⟩ := x.sl i s' e
    refine ⟨v, e1, ?_⟩
    have ex1 : Ex F (upd F p (.lst vs)) := Ex.new hf
    have ne : ∀ q, v = .ref q → s'.mut = true → q ≠ p := fun q z hm c => no ⟨i, s', e, .inl ⟨hm, by rw [e1, z, c]⟩⟩
    have nk : ∀ q ∈ s'.kids, q ≠ p := fun q hq c => no ⟨i, s', e, .inr (c ▸ hq)⟩
    cases s' with
    | val d => exact Rep.mono ex1 _ _ ok
    | own c =>
      obtain ⟨q, rfl, h1, h2, h3, h4⟩ := ok
      exact ⟨q, rfl, by rw [upd_ne (ne q rfl rfl)]; exact h1, h2, h3.mono ex1 rfl fun r hr => ⟨rfl, fun z => by rw [upd_ne (nk r hr)]; exact z⟩, h4⟩
    | io xs =>
      obtain ⟨q, rfl, h1, h2, h3⟩ := ok
      exact ⟨q, rfl, by rw [upd_ne (ne q rfl rfl)]; exact h1, h2, h3.mono ex1 rfl fun r hr => nomatch hr⟩
  ap := x.ap
end
end DL

namespace DL
/-! ### sorting, plain -/
def insI (x : Int) : List Int → List Int
  | [] => [x]
  | y :: r => if x ≤ y then x :: y :: r else y :: insI x r
def sortI : List Int → List Int
  | [] => []
  | x :: r => insI x (sortI r)
def pLe (p q : Int × Int) : Bool := decide (p.1 < q.1 ∨ (p.1 = q.1 ∧ p.2 ≤ q.2))
def insP (x : Int × Int) : List (Int × Int) → List (Int × Int)
  | [] => [x]
  | y :: r => if pLe x y then x :: y :: r else y :: insP x r
def sortP : List (Int × Int) → List (Int × Int)
  | [] => []
  | x :: r => insP x (sortP r)
/-- without repetitions -/
def uniq {α : Type} [DecidableEq α] : List α → List α
  | [] => []
  | x :: r => if x ∈ r then uniq r else x :: uniq r
section
variable {α : Type} [DecidableEq α]
theorem mem_uniq {x : α} : ∀ {l : List α}, x ∈ uniq l ↔ x ∈ l
  | [] => Iff.rfl
  | y :: r => by
    simp only [uniq]
    split
    · rename_i h
      rw [mem_uniq, List.mem_cons]
      constructor
      · exact .inr
      · rintro (rfl | h'); exact h; exact h'
    · rw [List.mem_cons, List.mem_cons, mem_uniq]
theorem nodup_uniq : ∀ {l : List α}, (uniq l).Nodup
  | [] => List.nodup_nil
  | y :: r => by
    simp only [uniq]
    split
    · exact nodup_uniq
    · rename_i h
      exact List.nodup_cons.mpr ⟨fun q => h (mem_uniq.mp q), nodup_uniq⟩
/-- a list without repetitions within another one is no longer -/
theorem nodup_le : ∀ {l m : List α}, l.Nodup → (∀ x ∈ l, x ∈ m) → l.length ≤ m.length
  | [], m, _, _ => Nat.zero_le _
  | x :: l, m, h, s => by
    have hx : x ∈ m := s x List.mem_cons_self
    have := nodup_le (l := l) (m := m.erase x) (List.nodup_cons.mp h).2 fun y hy => by
      have ne : y ≠ x := fun e => (List.nodup_cons.mp h).1 (e ▸ hy)
      exact (List.mem_erase_of_ne ne).mpr (s y (List.mem_cons_of_mem _ hy))
    rw [List.length_erase_of_mem hx] at this
    have hp : 0 < m.length := List.length_pos_of_mem hx
    simp only [List.length_cons]
    omega
end
theorem mem_insP {x y : Int × Int} : ∀ {l : List (Int × Int)}, x ∈ insP y l ↔ x = y ∨ x ∈ l
  | [] => by simp [insP]
  | z :: r => by
    simp only [insP]
    split
    · simp
    · rw [List.mem_cons, mem_insP, List.mem_cons]
      constructor
      · rintro (h | h | h) <;> simp [h]
      · rintro (h | h | h) <;> simp [h]
theorem mem_sortP {x : Int × Int} : ∀ {l : List (Int × Int)}, x ∈ sortP l ↔ x ∈ l
  | [] => Iff.rfl
  | z :: r => by rw [sortP, mem_insP, mem_sortP, List.mem_cons]
theorem mem_insI {x y : Int} : ∀ {l : List Int}, x ∈ insI y l ↔ x = y ∨ x ∈ l
  | [] => by simp [insI]
  | z :: r => by
    simp only [insI]
    split
    · simp
    · rw [List.mem_cons, mem_insI, List.mem_cons]
      constructor
      · rintro (h | h | h) <;> simp [h]
      · rintro (h | h | h) <;> simp [h]
theorem mem_sortI {x : Int} : ∀ {l : List Int}, x ∈ sortI l ↔ x ∈ l
  | [] => Iff.rfl
  | z :: r => by rw [sortI, mem_insI, mem_sortI, List.mem_cons]
/-- strictly ascending -/
def pLt (p q : Int × Int) : Prop := p.1 < q.1 ∨ (p.1 = q.1 ∧ p.2 < q.2)
abbrev AscP (l : List (Int × Int)) : Prop := l.Pairwise pLt
abbrev AscI (l : List Int) : Prop := l.Pairwise (· < ·)
theorem asc_insP {x : Int × Int} : ∀ {l : List (Int × Int)}, AscP l → x ∉ l → AscP (insP x l)
  | [], _, _ => by simp [insP]
  | y :: r, h, hn => by
    have h' := List.pairwise_cons.mp h
    simp only [insP]
    split
    · rename_i hl
      refine List.pairwise_cons.mpr ⟨fun z hz => ?_, h⟩
      have ne : x ≠ y := fun e => hn (e ▸ List.mem_cons_self)
      have hxy : pLt x y := by
        simp only [pLe, decide_eq_true_eq] at hl
        rcases hl with hl | ⟨h1, h2⟩
        · exact .inl hl
        · refine .inr ⟨h1, ?_⟩
          have : x.2 ≠ y.2 := fun e => ne (Prod.ext h1 e)
          omega
      rcases List.mem_cons.mp hz with rfl | hz
      · exact hxy
      · have := h'.1 z hz
        unfold pLt at *
        omega
    · rename_i hl
      refine List.pairwise_cons.mpr ⟨fun z hz => ?_, asc_insP h'.2 fun q => hn (List.mem_cons_of_mem _ q)⟩
      rcases mem_insP.mp hz with rfl | hz
      · simp only [pLe, decide_eq_true_eq] at hl
        unfold pLt
        omega
      · exact h'.1 z hz
theorem asc_sortP : ∀ {l : List (Int × Int)}, l.Nodup → AscP (sortP l)
  | [], _ => List.Pairwise.nil
  | x :: r, h => asc_insP (asc_sortP (List.nodup_cons.mp h).2) fun q => (List.nodup_cons.mp h).1 (mem_sortP.mp q)
theorem asc_insI {x : Int} : ∀ {l : List Int}, AscI l → x ∉ l → AscI (insI x l)
  | [], _, _ => by simp [insI]
  | y :: r, h, hn => by
    have h' := List.pairwise_cons.mp h
    simp only [insI]
    split
    · rename_i hl
      refine List.pairwise_cons.mpr ⟨fun z hz => ?_, h⟩
      have ne : x ≠ y := fun e => hn (e ▸ List.mem_cons_self)
      rcases List.mem_cons.mp hz with rfl | hz
      · omega
      · have := h'.1 z hz
        omega
    · rename_i hl
      refine List.pairwise_cons.mpr ⟨fun z hz => ?_, asc_insI h'.2 fun q => hn (List.mem_cons_of_mem _ q)⟩
      rcases mem_insI.mp hz with rfl | hz
      · omega
      · exact h'.1 z hz
theorem asc_sortI : ∀ {l : List Int}, l.Nodup → AscI (sortI l)
  | [], _ => List.Pairwise.nil
  | x :: r, h => asc_insI (asc_sortI (List.nodup_cons.mp h).2) fun q => (List.nodup_cons.mp h).1 (mem_sortI.mp q)
/-- two ascending lists with the same members are the same -/
theorem asc_ext {α : Type} {r : α → α → Prop} (irr : ∀ a, ¬ r a a) (asy : ∀ a b, r a b → ¬ r b a) : ∀ {l m : List α}, l.Pairwise r → m.Pairwise r → (∀ x, x ∈ l ↔ x ∈ m) → l = m
  | [], [], _, _, _ => rfl
  | [], y :: m, _, _, h => absurd ((h y).mpr List.mem_cons_self) List.not_mem_nil
  | x :: l, [], _, _, h => absurd ((h x).mp List.mem_cons_self) List.not_mem_nil
  | x :: l, y :: m, h1, h2, h => by
    have a := List.pairwise_cons.mp h1
    have b := List.pairwise_cons.mp h2
    have e : x = y := by
      rcases List.mem_cons.mp ((h x).mp List.mem_cons_self) with e | hx
      · exact e
      · rcases List.mem_cons.mp ((h y).mpr List.mem_cons_self) with e | hy
        · exact e.symm
        · exact absurd (a.1 y hy) (asy _ _ (b.1 x hx))
    subst e
    congr 1
    refine asc_ext irr asy a.2 b.2 fun z => ⟨fun hz => ?_, fun hz => ?_⟩
    · rcases List.mem_cons.mp ((h z).mp (List.mem_cons_of_mem _ hz)) with rfl | q
      · exact absurd (a.1 _ hz) (irr _)
      · exact q
    · rcases List.mem_cons.mp ((h z).mpr (List.mem_cons_of_mem _ hz)) with rfl | q
      · exact absurd (b.1 _ hz) (irr _)
      · exact q
theorem ascP_ext {l m : List (Int × Int)} (h1 : AscP l) (h2 : AscP m) (h : ∀ x, x ∈ l ↔ x ∈ m) : l = m :=
  asc_ext (r := pLt) (fun a => by unfold pLt; omega) (fun a b => by unfold pLt; omega) h1 h2 h
theorem ascI_ext {l m : List Int} (h1 : AscI l) (h2 : AscI m) (h : ∀ x, x ∈ l ↔ x ∈ m) : l = m :=
  asc_ext (r := fun (a b : Int) => a < b) (fun a => by omega) (fun a b => by omega) h1 h2 h
/-- sorted(set(l)) -/
def ssP (l : List (Int × Int)) : List (Int × Int) := sortP (uniq l)
def ssI (l : List Int) : List Int := sortI (uniq l)
theorem mem_ssP {x : Int × Int} {l : List (Int × Int)} : x ∈ ssP l ↔ x ∈ l := by rw [ssP, mem_sortP, mem_uniq]
theorem mem_ssI {x : Int} {l : List Int} : x ∈ ssI l ↔ x ∈ l := by rw [ssI, mem_sortI, mem_uniq]
theorem asc_ssP (l : List (Int × Int)) : AscP (ssP l) := asc_sortP nodup_uniq
theorem asc_ssI (l : List Int) : AscI (ssI l) := asc_sortI nodup_uniq
theorem asc_nodup {α : Type} {r : α → α → Prop} (irr : ∀ a, ¬ r a a) {l : List α} (h : l.Pairwise r) : l.Nodup :=
  List.Pairwise.imp (fun {a b} (hr : r a b) (e : a = b) => irr a (by rw [← e] at hr; exact hr)) h
theorem ascP_nodup {l : List (Int × Int)} (h : AscP l) : l.Nodup := asc_nodup (r := pLt) (fun a => by unfold pLt; omega) h
theorem ascI_nodup {l : List Int} (h : AscI l) : l.Nodup := asc_nodup (r := fun (a b : Int) => a < b) (fun a => by omega) h
theorem ssP_of {l m : List (Int × Int)} (h : AscP m) (e : ∀ x, x ∈ l ↔ x ∈ m) : ssP l = m := ascP_ext (asc_ssP l) h fun x => mem_ssP.trans (e x)
theorem ssI_of {l m : List Int} (h : AscI m) (e : ∀ x, x ∈ l ↔ x ∈ m) : ssI l = m := ascI_ext (asc_ssI l) h fun x => mem_ssI.trans (e x)
theorem ssP_congr {l m : List (Int × Int)} (e : ∀ x, x ∈ l ↔ x ∈ m) : ssP l = ssP m := ssP_of (asc_ssP m) fun x => (e x).trans mem_ssP.symm
/-! ### ranges -/
/-- range(a, b) -/
def rg (a b : Int) : List Int := (List.range (b - a).toNat).map fun (i : Nat) => a + (i : Int)
theorem mem_rg {a b x : Int} : x ∈ rg a b ↔ a ≤ x ∧ x < b := by
  simp only [rg, List.mem_map, List.mem_range]
  constructor
  · rintro ⟨i, hi, rfl⟩; omega
  · rintro ⟨h1, h2⟩; exact ⟨(x - a).toNat, by omega, by omega⟩
theorem rg_length (a b : Int) : (rg a b).length = (b - a).toNat := by simp [rg]
theorem asc_rg (a b : Int) : AscI (rg a b) := by
  unfold rg AscI
  rw [List.pairwise_map]
  exact List.Pairwise.imp (fun {i j} (h : i < j) => by omega) List.pairwise_lt_range

end DL

set_option maxHeartbeats 2000000
namespace DL
open PySem L2

/-! ### the small language -/
inductive Op2 | add | sub | mul | fdiv | mod | pow
  deriving DecidableEq
inductive Cp | eq | ne | lt | le | gt | ge | is | isNot | in_ | notIn
  deriving DecidableEq
inductive Bi | len | sorted | sset | tuple | list | sum | min1 | max1 | min2 | max2 | abs | all | any | int | bool | str | listR1 | listR2 | tupR1 | tupR2 | dict
  deriving DecidableEq
inductive Tg | one (i : Nat) | many (is : List Nat)
mutual
inductive E where
  | var (i : Nat) | mv (i : Nat) | io (i : Nat)
  | int (i : Int) | bl (b : Bool) | non | str (s : Str)
  | cst (x : Str) (i : Int)
  | tup (es : Es) | lst (es : Es)
  | bin (op : Op2) (a b : E) | neg (a : E) | not (a : E)
  | cmp (op : Cp) (a b : E) | chain (o1 o2 : Cp) (a b c : E)
  | and (a b : E) | or (a b : E) | ite (c a b : E)
  | idx (a b : E) | ixo (i : Nat) (b : E)
  | slL (a lo : E) | slU (a hi : E) | slLU (a lo hi : E) | slR (a : E) | sl2 (a : E) | sl12 (a : E)
  | call (f : Str) (es : Es) | bi (b : Bi) (es : Es)
  | isi (e : E) (ty : String)
  | get (d k x : E) | getE (d k : E) | geto (i : Nat) (k x : E)
  | cmpo (op : Cp) (i : Nat) (b : E)
  | ino (neg : Bool) (k : E) (i : Nat) | leno (i : Nat) | nemp (e : E)
  | dNew (t : Bool) | dOne (t : Bool) (k v : E) | frz (e : E)
  | comp (elt : E) (own : List (Str × Nat)) (tg : Tg) (it : It) (c : E)
  | comp2 (elt : E) (own : List (Str × Nat)) (tg : Tg) (it : It) (vs2 : List Nat) (tg2 : Tg) (it2 : It)
  | callI (fs : List Str) (ix : E) (es : Es)
inductive Es where
  | nil | cons (e : E) (r : Es)
inductive It where
  | seq (e : E) | rng1 (e : E) | rng2 (a b : E) | rngD (a b : E) | enum (e : E) | zip (a b : E)
end
mutual
inductive S where
  | asg (i : Nat) (e : E) | asgT (is : List Nat) (e : E) | par (is : List Nat) (es : Es)
  | setIx (i : Nat) (k v : E) | app (i : Nat) (e : E) | pop (i : Nat)
  | ite (c : E) (a b : Ss) | for_ (tg : Tg) (it : It) (body : Ss) | while_ (c : E) (body : Ss)
  | ret (e : E) | retN | ex (e : E) | raise (c : Str) | pass
  | tryN (x : Str) (i : Nat) (body : Ss)
  | nest (f e k h w : Nat)
inductive Ss where
  | nil | cons (s : S) (r : Ss)
end

/-! ### operations on data -/
def asB (d : D) (k : Bool → Prop) : Prop := match d with | .bl b => k b | _ => False
def asI (d : D) (k : Int → Prop) : Prop := match d with | .int i => k i | _ => False
/-- may be compared by == -/
def EqOk (d : D) : Prop := d.flat = true ∧ d.py.depth ≤ 64
def mulOk (i j : Int) : Prop := CMul i j ∨ CMulW i j
def divOk (i j : Int) : Prop := CDiv i j ∨ CDivW i j
def binD (op : Op2) (a b : D) (k : Rs → Prop) : Prop := match op, a, b with
  | .add, .int i, .int j => k (.v (.int (i + j)))
  | .add, .str x, .str y => x.length + y.length ≤ sizeLine ∧ k (.v (.str (x ++ y)))
  | .add, .lst x, .lst y => x.length + y.length ≤ sizeLine ∧ k (.o (.l (x ++ y)))
  | .add, .tup x, .tup y => x.length + y.length ≤ sizeLine ∧ k (.v (.tup (x ++ y)))
  | .sub, .int i, .int j => k (.v (.int (i - j)))
  | .mul, .int i, .int j => mulOk i j ∧ k (.v (.int (i * j)))
  | .mul, .lst x, .int j => (-(2 ^ 63) ≤ j ∧ j < 2 ^ 63) ∧ x.length * j.toNat ≤ sizeLine ∧ k (.o (.l (List.replicate j.toNat x).flatten))
  | .mul, .tup x, .int j => (x ≠ [] ∧ 2 ≤ j ∧ j ≤ 1000 ∧ x.length ≤ 1000) ∧ k (.v (.tup (List.replicate j.toNat x).flatten))
  | .fdiv, .int i, .int j => divOk i j ∧ k (.v (.int (i / j)))
  | .mod, .int i, .int j => 0 < j ∧ k (.v (.int (i % j)))
  | .pow, .int i, .int j => CPow i j ∧ k (.v (.int (i ^ j.toNat)))
  | _, _, _ => False
def isNonD : D → Bool | .non => true | _ => false
def inD0 (neg : Bool) (x s : D) (k : Bool → Prop) : Prop := match s with
  | .lst ys => EqOk x ∧ EqOk s ∧ k (if neg then !(pys ys).any fun z => PyData.eqv z x.py else (pys ys).any fun z => PyData.eqv z x.py)
  | .tup ys => EqOk x ∧ EqOk s ∧ k (if neg then !(pys ys).any fun z => PyData.eqv z x.py else (pys ys).any fun z => PyData.eqv z x.py)
  | .dI ks _ => asI x fun i => k (if neg then !decide (i ∈ ks) else decide (i ∈ ks))
  | .dT ks _ => kOk1 x = true ∧ k (if neg then !decide (x.key ∈ keys ks) else decide (x.key ∈ keys ks))
  | _ => False
structure inD (neg : Bool) (x s : D) (k : Bool → Prop) : Prop where
  h : inD0 neg x s k
theorem inD_eq (neg : Bool) (x s : D) (k : Bool → Prop) : inD neg x s k = inD0 neg x s k := propext ⟨fun q => q.h, fun q => ⟨q⟩⟩
def cmpD0 (op : Cp) (a b : D) (k : Bool → Prop) : Prop := match op with
  | .eq => EqOk a ∧ EqOk b ∧ k (PyData.eqv a.py b.py)
  | .ne => EqOk a ∧ EqOk b ∧ k (!PyData.eqv a.py b.py)
  | .lt => asI a fun i => asI b fun j => k (decide (i < j))
  | .le => asI a fun i => asI b fun j => k (decide (i ≤ j))
  | .gt => asI a fun i => asI b fun j => k (decide (j < i))
  | .ge => asI a fun i => asI b fun j => k (decide (j ≤ i))
  | .is => match b with
    | .non => k (isNonD a)
    | .bl y => asB a fun x => k (decide (x = y))
    | _ => False
  | .isNot => match b with
    | .non => k (!isNonD a)
    | .bl y => asB a fun x => k (!decide (x = y))
    | _ => False
  | .in_ => inD false a b k
  | .notIn => inD true a b k
structure cmpD (op : Cp) (a b : D) (k : Bool → Prop) : Prop where
  h : cmpD0 op a b k
theorem cmpD_eq (op : Cp) (a b : D) (k : Bool → Prop) : cmpD op a b k = cmpD0 op a b k := propext ⟨fun q => q.h, fun q => ⟨q⟩⟩
def orF (o : Option D) (k : D → Prop) : Prop := match o with | some d => k d | none => False
def idxD0 (a b : D) (k : D → Prop) : Prop := match a, b with
  | .lst xs, .int i => orF (atI xs i) k
  | .scr xs, .int i => orF (atI xs i) k
  | .tup xs, .int i => orF (atI xs i) k
  | .str s, .int i => s.length ≤ sizeLine ∧ (match atI s.cps.toList i with | some c => k (.str ⟨#[c]⟩) | none => False)
  | .dI ks vs, .int i => orF (lookL ks vs i) k
  | .dT ks vs, .tup x => kOk1 (.tup x) = true ∧ orF (lookL (keys ks) vs (D.tup x).key) k
  | _, _ => False
structure idxD (a b : D) (k : D → Prop) : Prop where
  h : idxD0 a b k
theorem idxD_eq (a b : D) (k : D → Prop) : idxD a b k = idxD0 a b k := propext ⟨fun q => q.h, fun q => ⟨q⟩⟩
def cutD (xs : List D) (lo hi : Option Int) : List D := (xs.drop (HT.sIx xs.length 0 lo)).take (HT.sIx xs.length xs.length hi - HT.sIx xs.length 0 lo)
def sliceD0 (a : D) (lo hi : Option Int) (k : Rs → Prop) : Prop := match a with
  | .lst xs => k (.o (.l (cutD xs lo hi)))
  | .tup xs => k (.v (.tup (cutD xs lo hi)))
  | _ => False
structure sliceD (a : D) (lo hi : Option Int) (k : Rs → Prop) : Prop where
  h : sliceD0 a lo hi k
theorem sliceD_eq (a : D) (lo hi : Option Int) (k : Rs → Prop) : sliceD a lo hi k = sliceD0 a lo hi k := propext ⟨fun q => q.h, fun q => ⟨q⟩⟩
/-- every other item -/
def alt : List D → List D
  | [] => []
  | [x] => [x]
  | x :: _ :: r => x :: alt r
def getD_0 (d k x : D) (q : D → Prop) : Prop := match d, k with
  | .dI ks vs, .int i => q ((lookL ks vs i).getD x)
  | .dT ks vs, .tup y => kOk1 (.tup y) = true ∧ q ((lookL (keys ks) vs (D.tup y).key).getD x)
  | _, _ => False
structure getD_ (d k x : D) (q : D → Prop) : Prop where
  h : getD_0 d k x q
theorem getD__eq (d k x : D) (q : D → Prop) : getD_ d k x q = getD_0 d k x q := propext ⟨fun q => q.h, fun q => ⟨q⟩⟩
def intsD : List D → Option (List Int)
  | [] => some []
  | .int i :: r => (intsD r).map (i :: ·)
  | _ :: _ => none
def bolsD : List D → Option (List Bool)
  | [] => some []
  | .bl i :: r => (bolsD r).map (i :: ·)
  | _ :: _ => none
/-- tuples of two ints in [0, 64) -/
def pairsD : List D → Option (List (Int × Int))
  | [] => some []
  | .tup [.int i, .int j] :: r => (pairsD r).map ((i, j) :: ·)
  | _ :: _ => none
abbrev pD (p : Int × Int) : D := .tup [.int p.1, .int p.2]
abbrev iD (i : Int) : D := .int i
def rngD (a b : Int) : List D := (List.range (b - a).toNat).map fun (i : Nat) => D.int (a + (i : Int))
def rngOk (a b : Int) : Prop := -(2 ^ 62) ≤ a ∧ a < 2 ^ 62 ∧ -(2 ^ 62) ≤ b ∧ b < 2 ^ 62
def sortedD0 (d : D) (k : Rs → Prop) : Prop := match d with
  | .lst xs => (match intsD xs with
    | some ns => k (.o (.l ((sortI ns).map iD)))
    | none => match pairsD xs with
      | some ps => k (.o (.l ((sortP ps).map pD)))
      | none => False)
  | .dI ks _ => k (.o (.l ((sortI ks).map iD)))
  | .dT ks _ => (match pairsD ks with
      | some ps => k (.o (.l ((sortP ps).map pD)))
      | none => False)
  | _ => False
structure sortedD (d : D) (k : Rs → Prop) : Prop where
  h : sortedD0 d k
theorem sortedD_eq (d : D) (k : Rs → Prop) : sortedD d k = sortedD0 d k := propext ⟨fun q => q.h, fun q => ⟨q⟩⟩
def ssetD0 (d : D) (k : Rs → Prop) : Prop := match d with
  | .lst xs => (match intsD xs with
    | some ns => ns.length < 4000 ∧ k (.o (.l ((sortI (uniq ns)).map iD)))
    | none => match pairsD xs with
      | some ps => (uniq ps).length < 63 ∧ k (.o (.l ((sortP (uniq ps)).map pD)))
      | none => False)
  | _ => False
structure ssetD (d : D) (k : Rs → Prop) : Prop where
  h : ssetD0 d k
theorem ssetD_eq (d : D) (k : Rs → Prop) : ssetD d k = ssetD0 d k := propext ⟨fun q => q.h, fun q => ⟨q⟩⟩
def lenD (d : D) (k : Int → Prop) : Prop := match d with
  | .scr xs => k xs.length
  | .lst xs => k xs.length
  | .tup xs => k xs.length
  | .dI ks _ => k ks.length
  | .dT ks _ => k ks.length
  | .str s => s.length ≤ sizeLine ∧ k s.length
  | _ => False
def biD (b : Bi) (ds : List D) (k : Rs → Prop) : Prop := match b, ds with
  | .len, [d] => lenD d fun n => k (.v (.int n))
  | .sorted, [d] => sortedD d k
  | .sset, [d] => ssetD d k
  | .tuple, [.lst xs] => k (.v (.tup xs))
  | .tuple, [.tup xs] => k (.v (.tup xs))
  | .list, [.lst xs] => k (.o (.l xs))
  | .list, [.tup xs] => k (.o (.l xs))
  | .list, [.dI ks _] => k (.o (.l (ks.map iD)))
  | .sum, [.lst xs] => (match intsD xs with | some ns => k (.v (.int ns.sum)) | none => False)
  | .sum, [.tup xs] => (match intsD xs with | some ns => k (.v (.int ns.sum)) | none => False)
  | .min1, [.lst xs] => (match intsD xs with | some ns => 0 < ns.length ∧ ∀ m, m ∈ ns → (∀ y ∈ ns, m ≤ y) → k (.v (.int m)) | none => False)
  | .max1, [.lst xs] => (match intsD xs with | some ns => 0 < ns.length ∧ ∀ m, m ∈ ns → (∀ y ∈ ns, y ≤ m) → k (.v (.int m)) | none => False)
  | .min2, [.int i, .int j] => k (.v (.int (if j < i then j else i)))
  | .max2, [.int i, .int j] => k (.v (.int (if j > i then j else i)))
  | .abs, [.int i] => k (.v (.int (if i < 0 then -i else i)))
  | .all, [.lst xs] => (match bolsD xs with | some bs => k (.v (.bl (bs.all id))) | none => False)
  | .any, [.lst xs] => (match bolsD xs with | some bs => k (.v (.bl (bs.any id))) | none => False)
  | .int, [.bl b] => k (.v (.int (if b then 1 else 0)))
  | .bool, [.bl b] => k (.v (.bl b))
  | .listR1, [.int n] => RgOk 0 n ∧ k (.o (.l (rngD 0 n)))
  | .listR2, [.int a, .int b] => RgOk a b ∧ k (.o (.l (rngD a b)))
  | .tupR1, [.int n] => RgOk 0 n ∧ k (.v (.tup (rngD 0 n)))
  | .tupR2, [.int a, .int b] => RgOk a b ∧ k (.v (.tup (rngD a b)))
  | _, _ => False
/-- the type of a value -/
def D.ty : D → String
  | .non => "NoneType" | .bl _ => "bool" | .int _ => "int" | .str _ => "str" | .tup _ => "tuple" | .lst _ => "list" | .scr _ => "list" | .dI _ _ => "dict" | .dT _ _ => "dict"
def D.odd : D → Bool
  | .scr _ => true | .dT _ _ => true | _ => false
def empD0 (d : D) (k : Bool → Prop) : Prop := match d with
  | .dI ks _ => k (!ks.isEmpty)
  | .dT ks _ => k (!ks.isEmpty)
  | _ => False
structure empD (d : D) (k : Bool → Prop) : Prop where
  h : empD0 d k
theorem empD_eq (d : D) (k : Bool → Prop) : empD d k = empD0 d k := propext ⟨fun q => q.h, fun q => ⟨q⟩⟩
def isiD0 (d : D) (ty : String) (k : Bool → Prop) : Prop := d.odd = false ∧ match kitB d.ty ty with | some b => k b | none => False
structure isiD (d : D) (ty : String) (k : Bool → Prop) : Prop where
  h : isiD0 d ty k
theorem isiD_eq (d : D) (ty : String) (k : Bool → Prop) : isiD d ty k = isiD0 d ty k := propext ⟨fun q => q.h, fun q => ⟨q⟩⟩

/-! ### slots -/
def rdV (s : DSt) (i : Nat) (P : DSt → Rs → Prop) : Prop := match s[i]? with
  | some (some (.val d)) => P s (.v d)
  | some (some (.own (.n _ _ _))) => False
  | some (some (.own c)) => P (s.set i (some (.val c.d))) (.v c.d)
  | _ => False
def mvV (s : DSt) (i : Nat) (P : DSt → Rs → Prop) : Prop := match s[i]? with
  | some (some (.val d)) => P s (.v d)
  | some (some (.own c)) => P (s.set i none) (.o c)
  | _ => False
/-- what is one's own at a slot, to be read in place -/
def atO (s : DSt) (i : Nat) (k : Own → Prop) : Prop := match s[i]? with
  | some (some (.val (.lst xs))) => k (.l xs)
  | some (some (.val (.dI ks vs))) => k (.i ks vs)
  | some (some (.val (.dT ks vs))) => k (.t ks vs)
  | some (some (.io xs)) => k (.l xs)
  | some (some (.own (.n _ _ _))) => False
  | some (some (.own c)) => k c
  | _ => False
/-- what stands at a slot, read in place -/
def atV (s : DSt) (i : Nat) (k : D → Prop) : Prop := match s[i]? with
  | some (some (.val d)) => k d
  | some (some (.own (.l xs))) => k (.lst xs)
  | some (some (.io xs)) => k (.lst xs)
  | _ => False
def setRs (s : DSt) (i : Nat) (r : Rs) (k : DSt → Prop) : Prop := match r with
  | .v d => k (s.set i (some (.val d)))
  | .o c => k (s.set i (some (.own c)))
def parRs (s : DSt) : List Nat → List Rs → (DSt → Prop) → Prop
  | [], [], k => k s
  | i :: is, r :: rs, k => setRs s i r fun s1 => parRs s1 is rs k
  | _, _, _ => False
/-- x[k] = v -/
def setIxD (s : DSt) (i : Nat) (dk dv : D) (k : DSt → Prop) : Prop := match s[i]? with
  | some (some (.own (.l xs))) => asI dk fun j => (match ixN xs.length j with | some n => k (s.set i (some (.own (.l (xs.set n dv))))) | none => False)
  | some (some (.io xs)) => asI dk fun j => (match ixN xs.length j with | some n => k (s.set i (some (.io (xs.set n dv)))) | none => False)
  | some (some (.own (.i ks vs))) => asI dk fun j => ks.length < sizeLine ∧ k (s.set i (some (.own (.i (putKs ks j) (putVs ks vs j dv)))))
  | some (some (.own (.t ks vs))) => kOk1 dk = true ∧ ks.length < sizeLine ∧ k (s.set i (some (.own (.t (if dk.key ∈ keys ks then ks else ks ++ [dk]) (putVs (keys ks) vs dk.key dv)))))
  | _ => False
def appD (s : DSt) (i : Nat) (d : D) (k : DSt → Prop) : Prop := match s[i]? with
  | some (some (.own (.l xs))) => xs.length < sizeLine ∧ k (s.set i (some (.own (.l (xs ++ [d])))))
  | some (some (.io xs)) => xs.length < sizeLine ∧ k (s.set i (some (.io (xs ++ [d]))))
  | _ => False
def popD (s : DSt) (i : Nat) (k : DSt → Prop) : Prop := match s[i]? with
  | some (some (.own (.l xs))) => xs ≠ [] ∧ k (s.set i (some (.own (.l xs.dropLast))))
  | some (some (.io xs)) => xs ≠ [] ∧ k (s.set i (some (.io xs.dropLast)))
  | _ => False
/-- one child's entry more -/
def bumpD (c : List D × List D) (d : D) (j : Int) (k : List D × List D → Prop) : Prop := match lookL (keys c.1) c.2 d.key with
  | none => k (c.1 ++ [d], c.2 ++ [.int j])
  | some (.int o) => k (c.1, putVs (keys c.1) c.2 d.key (.int (o + j)))
  | _ => False
/-- ends = found.get(total, {}); ends[here] = ends.get(here, 0) + ways; found[total] = ends -/
def nestC (s : DSt) (f : Nat) (t : Int) (d : D) (j : Int) (qs : List Addr) (ks : List Int) (cs : List (List D × List D)) (n : DSt → Prop) : Prop :=
  kOk1 d = true ∧ ks.Nodup ∧ ks.length < sizeLine ∧ match lookL ks cs t with
    | none => ∀ q, n (s.set f (some (.own (.n (qs ++ [q]) (ks ++ [t]) (cs ++ [([d], [.int j])])))))
    | some c => c.1.length < sizeLine ∧ bumpD c d j fun c' => n (s.set f (some (.own (.n qs ks (putVs ks cs t c')))))
def nestD0 (s : DSt) (f e k h w : Nat) (n : DSt → Prop) : Prop := match s[k]?, s[h]?, s[w]?, s[f]? with
  | some (some (.val (.int t))), some (some (.val d)), some (some (.val (.int j))), some (some (.own (.i [] []))) => e < s.length ∧ nestC (s.set e none) f t d j [] [] [] n
  | some (some (.val (.int t))), some (some (.val d)), some (some (.val (.int j))), some (some (.own (.n qs ks cs))) => e < s.length ∧ nestC (s.set e none) f t d j qs ks cs n
  | _, _, _, _ => False
structure nestD (s : DSt) (f e k h w : Nat) (n : DSt → Prop) : Prop where
  h : nestD0 s f e k h w n
theorem nestD_eq (s : DSt) (f e k h w : Nat) (n : DSt → Prop) : nestD s f e k h w n = nestD0 s f e k h w n := propext ⟨fun q => q.h, fun q => ⟨q⟩⟩
def setAll (s : DSt) : List Nat → List D → (DSt → Prop) → Prop
  | [], [], k => k s
  | i :: is, d :: ds, k => setAll (s.set i (some (.val d))) is ds k
  | _, _, _ => False
def asgTg (tg : Tg) (d : D) (s : DSt) (k : DSt → Prop) : Prop := match tg with
  | .one i => k (s.set i (some (.val d)))
  | .many is => match d with
    | .tup ds => setAll s is ds k
    | _ => False
def wipeD (s : DSt) : List Nat → DSt
  | [] => s
  | v :: vs => (wipeD s vs).set v none
/-- the slots vs as in s, the others as in t -/
def backD (s t : DSt) : List Nat → DSt
  | [] => t
  | v :: vs => (backD s t vs).set v (s.getD v none)

/-! ### contracts -/
inductive Md | val | io | mv
  deriving DecidableEq
abbrev Ctr := List D → (Rs → List D → Prop) → (Str → Prop) → Prop
abbrev Gam := Str → Option (List Md × Ctr)
/-- an argument: a value, what is handed over, a slot's own list that is lent -/
inductive CA where
  | v (d : D) | o (xs : List D) | io (i : Nat)
/-- what is read at a slot, a list of one's own -/
def ownL (s : DSt) (i : Nat) : Option (List D) := match s[i]? with
  | some (some (.io xs)) => some xs
  | some (some (.own (.l xs))) => some xs
  | _ => none
def caD (s : DSt) : List CA → Option (List D)
  | [] => some []
  | .v d :: as => (caD s as).map (d :: ·)
  | .o xs :: as => (caD s as).map (.lst xs :: ·)
  | .io i :: as => match ownL s i, caD s as with
    | some xs, some ds => some (.lst xs :: ds)
    | _, _ => none
def ioSlot : List CA → Option Nat
  | [] => none
  | .io i :: _ => some i
  | _ :: as => ioSlot as
def putIo (s : DSt) (as : List CA) (io : List D) : DSt := match ioSlot as with
  | none => s
  | some i => match s[i]? with
    | some (some (.io _)) => s.set i (some (.io io))
    | _ => s.set i (some (.own (.l io)))
/-- one argument at most may be changed -/
def okMs : List Md → Bool
  | [] => true
  | .val :: ms => okMs ms
  | _ :: ms => ms.all (· = .val)
def callD0 (C : Ctr) (s : DSt) (as : List CA) (P : DSt → Rs → Prop) (R : Str → Prop) : Prop :=
  match caD s as with
  | some ds => C ds (fun r io => P (putIo s as io) r) R
  | none => False
structure callD (C : Ctr) (s : DSt) (as : List CA) (P : DSt → Rs → Prop) (R : Str → Prop) : Prop where
  h : callD0 C s as P R
theorem callD_eq (C : Ctr) (s : DSt) (as : List CA) (P : DSt → Rs → Prop) (R : Str → Prop) : callD C s as P R = callD0 C s as P R := propext ⟨fun q => q.h, fun q => ⟨q⟩⟩

/-- a def of the table -/
def callG0 (o : Option (List Md × Ctr)) (k : List Md → Ctr → Prop) : Prop := match o with
  | some (ms, C) => okMs ms = true ∧ k ms C
  | none => False
structure callG (o : Option (List Md × Ctr)) (k : List Md → Ctr → Prop) : Prop where
  h : callG0 o k
theorem callG_eq (o : Option (List Md × Ctr)) (k : List Md → Ctr → Prop) : callG o k = callG0 o k := propext ⟨fun q => q.h, fun q => ⟨q⟩⟩

/-- the one name of an error -/
def errN (c : Str) : Str := (([("InvalidTable", "table"), ("InvalidState", "state"), ("InvalidBook", "book"), ("InvalidTop", "top"), ("InvalidPoints", "points"), ("InvalidPlayer", "player"), ("InvalidNumber", "number"), ("InvalidIndex", "index"), ("NotPossible", "not"), ("OtherTable", "other"), ("TooMany", "many"), ("NothingToUndo", "undo")] : List (Str × Str)).lookup c).getD "else"
/-! ### comprehensions, loops -/
def compL (vs : List Nat) (f : D → DSt → (Option D → DSt → Prop) → Prop) : List D → DSt → (List D → DSt → Prop) → Prop
  | [], s, k => k [] s
  | x :: xs, s, k => f x (wipeD s vs) fun o s1 => compL vs f xs s1 fun ys s2 => k (o.toList ++ ys) s2
def compA (vs : List Nat) (f : D → DSt → List D → (List D → DSt → Prop) → Prop) : List D → DSt → List D → (List D → DSt → Prop) → Prop
  | [], s, acc, k => k acc s
  | x :: xs, s, acc, k => f x (wipeD s vs) acc fun acc' s1 => compA vs f xs s1 acc' k
theorem compL_nil {vs : List Nat} {f : D → DSt → (Option D → DSt → Prop) → Prop} {s : DSt} {k : List D → DSt → Prop} : compL vs f [] s k = k [] s := by with_unfolding_all rfl
theorem compL_cons {vs : List Nat} {f : D → DSt → (Option D → DSt → Prop) → Prop} {x : D} {xs : List D} {s : DSt} {k : List D → DSt → Prop} : compL vs f (x :: xs) s k = f x (wipeD s vs) fun o s1 => compL vs f xs s1 fun ys s2 => k (o.toList ++ ys) s2 := by with_unfolding_all rfl
theorem compA_nil {vs : List Nat} {f : D → DSt → List D → (List D → DSt → Prop) → Prop} {s : DSt} {a : List D} {k : List D → DSt → Prop} : compA vs f [] s a k = k a s := by with_unfolding_all rfl
theorem compA_cons {vs : List Nat} {f : D → DSt → List D → (List D → DSt → Prop) → Prop} {x : D} {xs : List D} {s : DSt} {a : List D} {k : List D → DSt → Prop} : compA vs f (x :: xs) s a k = f x (wipeD s vs) a fun acc' s1 => compA vs f xs s1 acc' k := by with_unfolding_all rfl
structure Ks where
  nx : DSt → Prop
  rt : DSt → Rs → Prop
  xx : Str → Prop
  bk : DSt → Prop := fun _ => False
  ct : DSt → Prop := fun _ => False
def forL (f : D → DSt → Ks → Prop) (k : Ks) : List D → DSt → Prop
  | [], s => k.nx s
  | x :: xs, s => f x s { k with nx := forL f k xs, ct := forL f k xs, bk := k.nx }

theorem forL_nil {f : D → DSt → Ks → Prop} {k : Ks} {s : DSt} : forL f k [] s = k.nx s := by with_unfolding_all rfl
theorem forL_cons {f : D → DSt → Ks → Prop} {k : Ks} {x : D} {xs : List D} {s : DSt} : forL f k (x :: xs) s = f x s { k with nx := forL f k xs, ct := forL f k xs, bk := k.nx } := by with_unfolding_all rfl
/-- something stands at a slot -/
def hasD (s : DSt) (i : Nat) : Prop := match s[i]? with | some (some _) => True | _ => False
/-- a dict -/
def isDctD (d : D) : Prop := match d with | .dI _ _ => True | .dT _ _ => True | _ => False
/-- a dict of one's own stands at a slot -/
def hasDct (s : DSt) (i : Nat) : Prop := match s[i]? with | some (some (.own (.i _ _))) => True | some (some (.own (.t _ _))) => True | some (some (.val (.dI _ _))) => True | some (some (.val (.dT _ _))) => True | _ => False
/-- which way a test goes -/
def iteB0 (t : Bool) (A B : Prop) : Prop := if t = true then A else B
structure iteB (t : Bool) (A B : Prop) : Prop where
  h : iteB0 t A B
theorem iteB_eq (t : Bool) (A B : Prop) : iteB t A B = iteB0 t A B := propext ⟨fun q => q.h, fun q => ⟨q⟩⟩
/-- a comprehension's end -/
def compE0 (vs : List Nat) (f : D → DSt → (Option D → DSt → Prop) → Prop) (xs : List D) (s : DSt) (P : DSt → Rs → Prop) : Prop := compL vs f xs s fun ys s2 => P (backD s s2 vs) (.o (.l ys))
structure compE (vs : List Nat) (f : D → DSt → (Option D → DSt → Prop) → Prop) (xs : List D) (s : DSt) (P : DSt → Rs → Prop) : Prop where
  h : compE0 vs f xs s P
theorem compE_eq (vs : List Nat) (f : D → DSt → (Option D → DSt → Prop) → Prop) (xs : List D) (s : DSt) (P : DSt → Rs → Prop) : compE vs f xs s P = compE0 vs f xs s P := propext ⟨fun q => q.h, fun q => ⟨q⟩⟩
def compE20 (vs : List Nat) (f : D → DSt → List D → (List D → DSt → Prop) → Prop) (xs : List D) (s : DSt) (P : DSt → Rs → Prop) : Prop := compA vs f xs s [] fun ys s2 => P (backD s s2 vs) (.o (.l ys))
structure compE2 (vs : List Nat) (f : D → DSt → List D → (List D → DSt → Prop) → Prop) (xs : List D) (s : DSt) (P : DSt → Rs → Prop) : Prop where
  h : compE20 vs f xs s P
theorem compE2_eq (vs : List Nat) (f : D → DSt → List D → (List D → DSt → Prop) → Prop) (xs : List D) (s : DSt) (P : DSt → Rs → Prop) : compE2 vs f xs s P = compE20 vs f xs s P := propext ⟨fun q => q.h, fun q => ⟨q⟩⟩
structure compB (vs : List Nat) (f : D → DSt → List D → (List D → DSt → Prop) → Prop) (xs : List D) (s : DSt) (acc : List D) (k : List D → DSt → Prop) : Prop where
  h : compA vs f xs s acc k
theorem compB_eq (vs : List Nat) (f : D → DSt → List D → (List D → DSt → Prop) → Prop) (xs : List D) (s : DSt) (acc : List D) (k : List D → DSt → Prop) : compB vs f xs s acc k = compA vs f xs s acc k := propext ⟨fun q => q.h, fun q => ⟨q⟩⟩
structure forW (f : D → DSt → Ks → Prop) (k : Ks) (xs : List D) (s : DSt) : Prop where
  h : forL f k xs s
theorem forW_eq (f : D → DSt → Ks → Prop) (k : Ks) (xs : List D) (s : DSt) : forW f k xs s = forL f k xs s := propext ⟨fun q => q.h, fun q => ⟨q⟩⟩
/-! ### the predicates -/
def iotaD (xs : List D) : List D := (List.range xs.length).map fun (i : Nat) => D.tup [.int (i : Int), xs.getD i .non]
def zipD (xs ys : List D) : List D := (xs.zip ys).map fun p => D.tup [p.1, p.2]
def seqD0 (d : D) (k : List D → Prop) : Prop := match d with
  | .lst xs => k xs
  | .tup xs => k xs
  | .dI ks _ => k (ks.map iD)
  | .dT ks _ => k ks
  | _ => False
structure seqD (d : D) (k : List D → Prop) : Prop where
  h : seqD0 d k
theorem seqD_eq (d : D) (k : List D → Prop) : seqD d k = seqD0 d k := propext ⟨fun q => q.h, fun q => ⟨q⟩⟩
section
variable (G : Gam)
mutual
def wpE : E → DSt → (DSt → Rs → Prop) → (Str → Prop) → Prop
  | .var i, s, P, _ => rdV s i P
  | .mv i, s, P, _ => mvV s i P
  | .io _, _, _, _ => False
  | .int i, s, P, _ => P s (.v (.int i))
  | .bl b, s, P, _ => P s (.v (.bl b))
  | .non, s, P, _ => P s (.v .non)
  | .str x, s, P, _ => P s (.v (.str x))
  | .cst _ i, s, P, _ => P s (.v (.int i))
  | .tup es, s, P, R => wpV es s (fun s1 ds => ds.length ≤ sizeLine ∧ P s1 (.v (.tup ds))) R
  | .lst es, s, P, R => wpV es s (fun s1 ds => ds.length ≤ sizeLine ∧ P s1 (.o (.l ds))) R
  | .bin op a b, s, P, R => wpE a s (fun s1 r1 => r1.d fun d1 => wpE b s1 (fun s2 r2 => r2.d fun d2 => binD op d1 d2 (P s2)) R) R
  | .neg a, s, P, R => wpE a s (fun s1 r1 => r1.d fun d1 => asI d1 fun i => P s1 (.v (.int (-i)))) R
  | .not a, s, P, R => wpE a s (fun s1 r1 => r1.d fun d1 => asB d1 fun b => P s1 (.v (.bl (!b)))) R
  | .cmp op a b, s, P, R => wpE a s (fun s1 r1 => r1.d fun d1 => wpE b s1 (fun s2 r2 => r2.d fun d2 => cmpD op d1 d2 fun t => P s2 (.v (.bl t))) R) R
  | .chain o1 o2 a b c, s, P, R => wpE a s (fun s1 r1 => r1.d fun d1 => wpE b s1 (fun s2 r2 => r2.d fun d2 => cmpD o1 d1 d2 fun t =>
      iteB t (wpE c s2 (fun s3 r3 => r3.d fun d3 => cmpD o2 d2 d3 fun t2 => P s3 (.v (.bl t2))) R) (P s2 (.v (.bl false)))) R) R
  | .and a b, s, P, R => wpE a s (fun s1 r1 => r1.d fun d1 => asB d1 fun t => iteB t (wpE b s1 P R) (P s1 (.v (.bl false)))) R
  | .or a b, s, P, R => wpE a s (fun s1 r1 => r1.d fun d1 => asB d1 fun t => iteB t (P s1 (.v (.bl true))) (wpE b s1 P R)) R
  | .ite c a b, s, P, R => wpE c s (fun s1 r1 => r1.d fun d1 => asB d1 fun t => iteB t (wpE a s1 P R) (wpE b s1 P R)) R
  | .idx a b, s, P, R => wpE a s (fun s1 r1 => r1.d fun d1 => wpE b s1 (fun s2 r2 => r2.d fun d2 => idxD d1 d2 fun d => P s2 (.v d)) R) R
  | .ixo i b, s, P, R => hasD s i ∧ wpE b s (fun s1 r1 => r1.d fun d1 => atO s1 i fun c => idxD c.d d1 fun d => P s1 (.v d)) R
  | .slL a lo, s, P, R => wpE a s (fun s1 r1 => r1.d fun d1 => wpE lo s1 (fun s2 r2 => r2.d fun d2 => asI d2 fun i => sliceD d1 (some i) none (P s2)) R) R
  | .slU a hi, s, P, R => wpE a s (fun s1 r1 => r1.d fun d1 => wpE hi s1 (fun s2 r2 => r2.d fun d2 => asI d2 fun i => sliceD d1 none (some i) (P s2)) R) R
  | .slLU a lo hi, s, P, R => wpE a s (fun s1 r1 => r1.d fun d1 => wpE lo s1 (fun s2 r2 => r2.d fun d2 => asI d2 fun i => wpE hi s2 (fun s3 r3 => r3.d fun d3 => asI d3 fun j => sliceD d1 (some i) (some j) (P s3)) R) R) R
  | .slR a, s, P, R => wpE a s (fun s1 r1 => r1.d fun d1 => match d1 with
      | .lst xs => P s1 (.o (.l xs.reverse))
      | .tup xs => P s1 (.v (.tup xs.reverse))
      | _ => False) R
  | .sl2 a, s, P, R => wpE a s (fun s1 r1 => r1.d fun d1 => match d1 with
      | .tup xs => P s1 (.v (.tup (alt xs)))
      | _ => False) R
  | .sl12 a, s, P, R => wpE a s (fun s1 r1 => r1.d fun d1 => match d1 with
      | .tup xs => P s1 (.v (.tup (alt (xs.drop 1))))
      | _ => False) R
  | .call f es, s, P, R => callG (G f) fun ms C => wpM ms es s (fun s1 as => callD C s1 as P R) R
  | .bi b es, s, P, R => wpV es s (fun s1 ds => biD b ds (P s1)) R
  | .isi e ty, s, P, R => wpE e s (fun s1 r1 => r1.d fun d1 => isiD d1 ty fun b => P s1 (.v (.bl b))) R
  | .get d k x, s, P, R => wpE d s (fun s1 r1 => r1.d fun d1 => isDctD d1 ∧ wpE k s1 (fun s2 r2 => r2.d fun d2 => wpE x s2 (fun s3 r3 => r3.d fun d3 => getD_ d1 d2 d3 fun d => P s3 (.v d)) R) R) R
  | .getE d k, s, P, R => wpE d s (fun s1 r1 => r1.d fun d1 => isDctD d1 ∧ wpE k s1 (fun s2 r2 => r2.d fun d2 => getD_ d1 d2 (.dT [] []) fun d => P s2 (.v d)) R) R
  | .geto i k x, s, P, R => hasDct s i ∧ wpE k s (fun s2 r2 => r2.d fun d2 => wpE x s2 (fun s3 r3 => r3.d fun d3 => atO s3 i fun c => getD_ c.d d2 d3 fun d => P s3 (.v d)) R) R
  | .cmpo op i b, s, P, R => hasD s i ∧ wpE b s (fun s1 r1 => r1.d fun d1 => atV s1 i fun d => cmpD op d d1 fun t => P s1 (.v (.bl t))) R
  | .ino neg k i, s, P, R => wpE k s (fun s1 r1 => r1.d fun d1 => atO s1 i fun c => inD neg d1 c.d fun t => P s1 (.v (.bl t))) R
  | .nemp e, s, P, R => wpE e s (fun s1 r1 => r1.d fun d1 => empD d1 fun b => P s1 (.v (.bl b))) R
  | .leno i, s, P, _ => atO s i fun c => lenD c.d fun n => P s (.v (.int n))
  | .dNew t, s, P, _ => P s (.o (if t then .t [] [] else .i [] []))
  | .dOne t k v, s, P, R => wpE k s (fun s1 r1 => r1.d fun d1 => wpE v s1 (fun s2 r2 => r2.d fun d2 => match t with
      | false => asI d1 fun i => P s2 (.o (.i [i] [d2]))
      | true => kOk1 d1 = true ∧ P s2 (.o (.t [d1] [d2]))) R) R
  | .frz e, s, P, R => wpE e s (fun s1 r => match r with | .v d => P s1 (.v d) | .o c => P s1 (.v c.d)) R
  | .comp elt own tg it c, s, P, R => wpI it s (fun s1 xs => xs.length ≤ sizeLine ∧ compE (own.map (·.2)) (fun x s2 k => asgTg tg x s2 fun s3 => wpE c s3 (fun s4 r => r.d fun d => asB d fun t =>
      iteB t (wpE elt s4 (fun s5 r => r.d fun d => k (some d) s5) (fun _ => False)) (k none s4)) (fun _ => False)) xs s1 P) R
  | .comp2 elt own tg it vs2 tg2 it2, s, P, R => wpI it s (fun s1 xs => compE2 (own.map (·.2)) (fun x s2 acc k => asgTg tg x s2 fun s3 => wpI it2 s3 (fun s4 ys =>
      compB vs2 (fun y s5 acc k => asgTg tg2 y s5 fun s6 => wpE elt s6 (fun s7 r => r.d fun d => acc.length < sizeLine ∧ k (acc ++ [d]) s7) (fun _ => False)) ys s4 acc k) (fun _ => False)) xs s1 P) R
  | .callI fs ix es, s, P, R => wpE ix s (fun s1 r1 => r1.d fun d1 => asI d1 fun i => match atI fs i with
    | some f => callG (G f) fun ms C => wpM ms es s1 (fun s2 as => callD C s2 as P R) R
    | none => False) R
def wpV : Es → DSt → (DSt → List D → Prop) → (Str → Prop) → Prop
  | .nil, s, P, _ => P s []
  | .cons e r, s, P, R => wpE e s (fun s1 r1 => r1.d fun d => wpV r s1 (fun s2 ds => P s2 (d :: ds)) R) R
def wpM : List Md → Es → DSt → (DSt → List CA → Prop) → (Str → Prop) → Prop
  | ms, .nil, s, P, _ => ms = [] ∧ P s []
  | ms, .cons e r, s, P, R => match ms with
    | .val :: ms => wpE e s (fun s1 r1 => r1.d fun d => wpM ms r s1 (fun s2 as => P s2 (.v d :: as)) R) R
    | .mv :: ms => wpE e s (fun s1 r1 => match r1 with
      | .o (.l xs) => wpM ms r s1 (fun s2 as => P s2 (.o xs :: as)) R
      | _ => False) R
    | .io :: ms => match e with
      | .io i => (ownL s i).isSome = true ∧ wpM ms r s (fun s2 as => P s2 (.io i :: as)) R
      | _ => False
    | [] => False
def wpP : Es → DSt → (DSt → List Rs → Prop) → (Str → Prop) → Prop
  | .nil, s, P, _ => P s []
  | .cons e r, s, P, R => wpE e s (fun s1 r1 => wpP r s1 (fun s2 rs => P s2 (r1 :: rs)) R) R
def wpI : It → DSt → (DSt → List D → Prop) → (Str → Prop) → Prop
  | .seq e, s, P, R => wpE e s (fun s1 r => r.d fun d => seqD d (P s1)) R
  | .rng1 e, s, P, R => wpE e s (fun s1 r => r.d fun d => asI d fun n => rngOk 0 n ∧ P s1 (rngD 0 n)) R
  | .rng2 a b, s, P, R => wpE a s (fun s1 r1 => r1.d fun d1 => wpE b s1 (fun s2 r2 => r2.d fun d2 => asI d1 fun i => asI d2 fun j => rngOk i j ∧ P s2 (rngD i j)) R) R
  | .rngD a b, s, P, R => wpE a s (fun s1 r1 => r1.d fun d1 => wpE b s1 (fun s2 r2 => r2.d fun d2 => asI d1 fun i => asI d2 fun j => rngOk j i ∧ P s2 ((List.range (i - j).toNat).map fun (k : Nat) => D.int (i - (k : Int)))) R) R
  | .enum e, s, P, R => wpE e s (fun s1 r => r.d fun d => match d with | .lst xs => P s1 (iotaD xs) | .tup xs => P s1 (iotaD xs) | _ => False) R
  | .zip a b, s, P, R => wpE a s (fun s1 r1 => r1.d fun d1 => wpE b s1 (fun s2 r2 => r2.d fun d2 => match d1, d2 with | .lst xs, .lst ys => P s2 (zipD xs ys) | _, _ => False) R) R
end
def Ks.seq (k : Ks) (n : DSt → Prop) : Ks := { k with nx := n }
/-- what is handled goes on with the wiped slots -/
def dropO (s : DSt) : DSt := s.map fun x => match x with
  | some (.val d) => some (.val d)
  | _ => none
def noIo (s : DSt) : Bool := s.all fun x => match x with
  | some (.io _) => false
  | _ => true
/-- the parts of an end -/
def Ks.cas (k : Ks) (f : (DSt → Prop) → (DSt → Rs → Prop) → (Str → Prop) → (DSt → Prop) → (DSt → Prop) → Prop) : Prop := match k with
  | ⟨n, r, x, b, c⟩ => f n r x b c
theorem Ks.cas_eq (k : Ks) (f : (DSt → Prop) → (DSt → Rs → Prop) → (Str → Prop) → (DSt → Prop) → (DSt → Prop) → Prop) : k.cas f = f k.nx k.rt k.xx k.bk k.ct := rfl
mutual
def wpS : S → DSt → Ks → Prop
  | .asg i e, s, k => k.cas fun n r x b c => wpE G e s (fun s1 r => setRs s1 i r n) x
  | .asgT is e, s, k => k.cas fun n r x b c => wpE G e s (fun s1 r => r.d fun d => match d with | .tup ds => setAll s1 is ds n | _ => False) x
  | .par is es, s, k => k.cas fun n r x b c => wpP G es s (fun s1 rs => parRs s1 is rs n) x
  | .setIx i ke v, s, k => k.cas fun n r x b c => wpE G v s (fun s1 r1 => r1.d fun dv => hasD s1 i ∧ wpE G ke s1 (fun s2 r2 => r2.d fun dk => setIxD s2 i dk dv n) x) x
  | .app i e, s, k => k.cas fun n r x b c => (ownL s i).isSome = true ∧ wpE G e s (fun s1 r => r.d fun d => appD s1 i d n) x
  | .pop i, s, k => k.cas fun n r x b c => popD s i n
  | .ite c a b, s, k => k.cas fun n r x bk ct => wpE G c s (fun s1 r1 => r1.d fun d => asB d fun t => iteB t (wpSs a s1 ⟨n, r, x, bk, ct⟩) (wpSs b s1 ⟨n, r, x, bk, ct⟩)) x
  | .for_ tg it body, s, k => k.cas fun n r x b c => wpI G it s (fun s1 xs => forW (fun x s2 kk => asgTg tg x s2 fun s3 => wpSs body s3 kk) ⟨n, r, x, b, c⟩ xs s1) x
  | .while_ c body, s, k => k.cas fun n r x b ct => ∃ W : Nat → DSt → Prop, (∃ m, W m s) ∧ ∀ m s1, W m s1 → wpE G c s1 (fun s2 r1 => r1.d fun d => asB d fun t => iteB t (wpSs body s2 ⟨fun s3 => ∃ m', m' < m ∧ W m' s3, r, x, n, fun s3 => ∃ m', m' < m ∧ W m' s3⟩) (n s2)) x
  | .ret e, s, k => k.cas fun n r x b c => wpE G e s r x
  | .retN, s, k => k.cas fun n r x b c => r s (.v .non)
  | .ex e, s, k => k.cas fun n r x b c => wpE G e s (fun s1 _ => n s1) x
  | .raise y, _, k => k.cas fun n r x b c => x y
  | .pass, s, k => k.cas fun n r x b c => n s
  | .nest f e kk h w, s, k => k.cas fun n r x b c => nestD s f e kk h w n
  | .tryN y i body, s, k => k.cas fun n r x b ct => noIo s = true ∧ wpSs body s ⟨fun s2 => noIo s2 = true ∧ n s2, fun s2 v => noIo s2 = true ∧ r s2 v, fun c => errN c ≠ "else" ∧ r ((dropO s).set i none) (.v (.str (errN c))), fun s2 => noIo s2 = true ∧ b s2, fun s2 => noIo s2 = true ∧ ct s2⟩
def wpSs : Ss → DSt → Ks → Prop
  | .nil, s, k => k.nx s
  | .cons t r, s, k => k.cas fun n rt x b c => wpS t s ⟨fun s1 => wpSs r s1 ⟨n, rt, x, b, c⟩, rt, x, b, c⟩
end
end
end DL

set_option maxHeartbeats 2000000
namespace DL
open PySem PySem.Spec PyProof.Rows L2

/-! ### readings by meaning -/
section
variable (X : Cx)
def tE (e : Expr) : TE := fun σ H Q => ∀ pins s, Inv X pins σ H s → wpAny (model X.prog X.w) X.A (eval e X.env) (EP X pins σ Q) X.xe s
def tT (e : Expr) : TT := fun σ H Q => ∀ pins s, Inv X pins σ H s → wpAny (model X.prog X.w) X.A (isTrue e X.env (eval e X.env)) (TP X pins σ Q) X.xe s
def tW (e : Expr) : TT := fun σ H Q => ∀ whole pins s, Inv X pins σ H s → wpAny (model X.prog X.w) X.A (isTrue e X.env whole) (TP X pins σ Q) X.xe s
def tA (es : List Expr) : TA := fun σ H Q => ∀ pos pins s, Inv X pins σ H s → wpAny (model X.prog X.w) X.A (spliced (backTo pos (starEach es X.env))) (AP X pins σ Q) X.xe s
def tS (st : Stmt) : TS := fun D σ H => ∀ pins s, Inv X pins σ H s → wpAny (model X.prog X.w) X.A (exec st X.env) (SP X pins D) X.xe s
def tSs (st : List Stmt) : TS := fun D σ H => ∀ pins s, Inv X pins σ H s → wpAny (model X.prog X.w) X.A (execs st X.env) (SP X pins D) X.xe s
def tI (tg e : Expr) : TI := fun σ H R => ∀ pins s, Inv X pins σ H s → wpAny (model X.prog X.w) X.A (eval e X.env) (fun v s1 => wpAny (model X.prog X.w) X.A (pyIter v) (PIE X pins σ tg R) X.xe s1) X.xe s
def tG (tg : Expr) : TG := fun v σ H Q => ∀ pins s u, Inv X pins σ H s → RelV v u → wpAny (model X.prog X.w) X.A (assign tg X.env u) (fun _ s' => ∃ σ' H', Inv X pins σ' H' s' ∧ Q σ' H') X.xe s
variable {X}
theorem pE (e : Expr) : L2.PE X e (tE X e) := ⟨fun pins s σ H Q I h => h pins s I⟩
theorem pT (e : Expr) : PT X e (tT X e) := ⟨fun pins s σ H Q I h => h pins s I⟩
theorem pW (e : Expr) : PW X e (tW X e) := ⟨fun whole pins s σ H Q I h => h whole pins s I⟩
theorem pA (es : List Expr) : PA X es (tA X es) := ⟨fun pos pins s σ H Q I h => h pos pins s I⟩
theorem pS (st : Stmt) : PS X st (tS X st) := ⟨fun pins s σ H D I h => h pins s I⟩
theorem pSs (st : List Stmt) : PSs X st (tSs X st) := ⟨fun pins s σ H D I h => h pins s I⟩
theorem pI (tg e : Expr) : PI X tg e (tI X tg e) := ⟨fun pins s σ H R I h => h pins s I⟩
theorem pG (tg : Expr) : PG X tg (tG X tg) := ⟨fun pins s σ H v u Q I r h => h pins s u I r⟩
theorem _root_.L2.PE.tE {e : Expr} {t : TE} (h : L2.PE X e t) {σ : L2.St} {H : Hp} {Q : VK} (q : t σ H Q) : DL.tE X e σ H Q := fun pins s I => h.run pins s σ H Q I q
theorem _root_.L2.PT.tT {e : Expr} {t : TT} (h : PT X e t) {σ : L2.St} {H : Hp} {Q : Bool → Hp → Prop} (q : t σ H Q) : DL.tT X e σ H Q := fun pins s I => h.run pins s σ H Q I q
theorem _root_.L2.PW.tW {e : Expr} {t : TT} (h : PW X e t) {σ : L2.St} {H : Hp} {Q : Bool → Hp → Prop} (q : t σ H Q) : DL.tW X e σ H Q := fun wh pins s I => h.run wh pins s σ H Q I q
theorem _root_.L2.PA.tA {es : List Expr} {t : TA} (h : PA X es t) {σ : L2.St} {H : Hp} {Q : List V → Hp → Prop} (q : t σ H Q) : DL.tA X es σ H Q := fun pos pins s I => h.run pos pins s σ H Q I q
theorem _root_.L2.PS.tS {st : Stmt} {t : TS} (h : PS X st t) {σ : L2.St} {H : Hp} {D : Ends} (q : t D σ H) : DL.tS X st D σ H := fun pins s I => h.run pins s σ H D I q
theorem _root_.L2.PSs.tSs {st : List Stmt} {t : TS} (h : PSs X st t) {σ : L2.St} {H : Hp} {D : Ends} (q : t D σ H) : DL.tSs X st D σ H := fun pins s I => h.run pins s σ H D I q
theorem _root_.L2.PI.tI {tg e : Expr} {t : TI} (h : PI X tg e t) {σ : L2.St} {H : Hp} {R : L2.It → Hp → Prop} (q : t σ H R) : DL.tI X tg e σ H R := fun pins s I => h.run pins s σ H R I q
theorem _root_.L2.PG.tG {tg : Expr} {t : TG} (h : PG X tg t) {v : V} {σ : L2.St} {H : Hp} {Q : L2.St → Hp → Prop} (q : t v σ H Q) : DL.tG X tg v σ H Q := fun pins s u I r => h.run pins s σ H v u Q I r q
end

/-! ### what stands behind an expression -/
section
variable (P : Program) (w : World) (K : PySem.W.Frag) (A0 : Addr → Prop) (F0 H0 : Hp) (σ : L2.St)
structure Aft (s : DSt) (F H : Hp) (s' : DSt) (F' H' : Hp) : Prop where
  wd : Wd P w K A0 F0 H0 F' H' σ s'
  st : Stp (ownA σ s) F H F' H'
  sub : ∀ p, ownA σ s' p → ownA σ s p
end
section
variable {P : Program} {w : World} {K : PySem.W.Frag} {A0 : Addr → Prop} {F0 H0 F H F' H' F1 H1 : Hp} {σ : L2.St} {s s' s1 : DSt} {v : V} {r : Rs}
theorem Aft.refl (x : Wd P w K A0 F0 H0 F H σ s) : Aft P w K A0 F0 H0 σ s F H s F H := ⟨x, Stp.refl _ _ _, fun _ h => h⟩
theorem Aft.trans (a : Aft P w K A0 F0 H0 σ s F H s1 F1 H1) (b : Aft P w K A0 F0 H0 σ s1 F1 H1 s' F' H') : Aft P w K A0 F0 H0 σ s F H s' F' H' :=
  ⟨b.wd, a.st.trans b.st fun p h => .inl (a.sub p h), fun p h => a.sub p (b.sub p h)⟩
theorem Aft.add (a : Aft P w K A0 F0 H0 σ s F H s' F' H') {p : Addr} {o : HO} (hp : H' p = none) : Aft P w K A0 F0 H0 σ s F H s' (upd F' p o) (upd H' p o) :=
  ⟨a.wd.add hp, a.st.trans (stp_add hp (a.wd.ex.free hp)) fun p h => .inl (a.sub p h), a.sub⟩
theorem Aft.addH (a : Aft P w K A0 F0 H0 σ s F H s' F' H') {p : Addr} {o : HO} (hp : H' p = none) : Aft P w K A0 F0 H0 σ s F H s' F' (upd H' p o) :=
  ⟨a.wd.addH hp, a.st.trans (stp_addH hp) fun p h => .inl (a.sub p h), a.sub⟩
theorem Aft.new (a : Aft P w K A0 F0 H0 σ s F H s' F' H') {p : Addr} (hp : H' p = none) : ownA σ s p ∨ H p = none := by
  cases q : H p with
  | none => exact .inr rfl
  | some o =>
    by_cases n : ownA σ s p
    · exact .inl n
    · rw [a.st.kp p o q n] at hp; cases hp
theorem Wd.notOwn (x : Wd P w K A0 F0 H0 F H σ s) {p : Addr} (hp : H p = none) : ¬ ownA σ s p := fun h => by
  obtain ⟨_, _, o, e⟩ := x.own h
  rw [hp] at e; cases e
/-- a new list of one's own, just made -/
theorem Aft.newL (a : Aft P w K A0 F0 H0 σ s F H s' F' H') {p : Addr} {vs : List V} {ds : List D} (hp : H' p = none) (h : Reps P w K F' ds vs) :
    RsOk P w K (ownA σ s) H F' (upd H' p (.lst vs)) σ s' (.ref p) (.o (.l ds)) :=
  ⟨p, rfl, a.wd.ex.free hp, ⟨vs, upd_same, h⟩, a.wd.notOwn hp, a.new hp, fun q hq => nomatch hq⟩
/-- a value as data, lists frozen -/
theorem Rs.val {k : D → Prop} (a : Aft P w K A0 F0 H0 σ s F H s' F' H') (x0 : Wd P w K A0 F0 H0 F H σ s) (ok : RsOk P w K (ownA σ s) H F' H' σ s' v r) (h : r.d k) :
    ∃ F'' d, Aft P w K A0 F0 H0 σ s F H s' F'' H' ∧ Rep P w K F'' d v ∧ Ex F' F'' ∧ k d := by
  cases r with
  | v d => exact ⟨F', d, a, ok, Ex.refl _, h⟩
  | o c =>
    cases c with
    | i ks ds => exact h.elim
    | t ks ds => exact h.elim
    | n qs ks cs => exact h.elim
    | l xs =>
      obtain ⟨p, rfl, hf, ⟨vs, hp, rp⟩, no, hn, _⟩ := ok
      have hn' : A0 p ∨ H0 p = none := by
        rcases hn with z | z
        · exact (x0.own z).2.1
        · cases q : H0 p with
          | none => exact .inr rfl
          | some o =>
            by_cases n : A0 p
            · exact .inl n
            · rw [x0.st.kp p o q n] at z; cases z
      have ex : Ex F' (upd F' p (.lst vs)) := Ex.new hf
      refine ⟨upd F' p (.lst vs), .lst xs, ⟨a.wd.frz hf hp no hn', ?_, a.sub⟩, ?_, ex, h⟩
      · refine a.st.trans (A1 := fun q => q = p) ⟨ex, fun _ _ h _ => h, fun b u e => ?_⟩ fun q z => by subst z; exact hn
        by_cases c : b = p
        · exact .inr (.inr c)
        · rw [upd_ne c] at e; exact .inl (by rw [e]; exact nofun)
      · simp only [Rep]
        exact ⟨p, vs, rfl, upd_same, Reps.mono ex _ _ rp⟩
end

/-! ### contexts -/
structure Tab where
  G : Gam
  cs : Str → Option Int
  ex : Str → Bool
  er : Bool := false
/-- the def that names a caught error; the base of the errors -/
structure ErrFn (P : Program) (w : World) (K : PySem.W.Frag) (mg : Str → Option Value) (base : Heap) : Prop where
  fn : ∃ (f : Addr) (fd : FuncData), mg "_law_error_name" = some (.ref f) ∧ PySem.W.keepIn K (.ref f) = true ∧ Binds K fd ["e"] [] ∧ ∀ (A : Around) (outer : List Env) (s : Shared) (H : Hp) (args : Args) (us : List Value) (a : Addr) (oe : Obj) (C : Addr) (c : Str) (Q : VK) (E : XK),
    L2H.RoomH 1 A → L2H.Hot1 A (a, oe) → L2H.PinOk outer H s (a, oe) → Zc (.ref C) none oe → mg c = some (.ref C) → errN c ≠ "else" → Env0 P w K mg base A outer s H → BindsTo s fd args ((["e"] : List Str).zip us) → Vals [.ref a] us →
    (∀ H', (∀ b o, H b = some o → H' b = some o) → Q (.str (errN c)) H') → codeAny (model P w) A (.call (.ref f) args) (CR (L2N.CX P w) outer P w H s Q E) s
  ve : ∃ V : Addr, mg "VisitError" = some (.ref V) ∧ ∀ c C, errN c ≠ "else" → mg c = some (.ref C) → PySem.W.exmOne K (.ref C) (.ref V) = some true
/-- an own exception class of the module -/
structure ExcOk (K : PySem.W.Frag) (mg : Str → Option Value) (c : Str) : Prop where
  ex : ∃ (C : Addr) (bmB : List Value) (B newId initId : String), mg c = some (.ref C) ∧ ExcBaseFacts B newId initId bmB ∧ PySem.W.excIn K C bmB newId = true ∧ PySem.W.keepIn K (.ref C) = true ∧
    PySem.W.subIn K (.ref C) (.type "BaseException") = some true ∧ PySem.W.typeIn K (.ref C) = some (.type "type")
def builtins : List Str := ["len", "sorted", "set", "tuple", "list", "sum", "min", "max", "abs", "all", "any", "int", "bool", "str", "range", "enumerate", "zip", "isinstance", "dict"]
/-- the arguments of a contract, in the heap -/
def ArgsOk (P : Program) (w : World) (K : PySem.W.Frag) (F H : Hp) : List Md → List V → List D → Prop
  | [], [], [] => True
  | .val :: ms, v :: vs, d :: ds => Rep P w K F d v ∧ ArgsOk P w K F H ms vs ds
  | _ :: ms, v :: vs, d :: ds => (∃ p xs, v = .ref p ∧ d = .lst xs ∧ F p = none ∧ OwnAt P w K F H p (.l xs)) ∧ ArgsOk P w K F H ms vs ds
  | _, _, _ => False
/-- the arguments that may change -/
def mutV : List Md → List V → List V
  | .val :: ms, _ :: vs => mutV ms vs
  | _ :: ms, v :: vs => v :: mutV ms vs
  | _, _ => []
/-- the addresses that a call may change: of its io and mv arguments -/
def ioA : List Md → List V → Addr → Prop
  | .val :: ms, _ :: vs, p => ioA ms vs p
  | _ :: ms, v :: vs, p => v = .ref p ∨ ioA ms vs p
  | _, _, _ => False
/-- the io argument's address -/
def ioP : List Md → List V → Option V
  | .io :: _, v :: _ => some v
  | _ :: ms, _ :: vs => ioP ms vs
  | _, _ => none
def IoOk (P : Program) (w : World) (K : PySem.W.Frag) (F H : Hp) (o : Option V) (io : List D) : Prop := match o with
  | none => io = []
  | some v => ∃ p, v = .ref p ∧ F p = none ∧ OwnAt P w K F H p (.l io)
def CRes (P : Program) (w : World) (K : PySem.W.Frag) (A : Addr → Prop) (o : Option V) (H F' H' : Hp) (v : V) : Rs → Prop
  | .v d => Rep P w K F' d v
  | .o c => ∃ p, v = .ref p ∧ F' p = none ∧ OwnAt P w K F' H' p c ∧ some v ≠ o ∧ (A p ∨ H p = none) ∧ ∀ q ∈ c.kids, some (V.ref q) ≠ o ∧ (A q ∨ H q = none)
/-- a contract, as the hand layer's promise -/
def spOf (P : Program) (w : World) (K : PySem.W.Frag) (mg : Str → Option Value) (ms : List Md) (C : Ctr) : Sp := fun vs H Q E => ∃ F ds, Ex F H ∧ ArgsOk P w K F H ms vs ds ∧ (mutV ms vs).Nodup ∧
  C ds (fun r io => ∀ v F' H', Ex F' H' → Stp (ioA ms vs) F H F' H' → IoOk P w K F' H' (ioP ms vs) io → CRes P w K (ioA ms vs) (ioP ms vs) H F' H' v r → Q v H')
    (fun c => ∀ Ca H', mg c = some (.ref Ca) → (∀ b o, H b = some o → ¬ ioA ms vs b → H' b = some o) → E (.ref Ca) none H')
/-- a contract goes with its ends -/
def CMono (C : Ctr) : Prop := ∀ ds (K K' : Rs → List D → Prop) (R R' : Str → Prop), (∀ r io, K r io → K' r io) → (∀ c, R c → R' c) → C ds K R → C ds K' R'
structure FnIn (P : Program) (w : World) (K : PySem.W.Frag) (mg : Str → Option Value) (base : Heap) (A : Around) (f : Str) (ms : List Md) (C : Ctr) : Prop where
  ex : ∃ (a : Addr) (fd : FuncData) (ps : List Str) (k : Nat), mg f = some (.ref a) ∧ FnOk P w K mg base (L2N.CX P w) k a fd ps (spOf P w K mg ms C) ∧ Room k A ∧ PySem.W.keepIn K (.ref a) = true ∧ Binds K fd ps []
  mono : CMono C
structure Good (T : Tab) (X : Cx) (sc : Scope) (N : List Str) (fb : Str → Bool) : Prop where
  n : X.N = N
  sc : X.env.scope = sc
  fb : ∀ x, fb x = true → X.fn x = true
  nd : N.Nodup
  calm : X.calm = true
  room : Room 1 X.A
  bi : ∀ x ∈ builtins, X.mg x = none
  cs : ∀ x i, T.cs x = some i → ∃ t, X.mg x = some (.int i t)
  fn : ∀ f ms C, T.G f = some (ms, C) → FnIn X.prog X.w X.K X.mg X.base X.A f ms C
  exc : ∀ c, T.ex c = true → ExcOk X.K X.mg c
  er : T.er = true → ErrFn X.prog X.w X.K X.mg X.base

/-! ### an expression does what its predicate says -/
def OkR (X : Cx) (W : WX) (t : TE) (wp : DSt → (DSt → Rs → Prop) → (Str → Prop) → Prop) : Prop :=
  ∀ s Pp R, wp s Pp R → ∀ A0 F0 H0 F H σ Q, Wd X.prog X.w X.K A0 F0 H0 F H σ s →
    (∀ v F' H' s' r, Aft X.prog X.w X.K A0 F0 H0 σ s F H s' F' H' → RsOk X.prog X.w X.K (ownA σ s) H F' H' σ s' v r → Pp s' r → Q v H') →
    (∀ c C H', R c → X.mg c = some (.ref C) → (∀ b o, H b = some o → ¬ ownA σ s b → H' b = some o) → W (.ref C) none σ H') → t σ H Q
abbrev OkE (X : Cx) (W : WX) (e : Expr) (wp : DSt → (DSt → Rs → Prop) → (Str → Prop) → Prop) : Prop := OkR X W (tE X e) wp
/-- .. as a test -/
def OkT (X : Cx) (W : WX) (t : TT) (wp : DSt → (DSt → Rs → Prop) → (Str → Prop) → Prop) : Prop :=
  ∀ s (k : Bool → DSt → Prop) R, wp s (fun s1 r1 => r1.d fun d1 => asB d1 fun b => k b s1) R → ∀ A0 F0 H0 F H σ Q, Wd X.prog X.w X.K A0 F0 H0 F H σ s →
    (∀ b F' H' s', Aft X.prog X.w X.K A0 F0 H0 σ s F H s' F' H' → k b s' → Q b H') →
    (∀ c C H', R c → X.mg c = some (.ref C) → (∀ b o, H b = some o → ¬ ownA σ s b → H' b = some o) → W (.ref C) none σ H') → t σ H Q
section
variable {X : Cx} {W : WX} {a b c : Expr} {wa wb wc : DSt → (DSt → Rs → Prop) → (Str → Prop) → Prop} {A0 : Addr → Prop} {F0 H0 F H : Hp} {σ : L2.St} {s : DSt} {R : Str → Prop}
/-- one operand -/
theorem oneR {t : TE} {Q : VK} {k1 : DSt → D → Prop} (ha : OkR X W t wa) (h : wa s (fun s1 r1 => r1.d (k1 s1)) R) (x : Wd X.prog X.w X.K A0 F0 H0 F H σ s)
    (q : ∀ v F' H' s' d, Aft X.prog X.w X.K A0 F0 H0 σ s F H s' F' H' → Rep X.prog X.w X.K F' d v → k1 s' d → Q v H')
    (hR : ∀ c C H', R c → X.mg c = some (.ref C) → (∀ b o, H b = some o → ¬ ownA σ s b → H' b = some o) → W (.ref C) none σ H') : t σ H Q := by
  refine ha s _ R h A0 F0 H0 F H σ Q x (fun v F' H' s' r aft ok hp => ?_) hR
  obtain ⟨F'', d, aft', rep, _, hk⟩ := Rs.val aft x ok hp
  exact q v F'' H' s' d aft' rep hk
/-- a value as a test -/
theorem OkR.test {t : TE} (ha : OkR X W t wa) : OkT X W (fun σ H Q => t σ H fun x H' => ∃ k, x = .bl k ∧ Q k H') wa := by
  intro s k R h A0 F0 H0 F H σ Q wd q hR
  refine oneR (k1 := fun s1 d1 => asB d1 fun b => k b s1) ha h wd (fun v F' H' s' d aft rep hk => ?_) hR
  unfold asB at hk
  split at hk
  · simp only [Rep] at rep; subst rep
    exact ⟨_, rfl, q _ F' H' s' aft hk⟩
  · exact hk.elim
theorem one {Q : VK} {k1 : DSt → D → Prop} (ha : OkE X W a wa) (h : wa s (fun s1 r1 => r1.d (k1 s1)) R) (x : Wd X.prog X.w X.K A0 F0 H0 F H σ s)
    (q : ∀ v F' H' s' d, Aft X.prog X.w X.K A0 F0 H0 σ s F H s' F' H' → Rep X.prog X.w X.K F' d v → k1 s' d → Q v H')
    (hR : ∀ c C H', R c → X.mg c = some (.ref C) → (∀ b o, H b = some o → ¬ ownA σ s b → H' b = some o) → W (.ref C) none σ H') : tE X a σ H Q := by
  refine ha s _ R h A0 F0 H0 F H σ Q x (fun v F' H' s' r aft ok hp => ?_) hR
  obtain ⟨F'', d, aft', rep, _, hk⟩ := Rs.val aft x ok hp
  exact q v F'' H' s' d aft' rep hk
/-- two operands -/
theorem two {Q : V → V → Hp → Prop} {k2 : DSt → D → D → Prop} (ha : OkE X W a wa) (hb : OkE X W b wb) (h : wa s (fun s1 r1 => r1.d fun d1 => wb s1 (fun s2 r2 => r2.d (k2 s2 d1)) R) R)
    (x : Wd X.prog X.w X.K A0 F0 H0 F H σ s)
    (q : ∀ v u F' H' s' d1 d2, Aft X.prog X.w X.K A0 F0 H0 σ s F H s' F' H' → Rep X.prog X.w X.K F' d1 v → Rep X.prog X.w X.K F' d2 u → k2 s' d1 d2 → Q v u H')
    (hR : ∀ c C H', R c → X.mg c = some (.ref C) → (∀ b o, H b = some o → ¬ ownA σ s b → H' b = some o) → W (.ref C) none σ H') :
    tE X a σ H fun v H1 => tE X b σ H1 fun u H2 => Q v u H2 := by
  refine one (k1 := fun s1 d1 => wb s1 (fun s2 r2 => r2.d (k2 s2 d1)) R) ha h x (fun v F1 H1 s1 d1 aft1 rep1 h1 => ?_) hR
  refine one (k1 := fun s2 d2 => k2 s2 d1 d2) hb h1 aft1.wd (fun u F2 H2 s2 d2 aft2 rep2 h2 => ?_) fun c C H' hc hm hk => hR c C H' hc hm fun b o e n => hk b o (aft1.st.kp b o e n) fun z => n (aft1.sub b z)
  exact q v u F2 H2 s2 d1 d2 (aft1.trans aft2) (Rep.mono aft2.st.ex _ _ rep1) rep2 h2
theorem three {Q : V → V → V → Hp → Prop} {k3 : DSt → D → D → D → Prop} (ha : OkE X W a wa) (hb : OkE X W b wb) (hc : OkE X W c wc)
    (h : wa s (fun s1 r1 => r1.d fun d1 => wb s1 (fun s2 r2 => r2.d fun d2 => wc s2 (fun s3 r3 => r3.d (k3 s3 d1 d2)) R) R) R)
    (x : Wd X.prog X.w X.K A0 F0 H0 F H σ s)
    (q : ∀ v u z F' H' s' d1 d2 d3, Aft X.prog X.w X.K A0 F0 H0 σ s F H s' F' H' → Rep X.prog X.w X.K F' d1 v → Rep X.prog X.w X.K F' d2 u → Rep X.prog X.w X.K F' d3 z → k3 s' d1 d2 d3 → Q v u z H')
    (hR : ∀ c C H', R c → X.mg c = some (.ref C) → (∀ b o, H b = some o → ¬ ownA σ s b → H' b = some o) → W (.ref C) none σ H') :
    tE X a σ H fun v H1 => tE X b σ H1 fun u H2 => tE X c σ H2 fun z H3 => Q v u z H3 := by
  refine two (k2 := fun s2 d1 d2 => wc s2 (fun s3 r3 => r3.d (k3 s3 d1 d2)) R) (Q := fun v u H2 => tE X c σ H2 fun z H3 => Q v u z H3) ha hb h x (fun v u F1 H1 s1 d1 d2 aft1 rep1 rep2 h1 => ?_) hR
  refine one (k1 := fun s2 d3 => k3 s2 d1 d2 d3) hc h1 aft1.wd (fun z F2 H2 s2 d3 aft2 rep3 h2 => ?_) fun c C H' hc hm hk => hR c C H' hc hm fun b o e n => hk b o (aft1.st.kp b o e n) fun z => n (aft1.sub b z)
  exact q v u z F2 H2 s2 d1 d2 d3 (aft1.trans aft2) (Rep.mono aft2.st.ex _ _ rep1) (Rep.mono aft2.st.ex _ _ rep2) rep3 h2
end
end DL

set_option maxHeartbeats 2000000
namespace DL
open PySem PySem.Spec PyProof.Rows L2

/-! ### slots -/
theorem upd_self {H : Hp} {p : Addr} {o : HO} (h : H p = some o) : upd H p o = H := by
  funext b
  by_cases c : b = p
  · subst c; rw [upd_same, h]
  · rw [upd_ne c]
theorem get_set {α : Type} {l : List α} {i j : Nat} {x y : α} (h : (l.set i x)[j]? = some y) : (j = i ∧ y = x ∧ i < l.length) ∨ (j ≠ i ∧ l[j]? = some y) := by
  by_cases c : j = i
  · subst c
    by_cases k : j < l.length
    · rw [List.getElem?_set_self k] at h; cases h; exact .inl ⟨rfl, rfl, k⟩
    · rw [List.getElem?_eq_none (by rw [List.length_set]; omega)] at h; cases h
  · rw [List.getElem?_set_ne (Ne.symm c)] at h; exact .inr ⟨c, h⟩
section
variable {P : Program} {w : World} {K : PySem.W.Frag} {A0 : Addr → Prop} {F0 H0 F H F' H' : Hp} {σ : L2.St} {s s' : DSt} {i : Nat} {p : Addr}
theorem ownA_val {d : D} {q : Addr} (h : ownA σ (s.set i (some (.val d))) q) : ownA σ s q ∧ (∃ (j : Nat) (t : Sl), j ≠ i ∧ s[j]? = some (some t) ∧ Owns σ j t q) := by
  obtain ⟨j, t, e, m⟩ := h
  rcases get_set e with ⟨_, z, _⟩ | ⟨n, z⟩
  · cases z
    rcases m with ⟨m, _⟩ | m
    · cases m
    · cases m
  · exact ⟨⟨j, t, z, m⟩, j, t, n, z, m⟩
theorem ownA_none {q : Addr} (h : ownA σ (s.set i none) q) : ownA σ s q ∧ (∃ (j : Nat) (t : Sl), j ≠ i ∧ s[j]? = some (some t) ∧ Owns σ j t q) := by
  obtain ⟨j, t, e, m⟩ := h
  rcases get_set e with ⟨_, z, _⟩ | ⟨n, z⟩
  · cases z
  · exact ⟨⟨j, t, z, m⟩, j, t, n, z, m⟩
theorem Owns.val {d : D} {q : Addr} (h : Owns σ i (.val d) q) : False := by
  rcases h with ⟨m, _⟩ | m
  · cases m
  · cases m
/-- what is one's own at a slot is frozen (no kids) -/
theorem Aft.frzSlot {c : Own} {o' : HO} (x : Wd P w K A0 F0 H0 F H σ s) (hs : s[i]? = some (some (.own c))) (hp : σ[i]? = some (some (V.ref p)))
    (rep : Rep P w K (upd F p o') c.d (.ref p)) : Aft P w K A0 F0 H0 σ s F H (s.set i (some (.val c.d))) (upd F p o') (upd H p o') := by
  have ow : Owns σ i (.own c) p := .inl ⟨rfl, hp⟩
  have hown : ownA σ s p := ⟨i, _, hs, ow⟩
  obtain ⟨hf, hn, _⟩ := x.own hown
  have st : Stp (fun a => a = p) F H (upd F p o') (upd H p o') := ⟨Ex.new hf, fun b u e n => by rw [upd_ne n]; exact e, fun a u e => by
    by_cases k : a = p
    · exact .inr (.inr k)
    · rw [upd_ne k] at e; exact .inl (by rw [e]; exact nofun)⟩
  refine ⟨⟨by rw [List.length_set]; exact x.len, Ex.upd2 x.ex, x.st.trans st fun a z => by subst z; exact hn, fun j t e => ?_, fun j l t u q e1 e2 m1 m2 => ?_⟩, st.mono fun a z => by subst z; exact hown, fun q h => (ownA_val h).1⟩
  · rcases get_set e with ⟨rfl, z, _⟩ | ⟨n, z⟩
    · cases z
      exact ⟨_, hp, rep⟩
    · obtain ⟨v, e1, ok⟩ := x.sl j t z
      refine ⟨v, e1, ?_⟩
      have nk : ∀ q, Owns σ j t q → q ≠ p := fun q hq c => n (x.ap j i t _ p z hs (c ▸ hq) ow)
      cases t with
      | val d => exact Rep.mono st.ex _ _ ok
      | own c2 =>
        obtain ⟨q, rfl, h1, h2, h3, h4⟩ := ok
        have ne := nk q (.inl ⟨rfl, e1⟩)
        refine ⟨q, rfl, by rw [upd_ne ne]; exact h1, h2, h3.mono st.ex (upd_ne ne) fun r hr => ?_, h4⟩
        have ne2 := nk r (.inr hr)
        exact ⟨upd_ne ne2, fun z => by rw [upd_ne ne2]; exact z⟩
      | io xs =>
        obtain ⟨q, rfl, h1, h2, h3⟩ := ok
        have ne := nk q (.inl ⟨rfl, e1⟩)
        exact ⟨q, rfl, by rw [upd_ne ne]; exact h1, h2, h3.mono st.ex (upd_ne ne) fun r hr => nomatch hr⟩
  · rcases get_set e1 with ⟨_, z, _⟩ | ⟨_, z1⟩
    · cases z; exact m1.val.elim
    · rcases get_set e2 with ⟨_, z, _⟩ | ⟨_, z2⟩
      · cases z; exact m2.val.elim
      · exact x.ap j l t u q z1 z2 m1 m2
/-- a slot is emptied -/
theorem Wd.clear (x : Wd P w K A0 F0 H0 F H σ s) : Wd P w K A0 F0 H0 F H σ (s.set i none) := by
  refine ⟨by rw [List.length_set]; exact x.len, x.ex, x.st, fun j t e => ?_, fun j l t u q e1 e2 m1 m2 => ?_⟩
  · rcases get_set e with ⟨_, z, _⟩ | ⟨_, z⟩
    · cases z
    · exact x.sl j t z
  · rcases get_set e1 with ⟨_, z, _⟩ | ⟨_, z1⟩
    · cases z
    · rcases get_set e2 with ⟨_, z, _⟩ | ⟨_, z2⟩
      · cases z
      · exact x.ap j l t u q z1 z2 m1 m2
theorem Aft.clear (x : Wd P w K A0 F0 H0 F H σ s) : Aft P w K A0 F0 H0 σ s F H (s.set i none) F H := ⟨x.clear, Stp.refl _ _ _, fun q h => (ownA_none h).1⟩
end

/-! ### names and constants -/
def visB (sc : Scope) (x : Str) : Bool := match sc.names.lookup x with
  | some .local => true | some .cell => true | some .free => true | _ => false
def locB (sc : Scope) (fb : Str → Bool) (x : Str) : Bool := match sc.names.lookup x with
  | some .local => true | some .cell => fb x | _ => false
def glB (sc : Scope) (x : Str) : Bool := match sc.names.lookup x with
  | some .globalImplicit => true | _ => false
def okNm (x : Str) : Bool := !(x == ("__debug__" : Str)) && !(x == ("__classdict__" : Str)) && !(x == ("__name__" : Str))
section
variable {T : Tab} {X : Cx} {sc : Scope} {N : List Str} {fb : Str → Bool} {W : WX} {x : Str} {i : Nat} {pos : Pos}
theorem okNm_dbg (h : okNm x = true) : (x == ("__debug__" : Str)) = false ∧ (x == ("__classdict__" : Str)) = false ∧ x ≠ "__name__" := by
  unfold okNm at h
  simp only [Bool.and_eq_true, Bool.not_eq_true'] at h
  exact ⟨h.1.1, h.1.2, by intro e; have := h.2; rw [e] at this; exact absurd this (by decide +kernel)⟩
theorem visB_ok (h : visB sc x = true) : Vis sc x := by
  unfold visB at h
  unfold Vis
  split at h <;> first | exact .inl (by assumption) | exact .inr (.inl (by assumption)) | exact .inr (.inr (by assumption)) | cases h
theorem locB_ok {fb : Str → Bool} (h : locB sc fb x = true) : L2.Loc sc x ∧ (fb x = true ∨ sc.names.lookup x = some .local) := by
  unfold locB at h
  unfold L2.Loc
  split at h
  · rename_i e; exact ⟨.inl e, .inr e⟩
  · rename_i e; exact ⟨.inr e, .inl h⟩
  · cases h
theorem glB_ok (g : Good T X sc N fb) (h : glB sc x = true) : Gl X x := by
  unfold glB at h
  split at h
  · rename_i e; show X.env.scope.names.lookup x = _; rw [g.sc]; exact e
  · cases h
theorem pvar (g : Good T X sc N fb) (hN : N[i]? = some x) (hv : visB sc x = true) (hx : okNm x = true) : L2.PE X (.Name x pos) (tVar i) :=
  pe_var (by rw [g.n]; exact hN) (by rw [g.sc]; exact visB_ok hv) (okNm_dbg hx).1 (okNm_dbg hx).2.1
/-- a dict of one's own is locked -/
theorem lock_tE {e : Expr} {σ : L2.St} {H : Hp} {Q : VK} {p : Addr} {u : HO} (h : H p = some u) (mu : Mut (some u)) (q : ∀ od, tE X e σ (upd H p (.frz od u)) Q) : tE X e σ H Q := fun pins s I => by
  obtain ⟨od, I'⟩ := I.lock h mu
  exact q od pins s I'
theorem ok_var (g : Good T X sc N fb) (hN : N[i]? = some x) (hv : visB sc x = true) (hx : okNm x = true) : OkE X W (.Name x pos) (wpE T.G (.var i)) := by
  intro s Pp R h A0 F0 H0 F H σ Q wd q hR
  simp only [wpE, rdV] at h
  split at h
  · rename_i d e
    obtain ⟨v, e1, ok⟩ := wd.sl i _ e
    exact (pvar g hN hv hx).tE ⟨v, e1, q v F H s (.v d) (Aft.refl wd) ok h⟩
  · exact h.elim
  · rename_i c hno e
    obtain ⟨v, e1, ok⟩ := wd.sl i _ e
    obtain ⟨p, rfl, hf, hn, oa, _⟩ := ok
    cases c with
    | n qs ks cs => exact (hno qs ks cs rfl).elim
    | l xs =>
      obtain ⟨vs, hp, rp⟩ := oa
      have rep : Rep X.prog X.w X.K (upd F p (.lst vs)) (Own.l xs).d (.ref p) := by
        simp only [Own.d, Rep]
        exact ⟨p, vs, rfl, upd_same, Reps.mono (Ex.new hf) _ _ rp⟩
      have aft := Aft.frzSlot wd e e1 rep
      rw [upd_self hp] at aft
      exact (pvar g hN hv hx).tE ⟨_, e1, q _ _ _ _ (.v (Own.l xs).d) aft rep h⟩
    | i ks ds =>
      obtain ⟨vs, hp, hl, rp⟩ := oa
      refine lock_tE hp trivial fun od => ?_
      have rep : Rep X.prog X.w X.K (upd F p (.frz od (.dK (kvI ks vs)))) (Own.i ks ds).d (.ref p) := by
        simp only [Own.d, Rep]
        exact ⟨p, od, vs, rfl, upd_same, hl, Reps.mono (Ex.new hf) _ _ rp⟩
      exact (pvar g hN hv hx).tE ⟨_, e1, q _ _ _ _ (.v (Own.i ks ds).d) (Aft.frzSlot wd e e1 rep) rep h⟩
    | t ks ds =>
      obtain ⟨as, vs, hp, hl, hk, rk, rp⟩ := oa
      refine lock_tE hp trivial fun od => ?_
      have rep : Rep X.prog X.w X.K (upd F p (.frz od (TO X.prog X.w p (keys ks) as vs))) (Own.t ks ds).d (.ref p) := by
        simp only [Own.d, Rep]
        exact ⟨p, od, as, vs, rfl, upd_same, hl, hk, Reps.mono (Ex.new hf) _ _ rk, Reps.mono (Ex.new hf) _ _ rp⟩
      exact (pvar g hN hv hx).tE ⟨_, e1, q _ _ _ _ (.v (Own.t ks ds).d) (Aft.frzSlot wd e e1 rep) rep h⟩
  · exact h.elim
theorem ok_mv (g : Good T X sc N fb) (hN : N[i]? = some x) (hv : visB sc x = true) (hx : okNm x = true) : OkE X W (.Name x pos) (wpE T.G (.mv i)) := by
  intro s Pp R h A0 F0 H0 F H σ Q wd q hR
  simp only [wpE, mvV] at h
  split at h
  · rename_i d e
    obtain ⟨v, e1, ok⟩ := wd.sl i _ e
    exact (pvar g hN hv hx).tE ⟨v, e1, q v F H s (.v d) (Aft.refl wd) ok h⟩
  · rename_i c e
    obtain ⟨v, e1, ok⟩ := wd.sl i _ e
    obtain ⟨p, rfl, hf, hn, oa, _⟩ := ok
    have no : ∀ q, Owns σ i (.own c) q → ¬ ownA σ (s.set i none) q := fun q hq z => by
      obtain ⟨_, j, t, n, e2, m⟩ := ownA_none z
      exact n (wd.ap j i t _ q e2 e m hq)
    exact (pvar g hN hv hx).tE ⟨_, e1, q _ F H _ (.o c) (Aft.clear wd) ⟨p, rfl, hf, oa, no p (.inl ⟨rfl, e1⟩), .inl ⟨i, _, e, .inl ⟨rfl, e1⟩⟩, fun q hq => ⟨no q (.inr hq), .inl ⟨i, _, e, .inr hq⟩⟩⟩ h⟩
  · exact h.elim
theorem ok_int {j : Int} {k : Nat} : OkE X W (.Constant (.int j) k pos) (wpE T.G (.int j)) := fun s Pp R h A0 F0 H0 F H σ Q wd q _ =>
  pe_int.tE (q (.int j) F H s (.v (.int j)) (Aft.refl wd) (by simp only [RsOk, Rep]) h)
theorem ok_bl {j : Bool} {k : Nat} : OkE X W (.Constant (.bool j) k pos) (wpE T.G (.bl j)) := fun s Pp R h A0 F0 H0 F H σ Q wd q _ =>
  pe_bl.tE (q (.bl j) F H s (.v (.bl j)) (Aft.refl wd) (by simp only [RsOk, Rep]) h)
theorem ok_non {k : Nat} : OkE X W (.Constant .none k pos) (wpE T.G .non) := fun s Pp R h A0 F0 H0 F H σ Q wd q _ =>
  pe_non.tE (q .non F H s (.v .non) (Aft.refl wd) (by simp only [RsOk, Rep]) h)
theorem ok_str {j : Str} {k : Nat} : OkE X W (.Constant (.str j) k pos) (wpE T.G (.str j)) := fun s Pp R h A0 F0 H0 F H σ Q wd q _ =>
  pe_str.tE (q (.str j) F H s (.v (.str j)) (Aft.refl wd) (by simp only [RsOk, Rep]) h)
theorem ok_cst (g : Good T X sc N fb) {j : Int} (hc : T.cs x = some j) (hg : glB sc x = true) (hx : okNm x = true) : OkE X W (.Name x pos) (wpE T.G (.cst x j)) := fun s Pp R h A0 F0 H0 F H σ Q wd q _ => by
  obtain ⟨t, e⟩ := g.cs x j hc
  exact (pe_glob (v := .int j) (glB_ok g hg) e ⟨t, rfl⟩ (okNm_dbg hx).1).tE (q (.int j) F H s (.v (.int j)) (Aft.refl wd) (by simp only [RsOk, Rep]) h)
end
end DL

set_option maxHeartbeats 2000000
namespace DL
open PySem PySem.Spec PyProof.Rows L2

section
variable (X : Cx)
def rC (f : Value → Value → Sem Value) : R2 := fun x y H Q => ∀ pins s σ v u, Inv X pins σ H s → RelV x v → RelV y u → wpAny (model X.prog X.w) X.A (f v u) (EP X pins σ Q) X.xe s
def rC1 (f : Value → Sem Value) : V → Hp → VK → Prop := fun x H Q => ∀ pins s σ v, Inv X pins σ H s → RelV x v → wpAny (model X.prog X.w) X.A (f v) (EP X pins σ Q) X.xe s
def rCl (f : Value) : List V → Hp → VK → Prop := fun xs H Q => ∀ pins s σ us, Inv X pins σ H s → Vals xs us → wpAny (model X.prog X.w) X.A (call f us) (EP X pins σ Q) X.xe s
def rIxC : R2 := fun x y H Q => ∀ value slice pins s σ v u, Inv X pins σ H s → RelV x v → RelV y u → subscripted slice false v u = operate [v, u] (getItem v u) → wpAny (model X.prog X.w) X.A (subscriptTail value slice v u) (EP X pins σ Q) X.xe s
variable {X}
theorem opC (f : Value → Value → Sem Value) : OpR X f (rC X f) := fun pins s σ H x y v u Q I rx ry h => h pins s σ v u I rx ry
theorem unC (f : Value → Sem Value) : UnR X f (rC1 X f) := fun pins s σ H x v Q I rx h => h pins s σ v I rx
theorem clC (f : Value) : CallR X f (rCl X f) := fun pins s σ H xs us Q I rx h => h pins s σ us I rx
theorem ixC : IxR X (rIxC X) := fun value slice pins s σ H x y v u Q I rx ry h hs => h value slice pins s σ v u I rx ry hs
theorem toC {f : Value → Value → Sem Value} {r : R2} (h : OpR X f r) {x y : V} {H : Hp} {Q : VK} (q : r x y H Q) : rC X f x y H Q := fun pins s σ v u I rx ry => h pins s σ H x y v u Q I rx ry q
theorem toC1 {f : Value → Sem Value} {r : V → Hp → VK → Prop} (h : UnR X f r) {x : V} {H : Hp} {Q : VK} (q : r x H Q) : rC1 X f x H Q := fun pins s σ v I rx => h pins s σ H x v Q I rx q
theorem toCl {f : Value} {r : List V → Hp → VK → Prop} (h : CallR X f r) {xs : List V} {H : Hp} {Q : VK} (q : r xs H Q) : rCl X f xs H Q := fun pins s σ us I rx => h pins s σ H xs us Q I rx q
theorem toIx {r : R2} (h : IxR X r) {x y : V} {H : Hp} {Q : VK} (q : r x y H Q) : rIxC X x y H Q := fun value slice pins s σ v u I rx ry hs => h value slice pins s σ H x y v u Q I rx ry q hs
end

/-! ### tuples and lists behind an operation -/
section
variable {P : Program} {w : World} {K : PySem.W.Frag} {A0 : Addr → Prop} {F0 H0 F H F' H' : Hp} {σ : L2.St} {s s' : DSt} {p : Addr}
theorem Reps.rep {ds : List D} {vs : List V} (h : Reps P w K F ds vs) : ∀ n : Nat, Reps P w K F (List.replicate n ds).flatten (List.replicate n vs).flatten
  | 0 => by simp only [List.replicate_zero, List.flatten_nil]; exact Reps.nil
  | n + 1 => by
    rw [List.replicate_succ, List.replicate_succ, List.flatten_cons, List.flatten_cons]
    exact h.append (Reps.rep h n)
/-- what the caller of an expression's rule wants -/
def Fin (P : Program) (w : World) (K : PySem.W.Frag) (A0 : Addr → Prop) (F0 H0 : Hp) (σ : L2.St) (s : DSt) (F H : Hp) (Pp : DSt → Rs → Prop) (Q : VK) : Prop :=
  ∀ v F' H' s' r, Aft P w K A0 F0 H0 σ s F H s' F' H' → RsOk P w K (ownA σ s) H F' H' σ s' v r → Pp s' r → Q v H'
variable {Pp : DSt → Rs → Prop} {Q : VK}
theorem Fin.v (q : Fin P w K A0 F0 H0 σ s F H Pp Q) {v : V} {d : D} (a : Aft P w K A0 F0 H0 σ s F H s' F' H') (r : Rep P w K F' d v) (h : Pp s' (.v d)) : Q v H' := q v F' H' s' (.v d) a r h
theorem Fin.int (q : Fin P w K A0 F0 H0 σ s F H Pp Q) {i : Int} (a : Aft P w K A0 F0 H0 σ s F H s' F' H') (h : Pp s' (.v (.int i))) : Q (.int i) H' := q.v a (by simp only [Rep]) h
theorem Fin.bl (q : Fin P w K A0 F0 H0 σ s F H Pp Q) {i : Bool} (a : Aft P w K A0 F0 H0 σ s F H s' F' H') (h : Pp s' (.v (.bl i))) : Q (.bl i) H' := q.v a (by simp only [Rep]) h
theorem Fin.str (q : Fin P w K A0 F0 H0 σ s F H Pp Q) {i : Str} (a : Aft P w K A0 F0 H0 σ s F H s' F' H') (h : Pp s' (.v (.str i))) : Q (.str i) H' := q.v a (by simp only [Rep]) h
theorem Fin.lst (q : Fin P w K A0 F0 H0 σ s F H Pp Q) {ds : List D} {vs : List V} (a : Aft P w K A0 F0 H0 σ s F H s' F' H') (r : Reps P w K F' ds vs) (h : Pp s' (.o (.l ds))) (hp : H' p = none) : Q (.ref p) (upd H' p (.lst vs)) :=
  q _ _ _ _ _ (a.addH hp) (a.newL hp r) h
theorem Fin.tup (q : Fin P w K A0 F0 H0 σ s F H Pp Q) {ds : List D} {vs : List V} (a : Aft P w K A0 F0 H0 σ s F H s' F' H') (r : Reps P w K F' ds vs) (h : Pp s' (.v (.tup ds))) (hp : H' p = none) : Q (.ref p) (upd H' p (.tup vs)) :=
  q.v (a.add hp) (by
    simp only [Rep]
    exact ⟨p, vs, rfl, upd_same, Reps.mono (Ex.new (a.wd.ex.free hp)) _ _ r⟩) h
theorem sqT_in (e : Ex F H) {a : Addr} {vs : List V} (h : F a = some (.tup vs)) : SqT K H a vs := SqT.of (e _ _ h)
end
theorem Reps.ne_nil {P : Program} {w : World} {K : PySem.W.Frag} {F : Hp} {ds : List D} {vs : List V} (h : Reps P w K F ds vs) : ds = [] ↔ vs = [] := by
  have := h.length
  constructor
  · intro e; subst e; exact List.eq_nil_of_length_eq_zero (by simpa using this.symm)
  · intro e; subst e; exact List.eq_nil_of_length_eq_zero (by simpa using this)

def opn : Op2 → Operator
  | .add => .Add | .sub => .Sub | .mul => .Mult | .fdiv => .FloorDiv | .mod => .Mod | .pow => .Pow
section
variable {T : Tab} {X : Cx} {sc : Scope} {N : List Str} {fb : Str → Bool} {W : WX} {a b c : Expr} {ea eb ec : E} {pos : Pos}
theorem flat1 {α : Type} (xs : List α) : (List.replicate 1 xs).flatten = xs := by simp
theorem ok_bin (g : Good T X sc N fb) {op : Op2} (ha : OkE X W a (wpE T.G ea)) (hb : OkE X W b (wpE T.G eb)) : OkE X W (.BinOp a (opn op) b pos) (wpE T.G (.bin op ea eb)) := by
  intro s Pp R h A0 F0 H0 F H σ Q wd q hR
  simp only [wpE] at h
  refine (pe_op (opC _) (pE a) (pE b)).tE (two (Q := fun v u H' => rC X (binaryOp (opn op)) v u H' Q) (k2 := fun s2 d1 d2 => binD op d1 d2 (Pp s2)) ha hb h wd (fun v u F' H' s' d1 d2 aft r1 r2 hk => ?_) hR)
  have q' : Fin X.prog X.w X.K A0 F0 H0 σ s F H Pp Q := q
  unfold binD at hk
  split at hk
  · simp only [Rep] at r1 r2; subst r1 r2
    exact toC op_add ⟨_, _, rfl, rfl, q'.int aft hk⟩
  · simp only [Rep] at r1 r2; subst r1 r2
    exact toC op_add_str ⟨_, _, rfl, rfl, hk.1, q'.str aft hk.2⟩
  · simp only [Rep] at r1 r2
    obtain ⟨p1, vs1, rfl, h1, t1⟩ := r1
    obtain ⟨p2, vs2, rfl, h2, t2⟩ := r2
    exact toC op_cat ⟨_, _, _, _, rfl, rfl, aft.wd.ex _ _ h1, aft.wd.ex _ _ h2, by rw [← t1.length, ← t2.length]; exact hk.1, fun p hp => q'.lst aft (t1.append t2) hk.2 hp⟩
  · simp only [Rep] at r1 r2
    obtain ⟨p1, vs1, rfl, h1, t1⟩ := r1
    obtain ⟨p2, vs2, rfl, h2, t2⟩ := r2
    refine toC op_catA ⟨_, _, _, _, rfl, rfl, sqT_in aft.wd.ex h1, sqT_in aft.wd.ex h2, by rw [← t1.length, ← t2.length]; exact hk.1, fun e => ?_, fun _ e => ?_, fun _ _ p hp => q'.tup aft (t1.append t2) hk.2 hp⟩
    · refine q'.v aft ?_ hk.2
      simp only [Rep]
      exact ⟨p2, vs2, rfl, h2, by rw [t1.ne_nil.mpr e]; exact t2⟩
    · refine q'.v aft ?_ hk.2
      simp only [Rep]
      exact ⟨p1, vs1, rfl, h1, by rw [t2.ne_nil.mpr e, List.append_nil]; exact t1⟩
  · simp only [Rep] at r1 r2; subst r1 r2
    exact toC op_sub ⟨_, _, rfl, rfl, q'.int aft hk⟩
  · simp only [Rep] at r1 r2; subst r1 r2
    rcases hk.1 with z | z
    · exact toC op_mul ⟨_, _, rfl, rfl, z, q'.int aft hk.2⟩
    · exact toC op_mulW ⟨_, _, rfl, rfl, z, q'.int aft hk.2⟩
  · simp only [Rep] at r1 r2; subst r2
    obtain ⟨p1, vs1, rfl, h1, t1⟩ := r1
    exact toC op_rep ⟨_, _, _, rfl, rfl, aft.wd.ex _ _ h1, hk.1.1, hk.1.2, by rw [← t1.length]; exact hk.2.1, fun p hp => q'.lst aft (t1.rep _) hk.2.2 hp⟩
  · simp only [Rep] at r1 r2; subst r2
    obtain ⟨p1, vs1, rfl, h1, t1⟩ := r1
    obtain ⟨⟨n1, n2, n3, n4⟩, hk⟩ := hk
    exact toC op_repT ⟨_, _, _, rfl, rfl, sqT_in aft.wd.ex h1, fun e => n1 (t1.ne_nil.mpr e), n2, n3, by rw [← t1.length]; exact n4, fun p hp => q'.tup aft (t1.rep _) hk hp⟩
  · simp only [Rep] at r1 r2; subst r1 r2
    rcases hk.1 with z | z
    · exact toC op_fdiv ⟨_, _, rfl, rfl, z, q'.int aft hk.2⟩
    · exact toC op_fdivW ⟨_, _, rfl, rfl, z, q'.int aft hk.2⟩
  · simp only [Rep] at r1 r2; subst r1 r2
    exact toC op_mod ⟨_, _, rfl, rfl, hk.1, q'.int aft hk.2⟩
  · simp only [Rep] at r1 r2; subst r1 r2
    exact toC op_pow ⟨_, _, rfl, rfl, hk.1, q'.int aft hk.2⟩
  · exact hk.elim
theorem ok_neg (g : Good T X sc N fb) (ha : OkE X W a (wpE T.G ea)) : OkE X W (.UnaryOp .USub a pos) (wpE T.G (.neg ea)) := by
  intro s Pp R h A0 F0 H0 F H σ Q wd q hR
  simp only [wpE] at h
  refine (pe_un (unC _) (pE a)).tE (one (Q := fun v H' => rC1 X (unaryOp .USub) v H' Q) (k1 := fun s1 d1 => asI d1 fun i => Pp s1 (.v (.int (-i)))) ha h wd (fun v F' H' s' d aft r hk => ?_) hR)
  have q' : Fin X.prog X.w X.K A0 F0 H0 σ s F H Pp Q := q
  unfold asI at hk
  split at hk
  · simp only [Rep] at r; subst r
    exact toC1 un_neg ⟨_, rfl, q'.int aft hk⟩
  · exact hk.elim
end
end DL

set_option maxHeartbeats 2000000
namespace DL
open PySem PySem.Spec PyProof.Rows L2

/-! ### data as the library's -/
section
variable {P : Program} {w : World} {K : PySem.W.Frag} {H : Hp}
mutual
theorem Rep.dp : ∀ (d : D) (v : V), Rep P w K H d v → d.flat = true → Dp K H v d.py
  | .non, _, h, _ => by simp only [Rep] at h; subst h; simp only [D.py]; exact .non
  | .bl _, _, h, _ => by simp only [Rep] at h; subst h; simp only [D.py]; exact .bl _
  | .int _, _, h, _ => by simp only [Rep] at h; subst h; simp only [D.py]; exact .int _
  | .str _, _, h, _ => by simp only [Rep] at h; subst h; simp only [D.py]; exact .str _
  | .tup ds, _, h, f => by
    simp only [Rep] at h
    simp only [D.flat] at f
    obtain ⟨a, vs, rfl, h2, h3⟩ := h
    simp only [D.py]
    exact .tup (SqT.of h2) (Reps.dp ds vs h3 f)
  | .lst ds, _, h, f => by
    simp only [Rep] at h
    simp only [D.flat] at f
    obtain ⟨a, vs, rfl, h2, h3⟩ := h
    simp only [D.py]
    exact .lst (SqL.of h2) (Reps.dp ds vs h3 f)
  | .scr _, _, _, f => by simp [D.flat] at f
  | .dI _ _, _, _, f => by simp [D.flat] at f
  | .dT _ _, _, _, f => by simp [D.flat] at f
theorem Reps.dp : ∀ (ds : List D) (vs : List V), Reps P w K H ds vs → flats ds = true → DpAll K H vs (pys ds)
  | [], _, h, _ => by simp only [Reps] at h; subst h; simp only [pys]; exact .nil
  | d :: ds, _, h, f => by
    simp only [Reps] at h
    simp only [flats, Bool.and_eq_true] at f
    obtain ⟨v, r, rfl, h2, h3⟩ := h
    simp only [pys]
    exact .cons (Rep.dp d v h2 f.1) (Reps.dp ds r h3 f.2)
end
mutual
theorem flat_lay : ∀ d : D, d.flat = true → d.py.canLay0 = true
  | .non, _ => by simp [D.py, PyData.canLay0]
  | .bl _, _ => by simp [D.py, PyData.canLay0]
  | .int _, _ => by simp [D.py, PyData.canLay0]
  | .str _, h => by simpa [D.py, D.flat] using h
  | .tup ds, h => by
    simp only [D.flat] at h
    simp only [D.py, PyData.canLay0]
    exact flats_lay ds h
  | .lst ds, h => by
    simp only [D.flat] at h
    simp only [D.py, PyData.canLay0]
    exact flats_lay ds h
  | .scr _, f => by simp [D.flat] at f
  | .dI _ _, f => by simp [D.flat] at f
  | .dT _ _, f => by simp [D.flat] at f
theorem flats_lay : ∀ ds : List D, flats ds = true → PyData.canLayAll0 (pys ds) = true
  | [], _ => by simp [pys, PyData.canLayAll0]
  | d :: ds, h => by
    simp only [flats, Bool.and_eq_true] at h
    simp only [pys, PyData.canLayAll0, Bool.and_eq_true]
    exact ⟨flat_lay d h.1, flats_lay ds h.2⟩
end
theorem EqOk.shaped {d : D} (h : EqOk d) : SeqAt.shaped d.py = true := by
  unfold SeqAt.shaped
  rw [flat_lay d h.1, decide_eq_true h.2] <;> rfl
theorem Rep.dpm {F : Hp} (e : Ex F H) {d : D} {v : V} (h : Rep P w K F d v) (f : d.flat = true) : Dp K H v d.py := Rep.dp d v (Rep.mono e d v h) f
theorem isNon_rep {d : D} {v : V} (h : Rep P w K H d v) : decide (v = .non) = isNonD d := by
  cases d <;> simp only [Rep] at h
  · subst h; rfl
  · subst h; rfl
  · subst h; rfl
  · subst h; rfl
  all_goals
    obtain ⟨a, q⟩ := h
    try obtain ⟨_, q⟩ := q
    try obtain ⟨_, q⟩ := q
    try obtain ⟨_, q⟩ := q
    simp_all [isNonD]
end
section
variable {X : Cx}
theorem in_tupD (hu : X.A.units + 65 < cLine) : OpR X (compareOp .In) (fun x y H Q => ∃ d ds, Dp X.K H x d ∧ Dp X.K H y (.tuple ds) ∧ SeqAt.shaped d = true ∧ SeqAt.shaped (.tuple ds) = true ∧ Q (.bl (ds.any fun z => PyData.eqv z d)) H) :=
  fun pins s σ H x y v u Q I rx ry h => by
  obtain ⟨d, ds, hd, he, sd, se, q⟩ := h
  obtain ⟨as, r1⟩ := Dp.reads I d x v hd rx
  obtain ⟨bs, r2⟩ := Dp.reads I (.tuple ds) y u he ry
  exact SeqAt.in_tuple_reads r2 r1 (SeqAt.canLay_of_shaped se) (SeqAt.canLay_of_shaped sd) (room_in_shaped sd hu) ⟨.bl _, H, I, rfl, q⟩
theorem notIn_tupD (hu : X.A.units + 65 < cLine) : OpR X (compareOp .NotIn) (fun x y H Q => ∃ d ds, Dp X.K H x d ∧ Dp X.K H y (.tuple ds) ∧ SeqAt.shaped d = true ∧ SeqAt.shaped (.tuple ds) = true ∧ Q (.bl (!ds.any fun z => PyData.eqv z d)) H) :=
  fun pins s σ H x y v u Q I rx ry h => by
  obtain ⟨d, ds, hd, he, sd, se, q⟩ := h
  obtain ⟨as, r1⟩ := Dp.reads I d x v hd rx
  obtain ⟨bs, r2⟩ := Dp.reads I (.tuple ds) y u he ry
  exact SeqAt.notIn_tuple_reads r2 r1 (SeqAt.canLay_of_shaped se) (SeqAt.canLay_of_shaped sd) (room_in_shaped sd hu) ⟨.bl _, H, I, rfl, q⟩
end

/-! ### dicts with tuple keys, asked -/
theorem nested_sub {P : Program} {w : World} : True := trivial
section
variable {X : Cx} {pins : List (Addr × Obj)} {σ : L2.St} {H : Hp} {s : Shared}
mutual
theorem Rep.nested (I : Inv X pins σ H s) : ∀ (d : D) (v : V) (u : Value), Rep X.prog X.w X.K H d v → d.isKey = true → RelV v u → NestedIs s.heap d.key u
  | .non, _, _, h, _, r => by simp only [Rep] at h; subst h; cases r; simp only [D.key]; exact .none
  | .bl b, _, _, h, _, r => by simp only [Rep] at h; subst h; cases r; simp only [D.key]; exact .bool rfl
  | .int _, _, _, h, _, r => by simp only [Rep] at h; subst h; obtain ⟨t, rfl⟩ := r; simp only [D.key]; exact .int _ _
  | .str _, _, _, h, _, r => by simp only [Rep] at h; subst h; obtain ⟨t, rfl⟩ := r; simp only [D.key]; exact .text _ _
  | .tup ds, _, _, h, k, r => by
    simp only [Rep] at h
    simp only [D.isKey] at k
    obtain ⟨a, vs, rfl, h2, h3⟩ := h
    cases r
    obtain ⟨its, rv, ⟨o, ho, hc, n, hd⟩, _⟩ := I.tuple (SqT.of h2)
    simp only [D.key]
    exact .tup ho hc hd (Reps.nested I ds vs its h3 k rv)
  | .lst _, _, _, _, k, _ => by simp [D.isKey] at k
  | .scr _, _, _, _, k, _ => by simp [D.isKey] at k
  | .dI _ _, _, _, _, k, _ => by simp [D.isKey] at k
  | .dT _ _, _, _, _, k, _ => by simp [D.isKey] at k
theorem Reps.nested (I : Inv X pins σ H s) : ∀ (ds : List D) (vs : List V) (us : List Value), Reps X.prog X.w X.K H ds vs → areKeys ds = true → Vals vs us → NestedAll s.heap (keys ds) us
  | [], _, _, h, _, r => by simp only [Reps] at h; subst h; cases r; simp only [keys]; exact .nil
  | d :: ds, _, _, h, k, r => by
    simp only [Reps] at h
    simp only [areKeys, Bool.and_eq_true] at k
    obtain ⟨v, vr, rfl, h2, h3⟩ := h
    cases r with
    | cons r1 r2 =>
      simp only [keys]
      exact .cons (Rep.nested I d v _ h2 k.1 r1) (Reps.nested I ds vr _ h3 k.2 r2)
end
theorem Rep.isKey8 (I : Inv X pins σ H s) {d : D} {a : Addr} (h : Rep X.prog X.w X.K H d (.ref a)) (k : kOk1 d = true) : (nestedKind X.prog X.w).is s.heap d.key a := by
  cases d <;> simp only [kOk1, Bool.false_eq_true] at k
  rename_i xs
  simp only [Bool.and_eq_true, decide_eq_true_eq] at k
  exact ⟨Rep.nested I (.tup xs) _ _ h (by simpa only [D.isKey] using k.1) rfl, by simpa only [D.key] using k.2⟩
theorem kOk1_ref {P : Program} {w : World} {K : PySem.W.Frag} {d : D} {v : V} (h : Rep P w K H d v) (k : kOk1 d = true) : ∃ a, v = .ref a := by
  cases d <;> simp only [kOk1, Bool.false_eq_true] at k
  simp only [Rep] at h
  obtain ⟨a, vs, e, _⟩ := h
  exact ⟨a, e⟩
theorem keys_length : ∀ ks : List D, (keys ks).length = ks.length
  | [] => rfl
  | _ :: ks => by simp [keys, keys_length ks]
theorem keys_get : ∀ (ks : List D) (i : Nat), (keys ks)[i]? = (ks[i]?).map D.key
  | [], _ => by simp [keys]
  | _ :: _, 0 => by simp [keys]
  | _ :: ks, i + 1 => by simpa [keys] using keys_get ks i
/-- the look-up of the library's entries -/
theorem atKey_zip : ∀ (ks : List NestedKey) (as : List Addr) (us : List Value) (k : NestedKey), ks.length = as.length → ks.length = us.length → (atKey (ks.zip (as.zip us)) k).map (·.2) = lookL ks us k
  | [], [], [], k, _, _ => by simp [atKey, lookL]
  | q :: ks, a :: as, u :: us, k, h1, h2 => by
    by_cases c : q = k
    · simp [atKey, lookL, c]
    · have := atKey_zip ks as us k (by simpa using h1) (by simpa using h2)
      simp only [atKey] at this
      simp [atKey, lookL, c, this]
theorem lookL_vals {κ : Type} [DecidableEq κ] : ∀ (ks : List κ) (vs : List V) (us : List Value) (k : κ), Vals vs us → RelO (lookL ks vs k) (lookL ks us k)
  | [], vs, us, k, _ => by cases vs <;> cases us <;> simp [lookL, RelO]
  | q :: ks, _, _, k, .nil => by simp [lookL, RelO]
  | q :: ks, _, _, k, .cons r t => by
    by_cases c : q = k
    · simp only [lookL, c, if_true]; exact r
    · simp only [lookL, c, if_false]; exact lookL_vals ks _ _ k t
theorem lookL_reps {P : Program} {w : World} {K : PySem.W.Frag} {κ : Type} [DecidableEq κ] : ∀ (ks : List κ) (ds : List D) (vs : List V) (k : κ), Reps P w K H ds vs → match lookL ks ds k, lookL ks vs k with
    | some d, some v => Rep P w K H d v | none, none => True | _, _ => False
  | [], ds, vs, k, _ => by cases ds <;> cases vs <;> simp [lookL]
  | q :: ks, [], vs, k, h => by simp only [Reps] at h; subst h; simp [lookL]
  | q :: ks, d :: ds, _, k, h => by
    simp only [Reps] at h
    obtain ⟨v, r, rfl, h2, h3⟩ := h
    by_cases c : q = k
    · simp only [lookL, c, if_true]; exact h2
    · simp only [lookL, c, if_false]; exact lookL_reps ks ds r k h3
/-- a dict with tuple keys, as the library has it -/
theorem TEnt.dict (I : Inv X pins σ H s) {a : Addr} {ks : List D} {as : List Addr} {vs : List V} (e : TEnt X.prog X.w s.heap a (keys ks) as vs) (hk : kOk ks = true) (rk : Reps X.prog X.w X.K H ks (as.map V.ref)) :
    ∃ us, Vals vs us ∧ (a == sysModules) = false ∧ ks.length ≤ sizeLine ∧ s.heap.DictOfH (nestedKind X.prog X.w) a ((keys ks).zip (as.zip us)) ∧ (keys ks).length = as.length ∧ (keys ks).length = us.length ∧ (keys ks).Nodup := by
  obtain ⟨h1, h2, h3, h4, us, r, o, es, ep, e1, e2, e3, e4, nd⟩ := e
  have l2 : (keys ks).length = us.length := h4.trans r.length
  refine ⟨us, r, h1, by rw [← keys_length]; exact h2, ⟨o, es, ep, e1, e2, e3, e4, fun x hx => ?_, ?_⟩, h3, l2, nd⟩
  · obtain ⟨i, hi, ei⟩ := List.getElem_of_mem hx
    have g1 : ((keys ks).zip (as.zip us))[i]? = some x := by rw [List.getElem?_eq_getElem hi, ei]
    rw [List.getElem?_zip_eq_some] at g1
    obtain ⟨g1, g2⟩ := g1
    rw [List.getElem?_zip_eq_some] at g2
    rw [keys_get] at g1
    cases q : ks[i]? with
    | none => rw [q] at g1; cases g1
    | some d =>
      rw [q] at g1
      simp only [Option.map_some, Option.some.injEq] at g1
      obtain ⟨v, w1, w2⟩ := rk.get q
      rw [List.getElem?_map, g2.1] at w1
      simp only [Option.map_some, Option.some.injEq] at w1
      subst w1
      rw [← g1]
      exact Rep.isKey8 I w2 (List.all_eq_true.mp hk d (List.mem_of_getElem? q))
  · have : ((keys ks).zip (as.zip us)).map (·.1) = keys ks := by
      rw [List.map_fst_zip]
      rw [List.length_zip]; omega
    rw [this]; exact nd
theorem TO.ent {P : Program} {w : World} {H : Hp} {h : Heap} {a : Addr} {ks : List NestedKey} {as : List Addr} {vs : List V} (x : HOk P w H h) (e : Rd H a (TO P w a ks as vs)) : TEnt P w h a ks as vs := (e.ok x).1
end
end DL

set_option maxHeartbeats 2000000
namespace DL
open PySem PySem.Spec PyProof.Rows L2

theorem lookL_rep {P : Program} {w : World} {K : PySem.W.Frag} {H : Hp} {κ : Type} [DecidableEq κ] {ks : List κ} {ds : List D} {vs : List V} {k : κ} {d : D} (r : Reps P w K H ds vs) (e : lookL ks ds k = some d) : ∃ z, lookL ks vs k = some z ∧ Rep P w K H d z := by
  have h := lookL_reps ks ds vs k r
  rw [e] at h
  split at h
  · rename_i d' z e1 e2
    cases e1
    exact ⟨z, e2, h⟩
  · rename_i e1 _; cases e1
  · exact h.elim
theorem lookL_rep0 {P : Program} {w : World} {K : PySem.W.Frag} {H : Hp} {κ : Type} [DecidableEq κ] {ks : List κ} {ds : List D} {vs : List V} {k : κ} (r : Reps P w K H ds vs) (e : lookL ks ds k = none) : lookL ks vs k = none := by
  have h := lookL_reps ks ds vs k r
  rw [e] at h
  split at h
  · rename_i e1 _; cases e1
  · assumption
  · exact h.elim
theorem valV_kvI : ∀ (ks : List Int) (vs : List V) (i : Int), valV (kvI ks vs) (Sum.inl i) = lookL ks vs i
  | [], _, _ => by simp [kvI, valV, lookL]
  | k :: ks, [], i => by simp [kvI, valV, lookL]
  | k :: ks, v :: vs, i => by
    have ih := valV_kvI ks vs i
    simp only [kvI, valV] at ih
    by_cases c : k = i
    · simp [kvI, valV, lookL, c]
    · have : ¬ (Sum.inl k : Key) = Sum.inl i := fun e => c (Sum.inl.inj e)
      simp only [kvI, valV, lookL, c, if_false, List.map_cons, List.zip_cons_cons, List.find?_cons, this, decide_false]
      exact ih
theorem lookL_some {κ : Type} [DecidableEq κ] {α : Type} (ks : List κ) (vs : List α) (k : κ) (h : ks.length = vs.length) : (lookL ks vs k).isSome = decide (k ∈ ks) := lookL_isSome ks vs k h
section
variable {X : Cx} {a : Addr} {ks : List Int} {nk : List D} {as : List Addr} {vs : List V} {ds : List D}
/-- a dict with tuple keys, asked: in, not in, d[k] -/
theorem t_in {neg : Bool} (hu : X.A.units + 64 < cLine) {d : D} {v : V} {H : Hp} {Q : VK} (e : Rd H a (TO X.prog X.w a (keys nk) as vs)) (hk : kOk nk = true) (rk : Reps X.prog X.w X.K H nk (as.map V.ref)) (h1 : kOk1 d = true) (rd : Rep X.prog X.w X.K H d v)
    (q : Q (.bl (if neg then !decide (d.key ∈ keys nk) else decide (d.key ∈ keys nk))) H) : rC X (compareOp (if neg then .NotIn else .In)) v (.ref a) H Q := by
  intro pins s σ v' u I rv ru
  cases ru
  obtain ⟨b, rfl⟩ := kOk1_ref rd h1
  cases rv
  obtain ⟨us, r, hs, hz, dd, l1, l2, nd⟩ := (TO.ent I.hok e).dict I hk rk
  have hkey := rd.isKey8 I h1
  have room : (nestedKind X.prog X.w).room X.A.in1 := by show X.A.units + 1 + 8 < cLine; omega
  have some_eq : (atKey ((keys nk).zip (as.zip us)) d.key).isSome = decide (d.key ∈ keys nk) := by
    rw [← lookL_some (keys nk) us d.key l2, ← atKey_zip (keys nk) as us d.key l1 l2, Option.isSome_map]
  cases neg with
  | false =>
    refine wpAny_in_heap room hkey hs dd ?_
    rw [some_eq]
    exact ⟨.bl _, H, I.tok _, rfl, q⟩
  | true =>
    refine wpAny_notIn_heap room hkey hs dd ?_
    rw [some_eq]
    exact ⟨.bl _, H, I.tok _, rfl, q⟩
theorem t_get (hu : X.A.units + 64 < cLine) {d : D} {v z : V} {H : Hp} {Q : VK} (e : Rd H a (TO X.prog X.w a (keys nk) as vs)) (hk : kOk nk = true) (rk : Reps X.prog X.w X.K H nk (as.map V.ref)) (h1 : kOk1 d = true) (rd : Rep X.prog X.w X.K H d v)
    (hz : lookL (keys nk) vs d.key = some z) (q : Q z H) : rIxC X (.ref a) v H Q := by
  intro value slice pins s σ v' u I rv ru hs
  cases rv
  obtain ⟨b, rfl⟩ := kOk1_ref rd h1
  cases ru
  obtain ⟨us, r, hsy, hzz, dd, l1, l2, nd⟩ := (TO.ent I.hok e).dict I hk rk
  have hkey := rd.isKey8 I h1
  have room : (nestedKind X.prog X.w).room X.A.in1 := by show X.A.units + 1 + 8 < cLine; omega
  obtain ⟨u', hu', ru'⟩ := RelO.some_of (v := z) (o := lookL (keys nk) us d.key) (by rw [← hz]; exact lookL_vals _ _ _ _ r)
  rw [← atKey_zip (keys nk) as us d.key l1 l2] at hu'
  obtain ⟨p, hp, hp2⟩ := Option.map_eq_some_iff.mp hu'
  refine tail_any dd.typeIs PySem.F.slot_dict_getitem.lookup (wpAny_getItem_heap room hkey dd hp ?_) hs
  rw [hp2]
  exact ⟨z, H, I.tok _, ru', q⟩
theorem i_in {neg : Bool} (hu : X.A.units + 64 < cLine) {i : Int} {H : Hp} {Q : VK} (e : Rd H a (.dK (kvI ks vs))) (hl : ks.length = vs.length)
    (q : Q (.bl (if neg then !decide (i ∈ ks) else decide (i ∈ ks))) H) : rC X (compareOp (if neg then .NotIn else .In)) (.int i) (.ref a) H Q := by
  intro pins s σ v' u I rv ru
  cases ru
  have g : DGet H a (.int i) (valV (kvI ks vs) (Sum.inl i)) := .inl ⟨_, Sum.inl i, e, rfl, rfl⟩
  rw [valV_kvI] at g
  have se := lookL_some ks vs i hl
  cases neg with
  | false => exact d_in (by omega) I g rv fun s' I' => ⟨.bl _, H, I', by rw [se]; rfl, q⟩
  | true => exact d_notIn (by omega) I g rv fun s' I' => ⟨.bl _, H, I', by rw [se]; rfl, q⟩
theorem i_get (hu : X.A.units + 64 < cLine) {i : Int} {z : V} {H : Hp} {Q : VK} (e : Rd H a (.dK (kvI ks vs))) (hz : lookL ks vs i = some z) (q : Q z H) : rIxC X (.ref a) (.int i) H Q := by
  intro value slice pins s σ v' u I rv ru hs
  cases rv
  have g : DGet H a (.int i) (some z) := .inl ⟨_, Sum.inl i, e, rfl, by rw [valV_kvI, hz]⟩
  exact tail_any (dict_typeIs I g) PySem.F.slot_dict_getitem.lookup (d_getItem (by omega) I g ru fun w' s' I' rw' => ⟨z, H, I', rw', q⟩) hs
end

/-! ### comparisons -/
def cpn : Cp → CmpOp
  | .eq => .Eq | .ne => .NotEq | .lt => .Lt | .le => .LtE | .gt => .Gt | .ge => .GtE | .is => .Is | .isNot => .IsNot | .in_ => .In | .notIn => .NotIn
section
variable {T : Tab} {X : Cx} {sc : Scope} {N : List Str} {fb : Str → Bool}
variable {A0 : Addr → Prop} {F0 H0 F H F' H' : Hp} {σ : L2.St} {s s' : DSt} {v u : V} {d1 d2 : D} {Q : VK}
theorem Good.u64 (g : Good T X sc N fb) : X.A.units + 64 < cLine := g.room.units
theorem Good.u65 (g : Good T X sc N fb) : X.A.units + 65 < cLine := by have := g.room.un; omega
theorem inD_ok (g : Good T X sc N fb) {neg : Bool} {k : Bool → Prop} (ex : Ex F' H') (r1 : Rep X.prog X.w X.K F' d1 v) (r2 : Rep X.prog X.w X.K F' d2 u) (h : inD neg d1 d2 k) (q : ∀ b, k b → Q (.bl b) H') :
    rC X (compareOp (if neg then .NotIn else .In)) v u H' Q := by
  rw [inD_eq] at h
  unfold inD0 at h
  split at h
  · rename_i ys
    have a2 : Dp X.K H' u (.list (pys ys)) := by have := r2.dpm ex h.2.1.1; simpa only [D.py] using this
    have s2 : SeqAt.shaped (.list (pys ys)) = true := by have := h.2.1.shaped; simpa only [D.py] using this
    cases neg with
    | false => exact toC (op_inD g.u65) ⟨_, _, r1.dpm ex h.1.1, a2, h.1.shaped, s2, q _ h.2.2⟩
    | true => exact toC (op_notInD g.u65) ⟨_, _, r1.dpm ex h.1.1, a2, h.1.shaped, s2, q _ h.2.2⟩
  · rename_i ys
    have a2 : Dp X.K H' u (.tuple (pys ys)) := by have := r2.dpm ex h.2.1.1; simpa only [D.py] using this
    have s2 : SeqAt.shaped (.tuple (pys ys)) = true := by have := h.2.1.shaped; simpa only [D.py] using this
    cases neg with
    | false => exact toC (in_tupD g.u65) ⟨_, _, r1.dpm ex h.1.1, a2, h.1.shaped, s2, q _ h.2.2⟩
    | true => exact toC (notIn_tupD g.u65) ⟨_, _, r1.dpm ex h.1.1, a2, h.1.shaped, s2, q _ h.2.2⟩
  · unfold asI at h
    split at h
    · simp only [Rep] at r1 r2
      obtain ⟨a, o, vs, rfl, h1, h2, h3⟩ := r2
      subst r1
      exact i_in g.u64 (.inr ⟨o, ex _ _ h1⟩) (h2.trans h3.length) (q _ h)
    · exact h.elim
  · simp only [Rep] at r2
    obtain ⟨a, o, as, vs, rfl, h1, h2, h3, h4, h5⟩ := r2
    exact t_in g.u64 (.inr ⟨o, ex _ _ h1⟩) h3 (Reps.mono ex _ _ h4) h.1 (Rep.mono ex _ _ r1) (q _ h.2)
  · exact h.elim
theorem cmpD_ok (g : Good T X sc N fb) {op : Cp} {k : Bool → Prop} (ex : Ex F' H') (r1 : Rep X.prog X.w X.K F' d1 v) (r2 : Rep X.prog X.w X.K F' d2 u) (h : cmpD op d1 d2 k) (q : ∀ b, k b → Q (.bl b) H') :
    rC X (compareOp (cpn op)) v u H' Q := by
  rw [cmpD_eq, cmpD0.eq_def] at h
  cases op <;> dsimp only at h
  · exact toC (op_eqD g.u64) ⟨_, _, r1.dpm ex h.1.1, r2.dpm ex h.2.1.1, h.1.shaped, h.2.1.shaped, q _ h.2.2⟩
  · exact toC (op_neD g.u64) ⟨_, _, r1.dpm ex h.1.1, r2.dpm ex h.2.1.1, h.1.shaped, h.2.1.shaped, q _ h.2.2⟩
  all_goals try
    unfold asI at h
    split at h
    · split at h
      · simp only [Rep] at r1 r2
        subst r1 r2
        first
          | exact toC op_lt ⟨_, _, rfl, rfl, q _ h⟩
          | exact toC op_le ⟨_, _, rfl, rfl, q _ h⟩
          | exact toC op_gt ⟨_, _, rfl, rfl, q _ h⟩
          | exact toC op_ge ⟨_, _, rfl, rfl, q _ h⟩
      · exact h.elim
    · exact h.elim
  · split at h
    · simp only [Rep] at r2; subst r2
      exact toC op_isN ⟨rfl, by rw [isNon_rep r1]; exact q _ h⟩
    · unfold asB at h
      split at h
      · simp only [Rep] at r1 r2; subst r1 r2
        exact toC op_isBl ⟨_, _, rfl, rfl, q _ h⟩
      · exact h.elim
    · exact h.elim
  · split at h
    · simp only [Rep] at r2; subst r2
      exact toC op_notN ⟨rfl, by rw [isNon_rep r1]; exact q _ h⟩
    · unfold asB at h
      split at h
      · simp only [Rep] at r1 r2; subst r1 r2
        exact toC op_notBl ⟨_, _, rfl, rfl, q _ h⟩
      · exact h.elim
    · exact h.elim
  · exact inD_ok g (neg := false) ex r1 r2 h q
  · exact inD_ok g (neg := true) ex r1 r2 h q
end
def notSet (e : Expr) : Bool := match e with | .Set .. => false | _ => true
theorem notSet_ok {op : CmpOp} {e : Expr} (h : notSet e = true) : behindInMarks op e = false := by
  cases e <;> first | rfl | cases h
section
variable {T : Tab} {X : Cx} {sc : Scope} {N : List Str} {fb : Str → Bool} {W : WX} {a b c : Expr} {ea eb ec : E} {pos : Pos}
theorem okR_cmp (g : Good T X sc N fb) {op : Cp} (ha : OkE X W a (wpE T.G ea)) (hb : OkE X W b (wpE T.G eb)) : OkR X W (tOp (rC X (compareOp (cpn op))) (tE X a) (tE X b)) (wpE T.G (.cmp op ea eb)) := by
  intro s Pp R h A0 F0 H0 F H σ Q wd q hR
  simp only [wpE, iteB_eq, iteB0] at h
  have q' : Fin X.prog X.w X.K A0 F0 H0 σ s F H Pp Q := q
  exact two (Q := fun v u H' => rC X (compareOp (cpn op)) v u H' Q) (k2 := fun s2 d1 d2 => cmpD op d1 d2 fun t => Pp s2 (.v (.bl t))) ha hb h wd
    (fun v u F' H' s' d1 d2 aft r1 r2 hk => cmpD_ok g aft.wd.ex r1 r2 hk fun t ht => q'.bl aft ht) hR
theorem okR_chain (g : Good T X sc N fb) {o1 o2 : Cp} (ha : OkE X W a (wpE T.G ea)) (hb : OkE X W b (wpE T.G eb)) (hc : OkE X W c (wpE T.G ec)) :
    OkR X W (tChain (rC X (compareOp (cpn o1))) (rC X (compareOp (cpn o2))) (tE X a) (tE X b) (tE X c)) (wpE T.G (.chain o1 o2 ea eb ec)) := by
  intro s Pp R h A0 F0 H0 F H σ Q wd q hR
  simp only [wpE, iteB_eq, iteB0] at h
  have q' : Fin X.prog X.w X.K A0 F0 H0 σ s F H Pp Q := q
  refine two (Q := fun v u H' => rC X (compareOp (cpn o1)) v u H' fun z H3 => ∃ k, z = .bl k ∧ (if k = true then tE X c σ H3 fun w' H4 => rC X (compareOp (cpn o2)) u w' H4 Q else Q (.bl false) H3)) (k2 := fun s2 d1 d2 => cmpD o1 d1 d2 fun t => _) ha hb h wd ?_ hR
  intro v u F' H' s' d1 d2 aft r1 r2 hk
  refine cmpD_ok g aft.wd.ex r1 r2 hk fun t ht => ⟨t, rfl, ?_⟩
  cases t with
  | false =>
    simp only [iteB_eq, iteB0, Bool.false_eq_true, if_false] at ht ⊢
    exact q'.bl aft ht
  | true =>
    simp only [iteB_eq, iteB0, if_true] at ht ⊢
    refine one (Q := fun w' H4 => rC X (compareOp (cpn o2)) u w' H4 Q) (k1 := fun s3 d3 => cmpD o2 d2 d3 fun t2 => Pp s3 (.v (.bl t2))) hc ht aft.wd (fun w' F2 H2 s2 d3 aft2 r3 hk2 => ?_) fun c C H' hc hm hk => hR c C H' hc hm fun b o e n => hk b o (aft.st.kp b o e n) fun z => n (aft.sub b z)
    exact cmpD_ok g aft2.wd.ex (Rep.mono aft2.st.ex _ _ r2) r3 hk2 fun t2 ht2 => q'.bl (aft.trans aft2) ht2
theorem OkR.e {e : Expr} {t : TE} {wp : DSt → (DSt → Rs → Prop) → (Str → Prop) → Prop} (h : OkR X W t wp) (p : L2.PE X e t) : OkE X W e wp := fun s Pp R hw A0 F0 H0 F H σ Q wd q hR => p.tE (h s Pp R hw A0 F0 H0 F H σ Q wd q hR)
theorem OkT.t {e : Expr} {t : TT} {wp : DSt → (DSt → Rs → Prop) → (Str → Prop) → Prop} (h : OkT X W t wp) (p : PT X e t) : OkT X W (tT X e) wp := fun s k R hw A0 F0 H0 F H σ Q wd q hR => p.tT (h s k R hw A0 F0 H0 F H σ Q wd q hR)
theorem OkT.w {e : Expr} {t : TT} {wp : DSt → (DSt → Rs → Prop) → (Str → Prop) → Prop} (h : OkT X W t wp) (p : PW X e t) : OkT X W (tW X e) wp := fun s k R hw A0 F0 H0 F H σ Q wd q hR => p.tW (h s k R hw A0 F0 H0 F H σ Q wd q hR)
theorem ok_cmp (g : Good T X sc N fb) {op : Cp} (hs : notSet b = true) (ha : OkE X W a (wpE T.G ea)) (hb : OkE X W b (wpE T.G eb)) : OkE X W (.Compare a [cpn op] [b] pos) (wpE T.G (.cmp op ea eb)) :=
  (okR_cmp g ha hb).e (pe_cmpR (opC _) (pE a) (pE b) (notSet_ok hs))
theorem okT_cmp (g : Good T X sc N fb) {op : Cp} (hs : notSet b = true) (ha : OkE X W a (wpE T.G ea)) (hb : OkE X W b (wpE T.G eb)) : OkT X W (tT X (.Compare a [cpn op] [b] pos)) (wpE T.G (.cmp op ea eb)) :=
  (okR_cmp g ha hb).test.t (pt_cmpR (opC _) (pE a) (pE b) (notSet_ok hs))
theorem ok_chain (g : Good T X sc N fb) {o1 o2 : Cp} (hs : notSet c = true) (ha : OkE X W a (wpE T.G ea)) (hb : OkE X W b (wpE T.G eb)) (hc : OkE X W c (wpE T.G ec)) : OkE X W (.Compare a [cpn o1, cpn o2] [b, c] pos) (wpE T.G (.chain o1 o2 ea eb ec)) :=
  (okR_chain g ha hb hc).e (pe_chain (opC _) (opC _) (pE a) (pE b) (pE c) (by show behindInMarks (cpn o2) c = false; exact notSet_ok hs))
theorem okT_chain (g : Good T X sc N fb) {o1 o2 : Cp} (hs : notSet c = true) (ha : OkE X W a (wpE T.G ea)) (hb : OkE X W b (wpE T.G eb)) (hc : OkE X W c (wpE T.G ec)) : OkT X W (tT X (.Compare a [cpn o1, cpn o2] [b, c] pos)) (wpE T.G (.chain o1 o2 ea eb ec)) :=
  (okR_chain g ha hb hc).test.t (pt_chain (opC _) (opC _) (pE a) (pE b) (pE c) (by show behindInMarks (cpn o2) c = false; exact notSet_ok hs))
/-- any other expression as a test -/
def plainT (e : Expr) : Bool := match e with | .UnaryOp .Not .. => false | .BoolOp .. => false | .IfExp .. => false | .Compare .. => false | _ => true
theorem plainT_ok {e : Expr} (h : plainT e = true) {env : Env} (whole : Sem Value) : isTrue e env whole = (do let v ← whole; standAt e.pos; holding [v] (truthy v)) := by
  cases e <;> first | rfl | cases h | skip
  rename_i op x p
  cases op <;> first | rfl | cases h
theorem okT_plain {e : Expr} {wp : DSt → (DSt → Rs → Prop) → (Str → Prop) → Prop} (hp : plainT e = true) (h : OkE X W e wp) : OkT X W (tT X e) wp := OkT.t (OkR.test h) (pt_val (pE e) (plainT_ok hp))
/-! ### not, and, or, if -/
theorem okT_not (ha : OkT X W (tT X a) (wpE T.G ea)) : OkT X W (tT X (.UnaryOp .Not a pos)) (wpE T.G (.not ea)) := by
  intro s k R h A0 F0 H0 F H σ Q wd q hR
  simp only [wpE, iteB_eq, iteB0] at h
  refine (pt_not (pT a)).tT (ha s (fun b s1 => k (!b) s1) R ?_ A0 F0 H0 F H σ _ wd (fun b F' H' s' aft hk => q (!b) F' H' s' aft hk) hR)
  exact h
theorem ok_not (ha : OkE X W a (wpE T.G ea)) : OkE X W (.UnaryOp .Not a pos) (wpE T.G (.not ea)) := by
  intro s Pp R h A0 F0 H0 F H σ Q wd q hR
  simp only [wpE, iteB_eq, iteB0] at h
  have q' : Fin X.prog X.w X.K A0 F0 H0 σ s F H Pp Q := q
  refine (pe_not (pE a)).tE (one (Q := fun x H1 => ∃ c, x = .bl c ∧ Q (.bl (!c)) H1) (k1 := fun s1 d1 => asB d1 fun b => Pp s1 (.v (.bl (!b)))) ha h wd (fun v F' H' s' d aft r hk => ?_) hR)
  unfold asB at hk
  split at hk
  · simp only [Rep] at r; subst r
    exact ⟨_, rfl, q'.bl aft hk⟩
  · exact hk.elim
theorem ok_one {op : BoolOp} {w : DSt → (DSt → Rs → Prop) → (Str → Prop) → Prop} (ha : OkE X W a w) : OkE X W (.BoolOp op [a] pos) w := OkR.e ha (pe_one (pE a))
/-- the same exception's wish, later -/
theorem later {R : Str → Prop} {A0 : Addr → Prop} {F0 H0 F H F' H' : Hp} {σ : L2.St} {s s' : DSt} (aft : Aft X.prog X.w X.K A0 F0 H0 σ s F H s' F' H') (hR : ∀ c C H', R c → X.mg c = some (.ref C) → (∀ b o, H b = some o → ¬ ownA σ s b → H' b = some o) → W (.ref C) none σ H') :
    ∀ c C H2, R c → X.mg c = some (.ref C) → (∀ b o, H' b = some o → ¬ ownA σ s' b → H2 b = some o) → W (.ref C) none σ H2 :=
  fun c C H2 hc hm hk => hR c C H2 hc hm fun b o e n => hk b o (aft.st.kp b o e n) fun z => n (aft.sub b z)
theorem Fin.later {P : Program} {w : World} {K : PySem.W.Frag} {A0 : Addr → Prop} {F0 H0 F H F' H' : Hp} {σ : L2.St} {s s' : DSt} {Pp : DSt → Rs → Prop} {Q : VK} (q : Fin P w K A0 F0 H0 σ s F H Pp Q) (aft : Aft P w K A0 F0 H0 σ s F H s' F' H') :
    Fin P w K A0 F0 H0 σ s' F' H' Pp Q := fun v F2 H2 s2 r aft2 ok hp => by
  refine q v F2 H2 s2 r (aft.trans aft2) ?_ hp
  cases r with
  | v d => exact ok
  | o c =>
    obtain ⟨p, e, h1, h2, h3, h4, h5⟩ := ok
    exact ⟨p, e, h1, h2, h3, h4.elim (fun z => .inl (aft.sub p z)) aft.new, fun r hr => ⟨(h5 r hr).1, (h5 r hr).2.elim (fun z => .inl (aft.sub r z)) aft.new⟩⟩
theorem ok_and {rest : List Expr} (ha : OkE X W a (wpE T.G ea)) (hb : OkE X W (.BoolOp .And (b :: rest) pos) (wpE T.G eb)) : OkE X W (.BoolOp .And (a :: b :: rest) pos) (wpE T.G (.and ea eb)) := by
  intro s Pp R h A0 F0 H0 F H σ Q wd q hR
  simp only [wpE, iteB_eq, iteB0] at h
  have q' : Fin X.prog X.w X.K A0 F0 H0 σ s F H Pp Q := q
  refine (pe_and (pE a) (pE _)).tE (one (Q := fun x H1 => ∃ c, x = .bl c ∧ if c = true then tE X (.BoolOp .And (b :: rest) pos) σ H1 Q else Q (.bl false) H1) (k1 := fun s1 d1 => asB d1 fun t => if t = true then wpE T.G eb s1 Pp R else Pp s1 (.v (.bl false))) ha h wd (fun v F' H' s' d aft r hk => ?_) hR)
  unfold asB at hk
  split at hk
  · rename_i t
    simp only [Rep] at r; subst r
    refine ⟨t, rfl, ?_⟩
    cases t with
    | true => rw [if_pos rfl] at hk ⊢; exact hb s' Pp R hk A0 F0 H0 F' H' σ Q aft.wd (q'.later aft) (later aft hR)
    | false => rw [if_neg Bool.false_ne_true] at hk ⊢; exact q'.bl aft hk
  · exact hk.elim
theorem ok_or {rest : List Expr} (ha : OkE X W a (wpE T.G ea)) (hb : OkE X W (.BoolOp .Or (b :: rest) pos) (wpE T.G eb)) : OkE X W (.BoolOp .Or (a :: b :: rest) pos) (wpE T.G (.or ea eb)) := by
  intro s Pp R h A0 F0 H0 F H σ Q wd q hR
  simp only [wpE, iteB_eq, iteB0] at h
  have q' : Fin X.prog X.w X.K A0 F0 H0 σ s F H Pp Q := q
  refine (pe_or (pE a) (pE _)).tE (one (Q := fun x H1 => ∃ c, x = .bl c ∧ if c = true then Q (.bl true) H1 else tE X (.BoolOp .Or (b :: rest) pos) σ H1 Q) (k1 := fun s1 d1 => asB d1 fun t => if t = true then Pp s1 (.v (.bl true)) else wpE T.G eb s1 Pp R) ha h wd (fun v F' H' s' d aft r hk => ?_) hR)
  unfold asB at hk
  split at hk
  · rename_i t
    simp only [Rep] at r; subst r
    refine ⟨t, rfl, ?_⟩
    cases t with
    | false => rw [if_neg Bool.false_ne_true] at hk ⊢; exact hb s' Pp R hk A0 F0 H0 F' H' σ Q aft.wd (q'.later aft) (later aft hR)
    | true => rw [if_pos rfl] at hk ⊢; exact q'.bl aft hk
  · exact hk.elim
theorem okW_one {op : BoolOp} {w : DSt → (DSt → Rs → Prop) → (Str → Prop) → Prop} (ha : OkT X W (tT X a) w) : OkT X W (tW X (.BoolOp op [a] pos)) w := by
  cases op with
  | And => exact OkT.w ha (pw_and1 (pT a))
  | Or => exact OkT.w ha (pw_or1 (pT a))
theorem okW_and {rest : List Expr} (ha : OkT X W (tT X a) (wpE T.G ea)) (hb : OkT X W (tW X (.BoolOp .And (b :: rest) pos)) (wpE T.G eb)) : OkT X W (tW X (.BoolOp .And (a :: b :: rest) pos)) (wpE T.G (.and ea eb)) := by
  intro s k R h A0 F0 H0 F H σ Q wd q hR
  simp only [wpE, iteB_eq, iteB0] at h
  refine (pw_and (pT a) (pW _)).tW (ha s (fun t s1 => if t = true then wpE T.G eb s1 (fun s1 r1 => r1.d fun d1 => asB d1 fun b => k b s1) R else k false s1) R ?_ A0 F0 H0 F H σ _ wd (fun t F' H' s' aft hk => ?_) hR)
  · exact h
  · cases t with
    | true =>
      rw [if_pos rfl] at hk
      show tW X (.BoolOp .And (b :: rest) pos) σ H' Q
      exact hb s' k R hk A0 F0 H0 F' H' σ Q aft.wd (fun b F2 H2 s2 aft2 hk2 => q b F2 H2 s2 (aft.trans aft2) hk2) (later aft hR)
    | false => rw [if_neg Bool.false_ne_true] at hk; exact q false F' H' s' aft hk
theorem okW_or {rest : List Expr} (ha : OkT X W (tT X a) (wpE T.G ea)) (hb : OkT X W (tW X (.BoolOp .Or (b :: rest) pos)) (wpE T.G eb)) : OkT X W (tW X (.BoolOp .Or (a :: b :: rest) pos)) (wpE T.G (.or ea eb)) := by
  intro s k R h A0 F0 H0 F H σ Q wd q hR
  simp only [wpE, iteB_eq, iteB0] at h
  refine (pw_or (pT a) (pW _)).tW (ha s (fun t s1 => if t = true then k true s1 else wpE T.G eb s1 (fun s1 r1 => r1.d fun d1 => asB d1 fun b => k b s1) R) R ?_ A0 F0 H0 F H σ _ wd (fun t F' H' s' aft hk => ?_) hR)
  · exact h
  · cases t with
    | false =>
      rw [if_neg Bool.false_ne_true] at hk
      show tW X (.BoolOp .Or (b :: rest) pos) σ H' Q
      exact hb s' k R hk A0 F0 H0 F' H' σ Q aft.wd (fun b F2 H2 s2 aft2 hk2 => q b F2 H2 s2 (aft.trans aft2) hk2) (later aft hR)
    | true => rw [if_pos rfl] at hk; exact q true F' H' s' aft hk
theorem okT_w {e : Expr} {w : DSt → (DSt → Rs → Prop) → (Str → Prop) → Prop} (h : OkT X W (tW X e) w) : OkT X W (tT X e) w := OkT.t h (PW.pt (pW e))
theorem ok_ite (hc : OkT X W (tT X c) (wpE T.G ec)) (ha : OkE X W a (wpE T.G ea)) (hb : OkE X W b (wpE T.G eb)) : OkE X W (.IfExp c a b pos) (wpE T.G (.ite ec ea eb)) := by
  intro s Pp R h A0 F0 H0 F H σ Q wd q hR
  simp only [wpE, iteB_eq, iteB0] at h
  have q' : Fin X.prog X.w X.K A0 F0 H0 σ s F H Pp Q := q
  refine (pe_ifExp (pT c) (pE a) (pE b)).tE (hc s (fun t s1 => if t = true then wpE T.G ea s1 Pp R else wpE T.G eb s1 Pp R) R h A0 F0 H0 F H σ _ wd (fun t F' H' s' aft hk => ?_) hR)
  cases t with
  | true => rw [if_pos rfl] at hk ⊢; exact ha s' Pp R hk A0 F0 H0 F' H' σ Q aft.wd (q'.later aft) (later aft hR)
  | false => rw [if_neg Bool.false_ne_true] at hk ⊢; exact hb s' Pp R hk A0 F0 H0 F' H' σ Q aft.wd (q'.later aft) (later aft hR)
end
/-! ### subscripts -/
def notSlice (e : Expr) : Bool := match e with | .Slice .. => false | _ => true
theorem notSlice_ok {e : Expr} (h : notSlice e = true) : PlainIx e := by
  intro o i
  cases e <;> first | rfl | cases h
theorem ixN_lt {n : Nat} {i : Int} {j : Nat} (h : ixN n i = some j) : j < n := (ixN_seq h).2.1
theorem atI_reps {P : Program} {w : World} {K : PySem.W.Frag} {H : Hp} {ds : List D} {vs : List V} {i : Int} {d : D} (r : Reps P w K H ds vs) (h : atI ds i = some d) : ∃ v, atI vs i = some v ∧ Rep P w K H d v := by
  unfold atI at h ⊢
  rw [r.length] at h
  cases e : ixN vs.length i with
  | none => rw [e] at h; cases h
  | some j =>
    rw [e] at h
    exact r.get h
section
variable {T : Tab} {X : Cx} {sc : Scope} {N : List Str} {fb : Str → Bool} {W : WX} {a b c : Expr} {ea eb ec : E} {pos : Pos}
theorem idxD_ok (g : Good T X sc N fb) {F' H' : Hp} {v u : V} {d1 d2 : D} {k : D → Prop} {Q : VK} (ex : Ex F' H') (r1 : Rep X.prog X.w X.K F' d1 v) (r2 : Rep X.prog X.w X.K F' d2 u) (h : idxD d1 d2 k)
    (q : ∀ z d, Rep X.prog X.w X.K F' d z → k d → Q z H') : rIxC X v u H' Q := by
  have orf : ∀ {o : Option D}, orF o k → ∃ d, o = some d ∧ k d := fun {o} h => by
    cases o with
    | none => exact h.elim
    | some d => exact ⟨d, rfl, h⟩
  rw [idxD_eq] at h
  unfold idxD0 at h
  split at h
  · obtain ⟨d, e, hk⟩ := orf h
    simp only [Rep] at r1 r2; subst r2
    obtain ⟨p, vs, rfl, h1, t1⟩ := r1
    obtain ⟨z, e1, rz⟩ := atI_reps t1 e
    exact toIx ix_list ⟨_, _, _, _, rfl, rfl, SqL.of (ex _ _ h1), e1, q z d rz hk⟩
  · obtain ⟨d, e, hk⟩ := orf h
    simp only [Rep] at r1 r2; subst r2
    obtain ⟨p, vs, rfl, h1, t1⟩ := r1
    obtain ⟨z, e1, rz⟩ := atI_reps t1 e
    exact toIx ix_list ⟨_, _, _, _, rfl, rfl, ex_l ex h1, e1, q z d rz hk⟩
  · obtain ⟨d, e, hk⟩ := orf h
    simp only [Rep] at r1 r2; subst r2
    obtain ⟨p, vs, rfl, h1, t1⟩ := r1
    obtain ⟨z, e1, rz⟩ := atI_reps t1 e
    exact toIx ix_tup ⟨_, _, _, _, rfl, rfl, sqT_in ex h1, e1, q z d rz hk⟩
  · simp only [Rep] at r1 r2; subst r1 r2
    obtain ⟨hz, h⟩ := h
    split at h
    · rename_i c e
      exact toIx ix_str ⟨_, _, _, rfl, rfl, hz, e, q _ (.str ⟨#[c]⟩) (by simp only [Rep]) h⟩
    · exact h.elim
  · obtain ⟨d, e, hk⟩ := orf h
    simp only [Rep] at r1 r2; subst r2
    obtain ⟨p, o, vs, rfl, h1, h2, t1⟩ := r1
    obtain ⟨z, e2, rz⟩ := lookL_rep t1 e
    exact i_get g.u64 (.inr ⟨o, ex _ _ h1⟩) e2 (q z _ rz hk)
  · obtain ⟨hk1, h⟩ := h
    obtain ⟨d, e, hk⟩ := orf h
    simp only [Rep] at r1
    obtain ⟨p, o, as, vs, rfl, h1, h2, h3, h4, t1⟩ := r1
    obtain ⟨z, e2, rz⟩ := lookL_rep t1 e
    exact t_get g.u64 (.inr ⟨o, ex _ _ h1⟩) h3 (Reps.mono ex _ _ h4) hk1 (Rep.mono ex _ _ r2) e2 (q z _ rz hk)
  · exact h.elim
theorem ok_idx (g : Good T X sc N fb) (hs : notSlice b = true) (ha : OkE X W a (wpE T.G ea)) (hb : OkE X W b (wpE T.G eb)) : OkE X W (.Subscript a b pos) (wpE T.G (.idx ea eb)) := by
  intro s Pp R h A0 F0 H0 F H σ Q wd q hR
  simp only [wpE, iteB_eq, iteB0] at h
  have q' : Fin X.prog X.w X.K A0 F0 H0 σ s F H Pp Q := q
  exact (pe_ix ixC (pE a) (pE b) (notSlice_ok hs)).tE (two (Q := fun v u H' => rIxC X v u H' Q) (k2 := fun s2 d1 d2 => idxD d1 d2 fun d => Pp s2 (.v d)) ha hb h wd
    (fun v u F' H' s' d1 d2 aft r1 r2 hk => idxD_ok g aft.wd.ex r1 r2 hk fun z d rz hd => q'.v aft rz hd) hR)
end
end DL

set_option maxHeartbeats 2000000
namespace DL
open PySem PySem.Spec PyProof.Rows L2

/-! ### argument lists -/
def notStar (e : Expr) : Bool := match e with | .Starred .. => false | _ => true
def noStars : List Expr → Bool
  | [] => true
  | e :: es => notStar e && noStars es
theorem star_of {e : Expr} {es : List Expr} {env : Env} (h : notStar e = true) : starEach (e :: es) env = (false, eval e env) :: starEach es env := by
  cases e <;> first | rfl | cases h
theorem stars_of {env : Env} : ∀ {es : List Expr}, noStars es = true → starEach es env = es.map fun e => (false, eval e env)
  | [], _ => rfl
  | e :: es, h => by
    simp only [noStars, Bool.and_eq_true] at h
    rw [star_of h.1, stars_of h.2] <;> rfl
theorem noAny {env : Env} {pos : Pos} {es : List Expr} (h : noStars es = true) : (backTo pos (starEach es env)).any (·.1) = false := by
  rw [stars_of h]
  unfold backTo
  rw [List.map_map, List.any_map]
  rw [List.any_eq_false]
  intro x _
  simp
theorem few_of {env : Env} {pos : Pos} {es : List Expr} (h : noStars es = true) (hl : es.length < 30) : ((backTo pos (starEach es env)).all (fun x => !x.1) && (backToKw pos (keywordEach [] env)).all (fun x => x.1.isSome)
      && decide (es.length + ([] : List Keyword).length + (if ([] : List Keyword).isEmpty then 0 else 1) < 30)) = true := by
  rw [stars_of h]
  simp [backTo, backToKw, keywordEach, hl]
/-- a list of values -/
def OkV (X : Cx) (W : WX) (es : List Expr) (ws : DSt → (DSt → List D → Prop) → (Str → Prop) → Prop) : Prop :=
  ∀ s Pp R, ws s Pp R → ∀ A0 F0 H0 F H σ Q, Wd X.prog X.w X.K A0 F0 H0 F H σ s →
    (∀ vs F' H' s' ds, Aft X.prog X.w X.K A0 F0 H0 σ s F H s' F' H' → Reps X.prog X.w X.K F' ds vs → Pp s' ds → Q vs H') →
    (∀ c C H', R c → X.mg c = some (.ref C) → (∀ b o, H b = some o → ¬ ownA σ s b → H' b = some o) → W (.ref C) none σ H') → tA X es σ H Q
section
variable {T : Tab} {X : Cx} {sc : Scope} {N : List Str} {fb : Str → Bool} {W : WX} {a b c : Expr} {ea eb ec : E} {es : List Expr} {eas : Es} {pos : Pos}
theorem okV_nil : OkV X W [] (wpV T.G .nil) := fun s Pp R h A0 F0 H0 F H σ Q wd q _ => pa_nil.tA (q [] F H s [] (Aft.refl wd) Reps.nil h)
theorem okV_cons (hs : notStar a = true) (ha : OkE X W a (wpE T.G ea)) (hr : OkV X W es (wpV T.G eas)) : OkV X W (a :: es) (wpV T.G (.cons ea eas)) := by
  intro s Pp R h A0 F0 H0 F H σ Q wd q hR
  simp only [wpV] at h
  refine (pa_cons (pE a) (pA es) (star_of hs)).tA (one (Q := fun x H1 => tA X es σ H1 fun xs H2 => Q (x :: xs) H2) (k1 := fun s1 d => wpV T.G eas s1 (fun s2 ds => Pp s2 (d :: ds)) R) ha h wd (fun v F1 H1 s1 d aft r hk => ?_) hR)
  exact hr s1 _ R hk A0 F0 H0 F1 H1 σ _ aft.wd (fun vs F2 H2 s2 ds aft2 rs hp => q _ F2 H2 s2 _ (aft.trans aft2) (Reps.cons (Rep.mono aft2.st.ex _ _ r) rs) hp) (later aft hR)
theorem ok_tup {k : Nat} (h : OkV X W es (wpV T.G eas)) : OkE X W (.Tuple es k pos) (wpE T.G (.tup eas)) := by
  intro s Pp R hw A0 F0 H0 F H σ Q wd q hR
  simp only [wpE] at hw
  have q' : Fin X.prog X.w X.K A0 F0 H0 σ s F H Pp Q := q
  exact (pe_tup (pA es)).tE (h s _ R hw A0 F0 H0 F H σ _ wd (fun vs F' H' s' ds aft rs hp => ⟨by rw [← rs.length]; exact hp.1, fun p hn => q'.tup aft rs hp.2 hn⟩) hR)
theorem ok_lst (h : OkV X W es (wpV T.G eas)) : OkE X W (.List es pos) (wpE T.G (.lst eas)) := by
  intro s Pp R hw A0 F0 H0 F H σ Q wd q hR
  simp only [wpE] at hw
  have q' : Fin X.prog X.w X.K A0 F0 H0 σ s F H Pp Q := q
  exact (pe_lst (pA es)).tE (h s _ R hw A0 F0 H0 F H σ _ wd (fun vs F' H' s' ds aft rs hp => ⟨by rw [← rs.length]; exact hp.1, fun p hn => q'.lst aft rs hp.2 hn⟩) hR)
end

/-! ### slices -/
theorem cut_whole (xs : List D) (lo hi : Option Int) (h : HT.sIx xs.length 0 lo = 0 ∧ HT.sIx xs.length xs.length hi = xs.length) : cutD xs lo hi = xs := by
  unfold cutD
  rw [h.1, h.2]
  simp
theorem Reps.cut {P : Program} {w : World} {K : PySem.W.Frag} {H : Hp} {ds : List D} {vs : List V} (r : Reps P w K H ds vs) (lo hi : Option Int) : Reps P w K H (cutD ds lo hi) (cutV vs lo hi) := by
  unfold cutD cutV
  rw [r.length]
  exact (r.drop _).take _
def rSl (K : PySem.W.Frag) : V → Option Int → Option Int → Hp → VK → Prop := fun x lo hi H Q => rSlL K x lo hi H Q ∨ rSlA K x lo hi H Q
section
variable {T : Tab} {X : Cx} {sc : Scope} {N : List Str} {fb : Str → Bool} {W : WX} {a b c : Expr} {ea eb ec : E} {pos p2 : Pos}
theorem sl_any : SlR X (rSl X.K) := sl_list.or sl_tupA
theorem sliceD_ok {A0 : Addr → Prop} {F0 H0 F H F' H' : Hp} {σ : L2.St} {s s' : DSt} {v : V} {d : D} {lo hi : Option Int} {Pp : DSt → Rs → Prop} {Q : VK} (q : Fin X.prog X.w X.K A0 F0 H0 σ s F H Pp Q)
    (aft : Aft X.prog X.w X.K A0 F0 H0 σ s F H s' F' H') (r : Rep X.prog X.w X.K F' d v) (h : sliceD d lo hi (Pp s')) : rSl X.K v lo hi H' Q := by
  rw [sliceD_eq] at h
  unfold sliceD0 at h
  split at h
  · rename_i xs
    simp only [Rep] at r
    obtain ⟨p, vs, rfl, h1, t1⟩ := r
    exact .inl ⟨_, _, rfl, SqL.of (aft.wd.ex _ _ h1), fun p hp => q.lst aft (t1.cut lo hi) h hp⟩
  · rename_i xs
    simp only [Rep] at r
    obtain ⟨p, vs, rfl, h1, t1⟩ := r
    refine .inr ⟨_, _, rfl, sqT_in aft.wd.ex h1, fun e => ?_, fun _ p hp => q.tup aft (t1.cut lo hi) h hp⟩
    rw [← t1.length] at e
    rw [cut_whole xs lo hi e] at h
    exact q.v aft (by simp only [Rep]; exact ⟨_, vs, rfl, h1, t1⟩) h
  · exact h.elim
theorem ok_slL (ha : OkE X W a (wpE T.G ea)) (hb : OkE X W b (wpE T.G eb)) : OkE X W (.Subscript a (.Slice (some b) none none p2) pos) (wpE T.G (.slL ea eb)) := by
  intro s Pp R h A0 F0 H0 F H σ Q wd q hR
  simp only [wpE, iteB_eq, iteB0] at h
  refine (pe_slice sl_any (pE a) (po_some (pE b)) po_none).tE (two (Q := fun v u H' => ∃ i, u = .int i ∧ rSl X.K v (some i) none H' Q) (k2 := fun s2 d1 d2 => asI d2 fun i => sliceD d1 (some i) none (Pp s2)) ha hb h wd (fun v u F' H' s' d1 d2 aft r1 r2 hk => ?_) hR)
  unfold asI at hk
  split at hk
  · simp only [Rep] at r2; subst r2
    exact ⟨_, rfl, sliceD_ok q aft r1 hk⟩
  · exact hk.elim
theorem ok_slU (ha : OkE X W a (wpE T.G ea)) (hb : OkE X W b (wpE T.G eb)) : OkE X W (.Subscript a (.Slice none (some b) none p2) pos) (wpE T.G (.slU ea eb)) := by
  intro s Pp R h A0 F0 H0 F H σ Q wd q hR
  simp only [wpE, iteB_eq, iteB0] at h
  refine (pe_slice sl_any (pE a) po_none (po_some (pE b))).tE (two (Q := fun v u H' => ∃ i, u = .int i ∧ rSl X.K v none (some i) H' Q) (k2 := fun s2 d1 d2 => asI d2 fun i => sliceD d1 none (some i) (Pp s2)) ha hb h wd (fun v u F' H' s' d1 d2 aft r1 r2 hk => ?_) hR)
  unfold asI at hk
  split at hk
  · simp only [Rep] at r2; subst r2
    exact ⟨_, rfl, sliceD_ok q aft r1 hk⟩
  · exact hk.elim
theorem ok_slLU (ha : OkE X W a (wpE T.G ea)) (hb : OkE X W b (wpE T.G eb)) (hc : OkE X W c (wpE T.G ec)) : OkE X W (.Subscript a (.Slice (some b) (some c) none p2) pos) (wpE T.G (.slLU ea eb ec)) := by
  intro s Pp R h A0 F0 H0 F H σ Q wd q hR
  simp only [wpE, iteB_eq, iteB0] at h
  refine (pe_slice sl_any (pE a) (po_some (pE b)) (po_some (pE c))).tE (two (Q := fun v u H' => ∃ i, u = .int i ∧ tE X c σ H' fun z H3 => ∃ j, z = .int j ∧ rSl X.K v (some i) (some j) H3 Q)
    (k2 := fun s2 d1 d2 => asI d2 fun i => wpE T.G ec s2 (fun s3 r3 => r3.d fun d3 => asI d3 fun j => sliceD d1 (some i) (some j) (Pp s3)) R) ha hb h wd (fun v u F' H' s' d1 d2 aft r1 r2 hk => ?_) hR)
  unfold asI at hk
  split at hk
  · rename_i i
    simp only [Rep] at r2; subst r2
    refine ⟨_, rfl, one (Q := fun z H3 => ∃ j, z = .int j ∧ rSl X.K v (some i) (some j) H3 Q) (k1 := fun s3 d3 => asI d3 fun j => sliceD d1 (some i) (some j) (Pp s3)) hc hk aft.wd (fun z F2 H2 s2 d3 aft2 r3 hk2 => ?_) (later aft hR)⟩
    unfold asI at hk2
    split at hk2
    · simp only [Rep] at r3; subst r3
      exact ⟨_, rfl, sliceD_ok q (aft.trans aft2) (Rep.mono aft2.st.ex _ _ r1) hk2⟩
    · exact hk2.elim
  · exact hk.elim
end

/-! ### lists of ints, of truth values -/
section
variable {P : Program} {w : World} {K : PySem.W.Frag} {H : Hp}
theorem intsD_reps : ∀ {ds : List D} {vs : List V} {ns : List Int}, Reps P w K H ds vs → intsD ds = some ns → vs = ns.map V.int
  | [], _, _, h, e => by simp only [Reps] at h; subst h; simp only [intsD, Option.some.injEq] at e; subst e; rfl
  | d :: ds, _, _, h, e => by
    simp only [Reps] at h
    obtain ⟨v, r, rfl, h2, h3⟩ := h
    cases d <;> simp only [intsD] at e <;> try (cases e)
    rename_i i
    cases q : intsD ds with
    | none => rw [q] at e; cases e
    | some ms =>
      rw [q] at e
      simp only [Option.map_some, Option.some.injEq] at e
      subst e
      simp only [Rep] at h2; subst h2
      rw [intsD_reps h3 q] <;> rfl
theorem bolsD_reps : ∀ {ds : List D} {vs : List V} {ns : List Bool}, Reps P w K H ds vs → bolsD ds = some ns → vs = ns.map V.bl
  | [], _, _, h, e => by simp only [Reps] at h; subst h; simp only [bolsD, Option.some.injEq] at e; subst e; rfl
  | d :: ds, _, _, h, e => by
    simp only [Reps] at h
    obtain ⟨v, r, rfl, h2, h3⟩ := h
    cases d <;> simp only [bolsD] at e <;> try (cases e)
    rename_i i
    cases q : bolsD ds with
    | none => rw [q] at e; cases e
    | some ms =>
      rw [q] at e
      simp only [Option.map_some, Option.some.injEq] at e
      subst e
      simp only [Rep] at h2; subst h2
      rw [bolsD_reps h3 q] <;> rfl
theorem reps_ints : ∀ ns : List Int, Reps P w K H (ns.map iD) (ns.map V.int)
  | [] => Reps.nil
  | n :: ns => Reps.cons (by simp only [iD, Rep]) (reps_ints ns)
theorem reps_rng (a b : Int) : Reps P w K H (rngD a b) (rgV a b) := by
  unfold rngD rgV
  generalize (b - a).toNat = n
  have : ∀ l : List Nat, Reps P w K H (l.map fun (i : Nat) => D.int (a + (i : Int))) (l.map fun (i : Nat) => V.int (a + (i : Int))) := fun l => by
    induction l with
    | nil => exact Reps.nil
    | cons x l ih => exact Reps.cons (by simp only [Rep]) ih
  exact this _
end
theorem insI_perm (x : Int) : ∀ l : List Int, (insI x l).Perm (x :: l)
  | [] => .refl _
  | y :: r => by
    unfold insI
    split
    · exact .refl _
    · exact ((insI_perm x r).cons y).trans (List.Perm.swap x y r)
theorem sortI_perm : ∀ l : List Int, (sortI l).Perm l
  | [] => .refl _
  | x :: r => (insI_perm x _).trans ((sortI_perm r).cons x)
theorem insI_sorted {x : Int} : ∀ {l : List Int}, l.Pairwise (· ≤ ·) → (insI x l).Pairwise (· ≤ ·)
  | [], _ => by simp [insI]
  | y :: r, h => by
    unfold insI
    rw [List.pairwise_cons] at h
    split
    · rename_i c
      rw [List.pairwise_cons]
      refine ⟨fun z hz => ?_, by rw [List.pairwise_cons]; exact h⟩
      rcases List.mem_cons.mp hz with rfl | hz
      · exact c
      · have := h.1 z hz; omega
    · rw [List.pairwise_cons]
      refine ⟨fun z hz => ?_, insI_sorted h.2⟩
      rcases List.mem_cons.mp ((insI_perm x r).mem_iff.mp hz) with rfl | hz
      · omega
      · exact h.1 z hz
theorem sortI_sorted : ∀ l : List Int, (sortI l).Pairwise (· ≤ ·)
  | [] => List.Pairwise.nil
  | x :: r => insI_sorted (sortI_sorted r)
theorem sortI_of {l m : List Int} (p : m.Perm l) (h : m.Pairwise (· ≤ ·)) : m = sortI l :=
  List.Perm.eq_of_pairwise (fun a b _ _ h1 h2 => Int.le_antisymm h1 h2) h (sortI_sorted l) (p.trans (sortI_perm l).symm)
end DL

set_option maxHeartbeats 2000000
namespace DL
open PySem PySem.Spec PyProof.Rows L2

/-! ### built-ins by name -/
def biNm : Bi → Str
  | .len => "len" | .sorted => "sorted" | .tuple => "tuple" | .list => "list" | .sum => "sum" | .min1 => "min" | .max1 => "max" | .min2 => "min" | .max2 => "max" | .abs => "abs" | .all => "all" | .any => "any"
  | .int => "int" | .bool => "bool" | .str => "str" | .dict => "dict" | _ => ""
def biVal : Bi → Value
  | .len => .builtin "len" | .sorted => .builtin "sorted" | .tuple => .type "tuple" | .list => .type "list" | .sum => .builtin "sum" | .min1 => .builtin "min" | .max1 => .builtin "max" | .min2 => .builtin "min" | .max2 => .builtin "max"
  | .abs => .builtin "abs" | .all => .builtin "all" | .any => .builtin "any" | .int => .type "int" | .bool => .type "bool" | .str => .type "str" | .dict => .type "dict" | _ => .none
def biOk : Bi → Bool
  | .sset => false | .listR1 => false | .listR2 => false | .tupR1 => false | .tupR2 => false | _ => true
theorem boot_bi {b : Bi} (h : biOk b = true) : bootBuiltins (biNm b) = some (biVal b) := by
  cases b <;> first | decide +kernel | cases h
theorem biNm_in {b : Bi} (h : biOk b = true) : biNm b ∈ builtins := by
  cases b <;> first | decide +kernel | cases h
theorem biNm_nm {b : Bi} (h : biOk b = true) : okNm (biNm b) = true := by
  cases b <;> first | decide +kernel | cases h
section
variable {X : Cx}
/-- sum of a tuple of ints -/
theorem cr_sumT (hc : X.calm = true) : CallR X (.builtin "sum") (fun vs H Q => ∃ (a : Addr) (ns : List Int), vs = [V.ref a] ∧ SqT X.K H a (ns.map V.int) ∧ Q (.int ns.sum) H) := by
  intro pins s σ H vs us Q I r h
  obtain ⟨a, ns, rfl, hs, q⟩ := h
  obtain ⟨its, rv, ht, hz⟩ := I.tuple hs
  rw [Vals.ref1 r]
  have hi := rv.ints
  obtain ⟨xs, hx⟩ := hi.allInts.items
  have hn : numsOf its.toArray.toList = ns := by rw [show its.toArray.toList = its from rfl, hi.numsOf]
  rw [hx] at hn
  rw [nums_intItems] at hn
  have ht' : s.heap.IsTuple a (intItems xs) := by rw [← hx]; exact ht
  refine PySem.W.ktm_sumG (I.ok.hd hc) ht' fun h' tk t' hk => ?_
  refine ⟨.int ns.sum, H, I.kept (t' := tk) hk, ⟨t', ?_⟩, q⟩
  rw [preSum_eq, List.take_of_length_le (by simp), hn]
theorem len_t {a : Addr} {nk : List D} {as : List Addr} {vs : List V} {H : Hp} {Q : VK} (e : Rd H a (TO X.prog X.w a (keys nk) as vs)) (hk : kOk nk = true) (rk : Reps X.prog X.w X.K H nk (as.map V.ref)) (q : Q (.int nk.length) H) :
    rCl X (.builtin "len") [.ref a] H Q := by
  intro pins s σ us I r
  rw [Vals.ref1 r]
  obtain ⟨us, rv, hs, hz, dd, l1, l2, nd⟩ := (TO.ent I.hok e).dict I hk rk
  have hm : s.heap.DictKeyed (nestedKind X.prog X.w) a (pairsH ((keys nk).zip (as.zip us))) := ⟨_, dd, rfl⟩
  have hl : (pairsH ((keys nk).zip (as.zip us))).length = nk.length := by
    rw [pairsH_length, List.length_zip, List.length_zip, keys_length]
    rw [keys_length] at l1 l2
    omega
  have hz' : sizeLine < 2 ^ 63 := line63
  refine PyProof.Rows.call_len_slot (n := ((pairsH ((keys nk).zip (as.zip us))).length : Int)) hm.typeIs F.slot_dict_len (fun Q' hq => len_keyed hs hm hq) (by omega) (by rw [hl]; omega) ?_
  rw [hl]
  exact ⟨.int nk.length, H, I.tok _, ⟨_, rfl⟩, q⟩
theorem len_i {a : Addr} {ks : List Int} {vs : List V} {H : Hp} {Q : VK} (e : Rd H a (.dK (kvI ks vs))) (hl : ks.length = vs.length) (q : Q (.int ks.length) H) : rCl X (.builtin "len") [.ref a] H Q := by
  intro pins s σ us I r
  rw [Vals.ref1 r]
  refine d_len I e fun t s' I' => ⟨.int ks.length, H, I', ⟨t, ?_⟩, q⟩
  simp [kvI, hl]
end
/-! ### sorted -/
theorem insP_perm (x : Int × Int) : ∀ l : List (Int × Int), (insP x l).Perm (x :: l)
  | [] => .refl _
  | y :: r => by
    unfold insP
    split
    · exact .refl _
    · exact ((insP_perm x r).cons y).trans (List.Perm.swap x y r)
theorem sortP_perm : ∀ l : List (Int × Int), (sortP l).Perm l
  | [] => .refl _
  | x :: r => (insP_perm x _).trans ((sortP_perm r).cons x)
def pLeP (p q : Int × Int) : Prop := p.1 < q.1 ∨ (p.1 = q.1 ∧ p.2 ≤ q.2)
theorem pLe_iff {p q : Int × Int} : pLe p q = true ↔ pLeP p q := by simp [pLe, pLeP]
theorem pLeP.tot (p q : Int × Int) : pLeP p q ∨ pLeP q p := by unfold pLeP; omega
theorem pLeP.trans {p q r : Int × Int} (h : pLeP p q) (k : pLeP q r) : pLeP p r := by unfold pLeP at *; omega
theorem pLeP.anti {p q : Int × Int} (h : pLeP p q) (k : pLeP q p) : p = q := by unfold pLeP at *; exact Prod.ext (by omega) (by omega)
theorem insP_sorted {x : Int × Int} : ∀ {l : List (Int × Int)}, l.Pairwise pLeP → (insP x l).Pairwise pLeP
  | [], _ => by simp [insP]
  | y :: r, h => by
    unfold insP
    rw [List.pairwise_cons] at h
    split
    · rename_i c
      rw [List.pairwise_cons]
      refine ⟨fun z hz => ?_, by rw [List.pairwise_cons]; exact h⟩
      rcases List.mem_cons.mp hz with rfl | hz
      · exact pLe_iff.mp c
      · exact (pLe_iff.mp c).trans (h.1 z hz)
    · rename_i c
      rw [List.pairwise_cons]
      refine ⟨fun z hz => ?_, insP_sorted h.2⟩
      rcases List.mem_cons.mp ((insP_perm x r).mem_iff.mp hz) with rfl | hz
      · exact (pLeP.tot z y).elim (fun k => absurd (pLe_iff.mpr k) c) id
      · exact h.1 z hz
theorem sortP_sorted : ∀ l : List (Int × Int), (sortP l).Pairwise pLeP
  | [] => List.Pairwise.nil
  | x :: r => insP_sorted (sortP_sorted r)
theorem sortP_of {l m : List (Int × Int)} (p : m.Perm l) (h : m.Pairwise pLeP) : m = sortP l :=
  List.Perm.eq_of_pairwise (fun a b _ _ h1 h2 => pLeP.anti h1 h2) h (sortP_sorted l) (p.trans (sortP_perm l).symm)
end DL

set_option maxHeartbeats 2000000
namespace DL
open PySem PySem.Spec PyProof.Rows L2

/-! ### set(xs) of a list: by what the loop does -/
section
variable {P : Program} {w : World} {A : Around} {E : Value → Shared → Prop} {s : Shared}
/-- an empty set, just made -/
def set0 (w : World) : Obj := { cls := .type "set", dict := none, data := .set #[] 0 (.fresh 0 0 (!w.params.followText "set-order")) }
/-- the loop from a new set over the list at l: Z stands behind it -/
def LoopOk (P : Program) (w : World) (A : Around) (h0 : Heap) (l : Addr) (items : Array Value) (Z : Heap → Prop) : Prop :=
  ∀ (S I : Addr) (s : Shared) (R : Result → Shared → Prop), S = h0.objs.size → I = h0.objs.size + 1 → s.heap.get? S = some (set0 w) → s.heap.IsListIter I l 0 → s.heap.IsList l items → l < h0.objs.size →
    (∀ b o, h0.get? b = some o → s.heap.get? b = some o) →
    (∀ s', s'.gens = s.gens → s'.drawn = s.drawn → s'.os = s.os → Z s'.heap → (∀ b o, h0.get? b = some o → s'.heap.get? b = some o) → R (.ok (.ret .none)) s') →
    codeAny (model P w) A (.builtin "set.update.loop" ⟨[.ref S, .ref I], []⟩) R s
set_option maxHeartbeats 3200000 in
theorem set_list {l : Addr} {items : Array Value} {Z : Heap → Prop} {Q : Value → Shared → Prop} (hl : s.heap.IsList l items) (hL : LoopOk P w A.in1.in1 s.heap l items Z)
    (h : ∀ (h' : Heap) (tk : Nat), Z h' → (∀ b o, s.heap.get? b = some o → h'.get? b = some o) → Q (.ref s.heap.objs.size) { s with heap := h', toks := tk }) :
    wpAny (model P w) A (call (.type "set") [.ref l]) Q E s := by
  obtain ⟨c, tl, hmro⟩ := F.called_set.mro
  have hmade := F.called_set.made
  have hsub := F.called_set.sub
  refine wpAny_call (codeAny_of_tree ?_)
  show wpAny _ _ (callAny (.type "set") _) _ _ _
  refine wpAny_pure ⟨Code.quiet_builtin _ (by decide +kernel), codeAny_builtin F.entry_type_call ?_⟩
  rw [Around.under_plain (weight_type_call_type "set" [.ref l] []) rfl]
  have h1 := F.called_set.notType
  have h2 := F.called_set.canCreate
  have hct := F.typeCall_set_1 (.ref l)
  repeat (any_goals (first | assumption | wp_step))
  refine codeAny_mono (code_set_led1 (.ref l) (E := E) (Q₁ := fun obj s₁ => obj = .ref s.heap.objs.size ∧ s₁ = { s with heap := s.heap.push (set0 w) }) ⟨rfl, rfl⟩) fun r s₁ hr => ?_
  cases r with
  | error e => exact hr
  | ok fl =>
    cases fl with
    | ret obj =>
      obtain ⟨rfl, rfl⟩ := hr
      have hS : (s.heap.push (set0 w)).get? s.heap.objs.size = some (set0 w) := Heap.get?_push_size _ rfl
      have hT : Shared.TypeIs { s with heap := s.heap.push (set0 w) } (.ref s.heap.objs.size) "set" := ⟨_, hS, rfl⟩
      have hli := F.called_set.init.lookup
      have hbi := F.called_set.init.bind (.ref s.heap.objs.size)
      repeat (any_goals (first | assumption | wp_step))
      refine codeAny_mono (codeAny_call_builtin (R := wants (fun r s₂ => r = .none ∧ ∃ h' tk, s₂ = { s with heap := h', toks := tk } ∧ Z h' ∧ (∀ b o, s.heap.get? b = some o → h'.get? b = some o)) E)
        F.called_set.init.plain F.entry_set_init (check_set_init_1 hT ?_)) fun r₂ s₂ hr₂ => ?_
      · obtain ⟨ol, hol, hcl, nl, hdl⟩ := hl
        obtain ⟨ocls, odict, odata, oslots⟩ := ol
        simp only at hcl hdl
        subst hcl; subst hdl
        have hol' : (s.heap.push (set0 w)).get? l = some { cls := .type "list", dict := odict, data := .seq items nl, slots := oslots } := Heap.get?_push_of_some _ hol
        have hsls := F.sub_list_set
        have hslf := F.sub_list_frozenset
        have hne : (Value.type "list" == Value.type "dict") = false := by decide
        have hl1 : (s.heap.push (set0 w)).IsList l items := ⟨_, hol', rfl, nl, rfl⟩
        unfold Builtin.«set.__init__» noKeywords Builtin.Frozenset.updateFrom
        generalize hPI : pyIter = PI
        wp_walk
        subst hPI
        refine wpAny_pyIter_list hl1 ?_
        refine wpAny_bind (wpAny_runValue ?_)
        refine hL s.heap.objs.size _ _ _ rfl ?e1 ?e2 ?e3 ?e4 (Heap.lt_size hol) ?kp ?_
        case e1 => exact Heap.size_push ..
        case e2 => exact Heap.get?_push_of_some _ hS
        case e3 => exact ⟨_, Heap.get?_push_size _ rfl, rfl, rfl⟩
        case e4 => exact hl1.push _
        case kp => exact fun b o e => Heap.get?_push_of_some _ (Heap.get?_push_of_some _ e)
        intro s' hg hd ho hZ hk
        obtain ⟨h', g2, d', tk', os'⟩ := s'
        obtain rfl : g2 = s.gens := hg
        obtain rfl : d' = s.drawn := hd
        obtain rfl : os' = s.os := ho
        show wpAny _ _ _ _ _ _
        refine wpAny_pure ?_
        show wpAny _ _ (ret Value.none) _ _ _
        exact wpAny_pure ⟨rfl, h', tk', rfl, hZ, hk⟩
      · cases r₂ with
        | error e => exact hr₂
        | ok fl₂ =>
          cases fl₂ with
          | ret r =>
            obtain ⟨rfl, h', tk, rfl, hZ, hk⟩ := hr₂
            repeat (any_goals (first | assumption | wp_step))
            exact h _ _ hZ hk
          | _ => exact hr₂.elim
    | _ => exact hr.elim

theorem none_of {h : Heap} {b : Addr} (hb : h.objs.size ≤ b) : h.get? b = none := by
  cases q : h.get? b with
  | none => rfl
  | some o => exact absurd (Nat.lt_of_lt_of_le (Heap.lt_size q) hb) (Nat.lt_irrefl _)
theorem ne_l {l I n : Addr} (eI : I = n + 1) (h : l < n) : l ≠ I := by
  rw [eI]; exact Nat.ne_of_lt (Nat.lt_succ_of_lt h)
theorem nin_l {S l I n : Addr} (eS : S = n) (eI : I = n + 1) (h : l < n) : S ∉ [I, l] := by
  rw [eS, eI]; simp only [List.mem_cons, List.mem_singleton, List.not_mem_nil, or_false, not_or]
  exact ⟨Nat.ne_of_lt (Nat.lt_succ_self _), Nat.ne_of_gt h⟩
theorem nin_2 {S b I n : Addr} (eS : S = n) (eI : I = n + 1) (h : b < n) : b ∉ [S, I] := by
  rw [eS, eI]; simp only [List.mem_cons, List.mem_singleton, List.not_mem_nil, or_false, not_or]
  exact ⟨Nat.ne_of_lt h, Nat.ne_of_lt (Nat.lt_succ_of_lt h)⟩
/-! ints -/
theorem loop_ints {h0 : Heap} {l : Addr} {items : Array Value} (ns : List Int) (hh : A.handled = none) (hit : IntsAre items.toList ns) (hb : ns.length + 1 < scanBound) :
    LoopOk P w A h0 l items (fun h' => ∃ c, c ≤ ns.length ∧ SetR w h' h0.objs.size (fun j => decide (j ∈ ns)) c) := by
  intro S I s R eS eI hS hI hl hlt hk hR
  have hisz : items.size = ns.length := by
    have q := IntsAre.length hit
    rw [Array.length_toList] at q
    exact q
  have hneI : l ≠ I := ne_l eI hlt
  have hSf : S ∉ [I, l] := nin_l eS eI hlt
  have hval : ∀ (i : Nat) (v : Value), items[i]? = some v → ∃ k t, ns[i]? = some k ∧ v = .int k t := fun i v hv => by
    have hi : i < ns.length := by rw [← hisz]; exact (Array.getElem?_eq_some_iff.mp hv).1
    obtain ⟨t, e⟩ := PyProof.Rows.IntsAre.int_at hit i v (by rw [Array.getElem?_toList]; exact hv)
    refine ⟨ns[i], t, List.getElem?_eq_getElem hi, ?_⟩
    rw [e, List.getD_eq_getElem?_getD, List.getElem?_eq_getElem hi] <;> rfl
  refine set_update_ints ((Walks.list (by simp [hh]) I l hneI items).toS) S hSf ns hisz hb hval (items.size - 0) 0 s (by omega) (Nat.zero_le _) ⟨hI, hl⟩ ⟨0, Nat.le_refl 0, setR_new_at hS⟩ ?_
  intro s' c hm hc hS'
  refine hR s' hm.gens hm.drawn hm.os ⟨c, by omega, by rw [← eS]; exact hS'⟩ fun b o e => ?_
  refine hm.heap b o (fun z => ?_) (hk b o e)
  exact nin_2 eS eI (Heap.lt_size e) z

/-! tuples of ints -/
structure Got2 (ks : List (Addr × List Int)) (i : Nat) (L : List (Addr × List Int)) : Prop where
  sub : ∀ p ∈ L, p ∈ ks
  all : ∀ p ∈ ks.take i, p.2 ∈ L.map (·.2)
theorem loop_tups {h0 : Heap} {l : Addr} {items : Array Value} (ks : List (Addr × List Int)) (hh : A.handled = none) (hit : items.toList = ks.map fun p => Value.ref p.1) (hk0 : ∀ p ∈ ks, IsT P w h0 p.2 p.1) (hu : A.in1.units < cLine)
    (few : ∀ L : List (Addr × List Int), (L.map (·.2)).Nodup → (∀ p ∈ L, p ∈ ks) → L.length + 1 < 64) :
    LoopOk P w A h0 l items (fun h' => ∃ L es ep t, SetTR P w h' h0.objs.size L es ep t ∧ Got2 ks ks.length L) := by
  intro S I s R eS eI hS hI hl hlt hk hR
  have hisz : items.size = ks.length := by
    have q := congrArg List.length hit
    rw [Array.length_toList, List.length_map] at q
    exact q
  have hneI : l ≠ I := ne_l eI hlt
  have hval : ∀ (i : Nat) (v : Value), items[i]? = some v → ∃ p, ks[i]? = some p ∧ v = .ref p.1 := fun i v hv => by
    have q : items.toList[i]? = some v := by rw [Array.getElem?_toList]; exact hv
    rw [hit, List.getElem?_map] at q
    cases hq : ks[i]? with
    | none => rw [hq] at q; cases q
    | some p =>
      rw [hq] at q
      exact ⟨p, rfl, (Option.some.inj q).symm⟩
  have nS : ∀ b o, h0.get? b = some o → b ≠ S := fun b o e z => nin_2 eS eI (Heap.lt_size e) (by rw [z]; exact List.mem_cons_self)
  have nI : ∀ b o, h0.get? b = some o → b ∉ [I] := fun b o e z => nin_2 eS eI (Heap.lt_size e) (List.mem_cons_of_mem _ z)
  have Sl : S ∉ [I, l] := nin_l eS eI hlt
  have SI : S ∉ [I] := fun z => Sl (by rw [List.mem_singleton.mp z]; exact List.mem_cons_self)
  have W := (Walks.list (prog := P) (w := w) (A := A.in1) (by simp [hh]) I l hneI items).toS
  have main : ∀ (k i : Nat) (s1 : Shared), items.size - i = k → i ≤ items.size → (s1.heap.IsListIter I l i ∧ s1.heap.IsList l items) → (∀ b o, h0.get? b = some o → s1.heap.get? b = some o) →
      (∃ L es ep t, SetTR P w s1.heap S L es ep t ∧ Got2 ks i L) → s1.gens = s.gens → s1.drawn = s.drawn → s1.os = s.os → codeAny (model P w) A (.builtin "set.update.loop" ⟨[.ref S, .ref I], []⟩) R s1 := by
    intro k
    induction k with
    | zero =>
      intro i s1 hk' hi hst hkp ⟨L, es, ep, t, hS, g⟩ g1 g2 g3
      obtain rfl : i = items.size := by omega
      refine codeAny_builtin F.entry_set_update_loop ?_
      rw [Around.under_plainId F.plain_set_update_loop _]
      show wpAny _ A.in1 (pyNext (.ref I) >>= _) _ _ s1
      refine wpAny_bind (W.done s1 _ _ hst fun s' hm => ?_)
      show wpAny _ A.in1 (ret Value.none) _ _ s'
      have hkp' : ∀ b o, h0.get? b = some o → s'.heap.get? b = some o := fun b o e => hm.heap b o (nI b o e) (hkp b o e)
      refine wpAny_pure (hR s' (hm.gens.trans g1) (hm.drawn.trans g2) (hm.os.trans g3) ⟨L, es, ep, t, ?_, by rw [← hisz]; exact g⟩ hkp')
      rw [← eS]
      exact hS.keep (fun o e => hm.heap S o SI e) fun p hp => isT_keep (hk0 p (g.sub p hp)) hkp'
    | succ k ih =>
      intro i s1 hk' hi hst hkp ⟨L, es, ep, t, hS, g⟩ g1 g2 g3
      have hlt : i < items.size := by omega
      refine codeAny_builtin F.entry_set_update_loop ?_
      rw [Around.under_plainId F.plain_set_update_loop _]
      show wpAny _ A.in1 (pyNext (.ref I) >>= _) _ _ s1
      refine wpAny_bind (W.item i s1 _ _ hlt hst fun v s' hP hst' hm => ?_)
      obtain ⟨p, hp, rfl⟩ := hval i v hP
      have hkp' : ∀ b o, h0.get? b = some o → s'.heap.get? b = some o := fun b o e => hm.heap b o (nI b o e) (hkp b o e)
      have hS' : SetTR P w s'.heap S L es ep t := hS.keep (fun o e => hm.heap S o SI e) fun q hq => isT_keep (hk0 q (g.sub q hq)) hkp'
      have hx : IsT P w s'.heap p.2 p.1 := isT_keep (hk0 p (List.mem_of_getElem? hp)) hkp'
      show wpAny _ A.in1 (holding [Value.ref p.1] (setAdd S (.ref p.1)) >>= _) _ _ s'
      refine wpAny_bind (wpAny_holding ?_)
      unfold setAdd
      refine wpAny_holding ?_
      refine wpAny_bind (wpAny_pyHash_tuple hu hx ?_)
      refine add_at (s := { s' with toks := s'.toks + (p.2.length + 1) }) hS' hx hu (few L hS'.nd g.sub) fun b h' L' es' ep' t' hsb hS2 c1 c2 => ?_
      have g' : Got2 ks (i + 1) L' := by
        rcases Classical.em (p.2 ∈ L.map (·.2)) with c | c
        · rw [c1 c]
          refine ⟨g.sub, fun q hq => ?_⟩
          rw [take_next hp] at hq
          rcases List.mem_append.mp hq with z | z
          · exact g.all q z
          · rw [List.mem_singleton.mp z]; exact c
        · have pm := c2 c
          refine ⟨fun q hq => ?_, fun q hq => ?_⟩
          · rcases List.mem_cons.mp (pm.mem_iff.mp hq) with e | z
            · rw [e]; exact List.mem_of_getElem? hp
            · exact g.sub q z
          · rw [(pm.map (·.2)).mem_iff, List.map_cons]
            rw [take_next hp] at hq
            rcases List.mem_append.mp hq with z | z
            · exact List.mem_cons_of_mem _ (g.all q z)
            · rw [List.mem_singleton.mp z]; exact List.mem_cons_self
      have hkp2 : ∀ b o, h0.get? b = some o → h'.get? b = some o := fun b o e => (hsb.2 b (nS b o e)).trans (hkp' b o e)
      refine wpAny_pure ⟨plainId_quiet F.plain_set_update_loop _, ih (i + 1) _ (by omega) hlt (W.frame _ s' _ _ hst' (Nat.le_add_right _ _) fun b hb o e => ?_) hkp2 ⟨L', es', ep', t', hS2, g'⟩ (hm.gens.trans g1) (hm.drawn.trans g2) (hm.os.trans g3)⟩
      rw [hsb.2 b (fun h : b = S => Sl (by rw [← h]; exact hb))]; exact e
  exact main (items.size - 0) 0 s (by omega) (Nat.zero_le _) ⟨hI, hl⟩ hk ⟨[], #[], 0, _, setTR_fresh hS, ⟨fun p h => (by cases h), fun p h => (by simp at h)⟩⟩ rfl rfl rfl
end
end DL

set_option maxHeartbeats 2000000
namespace DL
open PySem PySem.Spec PyProof.Rows L2
section
variable {P : Program} {w : World} {A : Around} {E : Value → Shared → Prop} {s : Shared}
/-- sorted(src), src what can be collected -/
theorem sorted_col {src : Value} {C : List Value → Prop} {ltv : Value → Value → Bool} {Q : Value → Shared → Prop} (O : SrtO.Swo ltv)
    (hcol : ∀ (Q' : List Value → Shared → Prop) (E' : Value → Shared → Prop), (∀ (s1 : Shared) (vs : List Value), (∀ b o, s.heap.get? b = some o → s1.heap.get? b = some o) → s1.gens = s.gens → s1.os = s.os → vs.length ≤ sizeLine → C vs → Q' vs s1) → wpAny (model P w) A.in1 (collect src) Q' E' s)
    (hS : ∀ (s1 : Shared) (vs : List Value), (∀ b o, s.heap.get? b = some o → s1.heap.get? b = some o) → C vs → 2 ≤ vs.length → ∀ (h₁ : Heap) (a : Addr), h₁.get? a = some (seqObj "list" vs.toArray 0) → (∀ b o, s1.heap.get? b = some o → h₁.get? b = some o) → SrtO.SortableO P w A.in1.in1 { s1 with heap := h₁ } a vs ltv)
    (hQ : ∀ (s1 s2 : Shared) (p : Addr) (out : List Value) (c : Nat) (vs : List Value), (∀ b o, s.heap.get? b = some o → s1.heap.get? b = some o) → s1.gens = s.gens → s1.os = s.os → C vs → (∀ b o, s1.heap.get? b = some o → s2.heap.get? b = some o) → s2.gens = s1.gens → s2.os = s1.os → s1.heap.objs.size ≤ p →
      s2.heap.get? p = some (seqObj "list" out.toArray c) → SrtO.Srtd ltv out → SrtO.Stb ltv out vs → vs.length ≤ sizeLine → Q (.ref p) s2) :
    wpAny (model P w) A (call (.builtin "sorted") [src]) Q E s := by
  refine Calls.call_function_entry kind_sorted plain_sorted entry_sorted (args_sorted1 _) ?_
  unfold Builtin.«sorted»
  refine wpAny_bind (m := checkCount "sorted" 1 1 _) (wpAny_pure ?_)
  refine wpAny_bind (hcol _ _ fun s1 vs k1 g1 o1 hz hc => ?_)
  refine wpAny_bind (wpAny_newList ?_ hz)
  have hoL : (s1.heap.push (seqObj "list" vs.toArray 0)).get? s1.heap.objs.size = some (seqObj "list" vs.toArray 0) := Heap.get?_push_size _ rfl
  show wpAny _ _ _ _ _ { s1 with heap := s1.heap.push (seqObj "list" vs.toArray 0) }
  refine wpAny_bind (wpAny_holding (wpAny_call_entry slot_list_sort ⟨_, hoL, rfl⟩ entry_list_sort (SrtO.list_sort_ord O hoL hz (fun h2 => hS s1 vs k1 hc h2 _ _ hoL fun b o e => Heap.get?_push_of_some _ e) fun out hs hb => ⟨_, rfl, ?_⟩) (args_list_sort _)))
  obtain ⟨c, hc2⟩ := sortedHeap_at (vs := vs) (out := out.toArray) hoL
  refine wpAny_pure ⟨_, rfl, hQ s1 _ _ out c vs k1 g1 o1 hc (fun b u q => ?_) rfl rfl (Nat.le_refl _) hc2 hs hb hz⟩
  have hlt := Heap.lt_size q
  show (sortedHeap (s1.heap.push (seqObj "list" vs.toArray 0)) s1.heap.objs.size vs out.toArray).get? b = some u
  rw [sortedHeap_old (Nat.ne_of_lt hlt) (by rw [size_push']; exact Nat.lt_succ_of_lt hlt)]
  exact Heap.get?_push_of_some _ q
end
section
variable {X : Cx} {pins : List (Addr × Obj)} {s : Shared} {σ : L2.St} {H : Hp}
theorem inv_keep {s' : Shared} (I : Inv X pins σ H s) (k : ∀ b o, s.heap.get? b = some o → s'.heap.get? b = some o) (g : s'.gens = s.gens) (o : s'.os = s.os) : Inv X pins σ H s' :=
  I.call' (ch := []) o (Un.kept k) (I.hok.kept k) (by rw [g]; exact I.bare) (fun _ z => nomatch z)
theorem inv_lay {s' : Shared} {p : Addr} {ys : List V} {out : List Value} {c : Nat} (I : Inv X pins σ H s) (k : ∀ b o, s.heap.get? b = some o → s'.heap.get? b = some o) (g : s'.gens = s.gens) (o : s'.os = s.os) (hp : s.heap.objs.size ≤ p)
    (hz : ys.length ≤ sizeLine) (hv : Vals ys out) (hg : s'.heap.get? p = some (seqObj "list" out.toArray c)) : Inv X pins σ (upd H p (.lst ys)) s' :=
  I.call' (ch := []) o (Un.laid k hp (I.hok.fresh hp)) (I.hok.laid k hp ⟨hz, out, c, hv, hg⟩) (by rw [g]; exact I.bare) (fun _ z => nomatch z)
abbrev ColR (X : Cx) (s : Shared) (src : Value) (R : List V → Prop) : Prop :=
  ∀ (Q' : List Value → Shared → Prop) (E' : Value → Shared → Prop), (∀ (s1 : Shared) (vs : List Value), (∀ b o, s.heap.get? b = some o → s1.heap.get? b = some o) → s1.gens = s.gens → s1.os = s.os → vs.length ≤ sizeLine → (∃ xs, Vals xs vs ∧ R xs) → Q' vs s1) → wpAny (model X.prog X.w) X.A.in1 (collect src) Q' E' s
theorem sorted_int {src : Value} {R : List V → Prop} {Q : VK} (I : Inv X pins σ H s) (hcol : ColR X s src R) (hi : ∀ xs, R xs → ∃ ns : List Int, xs = ns.map V.int)
    (q : ∀ (ns ns' : List Int) (p : Addr), R (ns.map V.int) → ns'.Perm ns → ns'.Pairwise (· ≤ ·) → H p = none → Q (.ref p) (upd H p (.lst (ns'.map V.int)))) : wpAny (model X.prog X.w) X.A (call (.builtin "sorted") [src]) (EP X pins σ Q) X.xe s := by
  refine sorted_col SrtO.swo_int hcol (fun s1 vs k1 ⟨xs, rv, hR⟩ h2 h₁ a ha kk => ?_) fun s1 s2 p out c vs k1 g1 o1 ⟨xs, rv, hR⟩ k2 g2 o2 hp hg hs hb hz => ?_
  · obtain ⟨ns, rfl⟩ := hi xs hR
    exact SrtO.ints_sortable rv.ints h2
  · obtain ⟨ns, rfl⟩ := hi xs hR
    obtain ⟨e1, e2, e3⟩ := SrtO.ints_out rv.ints hs hb
    have I1 := inv_keep I k1 g1 o1
    refine ⟨.ref p, upd H p (.lst ((out.map SrtO.iv).map V.int)), inv_lay I1 k2 g2 o2 hp ?_ (vals_of_ints e1) hg, rfl, q ns _ p hR e2 e3 (I1.hok.fresh hp)⟩
    rw [List.length_map, List.length_map, hb.perm.length_eq]; exact hz
/-- the pair of ints at a place -/
def kOf (H : Hp) : V → Int × Int
  | .ref t => match H t with | some (.tup [.int a, .int b]) => (a, b) | _ => (0, 0)
  | _ => (0, 0)
def PairAt (H : Hp) (x : V) (p : Int × Int) : Prop := ∃ t, x = V.ref t ∧ H t = some (.tup [.int p.1, .int p.2])
def PairsAt (H : Hp) (xs : List V) : Prop := ∀ x ∈ xs, PairAt H x (kOf H x)
theorem PairAt.k {x : V} {p : Int × Int} (h : PairAt H x p) : kOf H x = p := by
  obtain ⟨t, rfl, e⟩ := h
  simp only [kOf, e]
theorem PairAt.pair {x : V} {p : Int × Int} {v : Value} (I : Inv X pins σ H s) (h : PairAt H x p) (r : RelV x v) : Srt.IsPair s.heap v p.1 p.2 := by
  obtain ⟨t, rfl, ht⟩ := h
  cases (show v = Value.ref t from r)
  obtain ⟨_, its2, r2, o, ho, hc, n, hd⟩ := I.hok _ _ ht
  obtain ⟨u1, u2, rfl, ri, rj⟩ := vals2 r2
  obtain ⟨t1, rfl⟩ := ri
  obtain ⟨t2, rfl⟩ := rj
  exact ⟨t, o, t1, t2, n, rfl, ho, hc, hd⟩
theorem PairsAt.refs {xs : List V} (h : PairsAt H xs) : ∀ x ∈ xs, ∃ a, x = V.ref a := fun x hx => by
  obtain ⟨t, e, _⟩ := h x hx
  exact ⟨t, e⟩
theorem sorted_srtP {k : V → Int × Int} {ys xs : List V} (h1 : SrtO.Srtd (ltP k) ys) (h2 : ys.Perm xs) : ys.map k = sortP (xs.map k) := by
  refine sortP_of (h2.map k) (List.pairwise_map.mpr (List.Pairwise.imp (fun {x y} h => ?_) h1))
  have := SrtO.lexB_no.mp h
  unfold pLeP
  omega
theorem sorted_pair {src : Value} {R : List V → Prop} {Q : VK} (I : Inv X pins σ H s) (hcol : ColR X s src R) (hi : ∀ xs, R xs → PairsAt H xs)
    (q : ∀ (xs ys : List V) (p : Addr), R xs → PairsAt H ys → ys.Perm xs → ys.map (kOf H) = sortP (xs.map (kOf H)) → H p = none → Q (.ref p) (upd H p (.lst ys))) : wpAny (model X.prog X.w) X.A (call (.builtin "sorted") [src]) (EP X pins σ Q) X.xe s := by
  have hx : ∀ (xs : List V) (vs : List Value), Vals xs vs → R xs → ∀ v ∈ vs, Srt.IsPair s.heap v (kOf H (backV v)).1 (kOf H (backV v)).2 := fun xs vs rv hR v hv => by
    obtain ⟨e1, e2⟩ := refs_back rv (hi xs hR).refs
    obtain ⟨t, rfl⟩ := e2 v hv
    have hm : V.ref t ∈ xs := by rw [e1]; exact List.mem_map.mpr ⟨_, hv, rfl⟩
    exact (hi xs hR _ hm).pair I rfl
  refine sorted_col (SrtO.swo_lex fun u => kOf H (backV u)) hcol (fun s1 vs k1 ⟨xs, rv, hR⟩ h2 h₁ a ha kk => ?_) fun s1 s2 p out c vs k1 g1 o1 ⟨xs, rv, hR⟩ k2 g2 o2 hp hg hs hb hz => ?_
  · refine SrtO.pairs_sortableO (s := { s1 with heap := h₁ }) (by omega) (fun v hm => (hx xs vs rv hR v hm).keeps fun b o e _ => kk b o (k1 b o e)) fun o e => ?_
    have e' : some o = some (seqObj "list" vs.toArray 0) := e.symm.trans ha
    cases e'
    intro c
    exact absurd (Value.type.inj c) (by decide)
  · obtain ⟨e1, e2⟩ := refs_back rv (hi xs hR).refs
    have h3 : ∀ u ∈ out, ∃ a, u = Value.ref a := fun u hu => e2 u (hb.perm.mem_iff.mp hu)
    have hpm : (out.map backV).Perm xs := by rw [e1]; exact hb.perm.map _
    have I1 := inv_keep I k1 g1 o1
    refine ⟨.ref p, upd H p (.lst (out.map backV)), inv_lay I1 k2 g2 o2 hp ?_ (vals_back h3) hg, rfl, q xs _ p hR (fun x hx => hi xs hR x (hpm.mem_iff.mp hx)) hpm (sorted_srtP (SrtO.srtd_map hs) hpm) (I1.hok.fresh hp)⟩
    rw [List.length_map, hb.perm.length_eq]; exact hz
end
end DL

set_option maxHeartbeats 2000000
namespace DL
open PySem PySem.Spec PyProof.Rows L2
section
variable {X : Cx} {pins : List (Addr × Obj)} {s : Shared} {σ : L2.St} {H : Hp}
theorem col_i (hc : X.calm = true) (I : Inv X pins σ H s) {a : Addr} {ks : List Int} {vs : List V} (e : Rd H a (.dK (kvI ks vs))) (hl : ks.length = vs.length) : ColR X s (.ref a) (fun xs => xs = ks.map V.int) := by
  intro Q' E' q
  obtain ⟨z, lo, us, rk, hd⟩ := dk_rd I.hok e
  obtain ⟨ep, hat⟩ := hd.dictAt
  have l0 : (kvI ks vs).length = ks.length := by simp [kvI, hl]
  have l1 : (kvI ks vs).length = us.length := Paired.length rk
  refine PySem.W.kdu_collect (A := X.A.in1) (PySem.W.kdl_dict (knd := mixKind X.prog X.w) (kvs := us) (ep := ep) lo) (I.ok.hd hc) hat (by rw [← l1]; exact z) fun h' tk acc hk hacc => ?_
  have hal : acc.toList.length = ks.length := by rw [Array.length_toList, hacc.1, ← l1, l0]
  refine q _ _ hk rfl rfl (by rw [hal, ← l0]; exact z) ⟨_, vals_of_at (by rw [List.length_map, hal]) (fun j x w h1 h2 => ?_), rfl⟩
  obtain ⟨k, y, hky, hi⟩ := hacc.2 j w (by rw [← Array.getElem?_toList]; exact h2)
  have e1 : ((kvI ks vs).map (·.1))[j]? = some k := by
    rw [KV.keys rk, List.getElem?_map, hky] <;> rfl
  have e2 : (kvI ks vs).map (·.1) = ks.map Sum.inl := by
    unfold kvI
    rw [List.map_fst_zip]
    rw [List.length_map]; omega
  rw [e2, List.getElem?_map] at e1
  rw [List.getElem?_map] at h1
  cases q3 : ks[j]? with
  | none => rw [q3] at e1; cases e1
  | some i =>
    rw [q3] at e1 h1
    simp only [Option.map_some, Option.some.injEq] at e1 h1
    subst h1; subst e1
    exact keyIs_rel (show keyIs (Sum.inl i) w = true from hi)
theorem col_t (hc : X.calm = true) (I : Inv X pins σ H s) {a : Addr} {ks : List NestedKey} {as : List Addr} {vs : List V} (e : Rd H a (TO X.prog X.w a ks as vs)) : ColR X s (.ref a) (fun xs => xs = as.map V.ref) := by
  intro Q' E' q
  obtain ⟨h1, h2, h3, h4, us, r, o, es, ep, ho, hx, hd, he, nd⟩ := TO.ent I.hok e
  have l2 : ks.length = us.length := h4.trans r.length
  have lz : (ks.zip (as.zip us)).length = ks.length := by rw [List.length_zip, List.length_zip]; omega
  have l1 : es.size = ks.length := by rw [size_of_entries he, lz]
  refine PySem.W.kdu_collect (A := X.A.in1) (kdl_raw h1 hx hd) (I.ok.hd hc) ho (by omega) fun h' tk acc kp it => ?_
  have ea : acc.toList = as.map Value.ref := by
    have hl : acc.toList.length = ks.length := by rw [Array.length_toList, it.1]; exact l1
    apply List.ext_getElem?
    intro j
    rw [List.getElem?_map]
    cases hj : acc.toList[j]? with
    | none =>
      have h1 := List.getElem?_eq_none_iff.mp hj
      rw [List.getElem?_eq_none (by omega)]
      rfl
    | some v =>
      obtain ⟨en, hen, hv⟩ := it.2 j v (by rw [← Array.getElem?_toList]; exact hj)
      have qe := entry_at he j
      rw [hen] at qe
      cases hb : (ks.zip (as.zip us))[j]? with
      | none => rw [hb] at qe; exact nomatch (show some en = none from qe)
      | some b =>
        rw [hb] at qe
        have e2 : en = entryOfKey (nestedKind X.prog X.w) b := Option.some.inj qe
        rw [List.getElem?_zip_eq_some] at hb
        have hb2 := hb.2
        rw [List.getElem?_zip_eq_some] at hb2
        rw [hv, e2, hb2.1]
        rfl
  refine q _ _ kp rfl rfl (by rw [ea, List.length_map, ← h3]; exact h2) ⟨_, by rw [ea]; exact vals_refs as, rfl⟩
theorem col_setI (hc : X.calm = true) (I : Inv X pins σ H s) {a : Addr} {S : Int → Bool} {n : Nat} (R : SetR X.w s.heap a S n) : ColR X s (.ref a) (fun xs => ∃ ns : List Int, xs = ns.map V.int ∧ ns.Nodup ∧ ∀ k, k ∈ ns ↔ S k = true) := by
  intro Q' E' q
  obtain ⟨o, es, ep, t, ho, hex, hd, g, nd, hm, hb, hf, hn, hr, hl⟩ := R
  refine collect_set (P := X.prog) (A := X.A.in1) (I.ok.hd hc) ⟨o, ho, hex.1, hd⟩ hf hb hr hl fun s1 vs k1 hz g1 o1 pm => ?_
  have hI : IntsAre vs (vs.map SrtO.iv) := SrtO.ints_iv fun v hv => by
    obtain ⟨e, he, q⟩ := List.mem_map.mp (pm.mem_iff.mp hv)
    obtain ⟨k, tk, h1, _⟩ := g e he
    exact ⟨k, tk, by rw [← q]; exact h1⟩
  have ek : ∀ l : List (Int × Value), (∀ e ∈ l, GoodE e) → (l.map (·.2)).map SrtO.iv = l.map keyOf := fun l hl => by
    rw [List.map_map]
    refine List.map_congr_left fun e he => ?_
    obtain ⟨k, tk, h1, _⟩ := hl e he
    simp [SrtO.iv, keyOf, h1]
  have pk : (vs.map SrtO.iv).Perm (es.toList.map keyOf) := by
    have := pm.map SrtO.iv
    rw [ek es.toList g] at this
    exact this
  refine q s1 vs k1 g1 o1 ?_ ⟨_, vals_of_ints hI, _, rfl, pk.nodup_iff.mpr nd, fun k => by rw [pk.mem_iff, ← hm k]⟩
  have h16 : scanBound ≤ sizeLine := by rw [sizeLine_eq]; decide
  rw [pm.length_eq, List.length_map, Array.length_toList]
  omega
theorem col_setT (hc : X.calm = true) (I : Inv X pins σ H s) {a : Addr} {L : List (Addr × List Int)} {es : Array (Int × Value)} {ep : Nat} {t : SetTable} (R : SetTR X.prog X.w s.heap a L es ep t) : ColR X s (.ref a) (fun xs => xs.Perm (L.map fun q => V.ref q.1)) := by
  intro Q' E' q
  obtain ⟨o, ho, hex, hd⟩ := R.ob
  have hsz := R.size
  have hfew := R.few
  refine collect_set (P := X.prog) (A := X.A.in1) (I.ok.hd hc) ⟨o, ho, hex.1, hd⟩ R.fits (by unfold scanBound; omega) R.tab.ris R.led fun s1 vs k1 hz g1 o1 pm => ?_
  have hes : es.toList.map (·.2) = L.map fun q => Value.ref q.1 := by
    rw [R.rows]
    unfold rowsOf
    rw [List.map_map] <;> rfl
  rw [hes] at pm
  have e2 : ∀ u ∈ vs, ∃ a, u = Value.ref a := fun u hu => by
    obtain ⟨q, _, e⟩ := List.mem_map.mp (pm.mem_iff.mp hu)
    exact ⟨_, e.symm⟩
  refine q s1 vs k1 g1 o1 ?_ ⟨_, vals_back e2, ?_⟩
  · rw [pm.length_eq, List.length_map, sizeLine_eq]; omega
  · have := pm.map backV
    rw [List.map_map] at this
    exact this
end

/-! ### sorted, on data -/
section
variable {P : Program} {w : World} {K : PySem.W.Frag} {H : Hp}
theorem pairsD_cons {d : D} {ds : List D} {ps : List (Int × Int)} (e : pairsD (d :: ds) = some ps) : ∃ i j ms, d = .tup [.int i, .int j] ∧ pairsD ds = some ms ∧ ps = (i, j) :: ms := by
  unfold pairsD at e
  split at e
  · rename_i h; cases h
  · rename_i i j r h
    cases h
    cases q : pairsD ds with
    | none => rw [q] at e; cases e
    | some ms =>
      rw [q] at e
      simp only [Option.map_some, Option.some.injEq] at e
      exact ⟨i, j, ms, rfl, rfl, e.symm⟩
  · cases e
theorem pairsD_at : ∀ {ds : List D} {vs : List V} {ps : List (Int × Int)}, Reps P w K H ds vs → pairsD ds = some ps → PairsAt H vs ∧ vs.map (kOf H) = ps
  | [], _, _, h, e => by simp only [Reps] at h; subst h; simp only [pairsD, Option.some.injEq] at e; subst e; exact ⟨fun _ h => (by cases h), rfl⟩
  | d :: ds, _, ps, h, e => by
    simp only [Reps] at h
    obtain ⟨v, r, rfl, h2, h3⟩ := h
    obtain ⟨i, j, ms, rfl, e1, rfl⟩ := pairsD_cons e
    obtain ⟨a1, a2⟩ := pairsD_at h3 e1
    simp only [Rep, Reps] at h2
    obtain ⟨a, vs, rfl, ha, v1, r1, rfl, rfl, v2, r2, rfl, rfl, rfl⟩ := h2
    have pa : PairAt H (.ref a) (i, j) := ⟨a, rfl, ha⟩
    refine ⟨fun x hx => ?_, ?_⟩
    · rcases List.mem_cons.mp hx with rfl | hx
      · rw [pa.k]; exact pa
      · exact a1 x hx
    · rw [List.map_cons, pa.k, a2]
theorem at_pairs : ∀ {vs : List V} {ps : List (Int × Int)}, PairsAt H vs → vs.map (kOf H) = ps → Reps P w K H (ps.map pD) vs
  | [], _, _, e => by subst e; exact Reps.nil
  | v :: vs, _, h, e => by
    subst e
    refine Reps.cons ?_ (at_pairs (fun x hx => h x (List.mem_cons_of_mem _ hx)) rfl)
    obtain ⟨t, e1, e2⟩ := h v List.mem_cons_self
    simp only [pD, Rep]
    exact ⟨t, _, e1, e2, Reps.cons (by simp only [Rep]) (Reps.cons (by simp only [Rep]) Reps.nil)⟩
theorem PairsAt.down {F : Hp} (ex : Ex F H) {vs : List V} (h : PairsAt F vs) : PairsAt H vs ∧ vs.map (kOf H) = vs.map (kOf F) := by
  have one : ∀ x ∈ vs, PairAt H x (kOf F x) := fun x hx => by
    obtain ⟨t, e1, e2⟩ := h x hx
    exact ⟨t, e1, ex _ _ e2⟩
  exact ⟨fun x hx => by rw [(one x hx).k]; exact one x hx, List.map_congr_left fun x hx => (one x hx).k⟩
end
theorem map_int_inj : ∀ {a b : List Int}, a.map V.int = b.map V.int → a = b
  | [], [], _ => rfl
  | [], _ :: _, h => by cases h
  | _ :: _, [], h => by cases h
  | x :: a, y :: b, h => by
    simp only [List.map_cons, List.cons.injEq, V.int.injEq] at h
    rw [h.1, map_int_inj h.2]
theorem intsD_none : ∀ ns : List Int, intsD (ns.map iD) = some ns
  | [] => rfl
  | n :: ns => by simp [intsD, iD, intsD_none ns]
section
variable {X : Cx} {A0 : Addr → Prop} {F0 H0 F H F' H' : Hp} {σ : L2.St} {s s' : DSt} {v : V} {d : D} {Pp : DSt → Rs → Prop} {Q : VK}
/-- behind sorted: ints -/
theorem fin_ints (q : Fin X.prog X.w X.K A0 F0 H0 σ s F H Pp Q) (aft : Aft X.prog X.w X.K A0 F0 H0 σ s F H s' F' H') {ns : List Int} (h : Pp s' (.o (.l (ns.map iD)))) {p : Addr} (hp : H' p = none) : Q (.ref p) (upd H' p (.lst (ns.map V.int))) :=
  q.lst aft (reps_ints ns) h hp
theorem fin_pairs (q : Fin X.prog X.w X.K A0 F0 H0 σ s F H Pp Q) (aft : Aft X.prog X.w X.K A0 F0 H0 σ s F H s' F' H') {ps : List (Int × Int)} {ys : List V} (pa : PairsAt F' ys) (e : ys.map (kOf F') = ps) (h : Pp s' (.o (.l (ps.map pD)))) {p : Addr} (hp : H' p = none) : Q (.ref p) (upd H' p (.lst ys)) :=
  q.lst aft (at_pairs pa e) h hp
theorem sortedD_ok (hc : X.calm = true) (q : Fin X.prog X.w X.K A0 F0 H0 σ s F H Pp Q) (aft : Aft X.prog X.w X.K A0 F0 H0 σ s F H s' F' H') (r : Rep X.prog X.w X.K F' d v) (h : sortedD d (Pp s')) : rCl X (.builtin "sorted") [v] H' Q := by
  rw [sortedD_eq] at h
  unfold sortedD0 at h
  have ex := aft.wd.ex
  split at h
  · simp only [Rep] at r
    obtain ⟨a, vs, rfl, h1, t1⟩ := r
    split at h
    · rename_i ns e
      have := intsD_reps t1 e
      subst this
      exact toCl cr_sortedI ⟨a, ns, rfl, SqL.of (ex _ _ h1), fun ns' p h2 h3 hp => by rw [sortI_of h2 h3]; exact fin_ints q aft h hp⟩
    · split at h
      · rename_i ps e
        obtain ⟨a1, a2⟩ := pairsD_at t1 e
        obtain ⟨b1, b2⟩ := a1.down ex
        refine toCl cr_sortedPO ⟨a, vs, kOf H', rfl, SqL.of (ex _ _ h1), b1, fun ys p h2 h3 hp => ?_⟩
        have ea : PairsAt F' ys := fun x hx => a1 x (h3.perm.mem_iff.mp hx)
        refine fin_pairs q aft ea ?_ h hp
        rw [← (ea.down ex).2, sorted_srtP h2 h3.perm, b2, a2]
      · exact h.elim
  · simp only [Rep] at r
    obtain ⟨a, o, vs, rfl, h1, l1, t1⟩ := r
    intro pins sh σ1 us I rv
    rw [Vals.ref1 rv]
    refine sorted_int I (col_i hc I (.inr ⟨_, ex _ _ h1⟩) (l1.trans t1.length)) (fun xs e => ⟨_, e⟩) fun ns ns' p e h2 h3 hp => ?_
    have e' := map_int_inj e
    subst e'
    rw [sortI_of h2 h3]; exact fin_ints q aft h hp
  · split at h
    · rename_i ks ds ps e
      simp only [Rep] at r
      obtain ⟨a, o, as, vs, rfl, h1, l1, k1, rk, t1⟩ := r
      obtain ⟨a1, a2⟩ := pairsD_at rk e
      obtain ⟨b1, b2⟩ := a1.down ex
      intro pins sh σ1 us I rv
      rw [Vals.ref1 rv]
      refine sorted_pair I (col_t hc I (.inr ⟨_, ex _ _ h1⟩)) (fun xs e => by rw [e]; exact b1) fun xs ys p e2 h2 h3 h4 hp => ?_
      subst e2
      have ea : PairsAt F' ys := fun x hx => a1 x (h3.mem_iff.mp hx)
      refine fin_pairs q aft ea ?_ h hp
      rw [← (ea.down ex).2, h4, b2, a2]
    · exact h.elim
  · exact h.elim
end
end DL

set_option maxHeartbeats 2000000
namespace DL
open PySem PySem.Spec PyProof.Rows L2

/-! ### uniq -/
section
variable {α : Type} [DecidableEq α]
theorem perm_uniq {l m : List α} (h : l.Nodup) (hm : ∀ x, x ∈ l ↔ x ∈ m) : l.Perm (uniq m) :=
  (List.perm_ext_iff_of_nodup h nodup_uniq).mpr fun x => by rw [hm, mem_uniq]
end

section
variable {X : Cx} {A0 : Addr → Prop} {F0 H0 F H F' H' : Hp} {σ : L2.St} {s s' : DSt} {v : V} {d : D} {Pp : DSt → Rs → Prop} {Q : VK}
theorem room_units (h : Room 1 X.A) : X.A.in1.in1.in1.units < cLine := by
  have := h.units
  show X.A.units + 1 + 1 + 1 < cLine
  omega
/-- the address and the ints of a pair -/
def adK (H : Hp) : V → Addr × List Int
  | .ref a => (a, [(kOf H (.ref a)).1, (kOf H (.ref a)).2])
  | _ => (0, [])
theorem ssetD_ok (hc : X.calm = true) (hr : Room 1 X.A) (q : Fin X.prog X.w X.K A0 F0 H0 σ s F H Pp Q) (aft : Aft X.prog X.w X.K A0 F0 H0 σ s F H s' F' H') (r : Rep X.prog X.w X.K F' d v) (h : ssetD d (Pp s')) :
    rCl X (.type "set") [v] H' fun u H1 => rCl X (.builtin "sorted") [u] H1 Q := by
  rw [ssetD_eq] at h
  unfold ssetD0 at h
  have ex := aft.wd.ex
  split at h
  · simp only [Rep] at r
    obtain ⟨a, vs, rfl, h1, t1⟩ := r
    split at h
    · rename_i ns e
      have := intsD_reps t1 e
      subst this
      intro pins sh σ1 us I rv
      rw [Vals.ref1 rv]
      obtain ⟨its, ri, hl, _⟩ := I.list (SqL.of (K := X.K) (ex _ _ h1))
      have hsb : ns.length + 1 < scanBound := by unfold scanBound; omega
      refine set_list hl.isList (loop_ints (A := X.A.in1.in1) ns (I.ok.hd hc) ri.ints hsb) fun h' tk ⟨c, hcn, R⟩ kp => ?_
      have hp : H' sh.heap.objs.size = none := I.hok.fresh (Nat.le_refl _)
      refine ⟨.ref sh.heap.objs.size, upd H' sh.heap.objs.size (SetO X.w sh.heap.objs.size (fun j => decide (j ∈ ns)) c), I.laid (t' := tk) kp (Nat.le_refl _) (setO_new R), rfl, ?_⟩
      generalize sh.heap.objs.size = p0 at hp ⊢
      intro pins2 s2 σ2 us2 I2 rv2
      rw [Vals.ref1 rv2]
      refine sorted_int I2 (col_setI hc I2 (setO_get I2 upd_same)) (fun xs ⟨ns, e, _⟩ => ⟨ns, e⟩) fun ns1 ns' p ⟨ns2, e2, nd, hm⟩ h2 h3 hp2 => ?_
      have e3 := map_int_inj e2
      subst e3
      have e4 : ns' = sortI (uniq ns) := sortI_of (h2.trans (perm_uniq nd fun x => by rw [hm x]; simp)) h3
      rw [e4]
      exact fin_ints q (aft.addH hp) h.2 hp2
    · split at h
      · rename_i ps e
        obtain ⟨a1, a2⟩ := pairsD_at t1 e
        obtain ⟨b1, b2⟩ := a1.down ex
        intro pins sh σ1 us I rv
        rw [Vals.ref1 rv]
        obtain ⟨its, ri, hl, hz⟩ := I.list (SqL.of (K := X.K) (ex _ _ h1))
        have kref : ∀ x ∈ vs, V.ref (adK H' x).1 = x ∧ (adK H' x).2 = [(kOf H' x).1, (kOf H' x).2] := fun x hx => by
          obtain ⟨t, rfl, _⟩ := b1 x hx
          exact ⟨rfl, rfl⟩
        have hvs : vs = (vs.map (adK H')).map fun p => V.ref p.1 := by
          rw [List.map_map]
          conv => lhs; rw [← List.map_id vs]
          exact List.map_congr_left fun x hx => (kref x hx).1.symm
        have hit : its = (vs.map (adK H')).map fun p => Value.ref p.1 := refs_of_vals (by rw [← hvs]; exact ri)
        have hk0 : ∀ p ∈ vs.map (adK H'), IsT X.prog X.w sh.heap p.2 p.1 := fun p hp => by
          obtain ⟨x, hx, rfl⟩ := List.mem_map.mp hp
          obtain ⟨t, ex2, ht⟩ := b1 x hx
          have := kref x hx
          rw [this.2]
          refine I.isT ?_
          have e5 : (adK H' x).1 = t := by rw [ex2]; rfl
          rw [e5]
          exact SqT.of ht
        have hkey : ∀ p ∈ vs.map (adK H'), ∃ x ∈ vs, V.ref p.1 = x ∧ p.2 = [(kOf H' x).1, (kOf H' x).2] := fun p hp => by
          obtain ⟨x, hx, rfl⟩ := List.mem_map.mp hp
          exact ⟨x, hx, kref x hx⟩
        have fs : ∀ l : List (Int × Int), l.Nodup → (∀ x ∈ l, x ∈ ps) → l.length ≤ (uniq ps).length := fun l h1 h2 => nodup_le h1 fun x hx => mem_uniq.mpr (h2 x hx)
        have two_inj : ∀ L : List (Addr × List Int), (∀ p ∈ L, p ∈ vs.map (adK H')) → L.map (·.2) = (L.map fun p => kOf H' (V.ref p.1)).map fun k => [k.1, k.2] := fun L hL => by
          rw [List.map_map]
          refine List.map_congr_left fun p hp => ?_
          obtain ⟨x, hx, e6, e7⟩ := hkey p (hL p hp)
          rw [e7, ← e6]
          rfl
        have nodK : ∀ L : List (Addr × List Int), (L.map (·.2)).Nodup → (∀ p ∈ L, p ∈ vs.map (adK H')) → (L.map fun p => kOf H' (V.ref p.1)).Nodup := fun L hn hL => by
          rw [two_inj L hL] at hn
          exact nodup_of_map hn
        have inPs : ∀ L : List (Addr × List Int), (∀ p ∈ L, p ∈ vs.map (adK H')) → ∀ k ∈ L.map fun p => kOf H' (V.ref p.1), k ∈ ps := fun L hL k hk => by
          obtain ⟨p, hp, rfl⟩ := List.mem_map.mp hk
          obtain ⟨x, hx, e6, e7⟩ := hkey p (hL p hp)
          rw [e6, ← a2, ← b2]
          exact List.mem_map.mpr ⟨x, hx, rfl⟩
        refine set_list hl.isList (loop_tups (A := X.A.in1.in1) (vs.map (adK H')) (I.ok.hd hc) (by simpa using hit) hk0 (room_units hr) fun L hn hL => ?_) fun h' tk ⟨L, es, ep, t, R, g⟩ kp => ?_
        · have := fs _ (nodK L hn hL) (inPs L hL)
          rw [List.length_map] at this
          omega
        · have hp : H' sh.heap.objs.size = none := I.hok.fresh (Nat.le_refl _)
          refine ⟨.ref sh.heap.objs.size, upd H' sh.heap.objs.size (SetTO X.prog X.w sh.heap.objs.size L), I.laid (t' := tk) kp (Nat.le_refl _) (setTO_new R.t0), rfl, ?_⟩
          have nd := R.nd
          clear R hit ri
          generalize sh.heap.objs.size = p0 at hp ⊢
          intro pins2 s2 σ2 us2 I2 rv2
          rw [Vals.ref1 rv2]
          have e8 : Ex H' (upd H' p0 (SetTO X.prog X.w p0 L)) := Ex.new hp
          obtain ⟨c1, c2⟩ := b1.down e8
          have R0 : SetT0 X.prog X.w s2.heap p0 L := (I2.hok p0 _ upd_same).1
          obtain ⟨es2, ep2, t2, R2⟩ := R0.full fun p hp => by
            obtain ⟨x, hx, e6, e7⟩ := hkey p (g.sub p hp)
            obtain ⟨t, e9, ht⟩ := b1 x hx
            rw [e7]
            have e10 : p.1 = t := by rw [e9] at e6; exact V.ref.inj e6
            rw [e10]
            exact I2.isT (k := [_, _]) (SqT.of (e8 _ _ ht))
          have mem : ∀ x ∈ L.map (fun q => V.ref q.1), x ∈ vs := fun x hx => by
            obtain ⟨p, hp, rfl⟩ := List.mem_map.mp hx
            obtain ⟨x, hx, e6, e7⟩ := hkey p (g.sub p hp)
            rw [e6]; exact hx
          refine sorted_pair I2 (col_setT hc I2 R2) (fun xs e x hx => c1 x (mem x (e.mem_iff.mp hx))) fun xs ys p e2 h2 h3 h4 hp2 => ?_
          have ea : PairsAt F' ys := fun x hx => a1 x (mem x (e2.mem_iff.mp (h3.mem_iff.mp hx)))
          have eb : PairsAt F' xs := fun x hx => a1 x (mem x (e2.mem_iff.mp hx))
          refine fin_pairs q (aft.addH hp) ea ?_ h.2 hp2
          rw [← (ea.down (ex.trans e8)).2, h4]
          refine sortP_of ((sortP_perm _).trans ?_) (sortP_sorted _)
          rw [(eb.down (ex.trans e8)).2]
          refine ((e2.map (kOf F'))).trans ?_
          have e11 : (L.map fun q => V.ref q.1).map (kOf F') = L.map fun p => kOf H' (V.ref p.1) := by
            rw [List.map_map]
            refine List.map_congr_left fun p hp => ?_
            have := mem (V.ref p.1) (List.mem_map.mpr ⟨p, hp, rfl⟩)
            have ek : ∀ x ∈ vs, kOf H' x = kOf F' x := fun x hx => by
              obtain ⟨t, e1, e2⟩ := a1 x hx
              exact PairAt.k ⟨t, e1, ex _ _ e2⟩
            exact (ek _ this).symm
          rw [e11]
          refine perm_uniq (nodK L nd g.sub) fun k => ⟨inPs L g.sub k, fun hk => ?_⟩
          rw [← a2, ← b2] at hk
          obtain ⟨x, hx, rfl⟩ := List.mem_map.mp hk
          have hq := g.all (adK H' x) (by rw [List.take_length]; exact List.mem_map.mpr ⟨x, hx, rfl⟩)
          rw [two_inj L g.sub] at hq
          obtain ⟨k2, hk2, e12⟩ := List.mem_map.mp hq
          rw [(kref x hx).2] at e12
          simp only [List.cons.injEq, and_true] at e12
          have : k2 = kOf H' x := Prod.ext e12.1 e12.2
          rw [← this]; exact hk2
      · exact h.elim
  · exact h.elim
end
end DL

set_option maxHeartbeats 2000000
namespace DL
open PySem PySem.Spec PyProof.Rows L2
section
variable {X : Cx} {A0 : Addr → Prop} {F0 H0 F H F' H' : Hp} {σ : L2.St} {s s' : DSt} {v : V} {d : D} {Pp : DSt → Rs → Prop} {Q : VK}
theorem lenD_ok (q : Fin X.prog X.w X.K A0 F0 H0 σ s F H Pp Q) (aft : Aft X.prog X.w X.K A0 F0 H0 σ s F H s' F' H') (r : Rep X.prog X.w X.K F' d v) (h : lenD d fun n => Pp s' (.v (.int n))) : rCl X (.builtin "len") [v] H' Q := by
  unfold lenD at h
  have ex := aft.wd.ex
  cases d <;> simp only at h
  · simp only [Rep] at r; subst r
    exact toCl call_len_str ⟨_, rfl, h.1, q.int aft h.2⟩
  · simp only [Rep] at r
    obtain ⟨a, vs, rfl, h1, t1⟩ := r
    rw [t1.length] at h
    exact toCl call_len_seq ⟨a, vs, rfl, .inr (SqT.of (ex _ _ h1)), q.int aft h⟩
  · simp only [Rep] at r
    obtain ⟨a, vs, rfl, h1, t1⟩ := r
    rw [t1.length] at h
    exact toCl call_len_seq ⟨a, vs, rfl, .inl (SqL.of (ex _ _ h1)), q.int aft h⟩
  · simp only [Rep] at r
    obtain ⟨a, vs, rfl, h1, t1⟩ := r
    rw [t1.length] at h
    exact toCl call_len_seq ⟨a, vs, rfl, .inl (ex_l ex h1), q.int aft h⟩
  · simp only [Rep] at r
    obtain ⟨a, o, vs, rfl, h1, l1, t1⟩ := r
    exact len_i (.inr ⟨_, ex _ _ h1⟩) (l1.trans t1.length) (q.int aft h)
  · simp only [Rep] at r
    obtain ⟨a, o, as, vs, rfl, h1, l1, k1, rk, t1⟩ := r
    exact len_t (.inr ⟨_, ex _ _ h1⟩) k1 (Reps.mono ex _ _ rk) (q.int aft h)
theorem biD_ok (hc : X.calm = true) {b : Bi} {ds : List D} {vs : List V} (q : Fin X.prog X.w X.K A0 F0 H0 σ s F H Pp Q) (aft : Aft X.prog X.w X.K A0 F0 H0 σ s F H s' F' H') (r : Reps X.prog X.w X.K F' ds vs) (hb : biOk b = true)
    (h : biD b ds (Pp s')) : rCl X (biVal b) vs H' Q := by
  have ex := aft.wd.ex
  unfold biD at h
  split at h
  · obtain ⟨v, r1, rfl, h1, h2⟩ := (by simpa only [Reps] using r)
    cases h2
    exact lenD_ok q aft h1 h
  · obtain ⟨v, r1, rfl, h1, h2⟩ := (by simpa only [Reps] using r)
    cases h2
    exact sortedD_ok hc q aft h1 h
  · cases hb
  · obtain ⟨v, r1, rfl, h1, h2⟩ := (by simpa only [Reps] using r)
    cases h2
    simp only [Rep] at h1
    obtain ⟨a, vs, rfl, h1, t1⟩ := h1
    exact toCl call_tuple_of ⟨a, vs, rfl, .inl ⟨SqL.of (ex _ _ h1), fun l hl => q.tup aft t1 h hl⟩⟩
  · obtain ⟨v, r1, rfl, h1, h2⟩ := (by simpa only [Reps] using r)
    cases h2
    have h0 := h1
    simp only [Rep] at h1
    obtain ⟨a, vs, rfl, h1, t1⟩ := h1
    exact toCl call_tuple_of ⟨a, vs, rfl, .inr ⟨SqT.of (ex _ _ h1), q.v aft h0 h⟩⟩
  · obtain ⟨v, r1, rfl, h1, h2⟩ := (by simpa only [Reps] using r)
    cases h2
    simp only [Rep] at h1
    obtain ⟨a, vs, rfl, h1, t1⟩ := h1
    exact toCl call_list_of ⟨a, vs, rfl, .inl (SqL.of (ex _ _ h1)), fun l hl => q.lst aft t1 h hl⟩
  · obtain ⟨v, r1, rfl, h1, h2⟩ := (by simpa only [Reps] using r)
    cases h2
    simp only [Rep] at h1
    obtain ⟨a, vs, rfl, h1, t1⟩ := h1
    exact toCl call_list_of ⟨a, vs, rfl, .inr (SqT.of (ex _ _ h1)), fun l hl => q.lst aft t1 h hl⟩
  · obtain ⟨v, r1, rfl, h1, h2⟩ := (by simpa only [Reps] using r)
    cases h2
    simp only [Rep] at h1
    obtain ⟨a, o, vs, rfl, h1, l1, t1⟩ := h1
    refine toCl (call_listD hc) ⟨a, _, rfl, .inr ⟨_, ex _ _ h1⟩, fun p hp => ?_⟩
    rename_i ks ds' 
    have e : ((kvI ks vs).map fun kv => kV kv.1) = ks.map V.int := by
      have e2 : (kvI ks vs).map (·.1) = ks.map Sum.inl := by
        unfold kvI
        rw [List.map_fst_zip]
        rw [List.length_map, l1, t1.length]; omega
      have e3 : (kvI ks vs).map (fun kv => kV kv.1) = ((kvI ks vs).map (·.1)).map kV := by rw [List.map_map]; rfl
      rw [e3, e2, List.map_map]
      rfl
    rw [e]
    exact fin_ints q aft h hp
  · obtain ⟨v, r1, rfl, h1, h2⟩ := (by simpa only [Reps] using r)
    cases h2
    split at h
    · simp only [Rep] at h1
      obtain ⟨a, vs, rfl, h1, t1⟩ := h1
      rename_i ns e
      have := intsD_reps t1 e
      subst this
      exact toCl (cr_sum hc) ⟨a, ns, rfl, SqL.of (ex _ _ h1), q.int aft h⟩
    · exact h.elim
  · obtain ⟨v, r1, rfl, h1, h2⟩ := (by simpa only [Reps] using r)
    cases h2
    split at h
    · simp only [Rep] at h1
      obtain ⟨a, vs, rfl, h1, t1⟩ := h1
      rename_i ns e
      have := intsD_reps t1 e
      subst this
      exact toCl (cr_sumT hc) ⟨a, ns, rfl, SqT.of (ex _ _ h1), q.int aft h⟩
    · exact h.elim
  · obtain ⟨v, r1, rfl, h1, h2⟩ := (by simpa only [Reps] using r)
    cases h2
    split at h
    · simp only [Rep] at h1
      obtain ⟨a, vs, rfl, h1, t1⟩ := h1
      rename_i ns e
      have := intsD_reps t1 e
      subst this
      exact toCl (cr_min hc) ⟨a, ns, rfl, SqL.of (ex _ _ h1), h.1, fun m h2 h3 => q.int aft (h.2 m h2 h3)⟩
    · exact h.elim
  · obtain ⟨v, r1, rfl, h1, h2⟩ := (by simpa only [Reps] using r)
    cases h2
    split at h
    · simp only [Rep] at h1
      obtain ⟨a, vs, rfl, h1, t1⟩ := h1
      rename_i ns e
      have := intsD_reps t1 e
      subst this
      exact toCl (cr_max hc) ⟨a, ns, rfl, SqL.of (ex _ _ h1), h.1, fun m h2 h3 => q.int aft (h.2 m h2 h3)⟩
    · exact h.elim
  · obtain ⟨v, r1, rfl, h1, v2, r2, rfl, h2, h3⟩ := (by simpa only [Reps] using r)
    cases h3
    simp only [Rep] at h1 h2; subst h1 h2
    exact toCl (call_min2 hc) ⟨_, _, rfl, q.int aft h⟩
  · obtain ⟨v, r1, rfl, h1, v2, r2, rfl, h2, h3⟩ := (by simpa only [Reps] using r)
    cases h3
    simp only [Rep] at h1 h2; subst h1 h2
    exact toCl (call_max2 hc) ⟨_, _, rfl, q.int aft h⟩
  · obtain ⟨v, r1, rfl, h1, h2⟩ := (by simpa only [Reps] using r)
    cases h2
    simp only [Rep] at h1; subst h1
    exact toCl call_abs ⟨_, rfl, q.int aft h⟩
  · obtain ⟨v, r1, rfl, h1, h2⟩ := (by simpa only [Reps] using r)
    cases h2
    split at h
    · simp only [Rep] at h1
      obtain ⟨a, vs, rfl, h1, t1⟩ := h1
      rename_i ns e
      have := bolsD_reps t1 e
      subst this
      exact toCl (cr_all hc) ⟨a, ns, rfl, SqL.of (ex _ _ h1), q.bl aft h⟩
    · exact h.elim
  · obtain ⟨v, r1, rfl, h1, h2⟩ := (by simpa only [Reps] using r)
    cases h2
    split at h
    · simp only [Rep] at h1
      obtain ⟨a, vs, rfl, h1, t1⟩ := h1
      rename_i ns e
      have := bolsD_reps t1 e
      subst this
      exact toCl (cr_any hc) ⟨a, ns, rfl, SqL.of (ex _ _ h1), q.bl aft h⟩
    · exact h.elim
  · obtain ⟨v, r1, rfl, h1, h2⟩ := (by simpa only [Reps] using r)
    cases h2
    simp only [Rep] at h1; subst h1
    exact toCl call_int1 (.inr ⟨_, rfl, q.int aft h⟩)
  · obtain ⟨v, r1, rfl, h1, h2⟩ := (by simpa only [Reps] using r)
    cases h2
    simp only [Rep] at h1; subst h1
    exact toCl call_bool1 (.inr ⟨_, rfl, q.bl aft h⟩)
  · cases hb
  · cases hb
  · cases hb
  · cases hb
  · exact h.elim
end
section
variable {T : Tab} {X : Cx} {sc : Scope} {N : List Str} {fb : Str → Bool} {W : WX} {a b c : Expr} {ea eb ec : E} {es : List Expr} {eas : Es} {pos p p2 q2 : Pos}
theorem ok_bi (g : Good T X sc N fb) {b : Bi} (hb : biOk b = true) (hg : glB sc (biNm b) = true) (hs : noStars (a :: es) = true) (h : OkV X W (a :: es) (wpV T.G (.cons ea eas))) :
    OkE X W (.Call (.Name (biNm b) p) (a :: es) [] pos) (wpE T.G (.bi b (.cons ea eas))) := by
  intro s Pp R hw A0 F0 H0 F H σ Q wd q hR
  rw [wpE] at hw
  have h1 := okNm_dbg (biNm_nm hb)
  simp only [noStars, Bool.and_eq_true] at hs
  have rule : L2.PE X (.Call (.Name (biNm b) p) (a :: es) [] pos) (tCB (rCl X (biVal b)) (tA X (a :: es))) := by
    have bv := boot_bi hb
    have cl := clC (X := X) (biVal b)
    have hbv : (∃ id, biVal b = .builtin id) ∨ ∃ t, biVal b = .type t := by
      cases b <;> first | exact .inl ⟨_, rfl⟩ | exact .inr ⟨_, rfl⟩ | cases hb
    rcases hbv with ⟨id, e⟩ | ⟨t, e⟩
    · rw [e] at bv cl ⊢
      exact pe_callB cl (glB_ok g hg) (g.bi _ (biNm_in hb)) bv (pA (a :: es)) h1.2.2 h1.1 (star_of hs.1) (noAny hs.2)
    · rw [e] at bv cl ⊢
      exact pe_callTy cl (glB_ok g hg) (g.bi _ (biNm_in hb)) bv (pA (a :: es)) h1.2.2 h1.1 (star_of hs.1) (noAny hs.2)
  refine rule.tE ?_
  exact h s _ R hw A0 F0 H0 F H σ _ wd (fun vs F' H' s' ds aft rs hp => biD_ok g.calm q aft rs hb hp) hR
theorem ok_sset (g : Good T X sc N fb) (h1 : glB sc "sorted" = true) (h2 : glB sc "set" = true) (hs : notStar a = true) (ha : OkE X W a (wpE T.G ea)) :
    OkE X W (.Call (.Name "sorted" p) [.Call (.Name "set" p2) [a] [] q2] [] pos) (wpE T.G (.bi .sset (.cons ea .nil))) := by
  intro s Pp R hw A0 F0 H0 F H σ Q wd q hR
  simp only [wpE, wpV] at hw
  refine (pe_callB (clC (.builtin "sorted")) (glB_ok g h1) (g.bi _ (by decide +kernel)) (by decide +kernel) (pa_cons (pe_callTy (clC (.type "set")) (glB_ok g h2) (g.bi _ (by decide +kernel)) (by decide +kernel)
    (pa_cons (pE a) pa_nil (star_of hs)) (by decide) (by decide) (star_of hs) rfl) pa_nil)).tE ?_
  refine one (Q := fun v H1 => rCl X (.type "set") [v] H1 fun u H2 => rCl X (.builtin "sorted") [u] H2 Q) (k1 := fun s1 d => ssetD d (Pp s1)) ha hw wd (fun v F' H' s' d aft r hk => ?_) hR
  exact ssetD_ok g.calm g.room q aft r hk
end
end DL

set_option maxHeartbeats 2000000
namespace DL
open PySem PySem.Spec PyProof.Rows L2

/-! ### ranges as lists, isinstance, reversed copies -/
section
variable {T : Tab} {X : Cx} {sc : Scope} {N : List Str} {fb : Str → Bool} {W : WX} {a b c : Expr} {ea eb ec : E} {es : List Expr} {eas : Es} {pos p p2 p3 q2 : Pos}
theorem star2 {e1 e2 : Expr} {env : Env} (h1 : notStar e1 = true) (h2 : notStar e2 = true) : starEach [e1, e2] env = [(false, eval e1 env), (false, eval e2 env)] := by
  rw [star_of h1, star_of h2]; rfl
theorem star1 {e1 : Expr} {env : Env} (h1 : notStar e1 = true) : starEach [e1] env = [(false, eval e1 env)] := by
  rw [star_of h1]; rfl
theorem ok_listR1 (g : Good T X sc N fb) (h1 : glB sc "list" = true) (h2 : glB sc "range" = true) (hs : notStar a = true) (ha : OkE X W a (wpE T.G ea)) :
    OkE X W (.Call (.Name "list" p) [.Call (.Name "range" p2) [a] [] q2] [] pos) (wpE T.G (.bi .listR1 (.cons ea .nil))) := by
  intro s Pp R hw A0 F0 H0 F H σ Q wd q hR
  simp only [wpE, wpV] at hw
  refine (pe_listRg g.calm (glB_ok g h1) (g.bi _ (by decide +kernel)) (prg_1 (glB_ok g h2) (g.bi _ (by decide +kernel)) (pE a) (star_of hs))).tE ?_
  refine one (Q := fun x H1 => ∃ n, x = .int n ∧ RgOk 0 n ∧ ∀ q, H1 q = none → Q (.ref q) (upd H1 q (.lst (rgV 0 n)))) (k1 := fun s1 d => biD .listR1 [d] (Pp s1)) ha hw wd (fun v F' H' s' d aft r hk => ?_) hR
  cases d <;> simp only [biD] at hk
  simp only [Rep] at r; subst r
  exact ⟨_, rfl, hk.1, fun l hl => Fin.lst q aft (reps_rng _ _) hk.2 hl⟩
theorem ok_tupR1 (g : Good T X sc N fb) (h1 : glB sc "tuple" = true) (h2 : glB sc "range" = true) (hs : notStar a = true) (ha : OkE X W a (wpE T.G ea)) :
    OkE X W (.Call (.Name "tuple" p) [.Call (.Name "range" p2) [a] [] q2] [] pos) (wpE T.G (.bi .tupR1 (.cons ea .nil))) := by
  intro s Pp R hw A0 F0 H0 F H σ Q wd q hR
  simp only [wpE, wpV] at hw
  refine (pe_tupRg g.calm (glB_ok g h1) (g.bi _ (by decide +kernel)) (prg_1 (glB_ok g h2) (g.bi _ (by decide +kernel)) (pE a) (star_of hs))).tE ?_
  refine one (Q := fun x H1 => ∃ n, x = .int n ∧ RgOk 0 n ∧ ∀ q, H1 q = none → Q (.ref q) (upd H1 q (.tup (rgV 0 n)))) (k1 := fun s1 d => biD .tupR1 [d] (Pp s1)) ha hw wd (fun v F' H' s' d aft r hk => ?_) hR
  cases d <;> simp only [biD] at hk
  simp only [Rep] at r; subst r
  exact ⟨_, rfl, hk.1, fun l hl => Fin.tup q aft (reps_rng _ _) hk.2 hl⟩
theorem ok_listR2 (g : Good T X sc N fb) (h1 : glB sc "list" = true) (h2 : glB sc "range" = true) (hs : notStar a = true) (hs2 : notStar b = true) (ha : OkE X W a (wpE T.G ea)) (hb : OkE X W b (wpE T.G eb)) :
    OkE X W (.Call (.Name "list" p) [.Call (.Name "range" p2) [a, b] [] q2] [] pos) (wpE T.G (.bi .listR2 (.cons ea (.cons eb .nil)))) := by
  intro s Pp R hw A0 F0 H0 F H σ Q wd q hR
  simp only [wpE, wpV] at hw
  refine (pe_listRg g.calm (glB_ok g h1) (g.bi _ (by decide +kernel)) (prg_2 (glB_ok g h2) (g.bi _ (by decide +kernel)) (pE a) (pE b) (star_of hs) (star_of hs2) (noAny (by simp [noStars, hs2])))).tE ?_
  refine two (Q := fun x y H2 => ∃ i j, x = .int i ∧ y = .int j ∧ RgOk i j ∧ ∀ q, H2 q = none → Q (.ref q) (upd H2 q (.lst (rgV i j)))) (k2 := fun s1 d1 d2 => biD .listR2 [d1, d2] (Pp s1)) ha hb hw wd (fun v u F' H' s' d1 d2 aft r1 r2 hk => ?_) hR
  cases d1 <;> first | (simp only [biD] at hk; done) | skip
  cases d2 <;> simp only [biD] at hk
  simp only [Rep] at r1 r2; subst r1 r2
  exact ⟨_, _, rfl, rfl, hk.1, fun l hl => Fin.lst q aft (reps_rng _ _) hk.2 hl⟩
theorem ok_tupR2 (g : Good T X sc N fb) (h1 : glB sc "tuple" = true) (h2 : glB sc "range" = true) (hs : notStar a = true) (hs2 : notStar b = true) (ha : OkE X W a (wpE T.G ea)) (hb : OkE X W b (wpE T.G eb)) :
    OkE X W (.Call (.Name "tuple" p) [.Call (.Name "range" p2) [a, b] [] q2] [] pos) (wpE T.G (.bi .tupR2 (.cons ea (.cons eb .nil)))) := by
  intro s Pp R hw A0 F0 H0 F H σ Q wd q hR
  simp only [wpE, wpV] at hw
  refine (pe_tupRg g.calm (glB_ok g h1) (g.bi _ (by decide +kernel)) (prg_2 (glB_ok g h2) (g.bi _ (by decide +kernel)) (pE a) (pE b) (star_of hs) (star_of hs2) (noAny (by simp [noStars, hs2])))).tE ?_
  refine two (Q := fun x y H2 => ∃ i j, x = .int i ∧ y = .int j ∧ RgOk i j ∧ ∀ q, H2 q = none → Q (.ref q) (upd H2 q (.tup (rgV i j)))) (k2 := fun s1 d1 d2 => biD .tupR2 [d1, d2] (Pp s1)) ha hb hw wd (fun v u F' H' s' d1 d2 aft r1 r2 hk => ?_) hR
  cases d1 <;> first | (simp only [biD] at hk; done) | skip
  cases d2 <;> simp only [biD] at hk
  simp only [Rep] at r1 r2; subst r1 r2
  exact ⟨_, _, rfl, rfl, hk.1, fun l hl => Fin.tup q aft (reps_rng _ _) hk.2 hl⟩
/-- the class names that isinstance may ask -/
def tyOk (ty : String) : Bool := ty == "int" || ty == "bool" || ty == "tuple" || ty == "list" || ty == "str" || ty == "dict"
theorem tyOk_b {ty : String} (h : tyOk ty = true) : (Str.ofString ty ∈ builtins) ∧ bootBuiltins (Str.ofString ty) = some (.type ty) ∧ (Str.ofString ty) ≠ "__name__" ∧ ((Str.ofString ty) == ("__debug__" : Str)) = false := by
  simp only [tyOk, Bool.or_eq_true, beq_iff_eq] at h
  rcases h with ((((rfl | rfl) | rfl) | rfl) | rfl) | rfl <;> exact ⟨by decide +kernel, by decide +kernel, by decide +kernel, by decide +kernel⟩
theorem Rep.tyX {P : Program} {w : World} {K : PySem.W.Frag} {F H : Hp} (ex : Ex F H) {d : D} {v : V} (r : Rep P w K F d v) (hd : d.odd = false) : TyX K H v (.type d.ty) := by
  cases d <;> simp only [Rep] at r <;> first | (cases hd; done) | skip
  · subst r; exact .base .non
  · subst r; exact .base (.bl _)
  · subst r; exact .base (.int _)
  · subst r; exact .base (.str _)
  · obtain ⟨a, vs, rfl, h1, _⟩ := r; exact .base (.tup (ex _ _ h1))
  · obtain ⟨a, vs, rfl, h1, _⟩ := r; exact .base (.lst (ex _ _ h1))
  · obtain ⟨a, o, vs, rfl, h1, _⟩ := r; exact .fDict (ex _ _ h1)
theorem ok_isi (g : Good T X sc N fb) {ty : String} (ht : tyOk ty = true) (h1 : glB sc "isinstance" = true) (h2 : glB sc (Str.ofString ty) = true) (hs : notStar a = true) (ha : OkE X W a (wpE T.G ea)) :
    OkE X W (.Call (.Name "isinstance" p) [a, .Name (Str.ofString ty) p2] [] pos) (wpE T.G (.isi ea ty)) := by
  intro s Pp R hw A0 F0 H0 F H σ Q wd q hR
  simp only [wpE] at hw
  obtain ⟨b1, b2, b3, b4⟩ := tyOk_b ht
  refine (pe_callB call_isi (glB_ok g h1) (g.bi _ (by decide +kernel)) (by decide +kernel) (pa_cons (pE a) (pa_cons (pe_bltn (v := .ty ty) (glB_ok g h2) (g.bi _ b1) b2 rfl b3 b4) pa_nil) (star_of hs)) (by decide) (by decide) (star_of hs) rfl).tE ?_
  refine one (Q := fun x H1 => rIsi X.K [x, .ty ty] H1 Q) (k1 := fun s1 d1 => isiD d1 ty fun b => Pp s1 (.v (.bl b))) ha hw wd (fun v F' H' s' d aft r hk => ?_) hR
  rw [isiD_eq] at hk
  unfold isiD0 at hk
  obtain ⟨hd, hk⟩ := hk
  split at hk
  · rename_i b e
    exact ⟨v, .ty ty, _, _, b, rfl, .ty ty, Rep.tyX aft.wd.ex r hd, kit_ty e, Fin.bl q aft hk⟩
  · exact hk.elim
end
end DL

set_option maxHeartbeats 2000000
namespace DL
open PySem PySem.Spec PyProof.Rows L2

/-! ### what is walked, as data -/
structure ItOk (P : Program) (w : World) (K : PySem.W.Frag) (F : Hp) (J : L2.It) (xs : List D) : Prop where
  stop : ∀ F1 H1, Ex F F1 → Ex F1 H1 → J.stop xs.length H1
  go : ∀ i F1 H1, i < xs.length → Ex F F1 → Ex F1 H1 → J.go i H1
  yld : ∀ i F1 H1 x H2 d, Ex F F1 → Ex F1 H1 → xs[i]? = some d → J.yld i H1 x H2 → (H2 = H1 ∧ Rep P w K F1 d x) ∨ ∃ p o, H1 p = none ∧ H2 = upd H1 p o ∧ Rep P w K (upd F1 p o) d x
def OkI (X : Cx) (W : WX) (tg e : Expr) (wi : DSt → (DSt → List D → Prop) → (Str → Prop) → Prop) : Prop :=
  ∀ s Pp R, wi s Pp R → ∀ A0 F0 H0 F H σ Q, Wd X.prog X.w X.K A0 F0 H0 F H σ s →
    (∀ J F' H' s' xs, Aft X.prog X.w X.K A0 F0 H0 σ s F H s' F' H' → ItOk X.prog X.w X.K F' J xs → Pp s' xs → Q J H') →
    (∀ c C H', R c → X.mg c = some (.ref C) → (∀ b o, H b = some o → ¬ ownA σ s b → H' b = some o) → W (.ref C) none σ H') → tI X tg e σ H Q
section
variable {X : Cx} {tg e : Expr} {σ : L2.St} {H : Hp} {R : L2.It → Hp → Prop}
def rIt (X : Cx) (tg : Expr) (σ : L2.St) : V → Hp → (L2.It → Hp → Prop) → Prop := fun x H R => ∀ pins s u, Inv X pins σ H s → RelV x u → wpAny (model X.prog X.w) X.A (pyIter u) (PIE X pins σ tg R) X.xe s
theorem tI_of (h : tE X e σ H fun x H1 => rIt X tg σ x H1 R) : tI X tg e σ H R := fun pins s I => thn (h pins s I) fun v s1 ⟨x, H1, I1, rx, q⟩ => q pins s1 v I1 rx
theorem it_list {a : Addr} {xs : List V} (h : SqL X.K H a xs) (q : R (Itl X.K a) H) : rIt X tg σ (.ref a) H R := by
  intro pins s u I1 r1
  cases r1
  obtain ⟨its, rv, p, hz⟩ := I1.list h
  refine wpAny_pyIter_list p.isList ?_
  exact pi_one (tk := s.toks) I1 _ (turn_list a _) ⟨_, Heap.get?_push_size _ rfl, rfl, rfl⟩ q
theorem it_tup {a : Addr} {xs : List V} (h : SqT X.K H a xs) (q : R (Itt X.K a) H) : rIt X tg σ (.ref a) H R := by
  intro pins s u I1 r1
  cases r1
  obtain ⟨its, rv, p, hz⟩ := I1.tuple h
  refine wpAny_pyIter_tuple (show s.heap.IsTuple a its.toArray from p) ?_
  exact pi_one (tk := s.toks) I1 _ (turn_tuple a _) ⟨_, Heap.get?_push_size _ rfl, rfl, rfl⟩ q
theorem it_keys {d : Addr} {o : Obj} {kvs : List (Key × V)} (hd : H d = some (.frz o (.dK kvs))) (q : R (Itk d o kvs) H) : rIt X tg σ (.ref d) H R := by
  intro pins s u I1 r1
  cases r1
  obtain ⟨hs, hgd, hx, es, ep, vs, hdt, hsz, kv, hm⟩ := I1.frzK hd
  refine iter_keys hs hgd hx hdt (pi_one (tk := s.toks) I1 _ (turn_keys _ hdt) ⟨_, Heap.get?_push_size _ rfl, rfl, ?_⟩ q)
  rw [hsz]; rfl
/-! dicts with tuple keys -/
def Itn (P : Program) (w : World) (d : Addr) (o : Obj) (ks : List NestedKey) (as : List Addr) (vs : List V) : L2.It :=
  ⟨fun i H => H d = some (.frz o (TO P w d ks as vs)) ∧ i < as.length, fun i H x H' => H' = H ∧ ∃ q, as[i]? = some q ∧ x = .ref q, fun i H => H d = some (.frz o (TO P w d ks as vs)) ∧ as.length ≤ i⟩
theorem TEnt.keys {P : Program} {w : World} {h : Heap} {a : Addr} {ks : List NestedKey} {as : List Addr} {vs : List V} {o : Obj} (ho : h.get? a = some o) (e : TEnt P w h a ks as vs) :
    (a == sysModules) = false ∧ o.ExactDict ∧ ∃ es ep, o.data = .dict es ep ∧ es.size = as.length ∧ ∀ (i : Nat) (q : Addr), as[i]? = some q → ∃ en : DictEntry, es[i]? = some en ∧ en.key = .ref q := by
  obtain ⟨h1, h2, h3, h4, us, r, o', es, ep, e1, e2, e3, e4, nd⟩ := e
  rw [ho] at e1
  cases e1
  have l2 : ks.length = us.length := h4.trans r.length
  refine ⟨h1, e2, es, ep, e3, ?_, fun i q hq => ?_⟩
  · rw [size_of_entries e4, List.length_zip, List.length_zip]; omega
  · have hi : i < as.length := (List.getElem?_eq_some_iff.mp hq).1
    have hz : (ks.zip (as.zip us))[i]? = some (ks[i]'(by omega), (q, us[i]'(by omega))) := by
      rw [List.getElem?_zip_eq_some]
      refine ⟨List.getElem?_eq_getElem (by omega), ?_⟩
      show (as.zip us)[i]? = some (q, _)
      rw [List.getElem?_zip_eq_some]
      exact ⟨hq, List.getElem?_eq_getElem (by omega)⟩
    have qe := entry_at e4 i
    rw [hz] at qe
    exact ⟨_, qe, rfl⟩
theorem turn_keysN {P : Program} {w : World} {K : PySem.W.Frag} {tg : Expr} {d : Addr} {o : Obj} {es : Array DictEntry} {ep : Nat} {ks : List NestedKey} {as : List Addr} {vs : List V} (it : Addr) (hod : o.data = .dict es ep) :
    Turn P w K tg (Itn P w d o ks as vs) [it] it (fun i h => h.IsKeyIter it d i as.length ep) where
  mem := by simp
  obj := fun i h st b hb => by
    have e : b = it := by simpa using hb
    subst e
    obtain ⟨oi, e, c, dd⟩ := st
    exact ⟨oi, e, fun v z => by rw [dd] at z; cases z⟩
  keep := fun i h h' st k => st.at fun oi e => k it (by simp) oi e
  item := by
    intro X hP hw hK hc i pins s σ H E I hf st hg
    subst hP hw hK
    obtain ⟨hd, hi⟩ := hg
    obtain ⟨f0, f1, f2, f3, f4, f5⟩ := hf it (by simp)
    obtain ⟨hgd, hT⟩ := (show ObjOk X.prog X.w H s.heap d (.frz o (TO X.prog X.w d ks as vs)) from I.hok d _ hd)
    obtain ⟨hs, hx, es', ep', hdt, hsz, ent⟩ := TEnt.keys hgd hT.1
    obtain ⟨rfl, rfl⟩ := dict_ep hod hdt
    obtain ⟨en, hen, hk⟩ := ent i as[i] (List.getElem?_eq_getElem hi)
    refine next_key_item st hgd hdt hsz hen fun h' st' sb => ?_
    have I1 : Inv X pins σ H { s with heap := h' } := I.turned (t' := s.toks) (fun b ob hb e => (sb.2 b hb).trans e) f0 f1 f3 f4 f5
    obtain ⟨oi, e, c, dd⟩ := id st'
    exact ⟨en.key, rfl, go_of (s := { s with heap := h' }) e c dd (by decide) ⟨.ref as[i], H, I1, by rw [hk]; rfl, ⟨rfl, as[i], List.getElem?_eq_getElem hi, rfl⟩, st', fun b hb => (hf b hb).1⟩⟩
  done := by
    intro X hP hw hK hc i pins s σ H E I hf st hg
    subst hP hw hK
    obtain ⟨hd, hi⟩ := hg
    obtain ⟨f0, f1, f2, f3, f4, f5⟩ := hf it (by simp)
    obtain ⟨hgd, hT⟩ := (show ObjOk X.prog X.w H s.heap d (.frz o (TO X.prog X.w d ks as vs)) from I.hok d _ hd)
    obtain ⟨hs, hx, es', ep', hdt, hsz, ent⟩ := TEnt.keys hgd hT.1
    obtain ⟨rfl, rfl⟩ := dict_ep hod hdt
    exact next_key_end (I.ok.hd hc) st hgd hdt hsz hi fun h' eb => ⟨rfl, I.turned (t' := s.toks) (fun b ob hb e => eb b ob hb e) f0 f1 f3 f4 f5⟩
  self := fun A i s Q E st h => wpAny_pyIter_keyiter st h
theorem it_keysN {d : Addr} {o : Obj} {ks : List NestedKey} {as : List Addr} {vs : List V} (hd : H d = some (.frz o (TO X.prog X.w d ks as vs))) (q : R (Itn X.prog X.w d o ks as vs) H) : rIt X tg σ (.ref d) H R := by
  intro pins s u I1 r1
  cases r1
  obtain ⟨hgd, hT⟩ := (show ObjOk X.prog X.w H s.heap d (.frz o (TO X.prog X.w d ks as vs)) from I1.hok d _ hd)
  obtain ⟨hs, hx, es, ep, hdt, hsz, ent⟩ := TEnt.keys hgd hT.1
  refine iter_keys hs hgd hx hdt (pi_one (tk := s.toks) I1 _ (turn_keysN _ hdt) ⟨_, Heap.get?_push_size _ rfl, rfl, ?_⟩ q)
  rw [hsz]; rfl
end
section
variable {P : Program} {w : World} {K : PySem.W.Frag} {F : Hp}
theorem Reps.at {ds : List D} {vs : List V} (r : Reps P w K F ds vs) {i : Nat} {d : D} {x : V} (h1 : ds[i]? = some d) (h2 : vs[i]? = some x) : Rep P w K F d x := by
  obtain ⟨v, e, rr⟩ := r.get h1
  rw [h2] at e; cases e
  exact rr
theorem ito_list {a : Addr} {vs : List V} {ds : List D} (h : F a = some (.lst vs)) (r : Reps P w K F ds vs) : ItOk P w K F (Itl K a) ds where
  stop := fun F1 H1 e1 e2 => ⟨vs, SqL.of (e2 _ _ (e1 _ _ h)), Nat.le_of_eq r.length.symm⟩
  go := fun i F1 H1 hi e1 e2 => by
    obtain ⟨v, ev, _⟩ := r.get (List.getElem?_eq_getElem hi)
    exact ⟨vs, v, SqL.of (e2 _ _ (e1 _ _ h)), ev⟩
  yld := fun i F1 H1 x H2 d e1 e2 hd ⟨e, hx⟩ => .inl ⟨e, Rep.mono e1 _ _ (r.at hd (hx vs (SqL.of (e2 _ _ (e1 _ _ h)))))⟩
theorem ito_tup {a : Addr} {vs : List V} {ds : List D} (h : F a = some (.tup vs)) (r : Reps P w K F ds vs) : ItOk P w K F (Itt K a) ds where
  stop := fun F1 H1 e1 e2 => ⟨vs, SqT.of (e2 _ _ (e1 _ _ h)), Nat.le_of_eq r.length.symm⟩
  go := fun i F1 H1 hi e1 e2 => by
    obtain ⟨v, ev, _⟩ := r.get (List.getElem?_eq_getElem hi)
    exact ⟨vs, v, SqT.of (e2 _ _ (e1 _ _ h)), ev⟩
  yld := fun i F1 H1 x H2 d e1 e2 hd ⟨e, hx⟩ => .inl ⟨e, Rep.mono e1 _ _ (r.at hd (hx vs (SqT.of (e2 _ _ (e1 _ _ h)))))⟩
theorem kvI_get {ks : List Int} {vs : List V} {i : Nat} {k : Key} {v : V} (h : (kvI ks vs)[i]? = some (k, v)) : ∃ j, ks[i]? = some j ∧ k = Sum.inl j := by
  unfold kvI at h
  rw [List.getElem?_zip_eq_some] at h
  have h1 := h.1
  rw [List.getElem?_map] at h1
  cases q : ks[i]? with
  | none => rw [q] at h1; cases h1
  | some j => rw [q] at h1; exact ⟨j, rfl, (Option.some.inj h1).symm⟩
theorem ito_keys {a : Addr} {o : Obj} {ks : List Int} {vs : List V} (h : F a = some (.frz o (.dK (kvI ks vs)))) (hl : ks.length = vs.length) : ItOk P w K F (Itk a o (kvI ks vs)) (ks.map iD) := by
  have l0 : (kvI ks vs).length = (ks.map iD).length := by simp [kvI, hl]
  refine ⟨fun F1 H1 e1 e2 => ⟨e2 _ _ (e1 _ _ h), Nat.le_of_eq l0⟩, fun i F1 H1 hi e1 e2 => ⟨e2 _ _ (e1 _ _ h), by rw [l0]; exact hi⟩, fun i F1 H1 x H2 d e1 e2 hd ⟨e, k, v, hkv, hx⟩ => .inl ⟨e, ?_⟩⟩
  obtain ⟨j, hj, rfl⟩ := kvI_get hkv
  rw [List.getElem?_map, hj] at hd
  simp only [Option.map_some, Option.some.injEq] at hd
  subst hd; subst hx
  simp only [iD, Rep]; rfl
theorem ito_keysN {a : Addr} {o : Obj} {nk : List NestedKey} {ks : List D} {as : List Addr} {vs : List V} (h : F a = some (.frz o (TO P w a nk as vs))) (r : Reps P w K F ks (as.map V.ref)) : ItOk P w K F (Itn P w a o nk as vs) ks := by
  have l0 : as.length = ks.length := by rw [r.length, List.length_map]
  refine ⟨fun F1 H1 e1 e2 => ⟨e2 _ _ (e1 _ _ h), Nat.le_of_eq l0⟩, fun i F1 H1 hi e1 e2 => ⟨e2 _ _ (e1 _ _ h), by rw [l0]; exact hi⟩, fun i F1 H1 x H2 d e1 e2 hd ⟨e, q, hq, hx⟩ => .inl ⟨e, ?_⟩⟩
  subst hx
  exact Rep.mono e1 _ _ (r.at hd (by rw [List.getElem?_map, hq]; rfl))
theorem rngD_get {a b : Int} {i : Nat} {d : D} (h : (rngD a b)[i]? = some d) : d = .int (a + i) := by
  unfold rngD at h
  rw [List.getElem?_map] at h
  by_cases hi : i < (b - a).toNat
  · rw [List.getElem?_range hi] at h
    exact (Option.some.inj h).symm
  · rw [List.getElem?_eq_none (by simpa using hi)] at h
    cases h
theorem rngD_length (a b : Int) : (rngD a b).length = (b - a).toNat := by simp [rngD]
theorem ito_rng (a b : Int) : ItOk P w K F (Itr a (b - a).toNat) (rngD a b) := by
  refine ⟨fun F1 H1 e1 e2 => ?_, fun i F1 H1 hi e1 e2 => ?_, fun i F1 H1 x H2 d e1 e2 hd ⟨e, hx⟩ => .inl ⟨e, ?_⟩⟩
  · exact Nat.le_of_eq (rngD_length a b).symm
  · rw [rngD_length] at hi; exact hi
  · rw [rngD_get hd, hx]; simp only [Rep]
theorem ito_rngD (a b : Int) : ItOk P w K F (Itc a (-1) (a - b).toNat) ((List.range (a - b).toNat).map fun (k : Nat) => D.int (a - (k : Int))) := by
  refine ⟨fun F1 H1 e1 e2 => ?_, fun i F1 H1 hi e1 e2 => ?_, fun i F1 H1 x H2 d e1 e2 hd ⟨e, hx⟩ => .inl ⟨e, ?_⟩⟩
  · exact Nat.le_of_eq (by simp)
  · simp at hi; show i < _; omega
  · rw [List.getElem?_map] at hd
    cases q : (List.range (a - b).toNat)[i]? with
    | none => rw [q] at hd; cases hd
    | some j =>
      rw [q] at hd
      have hi : i < (a - b).toNat := by
        have := (List.getElem?_eq_some_iff.mp q).1
        simpa using this
      rw [List.getElem?_range hi] at q
      cases q
      rw [← Option.some.inj hd, hx]
      simp only [Rep, V.int.injEq]
      omega
theorem iotaD_get {xs : List D} {i : Nat} {d : D} (h : (iotaD xs)[i]? = some d) : ∃ x, xs[i]? = some x ∧ d = .tup [.int i, x] := by
  unfold iotaD at h
  rw [List.getElem?_map] at h
  by_cases hi : i < xs.length
  · rw [List.getElem?_range hi] at h
    refine ⟨xs[i], List.getElem?_eq_getElem hi, ?_⟩
    have h2 := Option.some.inj h
    simp only [List.getD_eq_getElem?_getD, List.getElem?_eq_getElem hi, Option.getD_some] at h2
    exact h2.symm
  · rw [List.getElem?_eq_none (by simpa using hi)] at h
    cases h
theorem Rep.pair {p : Addr} {d1 d2 : D} {x1 x2 : V} {H1 : Hp} (hf : F p = none) (r1 : Rep P w K F d1 x1) (r2 : Rep P w K F d2 x2) : Rep P w K (upd F p (.tup [x1, x2])) (.tup [d1, d2]) (.ref p) := by
  have ex : Ex F (upd F p (.tup [x1, x2])) := Ex.new hf
  rw [Rep]
  exact ⟨p, _, rfl, upd_same, Reps.cons (Rep.mono ex _ _ r1) (Reps.cons (Rep.mono ex _ _ r2) Reps.nil)⟩
theorem ito_enum {a : Addr} {vs : List V} {ds : List D} (h : F a = some (.lst vs)) (r : Reps P w K F ds vs) : ItOk P w K F (Ite K a) (iotaD ds) := by
  have l0 : (iotaD ds).length = ds.length := by simp [iotaD]
  refine ⟨fun F1 H1 e1 e2 => ⟨vs, SqL.of (e2 _ _ (e1 _ _ h)), Nat.le_of_eq (by rw [l0, r.length])⟩, fun i F1 H1 hi e1 e2 => ?_, fun i F1 H1 x H2 d e1 e2 hd ⟨p, x1, hx, hp, e, hy⟩ => .inr ⟨p, _, hp, e, ?_⟩⟩
  · rw [l0] at hi
    obtain ⟨v, ev, _⟩ := r.get (List.getElem?_eq_getElem hi)
    exact ⟨vs, v, SqL.of (e2 _ _ (e1 _ _ h)), ev⟩
  · subst hx
    obtain ⟨y, hy2, rfl⟩ := iotaD_get hd
    exact Rep.pair (H1 := H1) (e2.free hp) (by simp only [Rep]) (Rep.mono e1 _ _ (r.at hy2 (hy vs (SqL.of (e2 _ _ (e1 _ _ h))))))
theorem ito_zip {a b : Addr} {vs us : List V} {ds es : List D} (h : F a = some (.lst vs)) (r : Reps P w K F ds vs) (h' : F b = some (.lst us)) (r' : Reps P w K F es us) : ItOk P w K F (Itz K a b) (zipD ds es) := by
  have l0 : (zipD ds es).length = min ds.length es.length := by simp [zipD]
  have lv := r.length
  have lu := r'.length
  refine ⟨fun F1 H1 e1 e2 => ⟨vs, us, SqL.of (e2 _ _ (e1 _ _ h)), SqL.of (e2 _ _ (e1 _ _ h')), by omega⟩, fun i F1 H1 hi e1 e2 => ?_, fun i F1 H1 x H2 d e1 e2 hd ⟨p, x1, x2, hx, hp, e, hy, hz⟩ => .inr ⟨p, _, hp, e, ?_⟩⟩
  · have hi1 : i < vs.length := by omega
    have hi2 : i < us.length := by omega
    exact ⟨vs, us, vs[i], us[i], SqL.of (e2 _ _ (e1 _ _ h)), SqL.of (e2 _ _ (e1 _ _ h')), List.getElem?_eq_getElem hi1, List.getElem?_eq_getElem hi2⟩
  · subst hx
    unfold zipD at hd
    rw [List.getElem?_map] at hd
    cases q : (ds.zip es)[i]? with
    | none => rw [q] at hd; cases hd
    | some pr =>
      rw [q] at hd
      have q2 := List.getElem?_zip_eq_some.mp (show (ds.zip es)[i]? = some (pr.1, pr.2) from q)
      rw [← Option.some.inj hd]
      exact Rep.pair (H1 := H1) (e2.free hp) (Rep.mono e1 _ _ (r.at q2.1 (hy vs (SqL.of (e2 _ _ (e1 _ _ h)))))) (Rep.mono e1 _ _ (r'.at q2.2 (hz us (SqL.of (e2 _ _ (e1 _ _ h'))))))
end
section
variable {T : Tab} {X : Cx} {sc : Scope} {N : List Str} {fb : Str → Bool} {W : WX} {a b c tg : Expr} {ea eb ec : E} {pos p p2 p3 tpos : Pos} {k3 kk : Nat} {elts : List Expr}
theorem oki_seq (ha : OkE X W a (wpE T.G ea)) : OkI X W tg a (wpI T.G (.seq ea)) := by
  intro s Pp R hw A0 F0 H0 F H σ Q wd q hR
  simp only [wpI] at hw
  refine tI_of (one (Q := fun x H1 => rIt X tg σ x H1 Q) (k1 := fun s1 d => seqD d (Pp s1)) ha hw wd (fun v F' H' s' d aft r hk => ?_) hR)
  have ex := aft.wd.ex
  rw [seqD_eq] at hk
  unfold seqD0 at hk
  split at hk
  · simp only [Rep] at r
    obtain ⟨a, vs, rfl, h1, t1⟩ := r
    exact it_list (SqL.of (ex _ _ h1)) (q _ _ _ _ _ aft (ito_list h1 t1) hk)
  · simp only [Rep] at r
    obtain ⟨a, vs, rfl, h1, t1⟩ := r
    exact it_tup (SqT.of (ex _ _ h1)) (q _ _ _ _ _ aft (ito_tup h1 t1) hk)
  · simp only [Rep] at r
    obtain ⟨a, o, vs, rfl, h1, l1, t1⟩ := r
    exact it_keys (ex _ _ h1) (q _ _ _ _ _ aft (ito_keys h1 (l1.trans t1.length)) hk)
  · simp only [Rep] at r
    obtain ⟨a, o, as, vs, rfl, h1, l1, k1, rk, t1⟩ := r
    exact it_keysN (ex _ _ h1) (q _ _ _ _ _ aft (ito_keysN h1 rk) hk)
  · exact hk.elim
theorem oki_rng1 (g : Good T X sc N fb) (h2 : glB sc "range" = true) (hs : notStar a = true) (ha : OkE X W a (wpE T.G ea)) : OkI X W tg (.Call (.Name "range" p) [a] [] pos) (wpI T.G (.rng1 ea)) := by
  intro s Pp R hw A0 F0 H0 F H σ Q wd q hR
  simp only [wpI] at hw
  refine (pi_range1 (glB_ok g h2) (g.bi _ (by decide +kernel)) (pa_cons (pE a) pa_nil (star_of hs)) (star1 hs)).tI ?_
  refine one (Q := fun x H1 => ∃ j : Int, [x] = [V.int j] ∧ -(2 ^ 62) ≤ j ∧ j < 2 ^ 62 ∧ Q (Itr 0 j.toNat) H1) (k1 := fun s1 d => asI d fun n => rngOk 0 n ∧ Pp s1 (rngD 0 n)) ha hw wd (fun v F' H' s' d aft r hk => ?_) hR
  unfold asI at hk
  split at hk
  · rename_i n
    simp only [Rep] at r; subst r
    have := ito_rng (P := X.prog) (w := X.w) (K := X.K) (F := F') 0 n
    rw [Int.sub_zero] at this
    exact ⟨_, rfl, hk.1.2.2.1, hk.1.2.2.2, q _ _ _ _ _ aft this hk.2⟩
  · exact hk.elim
theorem oki_rng2 (g : Good T X sc N fb) (h2 : glB sc "range" = true) (hs : notStar a = true) (hs2 : notStar b = true) (ha : OkE X W a (wpE T.G ea)) (hb : OkE X W b (wpE T.G eb)) : OkI X W tg (.Call (.Name "range" p) [a, b] [] pos) (wpI T.G (.rng2 ea eb)) := by
  intro s Pp R hw A0 F0 H0 F H σ Q wd q hR
  simp only [wpI] at hw
  refine (pi_range2 (glB_ok g h2) (g.bi _ (by decide +kernel)) (pa_cons (pE a) (pa_cons (pE b) pa_nil (star_of hs2)) (star_of hs)) (star2 hs hs2) (star1 hs2)).tI ?_
  refine two (Q := fun x y H2 => ∃ i j : Int, [x, y] = [V.int i, V.int j] ∧ (-(2 ^ 62) ≤ i ∧ i < 2 ^ 62 ∧ -(2 ^ 62) ≤ j ∧ j < 2 ^ 62) ∧ Q (Itr i (j - i).toNat) H2) (k2 := fun s2 d1 d2 => asI d1 fun i => asI d2 fun j => rngOk i j ∧ Pp s2 (rngD i j)) ha hb hw wd
    (fun v u F' H' s' d1 d2 aft r1 r2 hk => ?_) hR
  unfold asI at hk
  split at hk
  · split at hk
    · simp only [Rep] at r1 r2; subst r1 r2
      exact ⟨_, _, rfl, hk.1, q _ _ _ _ _ aft (ito_rng _ _) hk.2⟩
    · exact hk.elim
  · exact hk.elim
theorem oki_rngD (g : Good T X sc N fb) (h2 : glB sc "range" = true) (hs : notStar a = true) (hs2 : notStar b = true) (ha : OkE X W a (wpE T.G ea)) (hb : OkE X W b (wpE T.G eb)) :
    OkI X W tg (.Call (.Name "range" p) [a, b, .UnaryOp .USub (.Constant (.int 1) k3 p2) p3] [] pos) (wpI T.G (.rngD ea eb)) := by
  intro s Pp R hw A0 F0 H0 F H σ Q wd q hR
  simp only [wpI] at hw
  refine (pi_range3 (glB_ok g h2) (g.bi _ (by decide +kernel)) (pa_cons (pE a) (pa_cons (pE b) (pa_cons (pe_un un_neg pe_int) pa_nil) (star_of hs2)) (star_of hs)) (star_of hs) (noAny (by simp only [noStars, hs2]; rfl))).tI ?_
  refine two (Q := fun x y H2 => tUn (rU fun i => V.int (-i)) (tC (.int 1)) σ H2 fun z H3 => ∃ (i j c : Int) (n : Nat), [x, y, z] = [V.int i, V.int j, V.int c] ∧ RgC i j c n ∧ Q (Itc i c n) H3)
    (k2 := fun s2 d1 d2 => asI d1 fun i => asI d2 fun j => rngOk j i ∧ Pp s2 ((List.range (i - j).toNat).map fun (k : Nat) => D.int (i - (k : Int)))) ha hb hw wd (fun v u F' H' s' d1 d2 aft r1 r2 hk => ?_) hR
  unfold asI at hk
  split at hk
  · split at hk
    · simp only [Rep] at r1 r2; subst r1 r2
      obtain ⟨⟨b1, b2, b3, b4⟩, hk⟩ := hk
      exact ⟨1, rfl, _, _, _, _, rfl, RgC.neg b3 b4 b1 b2, q _ _ _ _ _ aft (ito_rngD _ _) hk⟩
    · exact hk.elim
  · exact hk.elim
theorem oki_zip (g : Good T X sc N fb) (h2 : glB sc "zip" = true) (hs : notStar a = true) (hs2 : notStar b = true) (ha : OkE X W a (wpE T.G ea)) (hb : OkE X W b (wpE T.G eb)) :
    OkI X W (.Tuple elts kk tpos) (.Call (.Name "zip" p) [a, b] [] pos) (wpI T.G (.zip ea eb)) := by
  intro s Pp R hw A0 F0 H0 F H σ Q wd q hR
  simp only [wpI] at hw
  refine (pi_zip (glB_ok g h2) (g.bi _ (by decide +kernel)) (pa_cons (pE a) (pa_cons (pE b) pa_nil (star_of hs2)) (star_of hs)) (star_of hs) (noAny (by simp [noStars, hs2]))).tI ?_
  refine two (Q := fun x y H2 => ∃ a b xs ys, [x, y] = [V.ref a, V.ref b] ∧ SqL X.K H2 a xs ∧ SqL X.K H2 b ys ∧ Q (Itz X.K a b) H2) (k2 := fun s2 d1 d2 => match d1, d2 with | .lst xs, .lst ys => Pp s2 (zipD xs ys) | _, _ => False) ha hb hw wd
    (fun v u F' H' s' d1 d2 aft r1 r2 hk => ?_) hR
  split at hk
  · simp only [Rep] at r1 r2
    obtain ⟨a, vs, rfl, h1, t1⟩ := r1
    obtain ⟨b, us, rfl, h2, t2⟩ := r2
    exact ⟨a, b, vs, us, rfl, SqL.of (aft.wd.ex _ _ h1), SqL.of (aft.wd.ex _ _ h2), q _ _ _ _ _ aft (ito_zip h1 t1 h2 t2) hk⟩
  · exact hk.elim
end
end DL

set_option maxHeartbeats 2000000
namespace DL
open PySem PySem.Spec PyProof.Rows L2

/-! ### slots are set -/
theorem Owns.eq {σ σ' : L2.St} {j : Nat} {t : Sl} {q : Addr} (e : σ'[j]? = σ[j]?) (h : Owns σ' j t q) : Owns σ j t q := h.imp (fun z => ⟨z.1, by rw [← e]; exact z.2⟩) id
theorem Owns.set {σ : L2.St} {i j : Nat} {x : Option V} {t : Sl} {q : Addr} (n : j ≠ i) (h : Owns (σ.set i x) j t q) : Owns σ j t q := h.eq (List.getElem?_set_ne (Ne.symm n))
theorem Owns.wipe {σ : L2.St} {vs : List Nat} {j : Nat} {t : Sl} {q : Addr} (h : Owns (L2.wipe σ vs) j t q) : Owns σ j t q := h.imp (fun z => ⟨z.1, (wipe_some z.2).1⟩) id
theorem Owns.own {σ : L2.St} {i : Nat} {p q : Addr} {c : Own} (e : σ[i]? = some (some (V.ref p))) (h : Owns σ i (.own c) q) : q = p ∨ q ∈ c.kids := h.imp (fun z => by have := z.2; rw [e] at this; cases this; rfl) id
section
variable {P : Program} {w : World} {K : PySem.W.Frag} {A0 : Addr → Prop} {F0 H0 F H F' H' : Hp} {σ : L2.St} {s s' : DSt} {i : Nat} {p : Addr} {v : V}
theorem Wd.setV {d : D} (x : Wd P w K A0 F0 H0 F H σ s) (r : Rep P w K F d v) : Wd P w K A0 F0 H0 F H (σ.set i (some v)) (s.set i (some (.val d))) := by
  refine ⟨by rw [List.length_set, List.length_set]; exact x.len, x.ex, x.st, fun j t e => ?_, fun j l t u q e1 e2 m1 m2 => ?_⟩
  · rcases get_set e with ⟨rfl, z, hl⟩ | ⟨n, z⟩
    · cases z
      exact ⟨v, by rw [List.getElem?_set_self (by rw [x.len]; exact hl)], r⟩
    · obtain ⟨u, e1, ok⟩ := x.sl j t z
      exact ⟨u, by rw [List.getElem?_set_ne (Ne.symm n)]; exact e1, ok⟩
  · rcases get_set e1 with ⟨_, z, _⟩ | ⟨n1, z1⟩
    · cases z; exact m1.val.elim
    · rcases get_set e2 with ⟨_, z, _⟩ | ⟨n2, z2⟩
      · cases z; exact m2.val.elim
      · exact x.ap j l t u q z1 z2 (m1.set n1) (m2.set n2)
theorem Wd.setO {c : Own} (x : Wd P w K A0 F0 H0 F H σ s) (hf : F p = none) (hn : A0 p ∨ H0 p = none) (ho : OwnAt P w K F H p c) (no : ¬ ownA σ s p) (nk : ∀ q ∈ c.kids, ¬ ownA σ s q ∧ (A0 q ∨ H0 q = none)) : Wd P w K A0 F0 H0 F H (σ.set i (some (.ref p))) (s.set i (some (.own c))) := by
  have nn : ∀ q, i < s.length → Owns (σ.set i (some (.ref p))) i (.own c) q → ¬ ownA σ s q := fun q hl h => by
    rcases h.own (by rw [List.getElem?_set_self (by rw [x.len]; exact hl)]) with rfl | z
    · exact no
    · exact (nk q z).1
  refine ⟨by rw [List.length_set, List.length_set]; exact x.len, x.ex, x.st, fun j t e => ?_, fun j l t u q e1 e2 m1 m2 => ?_⟩
  · rcases get_set e with ⟨rfl, z, hl⟩ | ⟨n, z⟩
    · cases z
      exact ⟨.ref p, by rw [List.getElem?_set_self (by rw [x.len]; exact hl)], p, rfl, hf, hn, ho, fun q hq => (nk q hq).2⟩
    · obtain ⟨u, e1, ok⟩ := x.sl j t z
      exact ⟨u, by rw [List.getElem?_set_ne (Ne.symm n)]; exact e1, ok⟩
  · rcases get_set e1 with ⟨rfl, z, h1⟩ | ⟨n1, z1⟩
    · rcases get_set e2 with ⟨rfl, z', h2⟩ | ⟨n2, z2⟩
      · rfl
      · cases z
        exact absurd ⟨l, u, z2, m2.set n2⟩ (nn q h1 m1)
    · rcases get_set e2 with ⟨rfl, z', h2⟩ | ⟨n2, z2⟩
      · cases z'
        exact absurd ⟨j, t, z1, m1.set n1⟩ (nn q h2 m2)
      · exact x.ap j l t u q z1 z2 (m1.set n1) (m2.set n2)
/-- the block's names are forgotten -/
theorem wipeD_length (s : DSt) : ∀ vs : List Nat, (wipeD s vs).length = s.length
  | [] => rfl
  | v :: vs => by simp [wipeD, wipeD_length s vs]
theorem wipeD_some {s : DSt} {i : Nat} {x : Sl} : ∀ {vs : List Nat}, (wipeD s vs)[i]? = some (some x) → s[i]? = some (some x) ∧ i ∉ vs
  | [], h => ⟨h, by simp⟩
  | v :: vs, h => by
    simp only [wipeD] at h
    rcases get_set h with ⟨_, z, _⟩ | ⟨n, z⟩
    · cases z
    · obtain ⟨h1, h2⟩ := wipeD_some z
      exact ⟨h1, by simp only [List.mem_cons, not_or]; exact ⟨n, h2⟩⟩
theorem wipeD_out {s : DSt} {i : Nat} : ∀ {vs : List Nat}, i ∉ vs → (wipeD s vs)[i]? = s[i]?
  | [], _ => rfl
  | v :: vs, h => by
    simp only [List.mem_cons, not_or] at h
    simp only [wipeD]
    rw [List.getElem?_set_ne (Ne.symm h.1)]
    exact wipeD_out h.2
theorem Wd.wipe (x : Wd P w K A0 F0 H0 F H σ s) (vs : List Nat) : Wd P w K A0 F0 H0 F H (L2.wipe σ vs) (wipeD s vs) := by
  refine ⟨by rw [wipe_length, wipeD_length]; exact x.len, x.ex, x.st, fun j t e => ?_, fun j l t u q e1 e2 m1 m2 => ?_⟩
  · obtain ⟨h1, h2⟩ := wipeD_some e
    obtain ⟨v, e1, ok⟩ := x.sl j t h1
    exact ⟨v, by rw [wipe_out h2]; exact e1, ok⟩
  · exact x.ap j l t u q (wipeD_some e1).1 (wipeD_some e2).1 m1.wipe m2.wipe
theorem ownA_wipe {vs : List Nat} {q : Addr} (h : ownA (L2.wipe σ vs) (wipeD s vs) q) : ∃ (j : Nat) (t : Sl), j ∉ vs ∧ s[j]? = some (some t) ∧ Owns σ j t q := by
  obtain ⟨j, t, e, m⟩ := h
  obtain ⟨h1, h2⟩ := wipeD_some e
  exact ⟨j, t, h2, h1, m.wipe⟩
theorem backD_length (s t : DSt) : ∀ vs : List Nat, (backD s t vs).length = t.length
  | [] => rfl
  | v :: vs => by simp [backD, backD_length s t vs]
theorem backD_some {s t : DSt} {i : Nat} {x : Sl} : ∀ {vs : List Nat}, (backD s t vs)[i]? = some (some x) → (i ∈ vs ∧ s[i]? = some (some x)) ∨ (i ∉ vs ∧ t[i]? = some (some x))
  | [], h => .inr ⟨by simp, h⟩
  | v :: vs, h => by
    simp only [backD] at h
    rcases get_set h with ⟨e, z, _⟩ | ⟨n, z⟩
    · subst e
      refine .inl ⟨List.mem_cons_self, ?_⟩
      rw [List.getD_eq_getElem?_getD] at z
      cases q : s[i]? with
      | none => rw [q] at z; cases z
      | some o => rw [q] at z; rw [z]; rfl
    · rcases backD_some z with ⟨a, b⟩ | ⟨a, b⟩
      · exact .inl ⟨List.mem_cons_of_mem _ a, b⟩
      · exact .inr ⟨by simp only [List.mem_cons, not_or]; exact ⟨n, a⟩, b⟩
/-- behind the block: the block's names have their old values -/
theorem Aft.back {vs : List Nat} {s2 : DSt} {F2 H2 : Hp} (x : Wd P w K A0 F0 H0 F H σ s) (a : Aft P w K A0 F0 H0 (L2.wipe σ vs) (wipeD s vs) F H s2 F2 H2) :
    Aft P w K A0 F0 H0 σ s F H (backD s s2 vs) F2 H2 := by
  have subA : ∀ q, ownA (L2.wipe σ vs) (wipeD s vs) q → ownA σ s q := fun q h => by
    obtain ⟨j, t, _, e, m⟩ := ownA_wipe h
    exact ⟨j, t, e, m⟩
  have out : ∀ (j : Nat) (t : Sl) (q : Addr), j ∈ vs → s[j]? = some (some t) → Owns σ j t q → ¬ ownA (L2.wipe σ vs) (wipeD s vs) q := fun j t q hj e m h => by
    obtain ⟨l, u, hl, e2, m2⟩ := ownA_wipe h
    exact hl (by rw [← x.ap j l t u q e e2 m m2]; exact hj)
  have slot : ∀ (j : Nat) (t : Sl), j ∉ vs → s2[j]? = some (some t) → ∃ v, σ[j]? = some (some v) ∧ SlOk P w K A0 H0 F2 H2 v t := fun j t hj e => by
    obtain ⟨v, e1, ok⟩ := a.wd.sl j t e
    exact ⟨v, (wipe_some e1).1, ok⟩
  have own2 : ∀ (j : Nat) (t : Sl) (q : Addr), j ∉ vs → s2[j]? = some (some t) → Owns σ j t q → ownA (L2.wipe σ vs) (wipeD s vs) q := fun j t q hj e m =>
    a.sub q ⟨j, t, e, m.eq (wipe_out hj).symm⟩
  refine ⟨⟨?_, a.wd.ex, a.wd.st, fun j t e => ?_, fun j l t u q e1 e2 m1 m2 => ?_⟩, a.st.mono subA, fun q h => ?_⟩
  · rw [backD_length, ← a.wd.len, wipe_length]
  · rcases backD_some e with ⟨hj, e⟩ | ⟨hj, e⟩
    · obtain ⟨v, e1, ok⟩ := x.sl j t e
      refine ⟨v, e1, ?_⟩
      have kp : ∀ p : Addr, Owns σ j t p → F p = none → (∃ o, H p = some o) → F2 p = none ∧ H2 p = H p := fun p hp hf ⟨o, ho⟩ => by
        have no := out j t p hj e hp
        refine ⟨?_, by rw [ho]; exact a.st.kp p o ho no⟩
        cases q : F2 p with
        | none => rfl
        | some u =>
          rcases a.st.nw p u q with z | z | z
          · exact absurd hf z
          · rw [ho] at z; cases z
          · exact absurd z no
      cases t with
      | val d => exact Rep.mono a.st.ex _ _ ok
      | own c =>
        obtain ⟨p, rfl, h1, h2, h3, h4⟩ := ok
        obtain ⟨k1, k2⟩ := kp p (.inl ⟨rfl, e1⟩) h1 h3.some
        refine ⟨p, rfl, k1, h2, h3.mono a.st.ex k2 fun r hr => ?_, h4⟩
        obtain ⟨k3, k4⟩ := kp r (.inr hr) (OwnAt.kid h3 hr).1 (OwnAt.kid h3 hr).2
        exact ⟨k4, fun _ => k3⟩
      | io xs =>
        obtain ⟨p, rfl, h1, h2, h3⟩ := ok
        obtain ⟨k1, k2⟩ := kp p (.inl ⟨rfl, e1⟩) h1 h3.some
        exact ⟨p, rfl, k1, h2, h3.mono a.st.ex k2 fun r hr => nomatch hr⟩
    · exact slot j t hj e
  · rcases backD_some e1 with ⟨hj, e1⟩ | ⟨hj, e1⟩
    · rcases backD_some e2 with ⟨hl, e2⟩ | ⟨hl, e2⟩
      · exact x.ap j l t u q e1 e2 m1 m2
      · exact absurd (own2 l u q hl e2 m2) (out j t q hj e1 m1)
    · rcases backD_some e2 with ⟨hl, e2⟩ | ⟨hl, e2⟩
      · exact absurd (own2 j t q hj e1 m1) (out l u q hl e2 m2)
      · exact a.wd.ap j l t u q e1 e2 (m1.eq (wipe_out hj).symm) (m2.eq (wipe_out hl).symm)
  · obtain ⟨j, t, e, m⟩ := h
    rcases backD_some e with ⟨hj, e⟩ | ⟨hj, e⟩
    · exact ⟨j, t, e, m⟩
    · exact subA q (own2 j t q hj e m)
end

/-! ### targets -/
def gNames : List Nat → TGs
  | [] => gNil
  | i :: is => gCons (gName i) (gNames is)
def namesB (sc : Scope) (N : List Str) (fb : Str → Bool) : List Expr → List Nat → Bool
  | [], [] => true
  | .Name x _ :: es, i :: is => decide (N[i]? = some x) && locB sc fb x && namesB sc N fb es is
  | _, _ => false
def tgB (sc : Scope) (N : List Str) (fb : Str → Bool) (tg : Expr) (t : Tg) : Bool := match tg, t with
  | .Name x _, .one i => decide (N[i]? = some x) && locB sc fb x
  | .Tuple es _ _, .many is => namesB sc N fb es is
  | _, _ => false
def gTg (K : PySem.W.Frag) : Tg → TG
  | .one i => gName i
  | .many is => gTup K is.length (gNames is)
section
variable {T : Tab} {X : Cx} {sc : Scope} {N : List Str} {fb : Str → Bool}
theorem names_each {env : Env} : ∀ {es : List Expr} {is : List Nat}, namesB sc N fb es is = true → assignEach es env = es.map (fun e => (false, assign e env)) ∧ es.length = is.length
  | [], [], _ => ⟨rfl, rfl⟩
  | [], _ :: _, h => by cases h
  | e :: es, [], h => by cases e <;> cases h
  | e :: es, i :: is, h => by
    cases e <;> simp only [namesB, Bool.and_eq_true, Bool.false_eq_true] at h
    obtain ⟨h1, h2⟩ := names_each (env := env) h.2
    constructor
    · rw [List.map_cons, ← h1]; rfl
    · simp [h2]
theorem pgs_names (g : Good T X sc N fb) : ∀ {es : List Expr} {is : List Nat}, namesB sc N fb es is = true → PGs X es (gNames is)
  | [], [], _ => pgs_nil
  | [], _ :: _, h => by cases h
  | e :: es, [], h => by cases e <;> cases h
  | e :: es, i :: is, h => by
    have h0 := h
    cases e <;> simp only [namesB, Bool.and_eq_true, Bool.false_eq_true, decide_eq_true_eq] at h
    have hl := locB_ok h.1.2
    refine pgs_cons (pg_name (by rw [g.n]; exact g.nd) (by rw [g.n]; exact h.1.1) (by rw [g.sc]; exact hl.1) (by rw [g.sc]; exact hl.2.imp (g.fb _) id)) (pgs_names g h.2) ?_
    rfl
theorem pg_tg (g : Good T X sc N fb) {tg : Expr} {t : Tg} (h : tgB sc N fb tg t = true) : PG X tg (gTg X.K t) := by
  cases t with
  | one i =>
    cases tg <;> simp only [tgB, Bool.false_eq_true, Bool.and_eq_true, decide_eq_true_eq] at h
    have hl := locB_ok h.2
    exact pg_name (by rw [g.n]; exact g.nd) (by rw [g.n]; exact h.1) (by rw [g.sc]; exact hl.1) (by rw [g.sc]; exact hl.2.imp (g.fb _) id)
  | many is =>
    cases tg <;> simp only [tgB, Bool.false_eq_true] at h
    obtain ⟨e1, e2⟩ := names_each (env := X.env) h
    refine pg_tup g.calm (pgs_names g h) (by rw [e1, List.length_map]; exact e2) ?_
    rw [e1, List.findIdx?_eq_none_iff]
    intro x hx
    obtain ⟨e, _, rfl⟩ := List.mem_map.mp hx
    rfl
end
section
variable {P : Program} {w : World} {K : PySem.W.Frag} {A0 : Addr → Prop} {F0 H0 F H : Hp} {σ : L2.St} {s : DSt} {v : V} {d : D}
theorem gNames_ok : ∀ {is : List Nat} {ds : List D} {vs : List V} {σ : L2.St} {s : DSt} {k : DSt → Prop} {Q : L2.St → Hp → Prop}, setAll s is ds k → Wd P w K A0 F0 H0 F H σ s → Reps P w K F ds vs →
    (∀ σ' s', Wd P w K A0 F0 H0 F H σ' s' → (∀ q, ownA σ' s' q → ownA σ s q) → (∀ j, j ∉ is → σ'[j]? = σ[j]?) → σ'.length = σ.length → k s' → Q σ' H) → gNames is vs σ H Q
  | [], ds, vs, σ, s, k, Q, h, x, r, q => by
    cases ds with
    | nil => simp only [Reps] at r; subst r; exact ⟨rfl, q σ s x (fun _ h => h) (fun _ _ => rfl) rfl h⟩
    | cons d ds => exact (show False from h).elim
  | i :: is, ds, vs, σ, s, k, Q, h, x, r, q => by
    cases ds with
    | nil => exact (show False from h).elim
    | cons d ds =>
      simp only [Reps] at r
      obtain ⟨v, r2, rfl, h1, h2⟩ := r
      refine ⟨v, r2, rfl, ?_⟩
      refine gNames_ok (s := s.set i (some (.val d))) h (x.setV h1) h2 fun σ' s' x' sub out hl hk => q σ' s' x' (fun p hp => ?_) (fun j hj => ?_) (by rw [hl, List.length_set]) hk
      · obtain ⟨j, t, e, m⟩ := sub p hp
        rcases get_set e with ⟨_, z, _⟩ | ⟨n, z⟩
        · cases z; exact m.val.elim
        · exact ⟨j, t, z, m.set n⟩
      · simp only [List.mem_cons, not_or] at hj
        rw [out j hj.2, List.getElem?_set_ne (Ne.symm hj.1)]
def Tg.ix : Tg → List Nat
  | .one i => [i]
  | .many is => is
theorem gTg_ok {t : Tg} {k : DSt → Prop} {Q : L2.St → Hp → Prop} (h : asgTg t d s k) (x : Wd P w K A0 F0 H0 F H σ s) (r : Rep P w K F d v)
    (q : ∀ σ' s', Wd P w K A0 F0 H0 F H σ' s' → (∀ q, ownA σ' s' q → ownA σ s q) → (∀ j, j ∉ t.ix → σ'[j]? = σ[j]?) → σ'.length = σ.length → k s' → Q σ' H) : gTg K t v σ H Q := by
  cases t with
  | one i =>
    refine q _ _ (x.setV r) (fun p hp => ?_) (fun j hj => ?_) (List.length_set ..) h
    · obtain ⟨j, t, e, m⟩ := hp
      rcases get_set e with ⟨_, z, _⟩ | ⟨n, z⟩
      · cases z; exact m.val.elim
      · exact ⟨j, t, z, m.set n⟩
    · simp only [Tg.ix, List.mem_singleton] at hj
      rw [List.getElem?_set_ne (Ne.symm hj)]
  | many is =>
    simp only [asgTg] at h
    split at h
    · rename_i ds
      simp only [Rep] at r
      obtain ⟨a, vs, rfl, h1, h2⟩ := r
      have hl : ∀ {is : List Nat} {ds : List D} {s : DSt}, setAll s is ds k → ds.length = is.length := by
        intro is
        induction is with
        | nil => intro ds s h; cases ds with
          | nil => rfl
          | cons => exact (show False from h).elim
        | cons i is ih => intro ds s h; cases ds with
          | nil => exact (show False from h).elim
          | cons d ds => simp [ih h]
      exact ⟨a, vs, rfl, SqT.of (x.ex _ _ h1), by rw [← h2.length]; exact hl h, gNames_ok h x h2 q⟩
    · exact h.elim
end
end DL

set_option maxHeartbeats 2000000
namespace DL
open PySem PySem.Spec PyProof.Rows L2

/-! ### a thing aside: a new list that is not owned, nor frozen -/
section
variable {P : Program} {w : World} {K : PySem.W.Frag} {A0 : Addr → Prop} {F0 H0 F H F' H' F1 H1 : Hp} {σ : L2.St} {s s' s1 : DSt} {p : Addr} {o : HO}
structure Aside (σ : L2.St) (s : DSt) (F H : Hp) (p : Addr) (o : HO) : Prop where
  at_ : H p = some o
  fr : F p = none
  no : ¬ ownA σ s p
theorem Aside.step (d : Aside σ s F H p o) (a : Aft P w K A0 F0 H0 σ s F H s' F' H') : Aside σ s' F' H' p o := by
  refine ⟨a.st.kp p o d.at_ d.no, ?_, fun h => d.no (a.sub p h)⟩
  cases q : F' p with
  | none => rfl
  | some u =>
    rcases a.st.nw p u q with z | z | z
    · exact absurd d.fr z
    · rw [d.at_] at z; cases z
    · exact absurd z d.no
theorem Wd.aside (x : Wd P w K A0 F0 H0 F H σ s) {u : HO} (d : Aside σ s F H p o) (hn : A0 p ∨ H0 p = none) : Wd P w K A0 F0 H0 F (upd H p u) σ s := by
  have ne : ∀ b v, F b = some v → b ≠ p := fun b v e z => by rw [z, d.fr] at e; cases e
  have st1 : Stp (fun q => q = p) F H F (upd H p u) := ⟨Ex.refl F, fun b v e n => by rw [upd_ne n]; exact e, fun a v e => .inl (by rw [e]; exact nofun)⟩
  refine ⟨x.len, fun b v e => by rw [upd_ne (ne b v e)]; exact x.ex b v e, x.st.trans st1 fun q z => by subst z; exact hn, fun j t e => ?_, x.ap⟩
  obtain ⟨v, e1, ok⟩ := x.sl j t e
  refine ⟨v, e1, ?_⟩
  cases t with
  | val d => exact ok
  | own c =>
    obtain ⟨q, rfl, h1, h2, h3, h4⟩ := ok
    exact ⟨q, rfl, h1, h2, h3.mono (Ex.refl F) (upd_ne fun z => d.no ⟨j, _, e, .inl ⟨rfl, by rw [← z]; exact e1⟩⟩) fun r hr => ⟨upd_ne fun z => d.no ⟨j, _, e, .inr (z ▸ hr)⟩, id⟩, h4⟩
  | io xs =>
    obtain ⟨q, rfl, h1, h2, h3⟩ := ok
    exact ⟨q, rfl, h1, h2, h3.mono (Ex.refl F) (upd_ne fun z => d.no ⟨j, _, e, .inl ⟨rfl, by rw [← z]; exact e1⟩⟩) fun r hr => nomatch hr⟩
/-- from a start where p was free -/
theorem Aft.aside (x : Wd P w K A0 F0 H0 F1 H1 σ s1) (a : Aft P w K A0 F0 H0 σ s1 F1 H1 s F H) {u : HO} (d : Aside σ s F H p o) (h1 : H1 p = none) : Aft P w K A0 F0 H0 σ s1 F1 H1 s F (upd H p u) := by
  have hn : A0 p ∨ H0 p = none := by
    cases q : H0 p with
    | none => exact .inr rfl
    | some o =>
      by_cases n : A0 p
      · exact .inl n
      · rw [x.st.kp p o q n] at h1; cases h1
  refine ⟨a.wd.aside d hn, ⟨a.st.ex, fun b v e n => ?_, a.st.nw⟩, a.sub⟩
  rw [upd_ne (fun z => by rw [z, h1] at e; cases e)]
  exact a.st.kp b v e n
end
theorem backD_get {s t : DSt} {i : Nat} : ∀ {vs : List Nat}, (backD s t vs)[i]? = if i ∈ vs then (if i < t.length then some (s.getD i none) else none) else t[i]?
  | [] => by simp [backD]
  | v :: vs => by
    simp only [backD]
    by_cases c : v = i
    · subst c
      by_cases hl : v < t.length
      · rw [List.getElem?_set_self (by rw [backD_length]; exact hl)]
        simp [hl]
      · rw [List.getElem?_eq_none (by rw [List.length_set, backD_length]; omega)]
        simp [hl]
    · rw [List.getElem?_set_ne c, backD_get]
      have : ¬ i = v := fun z => c z.symm
      simp [this]
theorem backD_wipe {s t : DSt} {vs : List Nat} : backD s (wipeD t vs) vs = backD s t vs := by
  apply List.ext_getElem?
  intro i
  rw [backD_get, backD_get, wipeD_length]
  by_cases c : i ∈ vs
  · simp [c]
  · simp only [c, if_false]
    exact wipeD_out c
theorem wipe_same {σ σ' : L2.St} {vs : List Nat} (hl : σ'.length = (L2.wipe σ vs).length) (h : ∀ j, j ∉ vs → σ'[j]? = (L2.wipe σ vs)[j]?) : L2.wipe σ' vs = L2.wipe σ vs := by
  apply List.ext_getElem?
  intro i
  by_cases c : i ∈ vs
  · have key : ∀ (τ : L2.St), (L2.wipe τ vs)[i]? = if i < τ.length then some none else none := by
      intro τ
      have : ∀ vs : List Nat, i ∈ vs → (L2.wipe τ vs)[i]? = if i < τ.length then some none else none := by
        intro vs
        induction vs with
        | nil => intro h; cases h
        | cons v vs ih =>
          intro h
          unfold L2.wipe
          by_cases c : v = i
          · subst c
            by_cases hl : v < τ.length
            · rw [List.getElem?_set_self (by rw [wipe_length]; exact hl), if_pos hl]
            · rw [List.getElem?_eq_none (by rw [List.length_set, wipe_length]; omega), if_neg hl]
          · rw [List.getElem?_set_ne c]
            rcases List.mem_cons.mp h with z | z
            · exact absurd z.symm c
            · exact ih z
      exact this vs c
    rw [key, key, hl, wipe_length]
  · rw [wipe_out c, h i c]
end DL

set_option maxHeartbeats 2000000
namespace DL
open PySem PySem.Spec PyProof.Rows L2

/-! ### comprehensions -/
def noW : WX := fun _ _ _ _ => False
def fbB (scope : Scope) : Str → Bool := fun x => scope.names.lookup x == some .cell
theorem noW_takes {X : Cx} : L2N.Takes X noW := fun _ _ ⟨_, _, _, _, _, _, _, _, _, _, _, _, _, _, _, _, w⟩ => w.elim
section
variable {T : Tab} {X : Cx} {sc : Scope} {N : List Str} {fb : Str → Bool}
theorem Good.blk (g : Good T X sc N fb) (scope : Scope) (s : Shared) (H : Hp) (C : Addr) (cl : List (Str × Addr)) (fp : List Addr) : Good T (X.blk s H scope (compEnvC scope cl C X.env) fp) (relS scope sc) N (fbB scope) where
  n := g.n
  sc := by rw [← g.sc]; rfl
  fb := fun x h => h
  nd := g.nd
  calm := g.calm
  er := g.er
  room := g.room
  bi := g.bi
  cs := g.cs
  fn := g.fn
  exc := g.exc
/-- in every block -/
def bE (X : Cx) (scope : Scope) (e : Expr) : TE := fun σ H Q => ∀ (s : Shared) (H0 : Hp) (C : Addr) (cl : List (Str × Addr)) (fp : List Addr), tE (X.blk s H0 scope (compEnvC scope cl C X.env) fp) e σ H Q
def bT (X : Cx) (scope : Scope) (e : Expr) : TT := fun σ H Q => ∀ (s : Shared) (H0 : Hp) (C : Addr) (cl : List (Str × Addr)) (fp : List Addr), tT (X.blk s H0 scope (compEnvC scope cl C X.env) fp) e σ H Q
def bI (X : Cx) (scope : Scope) (tg e : Expr) : TI := fun σ H Q => ∀ (s : Shared) (H0 : Hp) (C : Addr) (cl : List (Str × Addr)) (fp : List Addr), tI (X.blk s H0 scope (compEnvC scope cl C X.env) fp) tg e σ H Q
theorem fold_plain {e : Expr} (h : notSet e = true) (env : Env) (x : Value) : foldedSetIterable e env x = pure x := by
  cases e <;> first | rfl | cases h
abbrev BOkE (X : Cx) (scope : Scope) (e : Expr) (wp : DSt → (DSt → Rs → Prop) → (Str → Prop) → Prop) : Prop :=
  ∀ (s : Shared) (H0 : Hp) (C : Addr) (cl : List (Str × Addr)) (fp : List Addr), OkE (X.blk s H0 scope (compEnvC scope cl C X.env) fp) noW e wp
abbrev BOkT (X : Cx) (scope : Scope) (e : Expr) (wp : DSt → (DSt → Rs → Prop) → (Str → Prop) → Prop) : Prop :=
  ∀ (s : Shared) (H0 : Hp) (C : Addr) (cl : List (Str × Addr)) (fp : List Addr), OkT (X.blk s H0 scope (compEnvC scope cl C X.env) fp) noW (tT (X.blk s H0 scope (compEnvC scope cl C X.env) fp) e) wp
abbrev BOkI (X : Cx) (scope : Scope) (tg e : Expr) (wi : DSt → (DSt → List D → Prop) → (Str → Prop) → Prop) : Prop :=
  ∀ (s : Shared) (H0 : Hp) (C : Addr) (cl : List (Str × Addr)) (fp : List Addr), OkI (X.blk s H0 scope (compEnvC scope cl C X.env) fp) noW tg e wi
theorem okT_yes {X : Cx} {W : WX} {G : Gam} : OkT X W tYes (wpE G (.bl true)) := by
  intro s k R h A0 F0 H0 F H σ Q wd q hR
  simp only [wpE, Rs.d, asB] at h
  exact q true F H s (Aft.refl wd) h
theorem okT_b {scope : Scope} {c : Expr} {wp : DSt → (DSt → Rs → Prop) → (Str → Prop) → Prop} (h : BOkT X scope c wp) : OkT X noW (bT X scope c) wp :=
  fun s k R hw A0 F0 H0 F H σ Q wd q hR => fun sB HB C cl fp => h sB HB C cl fp s k R hw A0 F0 H0 F H σ Q wd q hR
end
section
variable {P : Program} {w : World} {K : PySem.W.Frag} {A0 : Addr → Prop} {F0 H0 F H F' H' F1 H1 : Hp} {σ σ' : L2.St} {s s' s1 : DSt} {vs : List Nat} {pD : Addr} {o : HO}
/-- one more item is at hand -/
theorem ItOk.turn {J : L2.It} {xs : List D} {i : Nat} {x : V} {H2 : Hp} {d : D} (it : ItOk P w K F1 J xs) (hd : xs[i]? = some d) (a : Aft P w K A0 F0 H0 σ s F1 H1 s' F' H') (hy : J.yld i H' x H2) :
    ∃ F2, Aft P w K A0 F0 H0 σ s' F' H' s' F2 H2 ∧ Rep P w K F2 d x := by
  rcases it.yld i F' H' x H2 d a.st.ex a.wd.ex hd hy with ⟨rfl, r⟩ | ⟨p, o, hp, rfl, r⟩
  · exact ⟨F', Aft.refl a.wd, r⟩
  · exact ⟨_, (Aft.refl a.wd).add hp, r⟩
theorem Aside.sub (d : Aside σ s F H pD o) (h : ∀ q, ownA σ' s' q → ownA σ s q) : Aside σ' s' F H pD o := ⟨d.at_, d.fr, fun z => d.no (h _ z)⟩
end
section
variable {T : Tab} {X : Cx} {sc : Scope} {N : List Str} {fb : Str → Bool} {W : WX} {tg iter elt c : Expr} {ee ec : E} {it : DL.It} {t : Tg} {scope : Scope} {own : List (Str × Nat)} {pos : Pos} {ifs : List Expr} {tt : TT}
theorem okR_comp (g : Good T X sc N fb) (htg : tgB (relS scope sc) N (fbB scope) tg t = true) (hin : t.ix.all (fun i => decide (i ∈ own.map (·.2))) = true) 
    (hi : OkI X W tg iter (wpI T.G it)) (hc : OkT X noW tt (wpE T.G ec)) (he : BOkE X scope elt (wpE T.G ee)) :
    OkR X W (tLc (tI X tg iter) (gTg X.K t) tt (bE X scope elt) (own.map (·.2))) (wpE T.G (.comp ee own t it ec)) := by
  intro s Pp R hw A0 F0 H0 F H σ Q wd q hR
  simp only [wpE, compE_eq, compE2_eq, compE0, compE20, compB_eq] at hw
  refine hi s _ R hw A0 F0 H0 F H σ _ wd (fun J F1 H1 s1 xs aft1 ito hk => ?_) hR
  obtain ⟨hz, hk⟩ := hk
  generalize hvs : own.map (·.2) = vs at hk ⊢
  intro D hD
  have x1 := aft1.wd
  refine ⟨fun i m H' => i ≤ xs.length ∧ m = xs.length - i ∧ ∃ F' s' acc us, Aft X.prog X.w X.K A0 F0 H0 (L2.wipe σ vs) (wipeD s1 vs) F1 H1 (wipeD s' vs) F' H' ∧ Aside (L2.wipe σ vs) (wipeD s' vs) F' H' D (.lst us) ∧ Reps X.prog X.w X.K F' acc us ∧ acc.length ≤ i ∧
    compL vs (fun x s2 k => asgTg t x s2 fun s3 => wpE T.G ec s3 (fun s4 r => r.d fun d => asB d fun t => iteB t (wpE T.G ee s4 (fun s5 r => r.d fun d => k (some d) s5) (fun _ => False)) (k none s4)) (fun _ => False)) (xs.drop i) s' fun ys s2 => Pp (backD s1 s2 vs) (.o (.l (acc ++ ys))),
    ⟨xs.length, Nat.zero_le _, rfl, F1, s1, [], [], (Aft.refl (x1.wipe vs)).addH hD, ⟨upd_same, x1.ex.free hD, (x1.wipe vs).notOwn hD⟩, Reps.nil, Nat.le_refl _, hk⟩, ?_⟩
  rintro i m H' ⟨hi, rfl, F', s', acc, us, a, d, r, hl, hk⟩
  by_cases hlt : i < xs.length
  · refine .inr ⟨ito.go i F' H' hlt a.st.ex a.wd.ex, fun H' => ∃ F' s' acc us, Aft X.prog X.w X.K A0 F0 H0 (L2.wipe σ vs) (wipeD s1 vs) F1 H1 (wipeD s' vs) F' H' ∧ Aside (L2.wipe σ vs) (wipeD s' vs) F' H' D (.lst us) ∧ Reps X.prog X.w X.K F' acc us ∧ acc.length ≤ i + 1 ∧
      compL vs (fun x s2 k => asgTg t x s2 fun s3 => wpE T.G ec s3 (fun s4 r => r.d fun d => asB d fun t => iteB t (wpE T.G ee s4 (fun s5 r => r.d fun d => k (some d) s5) (fun _ => False)) (k none s4)) (fun _ => False)) (xs.drop (i + 1)) s' fun ys s2 => Pp (backD s1 s2 vs) (.o (.l (acc ++ ys))),
      fun H2 h2 => ⟨xs.length - (i + 1), by omega, hlt, rfl, h2⟩, fun x H2 hy => ?_⟩
    rw [List.drop_eq_getElem_cons hlt] at hk
    simp only [compL_nil, compL_cons] at hk
    obtain ⟨F2, a2, rx⟩ := ito.turn (List.getElem?_eq_getElem hlt) a hy
    have d2 := d.step a2
    have a02 := a.trans a2
    refine gTg_ok hk a2.wd rx fun σ3 s3 w3 sub out hlen hk3 => ?_
    have hwipe : L2.wipe σ3 vs = L2.wipe σ vs := wipe_same hlen fun j hj => out j fun z => hj (by
      have := List.all_eq_true.mp hin j z
      rw [hvs] at this
      simpa using this)
    have tot : ∀ {s5 : DSt} {F5 H5 : Hp}, Aft X.prog X.w X.K A0 F0 H0 σ3 s3 F2 H2 s5 F5 H5 → Aft X.prog X.w X.K A0 F0 H0 (L2.wipe σ vs) (wipeD s1 vs) F1 H1 (wipeD s5 vs) F5 H5 ∧ Aside (L2.wipe σ vs) (wipeD s5 vs) F5 H5 D (.lst us) := fun {s5 F5 H5} a5 => by
      have back : ∀ q, ownA (L2.wipe σ vs) (wipeD s5 vs) q → ownA σ3 s5 q := fun q h => by
        rw [← hwipe] at h
        obtain ⟨j, t, _, e, m⟩ := ownA_wipe h
        exact ⟨j, t, e, m⟩
      refine ⟨⟨?_, a02.st.trans a5.st fun q h => .inl (a02.sub q (sub q h)), fun q h => a02.sub q (sub q (a5.sub q (back q h)))⟩, ((d2.sub sub).step a5).sub back⟩
      have := a5.wd.wipe vs
      rw [hwipe] at this
      exact this
    refine ⟨hwipe, ?_⟩
    refine hc s3 (fun t s4 => iteB t _ _) _ hk3 A0 F0 H0 F2 H2 σ3 _ w3 (fun b F4 H4 s4 a4 hk4 => ?_) (fun _ _ _ h => h.elim)
    cases b with
    | false =>
      simp only [iteB_eq, iteB0, Bool.false_eq_true, if_false] at hk4 ⊢
      obtain ⟨t1, t2⟩ := tot a4
      exact ⟨F4, s4, acc, us, t1, t2, Reps.mono (a2.st.ex.trans a4.st.ex) _ _ r, by omega, hk4⟩
    | true =>
      simp only [iteB_eq, iteB0, if_true] at hk4 ⊢
      intro sB HB C cl fp
      refine one (X := X.blk sB HB scope (compEnvC scope cl C X.env) fp) (W := noW) (he sB HB C cl fp) hk4 a4.wd (fun y F5 H5 s5 dd a5 r5 hk5 => ?_) (fun _ _ _ h => h.elim)
      obtain ⟨t1, t2⟩ := tot (a4.trans a5)
      refine ⟨us, t2.at_, by rw [← r.length]; omega, F5, s5, acc ++ [dd], us ++ [y], Aft.aside (x1.wipe vs) t1 t2 hD, ⟨upd_same, t2.fr, t2.no⟩, ?_, ?_, ?_⟩
      · exact (Reps.mono (a2.st.ex.trans (a4.st.ex.trans a5.st.ex)) _ _ r).append (Reps.cons r5 Reps.nil)
      · rw [List.length_append, List.length_singleton]; omega
      · refine cast (congrArg (compL vs _ _ _) ?_) hk5
        funext ys s2
        simp
  · have e : i = xs.length := by omega
    subst e
    refine .inl ⟨ito.stop F' H' a.st.ex a.wd.ex, ?_⟩
    rw [List.drop_length] at hk
    simp only [compL_nil, compL_cons, List.append_nil] at hk
    have ab := Aft.back x1 a
    rw [backD_wipe] at ab
    refine q _ F' H' _ (.o (.l acc)) (aft1.trans ab) ⟨D, rfl, d.fr, ⟨us, d.at_, r⟩, fun h => ?_, aft1.new hD, fun q hq => nomatch hq⟩ hk
    exact x1.notOwn hD (ab.sub _ h)
theorem ok_compG (g : Good T X sc N fb) (hb : blkC N sc scope own = true) (htg : tgB (relS scope sc) N (fbB scope) tg t = true) (hin : t.ix.all (fun i => decide (i ∈ own.map (·.2))) = true) (hs : notSet iter = true)
    (hi : OkI X W tg iter (wpI T.G it)) (hp : ∀ (s : Shared) (H : Hp) (C : Addr) (cl : List (Str × Addr)) (fp : List Addr), PTs (X.blk s H scope (compEnvC scope cl C X.env) fp) ifs tt) (hc : OkT X noW tt (wpE T.G ec)) (he : BOkE X scope elt (wpE T.G ee)) :
    OkE X W (.ListComp elt [⟨tg, iter, ifs, 0⟩] scope pos) (wpE T.G (.comp ee own t it ec)) :=
  OkR.e (okR_comp g htg hin hi hc he) (pe_lc (g := gTg X.K t) (te := bE X scope elt) g.calm (by rw [g.n]; exact g.nd) (pI tg iter) (blkOk_by (by rw [g.n, g.sc]; exact hb)) (fun sB HB C cl fp => pg_tg (g.blk scope sB HB C cl fp) htg) hp
    (fun sB HB C cl fp => ⟨fun pins s2 σ2 H2 Q2 I h => h sB HB C cl fp pins s2 I⟩) (fold_plain hs _))
theorem ok_comp (g : Good T X sc N fb) (hb : blkC N sc scope own = true) (htg : tgB (relS scope sc) N (fbB scope) tg t = true) (hin : t.ix.all (fun i => decide (i ∈ own.map (·.2))) = true) (hs : notSet iter = true)
    (hi : OkI X W tg iter (wpI T.G it)) (he : BOkE X scope elt (wpE T.G ee)) : OkE X W (.ListComp elt [⟨tg, iter, [], 0⟩] scope pos) (wpE T.G (.comp ee own t it (.bl true))) :=
  ok_compG g hb htg hin hs hi (fun _ _ _ _ _ => pts_nil) okT_yes he
theorem ok_compIf (g : Good T X sc N fb) (hb : blkC N sc scope own = true) (htg : tgB (relS scope sc) N (fbB scope) tg t = true) (hin : t.ix.all (fun i => decide (i ∈ own.map (·.2))) = true) (hs : notSet iter = true)
    (hi : OkI X W tg iter (wpI T.G it)) (hc : BOkT X scope c (wpE T.G ec)) (he : BOkE X scope elt (wpE T.G ee)) : OkE X W (.ListComp elt [⟨tg, iter, [c], 0⟩] scope pos) (wpE T.G (.comp ee own t it ec)) :=
  ok_compG g hb htg hin hs hi (fun sB HB C cl fp => pts_one ⟨fun pins s2 σ2 H2 Q2 I h => h sB HB C cl fp pins s2 I⟩) (okT_b hc) he
end
end DL

set_option maxHeartbeats 2000000
namespace DL
open PySem PySem.Spec PyProof.Rows L2
theorem wipe_key {τ : L2.St} {i : Nat} : ∀ {vs : List Nat}, i ∈ vs → (L2.wipe τ vs)[i]? = if i < τ.length then some none else none
  | [], h => by cases h
  | v :: vs, h => by
    unfold L2.wipe
    by_cases c : v = i
    · subst c
      by_cases hl : v < τ.length
      · rw [List.getElem?_set_self (by rw [wipe_length]; exact hl), if_pos hl]
      · rw [List.getElem?_eq_none (by rw [List.length_set, wipe_length]; omega), if_neg hl]
    · rw [List.getElem?_set_ne c]
      rcases List.mem_cons.mp h with z | z
      · exact absurd z.symm c
      · exact wipe_key z
theorem wipe_wipe {τ : L2.St} {vs vs2 : List Nat} (h : ∀ i ∈ vs2, i ∈ vs) : L2.wipe (L2.wipe τ vs2) vs = L2.wipe τ vs := by
  apply List.ext_getElem?
  intro i
  by_cases c : i ∈ vs
  · rw [wipe_key c, wipe_key c, wipe_length]
  · rw [wipe_out c, wipe_out c, wipe_out fun z => c (h i z)]
theorem wipeD_key {τ : DSt} {i : Nat} : ∀ {vs : List Nat}, i ∈ vs → (wipeD τ vs)[i]? = if i < τ.length then some none else none
  | [], h => by cases h
  | v :: vs, h => by
    unfold wipeD
    by_cases c : v = i
    · subst c
      by_cases hl : v < τ.length
      · rw [List.getElem?_set_self (by rw [wipeD_length]; exact hl), if_pos hl]
      · rw [List.getElem?_eq_none (by rw [List.length_set, wipeD_length]; omega), if_neg hl]
    · rw [List.getElem?_set_ne c]
      rcases List.mem_cons.mp h with z | z
      · exact absurd z.symm c
      · exact wipeD_key z
theorem wipeD_wipe {τ : DSt} {vs vs2 : List Nat} (h : ∀ i ∈ vs2, i ∈ vs) : wipeD (wipeD τ vs2) vs = wipeD τ vs := by
  apply List.ext_getElem?
  intro i
  by_cases c : i ∈ vs
  · rw [wipeD_key c, wipeD_key c, wipeD_length]
  · rw [wipeD_out c, wipeD_out c, wipeD_out fun z => c (h i z)]
section
variable {P : Program} {w : World} {K : PySem.W.Frag} {A0 : Addr → Prop} {F0 H0 F H F' H' Fb Hb : Hp} {σ σ' σb : L2.St} {s s' sb : DSt} {vs : List Nat} {pD : Addr} {o u : HO}
/-- what stands behind a start, the slots may have been set -/
structure Beh (P : Program) (w : World) (K : PySem.W.Frag) (A0 : Addr → Prop) (F0 H0 : Hp) (σb : L2.St) (sb : DSt) (Fb Hb : Hp) (σ : L2.St) (s : DSt) (F H : Hp) : Prop where
  wd : Wd P w K A0 F0 H0 F H σ s
  st : Stp (ownA σb sb) Fb Hb F H
  sub : ∀ q, ownA σ s q → ownA σb sb q
theorem Beh.of (x : Wd P w K A0 F0 H0 F H σ s) : Beh P w K A0 F0 H0 σ s F H σ s F H := ⟨x, Stp.refl _ _ _, fun _ h => h⟩
theorem Beh.step (b : Beh P w K A0 F0 H0 σb sb Fb Hb σ s F H) (a : Aft P w K A0 F0 H0 σ s F H s' F' H') : Beh P w K A0 F0 H0 σb sb Fb Hb σ s' F' H' :=
  ⟨a.wd, b.st.trans a.st fun q h => .inl (b.sub q h), fun q h => b.sub q (a.sub q h)⟩
theorem Beh.to (b : Beh P w K A0 F0 H0 σb sb Fb Hb σ s F H) (x : Wd P w K A0 F0 H0 F H σ' s') (h : ∀ q, ownA σ' s' q → ownA σ s q) : Beh P w K A0 F0 H0 σb sb Fb Hb σ' s' F H := ⟨x, b.st, fun q z => b.sub q (h q z)⟩
theorem own_wipe {q : Addr} (h : ownA (L2.wipe σ vs) (wipeD s vs) q) : ownA σ s q := by
  obtain ⟨j, t, _, e, m⟩ := ownA_wipe h
  exact ⟨j, t, e, m⟩
theorem Beh.wipe (b : Beh P w K A0 F0 H0 σb sb Fb Hb σ s F H) (vs : List Nat) : Beh P w K A0 F0 H0 σb sb Fb Hb (L2.wipe σ vs) (wipeD s vs) F H := b.to (b.wd.wipe vs) fun _ h => own_wipe h
theorem Beh.aft (b : Beh P w K A0 F0 H0 σ sb Fb Hb σ s F H) : Aft P w K A0 F0 H0 σ sb Fb Hb s F H := ⟨b.wd, b.st, b.sub⟩
theorem Beh.aside (x : Wd P w K A0 F0 H0 Fb Hb σb sb) (b : Beh P w K A0 F0 H0 σb sb Fb Hb σ s F H) (d : Aside σ s F H pD o) (h1 : Hb pD = none) : Beh P w K A0 F0 H0 σb sb Fb Hb σ s F (upd H pD u) := by
  have hn : A0 pD ∨ H0 pD = none := by
    cases q : H0 pD with
    | none => exact .inr rfl
    | some o =>
      by_cases n : A0 pD
      · exact .inl n
      · rw [x.st.kp pD o q n] at h1; cases h1
  refine ⟨b.wd.aside d hn, ⟨b.st.ex, fun c v e n => ?_, b.st.nw⟩, b.sub⟩
  rw [upd_ne (fun z => by rw [z, h1] at e; cases e)]
  exact b.st.kp c v e n
theorem ItOk.turn2 {J : L2.It} {xs : List D} {i : Nat} {x : V} {H2 : Hp} {d : D} {F1 : Hp} (it : ItOk P w K F1 J xs) (hd : xs[i]? = some d) (ex : Ex F1 F') (wd : Wd P w K A0 F0 H0 F' H' σ s') (hy : J.yld i H' x H2) :
    ∃ F2, Aft P w K A0 F0 H0 σ s' F' H' s' F2 H2 ∧ Rep P w K F2 d x := by
  rcases it.yld i F' H' x H2 d ex wd.ex hd hy with ⟨rfl, r⟩ | ⟨p, o, hp, rfl, r⟩
  · exact ⟨F', Aft.refl wd, r⟩
  · exact ⟨_, (Aft.refl wd).add hp, r⟩
end
section
variable {T : Tab} {X : Cx} {sc : Scope} {N : List Str} {fb : Str → Bool} {W : WX} {tg iter elt tg2 iter2 : Expr} {ee : E} {it it2 : DL.It} {t t2 : Tg} {scope : Scope} {own : List (Str × Nat)} {pos : Pos} {vs2 : List Nat}
theorem okR_comp2 (g : Good T X sc N fb) (htg : tgB (relS scope sc) N (fbB scope) tg t = true) (hin : t.ix.all (fun i => decide (i ∈ own.map (·.2))) = true)
    (htg2 : tgB (relS scope sc) N (fbB scope) tg2 t2 = true) (hin2 : t2.ix.all (fun i => decide (i ∈ vs2)) = true) (hv : vs2.all (fun i => decide (i ∈ own.map (·.2))) = true)
    (hi : OkI X W tg iter (wpI T.G it)) (hi2 : BOkI X scope tg2 iter2 (wpI T.G it2)) (he : BOkE X scope elt (wpE T.G ee)) :
    OkR X W (tLc2 (tI X tg iter) (gTg X.K t) tYes (bI X scope tg2 iter2) (gTg X.K t2) tYes (bE X scope elt) (own.map (·.2)) vs2) (wpE T.G (.comp2 ee own t it vs2 t2 it2)) := by
  intro s Pp R hw A0 F0 H0 F H σ Q wd q hR
  simp only [wpE, compE_eq, compE2_eq, compE0, compE20, compB_eq] at hw
  have hv' : ∀ i ∈ vs2, i ∈ own.map (·.2) := fun i hi => by simpa using List.all_eq_true.mp hv i hi
  refine hi s _ R hw A0 F0 H0 F H σ _ wd (fun J F1 H1 s1 xs aft1 ito hk => ?_) hR
  generalize hvs : own.map (·.2) = vs at hk hv' hin ⊢
  generalize hf : (fun (x : D) (s2 : DSt) (acc : List D) (k : List D → DSt → Prop) => asgTg t x s2 fun s3 => wpI T.G it2 s3 (fun s4 ys =>
      compA vs2 (fun y s5 acc k => asgTg t2 y s5 fun s6 => wpE T.G ee s6 (fun s7 r => r.d fun d => acc.length < sizeLine ∧ k (acc ++ [d]) s7) (fun _ => False)) ys s4 acc k) (fun _ => False)) = f at hk
  intro D hD
  have x1 := aft1.wd
  let Wst : Nat → Hp → Prop := fun i H' => ∃ F' s' acc us, Beh X.prog X.w X.K A0 F0 H0 (L2.wipe σ vs) (wipeD s1 vs) F1 H1 (L2.wipe σ vs) (wipeD s' vs) F' H' ∧ Aside (L2.wipe σ vs) (wipeD s' vs) F' H' D (.lst us) ∧ Reps X.prog X.w X.K F' acc us ∧
    compA vs f (xs.drop i) s' acc fun ys s2 => Pp (backD s1 s2 vs) (.o (.l ys))
  refine ⟨fun i m H' => i ≤ xs.length ∧ m = xs.length - i ∧ Wst i H',
    ⟨xs.length, Nat.zero_le _, rfl, F1, s1, [], [], (Beh.of (x1.wipe vs)).step ((Aft.refl (x1.wipe vs)).addH hD), ⟨upd_same, x1.ex.free hD, (x1.wipe vs).notOwn hD⟩, Reps.nil, hk⟩, ?_⟩
  rintro i m H' ⟨hi, rfl, F', s', acc, us, a, d, r, hk⟩
  by_cases hlt : i < xs.length
  · refine .inr ⟨ito.go i F' H' hlt a.st.ex a.wd.ex, Wst (i + 1), fun H2 h2 => ⟨xs.length - (i + 1), by omega, hlt, rfl, h2⟩, fun x H2 hy => ?_⟩
    rw [List.drop_eq_getElem_cons hlt] at hk
    simp only [compA_nil, compA_cons] at hk
    rw [← hf] at hk
    obtain ⟨F2, a2, rx⟩ := ito.turn2 (List.getElem?_eq_getElem hlt) a.st.ex a.wd hy
    have d2 := d.step a2
    have a02 := a.step a2
    refine gTg_ok hk a2.wd rx fun σ3 s3 w3 sub out hlen hk3 => ?_
    have hwipe : L2.wipe σ3 vs = L2.wipe σ vs := wipe_same hlen fun j hj => out j fun z => hj (by
      have := List.all_eq_true.mp hin j z
      simpa using this)
    refine ⟨hwipe, ?_⟩
    simp only [tYes, if_true]
    intro sB HB C cl fp
    refine hi2 sB HB C cl fp s3 _ _ hk3 A0 F0 H0 F2 H2 σ3 _ w3 (fun J1 F4 H4 s4 ys a4 ito4 hk4 => ?_) (fun _ _ _ h => h.elim)
    have b4 := ((a02.to w3 sub).step a4)
    have d4 := (d2.sub sub).step a4
    have r4 := Reps.mono (a2.st.ex.trans a4.st.ex) _ _ r
    rw [hf] at hk4
    generalize hf2 : (fun (y : DL.D) (s5 : DSt) (acc : List DL.D) (k : List DL.D → DSt → Prop) => asgTg t2 y s5 fun s6 => wpE T.G ee s6 (fun s7 r => r.d fun d => acc.length < sizeLine ∧ k (acc ++ [d]) s7) (fun _ => False)) = f2 at hk4
    let V1 : Nat → Hp → Prop := fun j H5 => ∃ F5 s5 acc5 us5, Beh X.prog X.w X.K A0 F0 H0 (L2.wipe σ vs) (wipeD s1 vs) F1 H1 (L2.wipe σ3 vs2) (wipeD s5 vs2) F5 H5 ∧ Aside (L2.wipe σ3 vs2) (wipeD s5 vs2) F5 H5 D (.lst us5) ∧ Reps X.prog X.w X.K F5 acc5 us5 ∧ Ex F4 F5 ∧
      compA vs2 f2 (ys.drop j) s5 acc5 fun acc' s1' => compA vs f (xs.drop (i + 1)) s1' acc' fun ys s2 => Pp (backD s1 s2 vs) (.o (.l ys))
    refine ⟨fun j m H5 => j ≤ ys.length ∧ m = ys.length - j ∧ V1 j H5, ⟨ys.length, Nat.zero_le _, rfl, F4, s4, acc, us, b4.wipe vs2, d4.sub fun _ h => own_wipe h, r4, Ex.refl _, hk4⟩, ?_⟩
    rintro j m H5 ⟨hj, rfl, F5, s5, acc5, us5, b5, d5, r5, ex5, hk5⟩
    by_cases hjt : j < ys.length
    · refine .inr ⟨ito4.go j F5 H5 hjt ex5 b5.wd.ex, V1 (j + 1), fun H2 h2 => ⟨ys.length - (j + 1), by omega, hjt, rfl, h2⟩, fun y H6 hy2 => ?_⟩
      rw [List.drop_eq_getElem_cons hjt] at hk5
      simp only [compA_nil, compA_cons] at hk5
      rw [← hf2] at hk5
      obtain ⟨F6, a6, ry⟩ := ito4.turn2 (List.getElem?_eq_getElem hjt) ex5 b5.wd hy2
      refine gTg_ok hk5 a6.wd ry fun σ7 s7 w7 sub7 out7 hlen7 hk7 => ?_
      have hwipe7 : L2.wipe σ7 vs2 = L2.wipe σ3 vs2 := wipe_same hlen7 fun l hl => out7 l fun z => hl (by
        have := List.all_eq_true.mp hin2 l z
        simpa using this)
      refine ⟨hwipe7, ?_⟩
      intro sB HB C cl fp
      refine one (X := X.blk sB HB scope (compEnvC scope cl C X.env) fp) (W := noW) (he sB HB C cl fp) hk7 w7 (fun z F8 H8 s8 dd a8 r8 hk8 => ?_) (fun _ _ _ h => h.elim)
      obtain ⟨hz, hk8⟩ := hk8
      rw [hf2] at hk8
      have b8 := ((b5.step a6).to w7 sub7).step a8
      have d8 := ((d5.step a6).sub sub7).step a8
      have b9 := Beh.aside (u := .lst (us5 ++ [z])) (x1.wipe vs) b8 d8 hD
      refine ⟨us5, d8.at_, by rw [← r5.length]; exact hz, F8, s8, acc5 ++ [dd], us5 ++ [z], ?_, ?_, ?_, ?_, hk8⟩
      · have := b9.wipe vs2
        rw [hwipe7] at this
        exact this
      · rw [← hwipe7]
        exact Aside.sub ⟨upd_same, d8.fr, d8.no⟩ fun _ h => own_wipe h
      · exact (Reps.mono (a6.st.ex.trans a8.st.ex) _ _ r5).append (Reps.cons r8 Reps.nil)
      · exact ex5.trans (a6.st.ex.trans a8.st.ex)
    · have e : j = ys.length := by omega
      subst e
      refine .inl ⟨ito4.stop F5 H5 ex5 b5.wd.ex, ?_⟩
      rw [List.drop_length] at hk5
      simp only [compA_nil, compA_cons] at hk5
      refine ⟨F5, s5, acc5, us5, ?_, ?_, r5, hk5⟩
      · have := b5.wipe vs
        rw [wipe_wipe hv', wipeD_wipe hv', hwipe] at this
        exact this
      · rw [← hwipe, ← wipe_wipe hv', ← wipeD_wipe hv']
        exact d5.sub fun _ h => own_wipe h
  · have e : i = xs.length := by omega
    subst e
    refine .inl ⟨ito.stop F' H' a.st.ex a.wd.ex, ?_⟩
    rw [List.drop_length] at hk
    simp only [compA_nil, compA_cons] at hk
    have ab := Aft.back x1 a.aft
    rw [backD_wipe] at ab
    refine q _ F' H' _ (.o (.l acc)) (aft1.trans ab) ⟨D, rfl, d.fr, ⟨us, d.at_, r⟩, fun h => ?_, aft1.new hD, fun q hq => nomatch hq⟩ hk
    exact x1.notOwn hD (ab.sub _ h)
theorem ok_comp2 (g : Good T X sc N fb) (hb : blkC N sc scope own = true) (htg : tgB (relS scope sc) N (fbB scope) tg t = true) (hin : t.ix.all (fun i => decide (i ∈ own.map (·.2))) = true) (hs : notSet iter = true)
    (htg2 : tgB (relS scope sc) N (fbB scope) tg2 t2 = true) (hin2 : t2.ix.all (fun i => decide (i ∈ vs2)) = true) (hs2 : notSet iter2 = true) (hv : vs2.all (fun i => decide (i ∈ own.map (·.2))) = true)
    (hi : OkI X W tg iter (wpI T.G it)) (hi2 : BOkI X scope tg2 iter2 (wpI T.G it2)) (he : BOkE X scope elt (wpE T.G ee)) :
    OkE X W (.ListComp elt [⟨tg, iter, [], 0⟩, ⟨tg2, iter2, [], 0⟩] scope pos) (wpE T.G (.comp2 ee own t it vs2 t2 it2)) :=
  OkR.e (okR_comp2 g htg hin htg2 hin2 hv hi hi2 he) (pe_lc2 (g := gTg X.K t) (g1 := gTg X.K t2) (te := bE X scope elt) (wi1 := bI X scope tg2 iter2) (tt := tYes) (tt1 := tYes) g.calm (by rw [g.n]; exact g.nd) (pI tg iter) (blkOk_by (by rw [g.n, g.sc]; exact hb))
    (fun i hi => by simpa using List.all_eq_true.mp hv i hi) (fun sB HB C cl fp => pg_tg (g.blk scope sB HB C cl fp) htg) (fun _ _ _ _ _ => pts_nil) (fun sB HB C cl fp => ⟨fun pins s2 σ2 H2 Q2 I h => h sB HB C cl fp pins s2 I⟩)
    (fun sB HB C cl fp => pg_tg (g.blk scope sB HB C cl fp) htg2) (fun _ _ _ _ _ => pts_nil)
    (fun sB HB C cl fp => ⟨fun pins s2 σ2 H2 Q2 I h => h sB HB C cl fp pins s2 I⟩) (fold_plain hs _) (fun env x => fold_plain hs2 env x))
end
end DL

set_option maxHeartbeats 2000000
namespace DL
open PySem PySem.Spec PyProof.Rows L2

/-! ### what stores do by the text -/
def nmsC (sc : Scope) (ts : List Expr) : List Str :=
  let line := (ts.head?.map (·.pos.line)).getD 0
  ts.filterMap fun
    | .Name id pos => if sc.names.lookup id == some .local && pos.line == line then some id else none
    | _ => none
/-- what swappedStores answers -/
def swapC (sc : Scope) (ts vs : List Expr) : Option (Option (List Str)) :=
  if (!(ts.length == 2 || ts.length == 3) || vs.length != ts.length || ScopeKind.function != ScopeKind.function) = true then some none
  else if (vs.any fun | .Starred .. => true | _ => false) = true then some none
  else if ((nmsC sc ts).length != ts.length || (nmsC sc ts).eraseDups.length != (nmsC sc ts).length) = true then some none
  else if vs.all (foldedForSure 8) = true then some none
  else if vs.all (constantsAlone 8) = true then none
  else some (some (nmsC sc ts))
theorem swapC_ok {env : Env} {ts vs : List Expr} {k k2 : Nat} {p p2 : Pos} {r : Option (List Str)} (hk : env.scope.kind = .function) (h : swapC env.scope ts vs = some r) : swappedStores [.Tuple ts k p] (.Tuple vs k2 p2) env = pure r := by
  have hb : env.blockKind = .function := by
    unfold Env.blockKind
    rw [hk]
    rfl
  unfold swappedStores
  unfold swapC at h
  dsimp only
  rw [hb]
  split at h
  · rename_i h1
    cases h
    exact if_pos h1
  · rename_i h1
    refine Eq.trans (if_neg h1) ?_
    split at h
    · rename_i h2
      cases h
      exact if_pos h2
    · rename_i h2
      refine Eq.trans (if_neg h2) ?_
      split at h
      · rename_i h3
        cases h
        exact if_pos h3
      · rename_i h3
        refine Eq.trans (if_neg h3) ?_
        split at h
        · rename_i h4
          cases h
          exact if_pos h4
        · rename_i h4
          refine Eq.trans (if_neg h4) ?_
          split at h
          · cases h
          · rename_i h5
            cases h
            refine Eq.trans (if_neg h5) ?_
            rfl
/-- what swapsWith answers for a name -/
def swapB (sc : Scope) (x : Str) (p : Pos) (e : Expr) : Bool := match e with
  | .ListComp _ _ s pos => sc.names.lookup x == some .local && p.line == pos.line && !(s.names.any fun (n, k) => n == x && (k == .local || k == .cell))
  | _ => false
def plainV (e : Expr) : Bool := match e with
  | .SetComp .. => false | .DictComp .. => false | _ => true
theorem swapB_ok {env : Env} {x : Str} {p : Pos} {e : Expr} {line : Nat} (hk : env.scope.kind = .function) (hp : plainV e = true) : swapsWith e (some (.Name x p)) line env = pure (swapB env.scope x p e) := by
  have hb : env.blockKind = .function := by
    unfold Env.blockKind
    rw [hk]
    rfl
  cases e <;> first | rfl | (cases hp; done) | skip
  unfold swapsWith swapB
  dsimp only
  rw [hb]
  rfl
def notComp (e : Expr) : Bool := match e with
  | .ListComp .. => false | .SetComp .. => false | .DictComp .. => false | _ => true
theorem swaps_none {env : Env} {e : Expr} {t : Option Expr} {line : Nat} (h : notComp e = true) : swapsWith e t line env = pure false := by
  cases e <;> first | rfl | cases h
theorem swaps_tup {env : Env} {e : Expr} {es : List Expr} {k : Nat} {p : Pos} {line : Nat} : swapsWithSole [.Tuple es k p] e line env = pure false := by
  cases e <;> rfl
def notTup (e : Expr) : Bool := match e with | .Tuple .. => false | _ => true
theorem stores_none {env : Env} {e : Expr} {es : List Expr} {k : Nat} {p : Pos} (h : notTup e = true) : swappedStores [.Tuple es k p] e env = pure none := by
  cases e <;> first | rfl | cases h

/-! ### statements -/
structure EndsOk (X : Cx) (W : WX) (A0 : Addr → Prop) (F0 H0 Fc : Hp) (k : Ks) (D : Ends) : Prop where
  nx : ∀ σ s F H, Ex Fc F → Wd X.prog X.w X.K A0 F0 H0 F H σ s → k.nx s → D.nx σ H
  rt : ∀ v σ s F H r, Ex Fc F → Wd X.prog X.w X.K A0 F0 H0 F H σ s → RsOk X.prog X.w X.K A0 H0 F H σ s v r → k.rt s r → D.rt v H
  bk : ∀ σ s F H, Ex Fc F → Wd X.prog X.w X.K A0 F0 H0 F H σ s → k.bk s → D.bk σ H
  ct : ∀ σ s F H, Ex Fc F → Wd X.prog X.w X.K A0 F0 H0 F H σ s → k.ct s → D.ct σ H
  xx : ∀ c C σ H, k.xx c → X.mg c = some (.ref C) → (∀ b o, H0 b = some o → ¬ A0 b → H b = some o) → W (.ref C) none σ H
def OkS (X : Cx) (W : WX) (t : TS) (wp : DSt → Ks → Prop) : Prop :=
  ∀ s k, wp s k → ∀ A0 F0 H0 F H σ D, Wd X.prog X.w X.K A0 F0 H0 F H σ s → EndsOk X W A0 F0 H0 F k D → t D σ H
section
variable {X : Cx} {W : WX} {A0 : Addr → Prop} {F0 H0 F H F' H' Fc Fc' : Hp} {σ : L2.St} {s s' : DSt} {k : Ks} {D : Ends} {v : V} {r : Rs} {i : Nat}
theorem EndsOk.on (e : EndsOk X W A0 F0 H0 Fc k D) (ex : Ex Fc Fc') : EndsOk X W A0 F0 H0 Fc' k D :=
  ⟨fun σ s F H h => e.nx σ s F H (ex.trans h), fun v σ s F H r h => e.rt v σ s F H r (ex.trans h), fun σ s F H h => e.bk σ s F H (ex.trans h), fun σ s F H h => e.ct σ s F H (ex.trans h), e.xx⟩
theorem EndsOk.hR (e : EndsOk X W A0 F0 H0 Fc k D) (x : Wd X.prog X.w X.K A0 F0 H0 F H σ s) :
    ∀ c C H', k.xx c → X.mg c = some (.ref C) → (∀ b o, H b = some o → ¬ ownA σ s b → H' b = some o) → W (.ref C) none σ H' := fun c C H' h hm hk =>
  e.xx c C σ H' h hm fun b o hb hn => hk b o (x.st.kp b o hb hn) fun z => by
    rcases (x.own z).2.1 with q | q
    · exact hn q
    · rw [q] at hb; cases hb
theorem RsOk.up (x : Wd X.prog X.w X.K A0 F0 H0 F H σ s) (h : RsOk X.prog X.w X.K (ownA σ s) H F' H' σ s' v r) : RsOk X.prog X.w X.K A0 H0 F' H' σ s' v r := by
  cases r with
  | v d => exact h
  | o c =>
    obtain ⟨p, e, hf, ho, no, hn, hk⟩ := h
    have up : ∀ p, (ownA σ s p ∨ H p = none) → A0 p ∨ H0 p = none := fun p hn => by
      rcases hn with z | z
      · exact (x.own z).2.1
      · cases q : H0 p with
        | none => exact .inr rfl
        | some o =>
          by_cases n : A0 p
          · exact .inl n
          · rw [x.st.kp p o q n] at z; cases z
    exact ⟨p, e, hf, ho, no, up p hn, fun q hq => ⟨(hk q hq).1, up q (hk q hq).2⟩⟩
/-- a result is stored -/
theorem setRs_ok {q : DSt → Prop} {Q : L2.St → Prop} (h : setRs s i r q) (x : Wd X.prog X.w X.K A0 F0 H0 F H σ s) (ok : RsOk X.prog X.w X.K A0 H0 F H σ s v r)
    (fin : ∀ s', Wd X.prog X.w X.K A0 F0 H0 F H (σ.set i (some v)) s' → q s' → Q (σ.set i (some v))) : Q (σ.set i (some v)) := by
  cases r with
  | v d => exact fin _ (x.setV ok) h
  | o c =>
    obtain ⟨p, rfl, hf, ho, no, hn, hk⟩ := ok
    exact fin _ (x.setO hf hn ho no hk) h
end
section
variable {T : Tab} {X : Cx} {sc : Scope} {N : List Str} {fb : Str → Bool} {W : WX} {a b c e : Expr} {ea eb ec : E} {es : List Expr} {eas : Es} {pos p p2 p3 : Pos} {x : Str} {i : Nat} {is : List Nat} {k1 k2 : Nat}
/-- name = .., by what the value's reading is -/
theorem okR_asg {t : TE} {wp : DSt → (DSt → Rs → Prop) → (Str → Prop) → Prop} (h : OkR X W t wp) : OkS X W (tAsg t (gName i)) (fun s k => wp s (fun s1 r => setRs s1 i r k.nx) k.xx) := by
  intro s k hw A0 F0 H0 F H σ D wd en
  refine h s _ _ hw A0 F0 H0 F H σ _ wd (fun v F' H' s' r aft ok hp => ?_) (en.hR wd)
  exact setRs_ok (Q := fun σ' => D.nx σ' H') hp aft.wd (ok.up wd) fun s2 w2 q2 => en.nx _ _ _ _ aft.st.ex w2 q2
theorem OkS.s {st : Stmt} {t : TS} {wp : DSt → Ks → Prop} (h : OkS X W t wp) (p : PS X st t) : OkS X W (tS X st) wp :=
  fun s k hw A0 F0 H0 F H σ D wd en => p.tS (h s k hw A0 F0 H0 F H σ D wd en)
theorem ok_asg (g : Good T X sc N fb) (hk : sc.kind = .function) (hN : N[i]? = some x) (hl : locB sc fb x = true) (hp : plainV e = true) (hsw : swapB sc x p2 e = false) (h : OkE X W e (wpE T.G ea)) : OkS X W (tS X (.Assign [.Name x p2] e pos)) (wpS T.G (.asg i ea)) := by
  have hl' := locB_ok hl
  have := OkS.s (okR_asg (i := i) h) (ps_set (pos := pos) (pos' := p2) (by rw [g.n]; exact g.nd) (by rw [g.n]; exact hN) (by rw [g.sc]; exact hl'.1) (pE e) (by rw [swapB_ok (by rw [g.sc]; exact hk) hp, g.sc, hsw]) (by rw [g.sc]; exact hl'.2.imp (g.fb _) id))
  exact fun s k hw => this s k (by simpa only [wpS, Ks.cas_eq] using hw)
theorem ok_ret (h : OkE X W e (wpE T.G ea)) : OkS X W (tS X (.Return (some e) pos)) (wpS T.G (.ret ea)) := by
  intro s k hw A0 F0 H0 F H σ D wd en
  simp only [wpS, Ks.cas_eq] at hw
  refine (ps_ret (pE e)).tS ?_
  exact h s _ _ hw A0 F0 H0 F H σ _ wd (fun v F' H' s' r aft ok hp => en.rt v σ s' F' H' r aft.st.ex aft.wd (ok.up wd) hp) (en.hR wd)
theorem ok_retN : OkS X W (tS X (.Return none pos)) (wpS T.G .retN) := by
  intro s k hw A0 F0 H0 F H σ D wd en
  simp only [wpS, Ks.cas_eq] at hw
  refine ps_retN.tS ?_
  exact en.rt .non σ s F H (.v .non) (Ex.refl F) wd (by simp only [RsOk, Rep]) hw
theorem ok_pass : OkS X W (tS X (.Pass pos)) (wpS T.G .pass) := by
  intro s k hw A0 F0 H0 F H σ D wd en
  simp only [wpS, Ks.cas_eq] at hw
  exact ps_pass.tS (en.nx _ _ _ _ (Ex.refl F) wd hw)
theorem ok_doc {y : Str} {j : Nat} : OkS X W (tS X (.Expr (.Constant (.str y) j p) pos)) (wpS T.G .pass) := by
  intro s k hw A0 F0 H0 F H σ D wd en
  simp only [wpS, Ks.cas_eq] at hw
  exact ps_doc.tS (en.nx _ _ _ _ (Ex.refl F) wd hw)
theorem ok_ex (hc : notComp e = true) (h : OkE X W e (wpE T.G ea)) : OkS X W (tS X (.Expr e pos)) (wpS T.G (.ex ea)) := by
  intro s k hw A0 F0 H0 F H σ D wd en
  simp only [wpS, Ks.cas_eq] at hw
  refine (ps_expr (pE e) (swaps_none hc)).tS ?_
  exact h s _ _ hw A0 F0 H0 F H σ _ wd (fun v F' H' s' r aft ok hp => en.nx _ _ _ _ aft.st.ex aft.wd hp) (en.hR wd)
/-- a, b = e -/
theorem okR_asgT (g : Good T X sc N fb) (htg : namesB sc N fb es is = true) (hst : swappedStores [.Tuple es k1 p] e X.env = pure none) (h : OkE X W e (wpE T.G ea)) : OkS X W (tS X (.Assign [.Tuple es k1 p] e pos)) (wpS T.G (.asgT is ea)) := by
  intro s k hw A0 F0 H0 F H σ D wd en
  simp only [wpS, Ks.cas_eq] at hw
  have pg : PG X (.Tuple es k1 p) (gTg X.K (.many is)) := pg_tg g (by simpa only [tgB] using htg)
  refine (ps_asg (pE e) pg swaps_tup hst).tS ?_
  refine one (Q := fun v H1 => gTg X.K (.many is) v σ H1 D.nx) (k1 := fun s1 d => match d with | .tup ds => setAll s1 is ds k.nx | _ => False) h hw wd (fun v F' H' s' d aft rep hk => ?_) (en.hR wd)
  refine gTg_ok (t := .many is) (d := d) (k := k.nx) ?_ aft.wd rep fun σ' s2 w2 _ _ _ hk2 => en.nx _ _ _ _ aft.st.ex w2 hk2
  exact hk
end
end DL

set_option maxHeartbeats 2000000
namespace DL
open PySem PySem.Spec PyProof.Rows L2

/-! ### parallel stores -/
section
variable {P : Program} {w : World} {K : PySem.W.Frag} {A0 A : Addr → Prop} {F0 H0 F H F' H' F1 H1 F2 H2 : Hp} {σ : L2.St} {s s' s1 s2 : DSt} {v v1 v2 : V} {r r1 r2 : Rs} {i : Nat}
theorem OwnAt.some' {p : Addr} {c : Own} (h : OwnAt P w K F H p c) : H p ≠ none := by
  obtain ⟨o, e⟩ := h.some
  rw [e]; exact nofun
theorem RsOk.keep (ok : RsOk P w K A H F1 H1 σ s1 v r) (a : Aft P w K A0 F0 H0 σ s1 F1 H1 s2 F2 H2) : RsOk P w K A H F2 H2 σ s2 v r := by
  cases r with
  | v d => exact Rep.mono a.st.ex _ _ ok
  | o c =>
    obtain ⟨p, e, hf, ho, no, hn, hk⟩ := ok
    obtain ⟨o, eo⟩ := ho.some
    have d : Aside σ s1 F1 H1 p o := ⟨eo, hf, no⟩
    have d2 := d.step a
    have kk : ∀ q ∈ c.kids, ∃ o, H1 q = some o ∧ Aside σ s2 F2 H2 q o := fun q hq => by
      obtain ⟨f1, o, e1⟩ := OwnAt.kid ho hq
      exact ⟨o, e1, Aside.step ⟨e1, f1, (hk q hq).1⟩ a⟩
    refine ⟨p, e, d2.fr, ho.mono a.st.ex (by rw [d2.at_, eo]) fun q hq => ?_, d2.no, hn, fun q hq => ⟨?_, (hk q hq).2⟩⟩
    · obtain ⟨o, e1, d3⟩ := kk q hq
      exact ⟨by rw [d3.at_, e1], fun _ => d3.fr⟩
    · obtain ⟨o, e1, d3⟩ := kk q hq
      exact d3.no
/-- what a result owns -/
def rO (v : V) (r : Rs) (q : Addr) : Prop := match r with
  | .v _ => False
  | .o c => v = V.ref q ∨ q ∈ c.kids
theorem RsOk.apart (ok1 : RsOk P w K A H F1 H1 σ s1 v1 r1) (ok2 : RsOk P w K (ownA σ s1) H1 F2 H2 σ s2 v2 r2) (q : Addr) (o1 : rO v1 r1 q) (o2 : rO v2 r2 q) : False := by
  cases r1 with
  | v d => exact o1.elim
  | o c =>
    cases r2 with
    | v d => exact o2.elim
    | o c2 =>
      obtain ⟨p, rfl, hf, ho, no, hn, hk⟩ := ok1
      obtain ⟨p2, rfl, hf2, ho2, no2, hn2, hk2⟩ := ok2
      have a1 : ¬ ownA σ s1 q ∧ H1 q ≠ none := by
        rcases o1 with e | e
        · cases e; exact ⟨no, ho.some'⟩
        · obtain ⟨_, o, e1⟩ := OwnAt.kid ho e
          exact ⟨(hk q e).1, by rw [e1]; exact nofun⟩
      have a2 : ownA σ s1 q ∨ H1 q = none := by
        rcases o2 with e | e
        · cases e; exact hn2
        · exact (hk2 q e).2
      exact a2.elim a1.1 a1.2
/-- .. behind a store of another result -/
theorem RsOk.past (ok : RsOk P w K A H F' H' σ s v r) {σ' : L2.St} (h : ∀ q, ownA σ' s' q → ownA σ s q ∨ rO v1 r1 q) (ap : ∀ q, rO v1 r1 q → rO v r q → False) : RsOk P w K A H F' H' σ' s' v r := by
  cases r with
  | v d => exact ok
  | o c =>
    obtain ⟨p, rfl, hf, ho, no, hn, hk⟩ := ok
    refine ⟨p, rfl, hf, ho, fun z => ?_, hn, fun q hq => ⟨fun z => ?_, (hk q hq).2⟩⟩
    · rcases h p z with z | z
      · exact no z
      · exact ap p z (.inl rfl)
    · rcases h q z with z | z
      · exact (hk q hq).1 z
      · exact ap q z (.inr hq)
theorem setRs_at {q : DSt → Prop} {Q : Prop} (h : setRs s i r q) (x : Wd P w K A0 F0 H0 F H σ s) (ok : RsOk P w K A0 H0 F H σ s v r)
    (fin : ∀ s', Wd P w K A0 F0 H0 F H (σ.set i (some v)) s' → (∀ q, ownA (σ.set i (some v)) s' q → ownA σ s q ∨ rO v r q) → q s' → Q) : Q := by
  cases r with
  | v d =>
    refine fin _ (x.setV ok) (fun p hp => ?_) h
    obtain ⟨j, t, e, m⟩ := hp
    rcases get_set e with ⟨_, z, _⟩ | ⟨n, z⟩
    · cases z; exact m.val.elim
    · exact .inl ⟨j, t, z, m.set n⟩
  | o c =>
    obtain ⟨p, rfl, hf, ho, no, hn, hk⟩ := ok
    refine fin _ (x.setO hf hn ho no hk) (fun q hq => ?_) h
    obtain ⟨j, t, e, m⟩ := hq
    rcases get_set e with ⟨rfl, z, hl⟩ | ⟨n, z⟩
    · cases z
      rcases m.own (by rw [List.getElem?_set_self (by rw [x.len]; exact hl)]) with rfl | z
      · exact .inr (.inl rfl)
      · exact .inr (.inr z)
    · exact .inl ⟨j, t, z, m.set n⟩
end
section
variable {T : Tab} {X : Cx} {sc : Scope} {N : List Str} {fb : Str → Bool} {W : WX} {a b c e : Expr} {ea eb ec : E} {es : List Expr} {eas : Es} {pos p px py pz pt pt2 : Pos} {x y z : Str} {i j l : Nat} {is : List Nat} {k1 k2 : Nat}
theorem ok_par2 (g : Good T X sc N fb) (hk : sc.kind = .function) (hi : N[i]? = some x) (hj : N[j]? = some y) (hij : i ≠ j) (hx : sc.names.lookup x = some .local) (hy : sc.names.lookup y = some .local) (na : notStar a = true) (nb : notStar b = true)
    (hsw : swapC sc [.Name x px, .Name y py] [a, b] = some (some [x, y])) (ha : OkE X W a (wpE T.G ea)) (hb : OkE X W b (wpE T.G eb)) :
    OkS X W (tS X (.Assign [.Tuple [.Name x px, .Name y py] k1 pt] (.Tuple [a, b] k2 pt2) pos)) (wpS T.G (.par [i, j] (.cons ea (.cons eb .nil)))) := by
  intro s k hw A0 F0 H0 F H σ D wd en
  simp only [wpS, Ks.cas_eq, wpP] at hw
  refine (ps_par g.calm (by rw [g.n]; exact g.nd) (by rw [g.n]; exact hi) (by rw [g.n]; exact hj) hij (by rw [g.sc]; exact hx) (by rw [g.sc]; exact hy) (pa_cons (pE a) (pa_cons (pE b) pa_nil (star_of nb)) (star_of na))
    (swapC_ok (by rw [g.sc]; exact hk) (by rw [g.sc]; exact hsw)) swaps_tup).tS ?_
  refine ha s _ _ hw A0 F0 H0 F H σ _ wd (fun v F1 H1 s1 r1 aft1 ok1 hp1 => ?_) (en.hR wd)
  refine hb s1 _ _ hp1 A0 F0 H0 F1 H1 σ _ aft1.wd (fun u F2 H2 s2 r2 aft2 ok2 hp2 => ?_) (later aft1 (en.hR wd))
  refine ⟨v, u, rfl, ?_⟩
  have ex2 := aft1.st.ex.trans aft2.st.ex
  have ok1' := (ok1.keep aft2).up wd
  have ok2' := ok2.up aft1.wd
  exact setRs_at hp2 aft2.wd ok1' fun s3 w3 o3 q3 => setRs_at q3 w3 (ok2'.past o3 (ok1.apart ok2)) fun s4 w4 o4 q4 => en.nx _ _ _ _ ex2 w4 q4
theorem ok_par3 (g : Good T X sc N fb) (hk : sc.kind = .function) (hi : N[i]? = some x) (hj : N[j]? = some y) (hl : N[l]? = some z) (hij : i ≠ j) (hil : i ≠ l) (hjl : j ≠ l) (hx : sc.names.lookup x = some .local) (hy : sc.names.lookup y = some .local) (hz : sc.names.lookup z = some .local)
    (na : notStar a = true) (nb : notStar b = true) (nc : notStar c = true)
    (hsw : swapC sc [.Name x px, .Name y py, .Name z pz] [a, b, c] = some (some [x, y, z])) (ha : OkE X W a (wpE T.G ea)) (hb : OkE X W b (wpE T.G eb)) (hc : OkE X W c (wpE T.G ec)) :
    OkS X W (tS X (.Assign [.Tuple [.Name x px, .Name y py, .Name z pz] k1 pt] (.Tuple [a, b, c] k2 pt2) pos)) (wpS T.G (.par [i, j, l] (.cons ea (.cons eb (.cons ec .nil))))) := by
  intro s k hw A0 F0 H0 F H σ D wd en
  simp only [wpS, Ks.cas_eq, wpP] at hw
  refine (ps_par3 g.calm (by rw [g.n]; exact g.nd) (by rw [g.n]; exact hi) (by rw [g.n]; exact hj) (by rw [g.n]; exact hl) hij hil hjl (by rw [g.sc]; exact hx) (by rw [g.sc]; exact hy) (by rw [g.sc]; exact hz)
    (pa_cons (pE a) (pa_cons (pE b) (pa_cons (pE c) pa_nil (star_of nc)) (star_of nb)) (star_of na)) (swapC_ok (by rw [g.sc]; exact hk) (by rw [g.sc]; exact hsw)) swaps_tup).tS ?_
  refine ha s _ _ hw A0 F0 H0 F H σ _ wd (fun v F1 H1 s1 r1 aft1 ok1 hp1 => ?_) (en.hR wd)
  refine hb s1 _ _ hp1 A0 F0 H0 F1 H1 σ _ aft1.wd (fun u F2 H2 s2 r2 aft2 ok2 hp2 => ?_) (later aft1 (en.hR wd))
  have aft12 := aft1.trans aft2
  refine hc s2 _ _ hp2 A0 F0 H0 F2 H2 σ _ aft2.wd (fun t F3 H3 s3 r3 aft3 ok3 hp3 => ?_) (later aft12 (en.hR wd))
  refine ⟨v, u, t, rfl, ?_⟩
  have ex3 := aft12.st.ex.trans aft3.st.ex
  have ok1' := ((ok1.keep aft2).keep aft3).up wd
  have ok2' := (ok2.keep aft3).up aft1.wd
  have ok3' := ok3.up aft2.wd
  refine setRs_at hp3 aft3.wd ok1' fun s4 w4 o4 q4 => ?_
  refine setRs_at q4 w4 (ok2'.past o4 (ok1.apart ok2)) fun s5 w5 o5 q5 => ?_
  refine setRs_at q5 w5 ((ok3'.past o4 ((ok1.keep aft2).apart ok3)).past o5 (ok2.apart ok3)) fun s6 w6 o6 q6 => en.nx _ _ _ _ ex3 w6 q6
/-- a, b = e, through a tuple -/
theorem ok_asgT (g : Good T X sc N fb) (htg : namesB sc N fb es is = true) (hn : notTup e = true) (h : OkE X W e (wpE T.G ea)) : OkS X W (tS X (.Assign [.Tuple es k1 p] e pos)) (wpS T.G (.asgT is ea)) :=
  okR_asgT g htg (stores_none hn) h
theorem ok_asgT2 (g : Good T X sc N fb) (hk : sc.kind = .function) {vs : List Expr} (htg : namesB sc N fb es is = true) (hn : swapC sc es vs = some none) (h : OkE X W (.Tuple vs k2 pt2) (wpE T.G ea)) : OkS X W (tS X (.Assign [.Tuple es k1 p] (.Tuple vs k2 pt2) pos)) (wpS T.G (.asgT is ea)) :=
  okR_asgT g htg (swapC_ok (by rw [g.sc]; exact hk) (by rw [g.sc]; exact hn)) h
end

/-! ### suites, if, loops -/
def OkSs (X : Cx) (W : WX) (sts : List Stmt) (wp : DSt → Ks → Prop) : Prop := OkS X W (tSs X sts) wp
section
variable {T : Tab} {X : Cx} {sc : Scope} {N : List Str} {fb : Str → Bool} {W : WX} {c tg iter : Expr} {ec : E} {it : DL.It} {st : Stmt} {sts sts2 : List Stmt} {es : S} {ss ss2 : Ss} {pos : Pos} {t : Tg}
theorem okSs_nil : OkSs X W [] (wpSs T.G .nil) := by
  intro s k hw A0 F0 H0 F H σ D wd en
  simp only [wpSs, Ks.cas_eq] at hw
  exact pss_nil.tSs (en.nx _ _ _ _ (Ex.refl F) wd hw)
theorem okSs_cons (h1 : OkS X W (tS X st) (wpS T.G es)) (h2 : OkSs X W sts (wpSs T.G ss)) : OkSs X W (st :: sts) (wpSs T.G (.cons es ss)) := by
  intro s k hw A0 F0 H0 F H σ D wd en
  simp only [wpSs, Ks.cas_eq] at hw
  refine (pss_cons (pS st) (pSs sts)).tSs ?_
  refine h1 s _ hw A0 F0 H0 F H σ _ wd ⟨fun σ' s' F' H' ex w' hk => ?_, en.rt, en.bk, en.ct, en.xx⟩
  exact h2 s' k hk A0 F0 H0 F' H' σ' D w' (en.on ex)
theorem ok_if (hc : OkT X W (tT X c) (wpE T.G ec)) (h1 : OkSs X W sts (wpSs T.G ss)) (h2 : OkSs X W sts2 (wpSs T.G ss2)) : OkS X W (tS X (.If c sts sts2 pos)) (wpS T.G (.ite ec ss ss2)) := by
  intro s k hw A0 F0 H0 F H σ D wd en
  simp only [wpS, Ks.cas_eq, iteB_eq, iteB0, forW_eq] at hw
  refine (ps_if (pT c) (pSs sts) (pSs sts2)).tS ?_
  refine hc s (fun b s1 => if b = true then wpSs T.G ss s1 k else wpSs T.G ss2 s1 k) _ hw A0 F0 H0 F H σ _ wd (fun b F' H' s' aft hk => ?_) (en.hR wd)
  cases b with
  | true =>
    simp only [if_true] at hk ⊢
    exact h1 s' k hk A0 F0 H0 F' H' σ D aft.wd (en.on aft.st.ex)
  | false =>
    simp only [Bool.false_eq_true, if_false] at hk ⊢
    exact h2 s' k hk A0 F0 H0 F' H' σ D aft.wd (en.on aft.st.ex)
theorem ok_for (g : Good T X sc N fb) (hpo : PassesOwn (model X.prog X.w) X.A X.env X.xe) (htg : tgB sc N fb tg t = true) (hs : notSet iter = true) (hi : OkI X W tg iter (wpI T.G it)) (hb : OkSs X W sts (wpSs T.G ss)) : OkS X W (tS X (.For tg iter sts [] pos)) (wpS T.G (.for_ t it ss)) := by
  intro s k hw A0 F0 H0 F H σ D wd en
  simp only [wpS, Ks.cas_eq, iteB_eq, iteB0, forW_eq] at hw
  refine (ps_for hpo g.calm (pI tg iter) (pg_tg g htg) (pSs sts) (fold_plain hs _)).tS ?_
  refine hi s _ _ hw A0 F0 H0 F H σ _ wd (fun J F1 H1 s1 xs aft1 ito hk => ?_) (en.hR wd)
  have en1 := en.on aft1.st.ex
  generalize hf : (fun (x : DL.D) (s2 : DSt) (kk : Ks) => asgTg t x s2 fun s3 => wpSs T.G ss s3 kk) = f at hk
  refine ⟨fun i m σ' H' => i ≤ xs.length ∧ m = xs.length - i ∧ ∃ F' s', Wd X.prog X.w X.K A0 F0 H0 F' H' σ' s' ∧ Ex F1 F' ∧ forL f k (xs.drop i) s', ⟨xs.length, Nat.zero_le _, rfl, F1, s1, aft1.wd, Ex.refl _, hk⟩, ?_⟩
  rintro i m σ' H' ⟨hi, rfl, F', s', w', ex', hk'⟩
  by_cases hlt : i < xs.length
  · refine .inr ⟨ito.go i F' H' hlt ex' w'.ex, fun σ' H' => ∃ F' s', Wd X.prog X.w X.K A0 F0 H0 F' H' σ' s' ∧ Ex F1 F' ∧ forL f k (xs.drop (i + 1)) s', fun σ2 H2 h2 => ⟨xs.length - (i + 1), by omega, hlt, rfl, h2⟩, fun x H2 hy => ?_⟩
    rw [List.drop_eq_getElem_cons hlt] at hk'
    simp only [forL_nil, forL_cons] at hk'
    obtain ⟨F2, a2, rx⟩ := ito.turn2 (List.getElem?_eq_getElem hlt) ex' w' hy
    have ex2 := ex'.trans a2.st.ex
    rw [← hf] at hk'
    refine gTg_ok hk' a2.wd rx fun σ3 s3 w3 sub out hlen hk3 => ?_
    rw [hf] at hk3
    refine hb s3 _ hk3 A0 F0 H0 F2 H2 σ3 _ w3 ⟨fun σ4 s4 F4 H4 e4 w4 hk4 => ⟨F4, s4, w4, ex2.trans e4, hk4⟩, fun v σ4 s4 F4 H4 r4 e4 => en1.rt v σ4 s4 F4 H4 r4 (ex2.trans e4), fun σ4 s4 F4 H4 e4 => en1.nx σ4 s4 F4 H4 (ex2.trans e4),
      fun σ4 s4 F4 H4 e4 w4 hk4 => ⟨F4, s4, w4, ex2.trans e4, hk4⟩, en1.xx⟩
  · have e : i = xs.length := by omega
    subst e
    refine .inl ⟨ito.stop F' H' ex' w'.ex, ?_⟩
    rw [List.drop_length] at hk'
    simp only [forL_nil, forL_cons] at hk'
    exact en1.nx _ _ _ _ ex' w' hk'
theorem ok_while (hpo : PassesOwn (model X.prog X.w) X.A X.env X.xe) (hc : OkT X W (tT X c) (wpE T.G ec)) (hb : OkSs X W sts (wpSs T.G ss)) : OkS X W (tS X (.While c sts [] pos)) (wpS T.G (.while_ ec ss)) := by
  intro s k hw A0 F0 H0 F H σ D wd en
  simp only [wpS, Ks.cas_eq, iteB_eq, iteB0, forW_eq] at hw
  obtain ⟨V, ⟨m0, h0⟩, step⟩ := hw
  refine (ps_while hpo (pT c) (pSs sts)).tS ?_
  refine ⟨fun m σ' H' => ∃ F' s', Wd X.prog X.w X.K A0 F0 H0 F' H' σ' s' ∧ Ex F F' ∧ V m s', ⟨m0, F, s, wd, Ex.refl _, h0⟩, ?_⟩
  rintro m σ' H' ⟨F', s', w', ex', hv⟩
  have en' := en.on ex'
  refine hc s' (fun b s2 => if b = true then wpSs T.G ss s2 { k with nx := fun s3 => ∃ m', m' < m ∧ V m' s3, ct := fun s3 => ∃ m', m' < m ∧ V m' s3, bk := k.nx } else k.nx s2) _ (step m s' hv) A0 F0 H0 F' H' σ' _ w' (fun b F2 H2 s2 aft hk => ?_) (en'.hR w')
  cases b with
  | true =>
    simp only [if_true] at hk ⊢
    have ex2 := ex'.trans aft.st.ex
    refine ⟨fun σ3 H3 => ∃ m', m' < m ∧ ∃ F3 s3, Wd X.prog X.w X.K A0 F0 H0 F3 H3 σ3 s3 ∧ Ex F F3 ∧ V m' s3, fun σ3 H3 ⟨m', hm, h⟩ => ⟨m', hm, h⟩, ?_⟩
    refine hb s2 _ hk A0 F0 H0 F2 H2 σ' _ aft.wd ⟨fun σ4 s4 F4 H4 e4 w4 ⟨m', hm, hk4⟩ => ⟨m', hm, F4, s4, w4, ex2.trans e4, hk4⟩, fun v σ4 s4 F4 H4 r4 e4 => en.rt v σ4 s4 F4 H4 r4 (ex2.trans e4), fun σ4 s4 F4 H4 e4 => en.nx σ4 s4 F4 H4 (ex2.trans e4),
      fun σ4 s4 F4 H4 e4 w4 ⟨m', hm, hk4⟩ => ⟨m', hm, F4, s4, w4, ex2.trans e4, hk4⟩, en.xx⟩
  | false =>
    simp only [Bool.false_eq_true, if_false] at hk ⊢
    exact en'.nx _ _ _ _ aft.st.ex aft.wd hk
end
end DL

set_option maxHeartbeats 2000000
namespace DL
open PySem PySem.Spec PyProof.Rows L2

/-! ### dicts of one's own: a new entry, a changed one -/
def tSetC (X : Cx) : TSet := fun o i v H Q => ∀ pins s σ ov iv u, Inv X pins σ H s → RelV o ov → RelV i iv → RelV v u → wpAny (model X.prog X.w) X.A (setItem ov iv u) (fun _ s' => ∃ H', Inv X pins σ H' s' ∧ Q H') X.xe s
theorem setC {X : Cx} : PSet X (tSetC X) := fun pins s σ H o i v ov iv u Q I r1 r2 r3 h => h pins s σ ov iv u I r1 r2 r3
theorem toSet {X : Cx} {t : TSet} (h : PSet X t) {o i v : V} {H : Hp} {Q : Hp → Prop} (q : t o i v H Q) : tSetC X o i v H Q := fun pins s σ ov iv u I r1 r2 r3 => h pins s σ H o i v ov iv u Q I r1 r2 r3 q
theorem zip_any {κ α : Type} [DecidableEq κ] : ∀ (ks : List κ) (vs : List α) (k : κ), ks.length = vs.length → ((ks.zip vs).any fun p => decide (p.1 = k)) = decide (k ∈ ks)
  | [], [], k, _ => by simp
  | a :: ks, b :: vs, k, h => by
    have ih := zip_any ks vs k (by simpa using h)
    simp only [List.zip_cons_cons, List.any_cons, ih]
    by_cases c : a = k
    · simp [c]
    · have : ¬ k = a := fun e => c e.symm
      simp [c, this]
theorem kvI_zip (ks : List Int) (vs : List V) : kvI ks vs = (ks.zip vs).map fun p => ((Sum.inl p.1 : Key), p.2) := by
  unfold kvI
  rw [List.zip_map_left]
  rfl
theorem putVs_in {κ α : Type} [DecidableEq κ] {ks : List κ} {vs : List α} {k : κ} {v : α} (h : k ∈ ks) : putVs ks vs k v = (ks.zip vs).map fun p => if p.1 = k then v else p.2 := if_pos h
theorem putVs_out {κ α : Type} [DecidableEq κ] {ks : List κ} {vs : List α} {k : κ} {v : α} (h : k ∉ ks) : putVs ks vs k v = vs ++ [v] := if_neg h
theorem zip_put {κ α : Type} [DecidableEq κ] : ∀ (ks : List κ) (vs : List α) (k : κ) (v : α), ks.length = vs.length → ks.zip ((ks.zip vs).map fun p => if p.1 = k then v else p.2) = (ks.zip vs).map fun p => if p.1 = k then (p.1, v) else p
  | [], [], k, v, _ => rfl
  | a :: ks, b :: vs, k, v, h => by
    have ih := zip_put ks vs k v (by simpa using h)
    simp only [List.zip_cons_cons, List.map_cons, ih]
    by_cases c : a = k <;> simp [c]
theorem putK_kvI (ks : List Int) (vs : List V) (j : Int) (v : V) (h : ks.length = vs.length) : putK (kvI ks vs) (Sum.inl j : Key) v = kvI (putKs ks j) (putVs ks vs j v) := by
  have ea : ((kvI ks vs).any fun kv => decide (kv.1 = (Sum.inl j : Key))) = decide (j ∈ ks) := by
    rw [← zip_any ks vs j h, kvI_zip, List.any_map]
    congr 1
    funext p
    simp
  unfold putK
  rw [ea]
  by_cases c : j ∈ ks
  · rw [if_pos (decide_eq_true c), putVs_in c, show putKs ks j = ks from if_pos c, kvI_zip, kvI_zip, zip_put ks vs j v h, List.map_map, List.map_map]
    refine List.map_congr_left fun p _ => ?_
    by_cases e : p.1 = j <;> simp [e]
  · rw [if_neg (by simpa using c), putVs_out c, show putKs ks j = ks ++ [j] from if_neg c, kvI_zip, kvI_zip, List.zip_append h, List.map_append]
    rfl
theorem Reps.putVs {P : Program} {w : World} {K : PySem.W.Frag} {H : Hp} {κ : Type} [DecidableEq κ] {ks : List κ} {ds : List D} {vs : List V} {k : κ} {d : D} {v : V} (hl : ks.length = ds.length) (r : Reps P w K H ds vs) (rd : Rep P w K H d v) : Reps P w K H (putVs ks ds k d) (putVs ks vs k v) := by
  by_cases c : k ∈ ks
  · rw [putVs_in c, putVs_in c]
    clear c
    induction ks generalizing ds vs with
    | nil => exact Reps.nil
    | cons a ks ih =>
      cases ds with
      | nil => cases hl
      | cons x ds =>
        simp only [Reps] at r
        obtain ⟨u, us, rfl, r1, r2⟩ := r
        simp only [List.zip_cons_cons, List.map_cons]
        refine Reps.cons ?_ (ih (by simpa using hl) r2)
        split
        · exact rd
        · exact r1
  · rw [putVs_out c, putVs_out c]
    exact r.append (Reps.cons rd Reps.nil)
/-- the library's entries after d[k] = v -/
theorem storedH_zip (ks : List NestedKey) (as : List Addr) (us : List Value) (k : NestedKey) (b : Addr) (u : Value) (h1 : ks.length = as.length) (h2 : ks.length = us.length) :
    storedH (ks.zip (as.zip us)) k b u = (putKs ks k).zip ((if k ∈ ks then as else as ++ [b]).zip (putVs ks us k u)) := by
  have some_eq : (atKey (ks.zip (as.zip us)) k).isSome = decide (k ∈ ks) := by
    rw [← lookL_some ks us k h2, ← atKey_zip ks as us k h1 h2, Option.isSome_map]
  unfold storedH
  rw [some_eq]
  by_cases c : k ∈ ks
  · rw [if_pos (decide_eq_true c), if_pos c, putVs_in c, show putKs ks k = ks from if_pos c]
    clear some_eq c
    induction ks generalizing as us with
    | nil => rfl
    | cons q ks ih =>
      cases as with
      | nil => cases h1
      | cons a as =>
        cases us with
        | nil => cases h2
        | cons w us =>
          simp only [List.zip_cons_cons, List.map_cons]
          rw [ih as us (by simpa using h1) (by simpa using h2)]
          by_cases e : q = k <;> simp [putAt, e]
  · rw [if_neg (by simpa using c), if_neg c, putVs_out c, show putKs ks k = ks ++ [k] from if_neg c, List.zip_append (show as.length = us.length by omega), List.zip_append (by rw [List.length_zip]; omega)]
    rfl
theorem Vals.putVs {κ : Type} [DecidableEq κ] : ∀ {ks : List κ} {vs : List V} {us : List Value} {k : κ} {v : V} {u : Value}, Vals vs us → RelV v u → Vals (putVs ks vs k v) (putVs ks us k u) := by
  intro ks vs us k v u r rv
  by_cases c : k ∈ ks
  · rw [putVs_in c, putVs_in c]
    clear c
    induction ks generalizing vs us with
    | nil => exact .nil
    | cons a ks ih =>
      cases r with
      | nil => exact .nil
      | cons r1 r2 =>
        simp only [List.zip_cons_cons, List.map_cons]
        refine .cons ?_ (ih r2)
        split
        · exact rv
        · exact r1
  · rw [putVs_out c, putVs_out c]
    have app : ∀ {vs : List V} {us : List Value}, Vals vs us → Vals (vs ++ [v]) (us ++ [u]) := by
      intro vs us r
      induction r with
      | nil => exact .cons rv .nil
      | cons r1 _ ih => exact .cons r1 ih
    exact app r
theorem keys_append : ∀ (a b : List D), keys (a ++ b) = keys a ++ keys b
  | [], _ => rfl
  | x :: a, b => by simp [keys, keys_append a b]
theorem keys_put (ks : List D) (d : D) : keys (if d.key ∈ keys ks then ks else ks ++ [d]) = putKs (keys ks) d.key := by
  unfold putKs
  split
  · rfl
  · rw [keys_append]; rfl
theorem putKs_nodup {κ : Type} [DecidableEq κ] {ks : List κ} {k : κ} (h : ks.Nodup) : (putKs ks k).Nodup := by
  unfold putKs
  split
  · exact h
  · rename_i c
    rw [List.nodup_append]
    exact ⟨h, List.nodup_cons.mpr ⟨List.not_mem_nil, List.nodup_nil⟩, fun a ha b hb e => by
      rw [List.mem_singleton] at hb
      subst hb e
      exact c ha⟩
section
variable {X : Cx} {p b : Addr} {nk : List D} {as : List Addr} {vs : List V} {H : Hp}
/-- d[k] = v -/
theorem t_set (hu : X.A.units + 64 < cLine) {d : D} {v : V} {Q : Hp → Prop} (e : H p = some (TO X.prog X.w p (keys nk) as vs)) (hk : kOk nk = true) (rk : Reps X.prog X.w X.K H nk (as.map V.ref)) (h1 : kOk1 d = true) (rd : Rep X.prog X.w X.K H d (.ref b)) (hz : nk.length < sizeLine)
    (q : Q (upd H p (TO X.prog X.w p (putKs (keys nk) d.key) (if d.key ∈ keys nk then as else as ++ [b]) (putVs (keys nk) vs d.key v)))) : tSetC X (.ref p) (.ref b) v H Q := by
  intro pins s σ ov iv u I r1 r2 r3
  cases r1
  cases r2
  obtain ⟨us, r, hs, _, dd, l1, l2, nd⟩ := (TO.ent I.hok (.inl e)).dict I hk rk
  have hkey := rd.isKey8 I h1
  have room : (nestedKind X.prog X.w).room X.A.in1 := by show X.A.units + 1 + 8 < cLine; omega
  have kl := keys_length nk
  have hsz : ((keys nk).zip (as.zip us)).length ≤ sizeLine := by
    rw [List.length_zip, List.length_zip]
    omega
  refine wpAny_setItem_heap (hsz := hsz) room hkey dd fun h' dd' hs' => ⟨_, ?_, q⟩
  obtain ⟨o, es, ep, g1, g2, g3, g4, g5, g6⟩ := dd'
  refine d_write I (by rw [e]; exact True.intro) hs' ⟨o, g1⟩ ?_
  have lk : (putKs (keys nk) d.key).length ≤ sizeLine := by
    unfold putKs
    split
    · omega
    · rw [List.length_append]; simp only [List.length_cons, List.length_nil]; omega
  have lv : (keys nk).length = vs.length := l2.trans r.length.symm
  refine TEnt.ok ⟨hs, lk, ?_, putVs_length _ _ _ _ lv, putVs (keys nk) us d.key u, Vals.putVs r r3, o, es, ep, g1, g2, g3, ?_, putKs_nodup nd⟩
  · unfold putKs
    split
    · exact l1
    · rw [List.length_append, List.length_append, l1]; rfl
  · rw [g4, storedH_zip _ _ _ _ _ _ l1 l2]
end
end DL

set_option maxHeartbeats 2000000
namespace DL
open PySem PySem.Spec PyProof.Rows L2

/-! ### what is one's own is changed -/
section
variable {P : Program} {w : World} {K : PySem.W.Frag} {A0 A : Addr → Prop} {F0 H0 F H F' H' : Hp} {σ : L2.St} {s s' : DSt} {i : Nat} {p : Addr}
theorem Wd.runG (i0 : Nat) (x : Wd P w K A0 F0 H0 F H σ s) (ex : Ex F' H') (st : Stp A F H F' H') (hA : ∀ q, A q → A0 q ∨ H0 q = none) (hl : s'.length = s.length)
    (hs : ∀ j : Nat, (s'[j]? = s[j]? ∧ ∀ (t : Sl) (q : Addr), s[j]? = some (some t) → Owns σ j t q → ¬ A q) ∨
      (∃ (t t' : Sl) (v : V), s[j]? = some (some t) ∧ s'[j]? = some (some t') ∧ (∀ q, Owns σ j t' q → Owns σ j t q ∨ (j = i0 ∧ H q = none)) ∧ σ[j]? = some (some v) ∧ SlOk P w K A0 H0 F' H' v t')) :
    Wd P w K A0 F0 H0 F' H' σ s' ∧ ∀ q, ownA σ s' q → ownA σ s q ∨ H q = none := by
  have old : ∀ (j : Nat) (t' : Sl) (q : Addr), s'[j]? = some (some t') → Owns σ j t' q → (∃ t : Sl, s[j]? = some (some t) ∧ Owns σ j t q) ∨ (j = i0 ∧ H q = none) := fun j t' q e m => by
    rcases hs j with ⟨e1, _⟩ | ⟨t, t2, v, e1, e2, m1, _, _⟩
    · exact .inl ⟨t', by rw [← e1]; exact e, m⟩
    · rw [e2] at e; cases e; exact (m1 q m).imp (fun z => ⟨t, e1, z⟩) id
  have has : ∀ (j : Nat) (t : Sl) (q : Addr), s[j]? = some (some t) → Owns σ j t q → H q = none → False := fun j t q e m z => by
    obtain ⟨_, _, o, eo⟩ := x.own ⟨j, t, e, m⟩
    rw [z] at eo; cases eo
  refine ⟨⟨by rw [hl]; exact x.len, ex, x.st.trans st hA, fun j t' e => ?_, fun j l t u q e1 e2 m1 m2 => ?_⟩, fun q ⟨j, t', e, m⟩ => ?_⟩
  · rcases hs j with ⟨e1, na⟩ | ⟨t, t2, v, e1, e2, m1, r, ok⟩
    · rw [e1] at e
      obtain ⟨v, r, ok⟩ := x.sl j t' e
      refine ⟨v, r, ?_⟩
      have kp : ∀ p : Addr, Owns σ j t' p → F p = none → (∃ o, H p = some o) → F' p = none ∧ H' p = H p := fun p hp hf ⟨o, ho⟩ => by
        have n := na t' p e hp
        refine ⟨?_, by rw [ho]; exact st.kp p o ho n⟩
        cases q : F' p with
        | none => rfl
        | some u =>
          rcases st.nw p u q with z | z | z
          · exact absurd hf z
          · rw [ho] at z; cases z
          · exact absurd z n
      cases t' with
      | val d => exact Rep.mono st.ex _ _ ok
      | own c =>
        obtain ⟨p, rfl, h1, h2, h3, h4⟩ := ok
        obtain ⟨k1, k2⟩ := kp p (.inl ⟨rfl, r⟩) h1 h3.some
        refine ⟨p, rfl, k1, h2, h3.mono st.ex k2 fun q hq => ?_, h4⟩
        obtain ⟨k3, k4⟩ := kp q (.inr hq) (OwnAt.kid h3 hq).1 (OwnAt.kid h3 hq).2
        exact ⟨k4, fun _ => k3⟩
      | io xs =>
        obtain ⟨p, rfl, h1, h2, h3⟩ := ok
        obtain ⟨k1, k2⟩ := kp p (.inl ⟨rfl, r⟩) h1 h3.some
        exact ⟨p, rfl, k1, h2, h3.mono st.ex k2 fun q hq => nomatch hq⟩
    · rw [e2] at e
      cases e
      exact ⟨v, r, ok⟩
  · rcases old j t q e1 m1 with ⟨t0, a1, a2⟩ | ⟨a1, a2⟩
    · rcases old l u q e2 m2 with ⟨u0, b1, b2⟩ | ⟨b1, b2⟩
      · exact x.ap j l t0 u0 q a1 b1 a2 b2
      · exact (has j t0 q a1 a2 b2).elim
    · rcases old l u q e2 m2 with ⟨u0, b1, b2⟩ | ⟨b1, b2⟩
      · exact (has l u0 q b1 b2 a2).elim
      · exact a1.trans b1.symm
  · rcases old j t' q e m with ⟨t0, a1, a2⟩ | ⟨_, a2⟩
    · exact .inl ⟨j, t0, a1, a2⟩
    · exact .inr a2
theorem Wd.run (x : Wd P w K A0 F0 H0 F H σ s) (ex : Ex F' H') (st : Stp A F H F' H') (hA : ∀ q, A q → A0 q ∨ H0 q = none) (hl : s'.length = s.length)
    (hs : ∀ j : Nat, (s'[j]? = s[j]? ∧ ∀ (t : Sl) (q : Addr), s[j]? = some (some t) → Owns σ j t q → ¬ A q) ∨
      (∃ (t t' : Sl) (v : V), s[j]? = some (some t) ∧ s'[j]? = some (some t') ∧ (∀ q, Owns σ j t' q → Owns σ j t q) ∧ σ[j]? = some (some v) ∧ SlOk P w K A0 H0 F' H' v t')) :
    Wd P w K A0 F0 H0 F' H' σ s' ∧ ∀ q, ownA σ s' q → ownA σ s q := by
  refine ⟨(Wd.runG s.length x ex st hA hl fun j => (hs j).imp id fun ⟨t, t', v, a, b, c, d, e⟩ => ⟨t, t', v, a, b, fun q h => .inl (c q h), d, e⟩).1, fun q ⟨j, t', e, m⟩ => ?_⟩
  rcases hs j with ⟨e1, _⟩ | ⟨t, t2, v, e1, e2, m1, _, _⟩
  · exact ⟨j, t', by rw [← e1]; exact e, m⟩
  · rw [e2] at e; cases e; exact ⟨j, t, e1, m1 q m⟩
/-- one slot's own thing is rewritten in place -/
theorem Aft.mut (x : Wd P w K A0 F0 H0 F H σ s) {t t' : Sl} {u : HO} (hs : s[i]? = some (some t)) (hm : t.mut = true) (hp : σ[i]? = some (some (V.ref p))) (hk : t'.kids = []) (ok : SlOk P w K A0 H0 F (upd H p u) (.ref p) t') :
    Aft P w K A0 F0 H0 σ s F H (s.set i (some t')) F (upd H p u) := by
  have hown : ownA σ s p := ⟨i, t, hs, .inl ⟨hm, hp⟩⟩
  obtain ⟨hf, hn, _⟩ := x.own hown
  have ne : ∀ b v, F b = some v → b ≠ p := fun b v e z => by rw [z, hf] at e; cases e
  have st : Stp (fun q => q = p) F H F (upd H p u) := ⟨Ex.refl F, fun b v e n => by rw [upd_ne n]; exact e, fun a v e => .inl (by rw [e]; exact nofun)⟩
  have hl : i < s.length := (List.getElem?_eq_some_iff.mp hs).1
  obtain ⟨w', sub⟩ := x.run (s' := s.set i (some t')) (fun b v e => by rw [upd_ne (ne b v e)]; exact x.ex b v e) st (fun q z => by subst z; exact hn) (by rw [List.length_set]) fun j => by
    by_cases c : j = i
    · subst c
      exact .inr ⟨t, t', .ref p, hs, List.getElem?_set_self hl, fun q hq => .inl ⟨hm, hq.elim (fun z => z.2) fun z => by rw [hk] at z; cases z⟩, hp, ok⟩
    · exact .inl ⟨List.getElem?_set_ne (Ne.symm c), fun t2 q e m z => c (x.ap j i t2 t q e hs m (.inl ⟨hm, by rw [z]; exact hp⟩))⟩
  exact ⟨w', st.mono fun a z => by subst z; exact hown, sub⟩
end

/-! ### x[k] = v, x.append(v), x.pop() -/
section
variable {T : Tab} {X : Cx} {sc : Scope} {N : List Str} {fb : Str → Bool} {W : WX} {a b e kx : Expr} {ea ek : E} {pos p p2 apos cpos : Pos} {x : Str} {i : Nat} {A0 : Addr → Prop} {F0 H0 F H F' H' : Hp} {σ : L2.St} {s s' : DSt} {dk dv : D} {vk vv : V} {q : DSt → Prop} {Q : Hp → Prop}
theorem hasD_at (h : hasD s i) (w : Wd X.prog X.w X.K A0 F0 H0 F H σ s) : ∃ v, σ[i]? = some (some v) := by
  unfold hasD at h
  split at h
  · rename_i sl e
    obtain ⟨v, e1, _⟩ := w.sl i sl e
    exact ⟨v, e1⟩
  · exact h.elim
theorem Reps.setN {P : Program} {w : World} {K : PySem.W.Frag} {F : Hp} {xs : List D} {vs : List V} {n : Nat} (r : Reps P w K F xs vs) (h : Rep P w K F dv vv) : Reps P w K F (xs.set n dv) (vs.set n vv) := r.set n h
theorem setIxD_ok (g : Good T X sc N fb) (h : setIxD s i dk dv q) (w : Wd X.prog X.w X.K A0 F0 H0 F H σ s) (rk : Rep X.prog X.w X.K F dk vk) (rv : Rep X.prog X.w X.K F dv vv) {o : V} (ho : σ[i]? = some (some o))
    (fin : ∀ H' s', Aft X.prog X.w X.K A0 F0 H0 σ s F H s' F H' → q s' → Q H') : tSetC X o vk vv H Q := by
  unfold setIxD at h
  split at h
  · rename_i xs hs
    unfold asI at h
    split at h
    · split at h
      · rename_i j _ n hn
        obtain ⟨v, e, p, rfl, hf, hn0, ⟨vs, hp, r⟩, _⟩ := w.sl i _ hs
        rw [ho] at e; cases e
        simp only [Rep] at rk; subst rk
        refine toSet L2.set_list ⟨p, vs, j, n, rfl, rfl, hp, by rw [← r.length]; exact hn, fin _ _ (Aft.mut w hs rfl ho rfl ?_) h⟩
        exact ⟨p, rfl, hf, hn0, ⟨_, upd_same, r.set n rv⟩, fun q hq => nomatch hq⟩
      · exact h.elim
    · exact h.elim
  · rename_i xs hs
    unfold asI at h
    split at h
    · split at h
      · rename_i j _ n hn
        obtain ⟨v, e, p, rfl, hf, hn0, vs, hp, r⟩ := w.sl i _ hs
        rw [ho] at e; cases e
        simp only [Rep] at rk; subst rk
        refine toSet L2.set_list ⟨p, vs, j, n, rfl, rfl, hp, by rw [← r.length]; exact hn, fin _ _ (Aft.mut w hs rfl ho rfl ?_) h⟩
        exact ⟨p, rfl, hf, hn0, _, upd_same, r.set n rv⟩
      · exact h.elim
    · exact h.elim
  · rename_i ks ds hs
    unfold asI at h
    split at h
    · rename_i j
      obtain ⟨v, e, p, rfl, hf, hn0, ⟨us, hp, hl, r⟩, _⟩ := w.sl i _ hs
      rw [ho] at e; cases e
      simp only [Rep] at rk; subst rk
      have l2 : ks.length = us.length := hl.trans r.length
      refine toSet (L2.set_dict (by have := g.room.un; omega)) ⟨p, _, rfl, DPut.k (k := Sum.inl j) hp (by unfold kvI; rw [List.length_zip, List.length_map]; omega), ?_⟩
      rw [putK_kvI _ _ _ _ l2]
      exact fin _ _ (Aft.mut (t' := .own (.i (putKs ks j) (putVs ks ds j dv))) w hs rfl ho rfl ⟨p, rfl, hf, hn0, ⟨_, upd_same, putVs_length _ _ _ _ hl, Reps.putVs hl r rv⟩, fun q hq => nomatch hq⟩) h.2
    · exact h.elim
  · rename_i ks ds hs
    obtain ⟨h1, h2, h3⟩ := h
    obtain ⟨v, e, p, rfl, hf, hn0, ⟨as, us, hp, hl, hk, rk', r⟩, _⟩ := w.sl i _ hs
    rw [ho] at e; cases e
    obtain ⟨b, rfl⟩ := kOk1_ref rk h1
    refine t_set (by have := g.room.un; omega) hp hk (Reps.mono w.ex _ _ rk') h1 (Rep.mono w.ex _ _ rk) h2 ?_
    have kl := keys_length ks
    refine fin _ _ (Aft.mut (t' := .own (.t (if dk.key ∈ keys ks then ks else ks ++ [dk]) (putVs (keys ks) ds dk.key dv))) w hs rfl ho rfl ⟨p, rfl, hf, hn0, ⟨_, _, by rw [keys_put]; exact upd_same, ?_, ?_, ?_, Reps.putVs (by omega) r rv⟩, fun q hq => nomatch hq⟩) h3
    · rw [← putVs_length _ _ _ _ (show (keys ks).length = ds.length by omega), ← keys_put, keys_length]
    · split
      · exact hk
      · simp only [kOk, List.all_append, Bool.and_eq_true, List.all_cons, List.all_nil, Bool.and_true]
        exact ⟨hk, h1⟩
    · split
      · exact rk'
      · rw [List.map_append]
        exact rk'.append (Reps.cons rk Reps.nil)
  · exact h.elim
theorem ok_setIx (g : Good T X sc N fb) (hns : notSlice kx = true) (hN : N[i]? = some x) (hv : visB sc x = true) (hx : okNm x = true) (he : OkE X W e (wpE T.G ea)) (hk : OkE X W kx (wpE T.G ek)) :
    OkS X W (tS X (.Assign [.Subscript (.Name x p) kx p2] e pos)) (wpS T.G (.setIx i ek ea)) := by
  intro s k hw A0 F0 H0 F H σ D wd en
  simp only [wpS, Ks.cas_eq] at hw
  refine (ps_asg (pE e) (pg_sub (pvar g hN hv hx) (pE kx) setC (by intro _; cases kx <;> first | rfl | cases hns)) (by cases e <;> rfl) (by cases e <;> rfl) (by rfl)).tS ?_
  refine one (Q := fun v H1 => gSub (tVar i) (tE X kx) (tSetC X) v σ H1 D.nx) (k1 := fun s1 dv => hasD s1 i ∧ wpE T.G ek s1 (fun s2 r2 => r2.d fun dk => setIxD s2 i dk dv k.nx) k.xx) he hw wd (fun v F1 H1 s1 dv aft1 r1 hk1 => ?_) (en.hR wd)
  obtain ⟨o, ho⟩ := hasD_at hk1.1 aft1.wd
  refine ⟨o, ho, ?_⟩
  refine one (Q := fun u H2 => tSetC X o u v H2 fun H3 => D.nx σ H3) (k1 := fun s2 dk => setIxD s2 i dk dv k.nx) hk hk1.2 aft1.wd (fun u F2 H2 s2 dk aft2 r2 hk2 => ?_) (later aft1 (en.hR wd))
  exact setIxD_ok g hk2 aft2.wd r2 (Rep.mono aft2.st.ex _ _ r1) ho fun H3 s3 aft3 hq => en.nx _ _ _ _ (aft1.st.ex.trans (aft2.st.ex.trans aft3.st.ex)) aft3.wd hq
theorem ownL_at (h : (ownL s i).isSome = true) (w : Wd X.prog X.w X.K A0 F0 H0 F H σ s) : ∃ p vs, σ[i]? = some (some (V.ref p)) ∧ H p = some (.lst vs) := by
  unfold ownL at h
  split at h
  · rename_i xs e
    obtain ⟨v, e1, p, rfl, _, _, vs, hp, _⟩ := w.sl i _ e
    exact ⟨p, vs, e1, hp⟩
  · rename_i xs e
    obtain ⟨v, e1, p, rfl, _, _, ⟨vs, hp, _⟩, _⟩ := w.sl i _ e
    exact ⟨p, vs, e1, hp⟩
  · cases h
theorem Reps.dropLast {P : Program} {w : World} {K : PySem.W.Frag} {F : Hp} {xs : List DL.D} {vs : List V} (r : Reps P w K F xs vs) : Reps P w K F xs.dropLast vs.dropLast := by
  rw [List.dropLast_eq_take, List.dropLast_eq_take, r.length]
  exact r.take _
theorem appD_ok {p : Addr} (h : appD s i dv q) (w : Wd X.prog X.w X.K A0 F0 H0 F H σ s) (rv : Rep X.prog X.w X.K F dv vv) (ho : σ[i]? = some (some (V.ref p)))
    (fin : ∀ H' s', Aft X.prog X.w X.K A0 F0 H0 σ s F H s' F H' → q s' → Q H') : rAppend (.ref p) [vv] H fun _ H2 => Q H2 := by
  unfold appD at h
  split at h
  · rename_i xs hs
    obtain ⟨v, e, p, rfl, hf, hn0, ⟨vs, hp, r⟩, _⟩ := w.sl i _ hs
    rw [ho] at e; cases e
    refine ⟨p, vs, vv, rfl, rfl, hp, by rw [← r.length]; exact h.1, fin _ _ (Aft.mut w hs rfl ho rfl ?_) h.2⟩
    exact ⟨p, rfl, hf, hn0, ⟨_, upd_same, r.append (Reps.cons rv Reps.nil)⟩, fun q hq => nomatch hq⟩
  · rename_i xs hs
    obtain ⟨v, e, p, rfl, hf, hn0, vs, hp, r⟩ := w.sl i _ hs
    rw [ho] at e; cases e
    refine ⟨p, vs, vv, rfl, rfl, hp, by rw [← r.length]; exact h.1, fin _ _ (Aft.mut w hs rfl ho rfl ?_) h.2⟩
    exact ⟨p, rfl, hf, hn0, _, upd_same, r.append (Reps.cons rv Reps.nil)⟩
  · exact h.elim
/-- the text place of a method's call -/
def lineB (apos cpos : Pos) : Bool := apos.endLine == cpos.line
theorem ok_app (g : Good T X sc N fb) (hN : N[i]? = some x) (hv : visB sc x = true) (hx : okNm x = true) (hl : lineB apos cpos = true) (hs : notStar e = true) (he : OkE X W e (wpE T.G ea)) :
    OkS X W (tS X (.Expr (.Call (.Attribute (.Name x p) "append" apos) [e] [] cpos) pos)) (wpS T.G (.app i ea)) := by
  intro s k hw A0 F0 H0 F H σ D wd en
  simp only [wpS, Ks.cas_eq] at hw
  refine (ps_expr (pe_bm PySem.F.plainAttrs_list PySem.F.slot_list_append PySem.F.type_list_append mt_append (pvar g hN hv hx) (pa_cons (pE e) pa_nil (star_of hs)) (by rfl) (few_of (by simp [noStars, hs]) (by simp)) hl (star_of hs) rfl)).tS ?_
  obtain ⟨hh, hw⟩ := hw
  obtain ⟨p, vs, ho, hp⟩ := ownL_at hh wd
  refine ⟨.ref p, ho, .inl ⟨rfl, vs, SqL.of hp⟩, ?_⟩
  refine one (Q := fun v H1 => rAppend (.ref p) [v] H1 fun _ H2 => D.nx σ H2) (k1 := fun s1 d => appD s1 i d k.nx) he hw wd (fun v F1 H1 s1 d aft1 r1 hk => ?_) (en.hR wd)
  exact appD_ok hk aft1.wd r1 ho fun H2 s2 aft2 hq => en.nx _ _ _ _ (aft1.st.ex.trans aft2.st.ex) aft2.wd hq
theorem ok_pop (g : Good T X sc N fb) (hN : N[i]? = some x) (hv : visB sc x = true) (hx : okNm x = true) (hl : lineB apos cpos = true) : OkS X W (tS X (.Expr (.Call (.Attribute (.Name x p) "pop" apos) [] [] cpos) pos)) (wpS T.G (.pop i)) := by
  intro s k hw A0 F0 H0 F H σ D wd en
  simp only [wpS, Ks.cas_eq] at hw
  refine (ps_expr (pe_bm0 PySem.F.plainAttrs_list PySem.F.slot_list_pop PySem.F.type_list_pop mt_pop (pvar g hN hv hx) (by rfl) hl)).tS ?_
  unfold popD at hw
  split at hw
  · rename_i xs hs
    obtain ⟨v, ho, p, rfl, hf, hn0, ⟨vs, hp, r⟩, _⟩ := wd.sl i _ hs
    have hne : vs ≠ [] := fun e => hw.1 (r.ne_nil.mpr e)
    refine ⟨.ref p, ho, .inl ⟨rfl, vs, SqL.of hp⟩, p, vs, vs.getLast hne, rfl, rfl, hp, ?_, ?_⟩
    · rw [List.getLast_eq_getElem]; exact List.getElem?_eq_getElem _
    · exact en.nx _ _ _ _ (Ex.refl F) (Aft.mut (t' := .own (.l xs.dropLast)) wd hs rfl ho rfl ⟨p, rfl, hf, hn0, ⟨_, upd_same, r.dropLast⟩, fun q hq => nomatch hq⟩).wd hw.2
  · rename_i xs hs
    obtain ⟨v, ho, p, rfl, hf, hn0, vs, hp, r⟩ := wd.sl i _ hs
    have hne : vs ≠ [] := fun e => hw.1 (r.ne_nil.mpr e)
    refine ⟨.ref p, ho, .inl ⟨rfl, vs, SqL.of hp⟩, p, vs, vs.getLast hne, rfl, rfl, hp, ?_, ?_⟩
    · rw [List.getLast_eq_getElem]; exact List.getElem?_eq_getElem _
    · exact en.nx _ _ _ _ (Ex.refl F) (Aft.mut (t' := .io xs.dropLast) wd hs rfl ho rfl ⟨p, rfl, hf, hn0, _, upd_same, r.dropLast⟩).wd hw.2
  · exact hw.elim
end
end DL

set_option maxHeartbeats 2000000
namespace DL
open PySem PySem.Spec PyProof.Rows L2

/-- an own list stays one -/
theorem ownL_own {s : DSt} {i : Nat} : (ownL s i).isSome = true ↔ ∃ xs, s[i]? = some (some (.io xs)) ∨ s[i]? = some (some (.own (.l xs))) := by
  unfold ownL
  split
  · rename_i xs e
    simp only [Option.isSome_some, true_iff]
    exact ⟨xs, .inl e⟩
  · rename_i xs e
    simp only [Option.isSome_some, true_iff]
    exact ⟨xs, .inr e⟩
  · rename_i h1 h2
    simp only [Option.isSome_none, Bool.false_eq_true, false_iff]
    rintro ⟨xs, e | e⟩
    · exact h1 xs e
    · exact h2 xs e
/-! ### arguments -/
def ArgR (P : Program) (w : World) (K : PySem.W.Frag) (A : Addr → Prop) (H F' H' : Hp) (σ : L2.St) (s' : DSt) : List Md → List V → List CA → Prop
  | [], [], [] => True
  | .val :: ms, v :: vs, .v d :: as => Rep P w K F' d v ∧ ArgR P w K A H F' H' σ s' ms vs as
  | .mv :: ms, v :: vs, .o xs :: as => RsOk P w K A H F' H' σ s' v (.o (.l xs)) ∧ ArgR P w K A H F' H' σ s' ms vs as
  | .io :: ms, v :: vs, .io i :: as => (∃ p, v = .ref p ∧ σ[i]? = some (some (V.ref p))) ∧ ArgR P w K A H F' H' σ s' ms vs as
  | _, _, _ => False
def OkM (X : Cx) (W : WX) (ms : List Md) (es : List Expr) (wm : DSt → (DSt → List CA → Prop) → (Str → Prop) → Prop) : Prop :=
  ∀ s Pp R, wm s Pp R → ∀ A0 F0 H0 F H σ Q, Wd X.prog X.w X.K A0 F0 H0 F H σ s →
    (∀ vs F' H' s' as, Aft X.prog X.w X.K A0 F0 H0 σ s F H s' F' H' → ArgR X.prog X.w X.K (ownA σ s) H F' H' σ s' ms vs as → Pp s' as → Q vs H') →
    (∀ c C H', R c → X.mg c = some (.ref C) → (∀ b o, H b = some o → ¬ ownA σ s b → H' b = some o) → W (.ref C) none σ H') → tA X es σ H Q
section
variable {P : Program} {w : World} {K : PySem.W.Frag} {A0 A A' : Addr → Prop} {F0 H0 F H F' H' F1 H1 F2 H2 : Hp} {σ : L2.St} {s s' s1 s2 : DSt} {v v1 v2 : V} {r r1 r2 : Rs} {i : Nat}
theorem RsOk.from (a : Aft P w K A0 F0 H0 σ s F H s1 F1 H1) (ok : RsOk P w K (ownA σ s1) H1 F' H' σ s' v r) : RsOk P w K (ownA σ s) H F' H' σ s' v r := by
  cases r with
  | v d => exact ok
  | o c =>
    obtain ⟨p, e, hf, ho, no, hn, hk⟩ := ok
    exact ⟨p, e, hf, ho, no, hn.elim (fun z => .inl (a.sub p z)) fun z => a.new z, fun q hq => ⟨(hk q hq).1, (hk q hq).2.elim (fun z => .inl (a.sub q z)) fun z => a.new z⟩⟩
theorem ArgR.from (a : Aft P w K A0 F0 H0 σ s F H s1 F1 H1) : ∀ {ms : List Md} {vs : List V} {as : List CA}, ArgR P w K (ownA σ s1) H1 F' H' σ s' ms vs as → ArgR P w K (ownA σ s) H F' H' σ s' ms vs as
  | [], [], [], _ => trivial
  | .val :: ms, v :: vs, .v d :: as, h => ⟨h.1, ArgR.from a h.2⟩
  | .mv :: ms, v :: vs, .o xs :: as, h => ⟨RsOk.from a h.1, ArgR.from a h.2⟩
  | .io :: ms, v :: vs, .io i :: as, h => ⟨h.1, ArgR.from a h.2⟩
  | [], [], _ :: _, h => (show False from h).elim
  | [], _ :: _, _, h => (show False from h).elim
  | .val :: _, [], _, h => (show False from h).elim
  | .mv :: _, [], _, h => (show False from h).elim
  | .io :: _, [], _, h => (show False from h).elim
  | .val :: _, _ :: _, [], h => (show False from h).elim
  | .mv :: _, _ :: _, [], h => (show False from h).elim
  | .io :: _, _ :: _, [], h => (show False from h).elim
  | .val :: _, _ :: _, .o _ :: _, h => (show False from h).elim
  | .val :: _, _ :: _, .io _ :: _, h => (show False from h).elim
  | .mv :: _, _ :: _, .v _ :: _, h => (show False from h).elim
  | .mv :: _, _ :: _, .io _ :: _, h => (show False from h).elim
  | .io :: _, _ :: _, .v _ :: _, h => (show False from h).elim
  | .io :: _, _ :: _, .o _ :: _, h => (show False from h).elim
end
section
variable {T : Tab} {X : Cx} {sc : Scope} {N : List Str} {fb : Str → Bool} {W : WX} {a : Expr} {ea : E} {es : List Expr} {eas : Es} {ms : List Md} {pos p : Pos} {x : Str} {i : Nat}
theorem okM_nil : OkM X W [] [] (wpM T.G [] .nil) := fun s Pp R h A0 F0 H0 F H σ Q wd q _ => by
  simp only [wpM] at h
  exact pa_nil.tA (q [] F H s [] (Aft.refl wd) trivial h.2)
theorem okM_val (hs : notStar a = true) (ha : OkE X W a (wpE T.G ea)) (hr : OkM X W ms es (wpM T.G ms eas)) : OkM X W (.val :: ms) (a :: es) (wpM T.G (.val :: ms) (.cons ea eas)) := by
  intro s Pp R h A0 F0 H0 F H σ Q wd q hR
  simp only [wpM] at h
  refine (pa_cons (pE a) (pA es) (star_of hs)).tA (one (Q := fun x H1 => tA X es σ H1 fun xs H2 => Q (x :: xs) H2) (k1 := fun s1 d => wpM T.G ms eas s1 (fun s2 as => Pp s2 (.v d :: as)) R) ha h wd (fun v F1 H1 s1 d aft r hk => ?_) hR)
  exact hr s1 _ R hk A0 F0 H0 F1 H1 σ _ aft.wd (fun vs F2 H2 s2 as aft2 rs hp => q _ F2 H2 s2 (.v d :: as) (aft.trans aft2) ⟨Rep.mono aft2.st.ex _ _ r, rs.from aft⟩ hp) (later aft hR)
theorem okM_mv (hs : notStar a = true) (ha : OkE X W a (wpE T.G ea)) (hr : OkM X W ms es (wpM T.G ms eas)) : OkM X W (.mv :: ms) (a :: es) (wpM T.G (.mv :: ms) (.cons ea eas)) := by
  intro s Pp R h A0 F0 H0 F H σ Q wd q hR
  simp only [wpM] at h
  refine (pa_cons (pE a) (pA es) (star_of hs)).tA (ha s _ R h A0 F0 H0 F H σ (fun x H1 => tA X es σ H1 fun xs H2 => Q (x :: xs) H2) wd (fun v F1 H1 s1 r aft ok hk => ?_) hR)
  split at hk
  · rename_i xs
    exact hr s1 _ R hk A0 F0 H0 F1 H1 σ _ aft.wd (fun vs F2 H2 s2 as aft2 rs hp => q _ F2 H2 s2 (.o xs :: as) (aft.trans aft2) ⟨ok.keep aft2, rs.from aft⟩ hp) (later aft hR)
  · exact hk.elim
theorem okM_io (g : Good T X sc N fb) (hN : N[i]? = some x) (hv : visB sc x = true) (hx : okNm x = true) (hr : OkM X W ms es (wpM T.G ms eas)) : OkM X W (.io :: ms) (.Name x p :: es) (wpM T.G (.io :: ms) (.cons (.io i) eas)) := by
  intro s Pp R h A0 F0 H0 F H σ Q wd q hR
  simp only [wpM] at h
  obtain ⟨p, vs, ho, hp⟩ := ownL_at h.1 wd
  refine (pa_cons (pvar g hN hv hx) (pA es) (star_of rfl)).tA ⟨.ref p, ho, ?_⟩
  exact hr s _ R h.2 A0 F0 H0 F H σ _ wd (fun vs F2 H2 s2 as aft2 rs hp => q _ F2 H2 s2 (.io i :: as) aft2 ⟨⟨p, rfl, ho⟩, rs⟩ hp) hR
end
/-! ### what a call may change -/
section
variable {P : Program} {w : World} {K : PySem.W.Frag} {A0 A : Addr → Prop} {F0 H0 F H F' H' F1 H1 : Hp} {σ : L2.St} {s s' s1 : DSt} {i : Nat}
theorem vals_args : ∀ {ms : List Md} {vs : List V} {as : List CA} {ds : List D}, ms.all (· = .val) = true → ArgR P w K A H F1 H1 σ s1 ms vs as → caD s1 as = some ds → ArgsOk P w K F1 H1 ms vs ds ∧ mutV ms vs = [] ∧ (∀ p, ¬ ioA ms vs p) ∧ ioP ms vs = none ∧ ioSlot as = none
  | [], [], [], ds, _, _, h => by simp only [caD, Option.some.injEq] at h; subst h; exact ⟨trivial, rfl, fun _ h => h, rfl, rfl⟩
  | .val :: ms, v :: vs, .v d :: as, ds, ha, hr, h => by
    simp only [caD] at h
    cases q : caD s1 as with
    | none => rw [q] at h; cases h
    | some ds' =>
      rw [q] at h
      simp only [Option.map_some, Option.some.injEq] at h
      subst h
      have ha' : ms.all (· = .val) = true := by simpa using ha
      obtain ⟨h1, h2, h3, h4, h5⟩ := vals_args ha' hr.2 q
      exact ⟨⟨hr.1, h1⟩, h2, h3, h4, h5⟩
  | .mv :: _, _, _, _, ha, _, _ => by simp at ha
  | .io :: _, _, _, _, ha, _, _ => by simp at ha
  | [], [], _ :: _, _, _, h, _ => (show False from h).elim
  | [], _ :: _, _, _, _, h, _ => (show False from h).elim
  | .val :: _, [], _, _, _, h, _ => (show False from h).elim
  | .val :: _, _ :: _, [], _, _, h, _ => (show False from h).elim
  | .val :: _, _ :: _, .o _ :: _, _, _, h, _ => (show False from h).elim
  | .val :: _, _ :: _, .io _ :: _, _, _, h, _ => (show False from h).elim
/-- what one knows of the arguments: none is changed, one is handed over, or one is lent -/
inductive MutOf (P : Program) (w : World) (K : PySem.W.Frag) (A : Addr → Prop) (H F1 H1 : Hp) (σ : L2.St) (s1 : DSt) (ms : List Md) (vs : List V) (as : List CA) : Prop where
  | none (h1 : ∀ p, ¬ ioA ms vs p) (h2 : ioP ms vs = none) (h3 : ioSlot as = none)
  | mv (p : Addr) (h1 : ∀ q, ioA ms vs q ↔ q = p) (h2 : ioP ms vs = none) (h3 : ioSlot as = none) (h4 : ¬ ownA σ s1 p) (h5 : A p ∨ H p = none)
  | io (p : Addr) (i : Nat) (h1 : ∀ q, ioA ms vs q ↔ q = p) (h2 : ioP ms vs = some (.ref p)) (h3 : ioSlot as = some i) (h4 : σ[i]? = some (some (V.ref p))) (h5 : (ownL s1 i).isSome = true)
theorem wd_own (x : Wd P w K A0 F0 H0 F1 H1 σ s1) {xs : List D} {p : Addr} (hi : ownL s1 i = some xs) (ho : σ[i]? = some (some (V.ref p))) : F1 p = none ∧ OwnAt P w K F1 H1 p (.l xs) := by
  unfold ownL at hi
  split at hi
  · rename_i ys e
    cases hi
    obtain ⟨v, e1, p', rfl, h1, _, h3⟩ := x.sl i _ e
    rw [ho] at e1; cases e1
    exact ⟨h1, h3⟩
  · rename_i ys e
    cases hi
    obtain ⟨v, e1, p', rfl, h1, _, h3, _⟩ := x.sl i _ e
    rw [ho] at e1; cases e1
    exact ⟨h1, h3⟩
  · cases hi
theorem args_of (x : Wd P w K A0 F0 H0 F1 H1 σ s1) : ∀ {ms : List Md} {vs : List V} {as : List CA} {ds : List D}, okMs ms = true → ArgR P w K A H F1 H1 σ s1 ms vs as → caD s1 as = some ds →
    ArgsOk P w K F1 H1 ms vs ds ∧ (mutV ms vs).Nodup ∧ MutOf P w K A H F1 H1 σ s1 ms vs as
  | [], [], [], ds, _, _, h => by simp only [caD, Option.some.injEq] at h; subst h; exact ⟨trivial, List.nodup_nil, .none (fun _ h => h) rfl rfl⟩
  | .val :: ms, v :: vs, .v d :: as, ds, ha, hr, h => by
    simp only [caD] at h
    cases q : caD s1 as with
    | none => rw [q] at h; cases h
    | some ds' =>
      rw [q] at h
      simp only [Option.map_some, Option.some.injEq] at h
      subst h
      obtain ⟨h1, h2, h3⟩ := args_of x (show okMs ms = true from ha) hr.2 q
      refine ⟨⟨hr.1, h1⟩, h2, ?_⟩
      cases h3 with
      | none a b c => exact .none a b c
      | mv p a b c d e => exact .mv p a b c d e
      | io p i a b c d e => exact .io p i a b c d e
  | .mv :: ms, v :: vs, .o xs :: as, ds, ha, hr, h => by
    simp only [caD] at h
    cases q : caD s1 as with
    | none => rw [q] at h; cases h
    | some ds' =>
      rw [q] at h
      simp only [Option.map_some, Option.some.injEq] at h
      subst h
      obtain ⟨h1, h2, h3, h4, h5⟩ := vals_args ha hr.2 q
      obtain ⟨p, rfl, hf, ho, no, hn, _⟩ := hr.1
      refine ⟨⟨⟨p, xs, rfl, rfl, hf, ho⟩, h1⟩, ?_, .mv p (fun q => ?_) h4 h5 no hn⟩
      · show (V.ref p :: mutV ms vs).Nodup
        rw [h2]
        exact List.nodup_cons.mpr ⟨by simp, List.nodup_nil⟩
      · show (V.ref p = V.ref q ∨ ioA ms vs q) ↔ q = p
        constructor
        · rintro (e | e)
          · cases e; rfl
          · exact (h3 q e).elim
        · rintro rfl; exact .inl rfl
  | .io :: ms, v :: vs, .io i :: as, ds, ha, hr, h => by
    simp only [caD] at h
    cases q0 : ownL s1 i with
    | none => rw [q0] at h; cases h
    | some xs =>
      cases q : caD s1 as with
      | none => rw [q0, q] at h; cases h
      | some ds' =>
        rw [q0, q] at h
        simp only [Option.some.injEq] at h
        subst h
        obtain ⟨h1, h2, h3, h4, h5⟩ := vals_args ha hr.2 q
        obtain ⟨p, rfl, ho⟩ := hr.1
        obtain ⟨hf, hown⟩ := wd_own x q0 ho
        refine ⟨⟨⟨p, xs, rfl, rfl, hf, hown⟩, h1⟩, ?_, .io p i (fun q => ?_) rfl rfl ho (by rw [q0]; rfl)⟩
        · show (V.ref p :: mutV ms vs).Nodup
          rw [h2]
          exact List.nodup_cons.mpr ⟨by simp, List.nodup_nil⟩
        · show (V.ref p = V.ref q ∨ ioA ms vs q) ↔ q = p
          constructor
          · rintro (e | e)
            · cases e; rfl
            · exact (h3 q e).elim
          · rintro rfl; exact .inl rfl
  | [], [], _ :: _, _, _, h, _ => (show False from h).elim
  | [], _ :: _, _, _, _, h, _ => (show False from h).elim
  | .val :: _, [], _, _, _, h, _ => (show False from h).elim
  | .mv :: _, [], _, _, _, h, _ => (show False from h).elim
  | .io :: _, [], _, _, _, h, _ => (show False from h).elim
  | .val :: _, _ :: _, [], _, _, h, _ => (show False from h).elim
  | .mv :: _, _ :: _, [], _, _, h, _ => (show False from h).elim
  | .io :: _, _ :: _, [], _, _, h, _ => (show False from h).elim
  | .val :: _, _ :: _, .o _ :: _, _, _, h, _ => (show False from h).elim
  | .val :: _, _ :: _, .io _ :: _, _, _, h, _ => (show False from h).elim
  | .mv :: _, _ :: _, .v _ :: _, _, _, h, _ => (show False from h).elim
  | .mv :: _, _ :: _, .io _ :: _, _, _, h, _ => (show False from h).elim
  | .io :: _, _ :: _, .v _ :: _, _, _, h, _ => (show False from h).elim
  | .io :: _, _ :: _, .o _ :: _, _, _, h, _ => (show False from h).elim
/-- behind a call -/
theorem Aft.call {ms : List Md} {vs : List V} {as : List CA} {io : List D} (x0 : Wd P w K A0 F0 H0 F H σ s) (a1 : Aft P w K A0 F0 H0 σ s F H s1 F1 H1) (m : MutOf P w K (ownA σ s) H F1 H1 σ s1 ms vs as) (ex : Ex F' H') (st : Stp (ioA ms vs) F1 H1 F' H') (hio : IoOk P w K F' H' (ioP ms vs) io) :
    Aft P w K A0 F0 H0 σ s F H (putIo s1 as io) F' H' ∧ ∀ q, ownA σ (putIo s1 as io) q → ownA σ s1 q := by
  have x1 := a1.wd
  have back : ∀ q, ioA ms vs q → ownA σ s q ∨ H q = none := fun q h => by
    cases m with
    | none a b c => exact (a q h).elim
    | mv p a b c d e => rw [(a q).mp h]; exact e
    | io p i a b c d e =>
      rw [(a q).mp h]
      obtain ⟨xs, e⟩ := ownL_own.mp e
      rcases e with e | e <;> exact .inl (a1.sub p ⟨i, _, e, .inl ⟨rfl, d⟩⟩)
  have hA : ∀ q, ioA ms vs q → A0 q ∨ H0 q = none := fun q h => by
    rcases back q h with z | z
    · exact (x0.own z).2.1
    · cases e : H0 q with
      | none => exact .inr rfl
      | some o =>
        by_cases n : A0 q
        · exact .inl n
        · rw [x0.st.kp q o e n] at z; cases z
  have key : Wd P w K A0 F0 H0 F' H' σ (putIo s1 as io) ∧ ∀ q, ownA σ (putIo s1 as io) q → ownA σ s1 q := by
    cases m with
    | none a b c =>
      refine x1.run ex st hA (by simp [putIo, c]) fun j => .inl ⟨by simp [putIo, c], fun t q _ _ h => (a q h).elim⟩
    | mv p a b c d e =>
      refine x1.run ex st hA (by simp [putIo, c]) fun j => .inl ⟨by simp [putIo, c], fun t q e1 e2 h => ?_⟩
      rw [(a q).mp h] at e2
      exact d ⟨j, t, e1, e2⟩
    | io p i a b c d e =>
      rw [b] at hio
      obtain ⟨p', hp', hf', ho'⟩ := hio
      cases hp'
      obtain ⟨xs, e⟩ := ownL_own.mp e
      have other : ∀ (j : Nat) (t0 : Sl), s1[i]? = some (some t0) → t0.mut = true → j ≠ i → ∀ (t : Sl) (q : Addr), s1[j]? = some (some t) → Owns σ j t q → ¬ ioA ms vs q := fun j t0 e0 m0 hji t q e1 m1 h => by
        rw [(a q).mp h] at m1
        exact hji (x1.ap j i t t0 p e1 e0 m1 (.inl ⟨m0, d⟩))
      rcases e with e | e
      · have hl : i < s1.length := (List.getElem?_eq_some_iff.mp e).1
        have ep : putIo s1 as io = s1.set i (some (.io io)) := by simp [putIo, c, e]
        rw [ep]
        refine x1.run ex st hA (by simp) fun j => ?_
        by_cases hji : j = i
        · subst hji
          obtain ⟨v, ev, p2, rfl, k1, k2, k3⟩ := x1.sl j _ e
          rw [d] at ev; cases ev
          exact .inr ⟨_, .io io, .ref p, e, List.getElem?_set_self hl, fun q hq => .inl ⟨rfl, hq.elim (fun z => z.2) fun z => nomatch z⟩, d, p, rfl, hf', k2, ho'⟩
        · exact .inl ⟨List.getElem?_set_ne (Ne.symm hji), other j _ e rfl hji⟩
      · have hl : i < s1.length := (List.getElem?_eq_some_iff.mp e).1
        have ep : putIo s1 as io = s1.set i (some (.own (.l io))) := by simp [putIo, c, e]
        rw [ep]
        refine x1.run ex st hA (by simp) fun j => ?_
        by_cases hji : j = i
        · subst hji
          obtain ⟨v, ev, p2, rfl, k1, k2, k3, _⟩ := x1.sl j _ e
          rw [d] at ev; cases ev
          exact .inr ⟨_, .own (.l io), .ref p, e, List.getElem?_set_self hl, fun q hq => .inl ⟨rfl, hq.elim (fun z => z.2) fun z => nomatch z⟩, d, p, rfl, hf', k2, ho', fun q hq => nomatch hq⟩
        · exact .inl ⟨List.getElem?_set_ne (Ne.symm hji), other j _ e rfl hji⟩
  exact ⟨⟨key.1, a1.st.trans st back, fun q h => a1.sub q (key.2 q h)⟩, key.2⟩
end
end DL

set_option maxHeartbeats 2000000
namespace DL
open PySem PySem.Spec PyProof.Rows L2
section
variable {T : Tab} {X : Cx} {sc : Scope} {N : List Str} {fb : Str → Bool} {W : WX} {a e c iter elt tg tg2 iter2 : Expr} {ea ee ec : E} {es : List Expr} {eas : Es} {ms : List Md} {C : Ctr} {pos p p2 spos py : Pos} {f x y m : Str} {i j : Nat}
/-! ### calls -/
theorem ok_call (g : Good T X sc N fb) (tk : L2N.Takes X W) (hG : T.G f = some (ms, C)) (hg : glB sc f = true) (hx : okNm f = true) (hs : noStars (a :: es) = true) (h : OkM X W ms (a :: es) (wpM T.G ms (.cons ea eas))) :
    OkE X W (.Call (.Name f p) (a :: es) [] pos) (wpE T.G (.call f (.cons ea eas))) := by
  intro s Pp R hw A0 F0 H0 F H σ Q wd q hR
  rw [wpE] at hw
  rw [hG, callG_eq, callG0.eq_def] at hw
  dsimp only at hw
  obtain ⟨hms, hw⟩ := hw
  obtain ⟨ad, fd, ps, k, hm, F0n, hr, hk, hb⟩ := (g.fn f ms C hG).ex
  simp only [noStars, Bool.and_eq_true] at hs
  refine (pe_callS (E := WE W) F0n hr (glB_ok g hg) hm hk hb (fun σ => L2N.passAt tk σ) (pA (a :: es)) (okNm_dbg hx).1 (star_of hs.1) (noAny hs.2)).tE ?_
  refine h s _ R hw A0 F0 H0 F H σ _ wd (fun vs F1 H1 s1 as aft1 hr1 hc => ?_) hR
  rw [callD_eq] at hc
  unfold callD0 at hc
  split at hc
  · rename_i ds hds
    obtain ⟨h1, h2, h3⟩ := args_of aft1.wd hms hr1 hds
    have back : ∀ q, ioA ms vs q → ownA σ s q ∨ H q = none := fun q h => by
      cases h3 with
      | none a b c => exact (a q h).elim
      | mv p a b c d e => rw [(a q).mp h]; exact e
      | io p i a b c d e =>
        rw [(a q).mp h]
        obtain ⟨xs, e⟩ := ownL_own.mp e
        rcases e with e | e <;> exact .inl (aft1.sub p ⟨i, _, e, .inl ⟨rfl, d⟩⟩)
    refine ⟨F1, ds, aft1.wd.ex, h1, h2, ?_⟩
    refine (g.fn f ms C hG).mono ds _ _ _ _ (fun r io hk v F' H' ex st hio hcr => ?_) (fun c hc Ca H' hm hkp => ?_) hc
    · obtain ⟨aft, sub1⟩ := Aft.call wd aft1 h3 ex st hio
      refine q v F' H' _ r aft ?_ hk
      cases r with
      | v d => exact hcr
      | o c =>
        obtain ⟨p, rfl, hf, ho, hne, hn, hk⟩ := hcr
        have no : ∀ q, some (V.ref q) ≠ ioP ms vs → (ioA ms vs q ∨ H1 q = none) → ¬ ownA σ (putIo s1 as io) q := fun p hne hn z => by
          have z1 := sub1 p z
          rcases hn with h | h
          · cases h3 with
            | none a b c => exact a p h
            | mv p' a b c d e => rw [(a p).mp h] at z1; exact d z1
            | io p' i a b c d e => rw [(a p).mp h] at hne; exact hne b.symm
          · exact aft1.wd.notOwn h z1
        have nw : ∀ q, (ioA ms vs q ∨ H1 q = none) → ownA σ s q ∨ H q = none := fun q h => h.elim (back q) fun z => aft1.new z
        exact ⟨p, rfl, hf, ho, no p hne hn, nw p hn, fun q hq => ⟨no q (hk q hq).1 (hk q hq).2, nw q (hk q hq).2⟩⟩
    · refine hR c Ca H' hc hm fun b o hb hn => hkp b o (aft1.st.kp b o hb hn) fun z => ?_
      rcases back b z with z | z
      · exact hn z
      · rw [z] at hb; cases hb
  · exact hc.elim
/-! ### one's own things read in place -/
theorem idxO_ok (g : Good T X sc N fb) {F' H' : Hp} {q : Addr} {c : Own} {u : V} {d2 : D} {k : D → Prop} {Q : VK} (ex : Ex F' H') (ho : OwnAt X.prog X.w X.K F' H' q c) (hc : c.flat = true) (r2 : Rep X.prog X.w X.K F' d2 u) (h : idxD c.d d2 k)
    (fin : ∀ z d, Rep X.prog X.w X.K F' d z → k d → Q z H') : rIxC X (.ref q) u H' Q := by
  have orf : ∀ {o : Option D}, orF o k → ∃ d, o = some d ∧ k d := fun {o} h => by
    cases o with
    | none => exact h.elim
    | some d => exact ⟨d, rfl, h⟩
  cases c with
  | l xs =>
    obtain ⟨vs, h1, t1⟩ := ho
    cases d2 <;> simp only [Own.d, idxD_eq, idxD0] at h
    obtain ⟨d, e, hk⟩ := orf h
    simp only [Rep] at r2; subst r2
    obtain ⟨z, e1, rz⟩ := atI_reps t1 e
    exact toIx ix_list ⟨_, _, _, _, rfl, rfl, SqL.of h1, e1, fin z d rz hk⟩
  | i ks ds =>
    obtain ⟨vs, h1, l1, t1⟩ := ho
    cases d2 <;> simp only [Own.d, idxD_eq, idxD0] at h
    obtain ⟨d, e, hk⟩ := orf h
    simp only [Rep] at r2; subst r2
    obtain ⟨z, e2, rz⟩ := lookL_rep t1 e
    exact i_get g.u64 (.inl h1) e2 (fin z _ rz hk)
  | t ks ds =>
    obtain ⟨as, vs, h1, l1, k1, rk, t1⟩ := ho
    cases d2 <;> simp only [Own.d, idxD_eq, idxD0] at h
    obtain ⟨hk1, h⟩ := h
    obtain ⟨d, e, hk⟩ := orf h
    obtain ⟨z, e2, rz⟩ := lookL_rep t1 e
    exact t_get g.u64 (.inl h1) k1 (Reps.mono ex _ _ rk) hk1 (Rep.mono ex _ _ r2) e2 (fin z _ rz hk)
  | n qs ks cs => cases hc
theorem atO_at {s : DSt} {A0 : Addr → Prop} {F0 H0 F H : Hp} {σ : L2.St} {q : Own → Prop} {o : V} (w : Wd X.prog X.w X.K A0 F0 H0 F H σ s) (ho : σ[i]? = some (some o)) (h : atO s i q) : ∃ c, c.flat = true ∧ q c ∧ ((∃ p, o = .ref p ∧ OwnAt X.prog X.w X.K F H p c) ∨ Rep X.prog X.w X.K F c.d o) := by
  unfold atO at h
  split at h
  · rename_i xs hs
    obtain ⟨v, e, r⟩ := w.sl i _ hs
    rw [ho] at e; cases e
    exact ⟨.l xs, rfl, h, .inr r⟩
  · rename_i ks vs hs
    obtain ⟨v, e, r⟩ := w.sl i _ hs
    rw [ho] at e; cases e
    exact ⟨.i ks vs, rfl, h, .inr r⟩
  · rename_i ks vs hs
    obtain ⟨v, e, r⟩ := w.sl i _ hs
    rw [ho] at e; cases e
    exact ⟨.t ks vs, rfl, h, .inr r⟩
  · rename_i xs hs
    obtain ⟨v, e, p, rfl, _, _, h3⟩ := w.sl i _ hs
    rw [ho] at e; cases e
    exact ⟨_, rfl, h, .inl ⟨p, rfl, h3⟩⟩
  · exact h.elim
  · rename_i c hno hs
    obtain ⟨v, e, p, rfl, _, _, h3, _⟩ := w.sl i _ hs
    rw [ho] at e; cases e
    refine ⟨c, ?_, h, .inl ⟨p, rfl, h3⟩⟩
    cases c with
    | n qs ks cs => exact (hno qs ks cs rfl).elim
    | _ => rfl
  · exact h.elim
/-- something stands there -/
theorem atO_has {s : DSt} {A0 : Addr → Prop} {F0 H0 F H : Hp} {σ : L2.St} {q : Own → Prop} (w : Wd X.prog X.w X.K A0 F0 H0 F H σ s) (h : atO s i q) : ∃ o, σ[i]? = some (some o) := by
  unfold atO at h
  split at h <;> first | exact h.elim | skip
  all_goals
    rename_i e
    obtain ⟨v, e1, _⟩ := w.sl i _ e
    exact ⟨_, e1⟩
theorem ok_ixo (g : Good T X sc N fb) (hN : N[i]? = some x) (hv : visB sc x = true) (hx : okNm x = true) (hs : notSlice a = true) (ha : OkE X W a (wpE T.G ea)) : OkE X W (.Subscript (.Name x p) a pos) (wpE T.G (.ixo i ea)) := by
  intro s Pp R h A0 F0 H0 F H σ Q wd q hR
  simp only [wpE, iteB_eq, iteB0] at h
  have q' : Fin X.prog X.w X.K A0 F0 H0 σ s F H Pp Q := q
  obtain ⟨o, ho⟩ := hasD_at h.1 wd
  refine (pe_ix ixC (pvar g hN hv hx) (pE a) (notSlice_ok hs)).tE ⟨o, ho, ?_⟩
  refine one (Q := fun u H' => rIxC X o u H' Q) (k1 := fun s1 d1 => atO s1 i fun c => idxD c.d d1 fun d => Pp s1 (.v d)) ha h.2 wd (fun u F' H' s' d aft r hk => ?_) hR
  obtain ⟨c, hfl, hk, ⟨p, rfl, hc⟩ | hc⟩ := atO_at aft.wd ho hk
  · exact idxO_ok g aft.wd.ex hc hfl r hk fun z d rz hd => q'.v aft rz hd
  · exact idxD_ok g aft.wd.ex hc r hk fun z d rz hd => q'.v aft rz hd
theorem ok_leno (g : Good T X sc N fb) (hg : glB sc "len" = true) (hN : N[i]? = some x) (hv : visB sc x = true) (hx : okNm x = true) : OkE X W (.Call (.Name "len" p) [.Name x p2] [] pos) (wpE T.G (.leno i)) := by
  intro s Pp R h A0 F0 H0 F H σ Q wd q hR
  simp only [wpE, iteB_eq, iteB0] at h
  have q' : Fin X.prog X.w X.K A0 F0 H0 σ s F H Pp Q := q
  obtain ⟨o, ho⟩ := atO_has wd h
  obtain ⟨c, hfl, hk, hc⟩ := atO_at wd ho h
  refine (pe_callB (clC (.builtin "len")) (glB_ok g hg) (g.bi _ (by decide +kernel)) (by decide +kernel) (pa_cons (pvar g hN hv hx) pa_nil (star_of rfl)) (by decide) (by decide) (star_of rfl) rfl).tE ⟨_, ho, ?_⟩
  have aft := Aft.refl wd
  rcases hc with ⟨p, rfl, hc⟩ | hc
  case inr => exact lenD_ok q' aft hc hk
  show rCl X (.builtin "len") [.ref p] H Q
  cases c with
  | l xs =>
    obtain ⟨vs, h1, t1⟩ := hc
    simp only [Own.d, lenD] at hk
    rw [t1.length] at hk
    exact toCl call_len_seq ⟨p, vs, rfl, .inl (SqL.of h1), q'.int aft hk⟩
  | i ks ds =>
    obtain ⟨vs, h1, l1, t1⟩ := hc
    simp only [Own.d, lenD] at hk
    exact len_i (.inl h1) (l1.trans t1.length) (q'.int aft hk)
  | t ks ds =>
    obtain ⟨as, vs, h1, l1, k1, rk, t1⟩ := hc
    simp only [Own.d, lenD] at hk
    exact len_t (.inl h1) k1 (Reps.mono wd.ex _ _ rk) (q'.int aft hk)
  | n qs ks cs => cases hfl
/-! ### raise -/
theorem ok_raise (g : Good T X sc N fb) (tk : L2N.Takes X W) (hc : T.ex f = true) (hg : glB sc f = true) (hx : okNm f = true) : OkS X W (tS X (.Raise (some (.Call (.Name f p) [.Constant (.str m) j p2] [] py)) none pos)) (wpS T.G (.raise f)) := by
  intro s k hw A0 F0 H0 F H σ D wd en
  simp only [wpS, Ks.cas_eq] at hw
  obtain ⟨C, bmB, B, newId, initId, hm, hF, hq, hk, h1, h2⟩ := (g.exc f hc).ex
  refine (L2N.ps_raise g.calm tk (L2N.pmk_own hF hq hm hk (raises_own h1 h2) (glB_ok g hg) (okNm_dbg hx).1)).tS ?_
  refine en.xx f C σ H hw hm fun b o hb hn => wd.st.kp b o hb hn
/-! ### name = [..] on one line -/
variable {it it2 : DL.It} {t t2 : Tg} {scope : Scope} {own : List (Str × Nat)} {vs2 : List Nat} {ifs : List Expr} {tt : TT}
theorem ok_setLcG (g : Good T X sc N fb) (hk : sc.kind = .function) (hN : N[i]? = some y) (hsw : swapB sc y py (.ListComp elt [⟨tg, iter, ifs, 0⟩] scope pos) = true) (hb : blkC N sc scope own = true) (htg : tgB (relS scope sc) N (fbB scope) tg t = true) (hin : t.ix.all (fun i => decide (i ∈ own.map (·.2))) = true) (hs : notSet iter = true)
    (hi : OkI X W tg iter (wpI T.G it)) (hp : ∀ (s : Shared) (H : Hp) (C : Addr) (cl : List (Str × Addr)) (fp : List Addr), PTs (X.blk s H scope (compEnvC scope cl C X.env) fp) ifs tt) (hc : OkT X noW tt (wpE T.G ec)) (he : BOkE X scope elt (wpE T.G ee)) :
    OkS X W (tS X (.Assign [.Name y py] (.ListComp elt [⟨tg, iter, ifs, 0⟩] scope pos) spos)) (wpS T.G (.asg i (.comp ee own t it ec))) := by
  have hyl : sc.names.lookup y = some .local := by
    simp only [swapB, Bool.and_eq_true, beq_iff_eq] at hsw
    exact hsw.1.1
  have := OkS.s (okR_asg (i := i) (okR_comp (W := W) g htg hin hi hc he)) (ps_setLc (py := py) (spos := spos) (pos := pos) (g := gTg X.K t) (te := bE X scope elt) g.calm (by rw [g.n]; exact g.nd) (by rw [g.n]; exact hN) (by rw [g.sc]; exact hyl)
    (by rw [swapB_ok (by rw [g.sc]; exact hk) rfl, g.sc, hsw]) (pI tg iter) (blkOk_by (by rw [g.n, g.sc]; exact hb)) (fun sB HB C cl fp => pg_tg (g.blk scope sB HB C cl fp) htg) hp
    (fun sB HB C cl fp => ⟨fun pins s2 σ2 H2 Q2 I h => h sB HB C cl fp pins s2 I⟩) (fold_plain hs _))
  exact fun s k hw => this s k (by simpa only [wpS, Ks.cas_eq] using hw)
theorem ok_setLc (g : Good T X sc N fb) (hk : sc.kind = .function) (hN : N[i]? = some y) (hsw : swapB sc y py (.ListComp elt [⟨tg, iter, [], 0⟩] scope pos) = true) (hb : blkC N sc scope own = true) (htg : tgB (relS scope sc) N (fbB scope) tg t = true) (hin : t.ix.all (fun i => decide (i ∈ own.map (·.2))) = true) (hs : notSet iter = true)
    (hi : OkI X W tg iter (wpI T.G it)) (he : BOkE X scope elt (wpE T.G ee)) : OkS X W (tS X (.Assign [.Name y py] (.ListComp elt [⟨tg, iter, [], 0⟩] scope pos) spos)) (wpS T.G (.asg i (.comp ee own t it (.bl true)))) :=
  ok_setLcG g hk hN hsw hb htg hin hs hi (fun _ _ _ _ _ => pts_nil) okT_yes he
theorem ok_setLcIf (g : Good T X sc N fb) (hk : sc.kind = .function) (hN : N[i]? = some y) (hsw : swapB sc y py (.ListComp elt [⟨tg, iter, [c], 0⟩] scope pos) = true) (hb : blkC N sc scope own = true) (htg : tgB (relS scope sc) N (fbB scope) tg t = true) (hin : t.ix.all (fun i => decide (i ∈ own.map (·.2))) = true) (hs : notSet iter = true)
    (hi : OkI X W tg iter (wpI T.G it)) (hc : BOkT X scope c (wpE T.G ec)) (he : BOkE X scope elt (wpE T.G ee)) : OkS X W (tS X (.Assign [.Name y py] (.ListComp elt [⟨tg, iter, [c], 0⟩] scope pos) spos)) (wpS T.G (.asg i (.comp ee own t it ec))) :=
  ok_setLcG g hk hN hsw hb htg hin hs hi (fun sB HB C cl fp => pts_one ⟨fun pins s2 σ2 H2 Q2 I h => h sB HB C cl fp pins s2 I⟩) (okT_b hc) he
end
end DL

set_option maxHeartbeats 2000000
namespace DL
open PySem PySem.Spec PyProof.Rows L2

/-! ### slices of tuples with a step -/
/-- the items of xs[lo::c] -/
def stepL {α : Type} (xs : List α) (lo : Option Int) (c : Int) : List α :=
  (List.range (Builtin.Slice.slicePlaces (Builtin.Slice.sliceAdjust lo none c (xs.length : Int)).1 (Builtin.Slice.sliceAdjust lo none c (xs.length : Int)).2 c)).filterMap
    fun (k : Nat) => xs[((Builtin.Slice.sliceAdjust lo none c (xs.length : Int)).1 + (k : Int) * c).toNat]?
theorem fm_same {α β : Type} (R : α → β → Prop) (L : List α → List β → Prop) (hn : L [] []) (hc : ∀ a b l m, R a b → L l m → L (a :: l) (b :: m)) {f : Nat → Option α} {g : Nat → Option β}
    (h : ∀ k, (f k = none ∧ g k = none) ∨ ∃ a b, f k = some a ∧ g k = some b ∧ R a b) : ∀ l : List Nat, L (l.filterMap f) (l.filterMap g)
  | [] => hn
  | k :: l => by
    rcases h k with ⟨h1, h2⟩ | ⟨a, b, h1, h2, r⟩
    · rw [List.filterMap_cons_none h1, List.filterMap_cons_none h2]
      exact fm_same R L hn hc h l
    · rw [List.filterMap_cons_some h1, List.filterMap_cons_some h2]
      exact hc _ _ _ _ r (fm_same R L hn hc h l)
theorem vals_at : ∀ {vs : List V} {us : List Value}, Vals vs us → ∀ i : Nat, (vs[i]? = none ∧ us[i]? = none) ∨ ∃ a b, vs[i]? = some a ∧ us[i]? = some b ∧ RelV a b
  | _, _, .nil, i => .inl ⟨by simp, by simp⟩
  | _, _, .cons r _, 0 => .inr ⟨_, _, rfl, rfl, r⟩
  | _, _, .cons _ t, i + 1 => by simpa using vals_at t i
theorem Vals.stepL {vs : List V} {us : List Value} (r : Vals vs us) (lo : Option Int) (c : Int) : Vals (DL.stepL vs lo c) (DL.stepL us lo c) := by
  unfold DL.stepL
  rw [r.length]
  exact fm_same RelV Vals .nil (fun _ _ _ _ a b => .cons a b) (fun k => vals_at r _) _
theorem reps_at {P : Program} {w : World} {K : PySem.W.Frag} {H : Hp} : ∀ {ds : List D} {vs : List V}, Reps P w K H ds vs → ∀ i : Nat, (ds[i]? = none ∧ vs[i]? = none) ∨ ∃ a b, ds[i]? = some a ∧ vs[i]? = some b ∧ Rep P w K H a b
  | [], _, h, i => by simp only [Reps] at h; subst h; exact .inl ⟨by simp, by simp⟩
  | d :: ds, _, h, 0 => by
    simp only [Reps] at h
    obtain ⟨v, r, rfl, h2, h3⟩ := h
    exact .inr ⟨_, _, rfl, rfl, h2⟩
  | d :: ds, _, h, i + 1 => by
    simp only [Reps] at h
    obtain ⟨v, r, rfl, h2, h3⟩ := h
    simpa using reps_at h3 i
theorem Reps.stepL {P : Program} {w : World} {K : PySem.W.Frag} {H : Hp} {ds : List D} {vs : List V} (r : Reps P w K H ds vs) (lo : Option Int) (c : Int) : Reps P w K H (DL.stepL ds lo c) (DL.stepL vs lo c) := by
  unfold DL.stepL
  rw [r.length]
  exact fm_same (Rep P w K H) (Reps P w K H) Reps.nil (fun _ _ _ _ a b => Reps.cons a b) (fun k => reps_at r _) _
section
variable {prog : Program} {w : World} {A : Around} {E : Value → Shared → Prop} {s : Shared}
theorem sliceApplied_step {sl : Addr} {vl vu vs : Value} {lo hi : Option Int} {c : Int} {n : Nat} {Q : Int × Int × Nat → Shared → Prop} (hs : s.heap.IsSliceOf sl vl vu vs) (pl : IsPart vl lo) (pu : IsPart vu hi) (ps : IsPart vs (some c)) (c0 : c ≠ 0)
    (h : Q ((Builtin.Slice.sliceAdjust lo hi c (n : Int)).1, c, Builtin.Slice.slicePlaces (Builtin.Slice.sliceAdjust lo hi c (n : Int)).1 (Builtin.Slice.sliceAdjust lo hi c (n : Int)).2 c) s) : wpAny (model prog w) A (Builtin.Slice.sliceApplied (.ref sl) (pure (n : Int))) Q E s := by
  obtain ⟨os, hos, hcs, hds⟩ := id hs
  unfold Builtin.Slice.sliceApplied Builtin.Slice.sliceFields
  refine wpAny_bind (wpAny_bind (wpAny_field hos hds (x := vl) rfl (wpAny_bind (wpAny_field hos hds (x := vu) rfl (wpAny_bind (wpAny_field hos hds (x := vs) rfl (wpAny_pure ?_)))))))
  refine wpAny_bind (HT.slicePart_ ps ?_)
  show wpAny _ _ (if (c == 0) = true then _ else _) _ _ s
  rw [if_neg (by simpa using c0)]
  refine wpAny_bind (HT.slicePart_ pl (wpAny_bind (HT.slicePart_ pu (wpAny_bind (wpAny_pure ?_)))))
  exact wpAny_pure h
theorem getItem_tuple_step {t sl : Addr} {items : Array Value} {vl vu vs : Value} {lo : Option Int} {c : Int} {Q : Value → Shared → Prop} (ht : IsTup s.heap t items) (hs : s.heap.IsSliceOf sl vl vu vs) (pl : IsPart vl lo) (pu : IsPart vu none) (ps : IsPart vs (some c)) (c0 : c ≠ 0) (c1 : c ≠ 1)
    (h : Q (.ref s.heap.objs.size) { s with heap := s.heap.push { cls := .type "tuple", data := .seq (stepL items.toList lo c).toArray } })
    (hsz : (stepL items.toList lo c).length ≤ sizeLine) : wpAny (model prog w) A (getItem (.ref t) (.ref sl)) Q E s := by
  have htake : sizeOk (.seq (stepL items.toList lo c).toArray) := by
    show (stepL items.toList lo c).toArray.size ≤ sizeLine
    rw [List.size_toArray]
    exact hsz
  obtain ⟨os, hos, hcs, hds⟩ := id hs
  have hTs : s.TypeIs (.ref sl) "slice" := ⟨os, hos, hcs⟩
  unfold getItem
  try with_reducible refine wpAny_holding ?_
  first | refine wpAny_bind (wpAny_pure ?_) | skip
  refine wpAny_bind (wpAny_sequenceKey ht.typeIs (by decide) ?_)
  refine wpAny_bind (wpAny_callSpecial?_slot (name := Str.ofString "__getitem__") ht.typeIs PyProof.Rows.slot_tuple_getitem
    (wpAny_call_entry PyProof.Rows.slot_tuple_getitem ht.typeIs entry_tuple_getitem ?_ (args_tuple_getitem _ _)))
  show wpAny _ _ (Builtin.Tuple.tupleItemsOf (.ref t) >>= _) _ _ s
  refine wpAny_bind (tupleItemsOf_ ht ?_)
  refine wpAny_bind (wpAny_typeOf hTs ?_)
  rw [if_pos (by decide)]
  refine wpAny_bind (sliceApplied_step hs pl pu ps c0 ?_)
  have e1 : ((List.range (Builtin.Slice.slicePlaces (Builtin.Slice.sliceAdjust lo none c (items.size : Int)).1 (Builtin.Slice.sliceAdjust lo none c (items.size : Int)).2 c)).filterMap fun (k : Nat) => items[((Builtin.Slice.sliceAdjust lo none c (items.size : Int)).1 + (k : Int) * c).toNat]?) = stepL items.toList lo c := by
    unfold stepL
    rw [Array.length_toList]
    congr 1
    funext k
    rw [Array.getElem?_toList]
  have hno : ¬ (((Builtin.Slice.sliceAdjust lo none c (items.size : Int)).1 == 0 && c == 1 && Builtin.Slice.slicePlaces (Builtin.Slice.sliceAdjust lo none c (items.size : Int)).1 (Builtin.Slice.sliceAdjust lo none c (items.size : Int)).2 c == items.size) = true) := by
    intro q
    rw [Bool.and_eq_true, Bool.and_eq_true] at q
    exact c1 (eq_of_beq q.1.2)
  show wpAny _ _ (if ((Builtin.Slice.sliceAdjust lo none c (items.size : Int)).1 == 0 && c == 1 && Builtin.Slice.slicePlaces (Builtin.Slice.sliceAdjust lo none c (items.size : Int)).1 (Builtin.Slice.sliceAdjust lo none c (items.size : Int)).2 c == items.size) = true then _ else _) _ _ s
  rw [if_neg hno, e1]
  first
    | exact wpAny_bind (m := Builtin.Tuple.tupleExact _) (wpAny_newObj_type (wpAny_pure ⟨_, rfl, wpAny_pure h⟩) htake)
    | exact wpAny_bind (m := Builtin.Tuple.tupleExact _) (wpAny_newObj_type (wpAny_bind (wpAny_pure (wpAny_pure ⟨_, rfl, wpAny_pure h⟩))) htake)
    | exact wpAny_bind (wpAny_bind (m := Builtin.Tuple.tupleExact _) (wpAny_newObj_type (wpAny_pure (wpAny_pure ⟨_, rfl, wpAny_pure h⟩)) htake))
    | exact wpAny_bind (wpAny_bind (m := Builtin.Tuple.tupleExact _) (wpAny_newObj_type (wpAny_pure ⟨_, rfl, wpAny_pure h⟩) htake))
end
theorem alt_range : ∀ xs : List D, (List.range ((xs.length + 1) / 2)).filterMap (fun k => xs[2 * k]?) = alt xs
  | [] => rfl
  | [x] => by
    have e : ([x].length + 1) / 2 = 1 := by simp only [List.length_cons, List.length_nil]
    rw [e, alt]
    rfl
  | x :: y :: r => by
    have e : ((x :: y :: r).length + 1) / 2 = (r.length + 1) / 2 + 1 := by simp only [List.length_cons]; omega
    have ih := alt_range r
    rw [e, List.range_succ_eq_map, List.filterMap_cons, List.filterMap_map, alt, ← ih]
    show x :: _ = x :: _
    congr 1
theorem stepL_2 (xs : List D) : stepL xs none 2 = alt xs := by
  rw [← alt_range]
  have a : Builtin.Slice.sliceAdjust none none 2 (xs.length : Int) = (0, (xs.length : Int)) := rfl
  unfold stepL
  rw [a]
  have p : Builtin.Slice.slicePlaces 0 (xs.length : Int) 2 = (xs.length + 1) / 2 := by
    unfold Builtin.Slice.slicePlaces
    rw [if_pos (by omega)]
    split <;> omega
  dsimp only
  rw [p]
  congr 1
  funext k
  congr 1
  omega
theorem stepL_12 (xs : List D) : stepL xs (some 1) 2 = alt (xs.drop 1) := by
  rw [← alt_range]
  unfold stepL
  have a : Builtin.Slice.sliceAdjust (some 1) none 2 (xs.length : Int) = (min 1 (xs.length : Int), (xs.length : Int)) := rfl
  rw [a]
  dsimp only
  have p : Builtin.Slice.slicePlaces (min 1 (xs.length : Int)) (xs.length : Int) 2 = ((xs.drop 1).length + 1) / 2 := by
    unfold Builtin.Slice.slicePlaces
    rw [if_pos (by omega), List.length_drop]
    split <;> omega
  rw [p]
  by_cases h : xs.length = 0
  · rw [List.length_eq_zero_iff] at h
    subst h
    rfl
  · congr 1
    funext k
    rw [List.getElem?_drop]
    congr 1
    omega
theorem fm_some {α : Type} {f : Nat → Option α} {g : Nat → α} : ∀ {l : List Nat}, (∀ k ∈ l, f k = some (g k)) → l.filterMap f = l.map g
  | [], _ => rfl
  | k :: l, h => by rw [List.filterMap_cons_some (h k List.mem_cons_self), List.map_cons, fm_some fun j hj => h j (List.mem_cons_of_mem _ hj)]
theorem stepL_r {α : Type} [Inhabited α] (xs : List α) : stepL xs none (-1) = xs.reverse := by
  unfold stepL
  have a : Builtin.Slice.sliceAdjust none none (-1) (xs.length : Int) = ((xs.length : Int) - 1, -1) := rfl
  rw [a]
  dsimp only
  have p : Builtin.Slice.slicePlaces ((xs.length : Int) - 1) (-1) (-1) = xs.length := by
    unfold Builtin.Slice.slicePlaces
    rw [if_neg (by omega), show (- -1 : Int) = 1 from rfl, Int.ediv_one]
    split <;> omega
  rw [p, fm_some (g := fun k => xs[xs.length - 1 - k]!)]
  · refine List.ext_getElem (by simp) fun i h1 h2 => ?_
    simp only [List.length_map, List.length_range] at h1
    rw [List.getElem_map, List.getElem_range, List.getElem_reverse, getElem!_pos xs _ (by omega)]
  · intro k hk
    rw [List.mem_range] at hk
    have e : ((xs.length : Int) - 1 + (k : Int) * -1).toNat = xs.length - 1 - k := by omega
    rw [e, getElem!_pos xs _ (by omega), List.getElem?_eq_getElem (by omega)]
theorem alt_le : ∀ xs : List D, (alt xs).length ≤ xs.length
  | [] => Nat.le_refl _
  | [_] => Nat.le_refl _
  | _ :: _ :: r => by have := alt_le r; simp only [alt, List.length_cons]; omega

/-! ### t[::2], t[1::2], t[::-1] -/
section
variable {X : Cx} {e : Expr} {te : TE} {lo : Option Expr} {st : Expr} {lov : Option Int} {c : Int} {p3 pos : Pos}
def tStepT (K : PySem.W.Frag) (lov : Option Int) (c : Int) (te : TE) : TE := fun σ H Q => te σ H fun x H1 => ∃ a xs, x = .ref a ∧ SqT K H1 a xs ∧ (DL.stepL xs lov c).length ≤ xs.length ∧ ∀ p, H1 p = none → Q (.ref p) (upd H1 p (.tup (DL.stepL xs lov c)))
theorem pe_stepT {tl tst : L2.TO} (he : L2.PE X e te) (hl : PO X lo tl) (hl2 : ∀ (σ : L2.St) (H : Hp) (Q : Option Int → Hp → Prop), Q lov H → tl σ H Q) (hs : PO X (some st) tst) (hs2 : ∀ (σ : L2.St) (H : Hp) (Q : Option Int → Hp → Prop), Q (some c) H → tst σ H Q) (c0 : c ≠ 0) (c1 : c ≠ 1)
    (hsub : ∀ (a sl : Addr), subscripted (.Slice lo none (some st) p3) false (.ref a) (.ref sl) = operate [.ref a, .ref sl] (getItem (.ref a) (.ref sl))) :
    L2.PE X (.Subscript e (.Slice lo none (some st) p3) pos) (tStepT X.K lov c te) := by
  refine ⟨fun pins s σ H Q I h => ?_⟩
  refine Subscript_ (thn (he.run pins s σ H _ I h) fun v s1 ⟨x, H1, I1, r1, q1⟩ => ?_)
  obtain ⟨a, xs, ex, hx, hlen, q⟩ := q1
  subst ex
  cases r1
  refine wpAny_Slice (thn (hl.run pins s1 σ H1 (fun o H2 => o = lov ∧ H2 = H1) I1 (hl2 _ _ _ ⟨rfl, rfl⟩)) fun vl s2 ⟨l, H2, I2, pl, el, e2⟩ => ?_)
  subst el e2
  refine thn (po_none.run pins s2 σ H2 (fun o H3 => o = none ∧ H3 = H2) I2 ⟨rfl, rfl⟩) fun vu s3 ⟨u, H3, I3, pu, eu, e3⟩ => ?_
  subst eu e3
  refine thn (hs.run pins s3 σ H3 (fun o H4 => o = some c ∧ H4 = H3) I3 (hs2 _ _ _ ⟨rfl, rfl⟩)) fun vs s4 ⟨o, H4, I4, ps, eo, e4⟩ => ?_
  subst eo e4
  have I5 : Inv X pins σ H4 { s4 with heap := s4.heap.push { cls := .type "slice", data := .fields #[vl, vu, vs] } } := I4.kept (t' := s4.toks) fun b ob q => Heap.get?_push_of_some _ q
  obtain ⟨its, r, ht, hz⟩ := I5.tuple hx
  show wpAny (model X.prog X.w) X.A (subscriptTail e (.Slice lo none (some st) p3) (.ref a) (.ref s4.heap.objs.size)) (EP X pins σ Q) X.xe { s4 with heap := s4.heap.push { cls := .type "slice", data := .fields #[vl, vu, vs] } }
  refine tail_any (ops := [.ref a, .ref s4.heap.objs.size]) ht.typeIs (PyProof.Rows.slot_tuple_getitem.lookup) ?_ (hsub _ _)
  have rs := Vals.stepL r l c
  refine getItem_tuple_step ht (Heap.IsSliceOf.new _ vl vu vs) pl pu ps c0 c1 ?_ (by rw [← rs.length]; exact Nat.le_trans hlen hz)
  refine ⟨.ref _, _, I5.laid (t' := s4.toks) (o := .tup (DL.stepL xs l c)) (fun b ob q => Heap.get?_push_of_some _ q) (Nat.le_refl _) ?_, rfl, q _ (I5.hok.fresh (Nat.le_refl _))⟩
  exact ⟨Nat.le_trans hlen hz, _, rs, IsTup.new _ _⟩
/-- x[::-1], x a list or a tuple -/
def tRev2 (K : PySem.W.Frag) (te : TE) : TE := fun σ H Q => te σ H fun x H1 => (∃ a xs, x = .ref a ∧ SqL K H1 a xs ∧ ∀ p, H1 p = none → Q (.ref p) (upd H1 p (.lst xs.reverse))) ∨ ∃ a xs, x = .ref a ∧ SqT K H1 a xs ∧ ∀ p, H1 p = none → Q (.ref p) (upd H1 p (.tup xs.reverse))
instance : Inhabited V := ⟨.non⟩
theorem pe_rev2 {k : Nat} {p1 p2 : Pos} (he : L2.PE X e te) : L2.PE X (.Subscript e (.Slice none none (some (.UnaryOp .USub (.Constant (.int 1) k p1) p2)) p3) pos) (tRev2 X.K te) := by
  refine ⟨fun pins s σ H Q I h => ?_⟩
  refine Subscript_ (thn (he.run pins s σ H _ I h) fun v s1 ⟨x, H1, I1, r1, q1⟩ => ?_)
  have hst : PO X (some (.UnaryOp .USub (.Constant (.int 1) k p1) p2)) (tPart (tUn (rU fun i => .int (-i)) (tC (.int 1)))) := po_some (pe_un un_neg pe_int)
  refine wpAny_Slice (thn (po_none.run pins s1 σ H1 (fun o H2 => o = none ∧ H2 = H1) I1 ⟨rfl, rfl⟩) fun vl s2 ⟨l, H2, I2, pl, el, e2⟩ => ?_)
  subst el e2
  refine thn (po_none.run pins s2 σ H2 (fun o H3 => o = none ∧ H3 = H2) I2 ⟨rfl, rfl⟩) fun vu s3 ⟨u, H3, I3, pu, eu, e3⟩ => ?_
  subst eu e3
  refine thn (hst.run pins s3 σ H3 (fun o H4 => o = some (-1) ∧ H4 = H3) I3 ⟨1, rfl, -1, rfl, rfl, rfl⟩) fun vs s4 ⟨o, H4, I4, ps, eo, e4⟩ => ?_
  subst eo e4
  have I5 : Inv X pins σ H4 { s4 with heap := s4.heap.push { cls := .type "slice", data := .fields #[vl, vu, vs] } } := I4.kept (t' := s4.toks) fun b ob q => Heap.get?_push_of_some _ q
  rcases q1 with ⟨a, xs, rfl, hx, q⟩ | ⟨a, xs, rfl, hx, q⟩
  · cases r1
    obtain ⟨its, r, ht, hz⟩ := I5.list hx
    have hl := r.length
    show wpAny (model X.prog X.w) X.A (subscriptTail e (.Slice none none (some (.UnaryOp .USub (.Constant (.int 1) k p1) p2)) p3) (.ref a) (.ref s4.heap.objs.size)) (EP X pins σ Q) X.xe { s4 with heap := s4.heap.push { cls := .type "slice", data := .fields #[vl, vu, vs] } }
    refine tail_any (ops := [.ref a, .ref s4.heap.objs.size]) ht.isList.typeIs (PySem.slot_list_getitem.lookup) ?_ (by with_unfolding_all rfl)
    refine wpAny_getItem_list_slice ht.isList (Heap.IsSliceOf.new _ vl vu vs) pl pu ps (by decide) ?_ (by rw [List.size_toArray]; omega)
    rw [PySem.W.krv_pick]
    refine ⟨.ref _, _, I5.laid (t' := s4.toks) (o := .lst xs.reverse) (fun b ob q => Heap.get?_push_of_some _ q) (Nat.le_refl _) ?_, rfl, q _ (I5.hok.fresh (Nat.le_refl _))⟩
    exact ⟨by rw [List.length_reverse]; exact hz, _, 0, r.reverse, Heap.get?_push_size _ rfl⟩
  · cases r1
    obtain ⟨its, r, ht, hz⟩ := I5.tuple hx
    show wpAny (model X.prog X.w) X.A (subscriptTail e (.Slice none none (some (.UnaryOp .USub (.Constant (.int 1) k p1) p2)) p3) (.ref a) (.ref s4.heap.objs.size)) (EP X pins σ Q) X.xe { s4 with heap := s4.heap.push { cls := .type "slice", data := .fields #[vl, vu, vs] } }
    refine tail_any (ops := [.ref a, .ref s4.heap.objs.size]) ht.typeIs (PyProof.Rows.slot_tuple_getitem.lookup) ?_ (by with_unfolding_all rfl)
    have rs := Vals.stepL r none (-1)
    rw [stepL_r] at rs
    have rl := rs.length
    rw [List.length_reverse] at rl
    refine getItem_tuple_step ht (Heap.IsSliceOf.new _ vl vu vs) pl pu ps (by decide) (by decide) ?_ (by rw [← rl]; exact hz)
    refine ⟨.ref _, _, I5.laid (t' := s4.toks) (o := .tup xs.reverse) (fun b ob q => Heap.get?_push_of_some _ q) (Nat.le_refl _) ?_, rfl, q _ (I5.hok.fresh (Nat.le_refl _))⟩
    exact ⟨by rw [List.length_reverse]; exact hz, _, rs, IsTup.new _ _⟩
/-- {}, to be a dict with tuple keys -/
theorem pe_dnewTO : L2.PE X (.Dict [] [] pos) (fun _ H Q => ∀ p, H p = none → Q (.ref p) (upd H p (TO X.prog X.w p [] [] []))) := ⟨fun pins s σ H Q I h =>
  wpAny_Dict_empty ⟨.ref s.heap.objs.size, _, I.laid (a := s.heap.objs.size) (o := TO X.prog X.w s.heap.objs.size [] [] []) (t' := s.toks) (fun _ _ q => Heap.get?_push_of_some _ q) (Nat.le_refl _)
    (TEnt.ok ⟨beq_eq_false_iff_ne.mpr (Ne.symm (Nat.ne_of_lt I.big)), Nat.zero_le _, rfl, rfl, [], .nil, _, #[], 0, Heap.get?_push_size _ rfl, ⟨rfl, rfl, rfl⟩, rfl, rfl, List.nodup_nil⟩), rfl, h _ (I.hok.fresh (Nat.le_refl _))⟩⟩
end
section
variable {T : Tab} {X : Cx} {sc : Scope} {N : List Str} {fb : Str → Bool} {W : WX} {a : Expr} {ea : E} {k k0 : Nat} {p0 p1 p2 p3 pos : Pos}
theorem ok_sl2 (ha : OkE X W a (wpE T.G ea)) : OkE X W (.Subscript a (.Slice none none (some (.Constant (.int 2) k p1)) p3) pos) (wpE T.G (.sl2 ea)) := by
  intro s Pp R h A0 F0 H0 F H σ Q wd q hR
  simp only [wpE] at h
  have q' : Fin X.prog X.w X.K A0 F0 H0 σ s F H Pp Q := q
  refine (pe_stepT (lov := none) (c := 2) (pE a) po_none (fun _ _ _ z => z) (po_some pe_int) (fun _ _ _ z => ⟨2, rfl, z⟩) (by decide) (by decide) (fun _ _ => by with_unfolding_all rfl)).tE ?_
  refine one (k1 := fun s1 d1 => match d1 with | .tup xs => Pp s1 (.v (.tup (alt xs))) | _ => False) ha h wd (fun v F' H' s' d aft r hk => ?_) hR
  split at hk
  · simp only [Rep] at r
    obtain ⟨p, vs, rfl, h1, t1⟩ := r
    have rs := Reps.stepL t1 none 2
    rw [stepL_2] at rs
    refine ⟨p, vs, rfl, sqT_in aft.wd.ex h1, ?_, fun p hp => q'.tup aft rs hk hp⟩
    rw [← rs.length, ← t1.length]
    exact alt_le _
  · exact hk.elim
theorem ok_sl12 (ha : OkE X W a (wpE T.G ea)) : OkE X W (.Subscript a (.Slice (some (.Constant (.int 1) k0 p0)) none (some (.Constant (.int 2) k p1)) p3) pos) (wpE T.G (.sl12 ea)) := by
  intro s Pp R h A0 F0 H0 F H σ Q wd q hR
  simp only [wpE] at h
  have q' : Fin X.prog X.w X.K A0 F0 H0 σ s F H Pp Q := q
  refine (pe_stepT (lov := some 1) (c := 2) (pE a) (po_some pe_int) (fun _ _ _ z => ⟨1, rfl, z⟩) (po_some pe_int) (fun _ _ _ z => ⟨2, rfl, z⟩) (by decide) (by decide) (fun _ _ => by with_unfolding_all rfl)).tE ?_
  refine one (k1 := fun s1 d1 => match d1 with | .tup xs => Pp s1 (.v (.tup (alt (xs.drop 1)))) | _ => False) ha h wd (fun v F' H' s' d aft r hk => ?_) hR
  split at hk
  · simp only [Rep] at r
    obtain ⟨p, vs, rfl, h1, t1⟩ := r
    have rs := Reps.stepL t1 (some 1) 2
    rw [stepL_12] at rs
    refine ⟨p, vs, rfl, sqT_in aft.wd.ex h1, ?_, fun p hp => q'.tup aft rs hk hp⟩
    rw [← rs.length, ← t1.length]
    exact Nat.le_trans (alt_le _) (by rw [List.length_drop]; omega)
  · exact hk.elim
theorem ok_slR (ha : OkE X W a (wpE T.G ea)) : OkE X W (.Subscript a (.Slice none none (some (.UnaryOp .USub (.Constant (.int 1) k p1) p2)) p3) pos) (wpE T.G (.slR ea)) := by
  intro s Pp R h A0 F0 H0 F H σ Q wd q hR
  simp only [wpE] at h
  have q' : Fin X.prog X.w X.K A0 F0 H0 σ s F H Pp Q := q
  refine (pe_rev2 (pE a)).tE ?_
  refine one (k1 := fun s1 d1 => match d1 with | .lst xs => Pp s1 (.o (.l xs.reverse)) | .tup xs => Pp s1 (.v (.tup xs.reverse)) | _ => False) ha h wd (fun v F' H' s' d aft r hk => ?_) hR
  split at hk
  · simp only [Rep] at r
    obtain ⟨p, vs, rfl, h1, t1⟩ := r
    exact .inl ⟨p, vs, rfl, SqL.of (aft.wd.ex _ _ h1), fun p hp => q'.lst aft t1.reverse hk hp⟩
  · simp only [Rep] at r
    obtain ⟨p, vs, rfl, h1, t1⟩ := r
    exact .inr ⟨p, vs, rfl, sqT_in aft.wd.ex h1, fun p hp => q'.tup aft t1.reverse hk hp⟩
  · exact hk.elim
theorem ok_dNew {t : Bool} : OkE X W (.Dict [] [] pos) (wpE T.G (.dNew t)) := by
  intro s Pp R h A0 F0 H0 F H σ Q wd q hR
  simp only [wpE] at h
  cases t with
  | false => exact pe_dnewK.tE fun p hp => q (.ref p) F (upd H p (.dK [])) s (.o (.i [] [])) ((Aft.refl wd).addH hp) ⟨p, rfl, wd.ex.free hp, ⟨[], upd_same, rfl, Reps.nil⟩, wd.notOwn hp, .inr hp, fun q hq => nomatch hq⟩ h
  | true => exact pe_dnewTO.tE fun p hp => q (.ref p) F (upd H p (TO X.prog X.w p [] [] [])) s (.o (.t [] [])) ((Aft.refl wd).addH hp) ⟨p, rfl, wd.ex.free hp, ⟨[], [], upd_same, rfl, rfl, Reps.nil, Reps.nil⟩, wd.notOwn hp, .inr hp, fun q hq => nomatch hq⟩ h
end
end DL

set_option maxHeartbeats 2000000
namespace DL
open PySem PySem.Spec PyProof.Rows L2

/-! ### d.get(k, x) -/
section
variable {X : Cx} {o e : Expr} {es : List Expr} {to : TE} {t : TA} {name : Str} {apos cpos : Pos} {T id : String} {r : V → List V → Hp → VK → Prop}
/-- a method's call: what the receiver is, said by ty -/
theorem pe_bmC {ty : V → Hp → Prop} (pa : PlainAttrs T) (slot : Slot T name id) (hty : typeOf (.builtin id) = pure (.type "method_descriptor")) (hm : MtR X id r)
    (his : ∀ pins s σ H x v, Inv X pins σ H s → RelV x v → ty x H → s.TypeIs v T ∧ ∀ b, v = .ref b → ∃ ob, s.heap.get? b = some ob ∧ ob.dict = none) (ho : L2.PE X o to) (ha : PA X (e :: es) t)
    (hbase : attributeBase o name X.env (eval o X.env) = eval o X.env)
    (hfew : ((backTo cpos (starEach (e :: es) X.env)).all (fun x => !x.1) && (backToKw cpos (keywordEach [] X.env)).all (fun x => x.1.isSome)
      && decide ((e :: es).length + ([] : List Keyword).length + (if ([] : List Keyword).isEmpty then 0 else 1) < 30)) = true)
    (hline : (apos.endLine == cpos.line) = true) (hs : starEach (e :: es) X.env = (false, eval e X.env) :: starEach es X.env) (hplain : (backTo cpos (starEach es X.env)).any (·.1) = false) :
    L2.PE X (.Call (.Attribute o name apos) (e :: es) [] cpos) (fun σ H Q => to σ H fun x H1 => ty x H1 ∧ t σ H1 fun xs H2 => r x xs H2 Q) := by
  refine ⟨fun pins s σ H Q I h => ?_⟩
  refine wpAny_Call_method_late hbase hfew hline rfl (thn (ho.run pins s σ H _ I h) fun v s1 ⟨x, H1, I1, r1, ty, q1⟩ => ?_)
  obtain ⟨h1, h2⟩ := his pins s1 σ H1 x v I1 r1 ty
  refine ⟨T, id, pa, slot, hty, h1, h2, ?_⟩
  have hA := ha.run cpos pins s1 σ H1 _ I1 q1
  rw [hs] at hA ⊢
  refine Calls.callWith_builtin (by show (false || (backTo cpos (starEach es X.env)).any (·.1)) = false; rw [hplain] <;> rfl) (Calls.evalArgs_plain ?_)
  exact thn hA fun us s2 ⟨vs, H2, I2, r2, q2⟩ => hm pins s2 σ H2 x vs v us Q I2 r1 r2 q2
/-- a dict, of ints or of tuples -/
def tyDc (X : Cx) (x : V) (H : Hp) : Prop := ∃ a, x = .ref a ∧ ((∃ kvs, Rd H a (.dK kvs)) ∨ ∃ nk as vs, Rd H a (TO X.prog X.w a nk as vs))
theorem tyDc_is : ∀ pins s σ H x v, Inv X pins σ H s → RelV x v → tyDc X x H → s.TypeIs v "dict" ∧ ∀ b, v = .ref b → ∃ ob, s.heap.get? b = some ob ∧ ob.dict = none := by
  intro pins s σ H x v I rx ⟨a, ex, h⟩
  subst ex
  cases rx
  rcases h with ⟨kvs, h⟩ | ⟨nk, as, vs, h⟩
  · obtain ⟨h1, h2, _⟩ := isD_at I (.inl ⟨kvs, h⟩)
    exact ⟨h1, h2⟩
  · obtain ⟨_, _, _, _, us, _, ob, es, ep, e1, e2, _⟩ := TO.ent I.hok h
    exact ⟨⟨ob, e1, e2.1⟩, fun b eb => by cases eb; exact ⟨ob, e1, e2.2.1⟩⟩
def rGet2 (X : Cx) : V → List V → Hp → VK → Prop := fun x xs H Q => ∃ a y z, x = .ref a ∧ xs = [y, z] ∧ ((∃ (ks : List Int) (vs : List V) (i : Int), Rd H a (.dK (kvI ks vs)) ∧ y = .int i ∧ Q ((lookL ks vs i).getD z) H) ∨
  ∃ (nk : List D) (as : List Addr) (vs : List V) (d : D), Rd H a (TO X.prog X.w a (keys nk) as vs) ∧ kOk nk = true ∧ Reps X.prog X.w X.K H nk (as.map V.ref) ∧ kOk1 d = true ∧ Rep X.prog X.w X.K H d y ∧ Q ((lookL (keys nk) vs d.key).getD z) H)
theorem relO_getD {o : Option V} {p : Option Value} {z : V} {r : Value} (h : RelO o p) (rz : RelV z r) : RelV (o.getD z) (p.getD r) := by
  cases o with
  | none => cases p with
    | none => exact rz
    | some u => exact h.elim
  | some v => cases p with
    | none => exact h.elim
    | some u => exact h
theorem mt_get (hu : X.A.units + 64 < cLine) : MtR X "dict.get" (rGet2 X) := by
  intro pins s σ H x xs v us Q I rx rs ⟨a, y, z, ex, exs, h⟩
  subst ex exs
  cases rx
  cases rs with
  | cons ry rs =>
    cases rs with
    | cons rz rs =>
      cases rs
      rcases h with ⟨ks, vs, i, hr, ey, q⟩ | ⟨nk, as, vs, d, hr, hk, rk, h1, rd, q⟩
      · subst ey
        have g : DGet H a (.int i) (lookL ks vs i) := .inl ⟨_, Sum.inl i, hr, rfl, (valV_kvI ks vs i).symm⟩
        exact d_get2 (by omega) I g ry rz fun w' s' I' rw' => ⟨_, H, I', rw', q⟩
      · obtain ⟨b, rfl⟩ := kOk1_ref rd h1
        cases ry
        obtain ⟨us', r, hs, hz, dd, l1, l2, nd⟩ := (TO.ent I.hok hr).dict I hk rk
        have hkey := rd.isKey8 I h1
        have room : (nestedKind X.prog X.w).room X.A.in1 := by show X.A.units + 1 + 8 < cLine; omega
        refine getOr_keyed room hkey hs ⟨_, dd, rfl⟩ ?_
        rw [valueAt_pairsH, atKey_zip (keys nk) as us' d.key l1 l2]
        exact ⟨_, H, I.tok _, relO_getD (lookL_vals _ _ _ _ r) rz, q⟩
end
section
variable {T : Tab} {X : Cx} {sc : Scope} {N : List Str} {fb : Str → Bool} {W : WX} {a b d : Expr} {ea eb ed : E} {pos p apos cpos : Pos} {x : Str} {i : Nat}
/-- what is one's own, asked by get -/
theorem getO_ok {F' H' : Hp} {q : Addr} {c : Own} {u z : V} {d2 d3 : D} {k : D → Prop} {Q : VK} (ex : Ex F' H') (ho : OwnAt X.prog X.w X.K F' H' q c) (hc : c.flat = true) (r2 : Rep X.prog X.w X.K F' d2 u) (r3 : Rep X.prog X.w X.K F' d3 z) (h : getD_ c.d d2 d3 k)
    (fin : ∀ v d, Rep X.prog X.w X.K F' d v → k d → Q v H') : rGet2 X (.ref q) [u, z] H' Q := by
  rw [getD__eq] at h
  cases c with
  | l xs => unfold getD_0 at h; exact h.elim
  | i ks ds =>
    obtain ⟨vs, h1, l1, t1⟩ := ho
    cases d2 <;> simp only [Own.d, getD_0] at h
    rename_i j
    simp only [Rep] at r2; subst r2
    refine ⟨q, _, z, rfl, rfl, .inl ⟨ks, vs, j, .inl h1, rfl, ?_⟩⟩
    have := lookL_reps ks ds vs j t1
    cases e1 : lookL ks ds j with
    | none =>
      cases e2 : lookL ks vs j with
      | none => rw [e1] at h; exact fin _ _ r3 h
      | some y => rw [e1, e2] at this; exact this.elim
    | some y =>
      cases e2 : lookL ks vs j with
      | none => rw [e1, e2] at this; exact this.elim
      | some w => rw [e1, e2] at this; rw [e1] at h; exact fin _ _ this h
  | t ks ds =>
    obtain ⟨as, vs, h1, l1, k1, rk, t1⟩ := ho
    cases d2 <;> simp only [Own.d, getD_0] at h
    rename_i y
    obtain ⟨hk1, h⟩ := h
    refine ⟨q, _, z, rfl, rfl, .inr ⟨ks, as, vs, _, .inl h1, k1, Reps.mono ex _ _ rk, hk1, Rep.mono ex _ _ r2, ?_⟩⟩
    have := lookL_reps (keys ks) ds vs (D.tup y).key t1
    cases e1 : lookL (keys ks) ds (D.tup y).key with
    | none =>
      cases e2 : lookL (keys ks) vs (D.tup y).key with
      | none => rw [e1] at h; exact fin _ _ r3 h
      | some y => rw [e1, e2] at this; exact this.elim
    | some y =>
      cases e2 : lookL (keys ks) vs (D.tup _).key with
      | none => rw [e1, e2] at this; exact this.elim
      | some w => rw [e1, e2] at this; rw [e1] at h; exact fin _ _ this h
  | n qs ks cs => cases hc
/-- a frozen dict, asked by get -/
theorem getF_ok {F' H' : Hp} {v u z : V} {d1 d2 d3 : D} {k : D → Prop} {Q : VK} (ex : Ex F' H') (r1 : Rep X.prog X.w X.K F' d1 v) (r2 : Rep X.prog X.w X.K F' d2 u) (r3 : Rep X.prog X.w X.K F' d3 z) (h : getD_ d1 d2 d3 k)
    (fin : ∀ v d, Rep X.prog X.w X.K F' d v → k d → Q v H') : rGet2 X v [u, z] H' Q := by
  rw [getD__eq] at h
  unfold getD_0 at h
  split at h
  · rename_i ks ds j
    simp only [Rep] at r1 r2
    obtain ⟨q, o, vs, rfl, h1, l1, t1⟩ := r1
    subst r2
    refine ⟨q, _, z, rfl, rfl, .inl ⟨ks, vs, j, .inr ⟨o, ex _ _ h1⟩, rfl, ?_⟩⟩
    have := lookL_reps ks ds vs j t1
    cases e1 : lookL ks ds j with
    | none =>
      cases e2 : lookL ks vs j with
      | none => rw [e1] at h; exact fin _ _ r3 h
      | some y => rw [e1, e2] at this; exact this.elim
    | some y =>
      cases e2 : lookL ks vs j with
      | none => rw [e1, e2] at this; exact this.elim
      | some w => rw [e1, e2] at this; rw [e1] at h; exact fin _ _ this h
  · rename_i ks ds y
    obtain ⟨hk1, h⟩ := h
    simp only [Rep] at r1
    obtain ⟨q, o, as, vs, rfl, h1, l1, k1, rk, t1⟩ := r1
    refine ⟨q, _, z, rfl, rfl, .inr ⟨ks, as, vs, _, .inr ⟨o, ex _ _ h1⟩, k1, Reps.mono ex _ _ rk, hk1, Rep.mono ex _ _ r2, ?_⟩⟩
    have := lookL_reps (keys ks) ds vs (D.tup y).key t1
    cases e1 : lookL (keys ks) ds (D.tup y).key with
    | none =>
      cases e2 : lookL (keys ks) vs (D.tup y).key with
      | none => rw [e1] at h; exact fin _ _ r3 h
      | some y => rw [e1, e2] at this; exact this.elim
    | some y =>
      cases e2 : lookL (keys ks) vs (D.tup _).key with
      | none => rw [e1, e2] at this; exact this.elim
      | some w => rw [e1, e2] at this; rw [e1] at h; exact fin _ _ this h
  · exact h.elim
theorem ok_geto (g : Good T X sc N fb) (hN : N[i]? = some x) (hv : visB sc x = true) (hx : okNm x = true) (hl : lineB apos cpos = true) (h1 : notStar a = true) (h2 : notStar b = true) (ha : OkE X W a (wpE T.G ea)) (hb : OkE X W b (wpE T.G eb)) :
    OkE X W (.Call (.Attribute (.Name x p) "get" apos) [a, b] [] cpos) (wpE T.G (.geto i ea eb)) := by
  intro s Pp R h A0 F0 H0 F H σ Q wd q hR
  simp only [wpE] at h
  have q' : Fin X.prog X.w X.K A0 F0 H0 σ s F H Pp Q := q
  obtain ⟨hd, h⟩ := h
  have st : noStars [a, b] = true := by simp [noStars, h1, h2]
  refine (pe_bmC (ty := tyDc X) PySem.F.plainAttrs_dict PySem.F.slot_dict_get PySem.F.type_dict_get (mt_get (by have := g.room.un; omega)) tyDc_is (pvar g hN hv hx) (pa_cons (pE a) (pa_cons (pE b) pa_nil (star_of h2)) (star_of h1)) rfl (few_of st (by simp)) hl (star_of h1) (noAny (by simp [noStars, h2]))).tE ?_
  have ho : ∃ q0, σ[i]? = some (some (V.ref q0)) ∧ tyDc X (.ref q0) H := by
    unfold hasDct at hd
    split at hd
    · rename_i e
      obtain ⟨v, e1, p0, rfl, _, _, ⟨vs, h3, _⟩, _⟩ := wd.sl i _ e
      exact ⟨p0, e1, p0, rfl, .inl ⟨_, .inl h3⟩⟩
    · rename_i e
      obtain ⟨v, e1, p0, rfl, _, _, ⟨as, vs, h3, _⟩, _⟩ := wd.sl i _ e
      exact ⟨p0, e1, p0, rfl, .inr ⟨_, _, _, .inl h3⟩⟩
    · rename_i e
      obtain ⟨v, e1, r⟩ := wd.sl i _ e
      simp only [SlOk, Rep] at r
      obtain ⟨p0, o, vs, rfl, h3, _⟩ := r
      exact ⟨p0, e1, p0, rfl, .inl ⟨_, .inr ⟨o, wd.ex _ _ h3⟩⟩⟩
    · rename_i e
      obtain ⟨v, e1, r⟩ := wd.sl i _ e
      simp only [SlOk, Rep] at r
      obtain ⟨p0, o, as, vs, rfl, h3, _⟩ := r
      exact ⟨p0, e1, p0, rfl, .inr ⟨_, _, _, .inr ⟨o, wd.ex _ _ h3⟩⟩⟩
    · exact hd.elim
  obtain ⟨q0, e0, ty⟩ := ho
  refine ⟨_, e0, ty, ?_⟩
  refine two (Q := fun u z H' => rGet2 X (.ref q0) [u, z] H' Q) (k2 := fun s3 d2 d3 => atO s3 i fun c => getD_ c.d d2 d3 fun d => Pp s3 (.v d)) ha hb h wd (fun u z F' H' s' d2 d3 aft r2 r3 hk => ?_) hR
  obtain ⟨c, hfl, hk, ⟨p1, e1, hc⟩ | hc⟩ := atO_at aft.wd e0 hk
  · cases e1
    exact getO_ok aft.wd.ex hc hfl r2 r3 hk fun v d rv hd => q'.v aft rv hd
  · exact getF_ok aft.wd.ex hc r2 r3 hk fun v d rv hd => q'.v aft rv hd
theorem isDct_ty {F' H' : Hp} {v : V} {d1 : D} (ex : Ex F' H') (r1 : Rep X.prog X.w X.K F' d1 v) (h : isDctD d1) : tyDc X v H' := by
  cases d1 <;> first | exact h.elim | skip
  · simp only [Rep] at r1
    obtain ⟨q, o, vs, rfl, h1, _⟩ := r1
    exact ⟨q, rfl, .inl ⟨_, .inr ⟨o, ex _ _ h1⟩⟩⟩
  · simp only [Rep] at r1
    obtain ⟨q, o, as, vs, rfl, h1, _⟩ := r1
    exact ⟨q, rfl, .inr ⟨_, _, _, .inr ⟨o, ex _ _ h1⟩⟩⟩
/-- no call without arguments -/
def plainO (e : Expr) : Bool := match e with | .Name .. => true | .Subscript .. => true | _ => false
theorem plainO_ok {e : Expr} (h : plainO e = true) {n : Str} {env : Env} : attributeBase e n env (eval e env) = eval e env := by
  cases e <;> first | rfl | cases h
theorem ok_get (g : Good T X sc N fb) (hp : plainO d = true) (hl : lineB apos cpos = true) (h1 : notStar a = true) (h2 : notStar b = true) (hd : OkE X W d (wpE T.G ed)) (ha : OkE X W a (wpE T.G ea)) (hb : OkE X W b (wpE T.G eb)) :
    OkE X W (.Call (.Attribute d "get" apos) [a, b] [] cpos) (wpE T.G (.get ed ea eb)) := by
  intro s Pp R h A0 F0 H0 F H σ Q wd q hR
  simp only [wpE] at h
  have q' : Fin X.prog X.w X.K A0 F0 H0 σ s F H Pp Q := q
  have st : noStars [a, b] = true := by simp [noStars, h1, h2]
  refine (pe_bmC (ty := tyDc X) PySem.F.plainAttrs_dict PySem.F.slot_dict_get PySem.F.type_dict_get (mt_get (by have := g.room.un; omega)) tyDc_is (pE d) (pa_cons (pE a) (pa_cons (pE b) pa_nil (star_of h2)) (star_of h1)) (plainO_ok hp) (few_of st (by simp)) hl (star_of h1) (noAny (by simp [noStars, h2]))).tE ?_
  refine one (Q := fun v H1 => tyDc X v H1 ∧ tE X a σ H1 fun u H2 => tE X b σ H2 fun z H3 => rGet2 X v [u, z] H3 Q) (k1 := fun s1 d1 => isDctD d1 ∧ wpE T.G ea s1 (fun s2 r2 => r2.d fun d2 => wpE T.G eb s2 (fun s3 r3 => r3.d fun d3 => getD_ d1 d2 d3 fun d => Pp s3 (.v d)) R) R) hd h wd (fun v F1 H1 s1 d1 aft1 r1 hk1 => ?_) hR
  refine ⟨isDct_ty aft1.wd.ex r1 hk1.1, ?_⟩
  refine two (Q := fun u z H' => rGet2 X v [u, z] H' Q) (k2 := fun s3 d2 d3 => getD_ d1 d2 d3 fun d => Pp s3 (.v d)) ha hb hk1.2 aft1.wd (fun u z F' H' s' d2 d3 aft r2 r3 hk => ?_) (later aft1 hR)
  exact getF_ok aft.wd.ex (Rep.mono aft.st.ex _ _ r1) r2 r3 hk fun v d rv hd => q'.v (aft1.trans aft) rv hd
/-- d.get(k, {}) -/
theorem mt_getE (hu : X.A.units + 64 < cLine) : MtR X "dict.get" (fun x xs H Q => ∃ y p, xs = [y, .ref p] ∧ H p = some (TO X.prog X.w p [] [] []) ∧ ∀ od, rGet2 X x xs (upd H p (.frz od (TO X.prog X.w p [] [] []))) Q) := by
  intro pins s σ H x xs v us Q I rx rs ⟨y, p, exs, hp, h⟩
  obtain ⟨od, I'⟩ := I.lock hp trivial
  exact mt_get hu pins s σ _ x xs v us Q I' rx rs (h od)
theorem ok_getE {p1 : Pos} (g : Good T X sc N fb) (hp : plainO d = true) (hl : lineB apos cpos = true) (h1 : notStar a = true) (hd : OkE X W d (wpE T.G ed)) (ha : OkE X W a (wpE T.G ea)) :
    OkE X W (.Call (.Attribute d "get" apos) [a, .Dict [] [] p1] [] cpos) (wpE T.G (.getE ed ea)) := by
  intro s Pp R h A0 F0 H0 F H σ Q wd q hR
  simp only [wpE] at h
  have q' : Fin X.prog X.w X.K A0 F0 H0 σ s F H Pp Q := q
  have st : noStars [a, .Dict [] [] p1] = true := by simp only [noStars, List.all_cons, List.all_nil, h1]; rfl
  refine (pe_bmC (ty := tyDc X) PySem.F.plainAttrs_dict PySem.F.slot_dict_get PySem.F.type_dict_get (mt_getE (by have := g.room.un; omega)) tyDc_is (pE d) (pa_cons (pE a) (pa_cons pe_dnewTO pa_nil (star_of rfl)) (star_of h1)) (plainO_ok hp) (few_of st (by simp)) hl (star_of h1) (noAny rfl)).tE ?_
  refine one (Q := fun v H1 => tyDc X v H1 ∧ tE X a σ H1 fun u H2 => ∀ p, H2 p = none → ∃ y p', [u, V.ref p] = [y, .ref p'] ∧ (upd H2 p (TO X.prog X.w p [] [] [])) p' = some (TO X.prog X.w p' [] [] []) ∧ ∀ od, rGet2 X v [u, V.ref p] (upd (upd H2 p (TO X.prog X.w p [] [] [])) p' (.frz od (TO X.prog X.w p' [] [] []))) Q)
    (k1 := fun s1 d1 => isDctD d1 ∧ wpE T.G ea s1 (fun s2 r2 => r2.d fun d2 => getD_ d1 d2 (.dT [] []) fun d => Pp s2 (.v d)) R) hd h wd (fun v F1 H1 s1 d1 aft1 r1 hk1 => ?_) hR
  refine ⟨isDct_ty aft1.wd.ex r1 hk1.1, ?_⟩
  refine one (Q := fun u H2 => ∀ p, H2 p = none → ∃ y p', [u, V.ref p] = [y, .ref p'] ∧ (upd H2 p (TO X.prog X.w p [] [] [])) p' = some (TO X.prog X.w p' [] [] []) ∧ ∀ od, rGet2 X v [u, V.ref p] (upd (upd H2 p (TO X.prog X.w p [] [] [])) p' (.frz od (TO X.prog X.w p' [] [] []))) Q)
    (k1 := fun s2 d2 => getD_ d1 d2 (.dT [] []) fun d => Pp s2 (.v d)) ha hk1.2 aft1.wd (fun u F2 H2 s2 d2 aft2 r2 hk => ?_) (later aft1 hR)
  intro p hp
  refine ⟨u, p, rfl, upd_same, fun od => ?_⟩
  rw [upd_upd]
  have aft3 := (aft1.trans aft2).add (o := .frz od (TO X.prog X.w p [] [] [])) hp
  have e2 : Ex F2 (upd F2 p (.frz od (TO X.prog X.w p [] [] []))) := Ex.new (aft2.wd.ex.free hp)
  refine getF_ok aft3.wd.ex (Rep.mono (aft2.st.ex.trans e2) _ _ r1) (Rep.mono e2 _ _ r2) ?_ hk fun v d rv hd => q'.v aft3 rv hd
  rw [Rep]
  exact ⟨p, od, [], [], rfl, upd_same, rfl, rfl, Reps.nil, Reps.nil⟩
/-- k in one's own dict -/
theorem inO_ok (g : Good T X sc N fb) {neg : Bool} {F' H' : Hp} {q : Addr} {c : Own} {u : V} {d1 : D} {k : Bool → Prop} {Q : VK} (ex : Ex F' H') (ho : OwnAt X.prog X.w X.K F' H' q c) (hc : c.flat = true) (r1 : Rep X.prog X.w X.K F' d1 u) (h : inD neg d1 c.d k) (fin : ∀ b, k b → Q (.bl b) H') :
    rC X (compareOp (if neg then .NotIn else .In)) u (.ref q) H' Q := by
  rw [inD_eq] at h
  cases c with
  | l xs =>
    obtain ⟨vs, h1, t1⟩ := ho
    unfold inD0 at h
    have a2 : Dp X.K H' (.ref q) (.list (pys xs)) := .lst (SqL.of h1) (Reps.dp xs vs (Reps.mono ex _ _ t1) (by have := h.2.1.1; simpa only [D.flat] using this))
    have s2 : SeqAt.shaped (.list (pys xs)) = true := by have := h.2.1.shaped; simpa only [D.py] using this
    cases neg with
    | false => exact toC (op_inD g.u65) ⟨_, _, r1.dpm ex h.1.1, a2, h.1.shaped, s2, fin _ h.2.2⟩
    | true => exact toC (op_notInD g.u65) ⟨_, _, r1.dpm ex h.1.1, a2, h.1.shaped, s2, fin _ h.2.2⟩
  | i ks ds =>
    obtain ⟨vs, h1, l1, t1⟩ := ho
    unfold inD0 asI at h
    dsimp only at h
    split at h
    · simp only [Rep] at r1
      subst r1
      exact i_in g.u64 (.inl h1) (l1.trans t1.length) (fin _ h)
    · exact h.elim
  | t ks ds =>
    obtain ⟨as, vs, h1, l1, k1, rk, t1⟩ := ho
    unfold inD0 at h
    exact t_in g.u64 (.inl h1) k1 (Reps.mono ex _ _ rk) h.1 (Rep.mono ex _ _ r1) (fin _ h.2)
  | n qs ks cs => cases hc
theorem ok_ino (g : Good T X sc N fb) {neg : Bool} (hN : N[i]? = some x) (hv : visB sc x = true) (hx : okNm x = true) (ha : OkE X W a (wpE T.G ea)) : OkR X W (tOp (rC X (compareOp (if neg then .NotIn else .In))) (tE X a) (tVar i)) (wpE T.G (.ino neg ea i)) := by
  intro s Pp R h A0 F0 H0 F H σ Q wd q hR
  simp only [wpE] at h
  have q' : Fin X.prog X.w X.K A0 F0 H0 σ s F H Pp Q := q
  refine one (Q := fun v H1 => tVar i σ H1 fun u H2 => rC X (compareOp (if neg then .NotIn else .In)) v u H2 Q) (k1 := fun s1 d1 => atO s1 i fun c => inD neg d1 c.d fun t => Pp s1 (.v (.bl t))) ha h wd (fun v F1 H1 s1 d1 aft r hk => ?_) hR
  obtain ⟨o, ho⟩ := atO_has aft.wd hk
  refine ⟨o, ho, ?_⟩
  obtain ⟨c, hfl, hk, ⟨p1, rfl, hc⟩ | hc⟩ := atO_at aft.wd ho hk
  · exact inO_ok g aft.wd.ex hc hfl r hk fun b hb => q'.bl aft hb
  · exact inD_ok g aft.wd.ex r hc hk fun b hb => q'.bl aft hb
end
end DL

set_option maxHeartbeats 2000000
namespace DL
open PySem PySem.Spec PyProof.Rows L2 PySem.Calls PyProof.V

/-! ### d != {} -/
section
variable {prog : Program} {w : World} {A : Around} {E : Value → Shared → Prop} {s : Shared}
theorem same_empty {nm : String} {a b : Addr} {oa ob : Obj} {es : Array DictEntry} {ep ep' : Nat} {Q : Bool → Shared → Prop} (ha : (a == sysModules) = false) (hb : (b == sysModules) = false)
    (hoa : s.heap.get? a = some oa) (hda : oa.data = .dict es ep) (hob : s.heap.get? b = some ob) (hdb : ob.data = .dict #[] ep') (h : Q (es.size == 0) s) :
    wpAny (model prog w) A (Builtin.Dict.samePairs nm a b) Q E s := by
  unfold Builtin.Dict.samePairs Builtin.Dict.showsAll
  rw [if_neg (show ¬ (a == sysModules) = true by rw [ha]; exact Bool.false_ne_true), if_neg (show ¬ (b == sysModules) = true by rw [hb]; exact Bool.false_ne_true)]
  refine wpAny_bind (wpAny_pure (wpAny_bind (wpAny_pure ?_)))
  refine wpAny_bind (wpAny_dictEntries hoa hda ?_)
  dsimp only
  refine wpAny_bind (wpAny_dictEntries hob hdb ?_)
  by_cases hsz : es.size = 0
  case neg =>
    rw [if_pos (by simpa using hsz)]
    have hbf : (es.size == 0) = false := by simpa using hsz
    rw [hbf] at h
    exact wpAny_bind (wpAny_rule (wpAny_pure h))
  case pos =>
    have h' : Q true s := by simpa [hsz] using h
    rw [if_neg (by rw [hsz]; simp)]
    refine wpAny_bind (wpAny_dictEpoch hoa hda ?_)
    refine wpAny_bind ?_
    rw [Std.Legacy.Range.forIn_eq_forIn_range']
    simp only [Std.Legacy.Range.size, Nat.sub_zero, Nat.add_sub_cancel, Nat.div_one, hsz, List.range'_zero]
    first
      | exact wpAny_pure (wpAny_pure h')
      | exact wpAny_rule (wpAny_pure (wpAny_pure h'))
theorem ne_empty {a b : Addr} {oa ob : Obj} {es : Array DictEntry} {ep ep' : Nat} {Q : Value → Shared → Prop} (ha : (a == sysModules) = false) (hb : (b == sysModules) = false)
    (hoa : s.heap.get? a = some oa) (hca : oa.ExactDict) (hda : oa.data = .dict es ep) (hob : s.heap.get? b = some ob) (hcb : ob.ExactDict) (hdb : ob.data = .dict #[] ep') (hu : A.units < cLine) (h : Q (.bool (!(es.size == 0))) s) :
    wpAny (model prog w) A (compareOp .NotEq (.ref a) (.ref b)) Q E s := by
  have ta : s.TypeIs (.ref a) "dict" := ⟨oa, hoa, hca.1⟩
  have tb : s.TypeIs (.ref b) "dict" := ⟨ob, hob, hcb.1⟩
  refine wpAny_richCompare_same_room (op := .NotEq) ta tb PySem.F.slot_dict_ne (wpAny_call_entry PySem.F.slot_dict_ne ta PySem.F.entry_dict_ne ?_ (PySem.F.args_dict_ne_2 _ _)) hu
  show wpAny _ _ (Builtin.Dict.dictSlotArgs "__ne__" ⟨[.ref a, .ref b], []⟩ >>= _) _ _ s
  refine wpAny_bind ?_
  unfold Builtin.Dict.dictSlotArgs
  refine wpAny_bind (wpAny_notOrdered_dict ta ?_)
  show wpAny _ _ (pure (Value.ref a, Value.ref b)) _ _ s
  refine wpAny_pure ?_
  refine wpAny_bind (wpAny_isInstance (T := "dict") tb PySem.F.sub_dict_dict ?_)
  simp only [Bool.not_true, Bool.false_eq_true, if_false]
  refine wpAny_bind (wpAny_pure (wpAny_bind (wpAny_pure ?_)))
  refine wpAny_bind (same_empty ha hb hoa hda hob hdb ?_)
  refine wpAny_pure ⟨_, rfl, ?_, ?_⟩
  · exact fun x => nomatch x
  · simpa using h
end
section
variable {T : Tab} {X : Cx} {sc : Scope} {N : List Str} {fb : Str → Bool} {W : WX} {a : Expr} {ea : E} {pos p2 : Pos}
theorem okR_nemp (g : Good T X sc N fb) (ha : OkE X W a (wpE T.G ea)) : OkR X W (tOp (rC X (compareOp .NotEq)) (tE X a) (fun _ H Q => ∀ p, H p = none → Q (.ref p) (upd H p (TO X.prog X.w p [] [] [])))) (wpE T.G (.nemp ea)) := by
  intro s Pp R h A0 F0 H0 F H σ Q wd q hR
  simp only [wpE] at h
  have q' : Fin X.prog X.w X.K A0 F0 H0 σ s F H Pp Q := q
  refine one (Q := fun v H1 => ∀ p, H1 p = none → rC X (compareOp .NotEq) v (.ref p) (upd H1 p (TO X.prog X.w p [] [] [])) Q) (k1 := fun s1 d1 => empD d1 fun b => Pp s1 (.v (.bl b))) ha h wd (fun v F1 H1 s1 d1 aft r hk => ?_) hR
  intro p hp pins s2 σ2 v2 u2 I r1 r2
  have aft2 := aft.add (o := TO X.prog X.w p [] [] []) hp
  have hb := TO.ent I.hok (.inl upd_same)
  obtain ⟨g1, _, _, _, us, _, ob, es', ep', f1, f2, f3, f4, _⟩ := hb
  have e0 : es' = #[] := by
    cases es'
    simpa using f4
  subst e0
  cases r2
  rw [empD_eq] at hk
  have hu : X.A.units < cLine := by have := g.room.un; omega
  cases d1 <;> simp only [empD0] at hk <;> first | exact hk.elim | skip
  · rename_i ks ds
    simp only [Rep] at r
    obtain ⟨a0, o, vs, rfl, h1, l1, t1⟩ := r
    cases r1
    have h1' : upd H1 p (TO X.prog X.w p [] [] []) a0 = some (.frz o (.dK (kvI ks vs))) := by
      have e := aft.wd.ex _ _ h1
      rw [upd_ne (ne_of_none e hp)]; exact e
    obtain ⟨_, _, hs, us2, kv, dd⟩ := (show ObjOk X.prog X.w _ s2.heap a0 (.frz o (.dK (kvI ks vs))) from I.hok a0 _ h1')
    obtain ⟨oa, es, ep, e1, e2, e3, _, hpa, _⟩ := dd
    have hl : es.size = ks.length := by
      have z1 : us2.length = es.size := by rw [← hpa.length]; exact Array.length_toList
      have z2 : (kvI ks vs).length = us2.length := Paired.length kv
      have z3 : (kvI ks vs).length = ks.length := by
        have := t1.length
        simp only [kvI, List.length_zip, List.length_map]; omega
      omega
    refine ne_empty hs g1 e1 e2 e3 f1 f2 f3 hu (fin_bl I (q'.bl aft2 hk) ?_)
    rw [hl]
    cases ks <;> rfl
  · rename_i ks ds
    simp only [Rep] at r
    obtain ⟨a0, o, as, vs, rfl, h1, l1, k1, rk, t1⟩ := r
    cases r1
    have h1' : upd H1 p (TO X.prog X.w p [] [] []) a0 = some (.frz o (TO X.prog X.w a0 (keys ks) as vs)) := by
      have e := aft.wd.ex _ _ h1
      rw [upd_ne (ne_of_none e hp)]; exact e
    have ho := (I.hok a0 _ h1').1
    obtain ⟨hs, e2, es, ep, e3, hl, _⟩ := TEnt.keys ho (TO.ent I.hok (.inr ⟨o, h1'⟩))
    have z1 := rk.length
    rw [List.length_map] at z1
    refine ne_empty hs g1 ho e2 e3 f1 f2 f3 hu (fin_bl I (q'.bl aft2 hk) ?_)
    rw [hl, ← z1]
    cases ks <;> rfl
theorem ok_nemp (g : Good T X sc N fb) (ha : OkE X W a (wpE T.G ea)) : OkE X W (.Compare a [.NotEq] [.Dict [] [] p2] pos) (wpE T.G (.nemp ea)) := (okR_nemp g ha).e (pe_cmpR (opC _) (pE a) pe_dnewTO rfl)
theorem okT_nemp (g : Good T X sc N fb) (ha : OkE X W a (wpE T.G ea)) : OkT X W (tT X (.Compare a [.NotEq] [.Dict [] [] p2] pos)) (wpE T.G (.nemp ea)) := (okR_nemp g ha).test.t (pt_cmpR (opC _) (pE a) pe_dnewTO rfl)
end
end DL

set_option maxHeartbeats 2000000
namespace DL
open PySem PySem.Spec PyProof.Rows L2

/-! ### {k: v} -/
section
variable {T : Tab} {X : Cx} {sc : Scope} {N : List Str} {fb : Str → Bool} {W : WX} {a b : Expr} {ea eb : E} {pos : Pos}
theorem ok_dOneT (g : Good T X sc N fb) (ha : OkE X W a (wpE T.G ea)) (hb : OkE X W b (wpE T.G eb)) : OkE X W (.Dict [some a] [b] pos) (wpE T.G (.dOne true ea eb)) := by
  intro s Pp R h A0 F0 H0 F H σ Q wd q hR
  simp only [wpE] at h
  have q' : Fin X.prog X.w X.K A0 F0 H0 σ s F H Pp Q := q
  intro pins sh I
  have hu : X.A.units + 64 < cLine := by have := g.room.un; omega
  have room : (nestedKind X.prog X.w).room X.A := by show X.A.units + 8 < cLine; omega
  have hp : H sh.heap.objs.size = none := I.hok.fresh (Nat.le_refl _)
  have I0 : Inv X pins σ (upd H sh.heap.objs.size (TO X.prog X.w sh.heap.objs.size [] [] [])) { sh with heap := sh.heap.push { cls := .type "dict", data := .dict #[] } } :=
    I.laid (a := sh.heap.objs.size) (o := TO X.prog X.w sh.heap.objs.size [] [] []) (t' := sh.toks) (fun _ _ q => Heap.get?_push_of_some _ q) (Nat.le_refl _)
      (TEnt.ok ⟨beq_eq_false_iff_ne.mpr (Ne.symm (Nat.ne_of_lt I.big)), Nat.zero_le _, rfl, rfl, [], .nil, _, #[], 0, Heap.get?_push_size _ rfl, ⟨rfl, rfl, rfl⟩, rfl, rfl, List.nodup_nil⟩)
  have hR1 : ∀ c C H', R c → X.mg c = some (.ref C) → (∀ b o, (upd H sh.heap.objs.size (TO X.prog X.w sh.heap.objs.size [] [] [])) b = some o → ¬ ownA σ s b → H' b = some o) → W (.ref C) none σ H' := fun c C H' hc hm hk => hR c C H' hc hm fun b o e n => hk b o (by
    rw [upd_ne (ne_of_none e hp)]; exact e) n
  have aft0 : Aft X.prog X.w X.K A0 F0 H0 σ s F H s F (upd H sh.heap.objs.size (TO X.prog X.w sh.heap.objs.size [] [] [])) := (Aft.refl wd).addH hp
  have asd : Aside σ s F (upd H sh.heap.objs.size (TO X.prog X.w sh.heap.objs.size [] [] [])) sh.heap.objs.size (TO X.prog X.w sh.heap.objs.size [] [] []) := ⟨upd_same, wd.ex.free hp, wd.notOwn hp⟩
  have main := two (X := X) (W := W) (a := a) (b := b) (Q := fun v u H' => ∃ F' s' d1 d2, Aft X.prog X.w X.K A0 F0 H0 σ s F (upd H sh.heap.objs.size (TO X.prog X.w sh.heap.objs.size [] [] [])) s' F' H' ∧ Rep X.prog X.w X.K F' d1 v ∧ Rep X.prog X.w X.K F' d2 u ∧ kOk1 d1 = true ∧ Pp s' (.o (.t [d1] [d2])))
    (k2 := fun s2 d1 d2 => kOk1 d1 = true ∧ Pp s2 (.o (.t [d1] [d2]))) ha hb h aft0.wd (fun v u F' H' s' d1 d2 aft r1 r2 hk => ⟨F', s', d1, d2, aft, r1, r2, hk.1, hk.2⟩) hR1
  have hshape : (evalEachOpt [some a] X.env).zip ((evalEach [b] X.env).map fun v => do let x ← v; standAt pos; pure x) = [(eval a X.env, (do let x ← eval b X.env; standAt pos; pure x))].map fun p => (some p.1, p.2) := rfl
  rw [arm_eval_Dict, hshape, dictDisplay_pairs _ (by simp) (by simp)]
  refine wpAny_bind (wpAny_standAt (wpAny_bind (wpAny_subDictH (knd := nestedKind X.prog X.w) room (by simp) ?_)))
  unfold evalPairs
  refine wpAny_bind (thn (main pins _ I0) fun kv s1 ⟨v, H1, I1, rv, m1⟩ => ?_)
  refine wpAny_bind (wpAny_holding (wpAny_bind (thn (m1 pins _ I1) fun vv s2 ⟨u, H2, I2, ru, F', s', d1, d2, aft, r1, r2, hk, hP⟩ => wpAny_bind (wpAny_standAt (wpAny_pure ?_)))))
  unfold evalPairs
  refine wpAny_bind (wpAny_holding (wpAny_pure (wpAny_pure ?_)))
  have asd2 := asd.step aft
  obtain ⟨b0, rfl⟩ := kOk1_ref r1 hk
  cases rv
  obtain ⟨us, r, hs, _, dd, _, _, nd⟩ := (TO.ent I2.hok (.inl asd2.at_)).dict (ks := []) I2 rfl Reps.nil
  refine ⟨[(d1.key, b0, vv)], ⟨rfl, rfl, (Rep.mono aft.wd.ex _ _ r1).isKey8 I2 hk, trivial⟩, by simpa using dd, fun h' tk dd' hs' => wpAny_pure ?_⟩
  obtain ⟨o, es, ep, g1, g2, g3, g4, g5, g6⟩ := dd'
  refine ⟨.ref sh.heap.objs.size, _, d_write I2 (ob := TO X.prog X.w sh.heap.objs.size (keys [d1]) [b0] [u]) (by rw [asd2.at_]; exact True.intro) hs' ⟨o, g1⟩ (TEnt.ok ⟨hs, by rw [sizeLine_eq]; simp [keys], rfl, rfl, [vv], .cons ru .nil, o, es, ep, g1, g2, g3, g4, by simp [keys]⟩), rfl,
    q _ _ _ _ (.o (.t [d1] [d2])) (Aft.aside wd (aft0.trans aft) asd2 hp) ⟨_, rfl, asd2.fr, ⟨[b0], [u], upd_same, rfl, by simp [kOk, hk], Reps.cons r1 Reps.nil, Reps.cons r2 Reps.nil⟩, asd2.no, .inr hp, fun q hq => nomatch hq⟩ hP⟩
end
end DL

set_option maxHeartbeats 2000000
namespace DL
open PySem PySem.Spec PyProof.Rows L2

/-! ### finite maps, by places -/
section
variable {κ α β : Type} [DecidableEq κ]
theorem lookL_at : ∀ {ks : List κ} {vs : List α} {k : κ} {v : α}, lookL ks vs k = some v → ∃ i : Nat, ks[i]? = some k ∧ vs[i]? = some v
  | [], _, _, _, h => by simp [lookL] at h
  | _ :: _, [], _, _, h => by simp [lookL] at h
  | a :: ks, b :: vs, k, v, h => by
    by_cases c : a = k
    · simp only [lookL, c, if_true, Option.some.injEq] at h
      exact ⟨0, by simp [c], by simp [h]⟩
    · simp only [lookL, c, if_false] at h
      obtain ⟨i, h1, h2⟩ := lookL_at h
      exact ⟨i + 1, by simpa using h1, by simpa using h2⟩
theorem lookL_nd : ∀ {ks : List κ} {us : List β} {i : Nat} {k : κ}, ks.Nodup → us.length = ks.length → ks[i]? = some k → lookL ks us k = us[i]?
  | [], _, _, _, _, _, h => by simp at h
  | a :: ks, [], _, _, _, l, _ => by simp at l
  | a :: ks, u :: us, 0, k, nd, l, h => by
    simp only [List.getElem?_cons_zero, Option.some.injEq] at h
    simp [lookL, h]
  | a :: ks, u :: us, i + 1, k, nd, l, h => by
    simp only [List.getElem?_cons_succ] at h
    have hn : ¬ a = k := fun e => (List.nodup_cons.mp nd).1 (by rw [e]; exact List.mem_of_getElem? h)
    simp only [lookL, hn, if_false, List.getElem?_cons_succ]
    exact lookL_nd (List.nodup_cons.mp nd).2 (by simpa using l) h
theorem lookL_none {ks : List κ} {vs : List α} {k : κ} (hl : ks.length = vs.length) (h : lookL ks vs k = none) : k ∉ ks := by
  have := lookL_isSome ks vs k hl
  rw [h] at this
  simpa using this.symm
theorem putVs_get {ks : List κ} {vs : List α} {k : κ} {v : α} (hk : k ∈ ks) (hl : ks.length = vs.length) (i : Nat) : (putVs ks vs k v)[i]? = if ks[i]? = some k then (vs[i]?).map (fun _ => v) else vs[i]? := by
  unfold putVs
  rw [if_pos hk, List.getElem?_map]
  by_cases c : i < ks.length
  · have c2 : i < vs.length := by omega
    have e1 : (ks.zip vs)[i]? = some (ks[i], vs[i]) := by
      rw [List.getElem?_zip_eq_some]
      exact ⟨List.getElem?_eq_getElem c, List.getElem?_eq_getElem c2⟩
    rw [e1, List.getElem?_eq_getElem c, List.getElem?_eq_getElem c2]
    simp only [Option.map_some, Option.some.injEq]
    split <;> rfl
  · have e1 : (ks.zip vs)[i]? = none := by
      rw [List.getElem?_eq_none]; rw [List.length_zip]; omega
    rw [e1, List.getElem?_eq_none (by omega : vs.length ≤ i)]
    simp
end

/-! ### a child of one's own -/
section
variable {P : Program} {w : World} {K : PySem.W.Frag} {A0 A : Addr → Prop} {F0 H0 F H F' H' : Hp} {σ : L2.St} {s s' : DSt} {i f e : Nat} {p p0 q b : Addr}
theorem Wd.drop (x : Wd P w K A0 F0 H0 F H σ s) (v : Option V) : Wd P w K A0 F0 H0 F H (σ.set e v) (s.set e none) := by
  refine ⟨by rw [List.length_set, List.length_set]; exact x.len, x.ex, x.st, fun j t h => ?_, fun j l t u q e1 e2 m1 m2 => ?_⟩
  · rcases get_set h with ⟨_, z, _⟩ | ⟨n, z⟩
    · cases z
    · obtain ⟨u, e1, ok⟩ := x.sl j t z
      exact ⟨u, by rw [List.getElem?_set_ne (Ne.symm n)]; exact e1, ok⟩
  · rcases get_set e1 with ⟨_, z, _⟩ | ⟨n1, z1⟩
    · cases z
    · rcases get_set e2 with ⟨_, z, _⟩ | ⟨n2, z2⟩
      · cases z
      · exact x.ap j l t u q z1 z2 (m1.set n1) (m2.set n2)
theorem Wd.back0 (x : Wd P w K A0 F0 H0 F H σ s) (hq : H q = none) : A0 q ∨ H0 q = none := by
  cases z : H0 q with
  | none => exact .inr rfl
  | some o =>
    by_cases n : A0 q
    · exact .inl n
    · rw [x.st.kp q o z n] at hq; cases hq
/-- the empty dict may have children -/
theorem Wd.asN (x : Wd P w K A0 F0 H0 F H σ s) (hs : s[f]? = some (some (.own (.i [] [])))) : Wd P w K A0 F0 H0 F H σ (s.set f (some (.own (.n [] [] [])))) := by
  have hl : f < s.length := (List.getElem?_eq_some_iff.mp hs).1
  refine (x.run (A := fun _ => False) (s' := s.set f (some (.own (.n [] [] [])))) x.ex (Stp.refl _ _ _) (fun _ z => z.elim) (by rw [List.length_set]) fun j => ?_).1
  by_cases c : j = f
  · subst c
    obtain ⟨v, e1, p, rfl, h1, h2, ⟨vs, h3, h4, h5⟩, _⟩ := x.sl j _ hs
    refine .inr ⟨_, _, _, hs, List.getElem?_set_self hl, fun q hq => hq.elim (fun z => .inl z) (fun z => nomatch z), e1, p, rfl, h1, h2, ⟨?_, rfl, rfl, List.nodup_nil, List.not_mem_nil, fun i q c h => by simp at h⟩, fun q hq => nomatch hq⟩
    rw [h3]; rfl
  · exact .inl ⟨List.getElem?_set_ne (Ne.symm c), fun _ _ _ _ z => z⟩
variable {qs : List Addr} {ks : List Int} {cs : List (List D × List D)} {t j : Int} {d : D}
/-- a child more -/
theorem Wd.nestA (x : Wd P w K A0 F0 H0 F H σ s) (hs : s[f]? = some (some (.own (.n qs ks cs)))) (hp : σ[f]? = some (some (V.ref p0))) (hq : H q = none) (rd : Rep P w K F d (.ref b)) (hk : kOk1 d = true) :
    Wd P w K A0 F0 H0 F (upd (upd H q (TO P w q (keys [d]) [b] [.int j])) p0 (.dK (kvI (ks ++ [t]) ((qs ++ [q]).map V.ref)))) σ (s.set f (some (.own (.n (qs ++ [q]) (ks ++ [t]) (cs ++ [([d], [.int j])]))))) := by
  have hl : f < s.length := (List.getElem?_eq_some_iff.mp hs).1
  obtain ⟨v, e1, p, rfl, h1, h2, ⟨g1, g2, g3, g4, g5, g6⟩, h4⟩ := x.sl f _ hs
  rw [hp] at e1; cases e1
  have np : q ≠ p0 := fun e => by rw [e, g1] at hq; cases hq
  have nq : q ∉ qs := fun h => by
    obtain ⟨_, o, e⟩ := OwnAt.kid (c := .n qs ks cs) ⟨g1, g2, g3, g4, g5, g6⟩ h
    rw [hq] at e; cases e
  have fq : F q = none := x.ex.free hq
  refine (x.runG f (A := fun a => a = p0) (F' := F) (fun a o h => ?_) ⟨Ex.refl F, fun a o h n => ?_, fun a o h => .inl (by rw [h]; exact nofun)⟩ (fun a z => by subst z; exact h2) (by rw [List.length_set]) fun l => ?_).1
  · rw [upd_ne (fun z => by rw [z, h1] at h; cases h), upd_ne (fun z => by rw [z, fq] at h; cases h)]; exact x.ex a o h
  · rw [upd_ne n, upd_ne (ne_of_none h hq)]; exact h
  · by_cases c : l = f
    · subst c
      refine .inr ⟨_, _, _, hs, List.getElem?_set_self hl, fun a ha => ?_, hp, p0, rfl, h1, h2, ⟨upd_same, ?_, ?_, ?_, ?_, fun i a cc z1 z2 => ?_⟩, fun a ha => ?_⟩
      · rcases ha with ha | ha
        · exact .inl (.inl ha)
        · rcases List.mem_append.mp ha with z | z
          · exact .inl (.inr z)
          · rw [List.mem_singleton] at z; subst z; exact .inr ⟨rfl, hq⟩
      · rw [List.length_append, List.length_append, g2]; rfl
      · rw [List.length_append, List.length_append, g3]; rfl
      · rw [List.nodup_append]
        exact ⟨g4, List.nodup_cons.mpr ⟨List.not_mem_nil, List.nodup_nil⟩, fun a ha b' hb e => by rw [List.mem_singleton] at hb; subst hb e; exact nq ha⟩
      · rw [List.mem_append, List.mem_singleton]
        rintro (z | z)
        · exact g5 z
        · exact np z.symm
      · by_cases ci : i < qs.length
        · rw [List.getElem?_append_left ci] at z1
          rw [List.getElem?_append_left (by omega)] at z2
          obtain ⟨k1, as, vs, k2, k3⟩ := g6 i a cc z1 z2
          have ma := List.mem_of_getElem? z1
          refine ⟨k1, as, vs, ?_, k3⟩
          rw [upd_ne (fun z => g5 (by rw [← z]; exact ma)), upd_ne (fun z => nq (by rw [← z]; exact ma))]; exact k2
        · rw [List.getElem?_append_right (by omega)] at z1
          rw [List.getElem?_append_right (by omega)] at z2
          have zi : i - qs.length = 0 := by
            cases z : i - qs.length with
            | zero => rfl
            | succ n => rw [z] at z1; simp at z1
          rw [zi] at z1
          rw [← g3, zi] at z2
          simp only [List.getElem?_cons_zero, Option.some.injEq] at z1 z2
          subst z1 z2
          exact ⟨fq, [b], [.int j], by rw [upd_ne np]; exact upd_same, rfl, by simp [kOk, hk], Reps.cons rd Reps.nil, Reps.cons (by simp only [Rep]) Reps.nil⟩
      · rcases List.mem_append.mp ha with z | z
        · exact h4 a z
        · rw [List.mem_singleton] at z; subst z; exact x.back0 hq
    · exact .inl ⟨List.getElem?_set_ne (Ne.symm c), fun t2 a e m z => c (x.ap l f t2 _ a e hs m (.inl ⟨rfl, by rw [z]; exact hp⟩))⟩
/-- a child changed -/
theorem Wd.nestB (x : Wd P w K A0 F0 H0 F H σ s) (hs : s[f]? = some (some (.own (.n qs ks cs)))) (nd : ks.Nodup) {n : Nat} (hq : qs[n]? = some q) (ht : ks[n]? = some t) {c' : List D × List D} {as : List Addr} {vs : List V} (hl : c'.1.length = c'.2.length) (hk : kOk c'.1 = true)
    (rk : Reps P w K F c'.1 (as.map V.ref)) (rv : Reps P w K F c'.2 vs) :
    Wd P w K A0 F0 H0 F (upd H q (TO P w q (keys c'.1) as vs)) σ (s.set f (some (.own (.n qs ks (putVs ks cs t c'))))) := by
  have hf : f < s.length := (List.getElem?_eq_some_iff.mp hs).1
  obtain ⟨v, hp, p0, rfl, h1, h2, ⟨g1, g2, g3, g4, g5, g6⟩, h4⟩ := x.sl f _ hs
  have mq := List.mem_of_getElem? hq
  have mt := List.mem_of_getElem? ht
  have np : p0 ≠ q := fun e => g5 (e ▸ mq)
  have fq : F q = none := (OwnAt.kid (c := .n qs ks cs) ⟨g1, g2, g3, g4, g5, g6⟩ mq).1
  refine (x.run (A := fun a => a = q) (F' := F) (fun a o h => ?_) ⟨Ex.refl F, fun a o h n => ?_, fun a o h => .inl (by rw [h]; exact nofun)⟩ (fun a z => by subst z; exact h4 a mq) (by rw [List.length_set]) fun l => ?_).1
  · rw [upd_ne (fun z => by rw [z, fq] at h; cases h)]; exact x.ex a o h
  · rw [upd_ne n]; exact h
  · by_cases c : l = f
    · subst c
      refine .inr ⟨_, _, _, hs, List.getElem?_set_self hf, fun a ha => ha, hp, p0, rfl, h1, h2, ⟨by rw [upd_ne np]; exact g1, g2, ?_, g4, g5, fun i a cc z1 z2 => ?_⟩, h4⟩
      · have := putVs_length ks cs t c' (g2.trans g3)
        unfold putKs at this
        rw [if_pos mt] at this
        omega
      · rw [putVs_get mt (g2.trans g3)] at z2
        by_cases ci : ks[i]? = some t
        · rw [if_pos ci] at z2
          have ei : i = n := (List.getElem?_inj (List.getElem?_eq_some_iff.mp ci).1 nd).mp (ci.trans ht.symm)
          subst ei
          rw [hq] at z1; cases z1
          cases z3 : cs[i]? with
          | none => rw [z3] at z2; cases z2
          | some c0 =>
            rw [z3] at z2
            simp only [Option.map_some, Option.some.injEq] at z2
            subst z2
            exact ⟨fq, as, vs, upd_same, hl, hk, rk, rv⟩
        · rw [if_neg ci] at z2
          obtain ⟨k1, as2, vs2, k2, k3⟩ := g6 i a cc z1 z2
          refine ⟨k1, as2, vs2, ?_, k3⟩
          rw [upd_ne (fun z => ?_)]
          · exact k2
          · subst z
            have ei : i = n := (List.getElem?_inj (List.getElem?_eq_some_iff.mp z1).1 g4).mp (z1.trans hq.symm)
            exact ci (by rw [ei]; exact ht)
    · exact .inl ⟨List.getElem?_set_ne (Ne.symm c), fun t2 a e m z => c (x.ap l f t2 _ a e hs m (.inr (z ▸ mq)))⟩
end

/-! ### a list read in place -/
section
variable {T : Tab} {X : Cx} {sc : Scope} {N : List Str} {fb : Str → Bool} {W : WX} {b : Expr} {eb : E} {pos p : Pos} {x : Str} {i : Nat}
theorem okR_cmpo (g : Good T X sc N fb) {op : Cp} (hb : OkE X W b (wpE T.G eb)) : OkR X W (tOp (rC X (compareOp (cpn op))) (tVar i) (tE X b)) (wpE T.G (.cmpo op i eb)) := by
  intro s Pp R h A0 F0 H0 F H σ Q wd q hR
  simp only [wpE] at h
  have q' : Fin X.prog X.w X.K A0 F0 H0 σ s F H Pp Q := q
  obtain ⟨o, ho⟩ := hasD_at h.1 wd
  refine ⟨o, ho, ?_⟩
  refine one (Q := fun u H' => rC X (compareOp (cpn op)) o u H' Q) (k1 := fun s1 d1 => atV s1 i fun d => cmpD op d d1 fun t => Pp s1 (.v (.bl t))) hb h.2 wd (fun u F' H' s' d1 aft r1 hk => ?_) hR
  unfold atV at hk
  split at hk
  · rename_i d e
    obtain ⟨v, e1, ok⟩ := aft.wd.sl i _ e
    rw [ho] at e1; cases e1
    exact cmpD_ok g aft.wd.ex ok r1 hk fun t ht => q'.bl aft ht
  · rename_i xs e
    obtain ⟨v, e1, p, rfl, hf, _, ⟨vs, hp, r⟩, _⟩ := aft.wd.sl i _ e
    rw [ho] at e1; cases e1
    have e2 : Ex F' (upd F' p (.lst vs)) := Ex.new hf
    refine cmpD_ok g (F' := upd F' p (.lst vs)) (aft.wd.ex.into hp) ?_ (Rep.mono e2 _ _ r1) hk fun t ht => q'.bl aft ht
    simp only [Rep]
    exact ⟨p, vs, rfl, upd_same, Reps.mono e2 _ _ r⟩
  · rename_i xs e
    obtain ⟨v, e1, p, rfl, hf, _, vs, hp, r⟩ := aft.wd.sl i _ e
    rw [ho] at e1; cases e1
    have e2 : Ex F' (upd F' p (.lst vs)) := Ex.new hf
    refine cmpD_ok g (F' := upd F' p (.lst vs)) (aft.wd.ex.into hp) ?_ (Rep.mono e2 _ _ r1) hk fun t ht => q'.bl aft ht
    simp only [Rep]
    exact ⟨p, vs, rfl, upd_same, Reps.mono e2 _ _ r⟩
  · exact hk.elim
theorem ok_cmpo (g : Good T X sc N fb) {op : Cp} (hs : notSet b = true) (hN : N[i]? = some x) (hv : visB sc x = true) (hx : okNm x = true) (hb : OkE X W b (wpE T.G eb)) : OkE X W (.Compare (.Name x p) [cpn op] [b] pos) (wpE T.G (.cmpo op i eb)) :=
  (okR_cmpo g hb).e (pe_cmpR (opC _) (pvar g hN hv hx) (pE b) (notSet_ok hs))
theorem okT_cmpo (g : Good T X sc N fb) {op : Cp} (hs : notSet b = true) (hN : N[i]? = some x) (hv : visB sc x = true) (hx : okNm x = true) (hb : OkE X W b (wpE T.G eb)) : OkT X W (tT X (.Compare (.Name x p) [cpn op] [b] pos)) (wpE T.G (.cmpo op i eb)) :=
  (okR_cmpo g hb).test.t (pt_cmpR (opC _) (pvar g hN hv hx) (pE b) (notSet_ok hs))
end
/-! ### what is new is frozen -/
theorem Reps.of_get {P : Program} {w : World} {K : PySem.W.Frag} {H : Hp} : ∀ {ds : List D} {vs : List V}, ds.length = vs.length → (∀ (i : Nat) (d : D) (v : V), ds[i]? = some d → vs[i]? = some v → Rep P w K H d v) → Reps P w K H ds vs
  | [], [], _, _ => Reps.nil
  | [], _ :: _, h, _ => by cases h
  | _ :: _, [], h, _ => by cases h
  | d :: ds, v :: vs, h, q => Reps.cons (q 0 d v rfl rfl) (Reps.of_get (by simpa using h) fun i d v e1 e2 => q (i + 1) d v (by simpa using e1) (by simpa using e2))
section
variable {X : Cx} {W : WX} {a e : Expr} {ea : E} {T : Tab} {pins : List (Addr × Obj)} {σ : L2.St} {sh : Shared} {A0 : Addr → Prop} {F0 H0 F H : Hp} {s : DSt} {p : Addr}
theorem tE_lock {Q Q' : VK} (h : tE X e σ H Q') (k : ∀ pins s v H1, Inv X pins σ H1 s → Q' v H1 → ∃ H2, Inv X pins σ H2 s ∧ Q v H2) : tE X e σ H Q := fun pins s I => thn (h pins s I) fun v s1 ⟨x, H1, I1, r, q⟩ => by
  obtain ⟨H2, I2, q2⟩ := k pins s1 x H1 I1 q
  exact ⟨x, H2, I2, r, q2⟩
theorem lock_kids : ∀ (qs : List Addr) (F H : Hp), Inv X pins σ H sh → Ex F H → qs.Nodup → (∀ q ∈ qs, F q = none ∧ ∃ o, H q = some o ∧ Mut (some o)) →
    ∃ F2 H2, Inv X pins σ H2 sh ∧ Ex F2 H2 ∧ Ex F F2 ∧ (∀ b, b ∉ qs → H2 b = H b ∧ F2 b = F b) ∧ ∀ q ∈ qs, ∃ od o, H q = some o ∧ F2 q = some (.frz od o)
  | [], F, H, I, ex, _, _ => ⟨F, H, I, ex, Ex.refl F, fun b _ => ⟨rfl, rfl⟩, fun q hq => by cases hq⟩
  | a :: qs, F, H, I, ex, nd, h => by
    obtain ⟨fa, o, ha, mu⟩ := h a List.mem_cons_self
    obtain ⟨na, nd⟩ := List.nodup_cons.mp nd
    obtain ⟨od, I1⟩ := I.lock ha mu
    have ne : ∀ q ∈ qs, q ≠ a := fun q hq z => na (z ▸ hq)
    obtain ⟨F2, H2, I2, ex2, ex3, k, l⟩ := lock_kids qs (upd F a (.frz od o)) (upd H a (.frz od o)) I1 (Ex.upd2 ex) nd fun q hq => by
      rw [upd_ne (ne q hq), upd_ne (ne q hq)]
      exact h q (List.mem_cons_of_mem _ hq)
    refine ⟨F2, H2, I2, ex2, (Ex.new fa).trans ex3, fun b hb => ?_, fun q hq => ?_⟩
    · simp only [List.mem_cons, not_or] at hb
      obtain ⟨k1, k2⟩ := k b hb.2
      rw [upd_ne hb.1] at k1 k2
      exact ⟨k1, k2⟩
    · rcases List.mem_cons.mp hq with rfl | hq
      · exact ⟨od, o, ha, ex3 _ _ upd_same⟩
      · obtain ⟨od2, o2, l1, l2⟩ := l q hq
        rw [upd_ne (ne q hq)] at l1
        exact ⟨od2, o2, l1, l2⟩
theorem lock_own {c : Own} (I : Inv X pins σ H sh) (ex : Ex F H) (ho : OwnAt X.prog X.w X.K F H p c) (fp : F p = none) :
    ∃ F2 H2, Inv X pins σ H2 sh ∧ Ex F2 H2 ∧ Ex F F2 ∧ (∀ b, b ≠ p → b ∉ c.kids → H2 b = H b ∧ F2 b = F b) ∧ Rep X.prog X.w X.K F2 c.d (.ref p) := by
  cases c with
  | l xs =>
    obtain ⟨vs, h1, h2⟩ := ho
    refine ⟨upd F p (.lst vs), H, I, ex.into h1, Ex.new fp, fun b hb _ => ⟨rfl, upd_ne hb⟩, ?_⟩
    simp only [Own.d, Rep]
    exact ⟨p, vs, rfl, upd_same, Reps.mono (Ex.new fp) _ _ h2⟩
  | i ks ds =>
    obtain ⟨vs, h1, h2, h3⟩ := ho
    obtain ⟨od, I1⟩ := I.lock h1 trivial
    refine ⟨upd F p _, _, I1, Ex.upd2 ex, Ex.new fp, fun b hb _ => ⟨upd_ne hb, upd_ne hb⟩, ?_⟩
    simp only [Own.d, Rep]
    exact ⟨p, od, vs, rfl, upd_same, h2, Reps.mono (Ex.new fp) _ _ h3⟩
  | t ks ds =>
    obtain ⟨as, vs, h1, h2, h3, h4, h5⟩ := ho
    obtain ⟨od, I1⟩ := I.lock h1 trivial
    refine ⟨upd F p _, _, I1, Ex.upd2 ex, Ex.new fp, fun b hb _ => ⟨upd_ne hb, upd_ne hb⟩, ?_⟩
    simp only [Own.d, Rep]
    exact ⟨p, od, as, vs, rfl, upd_same, h2, h3, Reps.mono (Ex.new fp) _ _ h4, Reps.mono (Ex.new fp) _ _ h5⟩
  | n qs ks cs =>
    obtain ⟨g1, g2, g3, g4, g5, g6⟩ := ho
    have kid : ∀ q ∈ qs, ∃ (i : Nat) (c : List D × List D), qs[i]? = some q ∧ cs[i]? = some c := fun q hq => by
      obtain ⟨i, hi, e⟩ := List.getElem_of_mem hq
      exact ⟨i, cs[i]'(by omega), by rw [List.getElem?_eq_getElem hi, e], List.getElem?_eq_getElem _⟩
    obtain ⟨F2, H2, I2, ex2, ex3, k, l⟩ := lock_kids qs F H I ex g4 fun q hq => by
      obtain ⟨i, c, e1, e2⟩ := kid q hq
      obtain ⟨k1, as, vs, k2, _⟩ := g6 i q c e1 e2
      exact ⟨k1, _, k2, trivial⟩
    obtain ⟨k1, k2⟩ := k p g5
    obtain ⟨od, I3⟩ := I2.lock (k1.trans g1) trivial
    have fp2 : F2 p = none := k2.trans fp
    have exf := ex3.trans (Ex.new (o := .frz od (.dK (kvI ks (qs.map V.ref)))) fp2)
    refine ⟨upd F2 p _, _, I3, Ex.upd2 ex2, exf, fun b hb hk => ?_, ?_⟩
    · obtain ⟨k3, k4⟩ := k b hk
      rw [upd_ne hb, upd_ne hb]
      exact ⟨k3, k4⟩
    · simp only [Own.d, Rep]
      refine ⟨p, od, qs.map V.ref, rfl, upd_same, by rw [List.length_map]; omega, Reps.of_get (by rw [List.length_map, List.length_map]; omega) fun i d v e1 e2 => ?_⟩
      rw [List.getElem?_map] at e1 e2
      cases z1 : cs[i]? with
      | none => rw [z1] at e1; cases e1
      | some c =>
        cases z2 : qs[i]? with
        | none => rw [z2] at e2; cases e2
        | some q =>
          rw [z1] at e1; rw [z2] at e2
          simp only [Option.map_some, Option.some.injEq] at e1 e2
          subst e1 e2
          obtain ⟨_, as, vs, h1, h2, h3, h4, h5⟩ := g6 i q c z2 z1
          have mq := List.mem_of_getElem? z2
          obtain ⟨od2, o, l1, l2⟩ := l q mq
          rw [h1] at l1; cases l1
          simp only [Rep]
          refine ⟨q, od2, as, vs, rfl, ?_, h2, h3, Reps.mono exf _ _ h4, Reps.mono exf _ _ h5⟩
          rw [upd_ne (fun z => g5 (by rw [← z]; exact mq))]
          exact l2
theorem ok_frz (ha : OkE X W a (wpE T.G ea)) : OkE X W a (wpE T.G (.frz ea)) := by
  intro s Pp R h A0 F0 H0 F H σ Q wd q hR
  simp only [wpE] at h
  refine tE_lock (ha s _ R h A0 F0 H0 F H σ (fun v H1 => ∃ F1 s1 r, Aft X.prog X.w X.K A0 F0 H0 σ s F H s1 F1 H1 ∧ RsOk X.prog X.w X.K (ownA σ s) H F1 H1 σ s1 v r ∧ (match r with | .v d => Pp s1 (.v d) | .o c => Pp s1 (.v c.d))) wd
    (fun v F' H' s' r aft ok hp => ⟨F', s', r, aft, ok, hp⟩) hR) fun pins sh v H1 I ⟨F1, s1, r, aft, ok, hp⟩ => ?_
  cases r with
  | v d => exact ⟨H1, I, q v F1 H1 s1 (.v d) aft ok hp⟩
  | o c =>
    obtain ⟨p, rfl, hf, ho, no, hn, hk⟩ := ok
    obtain ⟨F2, H2, I2, ex2, ex3, kp, rep⟩ := lock_own I aft.wd.ex ho hf
    have no2 : ∀ b, (b = p ∨ b ∈ c.kids) → ¬ ownA σ s1 b := fun b hb => by
      rcases hb with rfl | hb
      · exact no
      · exact (hk b hb).1
    have hn2 : ∀ b, (b = p ∨ b ∈ c.kids) → ownA σ s b ∨ H b = none := fun b hb => by
      rcases hb with rfl | hb
      · exact hn
      · exact (hk b hb).2
    have st : Stp (fun b => b = p ∨ b ∈ c.kids) F1 H1 F2 H2 := ⟨ex3, fun b o e n => by
      rw [(kp b (fun z => n (.inl z)) fun z => n (.inr z)).1]; exact e, fun b o e => by
      by_cases n : b = p ∨ b ∈ c.kids
      · exact .inr (.inr n)
      · rw [(kp b (fun z => n (.inl z)) fun z => n (.inr z)).2] at e
        exact .inl (by rw [e]; exact nofun)⟩
    have w2 : Wd X.prog X.w X.K A0 F0 H0 F2 H2 σ s1 := (aft.wd.run (s' := s1) ex2 st (fun b hb => (hn2 b hb).elim (fun z => (wd.own z).2.1) fun z => wd.back0 z) rfl fun j => .inl ⟨rfl, fun t b e m hb => no2 b hb ⟨j, t, e, m⟩⟩).1
    exact ⟨H2, I2, q _ F2 H2 s1 (.v c.d) ⟨w2, aft.st.trans st hn2, aft.sub⟩ rep hp⟩
end
end DL

set_option maxHeartbeats 2000000
namespace DL
open PySem PySem.Spec PyProof.Rows L2
/-! ### enumerate over a tuple -/
section
variable {prog : Program} {w : World} {A : Around} {E : Value → Shared → Prop} {s : Shared}
theorem meets_enumB1 {v : Value} {o : Obj} {Hh : Heap → Prop} (B : Begins v o Hh) :
    Meets (Builtin.«enumerate.__new__» ⟨[.type "enumerate", v], []⟩) (fun _ R s => Hh s.heap ∧
      R (.ok (.ret (.ref (s.heap.push o).objs.size))) { s with heap := (s.heap.push o).push { cls := .type "enumerate", data := .fields #[.none, .bool false, .ref s.heap.objs.size, rawInt 0, .none, .none] } }) :=
  .of_wp fun prog w A R s h => by
    obtain ⟨hp, g, d, tk, os⟩ := s; obtain ⟨h1, h⟩ := h
    have hsub := sub_enumerate
    have q1 : ∀ {A' : Around} {E : Value → Shared → Prop} {Q : Value → Shared → Prop}, Q (.ref hp.objs.size) ⟨hp.push o, g, d, tk, os⟩ → wpAny (model prog w) A' (pyIter v) Q E ⟨hp, g, d, tk, os⟩ :=
      fun q => B.iter prog w _ _ ⟨hp, g, d, tk, os⟩ _ h1 q
    wp_walk using q1
    refine wpAny_stack_any fun st => wpAny_pure ?_
    split
    · rename_i c _ _ _ _ _
      cases (c == Value.type "enumerate")
      · wp_walk using q1
        exact ⟨_, rfl, h⟩
      · wp_walk using q1
        exact ⟨_, rfl, h⟩
    · wp_walk using q1
      exact ⟨_, rfl, h⟩
theorem enum_begins1 {v : Value} {o : Obj} {Hh : Heap → Prop} {Q : Value → Shared → Prop} (B : Begins v o Hh) (h1 : Hh s.heap)
    (h : ∀ h', IsEnum h' (s.heap.objs.size + 1) s.heap.objs.size 0 .none → h'.get? s.heap.objs.size = some o → h'.objs.size = s.heap.objs.size + 2 →
      (∀ b o, s.heap.get? b = some o → h'.get? b = some o) → Q (.ref (s.heap.objs.size + 1)) { s with heap := h' }) :
    wpAny (model prog w) A (call (.type "enumerate") [v]) Q E s := by
  refine callType_new F.called_enumerate (by decide) (F.typeCall_enumerate_1 _) (F.newCall_enumerate_1 _) (fun obj => F.args_object_init_2 obj _) F.entry_enumerate_new
    (meets_enumB1 B) ⟨h1, ?_⟩
  have hz : (s.heap.push o).objs.size = s.heap.objs.size + 1 := Heap.size_push ..
  show _ ∧ _
  rw [hz]
  have he : IsEnum ((s.heap.push o).push { cls := .type "enumerate", data := .fields #[.none, .bool false, .ref s.heap.objs.size, rawInt 0, .none, .none] }) (s.heap.objs.size + 1) s.heap.objs.size 0 .none := by
    have := Heap.get?_push_size (s.heap.push o) (o := { cls := .type "enumerate", data := .fields #[.none, .bool false, .ref s.heap.objs.size, rawInt 0, .none, .none] }) rfl
    rw [hz] at this; exact this
  refine ⟨⟨_, he, rfl⟩, h _ he (Heap.get?_push_of_some _ (Heap.get?_push_size _ B.free)) (by rw [Heap.size_push, hz]) fun b o x => Heap.get?_push_of_some _ (Heap.get?_push_of_some _ x)⟩
end
def IteT (K : PySem.W.Frag) (a : Addr) : L2.It :=
  ⟨fun i H => ∃ (xs : List V) (x : V), SqT K H a xs ∧ xs[i]? = some x, fun i H v H' => ∃ T x, v = .ref T ∧ H T = none ∧ H' = upd H T (.tup [.int (i : Nat), x]) ∧ ∀ xs, SqT K H a xs → xs[i]? = some x, fun i H => ∃ xs : List V, SqT K H a xs ∧ xs.length = i⟩
theorem cls_ne {a b : String} (h : a ≠ b) : ¬ (Value.type a = Value.type b) := fun e => h (by injection e)
theorem enum_apart {h : Heap} {e it a : Addr} {i : Int} {old : Value} {j : Nat} {its : Array Value} (he : IsEnum h e it i old) (hit : h.IsTupleIter it a j) (p : h.IsTuple a its) : e ∉ [it, a] ∧ a ≠ it := by
  obtain ⟨o1, g1, c1, d1⟩ := hit
  obtain ⟨o2, g2, c2, d2⟩ := p
  have g3 : h.get? e = some _ := he
  refine ⟨fun m => ?_, fun z => ?_⟩
  · rcases List.mem_cons.mp m with z | m
    · subst z; rw [g3] at g1; cases g1; exact absurd c1 (cls_ne (by decide))
    · rw [List.mem_singleton] at m
      subst m; rw [g3] at g2; cases g2; exact absurd c2 (cls_ne (by decide))
  · subst z; rw [g1] at g2; cases g2; rw [c1] at c2; exact absurd c2 (cls_ne (by decide))
theorem turn_enumT {P : Program} {w : World} {K : PySem.W.Frag} {elts : List Expr} {kk : Nat} {tpos : Pos} (a e it : Addr) :
    Turn P w K (.Tuple elts kk tpos) (IteT K a) [e, it] e (fun i h => (∃ old, IsEnum h e it ((i : Nat) : Int) old) ∧ h.IsTupleIter it a i ∧ e ≠ it) where
  mem := by simp
  obj := fun i h st b hb => by
    obtain ⟨⟨old, he⟩, ⟨o, ho, hc, hd⟩, _⟩ := st
    have e' : b = e ∨ b = it := by simpa using hb
    rcases e' with z | z
    · rw [z]; exact ⟨_, he, fun v q => nomatch q⟩
    · rw [z]; exact ⟨o, ho, fun v q => by rw [hd] at q; cases q⟩
  keep := fun i h h' st k => let ⟨⟨old, he⟩, hi, hne⟩ := st; ⟨⟨old, k e (by simp) _ he⟩, hi.at fun o q => k it (by simp) o q, hne⟩
  item := by
    intro X hP hw hK hc i pins s σ H E I hf st hg
    subst hP hw hK
    obtain ⟨⟨old, he⟩, hit, hne⟩ := st
    obtain ⟨xs, x, hq, hx⟩ := hg
    obtain ⟨its, rv, p, hz⟩ := I.tuple hq
    obtain ⟨u, hu, ru⟩ := rv.get hx
    have p' : s.heap.IsTuple a its.toArray := p
    obtain ⟨ap, ne⟩ := enum_apart he hit p'
    have hel : e < s.heap.objs.size := Heap.lt_size he
    have hil : it < s.heap.objs.size := by obtain ⟨_, q, _⟩ := hit; exact Heap.lt_size q
    have hh : X.A.handled = none := I.ok.hd hc
    refine wpAny_pyNext_enum_itemC (Draws.tuple (show X.A.in1.handled = none from hh) it a ne its.toArray) he ⟨hit, p'⟩ (i := i) (by have := (List.getElem?_eq_some_iff.mp hu).1; simpa using this) hne ap fun y h' tk hy ho hs hT hsz hk => ?_
    have hy' : y = u := by
      have : its.toArray[i]? = some u := by simpa using hu
      rw [this] at hy; cases hy; rfl
    subst hy'
    refine ⟨_, rfl, wpAny_letOwnedTupleGo_enum (s := { s with heap := h', toks := tk + 1 }) ho fun h'' he' sb => ?_⟩
    have hT2 : h''.get? s.heap.objs.size = some { cls := .type "tuple", data := .seq #[.int i tk, y] } := (sb.2 _ (Nat.ne_of_gt hel)).trans hT
    have new : ObjOk X.prog X.w (upd H s.heap.objs.size (.tup [.int (i : Nat), x])) h'' s.heap.objs.size (.tup [.int (i : Nat), x]) :=
      ⟨by show 2 ≤ sizeLine; decide, [.int i tk, y], .cons ⟨_, rfl⟩ (.cons ru .nil), ⟨_, hT2, rfl, _, rfl⟩⟩
    have I1 : Inv X pins σ (upd H s.heap.objs.size (.tup [.int (i : Nat), x])) { s with heap := h'', toks := tk + 1 } :=
      I.turnedNew (ch := [e, it]) (fun b ob hb q => (sb.2 b (fun z => hb (by simp [z]))).trans (hk b ob (fun z => hb (by simp [z])) (fun z => hb (by simp [z])) q)) hf (Nat.le_refl _) new
    refine ⟨.ref s.heap.objs.size, _, I1, rfl, ⟨_, x, rfl, I.hok.fresh (Nat.le_refl _), rfl, fun ys hy => by rw [I.tuple_inj hy hq]; exact hx⟩, ⟨⟨y, ?_⟩, hs.1.at fun o q => (sb.2 it (Ne.symm hne)).trans q, hne⟩, fun b hb => ?_⟩
    · have e1 : ((i + 1 : Nat) : Int) = (i : Int) + 1 := by omega
      rw [e1]; exact he'
    · have hb' : b < s.heap.objs.size := by
        have e' : b = e ∨ b = it := by simpa using hb
        rcases e' with z | z
        · rw [z]; exact hel
        · rw [z]; exact hil
      rw [upd_ne (Nat.ne_of_lt hb')]
      exact (hf b hb).1
  done := by
    intro X hP hw hK hc i pins s σ H E I hf st hg
    subst hP hw hK
    obtain ⟨⟨old, he⟩, hit, hne⟩ := st
    obtain ⟨xs, hq, hx⟩ := hg
    obtain ⟨its, rv, p, hz⟩ := I.tuple hq
    have p' : s.heap.IsTuple a its.toArray := p
    obtain ⟨f0, f1, f2, f3, f4, f5⟩ := hf it (by simp)
    have hl := rv.length
    have hsz : its.toArray.size = i := by simp; omega
    have hh : X.A.handled = none := I.ok.hd hc
    obtain ⟨ap, ne⟩ := enum_apart he hit p'
    refine wpAny_pyNext_enum_endD (Draws.tuple (show X.A.in1.handled = none from hh) it a ne its.toArray) he ⟨by rw [hsz]; exact hit, p'⟩ fun h' eb => ⟨rfl, I.turned (t' := s.toks) (fun b o hb q => eb b o hb q) f0 f1 f3 f4 f5⟩
  self := fun A i s Q E st h => let ⟨⟨_, he⟩, _⟩ := st; wpAny_pyIter_enum he h
def iEnum2 (K : PySem.W.Frag) (ta : TA) : TI := fun σ H R => ta σ H fun vs H1 => ∃ a xs, vs = [.ref a] ∧ ((SqL K H1 a xs ∧ R (Ite K a) H1) ∨ (SqT K H1 a xs ∧ R (IteT K a) H1))
theorem pi_enum2 {X : Cx} {e : Expr} {ta : TA} {p pos tpos : Pos} {elts : List Expr} {kk : Nat} (hg : Gl X "enumerate") (hm : X.mg "enumerate" = none) (ha : PA X [e] ta) (hs : starEach [e] X.env = [(false, eval e X.env)] := by rfl) :
    PI X (.Tuple elts kk tpos) (.Call (.Name "enumerate" p) [e] [] pos) (iEnum2 X.K ta) := by
  refine ⟨fun pins s σ H R I h => ?_⟩
  refine Call_ (ld_blt I hg hm boot_enumerate (PyProof.Rows.callWith_type1 (thn (ha.run pos pins s σ H _ I h) fun us s1 ⟨vs, H1, I1, r1, q1⟩ => ?_) hs rfl))
  obtain ⟨a, xs, ex, q⟩ := q1
  subst ex
  cases r1 with
  | cons r rr =>
    cases rr
    cases r
    have far : ∀ b ∈ [s1.heap.objs.size + 1, s1.heap.objs.size], s1.heap.objs.size ≤ b := fun b hb => by
      have e' : b = s1.heap.objs.size + 1 ∨ b = s1.heap.objs.size := by simpa using hb
      rcases e' with z | z
      · rw [z]; exact Nat.le_add_right _ _
      · rw [z]; exact Nat.le_refl _
    rcases q with ⟨hq, q⟩ | ⟨hq, q⟩
    · obtain ⟨its, rv, p', hz⟩ := I1.list hq
      refine call_enumerate_list p'.isList fun h' he hit hsz hk => wpAny_pyIter_enum he ?_
      have I2 : Inv X pins σ H1 { s1 with heap := h' } := I1.kept (t' := s1.toks) hk
      exact ⟨s1.heap.objs.size + 1, [s1.heap.objs.size + 1, s1.heap.objs.size], _, _, H1, rfl, I2, turn_enum a (s1.heap.objs.size + 1) s1.heap.objs.size, ⟨⟨.none, he⟩, hit, Nat.succ_ne_self _⟩, fun b hb => I1.fpOk (far b hb) (I1.hok.fresh (far b hb)), q⟩
    · obtain ⟨its, rv, p', hz⟩ := I1.tuple hq
      refine enum_begins1 (begins_tuple a its.toArray) p' fun h' he hit hsz hk => wpAny_pyIter_enum he ?_
      have I2 : Inv X pins σ H1 { s1 with heap := h' } := I1.kept (t' := s1.toks) hk
      exact ⟨s1.heap.objs.size + 1, [s1.heap.objs.size + 1, s1.heap.objs.size], _, _, H1, rfl, I2, turn_enumT a (s1.heap.objs.size + 1) s1.heap.objs.size, ⟨⟨.none, he⟩, ⟨_, hit, rfl, rfl⟩, Nat.succ_ne_self _⟩, fun b hb => I1.fpOk (far b hb) (I1.hok.fresh (far b hb)), q⟩
section
variable {P : Program} {w : World} {K : PySem.W.Frag} {F : Hp}
theorem ito_enumT {a : Addr} {vs : List V} {ds : List D} (h : F a = some (.tup vs)) (r : Reps P w K F ds vs) : ItOk P w K F (IteT K a) (iotaD ds) := by
  have l0 : (iotaD ds).length = ds.length := by simp [iotaD]
  refine ⟨fun F1 H1 e1 e2 => ⟨vs, SqT.of (e2 _ _ (e1 _ _ h)), by rw [l0, r.length]⟩, fun i F1 H1 hi e1 e2 => ?_, fun i F1 H1 x H2 d e1 e2 hd ⟨p, x1, hx, hp, e, hy⟩ => .inr ⟨p, _, hp, e, ?_⟩⟩
  · rw [l0] at hi
    obtain ⟨v, ev, _⟩ := r.get (List.getElem?_eq_getElem hi)
    exact ⟨vs, v, SqT.of (e2 _ _ (e1 _ _ h)), ev⟩
  · subst hx
    obtain ⟨y, hy2, rfl⟩ := iotaD_get hd
    exact Rep.pair (H1 := H1) (e2.free hp) (by simp only [Rep]) (Rep.mono e1 _ _ (r.at hy2 (hy vs (SqT.of (e2 _ _ (e1 _ _ h))))))
end
section
variable {T : Tab} {X : Cx} {sc : Scope} {N : List Str} {fb : Str → Bool} {W : WX} {a : Expr} {ea : E} {elts : List Expr} {kk : Nat} {p pos tpos : Pos}
theorem oki_enum2 (g : Good T X sc N fb) (h2 : glB sc "enumerate" = true) (hs : notStar a = true) (ha : OkE X W a (wpE T.G ea)) :
    OkI X W (.Tuple elts kk tpos) (.Call (.Name "enumerate" p) [a] [] pos) (wpI T.G (.enum ea)) := by
  intro s Pp R hw A0 F0 H0 F H σ Q wd q hR
  simp only [wpI] at hw
  refine (pi_enum2 (glB_ok g h2) (g.bi _ (by decide +kernel)) (pa_cons (pE a) pa_nil (star_of hs)) (star1 hs)).tI ?_
  refine one (Q := fun x H1 => ∃ a xs, [x] = [V.ref a] ∧ ((SqL X.K H1 a xs ∧ Q (Ite X.K a) H1) ∨ (SqT X.K H1 a xs ∧ Q (IteT X.K a) H1))) (k1 := fun s1 d => match d with | .lst xs => Pp s1 (iotaD xs) | .tup xs => Pp s1 (iotaD xs) | _ => False) ha hw wd (fun v F' H' s' d aft r hk => ?_) hR
  split at hk
  · simp only [Rep] at r
    obtain ⟨a, vs, rfl, h1, t1⟩ := r
    exact ⟨a, vs, rfl, .inl ⟨SqL.of (aft.wd.ex _ _ h1), q _ _ _ _ _ aft (ito_enum h1 t1) hk⟩⟩
  · simp only [Rep] at r
    obtain ⟨a, vs, rfl, h1, t1⟩ := r
    exact ⟨a, vs, rfl, .inr ⟨SqT.of (aft.wd.ex _ _ h1), q _ _ _ _ _ aft (ito_enumT h1 t1) hk⟩⟩
  · exact hk.elim
end
end DL

set_option maxHeartbeats 2000000
namespace DL
open PySem PySem.Spec PyProof.Rows L2

/-! ### does a term stand for an expression? -/
section
variable (T : Tab) (N : List Str)
def nmB (sc : Scope) (x : Str) (i : Nat) : Bool := decide (N[i]? = some x) && visB sc x && okNm x
def opB (o : Operator) (op : Op2) : Bool := match op, o with
  | .add, .Add => true | .sub, .Sub => true | .mul, .Mult => true | .fdiv, .FloorDiv => true | .mod, .Mod => true | .pow, .Pow => true | _, _ => false
def cpB (o : CmpOp) (op : Cp) : Bool := match op, o with
  | .eq, .Eq => true | .ne, .NotEq => true | .lt, .Lt => true | .le, .LtE => true | .gt, .Gt => true | .ge, .GtE => true | .is, .Is => true | .isNot, .IsNot => true | .in_, .In => true | .notIn, .NotIn => true | _, _ => false
/-- may stand as a test -/
def tstB : E → Bool | .ite .. => false | .frz .. => false | _ => true
mutual
def chkE (sc : Scope) (fb : Str → Bool) : E → Expr → Bool
  | .var i, ex => (match ex with | .Name x _ => nmB N sc x i | _ => false)
  | .mv i, ex => (match ex with | .Name x _ => nmB N sc x i | _ => false)
  | .int i, ex => (match ex with | .Constant (.int j) _ _ => decide (i = j) | _ => false)
  | .bl i, ex => (match ex with | .Constant (.bool j) _ _ => decide (i = j) | _ => false)
  | .non, ex => (match ex with | .Constant .none _ _ => true | _ => false)
  | .str i, ex => (match ex with | .Constant (.str j) _ _ => decide (i = j) | _ => false)
  | .cst x i, ex => (match ex with | .Name y _ => decide (x = y) && decide (T.cs x = some i) && glB sc x && okNm x | _ => false)
  | .tup es, ex => (match ex with | .Tuple xs _ _ => chkV sc fb es xs | _ => false)
  | .lst es, ex => (match ex with | .List xs _ => chkV sc fb es xs | _ => false)
  | .bin op a b, ex => (match ex with | .BinOp x o y _ => opB o op && chkE sc fb a x && chkE sc fb b y | _ => false)
  | .neg a, ex => (match ex with | .UnaryOp .USub x _ => chkE sc fb a x | _ => false)
  | .not a, ex => (match ex with | .UnaryOp .Not x _ => tstB a && chkE sc fb a x | _ => false)
  | .cmp op a b, ex => (match ex with | .Compare x [o] [y] _ => cpB o op && notSet y && chkE sc fb a x && chkE sc fb b y | _ => false)
  | .chain o1 o2 a b c, ex => (match ex with | .Compare x [p1, p2] [y, z] _ => cpB p1 o1 && cpB p2 o2 && notSet z && chkE sc fb a x && chkE sc fb b y && chkE sc fb c z | _ => false)
  | .and a b, ex => (match ex with
    | .BoolOp .And [x, y] _ => tstB a && tstB b && chkE sc fb a x && chkE sc fb b y
    | .BoolOp .And (x :: y :: z :: r) _ => tstB a && chkE sc fb a x && chkN sc fb true b (y :: z :: r)
    | _ => false)
  | .or a b, ex => (match ex with
    | .BoolOp .Or [x, y] _ => tstB a && tstB b && chkE sc fb a x && chkE sc fb b y
    | .BoolOp .Or (x :: y :: z :: r) _ => tstB a && chkE sc fb a x && chkN sc fb false b (y :: z :: r)
    | _ => false)
  | .ite c a b, ex => (match ex with | .IfExp z x y _ => tstB c && chkE sc fb c z && chkE sc fb a x && chkE sc fb b y | _ => false)
  | .idx a b, ex => (match ex with | .Subscript x y _ => notSlice y && chkE sc fb a x && chkE sc fb b y | _ => false)
  | .ixo i b, ex => (match ex with | .Subscript (.Name x _) y _ => nmB N sc x i && notSlice y && chkE sc fb b y | _ => false)
  | .leno i, ex => (match ex with | .Call (.Name g _) [.Name x _] [] _ => decide (g = "len") && glB sc g && nmB N sc x i | _ => false)
  | .slL a b, ex => (match ex with | .Subscript x (.Slice (some y) none none _) _ => chkE sc fb a x && chkE sc fb b y | _ => false)
  | .slU a b, ex => (match ex with | .Subscript x (.Slice none (some y) none _) _ => chkE sc fb a x && chkE sc fb b y | _ => false)
  | .slLU a b c, ex => (match ex with | .Subscript x (.Slice (some y) (some z) none _) _ => chkE sc fb a x && chkE sc fb b y && chkE sc fb c z | _ => false)
  | .call f es, ex => (match ex with
    | .Call (.Name g _) (x :: xs) [] _ => decide (f = g) && glB sc f && okNm f && noStars (x :: xs) && (match T.G f with | some mc => chkM sc fb mc.1 es (x :: xs) | none => false)
    | _ => false)
  | .bi b es, ex => (match b, es, ex with
    | .sset, .cons a .nil, .Call (.Name g _) [.Call (.Name h _) [x] [] _] [] _ => decide (g = "sorted") && decide (h = "set") && glB sc g && glB sc h && notStar x && chkE sc fb a x
    | .listR1, .cons a .nil, .Call (.Name g _) [.Call (.Name h _) [x] [] _] [] _ => decide (g = "list") && decide (h = "range") && glB sc g && glB sc h && notStar x && chkE sc fb a x
    | .tupR1, .cons a .nil, .Call (.Name g _) [.Call (.Name h _) [x] [] _] [] _ => decide (g = "tuple") && decide (h = "range") && glB sc g && glB sc h && notStar x && chkE sc fb a x
    | .listR2, .cons a (.cons b .nil), .Call (.Name g _) [.Call (.Name h _) [x, y] [] _] [] _ => decide (g = "list") && decide (h = "range") && glB sc g && glB sc h && notStar x && notStar y && chkE sc fb a x && chkE sc fb b y
    | .tupR2, .cons a (.cons b .nil), .Call (.Name g _) [.Call (.Name h _) [x, y] [] _] [] _ => decide (g = "tuple") && decide (h = "range") && glB sc g && glB sc h && notStar x && notStar y && chkE sc fb a x && chkE sc fb b y
    | b, .cons a r, .Call (.Name g _) (x :: xs) [] _ => biOk b && decide (g = biNm b) && glB sc g && noStars (x :: xs) && chkE sc fb a x && chkV sc fb r xs
    | _, _, _ => false)
  | .isi e ty, ex => (match ex with | .Call (.Name g _) [x, .Name h _] [] _ => decide (g = "isinstance") && decide (h = Str.ofString ty) && tyOk ty && glB sc g && glB sc h && notStar x && chkE sc fb e x | _ => false)
  | .comp elt own tg it c, ex => (match ex with
    | .ListComp el [⟨tx, iter, ifs, 0⟩] scope _ => blkC N sc scope own && tgB (relS scope sc) N (fbB scope) tx tg && tg.ix.all (fun i => decide (i ∈ own.map (·.2))) && notSet iter && chkI sc fb it tx iter && chkE (relS scope sc) (fbB scope) elt el &&
      (match ifs, c with
        | [], .bl true => true
        | [cx], c => tstB c && chkE (relS scope sc) (fbB scope) c cx
        | _, _ => false)
    | _ => false)
  | .comp2 elt own tg it vs2 tg2 it2, ex => (match ex with
    | .ListComp el [⟨tx, iter, [], 0⟩, ⟨tx2, iter2, [], 0⟩] scope _ => blkC N sc scope own && tgB (relS scope sc) N (fbB scope) tx tg && tg.ix.all (fun i => decide (i ∈ own.map (·.2))) && notSet iter && tgB (relS scope sc) N (fbB scope) tx2 tg2 &&
      tg2.ix.all (fun i => decide (i ∈ vs2)) && notSet iter2 && vs2.all (fun i => decide (i ∈ own.map (·.2))) && chkI sc fb it tx iter && chkI (relS scope sc) (fbB scope) it2 tx2 iter2 && chkE (relS scope sc) (fbB scope) elt el
    | _ => false)
  | .sl2 a, ex => (match ex with | .Subscript x (.Slice none none (some (.Constant (.int j) _ _)) _) _ => decide (j = 2) && chkE sc fb a x | _ => false)
  | .sl12 a, ex => (match ex with | .Subscript x (.Slice (some (.Constant (.int i) _ _)) none (some (.Constant (.int j) _ _)) _) _ => decide (i = 1) && decide (j = 2) && chkE sc fb a x | _ => false)
  | .slR a, ex => (match ex with | .Subscript x (.Slice none none (some (.UnaryOp .USub (.Constant (.int j) _ _) _)) _) _ => decide (j = 1) && chkE sc fb a x | _ => false)
  | .get d k x, ex => (match ex with | .Call (.Attribute e m apos) [a, b] [] cpos => decide (m = "get") && plainO e && lineB apos cpos && notStar a && notStar b && chkE sc fb d e && chkE sc fb k a && chkE sc fb x b | _ => false)
  | .getE d k, ex => (match ex with | .Call (.Attribute e m apos) [a, .Dict [] [] _] [] cpos => decide (m = "get") && plainO e && lineB apos cpos && notStar a && chkE sc fb d e && chkE sc fb k a | _ => false)
  | .geto i k x, ex => (match ex with | .Call (.Attribute (.Name y _) m apos) [a, b] [] cpos => decide (m = "get") && nmB N sc y i && lineB apos cpos && notStar a && notStar b && chkE sc fb k a && chkE sc fb x b | _ => false)
  | .ino neg k i, ex => (match ex with | .Compare a [o] [.Name y _] _ => cpB o (if neg then .notIn else .in_) && nmB N sc y i && chkE sc fb k a | _ => false)
  | .nemp a, ex => (match ex with | .Compare x [.NotEq] [.Dict [] [] _] _ => chkE sc fb a x | _ => false)
  | .dOne t k v, ex => t && (match ex with | .Dict [some a] [b] _ => chkE sc fb k a && chkE sc fb v b | _ => false)
  | .frz e, ex => chkE sc fb e ex
  | .cmpo op i b, ex => (match ex with | .Compare (.Name y _) [o] [x] _ => cpB o op && notSet x && nmB N sc y i && chkE sc fb b x | _ => false)
  | .dNew _, ex => (match ex with | .Dict [] [] _ => true | _ => false)
  | _, _ => false
def chkN (sc : Scope) (fb : Str → Bool) (a : Bool) : E → List Expr → Bool
  | .and p q, xs => a && (match xs with
    | [x, y] => tstB p && tstB q && chkE sc fb p x && chkE sc fb q y
    | x :: y :: z :: r => tstB p && chkE sc fb p x && chkN sc fb a q (y :: z :: r)
    | _ => false)
  | .or p q, xs => !a && (match xs with
    | [x, y] => tstB p && tstB q && chkE sc fb p x && chkE sc fb q y
    | x :: y :: z :: r => tstB p && chkE sc fb p x && chkN sc fb a q (y :: z :: r)
    | _ => false)
  | _, _ => false
def chkV (sc : Scope) (fb : Str → Bool) : Es → List Expr → Bool
  | .nil, xs => xs.isEmpty
  | .cons e r, xs => (match xs with | x :: xs => notStar x && chkE sc fb e x && chkV sc fb r xs | _ => false)
def chkM (sc : Scope) (fb : Str → Bool) : List Md → Es → List Expr → Bool
  | ms, .nil, xs => ms.isEmpty && xs.isEmpty
  | ms, .cons e r, xs => (match ms, xs with
    | .val :: ms, x :: xs => notStar x && chkE sc fb e x && chkM sc fb ms r xs
    | .mv :: ms, x :: xs => notStar x && chkE sc fb e x && chkM sc fb ms r xs
    | .io :: ms, .Name x _ :: xs => (match e with | .io i => nmB N sc x i | _ => false) && chkM sc fb ms r xs
    | _, _ => false)
def chkI (sc : Scope) (fb : Str → Bool) : It → Expr → Expr → Bool
  | .seq e, _, ex => chkE sc fb e ex
  | .rng1 a, _, ex => (match ex with | .Call (.Name g _) [x] [] _ => decide (g = "range") && glB sc g && notStar x && chkE sc fb a x | _ => false)
  | .rng2 a b, _, ex => (match ex with | .Call (.Name g _) [x, y] [] _ => decide (g = "range") && glB sc g && notStar x && notStar y && chkE sc fb a x && chkE sc fb b y | _ => false)
  | .rngD a b, _, ex => (match ex with | .Call (.Name g _) [x, y, .UnaryOp .USub (.Constant (.int 1) _ _) _] [] _ => decide (g = "range") && glB sc g && notStar x && notStar y && chkE sc fb a x && chkE sc fb b y | _ => false)
  | .enum a, tg, ex => (match tg, ex with | .Tuple _ _ _, .Call (.Name g _) [x] [] _ => decide (g = "enumerate") && glB sc g && notStar x && chkE sc fb a x | _, _ => false)
  | .zip a b, tg, ex => (match tg, ex with | .Tuple _ _ _, .Call (.Name g _) [x, y] [] _ => decide (g = "zip") && glB sc g && notStar x && notStar y && chkE sc fb a x && chkE sc fb b y | _, _ => false)
end
end
end DL

set_option maxHeartbeats 2000000
namespace DL
open PySem PySem.Spec PyProof.Rows L2

/-! ### ends = found.get(total, {}); ends[here] = ends.get(here, 0) + ways; found[total] = ends -/
section
variable {T : Tab} {X : Cx} {sc : Scope} {N : List Str} {fb : Str → Bool} {W : WX} {A0 : Addr → Prop} {F0 H0 F H : Hp} {σ : L2.St} {s : DSt} {f e k h w : Nat} {qs : List Addr} {ks : List Int} {cs : List (List D × List D)} {t j : Int} {d : D} {n : DSt → Prop} {Q : L2.St → Hp → Prop}
def nGet (X : Cx) (to : TE) (ta : TA) : TE := fun σ H Q => to σ H fun x H1 => tyDc X x H1 ∧ ta σ H1 fun xs H2 => rGet2 X x xs H2 Q
def tNew0 (X : Cx) : TE := fun _ H Q => ∀ p, H p = none → Q (.ref p) (upd H p (TO X.prog X.w p [] [] []))
def tNest (X : Cx) (f e k h w : Nat) (σ : L2.St) (H : Hp) (Q : L2.St → Hp → Prop) : Prop :=
  nGet X (tVar f) (fun σ H Q => tVar k σ H fun x H1 => tNew0 X σ H1 fun y H2 => Q [x, y] H2) σ H fun v1 H1 =>
    nGet X (tVar e) (fun σ H Q => tVar h σ H fun x H1 => Q [x, .int 0] H1) (σ.set e (some v1)) H1 fun o H2 => tVar w (σ.set e (some v1)) H2 fun u H3 => rC X (binaryOp .Add) o u H3 fun v2 H4 =>
      gSub (tVar e) (tVar h) (tSetC X) v2 (σ.set e (some v1)) H4 fun σ1 H5 => tVar e σ1 H5 fun v3 H6 => gSub (tVar f) (tVar k) (tSetC X) v3 σ1 H6 Q
theorem nest_core (g : Good T X sc N fb) (wd : Wd X.prog X.w X.K A0 F0 H0 F H σ s) (hk : s[k]? = some (some (.val (.int t)))) (hh : s[h]? = some (some (.val d))) (hw : s[w]? = some (some (.val (.int j)))) (hf : s[f]? = some (some (.own (.n qs ks cs))))
    (ke : k ≠ e) (he : h ≠ e) (we : w ≠ e) (fe : f ≠ e) (el : e < s.length) (C : nestC (s.set e none) f t d j qs ks cs n)
    (fin : ∀ σ' s' H', Wd X.prog X.w X.K A0 F0 H0 F H' σ' s' → n s' → Q σ' H') : tNest X f e k h w σ H Q := by
  have hu : X.A.units + 64 < cLine := by have := g.room.un; omega
  obtain ⟨hk1, nd, hz, C⟩ := C
  obtain ⟨vk, sk, rk⟩ := wd.sl k _ hk
  obtain ⟨vh, sh, rh⟩ := wd.sl h _ hh
  obtain ⟨vw, sw, rw'⟩ := wd.sl w _ hw
  obtain ⟨vf, sf, p0, rfl, f1, f2, ⟨g1, g2, g3, g4, g5, g6⟩, f4⟩ := wd.sl f _ hf
  simp only [SlOk, Rep] at rk rw'
  subst rk rw'
  have rh' : Rep X.prog X.w X.K F d vh := rh
  obtain ⟨b, rfl⟩ := kOk1_ref rh' hk1
  have el' : e < σ.length := by rw [wd.len]; exact el
  have hf' : (s.set e none)[f]? = some (some (.own (.n qs ks cs))) := by rw [List.getElem?_set_ne (Ne.symm fe)]; exact hf
  have l2 : ks.length = (qs.map V.ref).length := by rw [List.length_map]; exact g2
  refine ⟨.ref p0, sf, ⟨p0, rfl, .inl ⟨_, .inl g1⟩⟩, .int t, sk, fun p hp => ?_⟩
  have pp0 : p0 ≠ p := fun z => by rw [z, hp] at g1; cases g1
  refine ⟨p0, .int t, .ref p, rfl, rfl, .inl ⟨ks, qs.map V.ref, t, .inl (by rw [upd_ne pp0]; exact g1), rfl, ?_⟩⟩
  have ex1 : Ex F (upd H p (TO X.prog X.w p [] [] [])) := wd.ex.trans (Ex.new hp)
  -- the later reads of the slots
  have rd : ∀ {i : Nat} {x : Option V} {v : V}, i ≠ e → σ[i]? = some (some v) → (σ.set e x)[i]? = some (some v) := fun ne h => by rw [List.getElem?_set_ne (Ne.symm ne)]; exact h
  cases hc : lookL ks cs t with
  | none =>
    rw [hc] at C
    dsimp only at C
    have nt := lookL_none (g2.trans g3) hc
    have e1 : lookL ks (qs.map V.ref) t = none := by
      have := lookL_isSome ks (qs.map V.ref) t l2
      cases z : lookL ks (qs.map V.ref) t with
      | none => rfl
      | some v => rw [z] at this; simp [nt] at this
    rw [e1, Option.getD_none]
    have se : (σ.set e (some (V.ref p)))[e]? = some (some (.ref p)) := List.getElem?_set_self el'
    refine ⟨.ref p, se, ⟨p, rfl, .inr ⟨[], [], [], .inl upd_same⟩⟩, .ref b, rd he sh, ?_⟩
    refine ⟨p, .ref b, .int 0, rfl, rfl, .inr ⟨[], [], [], d, .inl (by simp only [keys]; exact upd_same), rfl, Reps.nil, hk1, Rep.mono ex1 _ _ rh', ?_⟩⟩
    simp only [keys, lookL, Option.getD_none]
    refine ⟨.int j, rd we sw, toC op_add ⟨_, _, rfl, rfl, ?_⟩⟩
    dsimp only
    rw [Int.zero_add]
    refine ⟨.ref p, se, .ref b, rd he sh, ?_⟩
    refine t_set (nk := []) (as := []) (vs := []) hu (by simp only [keys]; exact upd_same) rfl Reps.nil hk1 (Rep.mono ex1 _ _ rh') (by rw [sizeLine_eq]; simp) ?_
    rw [upd_upd]
    have e2 : TO X.prog X.w p (putKs (keys []) d.key) (if d.key ∈ keys [] then [] else [] ++ [b]) (putVs (keys []) [] d.key (.int j)) = TO X.prog X.w p (keys [d]) [b] [.int j] := by
      simp [keys, putKs, putVs]
    rw [e2]
    refine ⟨.ref p, se, .ref p0, rd fe sf, .int t, rd ke sk, ?_⟩
    refine toSet (L2.set_dict (by have := g.room.un; omega)) ⟨p0, _, rfl, DPut.k (k := Sum.inl t) (by rw [upd_ne pp0]; exact g1) (by unfold kvI; rw [List.length_zip, List.length_map]; omega), ?_⟩
    rw [putK_kvI _ _ _ _ l2]
    have e3 : putKs ks t = ks ++ [t] := by unfold putKs; rw [if_neg nt]
    have e4 : putVs ks (qs.map V.ref) t (V.ref p) = (qs ++ [p]).map V.ref := by unfold putVs; rw [if_neg nt, List.map_append]; rfl
    rw [e3, e4]
    exact fin _ _ _ ((wd.drop (e := e) (some (.ref p))).nestA hf' (rd fe sf) hp rh' hk1) (C p)
  | some c =>
    rw [hc] at C
    dsimp only at C
    obtain ⟨cz, C⟩ := C
    obtain ⟨i, i1, i2⟩ := lookL_at hc
    have hi : i < ks.length := (List.getElem?_eq_some_iff.mp i1).1
    have hiq : i < qs.length := by omega
    have q1 : qs[i]? = some qs[i] := List.getElem?_eq_getElem hiq
    generalize qs[i] = q at q1
    have e1 : lookL ks (qs.map V.ref) t = some (.ref q) := by
      rw [lookL_nd nd l2.symm i1, List.getElem?_map, q1]; rfl
    rw [e1, Option.getD_some]
    obtain ⟨fq, as, vs, h8, h9, h10, h11, h12⟩ := g6 i q c q1 i2
    have pq : q ≠ p := fun z => by rw [z, hp] at h8; cases h8
    have np0 : p0 ≠ q := fun z => g5 (by rw [z]; exact List.mem_of_getElem? q1)
    have h8' : upd H p (TO X.prog X.w p [] [] []) q = some (TO X.prog X.w q (keys c.1) as vs) := by rw [upd_ne pq]; exact h8
    have se : (σ.set e (some (V.ref q)))[e]? = some (some (.ref q)) := List.getElem?_set_self el'
    have x1 : Wd X.prog X.w X.K A0 F0 H0 F (upd H p (TO X.prog X.w p [] [] [])) (σ.set e (some (.ref q))) (s.set e none) := (wd.drop (e := e) (some (.ref q))).addH hp
    -- what the child becomes
    have main : ∀ (o : Int) (c' : List D × List D) (as' : List Addr) (vs' : List V), (lookL (keys c.1) vs d.key).getD (.int 0) = .int o → c'.1.length = c'.2.length → kOk c'.1 = true → Reps X.prog X.w X.K F c'.1 (as'.map V.ref) → Reps X.prog X.w X.K F c'.2 vs' →
        TO X.prog X.w q (putKs (keys c.1) d.key) (if d.key ∈ keys c.1 then as else as ++ [b]) (putVs (keys c.1) vs d.key (.int (o + j))) = TO X.prog X.w q (keys c'.1) as' vs' → n ((s.set e none).set f (some (.own (.n qs ks (putVs ks cs t c'))))) →
        nGet X (tVar e) (fun σ H Q => tVar h σ H fun x H1 => Q [x, .int 0] H1) (σ.set e (some (.ref q))) (upd H p (TO X.prog X.w p [] [] [])) fun o H2 => tVar w (σ.set e (some (.ref q))) H2 fun u H3 => rC X (binaryOp .Add) o u H3 fun v2 H4 =>
          gSub (tVar e) (tVar h) (tSetC X) v2 (σ.set e (some (.ref q))) H4 fun σ1 H5 => tVar e σ1 H5 fun v3 H6 => gSub (tVar f) (tVar k) (tSetC X) v3 σ1 H6 Q := fun o c' as' vs' eo lc kc rc rv eT hn => by
      refine ⟨.ref q, se, ⟨q, rfl, .inr ⟨_, _, _, .inl h8'⟩⟩, .ref b, rd he sh, ?_⟩
      refine ⟨q, .ref b, .int 0, rfl, rfl, .inr ⟨c.1, as, vs, d, .inl h8', h10, Reps.mono ex1 _ _ h11, hk1, Rep.mono ex1 _ _ rh', ?_⟩⟩
      rw [eo]
      refine ⟨.int j, rd we sw, toC op_add ⟨_, _, rfl, rfl, ?_⟩⟩
      refine ⟨.ref q, se, .ref b, rd he sh, ?_⟩
      refine t_set hu h8' h10 (Reps.mono ex1 _ _ h11) hk1 (Rep.mono ex1 _ _ rh') cz ?_
      rw [eT]
      refine ⟨.ref q, se, .ref p0, rd fe sf, .int t, rd ke sk, ?_⟩
      have g1' : upd (upd H p (TO X.prog X.w p [] [] [])) q (TO X.prog X.w q (keys c'.1) as' vs') p0 = some (.dK (kvI ks (qs.map V.ref))) := by rw [upd_ne np0, upd_ne pp0]; exact g1
      refine toSet (L2.set_dict (by have := g.room.un; omega)) ⟨p0, _, rfl, DPut.k (k := Sum.inl t) g1' (by unfold kvI; rw [List.length_zip, List.length_map]; omega), ?_⟩
      rw [putK_kvI _ _ _ _ l2]
      have mt := List.mem_of_getElem? i1
      have e3 : putKs ks t = ks := by unfold putKs; rw [if_pos mt]
      have e4 : putVs ks (qs.map V.ref) t (V.ref q) = qs.map V.ref := by
        apply List.ext_getElem?
        intro l
        rw [putVs_get mt l2]
        split
        · rename_i cl
          have : l = i := (List.getElem?_inj (List.getElem?_eq_some_iff.mp cl).1 nd).mp (cl.trans i1.symm)
          subst this
          rw [List.getElem?_map, q1]; rfl
        · rfl
      rw [e3, e4, upd_self g1']
      exact fin _ _ _ (x1.nestB hf' nd q1 i1 lc kc rc rv) hn
    have kl := keys_length c.1
    have lv : (keys c.1).length = vs.length := by rw [kl, h9, h12.length]
    have lkr := lookL_reps (keys c.1) c.2 vs d.key h12
    unfold bumpD at C
    split at C
    · rename_i e5
      rw [e5] at lkr
      have nk : d.key ∉ keys c.1 := lookL_none (by omega) e5
      have e6 : lookL (keys c.1) vs d.key = none := by
        cases z : lookL (keys c.1) vs d.key with
        | none => rfl
        | some v => rw [z] at lkr; exact lkr.elim
      refine main 0 _ (as ++ [b]) (vs ++ [.int j]) (by rw [e6]; rfl) (by simp [h9]) ?_ (by rw [List.map_append]; exact h11.append (Reps.cons rh' Reps.nil)) (h12.append (Reps.cons (by simp only [Rep]) Reps.nil)) ?_ C
      · simp only [kOk, List.all_append, Bool.and_eq_true, List.all_cons, List.all_nil, Bool.and_true]
        exact ⟨h10, hk1⟩
      · rw [Int.zero_add, if_neg nk, keys_append]
        unfold putKs putVs
        rw [if_neg nk, if_neg nk]
        rfl
    · rename_i o e5
      rw [e5] at lkr
      have yk : d.key ∈ keys c.1 := by
        obtain ⟨l, e7, _⟩ := lookL_at e5
        exact List.mem_of_getElem? e7
      have e6 : lookL (keys c.1) vs d.key = some (.int o) := by
        cases z : lookL (keys c.1) vs d.key with
        | none => rw [z] at lkr; exact lkr.elim
        | some v => rw [z] at lkr; simp only [Rep] at lkr; rw [lkr]
      refine main o (c.1, putVs (keys c.1) c.2 d.key (.int (o + j))) as (putVs (keys c.1) vs d.key (.int (o + j))) (by rw [e6]; rfl) ?_ h10 h11 (Reps.putVs (by omega) h12 (by simp only [Rep])) ?_ C
      · have := putVs_length (keys c.1) c.2 d.key (.int (o + j)) (by omega)
        unfold putKs at this
        rw [if_pos yk] at this
        dsimp only
        omega
      · rw [if_pos yk]
        unfold putKs
        rw [if_pos yk]
    · exact C.elim
/-- the child's place is forgotten -/
theorem nestC_set {y : Option Sl} (fe : f ≠ e) : nestC ((s.set f y).set e none) f t d j qs ks cs n = nestC (s.set e none) f t d j qs ks cs n := by
  have h : ∀ z : Option Sl, ((s.set f y).set e none).set f z = (s.set e none).set f z := fun z => by
    apply List.ext_getElem?
    intro i
    by_cases c : i = f
    · subst c
      by_cases hl : i < s.length
      · rw [List.getElem?_set_self (by simpa using hl), List.getElem?_set_self (by simpa using hl)]
      · rw [List.getElem?_eq_none (by simp; omega), List.getElem?_eq_none (by simp; omega)]
    · rw [List.getElem?_set_ne (Ne.symm c), List.getElem?_set_ne (Ne.symm c)]
      by_cases c2 : i = e
      · subst c2
        by_cases hl : i < s.length
        · rw [List.getElem?_set_self (by simpa using hl), List.getElem?_set_self (by simpa using hl)]
        · rw [List.getElem?_eq_none (by simp; omega), List.getElem?_eq_none (by simp; omega)]
      · rw [List.getElem?_set_ne (Ne.symm c2), List.getElem?_set_ne (Ne.symm c2), List.getElem?_set_ne (Ne.symm c)]
  unfold nestC
  simp only [h]
theorem nest_ok (g : Good T X sc N fb) (wd : Wd X.prog X.w X.K A0 F0 H0 F H σ s) (ke : k ≠ e) (he : h ≠ e) (we : w ≠ e) (fe : f ≠ e) (kf : k ≠ f) (hf : h ≠ f) (wf : w ≠ f) (C : nestD s f e k h w n)
    (fin : ∀ σ' s' H', Wd X.prog X.w X.K A0 F0 H0 F H' σ' s' → n s' → Q σ' H') : tNest X f e k h w σ H Q := by
  rw [nestD_eq] at C
  unfold nestD0 at C
  split at C
  · rename_i t d j h1 h2 h3 h4
    have hl : f < s.length := (List.getElem?_eq_some_iff.mp h4).1
    refine nest_core g (wd.asN h4) (by rw [List.getElem?_set_ne (Ne.symm kf)]; exact h1) (by rw [List.getElem?_set_ne (Ne.symm hf)]; exact h2) (by rw [List.getElem?_set_ne (Ne.symm wf)]; exact h3) (List.getElem?_set_self hl) ke he we fe (by rw [List.length_set]; exact C.1) ?_ fin
    rw [nestC_set fe]
    exact C.2
  · rename_i t d j qs ks cs h1 h2 h3 h4
    exact nest_core g wd h1 h2 h3 h4 ke he we fe C.1 C.2 fin
  · exact C.elim
def chkNest (N : List Str) (sc : Scope) (fb : Str → Bool) (f e k h w : Nat) (a b c : Stmt) : Bool := match a, b, c with
  | .Assign [.Name xe _] (.Call (.Attribute (.Name xf _) m1 apos1) [.Name xk _, .Dict [] [] _] [] cpos1) _,
    .Assign [.Subscript (.Name xe2 _) (.Name xh _) _] (.BinOp (.Call (.Attribute (.Name xe3 _) m2 apos2) [.Name xh2 _, .Constant (.int z) _ _] [] cpos2) .Add (.Name xw _) _) _,
    .Assign [.Subscript (.Name xf2 _) (.Name xk2 _) _] (.Name xe4 _) _ =>
      decide (m1 = "get") && decide (m2 = "get") && decide (z = 0) && nmB N sc xf f && nmB N sc xf2 f && nmB N sc xe e && nmB N sc xe2 e && nmB N sc xe3 e && nmB N sc xe4 e && nmB N sc xk k && nmB N sc xk2 k && nmB N sc xh h && nmB N sc xh2 h && nmB N sc xw w &&
      locB sc fb xe && lineB apos1 cpos1 && lineB apos2 cpos2 && decide (k ≠ e) && decide (h ≠ e) && decide (w ≠ e) && decide (f ≠ e) && decide (k ≠ f) && decide (h ≠ f) && decide (w ≠ f)
  | _, _, _ => false
theorem okSs_nest {a b c : Stmt} {sts : List Stmt} {ss : Ss} (g : Good T X sc N fb) (hkind : sc.kind = .function) (hch : chkNest N sc fb f e k h w a b c = true) (h2 : OkSs X W sts (wpSs T.G ss)) : OkSs X W (a :: b :: c :: sts) (wpSs T.G (.cons (.nest f e k h w) ss)) := by
  unfold chkNest at hch
  split at hch
  · simp only [Bool.and_eq_true, decide_eq_true_eq] at hch
    obtain ⟨⟨⟨⟨⟨⟨⟨⟨⟨⟨⟨⟨⟨⟨⟨⟨⟨⟨⟨⟨⟨⟨⟨rfl, rfl⟩, rfl⟩, nf⟩, nf2⟩, ne⟩, ne2⟩, ne3⟩, ne4⟩, nk⟩, nk2⟩, nh⟩, nh2⟩, nw⟩, lc⟩, l1⟩, l2⟩, ke⟩, he⟩, we⟩, fe⟩, kf⟩, hf⟩, wf⟩ := hch
    have pv : ∀ {x : Str} {i : Nat} {p : Pos}, nmB N sc x i = true → L2.PE X (.Name x p) (tVar i) := fun {x i p} h => by
      simp only [nmB, Bool.and_eq_true, decide_eq_true_eq] at h
      exact pvar g h.1.1 h.1.2 h.2
    have hu : X.A.units + 64 < cLine := by have := g.room.un; omega
    have hl' := locB_ok lc
    simp only [nmB, Bool.and_eq_true, decide_eq_true_eq] at ne
    intro s kk hw A0 F0 H0 F H σ D wd en
    simp only [wpSs, Ks.cas_eq, wpS] at hw
    refine L2.PSs.tSs (pss_cons (ps_set (by rw [g.n]; exact g.nd) (by rw [g.n]; exact ne.1.1) (by rw [g.sc]; exact hl'.1) (pe_bmC (ty := tyDc X) PySem.F.plainAttrs_dict PySem.F.slot_dict_get PySem.F.type_dict_get (mt_get hu) tyDc_is (pv nf) (pa_cons (pv nk) (pa_cons pe_dnewTO pa_nil (star_of rfl)) (star_of rfl)) rfl (few_of rfl (by simp)) l1 (star_of rfl) (noAny rfl))
      (by rw [swapB_ok (by rw [g.sc]; exact hkind) rfl]; rfl) (by rw [g.sc]; exact hl'.2.imp (g.fb _) id)) (pss_cons (ps_asg (pe_op (opC _) (pe_bmC (ty := tyDc X) PySem.F.plainAttrs_dict PySem.F.slot_dict_get PySem.F.type_dict_get (mt_get hu) tyDc_is (pv ne3) (pa_cons (pv nh2) (pa_cons pe_int pa_nil (star_of rfl)) (star_of rfl)) rfl (few_of rfl (by simp)) l2 (star_of rfl) (noAny rfl)) (pv nw))
      (pg_sub (pv ne2) (pv nh) setC (by intro _; rfl)) (by rfl) (by rfl) (by rfl)) (pss_cons (ps_asg (pv ne4) (pg_sub (pv nf2) (pv nk2) setC (by intro _; rfl)) (by rfl) (by rfl) (by rfl)) (pSs sts)))) ?_
    refine nest_ok (Q := fun σ' H' => tSs X sts D σ' H') g wd ke he we fe kf hf wf hw fun σ' s' H' w' hn => ?_
    exact h2 s' kk hn A0 F0 H0 F H' σ' D w' en
  · cases hch
end
end DL

set_option maxHeartbeats 2000000
namespace DL
open PySem PySem.Spec PyProof.Rows L2
theorem opB_ok {o : Operator} {op : Op2} (h : opB o op = true) : o = opn op := by
  cases op <;> cases o <;> first | rfl | cases h
theorem cpB_ok {o : CmpOp} {op : Cp} (h : cpB o op = true) : o = cpn op := by
  cases op <;> cases o <;> first | rfl | cases h
structure OkB (T : Tab) (X : Cx) (W : WX) (ex : Expr) (ee : E) : Prop where
  e : OkE X W ex (wpE T.G ee)
  t : tstB ee = true → OkT X W (tT X ex) (wpE T.G ee)
theorem OkB.pl {T : Tab} {X : Cx} {W : WX} {ex : Expr} {e : E} (hp : plainT ex = true) (h : OkE X W ex (wpE T.G e)) : OkB T X W ex e := ⟨h, fun _ => okT_plain hp h⟩
section
variable {T : Tab} {N : List Str}
/-- what the checks stand for -/
def SE (T : Tab) (N : List Str) (e : E) : Prop := ∀ (X : Cx) (W : WX) (sc : Scope) (fb : Str → Bool) (ex : Expr), Good T X sc N fb → L2N.Takes X W → chkE T N sc fb e ex = true → OkB T X W ex e
def SV (T : Tab) (N : List Str) (e : Es) : Prop := ∀ (X : Cx) (W : WX) (sc : Scope) (fb : Str → Bool) (xs : List Expr), Good T X sc N fb → L2N.Takes X W → chkV T N sc fb e xs = true → OkV X W xs (wpV T.G e) ∧ noStars xs = true
def SM (T : Tab) (N : List Str) (e : Es) : Prop := ∀ (X : Cx) (W : WX) (sc : Scope) (fb : Str → Bool) (ms : List Md) (xs : List Expr), Good T X sc N fb → L2N.Takes X W → chkM T N sc fb ms e xs = true → OkM X W ms xs (wpM T.G ms e)
def SI (T : Tab) (N : List Str) (e : DL.It) : Prop := ∀ (X : Cx) (W : WX) (sc : Scope) (fb : Str → Bool) (tg ex : Expr), Good T X sc N fb → L2N.Takes X W → chkI T N sc fb e tg ex = true → OkI X W tg ex (wpI T.G e)
def SN (T : Tab) (N : List Str) (e : E) : Prop := ∀ (X : Cx) (W : WX) (sc : Scope) (fb : Str → Bool) (b : Bool) (xs : List Expr) (pos : Pos), Good T X sc N fb → L2N.Takes X W → chkN T N sc fb b e xs = true →
  OkE X W (.BoolOp (if b then .And else .Or) xs pos) (wpE T.G e) ∧ OkT X W (tW X (.BoolOp (if b then .And else .Or) xs pos)) (wpE T.G e)
theorem nmB_ok {sc : Scope} {x : Str} {i : Nat} (h : nmB N sc x i = true) : N[i]? = some x ∧ visB sc x = true ∧ okNm x = true := by
  simp only [nmB, Bool.and_eq_true, decide_eq_true_eq] at h
  exact ⟨h.1.1, h.1.2, h.2⟩
theorem s_var (i : Nat) : SE T N (.var i) := fun X W sc fb ex g tk h => by
  rw [chkE.eq_def] at h; dsimp only at h
  split at h
  · obtain ⟨h1, h2, h3⟩ := nmB_ok h
    exact .pl rfl (ok_var g h1 h2 h3)
  · cases h
theorem s_mv (i : Nat) : SE T N (.mv i) := fun X W sc fb ex g tk h => by
  rw [chkE.eq_def] at h; dsimp only at h
  split at h
  · obtain ⟨h1, h2, h3⟩ := nmB_ok h
    exact .pl rfl (ok_mv g h1 h2 h3)
  · cases h
theorem s_io (i : Nat) : SE T N (.io i) := fun X W sc fb ex g tk h => by
  rw [chkE.eq_def] at h; dsimp only at h
  cases h
theorem s_int (i : Int) : SE T N (.int i) := fun X W sc fb ex g tk h => by
  rw [chkE.eq_def] at h; dsimp only at h
  split at h
  · obtain rfl := of_decide_eq_true h
    exact .pl rfl ok_int
  · cases h
theorem s_bl (i : Bool) : SE T N (.bl i) := fun X W sc fb ex g tk h => by
  rw [chkE.eq_def] at h; dsimp only at h
  split at h
  · obtain rfl := of_decide_eq_true h
    exact .pl rfl ok_bl
  · cases h
theorem s_non : SE T N .non := fun X W sc fb ex g tk h => by
  rw [chkE.eq_def] at h; dsimp only at h
  split at h
  · exact .pl rfl ok_non
  · cases h
theorem s_str (i : Str) : SE T N (.str i) := fun X W sc fb ex g tk h => by
  rw [chkE.eq_def] at h; dsimp only at h
  split at h
  · obtain rfl := of_decide_eq_true h
    exact .pl rfl ok_str
  · cases h
theorem s_cst (x : Str) (i : Int) : SE T N (.cst x i) := fun X W sc fb ex g tk h => by
  rw [chkE.eq_def] at h; dsimp only at h
  split at h
  · simp only [Bool.and_eq_true, decide_eq_true_eq] at h
    obtain ⟨⟨⟨rfl, h2⟩, h3⟩, h4⟩ := h
    exact .pl rfl (ok_cst g h2 h3 h4)
  · cases h
theorem s_tup {es : Es} (v : SV T N es) : SE T N (.tup es) := fun X W sc fb ex g tk h => by
  rw [chkE.eq_def] at h; dsimp only at h
  split at h
  · exact .pl rfl (ok_tup (v X W sc fb _ g tk h).1)
  · cases h
theorem s_lst {es : Es} (v : SV T N es) : SE T N (.lst es) := fun X W sc fb ex g tk h => by
  rw [chkE.eq_def] at h; dsimp only at h
  split at h
  · exact .pl rfl (ok_lst (v X W sc fb _ g tk h).1)
  · cases h
theorem s_bin {op : Op2} {a b : E} (ha : SE T N a) (hb : SE T N b) : SE T N (.bin op a b) := fun X W sc fb ex g tk h => by
  rw [chkE.eq_def] at h; dsimp only at h
  split at h
  · simp only [Bool.and_eq_true] at h
    obtain ⟨⟨h1, h2⟩, h3⟩ := h
    obtain rfl := opB_ok h1
    exact .pl rfl (ok_bin g (ha X W sc fb _ g tk h2).e (hb X W sc fb _ g tk h3).e)
  · cases h
theorem s_neg {a : E} (ha : SE T N a) : SE T N (.neg a) := fun X W sc fb ex g tk h => by
  rw [chkE.eq_def] at h; dsimp only at h
  split at h
  · exact .pl rfl (ok_neg g (ha X W sc fb _ g tk h).e)
  · cases h
theorem s_not {a : E} (ha : SE T N a) : SE T N (.not a) := fun X W sc fb ex g tk h => by
  rw [chkE.eq_def] at h; dsimp only at h
  split at h
  · simp only [Bool.and_eq_true] at h
    have := ha X W sc fb _ g tk h.2
    exact ⟨ok_not this.e, fun _ => okT_not (this.t h.1)⟩
  · cases h
theorem s_cmp {op : Cp} {a b : E} (ha : SE T N a) (hb : SE T N b) : SE T N (.cmp op a b) := fun X W sc fb ex g tk h => by
  rw [chkE.eq_def] at h; dsimp only at h
  split at h
  · simp only [Bool.and_eq_true] at h
    obtain ⟨⟨⟨h1, h2⟩, h3⟩, h4⟩ := h
    obtain rfl := cpB_ok h1
    exact ⟨ok_cmp g h2 (ha X W sc fb _ g tk h3).e (hb X W sc fb _ g tk h4).e, fun _ => okT_cmp g h2 (ha X W sc fb _ g tk h3).e (hb X W sc fb _ g tk h4).e⟩
  · cases h
theorem s_get {a b c : E} (ha : SE T N a) (hb : SE T N b) (hc : SE T N c) : SE T N (.get a b c) := fun X W sc fb ex g tk h => by
  rw [chkE.eq_def] at h; dsimp only at h
  split at h
  · simp only [Bool.and_eq_true, decide_eq_true_eq] at h
    obtain ⟨⟨⟨⟨⟨⟨⟨rfl, h2⟩, h3⟩, h4⟩, h5⟩, h6⟩, h7⟩, h8⟩ := h
    exact .pl rfl (ok_get g h2 h3 h4 h5 (ha X W sc fb _ g tk h6).e (hb X W sc fb _ g tk h7).e (hc X W sc fb _ g tk h8).e)
  · cases h
theorem s_getE {a b : E} (ha : SE T N a) (hb : SE T N b) : SE T N (.getE a b) := fun X W sc fb ex g tk h => by
  rw [chkE.eq_def] at h; dsimp only at h
  split at h
  · simp only [Bool.and_eq_true, decide_eq_true_eq] at h
    obtain ⟨⟨⟨⟨⟨rfl, h2⟩, h3⟩, h4⟩, h5⟩, h6⟩ := h
    exact .pl rfl (ok_getE g h2 h3 h4 (ha X W sc fb _ g tk h5).e (hb X W sc fb _ g tk h6).e)
  · cases h
theorem s_geto {i : Nat} {a b : E} (ha : SE T N a) (hb : SE T N b) : SE T N (.geto i a b) := fun X W sc fb ex g tk h => by
  rw [chkE.eq_def] at h; dsimp only at h
  split at h
  · simp only [Bool.and_eq_true, decide_eq_true_eq] at h
    obtain ⟨⟨⟨⟨⟨⟨rfl, h2⟩, h3⟩, h4⟩, h5⟩, h6⟩, h7⟩ := h
    obtain ⟨n1, n2, n3⟩ := nmB_ok h2
    exact .pl rfl (ok_geto g n1 n2 n3 h3 h4 h5 (ha X W sc fb _ g tk h6).e (hb X W sc fb _ g tk h7).e)
  · cases h
theorem s_dOne {t : Bool} {a b : E} (ha : SE T N a) (hb : SE T N b) : SE T N (.dOne t a b) := fun X W sc fb ex g tk h => by
  rw [chkE.eq_def] at h; dsimp only at h
  rw [Bool.and_eq_true] at h
  obtain ⟨ht, h⟩ := h
  subst ht
  split at h
  · rw [Bool.and_eq_true] at h
    exact .pl rfl (ok_dOneT g (ha X W sc fb _ g tk h.1).e (hb X W sc fb _ g tk h.2).e)
  · cases h
theorem s_nemp {a : E} (ha : SE T N a) : SE T N (.nemp a) := fun X W sc fb ex g tk h => by
  rw [chkE.eq_def] at h; dsimp only at h
  split at h
  · have := ha X W sc fb _ g tk h
    exact ⟨ok_nemp g this.e, fun _ => okT_nemp g this.e⟩
  · cases h
theorem s_ino {neg : Bool} {i : Nat} {a : E} (ha : SE T N a) : SE T N (.ino neg a i) := fun X W sc fb ex g tk h => by
  rw [chkE.eq_def] at h; dsimp only at h
  split at h
  · simp only [Bool.and_eq_true] at h
    obtain ⟨⟨h1, h2⟩, h3⟩ := h
    obtain ⟨n1, n2, n3⟩ := nmB_ok h2
    have e1 := cpB_ok h1
    have e2 : cpn (if neg then .notIn else .in_) = (if neg then .NotIn else .In) := by cases neg <;> rfl
    rw [e2] at e1
    subst e1
    have := ok_ino (neg := neg) g n1 n2 n3 (ha X W sc fb _ g tk h3).e
    exact ⟨this.e (pe_cmpR (opC _) (pE _) (pvar g n1 n2 n3) rfl), fun _ => this.test.t (pt_cmpR (opC _) (pE _) (pvar g n1 n2 n3) rfl)⟩
  · cases h
theorem s_chain {o1 o2 : Cp} {a b c : E} (ha : SE T N a) (hb : SE T N b) (hc : SE T N c) : SE T N (.chain o1 o2 a b c) := fun X W sc fb ex g tk h => by
  rw [chkE.eq_def] at h; dsimp only at h
  split at h
  · simp only [Bool.and_eq_true] at h
    obtain ⟨⟨⟨⟨⟨h1, h2⟩, h3⟩, h4⟩, h5⟩, h6⟩ := h
    obtain rfl := cpB_ok h1
    obtain rfl := cpB_ok h2
    exact ⟨ok_chain g h3 (ha X W sc fb _ g tk h4).e (hb X W sc fb _ g tk h5).e (hc X W sc fb _ g tk h6).e, fun _ => okT_chain g h3 (ha X W sc fb _ g tk h4).e (hb X W sc fb _ g tk h5).e (hc X W sc fb _ g tk h6).e⟩
  · cases h
theorem s_and {a b : E} (ha : SE T N a) (hb : SE T N b) (nb : SN T N b) : SE T N (.and a b) := fun X W sc fb ex g tk h => by
  rw [chkE.eq_def] at h; dsimp only at h
  split at h
  · simp only [Bool.and_eq_true] at h
    obtain ⟨⟨⟨h1, h2⟩, h3⟩, h4⟩ := h
    have a1 := ha X W sc fb _ g tk h3
    have b1 := hb X W sc fb _ g tk h4
    exact ⟨ok_and a1.e (ok_one b1.e), fun _ => okT_w (okW_and (a1.t h1) (okW_one (b1.t h2)))⟩
  · rename_i p
    simp only [Bool.and_eq_true] at h
    obtain ⟨⟨h1, h3⟩, h4⟩ := h
    have a1 := ha X W sc fb _ g tk h3
    have b1 := nb X W sc fb true _ p g tk h4
    exact ⟨ok_and a1.e b1.1, fun _ => okT_w (okW_and (a1.t h1) b1.2)⟩
  · cases h
theorem s_or {a b : E} (ha : SE T N a) (hb : SE T N b) (nb : SN T N b) : SE T N (.or a b) := fun X W sc fb ex g tk h => by
  rw [chkE.eq_def] at h; dsimp only at h
  split at h
  · simp only [Bool.and_eq_true] at h
    obtain ⟨⟨⟨h1, h2⟩, h3⟩, h4⟩ := h
    have a1 := ha X W sc fb _ g tk h3
    have b1 := hb X W sc fb _ g tk h4
    exact ⟨ok_or a1.e (ok_one b1.e), fun _ => okT_w (okW_or (a1.t h1) (okW_one (b1.t h2)))⟩
  · rename_i p
    simp only [Bool.and_eq_true] at h
    obtain ⟨⟨h1, h3⟩, h4⟩ := h
    have a1 := ha X W sc fb _ g tk h3
    have b1 := nb X W sc fb false _ p g tk h4
    exact ⟨ok_or a1.e b1.1, fun _ => okT_w (okW_or (a1.t h1) b1.2)⟩
  · cases h
theorem sn_and {a b : E} (ha : SE T N a) (hb : SE T N b) (nb : SN T N b) : SN T N (.and a b) := fun X W sc fb c xs pos g tk h => by
  simp only [chkN, Bool.and_eq_true] at h
  obtain ⟨rfl, h⟩ := h
  split at h
  · simp only [Bool.and_eq_true] at h
    obtain ⟨⟨⟨h1, h2⟩, h3⟩, h4⟩ := h
    have a1 := ha X W sc fb _ g tk h3
    have b1 := hb X W sc fb _ g tk h4
    exact ⟨ok_and a1.e (ok_one b1.e), okW_and (a1.t h1) (okW_one (b1.t h2))⟩
  · simp only [Bool.and_eq_true] at h
    obtain ⟨⟨h1, h3⟩, h4⟩ := h
    have a1 := ha X W sc fb _ g tk h3
    have b1 := nb X W sc fb true _ pos g tk h4
    exact ⟨ok_and a1.e b1.1, okW_and (a1.t h1) b1.2⟩
  · cases h
theorem sn_or {a b : E} (ha : SE T N a) (hb : SE T N b) (nb : SN T N b) : SN T N (.or a b) := fun X W sc fb c xs pos g tk h => by
  simp only [chkN, Bool.and_eq_true, Bool.not_eq_true'] at h
  obtain ⟨rfl, h⟩ := h
  split at h
  · simp only [Bool.and_eq_true] at h
    obtain ⟨⟨⟨h1, h2⟩, h3⟩, h4⟩ := h
    have a1 := ha X W sc fb _ g tk h3
    have b1 := hb X W sc fb _ g tk h4
    exact ⟨ok_or a1.e (ok_one b1.e), okW_or (a1.t h1) (okW_one (b1.t h2))⟩
  · simp only [Bool.and_eq_true] at h
    obtain ⟨⟨h1, h3⟩, h4⟩ := h
    have a1 := ha X W sc fb _ g tk h3
    have b1 := nb X W sc fb false _ pos g tk h4
    exact ⟨ok_or a1.e b1.1, okW_or (a1.t h1) b1.2⟩
  · cases h
theorem s_ite {a b c : E} (hc : SE T N c) (ha : SE T N a) (hb : SE T N b) : SE T N (.ite c a b) := fun X W sc fb ex g tk h => by
  rw [chkE.eq_def] at h; dsimp only at h
  split at h
  · simp only [Bool.and_eq_true] at h
    obtain ⟨⟨⟨h1, h2⟩, h3⟩, h4⟩ := h
    exact ⟨ok_ite ((hc X W sc fb _ g tk h2).t h1) (ha X W sc fb _ g tk h3).e (hb X W sc fb _ g tk h4).e, fun z => by cases z⟩
  · cases h
theorem s_idx {a b : E} (ha : SE T N a) (hb : SE T N b) : SE T N (.idx a b) := fun X W sc fb ex g tk h => by
  rw [chkE.eq_def] at h; dsimp only at h
  split at h
  · simp only [Bool.and_eq_true] at h
    obtain ⟨⟨h1, h2⟩, h3⟩ := h
    exact .pl rfl (ok_idx g h1 (ha X W sc fb _ g tk h2).e (hb X W sc fb _ g tk h3).e)
  · cases h
theorem s_ixo {i : Nat} {b : E} (hb : SE T N b) : SE T N (.ixo i b) := fun X W sc fb ex g tk h => by
  rw [chkE.eq_def] at h; dsimp only at h
  split at h
  · simp only [Bool.and_eq_true] at h
    obtain ⟨⟨h1, h2⟩, h3⟩ := h
    obtain ⟨a1, a2, a3⟩ := nmB_ok h1
    exact .pl rfl (ok_ixo g a1 a2 a3 h2 (hb X W sc fb _ g tk h3).e)
  · cases h
theorem s_leno {i : Nat} : SE T N (.leno i) := fun X W sc fb ex g tk h => by
  rw [chkE.eq_def] at h; dsimp only at h
  split at h
  · simp only [Bool.and_eq_true, decide_eq_true_eq] at h
    obtain ⟨⟨rfl, h2⟩, h3⟩ := h
    obtain ⟨a1, a2, a3⟩ := nmB_ok h3
    exact .pl rfl (ok_leno g h2 a1 a2 a3)
  · cases h
theorem s_slL {a b : E} (ha : SE T N a) (hb : SE T N b) : SE T N (.slL a b) := fun X W sc fb ex g tk h => by
  rw [chkE.eq_def] at h; dsimp only at h
  split at h
  · simp only [Bool.and_eq_true] at h
    exact .pl rfl (ok_slL (ha X W sc fb _ g tk h.1).e (hb X W sc fb _ g tk h.2).e)
  · cases h
theorem s_slU {a b : E} (ha : SE T N a) (hb : SE T N b) : SE T N (.slU a b) := fun X W sc fb ex g tk h => by
  rw [chkE.eq_def] at h; dsimp only at h
  split at h
  · simp only [Bool.and_eq_true] at h
    exact .pl rfl (ok_slU (ha X W sc fb _ g tk h.1).e (hb X W sc fb _ g tk h.2).e)
  · cases h
theorem s_slLU {a b c : E} (ha : SE T N a) (hb : SE T N b) (hc : SE T N c) : SE T N (.slLU a b c) := fun X W sc fb ex g tk h => by
  rw [chkE.eq_def] at h; dsimp only at h
  split at h
  · simp only [Bool.and_eq_true] at h
    exact .pl rfl (ok_slLU (ha X W sc fb _ g tk h.1.1).e (hb X W sc fb _ g tk h.1.2).e (hc X W sc fb _ g tk h.2).e)
  · cases h
theorem s_sl2 {a : E} (ha : SE T N a) : SE T N (.sl2 a) := fun X W sc fb ex g tk h => by
  rw [chkE.eq_def] at h; dsimp only at h
  split at h
  · simp only [Bool.and_eq_true, decide_eq_true_eq] at h
    obtain ⟨rfl, h⟩ := h
    exact .pl rfl (ok_sl2 (ha X W sc fb _ g tk h).e)
  · cases h
theorem s_sl12 {a : E} (ha : SE T N a) : SE T N (.sl12 a) := fun X W sc fb ex g tk h => by
  rw [chkE.eq_def] at h; dsimp only at h
  split at h
  · simp only [Bool.and_eq_true, decide_eq_true_eq] at h
    obtain ⟨⟨rfl, rfl⟩, h⟩ := h
    exact .pl rfl (ok_sl12 (ha X W sc fb _ g tk h).e)
  · cases h
theorem s_slR {a : E} (ha : SE T N a) : SE T N (.slR a) := fun X W sc fb ex g tk h => by
  rw [chkE.eq_def] at h; dsimp only at h
  split at h
  · simp only [Bool.and_eq_true, decide_eq_true_eq] at h
    obtain ⟨rfl, h⟩ := h
    exact .pl rfl (ok_slR (ha X W sc fb _ g tk h).e)
  · cases h
theorem s_dNew {t : Bool} : SE T N (.dNew t) := fun X W sc fb ex g tk h => by
  rw [chkE.eq_def] at h; dsimp only at h
  split at h
  · exact .pl rfl ok_dNew
  · cases h
theorem s_cmpo {op : Cp} {i : Nat} {b : E} (hb : SE T N b) : SE T N (.cmpo op i b) := fun X W sc fb ex g tk h => by
  rw [chkE.eq_def] at h; dsimp only at h
  split at h
  · simp only [Bool.and_eq_true] at h
    obtain ⟨⟨⟨h1, h2⟩, h3⟩, h4⟩ := h
    obtain rfl := cpB_ok h1
    obtain ⟨a1, a2, a3⟩ := nmB_ok h3
    exact ⟨ok_cmpo g h2 a1 a2 a3 (hb X W sc fb _ g tk h4).e, fun _ => okT_cmpo g h2 a1 a2 a3 (hb X W sc fb _ g tk h4).e⟩
  · cases h
theorem s_frz {a : E} (ha : SE T N a) : SE T N (.frz a) := fun X W sc fb ex g tk h => by
  rw [chkE.eq_def] at h; dsimp only at h
  exact ⟨ok_frz (ha X W sc fb _ g tk h).e, fun z => by cases z⟩
theorem s_call {f : Str} {es : Es} (hm : SM T N es) : SE T N (.call f es) := fun X W sc fb ex g tk h => by
  rw [chkE.eq_def] at h; dsimp only at h
  split at h
  · simp only [Bool.and_eq_true, decide_eq_true_eq] at h
    obtain ⟨⟨⟨⟨rfl, h2⟩, h3⟩, h4⟩, h5⟩ := h
    split at h5
    · rename_i mc hG
      cases es with
      | nil => simp [chkM] at h5
      | cons e r => exact .pl rfl (ok_call g tk hG h2 h3 h4 (hm X W sc fb _ _ g tk h5))
    · cases h5
  · cases h
theorem s_bi {b : Bi} {es : Es} (hv : SV T N es) (h0 : ∀ a r, es = .cons a r → SE T N a ∧ SV T N r ∧ ∀ a2 r2, r = .cons a2 r2 → SE T N a2) : SE T N (.bi b es) := fun X W sc fb ex g tk h => by
  rw [chkE.eq_def] at h; dsimp only at h
  split at h
  · simp only [Bool.and_eq_true, decide_eq_true_eq] at h
    obtain ⟨⟨⟨⟨⟨rfl, rfl⟩, h3⟩, h4⟩, h5⟩, h6⟩ := h
    exact .pl rfl (ok_sset g h3 h4 h5 ((h0 _ _ rfl).1 X W sc fb _ g tk h6).e)
  · simp only [Bool.and_eq_true, decide_eq_true_eq] at h
    obtain ⟨⟨⟨⟨⟨rfl, rfl⟩, h3⟩, h4⟩, h5⟩, h6⟩ := h
    exact .pl rfl (ok_listR1 g h3 h4 h5 ((h0 _ _ rfl).1 X W sc fb _ g tk h6).e)
  · simp only [Bool.and_eq_true, decide_eq_true_eq] at h
    obtain ⟨⟨⟨⟨⟨rfl, rfl⟩, h3⟩, h4⟩, h5⟩, h6⟩ := h
    exact .pl rfl (ok_tupR1 g h3 h4 h5 ((h0 _ _ rfl).1 X W sc fb _ g tk h6).e)
  · simp only [Bool.and_eq_true, decide_eq_true_eq] at h
    obtain ⟨⟨⟨⟨⟨⟨⟨rfl, rfl⟩, h3⟩, h4⟩, h5⟩, h6⟩, h7⟩, h8⟩ := h
    exact .pl rfl (ok_listR2 g h3 h4 h5 h6 ((h0 _ _ rfl).1 X W sc fb _ g tk h7).e ((h0 _ _ rfl).2.2 _ _ rfl X W sc fb _ g tk h8).e)
  · simp only [Bool.and_eq_true, decide_eq_true_eq] at h
    obtain ⟨⟨⟨⟨⟨⟨⟨rfl, rfl⟩, h3⟩, h4⟩, h5⟩, h6⟩, h7⟩, h8⟩ := h
    exact .pl rfl (ok_tupR2 g h3 h4 h5 h6 ((h0 _ _ rfl).1 X W sc fb _ g tk h7).e ((h0 _ _ rfl).2.2 _ _ rfl X W sc fb _ g tk h8).e)
  · simp only [Bool.and_eq_true, decide_eq_true_eq] at h
    obtain ⟨⟨⟨⟨⟨h1, rfl⟩, h3⟩, h4⟩, h5⟩, h6⟩ := h
    have e0 := h0 _ _ rfl
    simp only [noStars, Bool.and_eq_true] at h4
    exact .pl rfl (ok_bi g h1 h3 (by simp only [noStars, Bool.and_eq_true]; exact h4) (okV_cons h4.1 (e0.1 X W sc fb _ g tk h5).e (e0.2.1 X W sc fb _ g tk h6).1))
  · cases h
theorem s_isi {e : E} {ty : String} (he : SE T N e) : SE T N (.isi e ty) := fun X W sc fb ex g tk h => by
  rw [chkE.eq_def] at h; dsimp only at h
  split at h
  · simp only [Bool.and_eq_true, decide_eq_true_eq] at h
    obtain ⟨⟨⟨⟨⟨⟨rfl, rfl⟩, h3⟩, h4⟩, h5⟩, h6⟩, h7⟩ := h
    exact .pl rfl (ok_isi g h3 h4 h5 h6 (he X W sc fb _ g tk h7).e)
  · cases h
theorem s_comp {elt : E} {own : List (Str × Nat)} {tg : Tg} {it : DL.It} {c : E} (he : SE T N elt) (hi : SI T N it) (hc : SE T N c) : SE T N (.comp elt own tg it c) := fun X W sc fb ex g tk h => by
  rw [chkE.eq_def] at h; dsimp only at h
  split at h
  · rename_i el tx iter ifs scope p
    simp only [Bool.and_eq_true] at h
    obtain ⟨⟨⟨⟨⟨⟨h1, h2⟩, h3⟩, h4⟩, h5⟩, h6⟩, h7⟩ := h
    have e1 : BOkE X scope el (wpE T.G elt) := fun s H0 C cl fp => (he _ noW _ _ el (g.blk scope s H0 C cl fp) noW_takes h6).e
    have i1 := hi X W sc fb tx iter g tk h5
    split at h7
    · exact .pl rfl (ok_comp g h1 h2 h3 h4 i1 e1)
    · simp only [Bool.and_eq_true] at h7
      exact .pl rfl (ok_compIf g h1 h2 h3 h4 i1 (fun s H0 C cl fp => (hc _ noW _ _ _ (g.blk scope s H0 C cl fp) noW_takes h7.2).t h7.1) e1)
    · cases h7
  · cases h
theorem s_comp2 {elt : E} {own : List (Str × Nat)} {tg tg2 : Tg} {it it2 : DL.It} {vs2 : List Nat} (he : SE T N elt) (hi : SI T N it) (hi2 : SI T N it2) : SE T N (.comp2 elt own tg it vs2 tg2 it2) := fun X W sc fb ex g tk h => by
  rw [chkE.eq_def] at h; dsimp only at h
  split at h
  · rename_i el tx iter tx2 iter2 scope p
    simp only [Bool.and_eq_true] at h
    obtain ⟨⟨⟨⟨⟨⟨⟨⟨⟨⟨h1, h2⟩, h3⟩, h4⟩, h5⟩, h6⟩, h7⟩, h8⟩, h9⟩, h10⟩, h11⟩ := h
    exact .pl rfl (ok_comp2 g h1 h2 h3 h4 h5 h6 h7 h8 (hi X W sc fb tx iter g tk h9) (fun s H0 C cl fp => hi2 _ noW _ _ tx2 iter2 (g.blk scope s H0 C cl fp) noW_takes h10)
      (fun s H0 C cl fp => (he _ noW _ _ el (g.blk scope s H0 C cl fp) noW_takes h11).e))
  · cases h
/-! lists, walks -/
theorem sv_nil : SV T N .nil := fun X W sc fb xs g tk h => by
  rw [chkV.eq_def] at h; dsimp only at h
  cases xs with
  | nil => exact ⟨okV_nil, rfl⟩
  | cons x xs => cases h
theorem sv_cons {e : E} {r : Es} (he : SE T N e) (hr : SV T N r) : SV T N (.cons e r) := fun X W sc fb xs g tk h => by
  rw [chkV.eq_def] at h; dsimp only at h
  split at h
  · simp only [Bool.and_eq_true] at h
    have r1 := hr X W sc fb _ g tk h.2
    exact ⟨okV_cons h.1.1 (he X W sc fb _ g tk h.1.2).e r1.1, by simp only [noStars, Bool.and_eq_true]; exact ⟨h.1.1, r1.2⟩⟩
  · cases h
theorem sm_nil : SM T N .nil := fun X W sc fb ms xs g tk h => by
  simp only [chkM, Bool.and_eq_true, List.isEmpty_iff] at h
  obtain ⟨rfl, rfl⟩ := h
  exact okM_nil
theorem sm_cons {e : E} {r : Es} (he : SE T N e) (hr : SM T N r) : SM T N (.cons e r) := fun X W sc fb ms xs g tk h => by
  simp only [chkM] at h
  split at h
  · simp only [Bool.and_eq_true] at h
    exact okM_val h.1.1 (he X W sc fb _ g tk h.1.2).e (hr X W sc fb _ _ g tk h.2)
  · simp only [Bool.and_eq_true] at h
    exact okM_mv h.1.1 (he X W sc fb _ g tk h.1.2).e (hr X W sc fb _ _ g tk h.2)
  · simp only [Bool.and_eq_true] at h
    obtain ⟨h1, h2⟩ := h
    split at h1
    · obtain ⟨a1, a2, a3⟩ := nmB_ok h1
      exact okM_io g a1 a2 a3 (hr X W sc fb _ _ g tk h2)
    · cases h1
  · cases h
theorem si_seq {e : E} (he : SE T N e) : SI T N (.seq e) := fun X W sc fb tg ex g tk h => by
  rw [chkI.eq_def] at h; dsimp only at h
  exact oki_seq (he X W sc fb _ g tk h).e
theorem si_rng1 {a : E} (ha : SE T N a) : SI T N (.rng1 a) := fun X W sc fb tg ex g tk h => by
  rw [chkI.eq_def] at h; dsimp only at h
  split at h
  · simp only [Bool.and_eq_true, decide_eq_true_eq] at h
    obtain ⟨⟨⟨rfl, h2⟩, h3⟩, h4⟩ := h
    exact oki_rng1 g h2 h3 (ha X W sc fb _ g tk h4).e
  · cases h
theorem si_rng2 {a b : E} (ha : SE T N a) (hb : SE T N b) : SI T N (.rng2 a b) := fun X W sc fb tg ex g tk h => by
  rw [chkI.eq_def] at h; dsimp only at h
  split at h
  · simp only [Bool.and_eq_true, decide_eq_true_eq] at h
    obtain ⟨⟨⟨⟨⟨rfl, h2⟩, h3⟩, h4⟩, h5⟩, h6⟩ := h
    exact oki_rng2 g h2 h3 h4 (ha X W sc fb _ g tk h5).e (hb X W sc fb _ g tk h6).e
  · cases h
theorem si_rngD {a b : E} (ha : SE T N a) (hb : SE T N b) : SI T N (.rngD a b) := fun X W sc fb tg ex g tk h => by
  rw [chkI.eq_def] at h; dsimp only at h
  split at h
  · simp only [Bool.and_eq_true, decide_eq_true_eq] at h
    obtain ⟨⟨⟨⟨⟨rfl, h2⟩, h3⟩, h4⟩, h5⟩, h6⟩ := h
    exact oki_rngD g h2 h3 h4 (ha X W sc fb _ g tk h5).e (hb X W sc fb _ g tk h6).e
  · cases h
theorem si_enum {a : E} (ha : SE T N a) : SI T N (.enum a) := fun X W sc fb tg ex g tk h => by
  rw [chkI.eq_def] at h; dsimp only at h
  split at h
  · simp only [Bool.and_eq_true, decide_eq_true_eq] at h
    obtain ⟨⟨⟨rfl, h2⟩, h3⟩, h4⟩ := h
    exact oki_enum2 g h2 h3 (ha X W sc fb _ g tk h4).e
  · cases h
theorem si_zip {a b : E} (ha : SE T N a) (hb : SE T N b) : SI T N (.zip a b) := fun X W sc fb tg ex g tk h => by
  rw [chkI.eq_def] at h; dsimp only at h
  split at h
  · simp only [Bool.and_eq_true, decide_eq_true_eq] at h
    obtain ⟨⟨⟨⟨⟨rfl, h2⟩, h3⟩, h4⟩, h5⟩, h6⟩ := h
    exact oki_zip g h2 h3 h4 (ha X W sc fb _ g tk h5).e (hb X W sc fb _ g tk h6).e
  · cases h
end
end DL

set_option maxHeartbeats 2000000
namespace DL
open PySem PySem.Spec PyProof.Rows L2

/-! ### try: .. except VisitError as e: return the error's name -/
/-- what a statement wants of its def -/
def Hpo (X : Cx) : Prop := PassesOwn (model X.prog X.w) X.A X.env X.xe ∧ X.stack = X.env :: X.outer ∧ X.env.frame = some X.env.locals
def locS (sc : Scope) (x : Str) : Bool := decide (sc.names.lookup x = some .local)
theorem locS_vis {sc : Scope} {x : Str} (h : locS sc x = true) : visB sc x = true := by
  unfold locS at h; unfold visB; rw [decide_eq_true_eq.mp h]
theorem noIo_at {s : DSt} (h : noIo s = true) {i : Nat} {xs : List D} (e : s[i]? = some (some (.io xs))) : False := by
  have := List.all_eq_true.mp h _ (List.mem_of_getElem? e)
  cases this
section
variable {P : Program} {w : World} {K : PySem.W.Frag} {A0 : Addr → Prop} {F0 H0 F H F2 H2 : Hp} {σ σ2 : L2.St} {s s2 : DSt} {i : Nat}
theorem Wd.again (x : Wd P w K A0 F0 H0 F H σ s) (n : noIo s = true) : Wd P w K (ownA σ s) F H F H σ s where
  len := x.len
  ex := x.ex
  st := Stp.refl _ _ _
  ap := x.ap
  sl := fun i sl e => by
    obtain ⟨v, e1, ok⟩ := x.sl i sl e
    refine ⟨v, e1, ?_⟩
    cases sl with
    | val d => exact ok
    | own c =>
      obtain ⟨p, rfl, h1, h2, h3, h4⟩ := ok
      exact ⟨p, rfl, h1, .inl ⟨i, _, e, .inl ⟨rfl, e1⟩⟩, h3, fun q hq => .inl ⟨i, _, e, .inr hq⟩⟩
    | io xs => exact (noIo_at n e).elim
theorem Wd.up (x : Wd P w K A0 F0 H0 F H σ s) {p : Addr} (h : ownA σ s p ∨ H p = none) : A0 p ∨ H0 p = none := by
  rcases h with z | z
  · exact (x.own z).2.1
  · cases q : H0 p with
    | none => exact .inr rfl
    | some o =>
      by_cases n : A0 p
      · exact .inl n
      · rw [x.st.kp p o q n] at z; cases z
theorem Wd.back (x : Wd P w K A0 F0 H0 F H σ s) (y : Wd P w K (ownA σ s) F H F2 H2 σ2 s2) (n : noIo s2 = true) : Wd P w K A0 F0 H0 F2 H2 σ2 s2 where
  len := y.len
  ex := y.ex
  st := x.st.trans y.st fun a h => x.up (.inl h)
  ap := y.ap
  sl := fun i sl e => by
    obtain ⟨v, e1, ok⟩ := y.sl i sl e
    refine ⟨v, e1, ?_⟩
    cases sl with
    | val d => exact ok
    | own c =>
      obtain ⟨p, rfl, h1, h2, h3, h4⟩ := ok
      exact ⟨p, rfl, h1, x.up h2, h3, fun q hq => x.up (h4 q hq)⟩
    | io xs => exact (noIo_at n e).elim
theorem RsOk.back (x : Wd P w K A0 F0 H0 F H σ s) {v : V} {r : Rs} (ok : RsOk P w K (ownA σ s) H F2 H2 σ2 s2 v r) : RsOk P w K A0 H0 F2 H2 σ2 s2 v r := by
  cases r with
  | v d => exact ok
  | o c =>
    obtain ⟨p, e, h1, h2, h3, h4, h5⟩ := ok
    exact ⟨p, e, h1, h2, h3, x.up h4, fun q m => ⟨(h5 q m).1, x.up (h5 q m).2⟩⟩
theorem drop_at {sl : Sl} {j : Nat} (h : ((dropO s).set i none)[j]? = some (some sl)) : ∃ d, sl = .val d ∧ s[j]? = some (some (.val d)) := by
  rw [List.getElem?_set] at h
  split at h
  · split at h <;> simp at h
  · unfold dropO at h
    rw [List.getElem?_map] at h
    cases e : s[j]? with
    | none => rw [e] at h; cases h
    | some u =>
      rw [e] at h
      cases u with
      | none => cases h
      | some u => cases u <;> cases h; exact ⟨_, rfl, rfl⟩
theorem Wd.caught (x : Wd P w K A0 F0 H0 F H σ s) (kp : ∀ b o, H b = some o → ¬ ownA σ s b → H2 b = some o) : Wd P w K A0 F0 H0 F H2 σ ((dropO s).set i none) where
  len := by rw [x.len, List.length_set, dropO, List.length_map]
  ex := fun a o e => kp a o (x.ex a o e) fun z => by rw [(x.own z).1] at e; cases e
  st := ⟨x.st.ex, fun b o e n => kp b o (x.st.kp b o e n) fun z => (x.own z).2.1.elim n fun q => absurd (q.symm.trans e) nofun, x.st.nw⟩
  sl := fun j sl e => by
    obtain ⟨d, rfl, e2⟩ := drop_at e
    exact x.sl j _ e2
  ap := fun j l a b p e1 e2 m1 m2 => by
    obtain ⟨d, rfl, _⟩ := drop_at e1
    rcases m1 with ⟨m, _⟩ | m <;> cases m
end
section
variable {T : Tab} {X : Cx} {sc : Scope} {N : List Str} {fb : Str → Bool} {W : WX} {n y : Str} {i : Nat} {sts : List Stmt} {body : Ss} {np pos pos' p1 p2 p3 p4 : Pos}
theorem Good.tr (g : Good T X sc N fb) (pn : List (Addr × Obj)) (xe : Value → Shared → Prop) : Good T (X.tr pn xe) sc N fb := ⟨g.n, g.sc, g.fb, g.nd, g.calm, g.room, g.bi, g.cs, g.fn, g.exc, g.er⟩
/-- what the suite wishes -/
def tErr (mg : Str → Option Value) (i : Nat) (a : Addr) (cls : Value) (d : Option Addr) : TS := fun D σ H => ∃ (c : Str) (C : Addr) (σ0 : L2.St), cls = .ref C ∧ d = none ∧ mg c = some (.ref C) ∧ errN c ≠ "else" ∧ σ = σ0.set i (some (.ref a)) ∧
  ∀ H', (∀ b o, H b = some o → H' b = some o) → D.rt (.str (errN c)) H'
theorem ps_errS (g : Good T X sc N fb) (e : ErrFn X.prog X.w X.K X.mg X.base) {a : Addr} {oe : Obj} {cls : Value} {d : Option Addr} {pn : List (Addr × Obj)} (hN : N[i]? = some n) (hl : locS sc n = true) (hn : okNm n = true) (hg : glB sc "_law_error_name" = true) (hz : L2N.Zn cls d oe) (hf : ∃ vs, oe.data = .fields vs) :
    PSs (X.suite a ((a, oe) :: pn)) [.Return (some (.Call (.Name "_law_error_name" p1) [.Name n p2] [] p3)) p4] (tErr X.mg i a cls d) := by
  refine pss_one ⟨fun pins s σ H D I h => ?_⟩
  obtain ⟨c, C, σ0, e1, e2, hm, hc, hσ, hq⟩ := h
  subst e1 e2
  have Gf : Gl (X.suite a ((a, oe) :: pn)) "_law_error_name" := glB_ok (X := X) g hg
  have vis : Vis (X.suite a ((a, oe) :: pn)).env.scope n := by show Vis X.env.scope n; rw [g.sc]; exact visB_ok (locS_vis hl)
  have pv : L2.PE (X.suite a ((a, oe) :: pn)) (.Name n p2) (tVar i) := pe_var (by show X.N[i]? = _; rw [g.n]; exact hN) vis (okNm_dbg hn).1 (okNm_dbg hn).2.1
  obtain ⟨f, fd, hmf, hk, hb, run⟩ := e.fn
  obtain ⟨vs0, hd⟩ := hf
  have pe : L2.PE (X.suite a ((a, oe) :: pn)) (.Call (.Name "_law_error_name" p1) [.Name n p2] [] p3) (fun σ H Q => σ[i]? = some (some (.ref a)) ∧ ∀ H', (∀ b o, H b = some o → H' b = some o) → Q (.str (errN c)) H') := by
    refine ⟨fun pins s σ H Q I h => ?_⟩
    obtain ⟨hv, hq⟩ := h
    refine wpAny_Call_Name_kw (ld_glob I Gf hmf ?_ (by decide))
    refine PySem.W.callWith_K (h₀ := X.base) I.ok.mod.kin hk (thn ((pa_cons pv pa_nil).run p3 pins s σ H (fun vs H1 => vs = [.ref a] ∧ H1 = H) I ⟨_, hv, rfl, rfl⟩) fun us s1 z => ?_) rfl rfl
    obtain ⟨vs, H1, I1, r1, ev, eH⟩ := z
    subst ev eH
    refine ⟨I1.kIn, ?_⟩
    have b := hb s1 us I1.kIn (by rw [List.append_nil]; exact r1.length.symm)
    rw [List.append_nil] at b
    have P1 := I1.pin (a, oe) (List.mem_append_left _ List.mem_cons_self)
    have hpin : L2H.PinOk (X.suite a ((a, oe) :: pn)).stack H1 s1 (a, oe) := ⟨P1.1, P1.2.1, fun m => (List.mem_cons.mp (I1.stkSub a m)).elim P1.2.2.1 P1.2.2.2.1, P1.2.2.2.2⟩
    refine wpAny_call (codeAny_mono (run _ _ s1 H1 ⟨us, []⟩ us a oe C c Q (fun _ _ _ => False) ⟨g.room.dp, g.room.un⟩ ⟨rfl, vs0, hd, hz.2.2 vs0 hd⟩ hpin hz.zc hm hc I1.env0 b r1 hq) fun r s' k => ?_)
    cases r with
    | error e =>
      obtain ⟨_, _, _, _, _, _, _, _, _, _, _, _, z⟩ := k
      exact z.elim
    | ok fl =>
      cases fl with
      | ret u => exact I1.after k
      | next => exact k.elim
      | brk => exact k.elim
      | cont => exact k.elim
  refine (ps_ret pe).run pins s σ H D I ⟨?_, hq⟩
  have hi : i < σ.length := by
    rw [I.len]
    have q : X.N[i]? = some n := by rw [g.n]; exact hN
    exact (List.getElem?_eq_some_iff.mp q).1
  rw [hσ, List.length_set] at hi
  rw [hσ, List.getElem?_set_self hi]
theorem ok_tryN (g : Good T X sc N fb) (er : T.er = true) (tk : L2N.Takes X W) (hpo : Hpo X) (hN : N[i]? = some n) (hl : locS sc n = true) (hn : okNm n = true) (hv : glB sc "VisitError" = true) (hg : glB sc "_law_error_name" = true)
    (hb : ∀ (pn : List (Addr × Obj)) (xe : Value → Shared → Prop) (W' : WX), L2N.Takes (X.tr pn xe) W' → PassesOwn (model X.prog X.w) X.A X.env xe → OkSs (X.tr pn xe) W' sts (wpSs T.G body)) :
    OkS X W (tS X (.Try sts [.ExceptHandler (some (.Name "VisitError" np)) (some n) [.Return (some (.Call (.Name "_law_error_name" p1) [.Name n p2] [] p3)) p4] pos'] [] [] pos)) (wpS T.G (.tryN y i body)) := by
  intro s k hw A0 F0 H0 F H σ D wd en
  rw [wpS, Ks.cas_eq] at hw
  obtain ⟨hio, hw⟩ := hw
  obtain ⟨V, hV, hx⟩ := (g.er er).ve
  have hln : X.env.kindOf n = some .local := by show X.env.scope.names.lookup n = _; rw [g.sc]; exact decide_eq_true_eq.mp hl
  refine (L2N.ps_try_as (Wout := W) (c := .ref V) (i := i) (ts := tErr X.mg i) (tb := fun W' D σ H => ∀ (pn : List (Addr × Obj)) (xe : Value → Shared → Prop), L2N.Takes (X.tr pn xe) W' → PassesOwn (model X.prog X.w) X.A X.env xe → tSs (X.tr pn xe) sts D σ H)
    hpo.2.1 hpo.2.2 (by rw [g.n]; exact g.nd) (by rw [g.n]; exact hN) hln ⟨glB_ok g hv, by decide, .inl hV⟩ tk (fun W' pn xe t1 t2 => ⟨fun pins s σ H D I h => h pn xe t1 t2 pins s I⟩) (fun a oe cls d pn z f => ps_errS g (g.er er) hN hl hn hg z f)).tS ?_
  intro pn xe t1 t2
  refine hb pn xe _ t1 t2 s _ hw (ownA σ s) F H F H σ D (wd.again hio) ⟨fun σ2 s2 F2 H2 ex w2 q => en.nx σ2 s2 F2 H2 ex (wd.back w2 q.1) q.2, fun v σ2 s2 F2 H2 r ex w2 ok q => en.rt v σ2 s2 F2 H2 r ex (wd.back w2 q.1) (RsOk.back wd ok) q.2,
    fun σ2 s2 F2 H2 ex w2 q => en.bk σ2 s2 F2 H2 ex (wd.back w2 q.1) q.2, fun σ2 s2 F2 H2 ex w2 q => en.ct σ2 s2 F2 H2 ex (wd.back w2 q.1) q.2, fun c C σ2 H2 q hm kp => ?_⟩
  refine ⟨true, hx c C q.1 hm, fun _ a _ => ⟨c, C, σ2, rfl, rfl, hm, q.1, rfl, fun H3 le => ?_⟩, fun z => nomatch z⟩
  exact en.rt _ σ _ F H3 (.v (.str (errN c))) (Ex.refl F) (wd.caught (i := i) fun b o e n => le b o (kp b o e n)) (by simp only [RsOk, Rep]) q.2
end
end DL

set_option maxHeartbeats 2000000
namespace DL
open PySem PySem.Spec PyProof.Rows L2
section
variable {T : Tab} {N : List Str}
theorem sn_no {e : E} (h : ∀ sc fb b xs, chkN T N sc fb b e xs = false) : SN T N e := fun X W sc fb b xs pos g tk k => by
  rw [h] at k; cases k
theorem se_no {e : E} (h : ∀ sc fb ex, chkE T N sc fb e ex = false) : SE T N e := fun X W sc fb ex g tk k => by
  rw [h] at k; cases k
def SL (T : Tab) (N : List Str) (es : Es) : Prop := ∀ a r, es = .cons a r → SE T N a ∧ SV T N r ∧ ∀ a2 r2, r = .cons a2 r2 → SE T N a2
mutual
theorem sndE : ∀ e : E, SE T N e ∧ SN T N e
  | .var i => ⟨s_var i, sn_no fun _ _ _ _ => rfl⟩
  | .mv i => ⟨s_mv i, sn_no fun _ _ _ _ => rfl⟩
  | .io i => ⟨s_io i, sn_no fun _ _ _ _ => rfl⟩
  | .int i => ⟨s_int i, sn_no fun _ _ _ _ => rfl⟩
  | .bl b => ⟨s_bl b, sn_no fun _ _ _ _ => rfl⟩
  | .non => ⟨s_non, sn_no fun _ _ _ _ => rfl⟩
  | .str s => ⟨s_str s, sn_no fun _ _ _ _ => rfl⟩
  | .cst x i => ⟨s_cst x i, sn_no fun _ _ _ _ => rfl⟩
  | .tup es => ⟨s_tup (sndV es).1, sn_no fun _ _ _ _ => rfl⟩
  | .lst es => ⟨s_lst (sndV es).1, sn_no fun _ _ _ _ => rfl⟩
  | .bin op a b => ⟨s_bin (sndE a).1 (sndE b).1, sn_no fun _ _ _ _ => rfl⟩
  | .neg a => ⟨s_neg (sndE a).1, sn_no fun _ _ _ _ => rfl⟩
  | .not a => ⟨s_not (sndE a).1, sn_no fun _ _ _ _ => rfl⟩
  | .cmp op a b => ⟨s_cmp (sndE a).1 (sndE b).1, sn_no fun _ _ _ _ => rfl⟩
  | .chain o1 o2 a b c => ⟨s_chain (sndE a).1 (sndE b).1 (sndE c).1, sn_no fun _ _ _ _ => rfl⟩
  | .and a b => ⟨s_and (sndE a).1 (sndE b).1 (sndE b).2, sn_and (sndE a).1 (sndE b).1 (sndE b).2⟩
  | .or a b => ⟨s_or (sndE a).1 (sndE b).1 (sndE b).2, sn_or (sndE a).1 (sndE b).1 (sndE b).2⟩
  | .ite c a b => ⟨s_ite (sndE c).1 (sndE a).1 (sndE b).1, sn_no fun _ _ _ _ => rfl⟩
  | .idx a b => ⟨s_idx (sndE a).1 (sndE b).1, sn_no fun _ _ _ _ => rfl⟩
  | .ixo i b => ⟨s_ixo (sndE b).1, sn_no fun _ _ _ _ => rfl⟩
  | .slL a lo => ⟨s_slL (sndE a).1 (sndE lo).1, sn_no fun _ _ _ _ => rfl⟩
  | .slU a hi => ⟨s_slU (sndE a).1 (sndE hi).1, sn_no fun _ _ _ _ => rfl⟩
  | .slLU a lo hi => ⟨s_slLU (sndE a).1 (sndE lo).1 (sndE hi).1, sn_no fun _ _ _ _ => rfl⟩
  | .slR a => ⟨s_slR (sndE a).1, sn_no fun _ _ _ _ => rfl⟩
  | .sl2 a => ⟨s_sl2 (sndE a).1, sn_no fun _ _ _ _ => rfl⟩
  | .sl12 a => ⟨s_sl12 (sndE a).1, sn_no fun _ _ _ _ => rfl⟩
  | .call f es => ⟨s_call (sndV es).2.1, sn_no fun _ _ _ _ => rfl⟩
  | .bi b es => ⟨s_bi (sndV es).1 (sndV es).2.2, sn_no fun _ _ _ _ => rfl⟩
  | .isi e ty => ⟨s_isi (sndE e).1, sn_no fun _ _ _ _ => rfl⟩
  | .get d k x => ⟨s_get (sndE d).1 (sndE k).1 (sndE x).1, sn_no fun _ _ _ _ => rfl⟩
  | .getE d k => ⟨s_getE (sndE d).1 (sndE k).1, sn_no fun _ _ _ _ => rfl⟩
  | .geto i k x => ⟨s_geto (sndE k).1 (sndE x).1, sn_no fun _ _ _ _ => rfl⟩
  | .ino neg k i => ⟨s_ino (sndE k).1, sn_no fun _ _ _ _ => rfl⟩
  | .nemp a => ⟨s_nemp (sndE a).1, sn_no fun _ _ _ _ => rfl⟩
  | .leno i => ⟨s_leno, sn_no fun _ _ _ _ => rfl⟩
  | .dNew t => ⟨s_dNew, sn_no fun _ _ _ _ => rfl⟩
  | .dOne t k v => ⟨s_dOne (sndE k).1 (sndE v).1, sn_no fun _ _ _ _ => rfl⟩
  | .cmpo op i b => ⟨s_cmpo (sndE b).1, sn_no fun _ _ _ _ => rfl⟩
  | .frz e => ⟨s_frz (sndE e).1, sn_no fun _ _ _ _ => rfl⟩
  | .comp elt own tg it c => ⟨s_comp (sndE elt).1 (sndI it) (sndE c).1, sn_no fun _ _ _ _ => rfl⟩
  | .comp2 elt own tg it vs2 tg2 it2 => ⟨s_comp2 (sndE elt).1 (sndI it) (sndI it2), sn_no fun _ _ _ _ => rfl⟩
  | .callI fs ix es => ⟨se_no fun _ _ _ => rfl, sn_no fun _ _ _ _ => rfl⟩
theorem sndV : ∀ es : Es, SV T N es ∧ SM T N es ∧ SL T N es
  | .nil => ⟨sv_nil, sm_nil, fun a r h => by cases h⟩
  | .cons e r => ⟨sv_cons (sndE e).1 (sndV r).1, sm_cons (sndE e).1 (sndV r).2.1, fun a r' h => by
    cases h
    exact ⟨(sndE e).1, (sndV r).1, fun a2 r2 h2 => ((sndV r).2.2 a2 r2 h2).1⟩⟩
theorem sndI : ∀ it : DL.It, SI T N it
  | .seq e => si_seq (sndE e).1
  | .rng1 e => si_rng1 (sndE e).1
  | .rng2 a b => si_rng2 (sndE a).1 (sndE b).1
  | .rngD a b => si_rngD (sndE a).1 (sndE b).1
  | .enum e => si_enum (sndE e).1
  | .zip a b => si_zip (sndE a).1 (sndE b).1
end
end

/-! ### statements -/
section
variable (T : Tab) (N : List Str)
def ixN? : List (Option Nat) → Unit := fun _ => ()
mutual
def chkS (sc : Scope) (fb : Str → Bool) : S → Stmt → Bool
  | .asg i e, st => (match st with
    | .Assign [.Name x p2] ex _ => decide (N[i]? = some x) && plainV ex && (if swapB sc x p2 ex = true then
        (match e, ex with
          | .comp elt own tg it c, .ListComp el [⟨tx, iter, ifs, 0⟩] scope _ => blkC N sc scope own && tgB (relS scope sc) N (fbB scope) tx tg && tg.ix.all (fun i => decide (i ∈ own.map (·.2))) && notSet iter && chkI T N sc fb it tx iter && chkE T N (relS scope sc) (fbB scope) elt el &&
            (match ifs, c with
              | [], .bl true => true
              | [cx], c => tstB c && chkE T N (relS scope sc) (fbB scope) c cx
              | _, _ => false)
          | _, _ => false)
        else locB sc fb x && chkE T N sc fb e ex)
    | _ => false)
  | .asgT is e, st => (match st with
    | .Assign [.Tuple es _ _] ex _ => namesB sc N fb es is && chkE T N sc fb e ex && (match ex with
      | .Tuple vs _ _ => decide (swapC sc es vs = some none)
      | _ => true)
    | _ => false)
  | .par is es, st => (match is, es, st with
    | [i, j], .cons ea (.cons eb .nil), .Assign [.Tuple [.Name x px, .Name y py] _ _] (.Tuple [a, b] _ _) _ => decide (N[i]? = some x) && decide (N[j]? = some y) && decide (i ≠ j) && decide (sc.names.lookup x = some .local) && decide (sc.names.lookup y = some .local) && notStar a && notStar b &&
      decide (swapC sc [.Name x px, .Name y py] [a, b] = some (some [x, y])) && chkE T N sc fb ea a && chkE T N sc fb eb b
    | [i, j, l], .cons ea (.cons eb (.cons ec .nil)), .Assign [.Tuple [.Name x px, .Name y py, .Name z pz] _ _] (.Tuple [a, b, c] _ _) _ => decide (N[i]? = some x) && decide (N[j]? = some y) && decide (N[l]? = some z) && decide (i ≠ j) && decide (i ≠ l) && decide (j ≠ l) &&
      decide (sc.names.lookup x = some .local) && decide (sc.names.lookup y = some .local) && decide (sc.names.lookup z = some .local) && notStar a && notStar b && notStar c &&
      decide (swapC sc [.Name x px, .Name y py, .Name z pz] [a, b, c] = some (some [x, y, z])) && chkE T N sc fb ea a && chkE T N sc fb eb b && chkE T N sc fb ec c
    | _, _, _ => false)
  | .setIx i k v, st => (match st with
    | .Assign [.Subscript (.Name x _) kx _] ex _ => notSlice kx && nmB N sc x i && chkE T N sc fb v ex && chkE T N sc fb k kx
    | _ => false)
  | .app i e, st => (match st with
    | .Expr (.Call (.Attribute (.Name x _) m apos) [ex] [] cpos) _ => decide (m = "append") && nmB N sc x i && lineB apos cpos && notStar ex && chkE T N sc fb e ex
    | _ => false)
  | .pop i, st => (match st with
    | .Expr (.Call (.Attribute (.Name x _) m apos) [] [] cpos) _ => decide (m = "pop") && nmB N sc x i && lineB apos cpos
    | _ => false)
  | .ite c a b, st => (match st with
    | .If cx sa sb _ => tstB c && chkE T N sc fb c cx && chkSs sc fb a sa && chkSs sc fb b sb
    | _ => false)
  | .for_ tg it body, st => (match st with
    | .For tx iter sts [] _ => tgB sc N fb tx tg && notSet iter && chkI T N sc fb it tx iter && chkSs sc fb body sts
    | _ => false)
  | .while_ c body, st => (match st with
    | .While cx sts [] _ => tstB c && chkE T N sc fb c cx && chkSs sc fb body sts
    | _ => false)
  | .ret e, st => (match st with | .Return (some ex) _ => chkE T N sc fb e ex | _ => false)
  | .retN, st => (match st with | .Return none _ => true | _ => false)
  | .ex e, st => (match st with | .Expr ex _ => notComp ex && chkE T N sc fb e ex | _ => false)
  | .raise c, st => (match st with | .Raise (some (.Call (.Name x _) [.Constant (.str _) _ _] [] _)) none _ => decide (c = x) && T.ex c && glB sc c && okNm c | _ => false)
  | .pass, st => (match st with | .Pass _ => true | .Expr (.Constant (.str _) _ _) _ => true | _ => false)
  | .tryN y i body, st => (match st with
    | .Try sts [.ExceptHandler (some (.Name x _)) (some n) [.Return (some (.Call (.Name f _) [.Name m _] [] _)) _] _] [] [] _ => T.er && decide (x = "VisitError") && decide (f = "_law_error_name") && decide (m = n) && decide (N[i]? = some n) && locS sc n && okNm n && glB sc "VisitError" && glB sc "_law_error_name" && chkSs sc fb body sts
    | _ => false)
  | .nest .., _ => false
def chkSs (sc : Scope) (fb : Str → Bool) : Ss → List Stmt → Bool
  | .nil, sts => sts.isEmpty
  | .cons s r, sts => (match s, sts with
    | .nest f e k h w, a :: b :: c :: sts => chkNest N sc fb f e k h w a b c && chkSs sc fb r sts
    | s, st :: sts => chkS sc fb s st && chkSs sc fb r sts
    | _, [] => false)
end
end
section
variable {T : Tab} {N : List Str}
def SS1 (T : Tab) (N : List Str) (s : S) : Prop := ∀ (X : Cx) (W : WX) (sc : Scope) (fb : Str → Bool) (st : Stmt), Good T X sc N fb → sc.kind = .function → L2N.Takes X W → Hpo X → chkS T N sc fb s st = true → OkS X W (tS X st) (wpS T.G s)
def SSs (T : Tab) (N : List Str) (s : Ss) : Prop := ∀ (X : Cx) (W : WX) (sc : Scope) (fb : Str → Bool) (sts : List Stmt), Good T X sc N fb → sc.kind = .function → L2N.Takes X W → Hpo X → chkSs T N sc fb s sts = true → OkSs X W sts (wpSs T.G s)
theorem ss_asg (i : Nat) (e : E) : SS1 T N (.asg i e) := fun X W sc fb st g hk tk hpo h => by
  rw [chkS.eq_def] at h; dsimp only at h
  split at h
  · rename_i x p2 ex pos
    simp only [Bool.and_eq_true, decide_eq_true_eq] at h
    obtain ⟨⟨h1, h2⟩, h3⟩ := h
    split at h3
    · rename_i hsw
      split at h3
      · rename_i elt own tg it c el tx iter ifs scope p
        simp only [Bool.and_eq_true] at h3
        obtain ⟨⟨⟨⟨⟨⟨k1, k2⟩, k3⟩, k4⟩, k5⟩, k6⟩, k7⟩ := h3
        have e1 : BOkE X scope el (wpE T.G elt) := fun s H0 C cl fp => ((sndE elt).1 _ noW _ _ el (g.blk scope s H0 C cl fp) noW_takes k6).e
        have i1 := sndI it X W sc fb tx iter g tk k5
        split at k7
        · exact ok_setLc g hk h1 hsw k1 k2 k3 k4 i1 e1
        · simp only [Bool.and_eq_true] at k7
          exact ok_setLcIf g hk h1 hsw k1 k2 k3 k4 i1 (fun s H0 C cl fp => ((sndE _).1 _ noW _ _ _ (g.blk scope s H0 C cl fp) noW_takes k7.2).t k7.1) e1
        · cases k7
      · cases h3
    · rename_i hsw
      simp only [Bool.and_eq_true] at h3
      exact ok_asg g hk h1 h3.1 h2 (by simpa using hsw) ((sndE e).1 X W sc fb ex g tk h3.2).e
  · cases h
theorem ss_asgT (is : List Nat) (e : E) : SS1 T N (.asgT is e) := fun X W sc fb st g hk tk hpo h => by
  rw [chkS.eq_def] at h; dsimp only at h
  split at h
  · rename_i es k p ex pos
    simp only [Bool.and_eq_true] at h
    obtain ⟨⟨h1, h2⟩, h3⟩ := h
    have e1 := ((sndE e).1 X W sc fb ex g tk h2).e
    by_cases c : notTup ex = true
    · exact ok_asgT g h1 c e1
    · cases ex <;> simp only [notTup, not_true_eq_false] at c
      simp only [decide_eq_true_eq] at h3
      exact ok_asgT2 g hk h1 h3 e1
  · cases h
theorem ss_par (is : List Nat) (es : Es) : SS1 T N (.par is es) := fun X W sc fb st g hk tk hpo h => by
  rw [chkS.eq_def] at h; dsimp only at h
  split at h
  · simp only [Bool.and_eq_true, decide_eq_true_eq] at h
    obtain ⟨⟨⟨⟨⟨⟨⟨⟨⟨h1, h2⟩, h3⟩, h4⟩, h5⟩, h6⟩, h7⟩, h8⟩, h9⟩, h10⟩ := h
    exact ok_par2 g hk h1 h2 h3 h4 h5 h6 h7 h8 ((sndE _).1 X W sc fb _ g tk h9).e ((sndE _).1 X W sc fb _ g tk h10).e
  · simp only [Bool.and_eq_true, decide_eq_true_eq] at h
    obtain ⟨⟨⟨⟨⟨⟨⟨⟨⟨⟨⟨⟨⟨⟨⟨h1, h2⟩, h3⟩, h4⟩, h5⟩, h6⟩, h7⟩, h8⟩, h9⟩, h10⟩, h11⟩, h12⟩, h13⟩, h14⟩, h15⟩, h16⟩ := h
    exact ok_par3 g hk h1 h2 h3 h4 h5 h6 h7 h8 h9 h10 h11 h12 h13 ((sndE _).1 X W sc fb _ g tk h14).e ((sndE _).1 X W sc fb _ g tk h15).e ((sndE _).1 X W sc fb _ g tk h16).e
  · cases h
theorem ss_setIx (i : Nat) (k v : E) : SS1 T N (.setIx i k v) := fun X W sc fb st g hk tk hpo h => by
  rw [chkS.eq_def] at h; dsimp only at h
  split at h
  · simp only [Bool.and_eq_true] at h
    obtain ⟨⟨⟨h1, h2⟩, h3⟩, h4⟩ := h
    obtain ⟨a1, a2, a3⟩ := nmB_ok h2
    exact ok_setIx g h1 a1 a2 a3 ((sndE v).1 X W sc fb _ g tk h3).e ((sndE k).1 X W sc fb _ g tk h4).e
  · cases h
theorem ss_app (i : Nat) (e : E) : SS1 T N (.app i e) := fun X W sc fb st g hk tk hpo h => by
  rw [chkS.eq_def] at h; dsimp only at h
  split at h
  · simp only [Bool.and_eq_true, decide_eq_true_eq] at h
    obtain ⟨⟨⟨⟨rfl, h2⟩, h3⟩, h4⟩, h5⟩ := h
    obtain ⟨a1, a2, a3⟩ := nmB_ok h2
    exact ok_app g a1 a2 a3 h3 h4 ((sndE e).1 X W sc fb _ g tk h5).e
  · cases h
theorem ss_pop (i : Nat) : SS1 T N (.pop i) := fun X W sc fb st g hk tk hpo h => by
  rw [chkS.eq_def] at h; dsimp only at h
  split at h
  · simp only [Bool.and_eq_true, decide_eq_true_eq] at h
    obtain ⟨⟨rfl, h2⟩, h3⟩ := h
    obtain ⟨a1, a2, a3⟩ := nmB_ok h2
    exact ok_pop g a1 a2 a3 h3
  · cases h
theorem ss_ret (e : E) : SS1 T N (.ret e) := fun X W sc fb st g hk tk hpo h => by
  rw [chkS.eq_def] at h; dsimp only at h
  split at h
  · exact ok_ret ((sndE e).1 X W sc fb _ g tk h).e
  · cases h
theorem ss_retN : SS1 T N .retN := fun X W sc fb st g hk tk hpo h => by
  rw [chkS.eq_def] at h; dsimp only at h
  split at h
  · exact ok_retN
  · cases h
theorem ss_ex (e : E) : SS1 T N (.ex e) := fun X W sc fb st g hk tk hpo h => by
  rw [chkS.eq_def] at h; dsimp only at h
  split at h
  · simp only [Bool.and_eq_true] at h
    exact ok_ex h.1 ((sndE e).1 X W sc fb _ g tk h.2).e
  · cases h
theorem ss_raise (c : Str) : SS1 T N (.raise c) := fun X W sc fb st g hk tk hpo h => by
  rw [chkS.eq_def] at h; dsimp only at h
  split at h
  · simp only [Bool.and_eq_true, decide_eq_true_eq] at h
    obtain ⟨⟨⟨rfl, h2⟩, h3⟩, h4⟩ := h
    exact ok_raise g tk h2 h3 h4
  · cases h
theorem ss_pass : SS1 T N .pass := fun X W sc fb st g hk tk hpo h => by
  rw [chkS.eq_def] at h; dsimp only at h
  split at h
  · exact ok_pass
  · exact ok_doc
  · cases h
mutual
theorem sndS : ∀ s : S, SS1 T N s
  | .asg i e => ss_asg i e
  | .asgT is e => ss_asgT is e
  | .par is es => ss_par is es
  | .setIx i k v => ss_setIx i k v
  | .app i e => ss_app i e
  | .pop i => ss_pop i
  | .ite c a b => fun X W sc fb st g hk tk hpo h => by
    rw [chkS.eq_def] at h; dsimp only at h
    split at h
    · simp only [Bool.and_eq_true] at h
      obtain ⟨⟨⟨h1, h2⟩, h3⟩, h4⟩ := h
      exact ok_if (((sndE c).1 X W sc fb _ g tk h2).t h1) (sndSs a X W sc fb _ g hk tk hpo h3) (sndSs b X W sc fb _ g hk tk hpo h4)
    · cases h
  | .for_ tg it body => fun X W sc fb st g hk tk hpo h => by
    rw [chkS.eq_def] at h; dsimp only at h
    split at h
    · simp only [Bool.and_eq_true] at h
      obtain ⟨⟨⟨h1, h2⟩, h3⟩, h4⟩ := h
      exact ok_for g hpo.1 h1 h2 (sndI it X W sc fb _ _ g tk h3) (sndSs body X W sc fb _ g hk tk hpo h4)
    · cases h
  | .while_ c body => fun X W sc fb st g hk tk hpo h => by
    rw [chkS.eq_def] at h; dsimp only at h
    split at h
    · simp only [Bool.and_eq_true] at h
      obtain ⟨⟨h1, h2⟩, h3⟩ := h
      exact ok_while hpo.1 (((sndE c).1 X W sc fb _ g tk h2).t h1) (sndSs body X W sc fb _ g hk tk hpo h3)
    · cases h
  | .ret e => ss_ret e
  | .retN => ss_retN
  | .ex e => ss_ex e
  | .raise c => ss_raise c
  | .pass => ss_pass
  | .nest f e k h w => fun X W sc fb st g hk tk hpo h => by
    rw [chkS.eq_def] at h; dsimp only at h; cases h
  | .tryN x i b => fun X W sc fb st g hk tk hpo h => by
    rw [chkS.eq_def] at h; dsimp only at h
    split at h
    · simp only [Bool.and_eq_true, decide_eq_true_eq] at h
      obtain ⟨⟨⟨⟨⟨⟨⟨⟨⟨h0, h1⟩, h2⟩, h3⟩, h4⟩, h5⟩, h6⟩, h7⟩, h8⟩, h9⟩ := h
      subst h1 h2 h3
      exact ok_tryN g h0 tk hpo h4 h5 h6 h7 h8 fun pn xe W' t1 t2 => sndSs b (X.tr pn xe) W' sc fb _ (g.tr pn xe) hk t1 ⟨t2, hpo.2⟩ h9
    · cases h
theorem sndSs : ∀ s : Ss, SSs T N s
  | .nil => fun X W sc fb sts g hk tk hpo h => by
    rw [chkSs.eq_def] at h; dsimp only at h
    cases sts with
    | nil => exact okSs_nil
    | cons a b => cases h
  | .cons s r => fun X W sc fb sts g hk tk hpo h => by
    rw [chkSs.eq_def] at h; dsimp only at h
    split at h
    · simp only [Bool.and_eq_true] at h
      exact okSs_nest g hk h.1 (sndSs r X W sc fb _ g hk tk hpo h.2)
    · simp only [Bool.and_eq_true] at h
      exact okSs_cons (sndS s X W sc fb _ g hk tk hpo h.1) (sndSs r X W sc fb _ g hk tk hpo h.2)
    · cases h
end
end
end DL

set_option maxHeartbeats 2000000
namespace DL
open PySem PySem.Spec PyProof.Rows L2 C8

/-! ### defs -/
structure FnAt (P : Program) (w : World) (K : PySem.W.Frag) (mg : Str → Option Value) (base : Heap) (k : Nat) (f : Str) (ms : List Md) (C : Ctr) : Prop where
  ex : ∃ (a : Addr) (fd : FuncData) (ps : List Str), mg f = some (.ref a) ∧ FnOk P w K mg base (L2N.CX P w) k a fd ps (spOf P w K mg ms C) ∧ PySem.W.keepIn K (.ref a) = true ∧ Binds K fd ps []
  mono : CMono C
structure TabOk (P : Program) (w : World) (K : PySem.W.Frag) (mg : Str → Option Value) (base : Heap) (T : Tab) (k : Nat) : Prop where
  bi : ∀ x ∈ builtins, mg x = none
  cs : ∀ x i, T.cs x = some i → ∃ t, mg x = some (.int i t)
  fn : ∀ f ms C, T.G f = some (ms, C) → ∃ j, j ≤ k ∧ FnAt P w K mg base j f ms C
  exc : ∀ c, T.ex c = true → ExcOk K mg c
  er : T.er = true → ErrFn P w K mg base
/-- the slots at a def's start -/
def slD : Md → D → Option Sl
  | .val, d => some (.val d)
  | .io, .lst xs => some (.io xs)
  | .mv, .lst xs => some (.own (.l xs))
  | _, _ => none
def startD (ms : List Md) (ds : List D) (n : Nat) : DSt := List.zipWith slD ms ds ++ List.replicate (n - ms.length) none
def ioIx : List Md → Option Nat
  | [] => none
  | .io :: _ => some 0
  | _ :: ms => (ioIx ms).map (· + 1)
def ioGet (ms : List Md) (s : DSt) (q : List D → Prop) : Prop := match ioIx ms with
  | none => q []
  | some i => match s[i]? with
    | some (some (.io xs)) => q xs
    | _ => False
section
variable {P : Program} {w : World} {K : PySem.W.Frag} {F H : Hp}
theorem ArgsOk.len : ∀ {ms : List Md} {vs : List V} {ds : List D}, ArgsOk P w K F H ms vs ds → ms.length = vs.length ∧ ms.length = ds.length
  | [], [], [], _ => ⟨rfl, rfl⟩
  | m :: ms, v :: vs, d :: ds, h => by
    have h2 : ArgsOk P w K F H ms vs ds := by cases m <;> exact h.2
    obtain ⟨a, b⟩ := ArgsOk.len h2
    exact ⟨by simp [a], by simp [b]⟩
  | [], [], _ :: _, h => (show False from h).elim
  | [], _ :: _, _, h => (show False from h).elim
  | m :: _, [], _, h => by cases m <;> exact (show False from h).elim
  | m :: _, _ :: _, [], h => by cases m <;> exact (show False from h).elim
theorem ArgsOk.at : ∀ {ms : List Md} {vs : List V} {ds : List D}, ArgsOk P w K F H ms vs ds → ∀ (i : Nat) (sl : Sl), (List.zipWith slD ms ds)[i]? = some (some sl) → ∃ v, vs[i]? = some v ∧ SlOk P w K (ioA ms vs) H F H v sl
  | [], [], [], _, i, sl, e => by simp at e
  | m :: ms, v :: vs, d :: ds, h, 0, sl, e => by
    refine ⟨v, rfl, ?_⟩
    simp only [List.zipWith_cons_cons, List.getElem?_cons_zero, Option.some.injEq] at e
    cases m with
    | val => simp only [slD, Option.some.injEq] at e; subst e; exact h.1
    | io =>
      obtain ⟨p, xs, rfl, rfl, hf, ho⟩ := h.1
      simp only [slD, Option.some.injEq] at e; subst e
      exact ⟨p, rfl, hf, .inl rfl, ho⟩
    | mv =>
      obtain ⟨p, xs, rfl, rfl, hf, ho⟩ := h.1
      simp only [slD, Option.some.injEq] at e; subst e
      exact ⟨p, rfl, hf, .inl (.inl rfl), ho, fun q hq => nomatch hq⟩
  | m :: ms, v :: vs, d :: ds, h, i + 1, sl, e => by
    have h2 : ArgsOk P w K F H ms vs ds := by cases m <;> exact h.2
    simp only [List.zipWith_cons_cons, List.getElem?_cons_succ] at e
    obtain ⟨u, e1, ok⟩ := ArgsOk.at h2 i sl e
    refine ⟨u, by simpa using e1, ?_⟩
    have up : ∀ p, ioA ms vs p → ioA (m :: ms) (v :: vs) p := fun p hp => by cases m <;> first | exact hp | exact .inr hp
    cases sl with
    | val d => exact ok
    | own c => obtain ⟨p, a, b, c1, d1, e1⟩ := ok; exact ⟨p, a, b, c1.imp (up p) id, d1, fun q hq => (e1 q hq).imp (up q) id⟩
    | io xs => obtain ⟨p, a, b, c1, d1⟩ := ok; exact ⟨p, a, b, up p c1, d1⟩
  | [], [], _ :: _, h, _, _, _ => (show False from h).elim
  | [], _ :: _, _, h, _, _, _ => (show False from h).elim
  | m :: _, [], _, h, _, _, _ => by cases m <;> exact (show False from h).elim
  | m :: _, _ :: _, [], h, _, _, _ => by cases m <;> exact (show False from h).elim
theorem mut_mem : ∀ {ms : List Md} {vs : List V} {ds : List D}, ArgsOk P w K F H ms vs ds → ∀ (i : Nat) (sl : Sl) (v : V), (List.zipWith slD ms ds)[i]? = some (some sl) → sl.mut = true → vs[i]? = some v → v ∈ mutV ms vs
  | [], [], [], _, i, sl, v, e, _, _ => by simp at e
  | m :: ms, u :: vs, d :: ds, h, 0, sl, v, e, hm, hv => by
    simp only [List.zipWith_cons_cons, List.getElem?_cons_zero, Option.some.injEq] at e hv
    subst hv
    cases m with
    | val => simp only [slD, Option.some.injEq] at e; subst e; cases hm
    | io => exact List.mem_cons_self
    | mv => exact List.mem_cons_self
  | m :: ms, u :: vs, d :: ds, h, i + 1, sl, v, e, hm, hv => by
    have h2 : ArgsOk P w K F H ms vs ds := by cases m <;> exact h.2
    simp only [List.zipWith_cons_cons, List.getElem?_cons_succ] at e hv
    have := mut_mem h2 i sl v e hm hv
    cases m <;> first | exact this | exact List.mem_cons_of_mem _ this
  | [], [], _ :: _, h, _, _, _, _, _, _ => (show False from h).elim
  | [], _ :: _, _, h, _, _, _, _, _, _ => (show False from h).elim
  | m :: _, [], _, h, _, _, _, _, _, _ => by cases m <;> exact (show False from h).elim
  | m :: _, _ :: _, [], h, _, _, _, _, _, _ => by cases m <;> exact (show False from h).elim
theorem mut_ap : ∀ {ms : List Md} {vs : List V} {ds : List D}, ArgsOk P w K F H ms vs ds → (mutV ms vs).Nodup → ∀ (i j : Nat) (s t : Sl) (v : V), (List.zipWith slD ms ds)[i]? = some (some s) → (List.zipWith slD ms ds)[j]? = some (some t) → s.mut = true → t.mut = true → vs[i]? = some v → vs[j]? = some v → i = j
  | [], [], [], _, _, i, j, s, t, v, e, _, _, _, _, _ => by simp at e
  | m :: ms, u :: vs, d :: ds, h, nd, i, j, s, t, v, e1, e2, m1, m2, v1, v2 => by
    have h2 : ArgsOk P w K F H ms vs ds := by cases m <;> exact h.2
    have nd2 : (mutV ms vs).Nodup := by cases m <;> first | exact nd | exact (List.nodup_cons.mp nd).2
    have zero : ∀ (t : Sl) (j : Nat) (s : Sl), (List.zipWith slD (m :: ms) (d :: ds))[0]? = some (some s) → s.mut = true → u = v → (List.zipWith slD ms ds)[j]? = some (some t) → t.mut = true → vs[j]? = some v → False := fun t j s a1 a2 a3 a4 a5 a6 => by
      have := mut_mem h2 j t v a4 a5 a6
      simp only [List.zipWith_cons_cons, List.getElem?_cons_zero, Option.some.injEq] at a1
      subst a3
      cases m with
      | val => simp only [slD, Option.some.injEq] at a1; subst a1; cases a2
      | io => exact (List.nodup_cons.mp nd).1 this
      | mv => exact (List.nodup_cons.mp nd).1 this
    cases i with
    | zero =>
      cases j with
      | zero => rfl
      | succ j => exact (zero t j s e1 m1 (by simpa using v1) (by simpa using e2) m2 (by simpa using v2)).elim
    | succ i =>
      cases j with
      | zero => exact (zero s i t e2 m2 (by simpa using v2) (by simpa using e1) m1 (by simpa using v1)).elim
      | succ j =>
        have := mut_ap h2 nd2 i j s t v (by simpa using e1) (by simpa using e2) m1 m2 (by simpa using v1) (by simpa using v2)
        omega
  | [], [], _ :: _, h, _, _, _, _, _, _, _, _, _, _, _, _ => (show False from h).elim
  | [], _ :: _, _, h, _, _, _, _, _, _, _, _, _, _, _, _ => (show False from h).elim
  | m :: _, [], _, h, _, _, _, _, _, _, _, _, _, _, _, _ => by cases m <;> exact (show False from h).elim
  | m :: _, _ :: _, [], h, _, _, _, _, _, _, _, _, _, _, _, _ => by cases m <;> exact (show False from h).elim
end
theorem ioIx_P {ms : List Md} : ∀ {vs : List V} {i : Nat}, ms.length = vs.length → ioIx ms = some i → ∃ v, vs[i]? = some v ∧ ioP ms vs = some v := by
  induction ms with
  | nil => intro vs i _ h; cases h
  | cons m ms ih =>
    intro vs i hl h
    cases vs with
    | nil => cases hl
    | cons v vs =>
      cases m with
      | io => simp only [ioIx, Option.some.injEq] at h; subst h; exact ⟨v, rfl, rfl⟩
      | val =>
        simp only [ioIx] at h
        cases q : ioIx ms with
        | none => rw [q] at h; cases h
        | some j =>
          rw [q] at h
          simp only [Option.map_some, Option.some.injEq] at h
          subst h
          obtain ⟨u, a, b⟩ := ih (vs := vs) (by simpa using hl) q
          exact ⟨u, by simpa using a, b⟩
      | mv =>
        simp only [ioIx] at h
        cases q : ioIx ms with
        | none => rw [q] at h; cases h
        | some j =>
          rw [q] at h
          simp only [Option.map_some, Option.some.injEq] at h
          subst h
          obtain ⟨u, a, b⟩ := ih (vs := vs) (by simpa using hl) q
          exact ⟨u, by simpa using a, b⟩
theorem ioIx_none {ms : List Md} : ∀ {vs : List V}, ioIx ms = none → ioP ms vs = none := by
  induction ms with
  | nil => intro vs _; cases vs <;> rfl
  | cons m ms ih =>
    intro vs h
    cases vs with
    | nil => cases m <;> rfl
    | cons v vs =>
      cases m with
      | io => cases h
      | val =>
        simp only [ioIx, Option.map_eq_none_iff] at h
        exact ih (vs := vs) h
      | mv =>
        simp only [ioIx, Option.map_eq_none_iff] at h
        exact ih (vs := vs) h
theorem ioA_vals : ∀ {ms : List Md} {vs : List V} {p : Addr}, ms.all (· = .val) = true → ¬ ioA ms vs p
  | [], [], _, _, h => h
  | [], _ :: _, _, _, h => h
  | .val :: _, [], _, _, h => h
  | .val :: ms, _ :: vs, p, ha, h => ioA_vals (ms := ms) (vs := vs) (p := p) (by simpa using ha) h
  | .mv :: _, _, _, ha, _ => by simp at ha
  | .io :: _, _, _, ha, _ => by simp at ha
theorem ioP_vals : ∀ {ms : List Md} {vs : List V}, ms.all (· = .val) = true → ioP ms vs = none ∧ ioIx ms = none
  | [], [], _ => ⟨rfl, rfl⟩
  | [], _ :: _, _ => ⟨rfl, rfl⟩
  | .val :: ms, [], ha => ⟨rfl, by simp only [ioIx, (ioP_vals (ms := ms) (vs := []) (by simpa using ha)).2]; rfl⟩
  | .val :: ms, v :: vs, ha => ⟨(ioP_vals (ms := ms) (vs := vs) (by simpa using ha)).1, by simp only [ioIx, (ioP_vals (ms := ms) (vs := vs) (by simpa using ha)).2]; rfl⟩
  | .mv :: _, _, ha => by simp at ha
  | .io :: _, _, ha => by simp at ha
/-- the one argument that may change is the lent one -/
theorem ioA_io : ∀ {ms : List Md} {vs : List V} {i : Nat} {v : V} {p : Addr}, okMs ms = true → ioIx ms = some i → ioP ms vs = some v → ioA ms vs p → v = .ref p
  | [], _, _, _, _, _, h, _, _ => by cases h
  | .val :: ms, [], _, _, _, _, _, h, _ => by cases h
  | .val :: ms, u :: vs, i, v, p, ho, hi, hp, ha => by
    simp only [ioIx] at hi
    cases q : ioIx ms with
    | none => rw [q] at hi; cases hi
    | some j => exact ioA_io (ms := ms) (vs := vs) ho q hp ha
  | .io :: ms, [], _, _, _, _, _, h, _ => by cases h
  | .io :: ms, u :: vs, i, v, p, ho, hi, hp, ha => by
    cases (show some u = some v from hp)
    rcases (show u = V.ref p ∨ ioA ms vs p from ha) with e | e
    · exact e
    · exact (ioA_vals (ms := ms) (vs := vs) (p := p) ho e).elim
  | .mv :: ms, [], _, _, _, _, _, h, _ => by cases h
  | .mv :: ms, u :: vs, i, v, p, ho, hi, hp, ha => by
    have := (ioP_vals (ms := ms) (vs := vs) ho).1
    rw [show ioP (.mv :: ms) (u :: vs) = ioP ms vs from rfl, this] at hp
    cases hp
theorem slD_kids {ms : List Md} {ds : List D} {i : Nat} {s : Sl} (h : (List.zipWith slD ms ds)[i]? = some (some s)) : s.kids = [] := by
  rw [List.getElem?_zipWith] at h
  split at h
  · rename_i a b e1 e2
    simp only [Option.some.injEq] at h
    unfold slD at h
    split at h <;> cases h <;> rfl
  · cases h
theorem wd_start {P : Program} {w : World} {K : PySem.W.Frag} {F H : Hp} {ms : List Md} {vs : List V} {ds : List D} {N : List Str} (ex : Ex F H) (h : ArgsOk P w K F H ms vs ds) (nd : (mutV ms vs).Nodup) (hn : ms.length ≤ N.length) :
    Wd P w K (ioA ms vs) F H F H (start N vs) (startD ms ds N.length) := by
  obtain ⟨l1, l2⟩ := h.len
  have pre : ∀ (i : Nat) (sl : Sl), (startD ms ds N.length)[i]? = some (some sl) → (List.zipWith slD ms ds)[i]? = some (some sl) ∧ i < vs.length := fun i sl e => by
    unfold startD at e
    by_cases hi : i < (List.zipWith slD ms ds).length
    · rw [List.getElem?_append_left hi] at e
      refine ⟨e, ?_⟩
      rw [List.length_zipWith] at hi
      omega
    · rw [List.getElem?_append_right (by omega), List.getElem?_replicate] at e
      split at e <;> cases e
  have st : ∀ (i : Nat) (v : V), vs[i]? = some v → (start N vs)[i]? = some (some v) := fun i v e => by
    unfold L2.start
    have hi := (List.getElem?_eq_some_iff.mp e).1
    rw [List.getElem?_append_left (by rw [List.length_map]; exact hi), List.getElem?_map, e]
    rfl
  have ts : ∀ (i : Nat) (v : V), i < vs.length → (start N vs)[i]? = some (some v) → vs[i]? = some v := fun i v hi e => by
    unfold L2.start at e
    rw [List.getElem?_append_left (by rw [List.length_map]; exact hi), List.getElem?_map] at e
    cases q : vs[i]? with
    | none => rw [q] at e; cases e
    | some u => rw [q] at e; cases e; rfl
  refine ⟨?_, ex, Stp.refl _ _ _, fun i sl e => ?_, fun i j s t p e1 e2 m1 m2 => ?_⟩
  · unfold L2.start startD
    simp only [List.length_append, List.length_map, List.length_replicate, List.length_zipWith]
    omega
  · obtain ⟨e1, hi⟩ := pre i sl e
    obtain ⟨v, e2, ok⟩ := h.at i sl e1
    exact ⟨v, st i v e2, ok⟩
  · obtain ⟨a1, h1⟩ := pre i s e1
    obtain ⟨a2, h2⟩ := pre j t e2
    have k1 := slD_kids a1
    have k2 := slD_kids a2
    rcases m1 with ⟨m1, r1⟩ | m1
    · rcases m2 with ⟨m2, r2⟩ | m2
      · exact mut_ap h nd i j s t _ a1 a2 m1 m2 (ts i _ h1 r1) (ts j _ h2 r2)
      · rw [k2] at m2; cases m2
    · rw [k1] at m1; cases m1
section
variable {P : Program} {w : World} {K : PySem.W.Frag} {mg : Str → Option Value} {base : Heap} {T : Tab} {k : Nat}
theorem Good.cx {N : List Str} {qual : Str} {scope : Scope} {f : Addr} {cd : Value} {A : Around} {outer : List Env} {s : Shared} {H : Hp} {E : XK} (t : TabOk P w K mg base T k) (nd : N.Nodup) (hk : 1 ≤ k) (hr : Room k (A.deeper (envOfC qual scope s.heap.objs.size f cd))) :
    Good T (cxOf (L2N.CX P w) P w K mg base N qual scope f cd A outer s H E) scope N (fun _ => true) where
  n := rfl
  sc := rfl
  fb := fun _ h => h
  nd := nd
  calm := rfl
  room := hr.mono hk
  bi := t.bi
  cs := t.cs
  fn := fun f ms C h => by
    obtain ⟨j, hj, F⟩ := t.fn f ms C h
    obtain ⟨a, fd, ps, h1, h2, h3, h4⟩ := F.ex
    exact ⟨⟨a, fd, ps, j, h1, h2, hr.mono hj, h3, h4⟩, F.mono⟩
  exc := t.exc
  er := t.er
/-- a def by its term -/
theorem fn_ok {x : Str} {st : Stmt} {f : Addr} {fd : FuncData} {N ps : List Str} {ms : List Md} {C : Ctr} {ss : Ss} (t : TabOk P w K mg base T k) (hk : 1 ≤ k) (Df : Def K mg x st f fd) (hsc : scC N ps (fnScope st) = true) (hms : okMs ms = true) (hl : ms.length = ps.length)
    (chk : chkSs T N (fnScope st) (fun _ => true) ss (fnBody st) = true)
    (hC : ∀ ds K R, C ds K R → wpSs T.G ss (startD ms ds N.length) { nx := fun s => ioGet ms s (K (.v .non)), rt := fun s r => ioGet ms s (K r), xx := R }) : FnOk P w K mg base (L2N.CX P w) (k + 1) f fd ps (spOf P w K mg ms C) := by
  have S := fnScope_by hsc
  have hpl : ps.length ≤ N.length := by have := congrArg List.length S.pre; rw [List.length_take] at this; omega
  obtain ⟨oc, od, dV, kV, doc, pm, an, cdv, ct, osl, rfl, lk, hcd⟩ := Df.fn.ex
  refine fn_of lk hcd S (fun vs H Q E hsp => ?_) fun A outer s H vs Q E hr hsp => ?_
  · obtain ⟨F, ds, _, h1, _⟩ := hsp
    rw [← h1.len.1, hl]
  · obtain ⟨F, ds, ex, h1, nd, hc⟩ := hsp
    refine ⟨_, pSs _, ?_⟩
    have g : Good T (cxOf (L2N.CX P w) P w K mg base N x (fnScope st) f cdv A outer s H E) (fnScope st) N (fun _ => true) := Good.cx t S.nd hk hr
    have tk : L2N.Takes (cxOf (L2N.CX P w) P w K mg base N x (fnScope st) f cdv A outer s H E) (fun cls d _ H => E cls d H) := L2N.takes_of rfl rfl rfl rfl
    have hpo : PassesOwn (model P w) (A.deeper (envOfC x (fnScope st) s.heap.objs.size f cdv)) (envOfC x (fnScope st) s.heap.objs.size f cdv) (cxOf (L2N.CX P w) P w K mg base N x (fnScope st) f cdv A outer s H E).xe := L2.passes_of (X := cxOf (L2N.CX P w) P w K mg base N x (fnScope st) f cdv A outer s H E) rfl
    have wd := wd_start (P := P) (w := w) (K := K) (N := N) ex h1 nd (by omega)
    have fin : ∀ (v : V) (σ : L2.St) (s' : DSt) (F' H' : Hp) (r : Rs) (q : List D → Prop), Ex F F' → Wd P w K (ioA ms vs) F H F' H' σ s' → RsOk P w K (ioA ms vs) H F' H' σ s' v r → ioGet ms s' q →
        ∃ io, q io ∧ IoOk P w K F' H' (ioP ms vs) io ∧ CRes P w K (ioA ms vs) (ioP ms vs) H F' H' v r := fun v σ s' F' H' r q _ w' ok hg => by
      unfold ioGet at hg
      split at hg
      · rename_i hn
        refine ⟨[], hg, by rw [ioIx_none hn]; rfl, ?_⟩
        cases r with
        | v d => exact ok
        | o c =>
          obtain ⟨p, rfl, hf, ho, no, hz, hk⟩ := ok
          exact ⟨p, rfl, hf, ho, by rw [ioIx_none hn]; exact nofun, hz, fun q hq => ⟨by rw [ioIx_none hn]; exact nofun, (hk q hq).2⟩⟩
      · rename_i i hi
        split at hg
        · rename_i xs hs
          obtain ⟨u, e1, p, rfl, hf, ha, ho⟩ := w'.sl i _ hs
          obtain ⟨u2, e2, e3⟩ := ioIx_P (vs := vs) (by rw [h1.len.1]) hi
          obtain rfl := ioA_io (vs := vs) hms hi e3 ha
          refine ⟨xs, hg, by rw [e3]; exact ⟨p, rfl, hf, ho⟩, ?_⟩
          cases r with
          | v d => exact ok
          | o c =>
            obtain ⟨p2, rfl, hf2, ho2, no2, hz, hk⟩ := ok
            have nn : ∀ q, ¬ ownA σ s' q → some (V.ref q) ≠ ioP ms vs := fun q no2 => by
              rw [e3]
              intro z
              cases z
              exact no2 ⟨i, _, hs, .inl ⟨rfl, e1⟩⟩
            exact ⟨p2, rfl, hf2, ho2, nn p2 no2, hz, fun q hq => ⟨nn q (hk q hq).1, (hk q hq).2⟩⟩
        · exact hg.elim
    have main := sndSs ss _ _ (fnScope st) (fun _ => true) (fnBody st) g S.kind tk ⟨hpo, rfl, rfl⟩ chk (startD ms ds N.length) _ (hC ds _ _ hc) (ioA ms vs) F H F H (start N vs) { nx := fun _ H' => Q .non H', rt := Q } wd
    refine main ⟨fun σ s' F' H' e w' hk2 => ?_, fun v σ s' F' H' r e w' ok hk2 => ?_, fun _ _ _ _ _ _ z => z.elim, fun _ _ _ _ _ _ z => z.elim, fun c Ca σ H' hx hm kp => hx Ca H' hm kp⟩
    · dsimp only at hk2
      obtain ⟨io, h5, h6, h7⟩ := fin .non σ s' F' H' (.v .non) _ e w' (by simp only [RsOk, Rep]) hk2
      exact h5 .non F' H' w'.ex w'.st h6 h7
    · dsimp only at hk2
      obtain ⟨io, h5, h6, h7⟩ := fin v σ s' F' H' r _ e w' ok hk2
      exact h5 v F' H' w'.ex w'.st h6 h7
theorem fn_term {x : Str} {st : Stmt} {f : Addr} {fd : FuncData} {N ps : List Str} {ms : List Md} {C : Ctr} {ss : Ss} (t : TabOk P w K mg base T k) (hk : 1 ≤ k) (Df : Def K mg x st f fd) (hb : Binds K fd ps []) (hsc : scC N ps (fnScope st) = true) (hms : okMs ms = true) (hl : ms.length = ps.length)
    (chk : chkSs T N (fnScope st) (fun _ => true) ss (fnBody st) = true)
    (hC : ∀ ds K R, C ds K R → wpSs T.G ss (startD ms ds N.length) { nx := fun s => ioGet ms s (K (.v .non)), rt := fun s r => ioGet ms s (K r), xx := R }) (mono : CMono C) : FnAt P w K mg base (k + 1) x ms C := 
  ⟨⟨f, fd, ps, Df.mgf, fn_ok t hk Df hsc hms hl chk hC, Df.kp, hb⟩, mono⟩
end
end DL

set_option maxHeartbeats 2000000
namespace DL
open PySem PySem.Spec PyProof.Rows L2 C8
/-! ### the law's own end -/
def spLaw (K : PySem.W.Frag) : Sp := fun vs H Q _ => ∃ (a : Addr) (ns : List Int), vs = [.ref a] ∧ SqL K H a (ns.map V.int) ∧ ns.length ≤ 63 ∧ ∀ H', Q (.bl true) H'
def c_law : Ctr := fun ds K _ => ∃ ns : List Int, ds = [.scr (ns.map iD)] ∧ ns.length ≤ 63 ∧ K (.v (.bl true)) []
theorem c_law_mono : CMono c_law := fun ds K K' R R' h _ ⟨ns, e, hl, hk⟩ => ⟨ns, e, hl, h _ _ hk⟩
theorem law_sp {P : Program} {w : World} {K : PySem.W.Frag} {mg : Str → Option Value} {vs : List V} {H : Hp} {Q : VK} {E : XK} (h : spLaw K vs H Q E) : spOf P w K mg [.val] c_law vs H Q E := by
  obtain ⟨a, ns, rfl, hs, hl, q⟩ := h
  refine ⟨H, [.scr (ns.map iD)], Ex.refl H, ⟨?_, trivial⟩, List.nodup_nil, ns, rfl, hl, fun v F' H' _ _ _ hc => ?_⟩
  · rw [Rep]
    exact ⟨a, _, rfl, hs, reps_ints ns⟩
  · simp only [CRes, Rep] at hc
    subst hc
    exact q H'
theorem law_end {l : PySem.W.OpenLaw} {q : Program} {loose : List Str} {XP : (Str → Option Value) → Heap → Prop} {YP : World → Heap → Prop} {d : DefRec} {K : Params → PySem.W.Frag} {k : Nat} (hk : Room k callerA) (hn : l.most = some 63) (hdf : d.params.defaults = [])
    (hY : ∀ (w : World) (h : Heap), YP w h → (K w.params).In h)
    (F : ∀ (w : World) (mg : Str → Option Value) (fa : Addr) (h : Heap), (K w.params).In h → h.Ns mainGlobals mg → mg d.name = some (.ref fa) →
      ∃ fd : FuncData, (∀ (s : Shared) (u : Value), BindsTo s fd ⟨[u], []⟩ [("script", u)]) ∧ ∀ base : Heap, (K w.params).In base → base.Ns mainGlobals mg → FnOk l.prog w (K w.params) mg base (L2N.CX l.prog w) k fa fd ["script"] (spOf l.prog w (K w.params) mg [.val] c_law)) :
    PySem.W.WalkO q loose XP YP l.row.toRowW d [] (fun f vs => PySem.call f vs) := by
  refine L2.walk_of (n := 63) (k := k) (x := "script") (CX := fun w => L2N.CX l.prog w) (sp := fun w => spLaw (K w.params)) hn (by decide) hdf hk hY (fun w mg fa h KX G hm => ?_) (fun _ _ a ns hl _ hS => ⟨a, ns, rfl, hS, hl, fun _ => rfl⟩) fun _ _ _ _ _ z => ?_
  · obtain ⟨fd, hb, hF⟩ := F w mg fa h KX G hm
    exact ⟨fd, hb, fun base hB hG => (hF base hB hG).imp fun vs H Q E h => law_sp h⟩
  · obtain ⟨a, B, H', cls, dd, _, _, _, _, _, _, _, z⟩ := z
    exact z
/-- what the top has written of a def -/
def DefFacts (K : PySem.W.Frag) (x : Str) (st : Stmt) : Prop := ∃ (f : Addr) (oc : Value) (od : Option Addr) (sl : Array (Option Value)) (kV dc pm : Value) (an : Option Addr) (cd ct : Value),
  PySem.W.nsIn K mainGlobals x = some (some (.ref f)) ∧ K.lookup f = some ⟨oc, od, .func (PySem.W.fnOf x x (fnArgs st) (fnBody st) (fnScope st) .none kV dc pm an cd ct), sl⟩ ∧ PySem.W.codeIn K cd x = true ∧ PySem.W.keepIn K (.ref f) = true
theorem DefFacts.mk {K : PySem.W.Frag} {x : Str} {st : Stmt} {f : Addr} {oc : Value} {od : Option Addr} {sl : Array (Option Value)} {kV dc pm : Value} {an : Option Addr} {cd ct : Value} (a : PySem.W.nsIn K mainGlobals x = some (some (.ref f)))
    (l : K.lookup f = some ⟨oc, od, .func (PySem.W.fnOf x x (fnArgs st) (fnBody st) (fnScope st) .none kV dc pm an cd ct), sl⟩) (c : PySem.W.codeIn K cd x = true) (k : PySem.W.keepIn K (.ref f) = true) : DefFacts K x st := ⟨f, oc, od, sl, kV, dc, pm, an, cd, ct, a, l, c, k⟩
theorem DefFacts.def {K : PySem.W.Frag} {x : Str} {st : Stmt} {h : Heap} {mg : Str → Option Value} (d : DefFacts K x st) (X : K.In h) (G : h.Ns mainGlobals mg) : ∃ f fd, Def K mg x st f fd ∧ fd.defaults = .none := by
  obtain ⟨f, oc, od, sl, kV, dc, pm, an, cd, ct, a, l, c, k⟩ := d
  exact ⟨f, _, ⟨⟨oc, od, .none, kV, dc, pm, an, cd, ct, sl, rfl, l, c⟩, PySem.W.mg_of X G a, k⟩, rfl⟩
theorem DefFacts.of {K : PySem.W.Frag} {h : Heap} (_ : K.In h) {x : Str} {st : Stmt} (t : DefFacts K x st) : DefFacts K x st := t
end DL

set_option maxHeartbeats 2000000
namespace DL
open PySem PySem.Spec PyProof.Rows L2 HotX

/-! ### the end of an iterator while an exception is handled -/
section
variable {prog : Program} {w : World} {A : Around} {E : Value → Shared → Prop} {s : Shared}
/-- the new StopIteration, not yet raised -/
theorem stop_new {α : Type} {k : Value → Sem α} {Q : α → Shared → Prop} (h : ∀ h' a vs, (∀ b o, s.heap.get? b = some o → h'.get? b = some o) → s.heap.get? a = none → h'.get? a = some { cls := .type "StopIteration", data := .fields vs } → 2 < vs.size → wpAny (model prog w) A (k (.ref a)) Q E { s with heap := h' }) :
    wpAny (model prog w) A (newExc (.type "StopIteration") [] >>= k) Q E s := by
  refine wpAny_bind ?_
  simp only [newExc, newTuple]
  refine wpAny_bind (wpAny_newObj_type ?_ (by size_fits)); refine wpAny_bind (m := firstArgMember _ _) (wpAny_of_eq (a := Value.none) (by first | rfl | (simp only [firstArgMember]; rfl)) ?_); refine wpAny_newObj_type ?_ (by size_fits)
  refine h _ _ _ (fun b o e => Heap.get?_push_of_some _ (Heap.get?_push_of_some _ e)) ?_ (Heap.get?_push_size _ rfl) (by first | (simp; done) | (simp; omega) | (simp only [Array.size_append]; simp; omega))
  refine Option.eq_none_iff_forall_ne_some.mpr fun o q => ?_
  have h1 := Heap.lt_size q; rw [Heap.size_push] at h1; exact absurd h1 (by have := Nat.lt_succ_self s.heap.objs.size; exact Nat.not_lt.mpr (Nat.le_succ _))
/-- raised -/
theorem stop_raise {α : Type} {x1 a : Addr} {h : Heap} {vs : Array Value} {Q : α → Shared → Prop} (hot : HotAt A x1 s.heap) (k : ∀ b o, s.heap.get? b = some o → h.get? b = some o) (hn : s.heap.get? a = none) (ha : h.get? a = some { cls := .type "StopIteration", data := .fields vs }) (hz : 2 < vs.size)
    (hE : ∀ h', (∀ b o, s.heap.get? b = some o → h'.get? b = some o) → (∃ o, h'.get? a = some o ∧ o.cls = .type "StopIteration") → E (.ref a) { s with heap := h' }) : wpAny (model prog w) A (raiseNew (.ref a) : Sem α) Q E { s with heap := h } := by
  obtain ⟨hh, o1, v1, h1, d1, c1⟩ := hot
  have ne : x1 ≠ a := fun e => by rw [e, hn] at h1; cases h1
  refine raiseNew_hot ⟨hh, o1, v1, k _ _ h1, d1, c1⟩ ne ha rfl hz (hE _ (fun b o e => ?_) ⟨_, Heap.get?_update_self _ ha rfl, rfl⟩)
  rw [Heap.get?_update_other _ _ (fun e' => by rw [← e', hn] at e; cases e)]
  exact k b o e
/-- a list's iterator, at its end -/
theorem list_hot {it l x1 : Addr} {i : Nat} {items : Array Value} {Q : Value → Shared → Prop} (hot : HotAt A x1 s.heap) (ne : x1 ≠ it) (li : s.heap.IsListIter it l i) (hl : s.heap.IsList l items) (hx : items[i]? = none)
    (fin : ∀ h' e, Heap.ExtBut it s.heap h' → (∃ o, h'.get? e = some o ∧ o.cls = .type "StopIteration") → E (.ref e) { s with heap := h' }) : wpAny (model prog w) A (Builtin.SmallTypes.nextOf (.ref it)) Q E s := by
  obtain ⟨u, hu, _, du⟩ := id li
  obtain ⟨v, hv, _, n, dv⟩ := hl
  obtain ⟨hh, o1, v1, h1, d1, c1⟩ := hot
  unfold Builtin.SmallTypes.nextOf
  have start := args_listiter_next (.ref it)
  refine wpAny_bind (wpAny_callSpecial?_slot (name := Str.ofString "__next__") li.typeIs slot_listiter_next (wpAny_call_entry slot_listiter_next li.typeIs entry_listiter_next ?_ (args_listiter_next _)))
  show wpAny _ _ (field (.ref it) 0 >>= _) _ _ s; refine wpAny_bind (wpAny_field hu du (x := .ref l) rfl ?_)
  show wpAny _ _ (if (Value.ref l == Value.none) = true then _ else _) _ _ s; rw [if_neg (show ¬ ((Value.ref l == Value.none) = true) from Bool.false_ne_true)]
  show wpAny _ _ (field (.ref it) 1 >>= _) _ _ s; refine wpAny_bind (wpAny_field hu du (x := .int i 0) rfl ?_)
  show wpAny _ _ (seqItems? (.ref l) >>= _) _ _ s; refine wpAny_bind (wpAny_seqItems hv dv ?_); simp only [Int.toNat_natCast, hx]
  refine wpAny_bind (wpAny_rule (wpAny_bind (wpAny_setField hu du (by simp) ?_)))
  show wpAny _ _ (newExc (.type "StopIteration") [] >>= _) _ _ _; refine stop_new fun h' a vs k hn ha hz => ?_
  refine stop_raise (A := A.in1) (x1 := x1) ⟨hh, o1, v1, by rw [Heap.get?_update_other _ _ (Ne.symm ne)]; exact h1, d1, c1⟩ k hn ha hz fun h2 k2 ho => fin h2 a (fun b o hb e => k2 b o ?_) ho
  rw [Heap.get?_update_other _ _ (Ne.symm hb)]; exact e
/-- .. as zip asks it -/
theorem draws_list {it l x1 : Addr} {items : Array Value} (hh : A.handled = some (.ref x1)) (nl : l ≠ it) (n1 : x1 ≠ it) :
    Draws prog w A it [it, l, x1] items.size (fun i v => items[i]? = some v) (fun i h => h.IsListIter it l i ∧ h.IsList l items ∧ HotAt A x1 h) where
  live := fun _ _ st => let ⟨o, ho, _⟩ := st.1; ⟨o, ho⟩
  frame := fun i h h' st hk => ⟨st.1.at fun o e => hk it (by simp) o e, st.2.1.at fun o e => hk l (by simp) o e, hh, by
    obtain ⟨_, o1, v1, h1, d1, c1⟩ := st.2.2; exact ⟨o1, v1, hk x1 (by simp) _ h1, d1, c1⟩⟩
  item := fun i s Q E hi st hQ => by
    refine wpAny_nextOf_list_item st.1 st.2.1 (x := items[i]) (by simp [hi]) fun h' it' sb => ?_
    refine hQ _ h' s.toks (by simp [hi]) ⟨it', st.2.1.extBut sb.extBut nl, hh, ?_⟩ sb
    obtain ⟨_, o1, v1, h1, d1, c1⟩ := st.2.2; exact ⟨o1, v1, (sb.2 x1 n1).trans h1, d1, c1⟩
  done := fun s Q E st fin => list_hot st.2.2 n1 st.1 st.2.1 (by simp) fin
/-- a tuple's iterator, at its end -/
theorem tup_hot {it t x1 : Addr} {i : Nat} {items : Array Value} {Q : Option Value → Shared → Prop} (hot : HotAt A x1 s.heap) (ne : x1 ≠ it) (ti : IsTupIter s.heap it t i) (ht : IsTup s.heap t items) (hx : items[i]? = none)
    (fin : ∀ h', Heap.ExtBut it s.heap h' → Q none { s with heap := h' }) : wpAny (model prog w) A (pyNext (.ref it)) Q E s := by
  obtain ⟨u, hu, _, du⟩ := id ti
  obtain ⟨v, hv, _, n, dv⟩ := ht
  obtain ⟨hh, o1, v1, h1, d1, c1⟩ := hot
  unfold pyNext
  refine wpAny_bind (wpAny_attempt (wpAny_callSpecial?_slot (name := Str.ofString "__next__") ti.typeIs slot_tupleiter_next (wpAny_call_entry slot_tupleiter_next ti.typeIs entry_tupleiter_next ?_ (args_tupleiter_next _))))
  show wpAny _ _ (field (.ref it) 0 >>= _) _ _ s; refine wpAny_bind (wpAny_field hu du (x := .ref t) rfl ?_)
  show wpAny _ _ (if (Value.ref t == Value.none) = true then _ else _) _ _ s; rw [if_neg (show ¬ ((Value.ref t == Value.none) = true) from Bool.false_ne_true)]
  show wpAny _ _ (field (.ref it) 1 >>= _) _ _ s; refine wpAny_bind (wpAny_field hu du (x := .int i 0) rfl ?_)
  show wpAny _ _ (seqItems? (.ref t) >>= _) _ _ s; refine wpAny_bind (wpAny_seqItems hv dv ?_); simp only [Int.toNat_natCast, hx]
  refine wpAny_bind (wpAny_rule (wpAny_bind (wpAny_setField hu du (by simp) ?_)))
  show wpAny _ _ (newExc (.type "StopIteration") [] >>= _) _ _ _; refine stop_new fun h' a vs k hn ha hz => ?_
  refine stop_raise (A := A.in1) (x1 := x1) ⟨hh, o1, v1, by rw [Heap.get?_update_other _ _ (Ne.symm ne)]; exact h1, d1, c1⟩ k hn ha hz fun h2 k2 ho => ?_
  obtain ⟨o, ho, hc⟩ := ho
  refine wpAny_bind (wpAny_isInstance (T := "StopIteration") (b := true) ⟨o, ho, hc⟩ isSubtype_stop (wpAny_pure (fin _ fun b o hb e => k2 b o ?_)))
  rw [Heap.get?_update_other _ _ (Ne.symm hb)]; exact e
/-- a, b = a tuple -/
theorem unpack_hot {env : Env} {elts : List Expr} {k : Nat} {pos : Pos} {t x1 : Addr} {items : Array Value} {Q : Unit → Shared → Prop} (hot : HotAt A x1 s.heap) (ht : IsTup s.heap t items) (hn : (assignEach elts env).length = items.size) (hst : (assignEach elts env).findIdx? (·.1) = none)
    (fin : ∀ h', Heap.ExtBut s.heap.objs.size s.heap h' → wpAny (model prog w) A (assignInOrder ((assignEach elts env).map (·.2)) items.toList) Q E { s with heap := h' }) : wpAny (model prog w) A (assign (.Tuple elts k pos) env (.ref t)) Q E s := by
  have lt : t ≠ s.heap.objs.size := by obtain ⟨o, ho, _⟩ := ht; exact Nat.ne_of_lt (Heap.lt_size ho)
  obtain ⟨hh, o1, v1, h1, d1, c1⟩ := hot
  have l1 : x1 ≠ s.heap.objs.size := Nat.ne_of_lt (Heap.lt_size h1)
  rw [assign_Tuple]
  refine wpAny_bind (wpAny_standAt ?_)
  unfold unpack
  rw [hn, hst]
  refine wpAny_bind (wpAny_holding ?_)
  unfold unpackItems
  refine wpAny_bind ?_
  unfold notIterableAtAll
  refine wpAny_bind (wpAny_specialOf ht.typeIs slot_tuple_iter.lookup (wpAny_pure ?_))
  simp only [Bool.false_eq_true, if_false]
  refine wpAny_bind (wpAny_holding (iter_tuple ht ?_))
  refine wpAny_bind (wpAny_holding (draw_tuple lt items.size 0 _ _ ⟨_, Heap.get?_push_size _ rfl, rfl, rfl⟩ (ht.push _) (by omega) fun h2 i2 sb => ?_))
  have all : List.take items.size (List.drop 0 items.toList) = items.toList := by rw [List.drop_zero]; exact List.take_of_length_le (by simp)
  rw [all, if_neg (by simp)]
  have t2 : IsTup h2 t items := (ht.push _).extBut sb.extBut lt
  refine wpAny_bind (wpAny_holding (tup_hot (x1 := x1) ⟨hh, o1, v1, (sb.2 x1 l1).trans (Heap.get?_push_of_some _ h1), d1, c1⟩ l1 i2 t2 (by simp) fun h3 e3 => ?_))
  simp only [Option.isSome_none, Bool.false_eq_true, if_false]
  exact wpAny_pure (fin h3 fun b o hb e => e3 b o hb (sb.extBut b o hb (Heap.get?_push_of_some _ e)))
end
end DL

set_option maxHeartbeats 2000000
namespace DL
open PySem PySem.Spec PyProof.Rows L2 HotX

/-! ### a context within an except suite -/
/-- the handled exception stands out of reach -/
structure HotB (X : Cx) (x1 : Addr) : Prop where
  hh : X.A.handled = some (.ref x1)
  ob : ∃ (o : Obj) (vs : Array Value), X.s_0.heap.get? x1 = some o ∧ o.data = .fields vs ∧ vs[2]? = some .none
  h0 : X.H_0 x1 = none
  fs : x1 ∉ X.fs
  ex : x1 ∉ X.ex
theorem HotB.at {X : Cx} {x1 : Addr} {pins : List (Addr × Obj)} {σ : L2.St} {H : Hp} {s : Shared} (c : HotB X x1) (I : Inv X pins σ H s) : HotAt X.A x1 s.heap := by
  obtain ⟨o, vs, e, d, n⟩ := c.ob
  exact ⟨c.hh, o, vs, I.base.keep x1 o e c.h0 c.fs c.ex, d, n⟩
theorem HotB.off {X : Cx} {x1 : Addr} {pins : List (Addr × Obj)} {σ : L2.St} {H : Hp} {s : Shared} (c : HotB X x1) (I : Inv X pins σ H s) : H x1 = none := by
  obtain ⟨o, vs, e, d, n⟩ := c.ob
  exact I.base.free x1 o e c.h0 c.ex
/-- a block of its own there -/
theorem HotB.blk {X : Cx} {x1 : Addr} {pins : List (Addr × Obj)} {σ : L2.St} {H : Hp} {s : Shared} {sc : Scope} {ce : Env} {fp : List Addr} (c : HotB X x1) (I : Inv X pins σ H s) (hf : ∀ b ∈ fp, FpOk X pins H b) : HotB (X.blk s H sc ce fp) x1 := by
  obtain ⟨hh, o, vs, e, d, n⟩ := c.at I
  obtain ⟨o0, v0, e0, _, _⟩ := c.ob
  have lt := Heap.lt_size e0
  have nl : x1 ≠ X.env.locals := Nat.ne_of_lt (Nat.lt_of_lt_of_le lt I.ok.above)
  refine ⟨hh, ⟨o, vs, e, d, n⟩, c.off I, fun m => ?_, fun m => ?_⟩
  · have m' : x1 ∈ frs X.stack := m
    rcases I.ok.stk with q | ⟨q, q2⟩
    · rw [q] at m'; exact c.fs m'
    · rw [q] at m'
      simp only [frs, List.filterMap_cons, q2, List.mem_cons] at m'
      exact m'.elim nl c.fs
  · rcases (hf x1 m).2.2.2.1 with q | q
    · exact c.ex q
    · exact absurd lt (Nat.not_lt.mpr q)
/-- a, b = a tuple -/
theorem pg_tupH {X : Cx} {x1 : Addr} {es : List Expr} {k : Nat} {t : TGs} {n : Nat} {pos : Pos} (c : HotB X x1) (h : PGs X es t) (hn : (assignEach es X.env).length = n) (hst : (assignEach es X.env).findIdx? (·.1) = none) : PG X (.Tuple es k pos) (gTup X.K n t) := by
  refine ⟨fun pins s σ H v u Q I r hw => ?_⟩
  obtain ⟨a, xs, e1, hq, hl, hw⟩ := hw
  subst e1; cases r
  obtain ⟨its, rv, ht, _⟩ := I.tuple hq
  refine unpack_hot (c.at I) ht (by simp [hn, ← hl, rv.length]) hst fun h' hx => h.run pins _ σ H xs _ Q ?_ (by simpa using rv) hw
  exact I.kept (t' := s.toks) fun b o e => hx b o (Nat.ne_of_lt (Heap.lt_size e)) e
/-! ### iterators there -/
structure TurnY (P : Program) (w : World) (K : PySem.W.Frag) (x1 : Addr) (tg : Expr) (J : L2.It) (fp : List Addr) (it : Addr) (tn : Nat → Heap → Prop) : Prop where
  obj : ∀ i h, tn i h → ∀ b ∈ fp, ∃ o, h.get? b = some o ∧ ∀ v, o.data ≠ .cell v
  keep : ∀ i h h', tn i h → (∀ b ∈ fp, ∀ o, h.get? b = some o → h'.get? b = some o) → tn i h'
  item : ∀ (X : Cx), X.prog = P → X.w = w → X.K = K → HotB X x1 → ∀ (i : Nat) (pins : List (Addr × Obj)) (s : Shared) (σ : L2.St) (H : Hp) (E : Value → Shared → Prop), Inv X pins σ H s → (∀ b ∈ fp, FpOk X pins H b) → tn i s.heap → J.go i H →
    wpAny (model P w) X.A (pyNext (.ref it)) (fun r s1 => ∃ u, r = some u ∧ wpAny (model P w) X.A (letOwnedTupleGo tg (.ref it) u) (fun _ s2 => ∃ x H', Inv X pins σ H' s2 ∧ RelV x u ∧ J.yld i H x H' ∧ tn (i + 1) s2.heap ∧ ∀ b ∈ fp, H' b = none) E s1) E s
  done : ∀ (X : Cx), X.prog = P → X.w = w → X.K = K → HotB X x1 → ∀ (i : Nat) (pins : List (Addr × Obj)) (s : Shared) (σ : L2.St) (H : Hp) (E : Value → Shared → Prop), Inv X pins σ H s → (∀ b ∈ fp, FpOk X pins H b) → tn i s.heap → J.stop i H →
    wpAny (model P w) X.A (pyNext (.ref it)) (fun r s1 => r = none ∧ Inv X pins σ H s1) E s
  self : ∀ (A : Around) (i : Nat) (s : Shared) (Q : Value → Shared → Prop) (E : Value → Shared → Prop), tn i s.heap → Q (.ref it) s → wpAny (model P w) A (pyIter (.ref it)) Q E s
def PIEY (X : Cx) (x1 : Addr) (pins : List (Addr × Obj)) (σ : L2.St) (tg : Expr) (R : L2.It → Hp → Prop) (itv : Value) (s2 : Shared) : Prop :=
  ∃ (it : Addr) (fp : List Addr) (tn : Nat → Heap → Prop) (J : L2.It) (H' : Hp), itv = .ref it ∧ Inv X pins σ H' s2 ∧ TurnY X.prog X.w X.K x1 tg J fp it tn ∧ tn 0 s2.heap ∧ (∀ b ∈ fp, FpOk X pins H' b) ∧ R J H'
structure PIY (X : Cx) (x1 : Addr) (tg iter : Expr) (wi : TI) : Prop where
  run : ∀ (pins : List (Addr × Obj)) (s : Shared) (σ : L2.St) (H : Hp) (R : L2.It → Hp → Prop), Inv X pins σ H s → wi σ H R →
    wpAny (model X.prog X.w) X.A (eval iter X.env) (fun v s1 => wpAny (model X.prog X.w) X.A (pyIter v) (PIEY X x1 pins σ tg R) X.xe s1) X.xe s
/-! zip of two lists of the same length -/
def ItzY (K : PySem.W.Frag) (a b : Addr) : L2.It :=
  ⟨(Itz K a b).go, (Itz K a b).yld, fun i H => ∃ xs ys : List V, SqL K H a xs ∧ SqL K H b ys ∧ xs.length = i ∧ ys.length = i⟩
theorem zip_sep {z TI TO i1 i2 l1 l2 x1 : Addr} (D : ZipApart z TI TO i1 i2 l1 l2) (n1 : x1 ≠ z) (n2 : x1 ≠ TO) (n3 : x1 ≠ i1) (n4 : x1 ≠ i2) (m1 : l2 ≠ z) (m2 : l2 ≠ TO) (m3 : l2 ≠ i1) (m4 : l2 ≠ i2) : ZipSep2 z TI TO i1 i2 [i1, l1, x1] [i2, l2, x1] := by
  have e := D.i1z; have e2 := D.l1z
  refine ⟨D.TIz, D.TOz, D.TITO, D.TIi1, by simp, ?_, ?_, D.TIi2, by simp, ?_, ?_, ?_, ?_⟩ <;> simp only [List.mem_cons, List.not_mem_nil, or_false, not_or]
  · exact ⟨Ne.symm D.i1z, Ne.symm D.l1z, Ne.symm n1⟩
  · exact ⟨D.TOi1, Ne.symm D.l1TO, Ne.symm n2⟩
  · exact ⟨Ne.symm D.i2z, Ne.symm m1, Ne.symm n1⟩
  · exact ⟨D.TOi2, Ne.symm m2, Ne.symm n2⟩
  · exact ⟨D.i12, Ne.symm m3, Ne.symm n3⟩
  · exact ⟨Ne.symm D.i12, Ne.symm D.l1i2, Ne.symm n4⟩
end DL

set_option maxHeartbeats 2000000
namespace DL
open PySem PySem.Spec PyProof.Rows L2 HotX

theorem HotB.ne {X : Cx} {x1 b : Addr} {pins : List (Addr × Obj)} {H : Hp} (c : HotB X x1) (f : FpOk X pins H b) : x1 ≠ b := by
  intro e; subst e
  obtain ⟨o, vs, e, _⟩ := c.ob
  exact f.2.2.2.1.elim c.ex fun q => absurd (Heap.lt_size e) (Nat.not_lt.mpr q)
/-- what lies where, of a zip over two lists -/
def ZipSt (a b z TI TO i1 i2 : Addr) (i : Nat) (h : Heap) : Prop :=
  IsZip h z TI TO .none ∧ IsPair h TI (.ref i1) (.ref i2) ∧ (∃ x y, IsPair h TO x y) ∧ h.IsListIter i1 a i ∧ h.IsListIter i2 b i
theorem turn_zipY {P : Program} {w : World} {K : PySem.W.Frag} {x1 : Addr} {elts : List Expr} {kk : Nat} {tpos : Pos} {a b z TI TO i1 i2 : Addr} (D : ZipApart z TI TO i1 i2 a b) :
    TurnY P w K x1 (.Tuple elts kk tpos) (ItzY K a b) [z, TI, TO, i1, i2] z (ZipSt a b z TI TO i1 i2) where
  obj := (turn_zip (P := P) (w := w) (K := K) (elts := elts) (kk := kk) (tpos := tpos) D).obj
  keep := (turn_zip (P := P) (w := w) (K := K) (elts := elts) (kk := kk) (tpos := tpos) D).keep
  self := (turn_zip (P := P) (w := w) (K := K) (elts := elts) (kk := kk) (tpos := tpos) D).self
  item X hP hw hK c i pins s σ H E I hf st hg := by
    subst hP hw hK
    obtain ⟨q0, q1, ⟨u0, u1, q2⟩, q3, q4⟩ := st
    obtain ⟨ls, rs, l, r, hl, hr, gl, gr⟩ := hg
    obtain ⟨vl, ql, pl, _⟩ := I.list hl
    obtain ⟨vr, qr, pr, _⟩ := I.list hr
    obtain ⟨u, eu, ru⟩ := ql.get gl; obtain ⟨v, ev, rv⟩ := qr.get gr
    have below : ∀ d ∈ [z, TI, TO, i1, i2], d < s.heap.objs.size := fun d m => by
      obtain ⟨o, e, _⟩ := (turn_zip (P := X.prog) (w := X.w) (K := X.K) (elts := elts) (kk := kk) (tpos := tpos) D).obj i s.heap ⟨q0, q1, ⟨u0, u1, q2⟩, q3, q4⟩ d m
      exact Heap.lt_size e
    have zl := below z (by simp)
    refine wpAny_pyNext_zip_item D q0 q1 q2 q3 q4 pl.isList pr.isList (x := u) (y := v) (by simpa using eu) (by simpa using ev) fun g z1 t1 j1 j2 nT _ kp => ?_
    refine ⟨_, rfl, wpAny_letOwnedTupleGo_zip (s := { s with heap := g }) z1 fun g2 z2 sb => ?_⟩
    have kp2 : ∀ d o, d ∉ [z, TI, TO, i1, i2] → s.heap.get? d = some o → g2.get? d = some o := fun d o m e => by
      simp only [List.mem_cons, List.not_mem_nil, or_false, not_or] at m
      exact (sb.2 d m.1).trans (kp d o m.1 m.2.2.1 m.2.2.2.1 m.2.2.2.2 e)
    refine ⟨.ref s.heap.objs.size, upd H s.heap.objs.size (.tup [l, r]), I.turnedNew (t' := s.toks) (ch := [z, TI, TO, i1, i2]) kp2 hf (Nat.le_refl _) ⟨by show 2 ≤ sizeLine; decide, [u, v], .cons ru (.cons rv .nil), ⟨_, (sb.2 _ (Nat.ne_of_gt zl)).trans nT, rfl, _, rfl⟩⟩, rfl, ?_, ?_, fun d m => ?_⟩
    · exact ⟨_, l, r, rfl, I.hok.fresh (Nat.le_refl _), rfl, fun xs e => by rw [I.list_inj e hl]; exact gl, fun ys e => by rw [I.list_inj e hr]; exact gr⟩
    · exact ⟨z2, (sb.2 _ D.TIz).trans (kp _ _ D.TIz D.TITO D.TIi1 D.TIi2 q1), ⟨u, v, (sb.2 _ D.TOz).trans t1⟩, j1.at fun o e => (sb.2 _ D.i1z).trans e, j2.at fun o e => (sb.2 _ D.i2z).trans e⟩
    · rw [upd_ne (Nat.ne_of_lt (below d m))]; exact (hf d m).1
  done X hP hw hK c i pins s σ H E I hf st hg := by
    subst hP hw hK
    obtain ⟨q0, q1, ⟨u0, u1, q2⟩, q3, q4⟩ := st
    obtain ⟨ls, rs, hl, hr, el, er⟩ := hg
    obtain ⟨vl, ql, pl, _⟩ := I.list hl
    obtain ⟨vr, qr, pr, _⟩ := I.list hr
    have hot := c.at I
    have n0 := c.ne (hf z (by simp)); have n2 := c.ne (hf TO (by simp)); have n3 := c.ne (hf i1 (by simp)); have n4 := c.ne (hf i2 (by simp))
    have sl : i = vl.toArray.size := by have := ql.length; simp; omega
    have sr : i = vr.toArray.size := by have := qr.length; simp; omega
    refine wpAny_pyNext_zipD2_end (A := X.A) (zip_sep D n0 n2 n3 n4 D.l2z D.l2TO D.l2i1 D.l2i2) (draws_list (A := X.A.in1) (x1 := x1) (items := vl.toArray) c.hh D.l1i1 n3) (draws_list (A := X.A.in1) (x1 := x1) (items := vr.toArray) c.hh D.l2i2 n4) q0 q1 q2 ⟨q3, pl.isList, hot⟩ ⟨q4, pr.isList, hot⟩ (Nat.le_of_eq sl) (Nat.le_of_eq sr) (.inl sl) fun g tk kp => ⟨rfl, I.turnedL (t' := tk) (ch := [z, TI, TO, i1, i2]) (fun d o m e => ?_) hf⟩
    simp only [List.mem_cons, List.not_mem_nil, or_false, not_or] at m
    exact kp d o m.1 m.2.2.1 m.2.2.2.1 m.2.2.2.2 e
def iZipY (K : PySem.W.Frag) (ta : TA) : TI := fun σ H R => ta σ H fun vs H1 => ∃ a b xs ys, vs = [.ref a, .ref b] ∧ SqL K H1 a xs ∧ SqL K H1 b ys ∧ R (ItzY K a b) H1
theorem pi_zipY {X : Cx} {x1 : Addr} {e e2 : Expr} {ta : TA} {p pos tpos : Pos} {elts : List Expr} {kk : Nat} (hg : Gl X "zip") (hm : X.mg "zip" = none) (ha : PA X [e, e2] ta)
    (hs : starEach [e, e2] X.env = (false, eval e X.env) :: starEach [e2] X.env := by rfl) (hpl : (backTo pos (starEach [e2] X.env)).any (·.1) = false := by rfl) :
    PIY X x1 (.Tuple elts kk tpos) (.Call (.Name "zip" p) [e, e2] [] pos) (iZipY X.K ta) := by
  refine ⟨fun pins s σ H R I h => Call_ (ld_blt I hg hm PyProof.Rows.boot_zip (PyProof.Rows.callWith_type1 (thn (ha.run pos pins s σ H _ I h) fun us t ⟨vs, H1, I1, rr, a, b, xs, ys, ev, qa, qb, q⟩ => ?_) hs hpl))⟩
  subst ev
  obtain _ | ⟨ra, _ | ⟨rb, ⟨⟩⟩⟩ := rr
  cases ra; cases rb
  obtain ⟨_, _, pa, _⟩ := I1.list qa
  obtain ⟨_, _, pb, _⟩ := I1.list qb
  refine call_zip_2 pa.isList pb.isList fun g hz hT hO g1 g2 _ kp => wpAny_pyIter_zip hz ⟨_, _, _, _, H1, rfl, I1.kept (t' := t.toks) kp, turn_zipY (PySem.W.ktu_apart t.heap.objs.size a b pa.lt pb.lt), ⟨hz, hT, ⟨_, _, hO⟩, g1, g2⟩, fun c m => ?_, q⟩
  have le : t.heap.objs.size ≤ c := by
    simp only [List.mem_cons, List.not_mem_nil, or_false] at m
    rcases m with m | m | m | m | m <;> rw [m] <;> first | exact Nat.le_add_right _ _ | exact Nat.le_refl _
  exact I1.fpOk le (I1.hok.fresh le)
end DL

set_option maxHeartbeats 2000000
namespace DL
open PySem PySem.Spec PyProof.Rows L2 HotX

/-- [elt for tg in iter if ..] while an exception is handled -/
theorem lc_coreY {X : Cx} {x1 : Addr} {pins : List (Addr × Obj)} {s : Shared} {σ : L2.St} {H : Hp} {Q : VK} {elt tg iter : Expr} {ifs : List Expr} {scope : Scope} {own : List (Str × Nat)} {pos pos' : Pos} {wi : TI} {g : TG} {tt : TT} {te : TE} {use : Option (Value → Sem Unit)} {Qf : Value → Shared → Prop}
    (c : HotB X x1) (hN : X.N.Nodup) (I : Inv X pins σ H s) (hi : PIY X x1 tg iter wi) (ok : BlkOk X.N X.env.scope scope own)
    (hg : ∀ (s : Shared) (H : Hp) (C : Addr) (cl : List (Str × Addr)) (fp : List Addr), HotB (X.blk s H scope (compEnvC scope cl C X.env) fp) x1 → PG (X.blk s H scope (compEnvC scope cl C X.env) fp) tg g)
    (ht : ∀ (s : Shared) (H : Hp) (C : Addr) (cl : List (Str × Addr)) (fp : List Addr), PTs (X.blk s H scope (compEnvC scope cl C X.env) fp) ifs tt)
    (he : ∀ (s : Shared) (H : Hp) (C : Addr) (cl : List (Str × Addr)) (fp : List Addr), PE (X.blk s H scope (compEnvC scope cl C X.env) fp) elt te)
    (hs : ∀ x, foldedSetIterable iter X.env x = pure x) (h : tLc wi g tt te (own.map (·.2)) σ H Q)
    (end_ : ∀ D L u k H', Inv X pins σ H' u → Q (.ref D) H' → u.heap.Ns L k → FpOk X pins H' L → compPost (model X.prog X.w) X.A X.xe use Qf (.ref D) L (.ok .next) u) :
    wpAny (model X.prog X.w) X.A (comprehension (.ListComp elt [⟨tg, iter, ifs, 0⟩] scope pos) scope X.env pos' (newList []) false (eval iter X.env) use) Qf X.xe s := by
  have fr : ∀ y ∈ scope.names, y.2 = .free → ∃ d, X.env.cells.lookup y.1 = some d := fun y m e => (ok.free y m e).elim (fun k => I.ok.has _ (.inl k)) fun k => I.ok.has _ (.inr k)
  refine wpAny_comprehension_free (use := use) rfl hs (closure_ok fr) ok.kind (fun y m e => by rw [ok.uniq y m, e]) (thn (hi.run pins s σ H _ I h) fun _ _ r1 => thn r1 fun _ s2 r2 => ?_)
  obtain ⟨it, fp, tn, J, H2, e, I2, T, t2, f2, q⟩ := r2
  subst e
  refine wpAny_newObj_type (newEnv_comp ?_) (by show 0 ≤ sizeLine; decide)
  obtain ⟨W, ⟨m0, w0⟩, turn⟩ := q s2.heap.objs.size (I2.hok.fresh (Nat.le_refl _))
  have lt2 : ∀ b ∈ fp, b < s2.heap.objs.size := fun b m => by obtain ⟨_, e, _⟩ := T.obj _ _ t2 b m; exact Heap.lt_size e
  -- the new list laid
  obtain ⟨D, hD⟩ : ∃ D, D = s2.heap.objs.size := ⟨_, rfl⟩
  obtain ⟨t, ht3⟩ : ∃ t : Shared, t = { s2 with heap := s2.heap.push { cls := .type "list", data := .seq ([] : List Value).toArray } } := ⟨_, rfl⟩
  obtain ⟨G, hG⟩ : ∃ G : Hp, G = upd H2 D (.lst []) := ⟨_, rfl⟩
  have I3 : Inv X pins σ G t := by
    subst hG ht3 hD
    exact I2.laid (t' := s2.toks) (fun b o e => Heap.get?_push_of_some _ e) (Nat.le_refl _) ⟨Nat.zero_le _, [], 0, .nil, Heap.get?_push_size _ rfl⟩
  have th : t.heap = s2.heap.push { cls := .type "list", data := .seq ([] : List Value).toArray } := by rw [ht3]
  have f3 : ∀ b ∈ fp, FpOk X pins G b := fun b m => ⟨by rw [hG, upd_ne (by rw [hD]; exact Nat.ne_of_lt (lt2 b m))]; exact (f2 b m).1, (f2 b m).2⟩
  have lt3 : ∀ b ∈ fp, b < t.heap.objs.size := fun b m => by rw [th, Heap.size_push]; exact Nat.lt_succ_of_lt (lt2 b m)
  have I4 := block_start I3 ok hN fun b m => ⟨f3 b m, lt3 b m⟩
  obtain ⟨L, hL⟩ : ∃ L, L = t.heap.objs.size := ⟨_, rfl⟩
  obtain ⟨cl, hcl⟩ : ∃ cl, cl = cellsFrom (t.heap.objs.size + 1) scope.names (cloFrom X.env.cells scope.names []) := ⟨_, rfl⟩
  obtain ⟨ce, hce⟩ : ∃ ce, ce = compEnvC scope cl L X.env := ⟨_, rfl⟩
  obtain ⟨B, hB⟩ : ∃ B, B = X.blk t G scope ce fp := ⟨_, rfl⟩
  have cB : HotB B x1 := by rw [hB]; exact c.blk I3 f3
  have pg : PG B tg g := by rw [hB, hce]; exact hg _ _ _ _ _ (by rw [← hce, ← hB]; exact cB)
  have pt : PTs B ifs tt := by rw [hB, hce]; exact ht _ _ _ _ _
  have pe : PE B elt te := by rw [hB, hce]; exact he _ _ _ _ _
  obtain ⟨s4, hs4⟩ : ∃ s4 : Shared, s4 = { t with heap := pushCells (t.heap.push { cls := .type "dict", data := .dict #[] }) scope.names } := ⟨_, rfl⟩
  rw [← hcl, ← hL, ← hce, ← hB, ← hs4] at I4
  have t4 : tn 0 s4.heap := T.keep _ _ _ t2 fun b _ o e => by rw [hs4]; exact pushCells_keeps _ _ _ _ (Heap.get?_push_of_some _ (by rw [th]; exact Heap.get?_push_of_some _ e))
  have w0' : W 0 m0 G := by rw [hG, hD]; exact w0
  have exB : B.ex = fp := by rw [hB]
  have envB : B.env = ce := by rw [hB]
  have cL : ce.locals = L := by rw [hce]; rfl
  have idx : B.prog = X.prog ∧ B.w = X.w ∧ B.K = X.K ∧ B.A = X.A ∧ B.xe = (fun _ _ => False) ∧ B.outer = X.stack ∧ B.s_0 = t ∧ B.H_0 = G := by rw [hB]; exact ⟨rfl, rfl, rfl, rfl, rfl, rfl, rfl, rfl⟩
  have fpB : ∀ {σ' : L2.St} {H' : Hp} {s' : Shared}, Inv B [] σ' H' s' → (∀ b ∈ fp, H' b = none) → ∀ b ∈ fp, FpOk B [] H' b := fun J n b m => by
    have m' : b ∈ B.ex := by rw [exB]; exact m
    exact ⟨n b m, (J.ok.exf b m').1, J.ok.exfs b m', .inl m', fun x d e => (J.ok.exf b m').2 x d e, fun p hp => absurd (show p ∈ B.pn ++ ([] : List (Addr × Obj)) from hp) (by rw [hB]; simp)⟩
  have loop : codeAny (model X.prog X.w) X.A (.compLoop (.ListComp elt [⟨tg, iter, ifs, 0⟩] scope pos) 0 (.ref it) (.ref D) ce) (compPost (model X.prog X.w) X.A X.xe use Qf (.ref D) L) s4 := by
    refine compLoop_any (fun n u => ∃ i H', Inv B [] (wipe σ (own.map (·.2))) H' u ∧ tn i u.heap ∧ (∀ b ∈ fp, H' b = none) ∧ W i n H') ?_ m0 ⟨0, G, I4, t4, fun b m => (f3 b m).1, w0'⟩
    rintro n s5 ⟨i, H5, I5, t5, n5, w5⟩
    obtain ⟨b1, b2, b3, b4, b5, b6, b7, b8⟩ := idx
    rcases turn i n H5 w5 with ⟨st, qq⟩ | ⟨go, Nx, nx, step⟩
    · refine thnF (by rw [← b4]; exact T.done B b1 b2 b3 cB i [] s5 _ H5 (fun _ _ => False) I5 (fpB I5 n5) t5 st) fun r s6 z => ?_
      obtain ⟨z1, I6⟩ := z
      subst z1
      have I6' : Inv (X.blk t G scope ce fp) [] (wipe σ (own.map (·.2))) H5 s6 := by rw [← hB]; exact I6
      have I7 : Inv X pins σ H5 s6 := I3.call' (ch := fp) I6'.os I6'.base I6'.hok I6'.bare fun b m => ⟨(f3 b m).2.2.2.1, (f3 b m).2.1, (f3 b m).2.2.2.2.1, (f3 b m).2.2.2.2.2⟩
      obtain ⟨k, hk, _⟩ := I6.loc
      have nL : H5 L = none := by have z : H5 B.env.locals = none := I6.free; rw [envB, cL] at z; exact z
      exact end_ D L s6 k H5 I7 (by rw [hD]; exact qq) (by rw [envB, cL] at hk; exact hk) (I3.fpOk (Nat.le_of_eq hL.symm) nL)
    · refine thnF (by rw [← b4]; exact T.item B b1 b2 b3 cB i [] s5 _ H5 (fun _ _ => False) I5 (fpB I5 n5) t5 go) fun r s6 z => ?_
      obtain ⟨u, z1, h6⟩ := z
      subst z1
      refine thnF (by rw [← b4]; exact h6) fun _ s7 z7 => ?_
      obtain ⟨x, H7, I7, r7, y7, t7, n7⟩ := z7
      have I7' := I7.pinned (fpB I7 n7) (T.obj _ _ t7)
      refine thnF (by rw [← b1, ← b2, ← b4, ← envB, ← b5]; exact pg.run _ s7 _ H7 x u _ I7' r7 (step x H7 y7)) fun _ s8 z8 => ?_
      obtain ⟨σ8, H8, I8, v8, q8⟩ := z8
      refine thnF (by rw [← b1, ← b2, ← b4, ← envB, ← b5]; exact pt.run _ s8 σ8 H8 _ I8 q8) fun b s9 z9 => ?_
      obtain ⟨H9, I9, q9⟩ := z9
      have fin : ∀ {u' : Shared} {H' : Hp}, Inv B ([] ++ pinsAt fp s7.heap) σ8 H' u' → Nx H' → ∃ m, m < n ∧ ∃ i H', Inv B [] (wipe σ (own.map (·.2))) H' u' ∧ tn i u'.heap ∧ (∀ b ∈ fp, H' b = none) ∧ W i m H' := fun {u' H'} J y => by
        obtain ⟨m', lt, w'⟩ := nx H' y
        have pin' : ∀ b ∈ fp, ∀ o, s7.heap.get? b = some o → u'.heap.get? b = some o ∧ H' b = none := fun b m o e => by
          have z := J.pin (b, o) (List.mem_append_right _ (List.mem_append_right _ (mem_pinsAt m e))); exact ⟨z.1, z.2.1⟩
        refine ⟨m', lt, i + 1, H', (J.unpinned (pins := [])).weak (by rw [← v8, wipe_length]) fun j v e => ?_, T.keep _ _ _ t7 fun b m o e => (pin' b m o e).1, fun b m => ?_, w'⟩
        · rw [← v8] at e; exact (wipe_some e).1
        · obtain ⟨o, e, _⟩ := T.obj _ _ t7 b m; exact (pin' b m o e).2
      rcases b with _ | _
      · simp only [Bool.false_eq_true, if_false] at q9 ⊢; exact fin I9 q9
      · simp only [if_true] at q9 ⊢
        refine thnF (by rw [← b1, ← b2, ← b4, ← envB, ← b5]; exact pe.run _ s9 σ8 H9 _ I9 q9) fun v s10 z10 => ?_
        obtain ⟨y, H10, I10, r10, acc, d10, l10, y10⟩ := z10
        have dD : H10 D = some (.lst acc) := by rw [hD]; exact d10
        rw [← b1, ← b2, ← b4]
        exact app_ok (X := B) I10 dD l10 r10 fun u' I11 => fin I11 (by rw [hD]; exact y10)
  have fine := codeAny_compStart_list loop (T.self X.A 0 _ _ _ t4 loop)
  subst hs4 hce hcl hL ht3 hD
  exact fine
/-- y = [..] on one line -/
theorem ps_setLcY {X : Cx} {x1 : Addr} {i : Nat} {y : Str} {py : Pos} {elt tg iter : Expr} {ifs : List Expr} {scope : Scope} {own : List (Str × Nat)} {pos spos : Pos} {wi : TI} {g : TG} {tt : TT} {te : TE} (c : HotB X x1) (hN : X.N.Nodup) (hy : X.N[i]? = some y) (hyl : X.env.scope.names.lookup y = some .local)
    (hsw : swapsWith (.ListComp elt [⟨tg, iter, ifs, 0⟩] scope pos) (some (.Name y py)) spos.line X.env = pure true) (hi : PIY X x1 tg iter wi) (ok : BlkOk X.N X.env.scope scope own)
    (hg : ∀ (s : Shared) (H : Hp) (C : Addr) (cl : List (Str × Addr)) (fp : List Addr), HotB (X.blk s H scope (compEnvC scope cl C X.env) fp) x1 → PG (X.blk s H scope (compEnvC scope cl C X.env) fp) tg g)
    (ht : ∀ (s : Shared) (H : Hp) (C : Addr) (cl : List (Str × Addr)) (fp : List Addr), PTs (X.blk s H scope (compEnvC scope cl C X.env) fp) ifs tt)
    (he : ∀ (s : Shared) (H : Hp) (C : Addr) (cl : List (Str × Addr)) (fp : List Addr), PE (X.blk s H scope (compEnvC scope cl C X.env) fp) elt te)
    (hs : ∀ x, foldedSetIterable iter X.env x = pure x) : PS X (.Assign [.Name y py] (.ListComp elt [⟨tg, iter, ifs, 0⟩] scope pos) spos) (tAsg (tLc wi g tt te (own.map (·.2))) (gName i)) := by
  refine ⟨fun pins s σ H D I h => ?_⟩
  rw [exec_Assign_Name_used _ _ _ _ hsw]
  refine wpAny_bind (wpAny_standAt (wpAny_bind ?_))
  refine wpAny_bind (thn (lc_coreY (use := some (assign (.Name y py) X.env)) (Qf := fun _ u => SP X pins D .next u) (pos' := firstIterPos [⟨tg, iter, ifs, 0⟩] pos) (pos := pos) (elt := elt) (tg := tg) (iter := iter) (ifs := ifs) (scope := scope) (Q := fun x H1 => gName i x σ H1 D.nx) c hN I hi ok hg ht he hs h fun D1 L u k H' J q hn f => ?_) fun _ _ z => wpAny_pure (wpAny_pure z))
  obtain ⟨f0, f1, f2, f3, f4, f5⟩ := f
  refine wpAny_assign_Name (store_ok2 (v := V.ref D1) J hN hy (.inl hyl) rfl (fun s2 I2 z => ?_) (.inr hyl))
  obtain ⟨b, sb, hb⟩ := z
  have ne : L ≠ b := hb.elim (fun z => by rw [z]; exact f1) fun z e => f4 y b z e.symm
  exact ⟨k, hn.sameBut sb ne, fun h3 sb3 => ⟨_, H', I2.turned (t' := s2.toks) (fun b o nb e => (sb3.2 b nb).trans e) f0 f1 f3 f4 f5, q⟩⟩
end DL

set_option maxHeartbeats 2000000
namespace DL
open PySem PySem.Spec PyProof.Rows L2 HotX

/-! ### zip, in a comprehension -/
theorem lc_zipY {K : PySem.W.Frag} {a b : Addr} {xs ys : List V} {g : TG} {tt : TT} {te : TE} {vs : List Nat} {σ : L2.St} {H1 : Hp} {D : Addr} {Qd : Hp → Prop} (Pv : Nat → Hp → Prop) (len : xs.length = ys.length) (h0 : Pv 0 (upd H1 D (.lst []))) (hl : ∀ i H, Pv i H → SqL K H a xs ∧ SqL K H b ys)
    (hs : ∀ i x y T H, xs[i]? = some x → ys[i]? = some y → Pv i H → H T = none → g (.ref T) (wipe σ vs) (upd H T (.tup [x, y])) fun σ2 H2 => wipe σ2 vs = wipe σ vs ∧ tt σ2 H2 fun b H3 =>
      if b = true then te σ2 H3 fun y H4 => ∃ acc, H4 D = some (.lst acc) ∧ acc.length < sizeLine ∧ Pv (i + 1) (upd H4 D (.lst (acc ++ [y]))) else Pv (i + 1) H3) (hd : ∀ H, Pv xs.length H → Qd H) :
    ∃ W : Nat → Nat → Hp → Prop, (∃ m, W 0 m (upd H1 D (.lst []))) ∧ ∀ i m H, W i m H → ((ItzY K a b).stop i H ∧ Qd H) ∨ ((ItzY K a b).go i H ∧ ∃ Nx : Hp → Prop, (∀ H', Nx H' → ∃ m', m' < m ∧ W (i + 1) m' H') ∧ ∀ x H', (ItzY K a b).yld i H x H' → g x (wipe σ vs) H' fun σ2 H2 => wipe σ2 vs = wipe σ vs ∧ tt σ2 H2 fun b H3 =>
        if b = true then te σ2 H3 fun y H4 => ∃ acc, H4 D = some (.lst acc) ∧ acc.length < sizeLine ∧ Nx (upd H4 D (.lst (acc ++ [y]))) else Nx H3) := by
  refine ⟨fun i m H => m + i = xs.length ∧ Pv i H, ⟨xs.length, rfl, h0⟩, fun i m H ⟨e, p⟩ => ?_⟩
  obtain ⟨qa, qb⟩ := hl i H p
  cases m with
  | zero =>
    have e' : i = xs.length := by omega
    subst e'
    exact .inl ⟨⟨xs, ys, qa, qb, rfl, len.symm⟩, hd H p⟩
  | succ m =>
    have i1 : i < xs.length := by omega
    have i2 : i < ys.length := by omega
    refine .inr ⟨⟨xs, ys, xs[i], ys[i], qa, qb, by simp [i1], by simp [i2]⟩, Pv (i + 1), fun H' q => ⟨m, Nat.lt_succ_self m, by omega, q⟩, fun v H' z => ?_⟩
    obtain ⟨T, x, y, ev, hT, eH, gx, gy⟩ := z
    subst ev eH
    exact hs i x y T H (gx xs qa) (gy ys qb) p hT

/-! ### the names of errors -/
def errNs : List Str := ["e", "some", "names", "found", "name", "good"]
def errW : Str := "table state book top points player number index not other many undo base value"
def errBs (c : Str) (xs : List Str) : List Bool := xs.map fun x => decide (x = c) || decide (x = "VisitError") || decide (x = "ValueError")
def errG : List (List Str) := [["InvalidTable", "InvalidState", "InvalidBook"], ["InvalidTop", "InvalidPoints", "InvalidPlayer"], ["InvalidNumber", "InvalidIndex", "NotPossible"], ["OtherTable", "TooMany", "NothingToUndo"], ["VisitError", "ValueError"]]
def errK (c : Str) : Bool := (errG.take 4).flatten.contains c
/-- zip, the good ones -/
def goodOnes : List Str → List Bool → List Str
  | x :: xs, b :: bs => if b = true then x :: goodOnes xs bs else goodOnes xs bs
  | _, _ => []

section
variable (X : Cx) (sc : Scope) (C a : Addr) (c : Str)
/-- what the walk knows of its place -/
structure ErrX : Prop where
  hot : HotB X a
  n : X.N = errNs
  es : X.env.scope = sc
  kd : sc.kind = .function
  un : X.A.units + 64 < cLine
  bi : ∀ x ∈ builtins, X.mg x = none
  isi : CallR X (.builtin "isinstance") (rIsE X.K C a)
  cls : ∀ x ∈ errG.flatten, ∃ (v : V) (u : Value), (X.mg x = some u ∨ (X.mg x = none ∧ bootBuiltins x = some u)) ∧ RelV v u ∧ (∀ u', RelV v u' → u' = u) ∧ PySem.W.kitOne X.K (.ref C) u = some (decide (x = c) || decide (x = "VisitError") || decide (x = "ValueError"))
end
def isiB (sc : Scope) (x : Str) (e : Expr) : Bool := match e with
  | .Call (.Name f _) [.Name v _, .Name k _] [] _ => decide (f = "isinstance") && decide (v = "e") && decide (k = x) && visB sc "e" && glB sc "isinstance" && glB sc x && okNm x
  | _ => false
def isiBs (sc : Scope) : List Str → List Expr → Bool
  | [], [] => true
  | x :: xs, e :: es => isiB sc x e && isiBs sc xs es
  | _, _ => false
section
variable {X : Cx} {sc : Scope} {C a : Addr} {c : Str}
theorem glX (E : ErrX X sc C a c) {x : Str} (h : glB sc x = true) : Gl X x := by
  unfold glB at h
  split at h
  · rename_i e; show X.env.scope.names.lookup x = _; rw [E.es]; exact e
  · cases h
theorem bsX (E : ErrX X sc C a c) {i : Nat} {x : Str} {pos : Pos} (hi : errNs[i]? = some x) (h : visB sc x = true) (h2 : okNm x = true) : PE X (.Name x pos) (tVar i) :=
  pe_var (by rw [E.n]; exact hi) (by rw [E.es]; exact visB_ok h) (okNm_dbg h2).1 (okNm_dbg h2).2.1
theorem pe_isiY (E : ErrX X sc C a c) {x : Str} {e : Expr} (h : isiB sc x e = true) (hx : x ∈ errG.flatten) : ∃ t, PE X e t ∧ ∀ (σ : L2.St) (H : Hp) (Q : VK), σ[0]? = some (some (.ref a)) → Q (.bl (decide (x = c) || decide (x = "VisitError") || decide (x = "ValueError"))) H → t σ H Q := by
  unfold isiB at h
  split at h
  · simp only [Bool.and_eq_true, decide_eq_true_eq] at h
    obtain ⟨⟨⟨⟨⟨⟨e1, e2⟩, e3⟩, h4⟩, h5⟩, h6⟩, h7⟩ := h
    subst e1 e2 e3
    obtain ⟨v, u, hu, rv, ru, ho⟩ := E.cls _ hx
    have pc := (okNm_dbg h7)
    rename_i k _ _
    have pv : ∀ pos, PE X (.Name k pos) (tC v) := fun pos => hu.elim (fun z => pe_glob (glX E h6) z rv pc.1) fun z => pe_bltn (glX E h6) z.1 z.2 rv pc.2.2 pc.1
    refine ⟨_, pe_callB E.isi (glX E h5) (E.bi _ (by decide)) rfl (pa_cons (bsX E (i := 0) rfl h4 (by decide)) (pa_cons (pv _) pa_nil)), fun σ H Q s0 q => ?_⟩
    exact ⟨_, s0, v, u, _, rfl, ru, ho, q⟩
  · cases h
theorem pa_isiY (E : ErrX X sc C a c) : ∀ {xs : List Str} {es : List Expr}, isiBs sc xs es = true → (∀ x ∈ xs, x ∈ errG.flatten) → ∃ t, PA X es t ∧ ∀ (σ : L2.St) (H : Hp) (Q : List V → Hp → Prop), σ[0]? = some (some (.ref a)) → Q ((errBs c xs).map V.bl) H → t σ H Q
  | [], [], _, _ => ⟨_, pa_nil, fun _ _ _ _ q => q⟩
  | x :: xs, e :: es, h, hx => by
    simp only [isiBs, Bool.and_eq_true] at h
    obtain ⟨t1, p1, w1⟩ := pe_isiY E h.1 (hx x List.mem_cons_self)
    obtain ⟨t2, p2, w2⟩ := pa_isiY E h.2 fun y m => hx y (List.mem_cons_of_mem _ m)
    have st : starEach (e :: es) X.env = (false, eval e X.env) :: starEach es X.env := by
      have := h.1
      unfold isiB at this
      split at this
      · rfl
      · cases this
    refine ⟨_, pa_cons p1 p2 st, fun σ H Q s0 q => ?_⟩
    exact w1 σ H _ s0 (w2 σ H _ s0 q)
  | [], _ :: _, h, _ => by simp [isiBs] at h
  | _ :: _, [], h, _ => by simp [isiBs] at h
end
end DL

set_option maxHeartbeats 2000000
namespace DL
open PySem PySem.Spec PyProof.Rows L2 HotX

/-! ### heaps that grow -/
def Le (H H' : Hp) : Prop := ∀ b o, H b = some o → H' b = some o
theorem Le.refl (H : Hp) : Le H H := fun _ _ e => e
theorem Le.trans {H1 H2 H3 : Hp} (a : Le H1 H2) (b : Le H2 H3) : Le H1 H3 := fun _ _ e => b _ _ (a _ _ e)
theorem Le.new {H : Hp} {p : Addr} {o : HO} (h : H p = none) : Le H (upd H p o) := fun b u e => by
  rw [upd_ne (fun z => by rw [z, h] at e; cases e)]; exact e
/-- the same, where p is new to H only -/
theorem Le.put {H G : Hp} {p : Addr} {o : HO} (l : Le H G) (h : H p = none) : Le H (upd G p o) := fun b u e => by
  rw [upd_ne (fun z => by rw [z, h] at e; cases e)]; exact l _ _ e
def lenLine {n : Nat} (h : n ≤ 64) : n ≤ sizeLine := Nat.le_trans h (by decide)

def someB (sc : Scope) (xs : List Str) (st : Stmt) : Bool := match st with
  | .Assign [.Name y _] (.List es _) _ => decide (y = "some") && locS sc "some" && isiBs sc xs es
  | _ => false
def moreB (sc : Scope) (xs : List Str) (st : Stmt) : Bool := match st with
  | .Assign [.Name y _] (.BinOp (.Name z _) .Add (.List es _) _) _ => decide (y = "some") && decide (z = "some") && locS sc "some" && isiBs sc xs es
  | _ => false
def wordB (sc : Scope) (st : Stmt) : Bool := match st with
  | .Assign [.Name y _] (.Constant (.str w) _ _) _ => decide (y = "names") && locS sc "names" && decide (w = errW)
  | _ => false
section
variable {X : Cx} {sc : Scope} {C a : Addr} {c : Str}
theorem errNd : errNs.Nodup := by decide +kernel
theorem psX (E : ErrX X sc C a c) {i : Nat} {x : Str} {e : Expr} {te : TE} {p pos : Pos} (hi : errNs[i]? = some x) (hl : locS sc x = true) (he : PE X e te) (hs : swapsWith e (some (.Name x p)) pos.line X.env = pure false) : PS X (.Assign [.Name x p] e pos) (tAsg te (gName i)) := by
  have l := decide_eq_true_eq.mp hl
  rw [← E.es] at l
  exact ps_set (by rw [E.n]; exact errNd) (by rw [E.n]; exact hi) (.inl l) he hs (.inr l)
def st1 (a p : Addr) : L2.St := [some (.ref a), some (.ref p), none, none, none, none]
theorem ps_some (E : ErrX X sc C a c) {xs : List Str} {st : Stmt} (h : someB sc xs st = true) (hx : ∀ x ∈ xs, x ∈ errG.flatten) (hn : xs.length ≤ 64) : ∃ t, PS X st t ∧ ∀ (D : Ends) (H : Hp),
    (∀ p H', Le H H' → H' p = some (.lst ((errBs c xs).map V.bl)) → D.nx (st1 a p) H') → t D [some (.ref a), none, none, none, none, none] H := by
  unfold someB at h
  split at h
  · simp only [Bool.and_eq_true, decide_eq_true_eq] at h
    obtain ⟨⟨h1, h2⟩, h3⟩ := h
    subst h1
    obtain ⟨t, pt, wt⟩ := pa_isiY E h3 hx
    refine ⟨_, psX E (i := 1) rfl h2 (pe_lst pt) rfl, fun D H q => wt _ H _ rfl ⟨?_, fun p hp => ?_⟩⟩
    · rw [List.length_map, errBs, List.length_map]; exact lenLine hn
    · exact q p _ (Le.new hp) upd_same
  · cases h
theorem ps_more (E : ErrX X sc C a c) {xs ys : List Str} {st : Stmt} (h : moreB sc xs st = true) (hx : ∀ x ∈ xs, x ∈ errG.flatten) (hn : ys.length + xs.length ≤ 64) : ∃ t, PS X st t ∧ ∀ (D : Ends) (H : Hp) (p : Addr), H p = some (.lst ((errBs c ys).map V.bl)) →
    (∀ p H', Le H H' → H' p = some (.lst ((errBs c (ys ++ xs)).map V.bl)) → D.nx (st1 a p) H') → t D (st1 a p) H := by
  unfold moreB at h
  split at h
  · simp only [Bool.and_eq_true, decide_eq_true_eq] at h
    obtain ⟨⟨⟨h1, h0⟩, h2⟩, h3⟩ := h
    subst h1 h0
    obtain ⟨t, pt, wt⟩ := pa_isiY E h3 hx
    refine ⟨_, psX E (i := 1) rfl h2 (pe_op op_cat (bsX E (i := 1) rfl (locS_vis h2) (by decide)) (pe_lst pt)) rfl, fun D H p hp q => ?_⟩
    refine ⟨_, rfl, wt _ H _ rfl ⟨?_, fun r hr => ⟨p, r, _, _, rfl, rfl, Le.new hr _ _ hp, upd_same, ?_, fun u hu => ?_⟩⟩⟩
    · rw [List.length_map, errBs, List.length_map]; exact lenLine (by omega)
    · rw [List.length_map, errBs, List.length_map, List.length_map, errBs, List.length_map]; exact lenLine hn
    · refine q u _ ((Le.new hr).trans (Le.new hu)) ?_
      rw [upd_same, errBs, errBs, errBs, List.map_append, List.map_append]
  · cases h
def st2 (a p : Addr) : L2.St := [some (.ref a), some (.ref p), some (.str errW), none, none, none]
theorem ps_word (E : ErrX X sc C a c) {st : Stmt} (h : wordB sc st = true) : ∃ t, PS X st t ∧ ∀ (D : Ends) (H : Hp) (p : Addr), D.nx (st2 a p) H → t D (st1 a p) H := by
  unfold wordB at h
  split at h
  · simp only [Bool.and_eq_true, decide_eq_true_eq] at h
    obtain ⟨⟨h1, h2⟩, h3⟩ := h
    subst h1 h3
    exact ⟨_, psX E (i := 2) rfl h2 pe_str rfl, fun D H p q => q⟩
  · cases h
/-! ### the names that are found -/
def foundB (sc : Scope) (st : Stmt) : Bool := match st with
  | .Assign [.Name y py] (.ListComp (.Name e1 _) [⟨.Tuple [.Name t1 _, .Name t2 _] _ _, .Call (.Name z _) [.Call (.Attribute (.Name w _) m apos) [.Constant (.str sp) _ _] [] cpos, .Name so _] [] _, [.Name g _], 0⟩] scope pos) _ =>
    decide (y = "found") && decide (e1 = "name") && decide (t1 = "name") && decide (t2 = "good") && decide (z = "zip") && decide (w = "names") && decide (m = "split") && decide (sp = " ") && decide (so = "some") && decide (g = "good") && locS sc "found" && locS sc "names" && locS sc "some" && glB sc "zip" &&
    (apos.endLine == cpos.line) && (py.line == pos.line) && !(scope.names.any fun (n, k) => n == y && (k == .local || k == .cell)) && blkC errNs sc scope [("name", 4), ("good", 5)] && locS (relS scope sc) "name" && locS (relS scope sc) "good"
  | _ => false
theorem good_take : ∀ (ws : List Str) (bs : List Bool) (i : Nat) (w : Str) (b : Bool), ws[i]? = some w → bs[i]? = some b → goodOnes (ws.take (i + 1)) (bs.take (i + 1)) = goodOnes (ws.take i) (bs.take i) ++ if b = true then [w] else []
  | [], _, i, w, b, h, _ => by simp at h
  | _ :: _, [], i, w, b, _, h => by simp at h
  | x :: ws, y :: bs, 0, w, b, h1, h2 => by
    simp only [List.getElem?_cons_zero, Option.some.injEq] at h1 h2
    subst h1 h2
    simp [goodOnes]
  | x :: ws, y :: bs, i + 1, w, b, h1, h2 => by
    simp only [List.getElem?_cons_succ] at h1 h2
    have ih := good_take ws bs i w b h1 h2
    simp only [List.take_succ_cons, goodOnes] at ih ⊢
    cases y <;> simp [ih]
theorem good_len : ∀ (ws : List Str) (bs : List Bool), (goodOnes ws bs).length ≤ ws.length
  | [], _ => by simp [goodOnes]
  | _ :: _, [] => by simp [goodOnes]
  | x :: ws, y :: bs => by
    have := good_len ws bs
    cases y <;> simp [goodOnes] <;> omega
def st3 (a p q : Addr) : L2.St := [some (.ref a), some (.ref p), some (.str errW), some (.ref q), none, none]
theorem ps_found (E : ErrX X sc C a c) {st : Stmt} {bs : List Bool} (h : foundB sc st = true) (hl : (Txt.split errW " ").length = bs.length) (hn : bs.length ≤ 64) : ∃ t, PS X st t ∧ ∀ (D : Ends) (H : Hp) (p : Addr), H p = some (.lst (bs.map V.bl)) →
    (∀ q H', Le H H' → H' q = some (.lst ((goodOnes (Txt.split errW " ") bs).map V.str)) → D.nx (st3 a p q) H') → t D (st2 a p) H := by
  unfold foundB at h
  split at h
  · simp only [Bool.and_eq_true, decide_eq_true_eq] at h
    obtain ⟨⟨⟨⟨⟨⟨⟨⟨⟨⟨⟨⟨⟨⟨⟨⟨⟨⟨⟨e0, e1⟩, e2⟩, e3⟩, e4⟩, e5⟩, e6⟩, e7⟩, e8⟩, e9⟩, l1⟩, l2⟩, l3⟩, l4⟩, hline⟩, hpl⟩, hsc⟩, hb⟩, b1⟩, b2⟩ := h
    subst e0 e1 e2 e3 e4 e5 e6 e7 e8 e9
    rename_i py n1 n2 n3 k1 tp zp np apos k0 sp cpos op zp2 gp scope pos spos
    have L1 := decide_eq_true_eq.mp l1
    have B1 := decide_eq_true_eq.mp b1
    have B2 := decide_eq_true_eq.mp b2
    have nd : X.N.Nodup := by rw [E.n]; exact errNd
    have loc : ∀ (s : Shared) (H : Hp) (L : Addr) (cl : List (Str × Addr)) (fp : List Addr) (x : Str), (relS scope sc).names.lookup x = some .local → (X.blk s H scope (compEnvC scope cl L X.env) fp).env.scope.names.lookup x = some .local := fun s H L cl fp x e => by
      show (relS scope X.env.scope).names.lookup x = _; rw [E.es]; exact e
    have sw : swapsWith (.ListComp (.Name "name" n1) [⟨.Tuple [.Name "name" n2, .Name "good" n3] k1 tp, .Call (.Name "zip" zp) [.Call (.Attribute (.Name "names" np) "split" apos) [.Constant (.str " ") k0 sp] [] cpos, .Name "some" op] [] zp2, [.Name "good" gp], 0⟩] scope pos) (some (.Name "found" py)) spos.line X.env = pure true := by
      refine (swapB_ok (by rw [E.es]; exact E.kd) rfl).trans ?_
      rw [E.es]
      unfold swapB
      dsimp only
      rw [L1]
      simp only [hpl, hsc, Bool.and_true]
      rfl
    have z := ps_setLcY (own := [("name", 4), ("good", 5)]) (i := 3) (g := gTup X.K 2 (gCons (gName 4) (gCons (gName 5) gNil))) (tt := tB (tVar 5)) (te := tVar 4) E.hot nd (by rw [E.n]; rfl) (by rw [E.es]; exact L1) sw
      (pi_zipY (glX E l4) (E.bi _ (by decide)) (pa_cons (pe_split (bsX E (i := 2) rfl (locS_vis l2) (by decide)) pe_str (hline := hline)) (pa_cons (bsX E (i := 1) rfl (locS_vis l3) (by decide)) pa_nil)))
      (blkOk_by (by rw [E.n, E.es]; exact hb))
      (fun s H L cl fp hot => pg_tupH (n := 2) hot (pgs_cons (pg_name nd (by show X.N[4]? = _; rw [E.n]; rfl) (.inl (loc s H L cl fp _ B1)) (.inr (loc s H L cl fp _ B1))) (pgs_cons (pg_name nd (by show X.N[5]? = _; rw [E.n]; rfl) (.inl (loc s H L cl fp _ B2)) (.inr (loc s H L cl fp _ B2))) pgs_nil)) rfl rfl)
      (fun s H L cl fp => pts_one (pt_val (pe_var (i := 5) (by show X.N[5]? = _; rw [E.n]; rfl) (.inl (loc s H L cl fp _ B2)))))
      (fun s H L cl fp => pe_var (i := 4) (by show X.N[4]? = _; rw [E.n]; rfl) (.inl (loc s H L cl fp _ B1)))
      (fun _ => rfl)
    refine ⟨_, z, fun D H p hp q => ?_⟩
    refine ⟨_, rfl, ⟨_, rfl⟩, errW, " ", rfl, rfl, by decide, Nat.le_trans (show errW.length + 2 ≤ 200 by decide +kernel) (by decide), fun w hw => ⟨_, rfl, w, p, _, _, rfl, SqL.of upd_same, SqL.of (Le.new hw _ _ hp), fun D1 hD => ?_⟩⟩
    have le1 : Le (upd H w (.lst ((Txt.split errW " ").map V.str))) (upd (upd H w (.lst ((Txt.split errW " ").map V.str))) D1 (.lst [])) := Le.new hD
    refine lc_zipY (fun i H' => Le (upd H w (.lst ((Txt.split errW " ").map V.str))) H' ∧ H' D1 = some (.lst ((goodOnes ((Txt.split errW " ").take i) (bs.take i)).map V.str))) (by rw [List.length_map, List.length_map]; exact hl) ⟨le1, upd_same⟩ (fun i H' P => ⟨SqL.of (P.1 _ _ upd_same), SqL.of (P.1 _ _ (Le.new hw _ _ hp))⟩) (fun i x y T H' ex ey P hT => ?_) fun H' P => ?_
    · rw [List.getElem?_map] at ex ey
      cases ew : (Txt.split errW " ")[i]? with
      | none => rw [ew] at ex; cases ex
      | some wd =>
        cases eb : bs[i]? with
        | none => rw [eb] at ey; cases ey
        | some b =>
          rw [ew] at ex; rw [eb] at ey
          cases ex; cases ey
          have gt := good_take _ _ i wd b ew eb
          have hi : i < bs.length := (List.getElem?_eq_some_iff.mp eb).1
          have le2 : Le (upd H w (.lst ((Txt.split errW " ").map V.str))) (upd H' T (.tup [V.str wd, V.bl b])) := P.1.trans (Le.new hT)
          have aD : upd H' T (.tup [V.str wd, V.bl b]) D1 = some (.lst ((goodOnes ((Txt.split errW " ").take i) (bs.take i)).map V.str)) := Le.new hT _ _ P.2
          refine ⟨T, _, rfl, SqT.of upd_same, rfl, _, _, rfl, _, _, rfl, rfl, rfl, ⟨_, rfl, b, rfl, ?_⟩⟩
          cases b with
          | false =>
            simp only [Bool.false_eq_true, if_false, List.append_nil] at gt ⊢
            exact ⟨le2, by rw [gt]; exact aD⟩
          | true =>
            simp only [if_true] at gt ⊢
            refine ⟨_, rfl, _, aD, ?_, le2.put hD, ?_⟩
            · rw [List.length_map]
              have := good_len ((Txt.split errW " ").take i) (bs.take i)
              rw [List.length_take] at this
              exact Nat.lt_of_lt_of_le (show _ < 65 by omega) (by decide)
            · rw [upd_same, gt, List.map_append]; rfl
    · obtain ⟨P1, P2⟩ := P
      refine q D1 H' ((Le.new hw).trans P1) ?_
      rw [P2, List.length_map, List.take_length, hl, List.take_length]
  · cases h
/-! ### the answer -/
def retB (sc : Scope) (st : Stmt) : Bool := match st with
  | .Return (some (.IfExp (.Compare (.Subscript (.Name f1 _) (.Slice (some (.Constant (.int i1) _ _)) none none _) _) [.Eq] [.List [.Constant (.str b) _ _, .Constant (.str v) _ _] _] _) (.Subscript (.Name f2 _) (.Constant (.int i0) _ _) _) (.Constant (.str _) _ _) _)) _ =>
    decide (f1 = "found") && decide (f2 = "found") && decide (i1 = 1) && decide (i0 = 0) && decide (b = "base") && decide (v = "value") && locS sc "found"
  | _ => false
def bv : List Str := ["base", "value"]
def eg0 : List Str := ["InvalidTable", "InvalidState", "InvalidBook"]
def eg1 : List Str := ["InvalidTop", "InvalidPoints", "InvalidPlayer"]
def eg2 : List Str := ["InvalidNumber", "InvalidIndex", "NotPossible"]
def eg3 : List Str := ["OtherTable", "TooMany", "NothingToUndo"]
def eg4 : List Str := ["VisitError", "ValueError"]
theorem reps_strs {P : Program} {w : World} {K : PySem.W.Frag} {H : Hp} : ∀ l : List Str, Reps P w K H (l.map D.str) (l.map V.str)
  | [] => Reps.nil
  | _ :: l => Reps.cons (by simp only [Rep]) (reps_strs l)
theorem ps_retY (E : ErrX X sc C a c) {st : Stmt} {w : Str} (h : retB sc st = true) : ∃ t, PS X st t ∧ ∀ (D : Ends) (H : Hp) (p q : Addr), H q = some (.lst ([w, "base", "value"].map V.str)) → (∀ H', Le H H' → D.rt (.str w) H') → t D (st3 a p q) H := by
  unfold retB at h
  split at h
  · simp only [Bool.and_eq_true, decide_eq_true_eq] at h
    obtain ⟨⟨⟨⟨⟨⟨e1, e2⟩, e3⟩, e4⟩, e5⟩, e6⟩, l⟩ := h
    subst e1 e2 e3 e4 e5 e6
    refine ⟨_, ps_ret (pe_ifExp (pt_cmpR (op_eqD E.un) (pe_slice sl_list (bsX E (i := 3) rfl (locS_vis l) (by decide)) (po_some pe_int) po_none) (pe_lst (pa_cons pe_str (pa_cons pe_str pa_nil))) rfl) (pe_ix ix_list (bsX E (i := 3) rfl (locS_vis l) (by decide)) pe_int fun _ _ => rfl) pe_str), fun D H p q hq k => ?_⟩
    refine ⟨_, rfl, 1, rfl, q, _, rfl, SqL.of hq, fun r hr => ⟨lenLine (by decide), fun u hu => ?_⟩⟩
    have le1 : Le H (upd H r (.lst (cutV ([w, "base", "value"].map V.str) (some 1) none))) := Le.new hr
    have le2 : Le H (upd (upd H r (.lst (cutV ([w, "base", "value"].map V.str) (some 1) none))) u (.lst [.str "base", .str "value"])) := le1.trans (Le.new hu)
    have rep : ∀ {z : Addr} {G : Hp}, G z = some (.lst (bv.map V.str)) → Dp X.K G (.ref z) (DL.D.lst (bv.map DL.D.str)).py := fun {z G} e =>
      Rep.dpm (P := X.prog) (w := X.w) (Ex.refl G) (by simp only [Rep]; exact ⟨z, _, rfl, e, reps_strs _⟩) (by decide +kernel)
    have sh : SeqAt.shaped (DL.D.lst (bv.map DL.D.str)).py = true := EqOk.shaped (d := DL.D.lst (bv.map DL.D.str)) ⟨by decide +kernel, by decide⟩
    refine ⟨_, _, rep (Le.new hu _ _ upd_same), rep upd_same, sh, sh, _, rfl, ?_⟩
    have ev : PyData.eqv (DL.D.lst (bv.map DL.D.str)).py (DL.D.lst (bv.map DL.D.str)).py = true := by decide +kernel
    rw [ev]; dsimp only; rw [if_pos rfl]
    exact ⟨_, rfl, q, _, 0, _, rfl, rfl, SqL.of (le2 _ _ hq), rfl, k _ le2⟩
  · cases h
/-! ### the whole def -/
def errB (sc : Scope) (sts : List Stmt) : Bool := match sts with
  | [s1, s2, s3, s4, s5, s6, s7, s8] => someB sc eg0 s1 && moreB sc eg1 s2 && moreB sc eg2 s3 && moreB sc eg3 s4 && moreB sc eg4 s5 && wordB sc s6 && foundB sc s7 && retB sc s8
  | _ => false
theorem err_names (h : errK c = true) : goodOnes (Txt.split errW " ") (errBs c errG.flatten) = [errN c, "base", "value"] := by
  have all : ∀ c ∈ (errG.take 4).flatten, goodOnes (Txt.split errW " ") (errBs c errG.flatten) = [errN c, "base", "value"] := by decide +kernel
  exact all c (by unfold errK at h; exact List.contains_iff_mem.mp h)
theorem err_body (E : ErrX X sc C a c) {sts : List Stmt} (h : errB sc sts = true) (hc : errK c = true) : ∃ t, PSs X sts t ∧ ∀ (D : Ends) (H : Hp), (∀ H', Le H H' → D.rt (.str (errN c)) H') → t D [some (.ref a), none, none, none, none, none] H := by
  unfold errB at h
  split at h
  · simp only [Bool.and_eq_true] at h
    obtain ⟨⟨⟨⟨⟨⟨⟨h1, h2⟩, h3⟩, h4⟩, h5⟩, h6⟩, h7⟩, h8⟩ := h
    obtain ⟨t1, p1, w1⟩ := ps_some E h1 (by decide) (by decide)
    obtain ⟨t2, p2, w2⟩ := ps_more (ys := eg0) E h2 (by decide) (by decide)
    obtain ⟨t3, p3, w3⟩ := ps_more (ys := eg0 ++ eg1) E h3 (by decide) (by decide)
    obtain ⟨t4, p4, w4⟩ := ps_more (ys := eg0 ++ eg1 ++ eg2) E h4 (by decide) (by decide)
    obtain ⟨t5, p5, w5⟩ := ps_more (ys := eg0 ++ eg1 ++ eg2 ++ eg3) E h5 (by decide) (by decide)
    obtain ⟨t6, p6, w6⟩ := ps_word E h6
    obtain ⟨t7, p7, w7⟩ := ps_found (bs := errBs c errG.flatten) E h7 (by rw [errBs, List.length_map]; decide +kernel) (by rw [errBs, List.length_map]; decide)
    obtain ⟨t8, p8, w8⟩ := ps_retY (w := errN c) E h8
    refine ⟨_, pss_cons p1 (pss_cons p2 (pss_cons p3 (pss_cons p4 (pss_cons p5 (pss_cons p6 (pss_cons p7 (pss_one p8))))))), fun D H k => ?_⟩
    refine w1 _ H fun q1 H1 l1 e1 => w2 _ H1 q1 e1 fun q2 H2 l2 e2 => w3 _ H2 q2 e2 fun q3 H3 l3 e3 => w4 _ H3 q3 e3 fun q4 H4 l4 e4 => w5 _ H4 q4 e4 fun q5 H5 l5 e5 => w6 _ H5 q5 (w7 _ H5 q5 e5 fun q7 H7 l7 e7 => w8 _ H7 q5 q7 ?_ fun H8 l8 => k H8 ?_)
    · rw [e7, err_names hc]
    · exact (l1.trans (l2.trans (l3.trans (l4.trans (l5.trans (l7.trans l8))))))
  · cases h
end
end DL

set_option maxHeartbeats 2000000
namespace DL
open PySem PySem.Spec PyProof.Rows L2 HotX C8

/-! ### isinstance(e, C), e the error that is handled -/
theorem call_isY {X : Cx} {a D : Addr} {oe : Obj} (C : ExcC X.K D) (hz : Zc (.ref D) none oe) (hf : ∃ vs, oe.data = .fields vs) (hp : (a, oe) ∈ X.pn) : CallR X (.builtin "isinstance") (rIsE X.K D a) := by
  intro pins s σ H xs us Q I r h
  obtain ⟨c, cv, b, e0, hcv, e, q⟩ := h
  subst e0
  obtain _ | ⟨rx, _ | ⟨rt, ⟨⟩⟩⟩ := r
  cases rx
  obtain rfl := hcv _ rt
  have g := (I.pin (a, oe) (List.mem_append_left _ hp)).1
  obtain ⟨vs, hv⟩ := hf
  have J : PySem.W.InstAt s.heap a oe D none := by
    obtain ⟨k, d, z, l⟩ := oe
    obtain ⟨h1, h2⟩ := hz
    dsimp only at h1 h2 hv; subst h1 h2 hv
    exact ⟨g, rfl, rfl, trivial⟩
  exact PySem.W.kia_one (PySem.W.handS_kitx_exc C.hg C.hk C.hs C.hd C.ha C.hn C.ht C.hm) I.kIn J e (fun z => nomatch z) fun tk => ⟨.bl b, H, I.kept (t' := tk) fun _ _ z => z, rfl, q⟩
/-- what is asked of the classes, c the one that is caught -/
structure ErrC (K : PySem.W.Frag) (mg : Str → Option Value) (c : Str) (C : Addr) : Prop where
  ex : ExcC K C
  cls : ∀ x ∈ errG.flatten, ∃ (v : V) (u : Value), (mg x = some u ∨ (mg x = none ∧ bootBuiltins x = some u)) ∧ RelV v u ∧ (∀ u', RelV v u' → u' = u) ∧ PySem.W.kitOne K (.ref C) u = some (decide (x = c) || decide (x = "VisitError") || decide (x = "ValueError"))
theorem err_call {P : Program} {w : World} {K : PySem.W.Frag} {mg : Str → Option Value} {base : Heap} {f : Addr} {x : Str} {params : Arguments} {body : List Stmt} {scope : Scope} {dV kV doc pm cdv ct oc : Value} {an od : Option Addr} {osl : Array (Option Value)}
    (lk : K.lookup f = some ⟨oc, od, .func (PySem.W.fnOf x x params body scope dV kV doc pm an cdv ct), osl⟩) (hcd : PySem.W.codeIn K cdv x = true) (S : FnScope errNs ["e"] scope) (hB : errB scope body = true) (bi : ∀ x ∈ builtins, mg x = none)
    {A : Around} {outer : List Env} {s : Shared} {H : Hp} {args : Args} {us : List Value} {a : Addr} {oe : Obj} {C : Addr} {c : Str} {Q : VK} {E : XK} (hr : L2H.RoomH 1 A) (hot : L2H.Hot1 A (a, oe)) (hpin : L2H.PinOk outer H s (a, oe)) (hz : Zc (.ref C) none oe)
    (ec : ErrC K mg c C) (hc : errK c = true) (e0 : Env0 P w K mg base A outer s H) (hb : BindsTo s (PySem.W.fnOf x x params body scope dV kV doc pm an cdv ct) args ((["e"] : List Str).zip us)) (r : Vals [.ref a] us)
    (hq : ∀ H', (∀ b o, H b = some o → H' b = some o) → Q (.str (errN c)) H') : codeAny (model P w) A (.call (.ref f) args) (CR (L2N.CX P w) outer P w H s Q E) s := by
  have KX : K.In s.heap := e0.mod.kin.keeps fun b o e => (e0.bs b o e).1
  have kd : ∀ y ∈ (["e"] : List Str).zip us, scope.names.lookup y.1 = some .local ∨ (scope.names.lookup y.1 = some .cell ∧ ((cellsFrom (s.heap.objs.size + 1) scope.names []).lookup y.1).isSome = true) := fun y m =>
    (S.par y.1 (List.of_mem_zip (a := y.1) (b := y.2) m).1).imp id fun q => ⟨q, PySem.W.cellsFrom_some _ _ _ (.inl q)⟩
  refine codeAny_call_function hr.depth (KX _ _ lk) rfl S.co S.gen rfl (PySem.W.codeRec_of KX hcd) (hb _ _ _ _ (wpAny_newFunctionEnv_cells S.kind kd fun env he t z => ?_))
  subst he
  refine ⟨(e0.mod.nolimit.keeps fun b o e => (e0.bs b o e).1).keeps z.toInCall.keep, codeAny_func ?_⟩
  have I : Inv (L2H.cxH (L2N.CX P w) P w K mg base errNs x scope f cdv A outer s H E (a, oe)) [] (L2.start errNs [.ref a]) H t := L2H.inv_startH S hpin e0 rfl r z
  obtain ⟨hh, vs, hd, hctx⟩ := hot
  have EX : ErrX (L2H.cxH (L2N.CX P w) P w K mg base errNs x scope f cdv A outer s H E (a, oe)) scope C a c := by
    refine ⟨⟨hh, ⟨oe, vs, hpin.get, hd, hctx⟩, hpin.free, hpin.nofs, fun m => ?_⟩, rfl, rfl, S.kind, ?_, bi, call_isY ec.ex hz ⟨vs, hd⟩ List.mem_cons_self, ec.cls⟩
    · cases m
    · have := hr.un
      show A.units + 3 + 64 < cLine
      omega
  obtain ⟨tt, pt, wt⟩ := err_body EX hB hc
  refine wpAny_mono (pt.run [] t (L2.start errNs [.ref a]) H { nx := fun _ H' => Q .non H', rt := Q } I (wt _ H hq)) (fun fl u k => ?_) fun _ _ k => k
  cases fl with
  | ret v =>
    obtain ⟨y, σ', H', J, rv, q⟩ := k
    exact ⟨y, H', J.os, J.bare, J.base, J.hok, rv, q⟩
  | next =>
    obtain ⟨σ', H', J, q⟩ := k
    exact ⟨V.non, H', J.os, J.bare, J.base, J.hok, rfl, q⟩
  | brk => exact k.elim fun _ k => k.elim fun _ k => k.2.elim
  | cont => exact k.elim fun _ k => k.elim fun _ k => k.2.elim

/-! ### the facts of a module -/
def mroC (C V : Addr) : List Value := [.ref C, .ref V, .type "ValueError", .type "Exception", .type "BaseException", .type "object"]
structure ClsF (K : PySem.W.Frag) (V : Addr) (c : Str) (C : Addr) : Prop where
  ns : PySem.W.nsIn K mainGlobals c = some (some (.ref C))
  ty : PySem.W.typeIn K (.ref C) = some (.type "type")
  cd : ∃ cd, PySem.W.clsIn K C = some cd ∧ cd.mro = mroC C V ∧ cd.hasDict = true
  g : PySem.W.findIn K (.ref C) "__getattribute__" = some (some (.builtin "BaseException.__getattribute__"))
  k : PySem.W.findIn K (.ref C) "__getattr__" = some none
  a : PySem.W.findIn K (.ref C) "__class__" = some (some (.builtin "object.__class__"))
theorem ClsF.of {K : PySem.W.Frag} {V : Addr} {c : Str} {C : Addr} {cd : ClassData} (ns : PySem.W.nsIn K mainGlobals c = some (some (.ref C))) (ty : PySem.W.typeIn K (.ref C) = some (.type "type")) (e : PySem.W.clsIn K C = some cd) (m : cd.mro = mroC C V) (d : cd.hasDict = true)
    (g : PySem.W.findIn K (.ref C) "__getattribute__" = some (some (.builtin "BaseException.__getattribute__"))) (k : PySem.W.findIn K (.ref C) "__getattr__" = some none) (a : PySem.W.findIn K (.ref C) "__class__" = some (some (.builtin "object.__class__"))) : ClsF K V c C := ⟨ns, ty, ⟨cd, e, m, d⟩, g, k, a⟩
/-- the base class itself -/
structure BasF (K : PySem.W.Frag) (V : Addr) : Prop where
  ns : PySem.W.nsIn K mainGlobals "VisitError" = some (some (.ref V))
  ty : PySem.W.typeIn K (.ref V) = some (.type "type")
  cd : ∃ cd, PySem.W.clsIn K V = some cd ∧ cd.hasDict = true ∧ cd.mro = [.ref V, .type "ValueError", .type "Exception", .type "BaseException", .type "object"]
theorem BasF.of {K : PySem.W.Frag} {V : Addr} {cd : ClassData} (ns : PySem.W.nsIn K mainGlobals "VisitError" = some (some (.ref V))) (ty : PySem.W.typeIn K (.ref V) = some (.type "type")) (e : PySem.W.clsIn K V = some cd) (d : cd.hasDict = true) (m : cd.mro = [.ref V, .type "ValueError", .type "Exception", .type "BaseException", .type "object"]) : BasF K V := ⟨ns, ty, cd, e, d, m⟩
def ClsFs (K : PySem.W.Frag) (V : Addr) : List Str → List Addr → Prop
  | [], [] => True
  | c :: cs, C :: Cs => ClsF K V c C ∧ ClsFs K V cs Cs
  | _, _ => False
def errAll : List Str := (errG.take 4).flatten
theorem ClsFs.at {K : PySem.W.Frag} {V : Addr} : ∀ {cs : List Str} {Cs : List Addr}, ClsFs K V cs Cs → ∀ {c : Str}, c ∈ cs → ∃ (i : Nat) (C : Addr), cs[i]? = some c ∧ Cs[i]? = some C ∧ ClsF K V c C
  | [], [], _, _, m => by cases m
  | c :: cs, C :: Cs, h, x, m => by
    rcases List.mem_cons.mp m with e | m
    · subst e; exact ⟨0, C, rfl, rfl, h.1⟩
    · obtain ⟨i, C', a, b, d⟩ := ClsFs.at h.2 m
      exact ⟨i + 1, C', a, b, d⟩
  | [], _ :: _, h, _, _ => h.elim
  | _ :: _, [], h, _, _ => h.elim
theorem nodup_at {α : Type} : ∀ {l : List α}, l.Nodup → ∀ {i j : Nat} {x : α}, l[i]? = some x → l[j]? = some x → i = j
  | [], _, i, j, x, h, _ => by simp at h
  | a :: l, nd, i, j, x, h1, h2 => by
    rw [List.nodup_cons] at nd
    cases i with
    | zero =>
      cases j with
      | zero => rfl
      | succ j =>
        rw [List.getElem?_cons_zero] at h1; rw [List.getElem?_cons_succ] at h2
        cases h1
        exact absurd (List.mem_of_getElem? h2) nd.1
    | succ i =>
      rw [List.getElem?_cons_succ] at h1
      cases j with
      | zero =>
        rw [List.getElem?_cons_zero] at h2
        cases h2
        exact absurd (List.mem_of_getElem? h1) nd.1
      | succ j =>
        rw [List.getElem?_cons_succ] at h2
        rw [nodup_at nd.2 h1 h2]
/-- all of it -/
structure ErrFacts (K : PySem.W.Frag) (st : Stmt) : Prop where
  d : DefFacts K "_law_error_name" st
  c : ∃ (V : Addr) (Cs : List Addr), (V :: Cs).Nodup ∧ BasF K V ∧ ClsFs K V errAll Cs
  x : PySem.W.nsIn K mainGlobals "ValueError" = some none
  n : PySem.W.specialIn K (.builtin "object.__class__") "__get__" = some (some (.builtin "getset_descriptor.__get__"))
  t : PySem.W.takesIn K (.builtin "object.__class__") = some true
theorem ErrFacts.of {K : PySem.W.Frag} {h : Heap} (_ : K.In h) {st : Stmt} (t : ErrFacts K st) : ErrFacts K st := t
theorem ErrFacts.mk12 {K : PySem.W.Frag} {st : Stmt} {V C0 C1 C2 C3 C4 C5 C6 C7 C8 C9 C10 C11 : Addr} (d : DefFacts K "_law_error_name" st) (B : BasF K V) (f0 : ClsF K V "InvalidTable" C0) (f1 : ClsF K V "InvalidState" C1) (f2 : ClsF K V "InvalidBook" C2) (f3 : ClsF K V "InvalidTop" C3) (f4 : ClsF K V "InvalidPoints" C4) (f5 : ClsF K V "InvalidPlayer" C5) (f6 : ClsF K V "InvalidNumber" C6) (f7 : ClsF K V "InvalidIndex" C7) (f8 : ClsF K V "NotPossible" C8) (f9 : ClsF K V "OtherTable" C9) (f10 : ClsF K V "TooMany" C10) (f11 : ClsF K V "NothingToUndo" C11)
    (nd : ([V, C0, C1, C2, C3, C4, C5, C6, C7, C8, C9, C10, C11] : List Addr).Nodup) (x : PySem.W.nsIn K mainGlobals "ValueError" = some none) (n : PySem.W.specialIn K (.builtin "object.__class__") "__get__" = some (some (.builtin "getset_descriptor.__get__"))) (t : PySem.W.takesIn K (.builtin "object.__class__") = some true) : ErrFacts K st :=
  ⟨d, ⟨V, [C0, C1, C2, C3, C4, C5, C6, C7, C8, C9, C10, C11], nd, B, f0, f1, f2, f3, f4, f5, f6, f7, f8, f9, f10, f11, True.intro⟩, x, n, t⟩
theorem sub_of {K : PySem.W.Frag} {C : Addr} {cd : ClassData} {b : Value} {l : List Value} (e : PySem.W.clsIn K C = some cd) (m : cd.mro = l) (ne : l ≠ []) : PySem.W.subIn K (.ref C) b = some (l.contains b) := by
  show PySem.W.mroIn K C b = _
  unfold PySem.W.mroIn
  rw [e, Option.bind_some, m, if_neg]
  cases l with
  | nil => exact absurd rfl ne
  | cons a l => exact Bool.false_ne_true
section
variable {P : Program} {w : World} {K : PySem.W.Frag} {mg : Str → Option Value} {base : Heap}
theorem errK_of {c : Str} (h : errN c ≠ "else") : c ∈ errAll := by
  have key : ∀ (l : List (Str × Str)) (c : Str), (l.lookup c).getD "else" ≠ "else" → c ∈ l.map (·.1) := fun l c => by
    induction l with
    | nil => intro h; exact absurd rfl h
    | cons p l ih =>
      intro h
      obtain ⟨a, b⟩ := p
      rw [List.lookup_cons] at h
      cases e : c == a with
      | true => rw [List.map_cons, eq_of_beq e]; exact List.mem_cons_self
      | false => rw [e] at h; exact List.mem_cons_of_mem _ (ih h)
  exact key _ c h
theorem ClsF.exc {V C : Addr} {c : Str} (f : ClsF K V c C) (n : PySem.W.specialIn K (.builtin "object.__class__") "__get__" = some (some (.builtin "getset_descriptor.__get__"))) (t : PySem.W.takesIn K (.builtin "object.__class__") = some true) : ExcC K C := by
  obtain ⟨cd, e, m, d⟩ := f.cd
  refine ⟨f.g, f.k, ?_, ?_, f.a, n, t, ?_⟩
  · rw [sub_of e m (by simp [mroC])]; rfl
  · unfold PySem.W.hasDictIn; rw [e]; exact d
  · have := sub_of (b := .type "object") e m (by simp [mroC])
    exact this.trans rfl
theorem err_ok {st : Stmt} {h : Heap} (F : ErrFacts K st) (X : K.In h) (G : h.Ns mainGlobals mg) (bi : ∀ x ∈ builtins, mg x = none) (sc : scC errNs ["e"] (fnScope st) = true) (hB : errB (fnScope st) (fnBody st) = true)
    (hb : ∀ (kV doc pm : Value) (an : Option Addr) (cdv ct : Value) (us : List Value), us.length = (["e"] : List Str).length → bindArgs (PySem.W.fnOf "_law_error_name" "_law_error_name" (fnArgs st) (fnBody st) (fnScope st) .none kV doc pm an cdv ct) ⟨us, []⟩ = pure ((["e"] : List Str).zip us)) : ErrFn P w K mg base := by
  obtain ⟨V, Cs, nd, B, CF⟩ := F.c
  have Vm := PySem.W.mg_of X G B.ns
  obtain ⟨cdV, eV, dV, mV⟩ := B.cd
  rw [List.nodup_cons] at nd
  have sV : PySem.W.subIn K (.ref V) (.type "BaseException") = some true := (sub_of eV mV (by simp)).trans rfl
  have clV : (PySem.W.clsIn K V).isSome = true := by rw [eV]; rfl
  have at_ : ∀ {c : Str} {C : Addr}, c ∈ errAll → mg c = some (.ref C) → ∃ i : Nat, errAll[i]? = some c ∧ Cs[i]? = some C ∧ ClsF K V c C := fun {c C} m hm => by
    obtain ⟨i, C', e1, e2, f⟩ := CF.at m
    have := PySem.W.mg_of X G f.ns
    rw [hm] at this; cases this
    exact ⟨i, e1, e2, f⟩
  have eAll : errAll.Nodup := by decide +kernel
  have kit : ∀ {c : Str} {C : Addr}, c ∈ errAll → mg c = some (.ref C) → ErrC K mg c C := fun {c C} m hm => by
    obtain ⟨i, e1, e2, f⟩ := at_ m hm
    obtain ⟨cd, e, mr, d⟩ := f.cd
    have neV : ∀ {D : Addr}, D ∈ Cs → D ≠ V := fun m z => nd.1 (z ▸ m)
    refine ⟨f.exc F.n F.t, fun x hx => ?_⟩
    have hx' : x ∈ errAll ∨ x = "VisitError" ∨ x = "ValueError" := by
      have : x ∈ errAll ++ (["VisitError", "ValueError"] : List Str) := hx
      simpa using this
    have kc : ∀ {D : Addr}, (PySem.W.clsIn K D).isSome = true → PySem.W.typeIn K (.ref D) = some (.type "type") → PySem.W.kitOne K (.ref C) (.ref D) = some ((mroC C V).contains (.ref D)) := fun {D} h1 h2 => by
      unfold PySem.W.kitOne
      cases q : (Value.ref C == Value.ref D) with
      | true =>
        have : Value.ref C = Value.ref D := eq_of_beq q
        rw [if_pos rfl, ← this]
        simp [mroC]
      | false =>
        rw [if_neg Bool.false_ne_true]
        show (if ((PySem.W.clsIn K D).isSome && PySem.W.typeIn K (.ref D) == some (.type "type")) = true then PySem.W.subIn K (.ref C) (.ref D) else none) = _
        rw [if_pos (by rw [h1, h2]; rfl), sub_of e mr (by simp [mroC])]
    rcases hx' with hx' | hx' | hx'
    · obtain ⟨j, D, f1, f2, fD⟩ := CF.at hx'
      obtain ⟨cdD, eD, mD, dD⟩ := fD.cd
      refine ⟨.ref D, .ref D, .inl (PySem.W.mg_of X G fD.ns), rfl, fun u' h => h, ?_⟩
      rw [kc (by rw [eD]; rfl) fD.ty]
      have n1 : x ≠ "VisitError" := fun z => by rw [z] at hx'; revert hx'; decide +kernel
      have n2 : x ≠ "ValueError" := fun z => by rw [z] at hx'; revert hx'; decide +kernel
      have nV := neV (List.mem_of_getElem? f2)
      by_cases q : x = c
      · subst q
        have := PySem.W.mg_of X G fD.ns
        rw [hm] at this; cases this
        simp [mroC]
      · have nC : D ≠ C := fun z => by
          subst z
          obtain rfl := nodup_at nd.2 e2 f2
          rw [e1] at f1; cases f1
          exact q rfl
        simp [mroC, q, n1, n2, nC, nV]
    · subst hx'
      refine ⟨.ref V, .ref V, .inl Vm, rfl, fun u' h => h, ?_⟩
      rw [kc clV B.ty]
      simp [mroC]
    · subst hx'
      refine ⟨.ty "ValueError", .type "ValueError", .inr ⟨PySem.W.mg_none_of X G F.x, rfl⟩, rfl, fun u' h => h, ?_⟩
      have k1 : PySem.W.kitOne K (.ref C) (.type "ValueError") = PySem.W.subIn K (.ref C) (.type "ValueError") := rfl
      rw [k1, sub_of e mr (by simp [mroC])]
      simp [mroC]
  refine ⟨?_, V, Vm, fun c C hc hm => ?_⟩
  · obtain ⟨f, fd, Df, hd⟩ := F.d.def X G
    obtain ⟨oc, od, dV, kV, doc, pm, an, cdv, ct, osl, e, lk, hcd⟩ := Df.fn.ex
    refine ⟨f, fd, Df.mgf, Df.kp, Df.fn.binds hd hb, fun A outer s H args us a oe C c Q E hr hot hpin hz hm hc e0 hbt r hq => ?_⟩
    subst e
    have m := errK_of hc
    exact err_call lk hcd (fnScope_by sc) hB bi hr hot hpin hz (kit m hm) (by unfold errK; exact List.contains_iff_mem.mpr m) e0 hbt r hq
  · obtain ⟨i, e1, e2, f⟩ := at_ (errK_of hc) hm
    obtain ⟨cd, e, mr, d⟩ := f.cd
    have h4 : PySem.W.subIn K (.ref C) (.ref V) = some true := by rw [sub_of e mr (by simp [mroC])]; simp [mroC]
    exact PySem.W.exm_ref sV (by unfold PySem.W.hasDictIn; rw [eV]; exact dV) B.ty h4
end
end DL

namespace DL
/-! ### single visits -/
def colS (low many : Int) : Int := many * low + many * (many - 1) / 2
def comesB (top many points : Int) : Bool := if many = 0 then decide (points = 0) else decide ((3 * many - 2 ≤ points ∧ points ≤ many + top * (many - 1)) ∨ (3 * many ≤ points ∧ points ≤ (top + 1) * many))
def nA (top left points m : Int) : Option (Int × Int) := if comesB top m points = true then some (left - m, 2) else none
def nC (top left points m : Int) : Option (Int × Int) := if 3 * left ≤ points - colS 2 m ∧ points - colS 2 m ≤ (top + 1) * left then some (0, 2 + m) else none
def n0 (low points m : Int) : Option (Int × Int) := if colS low m = points then some (0, low + m) else none
def nB (top left points : Int) : List (Int × Int) := if 3 * left - 2 ≤ points ∧ points ≤ left + top * (left - 1) then [(0, 2)] else []
def nextL (top left low points : Int) : List (Int × Int) :=
  if top < low then [] else if left = 0 then (rg 0 (top - low + 2)).filterMap (n0 low points)
  else ssP ((rg 0 left).filterMap (nA top left points) ++ nB top left points ++ (rg 0 top).filterMap (nC top left points))
theorem colS_zero (low : Int) : colS low 0 = 0 := by simp [colS]
theorem half_succ (m : Int) : (m + 1) * (m + 1 - 1) / 2 = m * (m - 1) / 2 + m := by
  have e : (m + 1) * (m + 1 - 1) = m * (m - 1) + m * 2 := by
    rw [Int.add_sub_cancel, Int.add_mul, Int.mul_sub]; omega
  rw [e, Int.add_mul_ediv_right _ _ (by decide)]
theorem colS_succ (low m : Int) : colS low (m + 1) = colS low m + (low + m) := by
  unfold colS
  rw [half_succ, Int.add_mul]
  omega
theorem colS_mono {low : Int} (h : 2 ≤ low) : ∀ (n : Nat) (m : Int), 0 ≤ m → colS low m + 2 * n ≤ colS low (m + n)
  | 0, m, _ => by simp
  | n + 1, m, hm => by
    have := colS_mono h n m hm
    have e : m + ((n + 1 : Nat) : Int) = (m + n) + 1 := by omega
    rw [e, colS_succ]
    omega
theorem colS_inj {low a b : Int} (h : 2 ≤ low) (ha : 0 ≤ a) (hb : 0 ≤ b) (e : colS low a = colS low b) : a = b := by
  rcases Int.lt_trichotomy a b with l | l | l
  · have := colS_mono h (b - a).toNat a ha
    rw [show a + ((b - a).toNat : Int) = b by omega] at this
    omega
  · exact l
  · have := colS_mono h (a - b).toNat b hb
    rw [show b + ((a - b).toNat : Int) = a by omega] at this
    omega
theorem colS_nonneg {low m : Int} (h : 2 ≤ low) (hm : 0 ≤ m) : 0 ≤ colS low m := by
  have := colS_mono h m.toNat 0 (by omega)
  rw [colS_zero, show (0 : Int) + (m.toNat : Int) = m by omega] at this
  omega
theorem colS_ge {low m : Int} (h : 2 ≤ low) (hm : 0 ≤ m) : 2 * m ≤ colS low m := by
  have := colS_mono h m.toNat 0 (by omega)
  rw [colS_zero, show (0 : Int) + (m.toNat : Int) = m by omega] at this
  omega
/-- the step of one visit -/
def Nxt (top l w p : Int) (x : Int × Int) : Prop :=
  w ≤ top ∧ ((l = 0 ∧ ∃ m, 0 ≤ m ∧ m ≤ top - w + 1 ∧ colS w m = p ∧ x = (0, w + m)) ∨
    (l ≠ 0 ∧ ((∃ m, 0 ≤ m ∧ m < l ∧ comesB top m p = true ∧ x = (l - m, 2)) ∨ (3 * l - 2 ≤ p ∧ p ≤ l + top * (l - 1) ∧ x = (0, 2)) ∨
      ∃ m, 0 ≤ m ∧ m < top ∧ 3 * l ≤ p - colS 2 m ∧ p - colS 2 m ≤ (top + 1) * l ∧ x = (0, 2 + m))))
theorem mem_nextL {top l w p : Int} {x : Int × Int} : x ∈ nextL top l w p ↔ Nxt top l w p x := by
  unfold nextL Nxt
  by_cases h : top < w
  · simp only [if_pos h, List.not_mem_nil, false_iff]
    omega
  · rw [if_neg h]
    by_cases h0 : l = 0
    · rw [if_pos h0]
      simp only [List.mem_filterMap, mem_rg, n0]
      constructor
      · rintro ⟨m, ⟨h1, h2⟩, h3⟩
        split at h3
        · simp only [Option.some.injEq] at h3
          exact ⟨by omega, .inl ⟨h0, m, h1, by omega, by assumption, h3.symm⟩⟩
        · cases h3
      · rintro ⟨_, ⟨_, m, h1, h2, h3, h4⟩ | ⟨h1, _⟩⟩
        · exact ⟨m, ⟨h1, by omega⟩, by rw [if_pos h3, h4]⟩
        · exact absurd h0 h1
    · rw [if_neg h0]
      simp only [mem_ssP, List.mem_append, List.mem_filterMap, mem_rg, nA, nB, nC]
      constructor
      · rintro ((⟨m, ⟨h1, h2⟩, h3⟩ | h3) | ⟨m, ⟨h1, h2⟩, h3⟩)
        · split at h3
          · simp only [Option.some.injEq] at h3
            exact ⟨by omega, .inr ⟨h0, .inl ⟨m, h1, h2, by assumption, h3.symm⟩⟩⟩
          · cases h3
        · split at h3
          · rename_i h4
            exact ⟨by omega, .inr ⟨h0, .inr (.inl ⟨h4.1, h4.2, by simpa using h3⟩)⟩⟩
          · cases h3
        · split at h3
          · rename_i h4
            simp only [Option.some.injEq] at h3
            exact ⟨by omega, .inr ⟨h0, .inr (.inr ⟨m, h1, h2, h4.1, h4.2, h3.symm⟩)⟩⟩
          · cases h3
      · rintro ⟨_, ⟨h1, _⟩ | ⟨_, ⟨m, h1, h2, h3, h4⟩ | ⟨h1, h2, h3⟩ | ⟨m, h1, h2, h3, h4, h5⟩⟩⟩
        · exact absurd h1 h0
        · exact .inl (.inl ⟨m, ⟨h1, h2⟩, by rw [if_pos h3, h4]⟩)
        · exact .inl (.inr (by rw [if_pos ⟨h1, h2⟩, h3]; exact List.mem_singleton.mpr rfl))
        · exact .inr ⟨m, ⟨h1, h2⟩, by rw [if_pos ⟨h3, h4⟩, h5]⟩
theorem asc_nextL {top l w p : Int} : AscP (nextL top l w p) := by
  unfold nextL
  split
  · exact List.Pairwise.nil
  · split
    · refine List.Pairwise.filterMap (R := fun (a b : Int) => a < b) _ (fun a a' h x hx y hy => ?_) (asc_rg _ _)
      simp only [n0, Option.ite_none_right_eq_some, Option.some.injEq] at hx hy
      obtain ⟨_, rfl⟩ := hx
      obtain ⟨_, rfl⟩ := hy
      exact .inr ⟨rfl, by show w + a < w + a'; omega⟩
    · exact asc_ssP _
/-- with reds left behind -/
theorem comes_iff {top m p : Int} (ht : 3 ≤ top) (hm : 0 ≤ m) (hp : 0 ≤ p) : comesB top m p = true ↔ p ≠ 2 ∧ 3 * m ≤ p + 2 ∧ p ≤ (top + 1) * m := by
  unfold comesB
  split
  · rename_i h; subst h
    simp only [decide_eq_true_eq, Int.mul_zero]
    omega
  · rename_i h
    simp only [decide_eq_true_eq]
    by_cases h1 : m = 1
    · subst h1; simp only [Int.mul_one, Int.sub_self, Int.mul_zero]; omega
    · have e1 : (top + 1) * m = top * (m - 1) + (top + m) := by rw [Int.add_mul, Int.mul_sub]; omega
      have e2 : 3 * (m - 1) ≤ top * (m - 1) := Int.mul_le_mul_of_nonneg_right ht (by omega)
      rw [e1]
      omega
/-! ### states -/
/-- is a state -/
def St (reds top : Int) (x : Int × Int) : Prop := 0 ≤ x.1 ∧ x.1 ≤ reds ∧ 2 ≤ x.2 ∧ x.2 ≤ top + 1 ∧ (x.1 = 0 ∨ x.2 = 2)
theorem Nxt.st {reds top p : Int} {s x : Int × Int} (ht : 1 ≤ top) (h : Nxt top s.1 s.2 p x) (hs : St reds top s) : St reds top x := by
  obtain ⟨h1, h2, h3, h4, h5⟩ := hs
  obtain ⟨hw, ⟨h0, m, a, b, c, rfl⟩ | ⟨h0, ⟨m, a, b, c, rfl⟩ | ⟨a, b, rfl⟩ | ⟨m, a, b, c, d, rfl⟩⟩⟩ := h <;> refine ⟨?_, ?_, ?_, ?_, ?_⟩ <;> dsimp only <;> omega
/-- all states there are -/
def allS (reds top : Int) : List (Int × Int) := (rg 1 (reds + 1)).map (fun l => (l, 2)) ++ (rg 2 (top + 2)).map fun w => (0, w)
theorem mem_allS {reds top : Int} {x : Int × Int} (h : St reds top x) : x ∈ allS reds top := by
  obtain ⟨h1, h2, h3, h4, h5⟩ := h
  obtain ⟨l, w⟩ := x
  simp only [allS, List.mem_append, List.mem_map, mem_rg]
  dsimp only at *
  by_cases h0 : l = 0
  · exact .inr ⟨w, by omega, by rw [h0]⟩
  · exact .inl ⟨l, by omega, by rcases h5 with h5 | h5; exact absurd h5 h0; rw [h5]⟩
theorem allS_length (reds top : Int) : (allS reds top).length = reds.toNat + top.toNat := by
  simp only [allS, List.length_append, List.length_map, rg_length]
  omega
theorem few {reds top : Int} {l : List (Int × Int)} (hd : l.Nodup) (h : ∀ x ∈ l, St reds top x) : l.length ≤ reds.toNat + top.toNat := by
  rw [← allS_length]
  exact nodup_le hd fun x hx => mem_allS (h x hx)
/-! ### books -/
/-- the states behind one visit -/
def nxS (top : Int) (S : List (Int × Int)) (p : Int) : List (Int × Int) := ssP (S.flatMap fun s => nextL top s.1 s.2 p)
def stL (top : Int) (S : List (Int × Int)) (book : List Int) : List (Int × Int) := book.foldl (nxS top) S
theorem mem_nxS {top p : Int} {S : List (Int × Int)} {x : Int × Int} : x ∈ nxS top S p ↔ ∃ s ∈ S, Nxt top s.1 s.2 p x := by
  simp only [nxS, mem_ssP, List.mem_flatMap, mem_nextL]
theorem asc_nxS (top p : Int) (S : List (Int × Int)) : AscP (nxS top S p) := asc_ssP _
theorem stL_nil (top : Int) (S : List (Int × Int)) : stL top S [] = S := rfl
theorem stL_cons (top : Int) (S : List (Int × Int)) (p : Int) (b : List Int) : stL top S (p :: b) = stL top (nxS top S p) b := rfl
theorem stL_append (top : Int) (S : List (Int × Int)) (a b : List Int) : stL top S (a ++ b) = stL top (stL top S a) b := List.foldl_append
theorem stL_snoc (top : Int) (S : List (Int × Int)) (a : List Int) (p : Int) : stL top S (a ++ [p]) = nxS top (stL top S a) p := by rw [stL_append]; rfl
theorem asc_stL {top : Int} : ∀ {b : List Int} {S : List (Int × Int)}, AscP S → AscP (stL top S b)
  | [], _, h => h
  | p :: b, S, h => asc_stL (b := b) (asc_nxS top p S)
theorem nxS_nil (top p : Int) : nxS top [] p = [] := rfl
theorem stL_empty (top : Int) : ∀ b : List Int, stL top [] b = []
  | [] => rfl
  | p :: b => by rw [stL_cons, nxS_nil, stL_empty]
abbrev AllSt (reds top : Int) (S : List (Int × Int)) : Prop := ∀ x ∈ S, St reds top x
theorem nxS_st {reds top p : Int} {S : List (Int × Int)} (ht : 1 ≤ top) (h : AllSt reds top S) : AllSt reds top (nxS top S p) := fun x hx => by
  obtain ⟨s, hs, n⟩ := mem_nxS.mp hx
  exact n.st ht (h s hs)
theorem stL_st {reds top : Int} (ht : 1 ≤ top) : ∀ {b : List Int} {S : List (Int × Int)}, AllSt reds top S → AllSt reds top (stL top S b)
  | [], _, h => h
  | p :: b, S, h => stL_st ht (b := b) (nxS_st ht h)
theorem begin_st {reds top : Int} (hr : 0 ≤ reds) (ht : 1 ≤ top) : AllSt reds top [(reds, 2)] := fun x hx => by
  rw [List.mem_singleton] at hx
  subst hx
  exact ⟨hr, Int.le_refl _, Int.le_refl _, by show 2 ≤ top + 1; omega, .inr rfl⟩
/-- the states behind a book -/
def ofB (reds top : Int) (b : List Int) : List (Int × Int) := stL top [(reds, 2)] b
theorem asc_ofB (reds top : Int) (b : List Int) : AscP (ofB reds top b) := asc_stL (List.pairwise_singleton _ _)
theorem ofB_st {reds top : Int} (hr : 0 ≤ reds) (ht : 1 ≤ top) (b : List Int) : AllSt reds top (ofB reds top b) := stL_st ht (begin_st hr ht)
theorem stL_sub {top : Int} : ∀ {b : List Int} {S T : List (Int × Int)}, (∀ x ∈ S, x ∈ T) → ∀ x ∈ stL top S b, x ∈ stL top T b
  | [], _, _, h => h
  | p :: b, S, T, h => stL_sub (b := b) fun x hx => by
    obtain ⟨s, hs, n⟩ := mem_nxS.mp hx
    exact mem_nxS.mpr ⟨s, h s hs, n⟩
/-- each state behind a book comes from one before it -/
theorem stL_mem {top : Int} : ∀ {b : List Int} {S : List (Int × Int)} {x : Int × Int}, x ∈ stL top S b ↔ ∃ s ∈ S, x ∈ stL top [s] b
  | [], S, x => by simp [stL]
  | p :: b, S, x => by
    rw [stL_cons, stL_mem]
    constructor
    · rintro ⟨t, ht, hx⟩
      obtain ⟨s, hs, n⟩ := mem_nxS.mp ht
      exact ⟨s, hs, by rw [stL_cons, stL_mem]; exact ⟨t, mem_nxS.mpr ⟨s, List.mem_singleton.mpr rfl, n⟩, hx⟩⟩
    · rintro ⟨s, hs, hx⟩
      rw [stL_cons, stL_mem] at hx
      obtain ⟨t, ht, hx⟩ := hx
      obtain ⟨s', hs', n⟩ := mem_nxS.mp ht
      rw [List.mem_singleton] at hs'
      subst hs'
      exact ⟨t, mem_nxS.mpr ⟨_, hs, n⟩, hx⟩
end DL

namespace DL
/-! ### reds of visits -/
def loI (top p : Int) : Int := -(-p / (top + 1))
def hiI (p : Int) : Int := (p + 2) / 3
theorem loI_le {top p m : Int} (ht : 0 ≤ top) : loI top p ≤ m ↔ p ≤ (top + 1) * m := by
  unfold loI
  have e : -m ≤ -p / (top + 1) ↔ -m * (top + 1) ≤ -p := Int.le_ediv_iff_mul_le (by omega)
  rw [Int.neg_mul, Int.mul_comm m] at e
  omega
theorem hiI_le {p m : Int} : m ≤ hiI p ↔ 3 * m ≤ p + 2 := by
  unfold hiI
  rw [Int.le_ediv_iff_mul_le (by omega), Int.mul_comm]
theorem comes_iv {top m p : Int} (ht : 3 ≤ top) (hm : 0 ≤ m) (hp : 0 ≤ p) : comesB top m p = true ↔ p ≠ 2 ∧ loI top p ≤ m ∧ m ≤ hiI p := by
  rw [comes_iff ht hm hp, loI_le (by omega), hiI_le]
  omega
theorem loI_nonneg {top p : Int} (ht : 0 ≤ top) (hp : 0 ≤ p) : 0 ≤ loI top p := by
  refine Int.not_lt.mp fun h => ?_
  have := (loI_le (top := top) (p := p) (m := -1) ht).mp (by omega)
  have e : (top + 1) * -1 = -(top + 1) := by rw [Int.mul_neg, Int.mul_one]
  omega
theorem lo_le_hi {top p : Int} (ht : 3 ≤ top) (hp : 0 ≤ p) : loI top p ≤ hiI p := by
  rw [loI_le (by omega)]
  have h1 : p ≤ 4 * hiI p := by unfold hiI; omega
  have h2 : 4 * hiI p ≤ (top + 1) * hiI p := Int.mul_le_mul_of_nonneg_right (by omega) (by unfold hiI; omega)
  omega
theorem hiI_nonneg {p : Int} (hp : 0 ≤ p) : 0 ≤ hiI p := by unfold hiI; omega
/-- a pot that leaves no red needs no more than hiI reds -/
theorem Nxt.zero_le {top l p : Int} {x : Int × Int} (ht : 0 ≤ top) (hl : 0 < l) (h : Nxt top l 2 p x) (hx : x.1 = 0) : l ≤ hiI p := by
  rw [hiI_le]
  obtain ⟨_, ⟨h0, _⟩ | ⟨_, ⟨m, a, b, c, rfl⟩ | ⟨a, b, rfl⟩ | ⟨m, a, b, c, d, rfl⟩⟩⟩ := h
  · omega
  · dsimp only at hx; omega
  · omega
  · have := colS_nonneg (Int.le_refl 2) a
    omega
theorem nxt_pos {top l p : Int} {x : Int × Int} (ht : 3 ≤ top) (hl : 0 < l) (hp : 0 ≤ p) (hx : x.1 ≠ 0) : Nxt top l 2 p x ↔ p ≠ 2 ∧ ∃ m, loI top p ≤ m ∧ m ≤ hiI p ∧ m < l ∧ x = (l - m, 2) := by
  constructor
  · rintro ⟨_, ⟨h0, _⟩ | ⟨_, ⟨m, a, b, c, rfl⟩ | ⟨a, b, rfl⟩ | ⟨m, a, b, c, d, rfl⟩⟩⟩
    · omega
    · obtain ⟨c1, c2, c3⟩ := (comes_iv ht a hp).mp c
      exact ⟨c1, m, c2, c3, b, rfl⟩
    · exact absurd rfl hx
    · exact absurd rfl hx
  · rintro ⟨h2, m, a, b, c, rfl⟩
    have h0 := loI_nonneg (top := top) (by omega) hp
    exact ⟨by omega, .inr ⟨by omega, .inl ⟨m, by omega, c, (comes_iv ht (by omega) hp).mpr ⟨h2, a, b⟩, rfl⟩⟩⟩
/-! ### as long as reds are surely left -/
def ivl (a b : Int) : List (Int × Int) := (rg a (b + 1)).map fun l => (l, 2)
theorem mem_ivl {a b : Int} {x : Int × Int} : x ∈ ivl a b ↔ a ≤ x.1 ∧ x.1 ≤ b ∧ x.2 = 2 := by
  simp only [ivl, List.mem_map, mem_rg]
  constructor
  · rintro ⟨l, h, rfl⟩; exact ⟨h.1, by dsimp only; omega, rfl⟩
  · rintro ⟨h1, h2, h3⟩; exact ⟨x.1, by omega, by rw [← h3]⟩
theorem asc_ivl (a b : Int) : AscP (ivl a b) := by
  unfold ivl AscP
  rw [List.pairwise_map]
  exact List.Pairwise.imp (fun {i j} (h : i < j) => .inl h) (asc_rg _ _)
theorem nxS_ivl {top a b p : Int} (ht : 3 ≤ top) (h1 : 1 ≤ a) (hab : a ≤ b) (hp : 0 ≤ p) (h2 : p ≠ 2) (hh : hiI p < a) : nxS top (ivl a b) p = ivl (a - hiI p) (b - loI top p) := by
  refine ascP_ext (asc_nxS _ _ _) (asc_ivl _ _) fun x => ?_
  have lh := lo_le_hi (top := top) ht hp
  have l0 := loI_nonneg (top := top) (by omega) hp
  rw [mem_nxS, mem_ivl]
  constructor
  · rintro ⟨⟨l, w⟩, hs, n⟩
    obtain ⟨s1, s2, s3⟩ := mem_ivl.mp hs
    dsimp only at s1 s2 s3 n
    subst s3
    have hx : x.1 ≠ 0 := fun z => by have := n.zero_le (by omega) (by omega) z; omega
    obtain ⟨_, m, a1, a2, a3, rfl⟩ := (nxt_pos ht (by omega) hp hx).mp n
    dsimp only
    omega
  · rintro ⟨b1, b2, b3⟩
    obtain ⟨x1, x2⟩ := x
    dsimp only at b1 b2 b3
    subst b3
    by_cases c : x1 + loI top p ≤ a
    · refine ⟨(a, 2), mem_ivl.mpr ⟨Int.le_refl _, hab, rfl⟩, (nxt_pos ht (by dsimp only; omega) hp (by dsimp only; omega)).mpr ⟨h2, a - x1, by omega, by omega, by dsimp only; omega, by dsimp only; rw [Int.sub_sub_self]⟩⟩
    · refine ⟨(x1 + loI top p, 2), mem_ivl.mpr ⟨by dsimp only; omega, by dsimp only; omega, rfl⟩, (nxt_pos ht (by dsimp only; omega) hp (by dsimp only; omega)).mpr ⟨h2, loI top p, by omega, by omega, by dsimp only; omega, by dsimp only; rw [Int.add_sub_cancel]⟩⟩
def loS (top : Int) (b : List Int) : Int := (b.map (loI top)).sum
def hiS (b : List Int) : Int := (b.map hiI).sum
theorem loS_cons (top p : Int) (b : List Int) : loS top (p :: b) = loI top p + loS top b := by simp [loS]
theorem hiS_cons (p : Int) (b : List Int) : hiS (p :: b) = hiI p + hiS b := by simp [hiS]
theorem loS_snoc (top p : Int) (b : List Int) : loS top (b ++ [p]) = loS top b + loI top p := by simp [loS]
theorem hiS_snoc (p : Int) (b : List Int) : hiS (b ++ [p]) = hiS b + hiI p := by simp [hiS]
/-- points of visits behind which reds are left -/
abbrev Plain (b : List Int) : Prop := ∀ p ∈ b, 0 ≤ p ∧ p ≠ 2
theorem hiS_nonneg : ∀ {b : List Int}, (∀ p ∈ b, 0 ≤ p) → 0 ≤ hiS b
  | [], _ => Int.le_refl 0
  | p :: b, h => by
    rw [hiS_cons]
    have := hiI_nonneg (h p List.mem_cons_self)
    have := hiS_nonneg (b := b) fun q hq => h q (List.mem_cons_of_mem _ hq)
    omega
theorem loS_nonneg {top : Int} (ht : 0 ≤ top) : ∀ {b : List Int}, (∀ p ∈ b, 0 ≤ p) → 0 ≤ loS top b
  | [], _ => Int.le_refl 0
  | p :: b, h => by
    rw [loS_cons]
    have := loI_nonneg ht (h p List.mem_cons_self)
    have := loS_nonneg ht (b := b) fun q hq => h q (List.mem_cons_of_mem _ hq)
    omega
theorem loS_le_hiS {top : Int} (ht : 3 ≤ top) : ∀ {b : List Int}, (∀ p ∈ b, 0 ≤ p) → loS top b ≤ hiS b
  | [], _ => Int.le_refl 0
  | p :: b, h => by
    rw [loS_cons, hiS_cons]
    have := lo_le_hi ht (h p List.mem_cons_self)
    have := loS_le_hiS ht (b := b) fun q hq => h q (List.mem_cons_of_mem _ hq)
    omega
theorem stL_ivl {top : Int} (ht : 3 ≤ top) : ∀ {b : List Int} {x y : Int}, Plain b → x ≤ y → hiS b < x → stL top (ivl x y) b = ivl (x - hiS b) (y - loS top b)
  | [], x, y, _, _, _ => by simp [stL, hiS, loS]
  | p :: b, x, y, h, hxy, hh => by
    rw [hiS_cons] at hh
    have hp := h p List.mem_cons_self
    have hb : Plain b := fun q hq => h q (List.mem_cons_of_mem _ hq)
    have := hiS_nonneg (b := b) fun q hq => (hb q hq).1
    have := hiI_nonneg hp.1
    have := lo_le_hi ht hp.1
    rw [stL_cons, nxS_ivl ht (by omega) hxy hp.1 hp.2 (by omega), stL_ivl ht hb (by omega) (by omega), hiS_cons, loS_cons]
    congr 1 <;> omega
theorem ivl_one (x : Int) : ivl x x = [(x, 2)] := by
  refine ascP_ext (asc_ivl _ _) (List.pairwise_singleton _ _) fun y => ?_
  rw [mem_ivl, List.mem_singleton, Prod.ext_iff]
  dsimp only
  omega
theorem ofB_ivl {reds top : Int} {b : List Int} (ht : 3 ≤ top) (h : Plain b) (hh : hiS b < reds) : ofB reds top b = ivl (reds - hiS b) (reds - loS top b) := by
  rw [ofB, ← ivl_one, stL_ivl ht h (Int.le_refl _) hh]
/-! ### states with reds -/
theorem Nxt.zero {top w p : Int} {x : Int × Int} (h : Nxt top 0 w p x) : x.1 = 0 := by
  obtain ⟨_, ⟨_, m, _, _, _, rfl⟩ | ⟨h0, _⟩⟩ := h
  · rfl
  · exact absurd rfl h0
theorem stL_zero {top : Int} : ∀ {b : List Int} {s x : Int × Int}, s.1 = 0 → x ∈ stL top [s] b → x.1 = 0
  | [], s, x, hs, h => by
    rw [stL_nil, List.mem_singleton] at h
    rw [h]; exact hs
  | p :: b, s, x, hs, h => by
    rw [stL_cons, stL_mem] at h
    obtain ⟨t, ht, hx⟩ := h
    obtain ⟨s', hs', n⟩ := mem_nxS.mp ht
    rw [List.mem_singleton] at hs'
    subst hs'
    rw [hs] at n
    exact stL_zero n.zero hx
/-- the way to a state with reds left -/
theorem stL_pos {top : Int} (ht : 3 ≤ top) : ∀ {b : List Int} {l : Int} {x : Int × Int}, (∀ p ∈ b, 0 ≤ p) → 0 < l → 0 < x.1 → x ∈ stL top [(l, 2)] b → Plain b ∧ loS top b ≤ l - x.1 ∧ l - x.1 ≤ hiS b ∧ x.2 = 2
  | [], l, x, _, _, _, h => by
    rw [stL_nil, List.mem_singleton] at h
    subst h
    exact ⟨fun q hq => (by cases hq), by simp [loS], by simp [hiS], rfl⟩
  | p :: b, l, x, hb, hl, hx, h => by
    rw [stL_cons, stL_mem] at h
    obtain ⟨t, hm, h⟩ := h
    obtain ⟨s', hs', n⟩ := mem_nxS.mp hm
    rw [List.mem_singleton] at hs'
    subst hs'
    have t0 : t.1 ≠ 0 := fun z => by have := stL_zero z h; omega
    have hp := hb p List.mem_cons_self
    obtain ⟨c, m, a1, a2, a3, rfl⟩ := (nxt_pos ht hl hp t0).mp n
    obtain ⟨h1, h2, h3, h4⟩ := stL_pos ht (fun q hq => hb q (List.mem_cons_of_mem _ hq)) (by omega) hx h
    rw [loS_cons, hiS_cons]
    refine ⟨fun q hq => ?_, by omega, by omega, h4⟩
    rcases List.mem_cons.mp hq with rfl | hq
    · exact ⟨hp, c⟩
    · exact h1 q hq
theorem nxt_still {top l w : Int} {x : Int × Int} (hw : 2 ≤ w) (hl : 0 ≤ l) (hlw : l = 0 ∨ w = 2) (ht : 1 ≤ top) : Nxt top l w 0 x ↔ w ≤ top ∧ x = (l, w) := by
  constructor
  · rintro ⟨h, ⟨h0, m, a, b, c, rfl⟩ | ⟨h0, ⟨m, a, b, c, rfl⟩ | ⟨a, b, rfl⟩ | ⟨m, a, b, c, d, rfl⟩⟩⟩
    · have := colS_ge hw a
      have e : m = 0 := by omega
      subst e
      exact ⟨h, by rw [h0, Int.add_zero]⟩
    · unfold comesB at c
      split at c
      · rename_i e; subst e
        exact ⟨h, by rw [Int.sub_zero, show w = 2 by omega]⟩
      · simp only [decide_eq_true_eq] at c
        omega
    · omega
    · have := colS_nonneg (Int.le_refl 2) a
      omega
  · rintro ⟨h, rfl⟩
    refine ⟨h, ?_⟩
    by_cases h0 : l = 0
    · exact .inl ⟨h0, 0, by omega, by omega, colS_zero _, by rw [h0, Int.add_zero]⟩
    · exact .inr ⟨h0, .inl ⟨0, by omega, by omega, rfl, by rw [Int.sub_zero, show w = 2 by omega]⟩⟩
/-- all reds may be gone -/
theorem stL_toZero {top : Int} (ht : 3 ≤ top) : ∀ {b : List Int} {l : Int}, Plain b → 0 ≤ l → loS top b ≤ l → l ≤ hiS b → (0, 2) ∈ stL top [(l, 2)] b
  | [], l, _, h0, _, h => by
    have e : l = 0 := by simp [hiS] at h; omega
    subst e
    exact List.mem_singleton.mpr rfl
  | p :: b, l, hb, h0, h1, h2 => by
    rw [loS_cons] at h1
    rw [hiS_cons] at h2
    have hp := hb p List.mem_cons_self
    have hb' : Plain b := fun q hq => hb q (List.mem_cons_of_mem _ hq)
    have q1 := lo_le_hi ht hp.1
    have q2 := loS_le_hiS ht (b := b) fun q hq => (hb' q hq).1
    have q3 := loI_nonneg (top := top) (by omega) hp.1
    have q4 := loS_nonneg (top := top) (b := b) (by omega) fun q hq => (hb' q hq).1
    have q5 := hiI_nonneg hp.1
    have q6 := hiS_nonneg (b := b) fun q hq => (hb' q hq).1
    -- reds of the first visit
    obtain ⟨m, m1, m2, m3, m4, m5⟩ : ∃ m, loI top p ≤ m ∧ m ≤ hiI p ∧ loS top b ≤ l - m ∧ l - m ≤ hiS b ∧ m ≤ l := by
      by_cases c : l - loI top p ≤ hiS b
      · exact ⟨loI top p, by omega, by omega, by omega, c, by omega⟩
      · exact ⟨l - hiS b, by omega, by omega, by omega, by omega, by omega⟩
    rw [stL_cons, stL_mem]
    refine ⟨(l - m, 2), mem_nxS.mpr ⟨(l, 2), List.mem_singleton.mpr rfl, ?_⟩, stL_toZero ht hb' (by omega) m3 m4⟩
    dsimp only
    by_cases c0 : l = 0
    · have m0 : m = 0 := by omega
      have p0 : p = 0 := by
        have := (loI_le (top := top) (p := p) (m := 0) (by omega)).mp (by omega)
        rw [Int.mul_zero] at this
        omega
      subst p0
      rw [nxt_still (by omega) h0 (.inl c0) (by omega)]
      exact ⟨by omega, by rw [m0, Int.sub_zero]⟩
    · by_cases c1 : m < l
      · exact ⟨by omega, .inr ⟨c0, .inl ⟨m, by omega, c1, (comes_iv ht (by omega) hp.1).mpr ⟨hp.2, m1, m2⟩, rfl⟩⟩⟩
      · obtain rfl : m = l := by omega
        refine ⟨by omega, .inr ⟨c0, .inr ?_⟩⟩
        have cc := (comes_iv ht h0 hp.1).mpr ⟨hp.2, m1, m2⟩
        unfold comesB at cc
        rw [if_neg c0, decide_eq_true_eq] at cc
        rcases cc with ⟨cc1, cc2⟩ | ⟨cc1, cc2⟩
        · exact .inl ⟨cc1, cc2, by rw [Int.sub_self]⟩
        · exact .inr ⟨0, by omega, by omega, by rw [colS_zero]; omega, by rw [colS_zero]; omega, by rw [Int.sub_self, Int.add_zero]⟩
/-- reds are surely left: which books do that -/
theorem surely {reds top : Int} {b : List Int} (ht : 3 ≤ top) (hr : 0 < reds) (hb : ∀ p ∈ b, 0 ≤ p) (hn : ofB reds top b ≠ []) (h : ∀ x ∈ ofB reds top b, 0 < x.1) : Plain b ∧ hiS b < reds := by
  obtain ⟨x, hx⟩ := List.exists_mem_of_ne_nil _ hn
  obtain ⟨h1, h2, h3, h4⟩ := stL_pos ht hb hr (h x hx) hx
  refine ⟨h1, Int.not_le.mp fun c => ?_⟩
  have := h _ (stL_toZero ht h1 (by omega) (by have := h x hx; omega) c)
  dsimp only at this
  omega
theorem sum_perm {a b : List Int} (h : a.Perm b) : a.sum = b.sum := by
  induction h with
  | nil => rfl
  | cons x _ ih => simp only [List.sum_cons, ih]
  | swap x y l => simp only [List.sum_cons]; omega
  | trans _ _ h1 h2 => exact h1.trans h2
theorem hiS_perm {a b : List Int} (h : a.Perm b) : hiS a = hiS b := (h.map hiI) |> sum_perm
theorem loS_perm {top : Int} {a b : List Int} (h : a.Perm b) : loS top a = loS top b := (h.map (loI top)) |> sum_perm
/-- visits behind which reds are surely left can be exchanged -/
theorem exchange {reds top : Int} {a b : List Int} (ht : 3 ≤ top) (hr : 0 < reds) (hb : ∀ p ∈ a, 0 ≤ p) (hn : ofB reds top a ≠ []) (h : ∀ x ∈ ofB reds top a, 0 < x.1) (hp : a.Perm b) : ofB reds top b = ofB reds top a := by
  obtain ⟨h1, h2⟩ := surely ht hr hb hn h
  have h1' : Plain b := fun q hq => h1 q (hp.mem_iff.mpr hq)
  rw [ofB_ivl ht h1 h2, ofB_ivl ht h1' (by rw [← hiS_perm hp]; exact h2), hiS_perm hp, loS_perm hp]
/-! ### visits without points -/
theorem nxS_zero {reds top : Int} {S : List (Int × Int)} (ht : 1 ≤ top) (ha : AscP S) (hs : AllSt reds top S) : nxS top S 0 = S.filter fun x => decide (x.2 ≤ top) := by
  refine ascP_ext (asc_nxS _ _ _) (List.Pairwise.filter _ ha) fun x => ?_
  rw [mem_nxS, List.mem_filter, decide_eq_true_eq]
  constructor
  · rintro ⟨s, hs1, n⟩
    obtain ⟨h1, h2, h3, h4, h5⟩ := hs s hs1
    obtain ⟨n1, rfl⟩ := (nxt_still h3 h1 h5 ht).mp n
    exact ⟨hs1, n1⟩
  · rintro ⟨hx, hx2⟩
    obtain ⟨h1, h2, h3, h4, h5⟩ := hs x hx
    exact ⟨x, hx, (nxt_still h3 h1 h5 ht).mpr ⟨hx2, rfl⟩⟩
theorem two_zeros {reds top : Int} {b : List Int} (hr : 0 ≤ reds) (ht : 1 ≤ top) : ofB reds top (b ++ [0, 0]) = (ofB reds top b).filter fun x => decide (x.2 ≤ top) := by
  have h1 := ofB_st hr ht b
  have a1 := asc_ofB reds top b
  rw [ofB, stL_append]
  show nxS top (nxS top (ofB reds top b) 0) 0 = _
  rw [nxS_zero ht a1 h1, nxS_zero (reds := reds) ht (List.Pairwise.filter _ a1) fun x hx => h1 x (List.mem_filter.mp hx).1, List.filter_filter]
  simp
theorem fits_pre {reds top : Int} {b : List Int} {n : Nat} (h : ofB reds top b ≠ []) : ofB reds top (b.take n) ≠ [] := fun z => h (by
  rw [← List.take_append_drop n b, ofB, stL_append]
  show stL top (ofB reds top (b.take n)) _ = []
  rw [z, stL_empty])
theorem swap_perm {l : List Int} {i : Nat} (h : i + 1 < l.length) : l.Perm (l.take i ++ [l.getD (i + 1) 0, l.getD i 0] ++ l.drop (i + 2)) := by
  have e : l = l.take i ++ ([l.getD i 0, l.getD (i + 1) 0] ++ l.drop (i + 2)) := by
    have h1 : l.drop i = l[i] :: l.drop (i + 1) := List.drop_eq_getElem_cons (by omega)
    have h2 : l.drop (i + 1) = l[i + 1] :: l.drop (i + 1 + 1) := List.drop_eq_getElem_cons h
    have d1 : l.getD i 0 = l[i] := by rw [List.getD_eq_getElem?_getD, List.getElem?_eq_getElem (by omega)]; rfl
    have d2 : l.getD (i + 1) 0 = l[i + 1] := by rw [List.getD_eq_getElem?_getD, List.getElem?_eq_getElem h]; rfl
    rw [d1, d2]
    show l = l.take i ++ (l[i] :: l[i + 1] :: l.drop (i + 2))
    rw [← h2, ← h1, List.take_append_drop]
  rw [List.append_assoc]
  refine List.Perm.trans (List.Perm.of_eq e) (List.Perm.append_left _ ?_)
  exact List.Perm.append_right _ (List.Perm.swap _ _ _)
end DL

namespace DL
/-! ### what k13 asks -/
theorem rg_cons {a b : Int} (h : a < b) : rg a b = a :: rg (a + 1) b := by
  refine ascI_ext (asc_rg _ _) ?_ fun x => ?_
  · exact List.pairwise_cons.mpr ⟨fun y hy => by have := mem_rg.mp hy; omega, asc_rg _ _⟩
  · rw [mem_rg, List.mem_cons, mem_rg]
    omega
theorem rg_snoc {a b : Int} (h : a < b) : rg a b = rg a (b - 1) ++ [b - 1] := by
  refine ascI_ext (asc_rg _ _) ?_ fun x => ?_
  · refine List.pairwise_append.mpr ⟨asc_rg _ _, List.pairwise_singleton _ _, fun y hy z hz => ?_⟩
    have := mem_rg.mp hy
    rw [List.mem_singleton] at hz
    omega
  · rw [mem_rg, List.mem_append, List.mem_singleton, mem_rg]
    omega
theorem rg_nil {a b : Int} (h : b ≤ a) : rg a b = [] := by
  refine List.eq_nil_iff_forall_not_mem.mpr fun x hx => ?_
  have := mem_rg.mp hx
  omega
theorem ivl_head {a b : Int} (h : a ≤ b) : (ivl a b).head? = some (a, 2) := by
  rw [ivl, rg_cons (by omega)]
  rfl
theorem ivl_last {a b : Int} (h : a ≤ b) : (ivl a b).getLast? = some (b, 2) := by
  rw [ivl, rg_snoc (by omega), List.map_append, List.map_singleton, List.getLast?_concat, Int.add_sub_cancel]
theorem nxt_two {top l w : Int} {x : Int × Int} (ht : 3 ≤ top) (hw : 2 ≤ w) (hl : 0 ≤ l) (h : Nxt top l w 2 x) : l = 0 ∧ w = 2 ∧ x.1 = 0 := by
  obtain ⟨_, ⟨h0, m, a, b, c, rfl⟩ | ⟨h0, ⟨m, a, b, c, rfl⟩ | ⟨a, b, rfl⟩ | ⟨m, a, b, c, d, rfl⟩⟩⟩ := h
  · have := colS_ge hw a
    by_cases m0 : m = 0
    · subst m0; rw [colS_zero] at c; omega
    · have m1 : m = 0 + 1 := by omega
      rw [m1, colS_succ, colS_zero] at c
      exact ⟨h0, by omega, rfl⟩
  · exact absurd rfl ((comes_iv ht a (by omega)).mp c).1
  · have l1 : l = 1 := by omega
    subst l1
    rw [Int.sub_self, Int.mul_zero] at b
    omega
  · have := colS_nonneg (Int.le_refl 2) a
    omega
theorem two_wrong {reds top : Int} {b : List Int} (ht : 3 ≤ top) (h : Plain b) (hh : hiS b < reds) : ofB reds top (b ++ [2]) = [] := by
  rw [ofB, stL_snoc]
  refine List.eq_nil_iff_forall_not_mem.mpr fun x hx => ?_
  obtain ⟨s, hs, n⟩ := mem_nxS.mp hx
  have e := ofB_ivl ht h hh
  rw [ofB] at e
  rw [e] at hs
  obtain ⟨h1, h2, h3⟩ := mem_ivl.mp hs
  have := nxt_two ht (by omega) (by omega) n
  omega
/-- behind a visit of 2 points -/
theorem behind_two {reds top : Int} {b : List Int} (hr : 0 ≤ reds) (ht : 3 ≤ top) (h : ofB reds top (b ++ [2]) ≠ []) : (0, 2) ∈ ofB reds top b ∧ ∀ x ∈ ofB reds top (b ++ [2]), x.1 = 0 := by
  have st := ofB_st (reds := reds) (top := top) hr (by omega) b
  have key : ∀ x ∈ ofB reds top (b ++ [2]), (0, 2) ∈ ofB reds top b ∧ x.1 = 0 := fun x hx => by
    rw [ofB, stL_snoc] at hx
    obtain ⟨s, hs, n⟩ := mem_nxS.mp hx
    obtain ⟨h1, h2, h3, h4, h5⟩ := st s hs
    obtain ⟨a, c, d⟩ := nxt_two ht h3 h1 n
    refine ⟨?_, d⟩
    rw [show ((0, 2) : Int × Int) = s from Prod.ext a.symm c.symm]
    exact hs
  obtain ⟨x, hx⟩ := List.exists_mem_of_ne_nil _ h
  exact ⟨(key x hx).1, fun y hy => (key y hy).2⟩
/-- the numbers of reds that can be left are one range -/
theorem one_range {reds top q : Int} {b : List Int} (ht : 3 ≤ top) (h : Plain b) (hh : hiS b < reds) (hq : 0 ≤ q) : ∃ c d, 1 ≤ c ∧ d ≤ reds + 1 ∧ ssI (((ofB reds top (b ++ [q])).filter fun x => decide (0 < x.1)).map (·.1)) = rg c d := by
  have e := ofB_ivl ht h hh
  have lh := loS_le_hiS ht (b := b) fun p hp => (h p hp).1
  have l0 := loS_nonneg (top := top) (by omega) (b := b) fun p hp => (h p hp).1
  rw [ofB] at e
  rw [ofB, stL_snoc, e]
  by_cases q2 : q = 2
  · refine ⟨1, 1, by omega, by omega, ssI_of (asc_rg _ _) fun y => ?_⟩
    simp only [List.mem_map, List.mem_filter, mem_nxS, mem_rg]
    constructor
    · rintro ⟨x, ⟨⟨s, hs, n⟩, _⟩, _⟩
      obtain ⟨h1, h2, h3⟩ := mem_ivl.mp hs
      subst q2
      have := nxt_two ht (by omega) (by omega) n
      omega
    · omega
  · have lh2 := lo_le_hi ht hq
    have l2 := loI_nonneg (top := top) (by omega) hq
    refine ⟨max 1 (reds - hiS b - hiI q), reds - loS top b - loI top q + 1, by omega, by omega, ssI_of (asc_rg _ _) fun y => ?_⟩
    simp only [List.mem_map, List.mem_filter, mem_nxS, mem_rg, decide_eq_true_eq]
    constructor
    · rintro ⟨x, ⟨⟨⟨l, w⟩, hs, n⟩, hx⟩, rfl⟩
      obtain ⟨h1, h2, h3⟩ := mem_ivl.mp hs
      dsimp only at h1 h2 h3 n
      subst h3
      obtain ⟨_, m, m1, m2, m3, rfl⟩ := (nxt_pos ht (by omega) hq (by omega)).mp n
      dsimp only
      dsimp only at hx
      omega
    · rintro ⟨y1, y2⟩
      have y0 : 1 ≤ y := by omega
      by_cases c : y + loI top q ≤ reds - hiS b
      · refine ⟨(y, 2), ⟨⟨(reds - hiS b, 2), mem_ivl.mpr ⟨Int.le_refl _, by dsimp only; omega, rfl⟩, ?_⟩, by dsimp only; omega⟩, rfl⟩
        exact (nxt_pos ht (by dsimp only; omega) hq (by dsimp only; omega)).mpr ⟨q2, reds - hiS b - y, by omega, by omega, by dsimp only; omega, by dsimp only; rw [Int.sub_sub_self]⟩
      · refine ⟨(y, 2), ⟨⟨(y + loI top q, 2), mem_ivl.mpr ⟨by dsimp only; omega, by dsimp only; omega, rfl⟩, ?_⟩, by dsimp only; omega⟩, rfl⟩
        exact (nxt_pos ht (by dsimp only; omega) hq (by dsimp only; omega)).mpr ⟨q2, loI top q, by omega, by omega, by dsimp only; omega, by dsimp only; rw [Int.add_sub_cancel]⟩
end DL

namespace DL
/-! ### what k32 asks -/
def IsSc (top m p : Int) : Prop := p = m ∨ (m + 2 ≤ p ∧ p ≤ (top + 1) * m)
instance (top m p : Int) : Decidable (IsSc top m p) := by unfold IsSc; infer_instance
theorem IsSc.add {top a b p q : Int} (ht : 0 ≤ top) (ha : 0 ≤ a) (hb : 0 ≤ b) (h1 : IsSc top a p) (h2 : IsSc top b q) : IsSc top (a + b) (p + q) := by
  unfold IsSc at *
  have e : (top + 1) * (a + b) = (top + 1) * a + (top + 1) * b := Int.mul_add _ _ _
  have e1 : a ≤ (top + 1) * a := by
    have := Int.mul_le_mul_of_nonneg_right (show (1 : Int) ≤ top + 1 by omega) ha
    omega
  have e2 : b ≤ (top + 1) * b := by
    have := Int.mul_le_mul_of_nonneg_right (show (1 : Int) ≤ top + 1 by omega) hb
    omega
  rw [e]
  omega
theorem isSc_visit {top m p : Int} (ht : 0 ≤ top) (hp : 0 ≤ p) (h2 : p ≠ 2) (h1 : loI top p ≤ m) (h3 : m ≤ hiI p) : IsSc top m p := by
  rw [loI_le ht] at h1
  rw [hiI_le] at h3
  unfold IsSc
  by_cases m0 : m ≤ 0
  · have : (top + 1) * m ≤ (top + 1) * 0 := Int.mul_le_mul_of_nonneg_left m0 (by omega)
    have m1 := loI_nonneg ht hp
    rw [Int.mul_zero] at this
    have : p = 0 := by omega
    subst this
    have z : m = 0 := by
      rcases Int.lt_or_eq_of_le m0 with c | c
      · exfalso
        have l1 := (loI_le (top := top) (p := 0) (m := m) ht).mpr h1
        omega
      · exact c
    omega
  · omega
mutual
def sumE : List Int → Int
  | [] => 0
  | p :: r => p + sumO r
def sumO : List Int → Int
  | [] => 0
  | _ :: r => sumE r
end
/-- the scores behind a book come about with the reds that are gone -/
theorem scores_split {top : Int} (ht : 3 ≤ top) : ∀ {b : List Int} {l : Int} {x : Int × Int}, (∀ p ∈ b, 0 ≤ p) → 0 < l → 0 < x.1 → x ∈ stL top [(l, 2)] b → ∃ a c, 0 ≤ a ∧ 0 ≤ c ∧ a + c = l - x.1 ∧ IsSc top a (sumE b) ∧ IsSc top c (sumO b)
  | [], l, x, _, _, _, h => by
    rw [stL_nil, List.mem_singleton] at h
    subst h
    exact ⟨0, 0, by omega, by omega, by dsimp only; omega, .inl (by simp [sumE]), .inl (by simp [sumO])⟩
  | p :: b, l, x, hb, hl, hx, h => by
    rw [stL_cons, stL_mem] at h
    obtain ⟨t, hm, h⟩ := h
    obtain ⟨s', hs', n⟩ := mem_nxS.mp hm
    rw [List.mem_singleton] at hs'
    subst hs'
    have t0 : t.1 ≠ 0 := fun z => by have := stL_zero z h; omega
    have hp := hb p List.mem_cons_self
    obtain ⟨c, m, a1, a2, a3, rfl⟩ := (nxt_pos ht hl hp t0).mp n
    obtain ⟨a, d, h1, h2, h3, h4, h5⟩ := scores_split ht (fun q hq => hb q (List.mem_cons_of_mem _ hq)) (by omega) hx h
    have m0 := loI_nonneg (top := top) (by omega) hp
    refine ⟨m + d, a, by omega, h1, by omega, ?_, ?_⟩
    · simp only [sumE]
      exact IsSc.add (by omega) (by omega) h2 (isSc_visit (by omega) hp c a1 a2) h5
    · simp only [sumO]
      exact h4
/-- can these scores stand -/
def canB (top gone a b : Int) : Bool := (rg 0 (gone + 1)).any fun m => decide (IsSc top m a) && decide (IsSc top (gone - m) b)
theorem canB_iff {top gone a b : Int} : canB top gone a b = true ↔ ∃ m, 0 ≤ m ∧ m ≤ gone ∧ IsSc top m a ∧ IsSc top (gone - m) b := by
  unfold canB
  simp only [List.any_eq_true, mem_rg, Bool.and_eq_true, decide_eq_true_eq]
  constructor
  · rintro ⟨m, ⟨h1, h2⟩, h3, h4⟩; exact ⟨m, h1, by omega, h3, h4⟩
  · rintro ⟨m, h1, h2, h3, h4⟩; exact ⟨m, ⟨h1, by omega⟩, h3, h4⟩
theorem can_behind {reds top : Int} {b : List Int} {x : Int × Int} (ht : 3 ≤ top) (hr : 0 < reds) (hb : ∀ p ∈ b, 0 ≤ p) (hx : 0 < x.1) (h : x ∈ ofB reds top b) : canB top (reds - x.1) (sumE b) (sumO b) = true := by
  obtain ⟨a, c, h1, h2, h3, h4, h5⟩ := scores_split ht hb hr hx h
  exact canB_iff.mpr ⟨a, h1, by omega, h4, by rw [← h3]; rw [show a + c - a = c by omega]; exact h5⟩
/-! a visit for so many points -/
def colI (top r : Int) : Int :=
  let c := if (if 0 < r then r else 0) < top then (if 0 < r then r else 0) else top
  if c = 1 ∨ (0 < r - c ∧ r - c = 1) then c - 1 else c
def restI (top : Int) : Nat → Int → Int
  | 0, r => r
  | n + 1, r => restI top n (r - colI top r)
theorem restI_zero {top : Int} (ht : 3 ≤ top) : ∀ (n : Nat) (r : Int), restI top n r = 0 ↔ r = 0 ∨ (2 ≤ r ∧ r ≤ top * n)
  | 0, r => by simp only [restI]; omega
  | n + 1, r => by
    rw [restI, restI_zero ht n]
    have e : top * ((n + 1 : Nat) : Int) = top * n + top := by rw [show ((n + 1 : Nat) : Int) = (n : Int) + 1 by omega, Int.mul_add, Int.mul_one]
    rw [e]
    have pos : 0 ≤ top * (n : Int) := Int.mul_nonneg (by omega) (by omega)
    have big : 1 ≤ n → 3 ≤ top * (n : Int) := fun h => by
      have := Int.mul_le_mul_of_nonneg_left (show (1 : Int) ≤ (n : Int) by omega) (show 0 ≤ top by omega)
      omega
    have zero : n = 0 → top * (n : Int) = 0 := fun h => by rw [h]; simp
    by_cases n0 : n = 0
    · have := zero n0
      rw [this]
      unfold colI
      dsimp only
      by_cases c1 : 0 < r <;> simp only [c1, if_true, if_false]
      · by_cases c2 : r < top <;> simp only [c2, if_true, if_false]
        · split <;> omega
        · split <;> omega
      · rw [if_pos (show (0 : Int) < top by omega)]
        split <;> omega
    · have := big (by omega)
      unfold colI
      dsimp only
      by_cases c1 : 0 < r <;> simp only [c1, if_true, if_false]
      · by_cases c2 : r < top <;> simp only [c2, if_true, if_false]
        · split <;> omega
        · split <;> omega
      · rw [if_pos (show (0 : Int) < top by omega)]
        split <;> omega
theorem visit_iff {top m p : Int} (ht : 3 ≤ top) (hm : 0 ≤ m) : restI top m.toNat (p - m) = 0 ↔ IsSc top m p := by
  rw [restI_zero ht]
  unfold IsSc
  have e : (top + 1) * m = top * m + m := by rw [Int.add_mul, Int.one_mul]
  have e2 : ((m.toNat : Nat) : Int) = m := by omega
  rw [e, e2]
  omega
/-! pairs of scores -/
def scL (top m : Int) : List Int := (rg 0 ((top + 1) * m + 1)).filter fun p => decide (IsSc top m p)
def allP (top g : Int) : List (Int × Int) := (rg 0 (g + 1)).flatMap fun m => (scL top m).flatMap fun a => (scL top (g - m)).map fun b => (a, b)
theorem mem_scL {top m p : Int} (ht : 0 ≤ top) (hm : 0 ≤ m) : p ∈ scL top m ↔ IsSc top m p := by
  unfold scL
  rw [List.mem_filter, mem_rg, decide_eq_true_eq]
  constructor
  · exact fun h => h.2
  · intro h
    refine ⟨?_, h⟩
    have := Int.mul_le_mul_of_nonneg_right (show (1 : Int) ≤ top + 1 by omega) hm
    unfold IsSc at h
    omega
theorem mem_allP {top g : Int} {x : Int × Int} (ht : 0 ≤ top) : x ∈ allP top g ↔ ∃ m, 0 ≤ m ∧ m ≤ g ∧ IsSc top m x.1 ∧ IsSc top (g - m) x.2 := by
  unfold allP
  simp only [List.mem_flatMap, List.mem_map, mem_rg]
  constructor
  · rintro ⟨m, ⟨h1, h2⟩, a, h3, b, h4, rfl⟩
    exact ⟨m, h1, by omega, (mem_scL ht h1).mp h3, (mem_scL ht (by omega)).mp h4⟩
  · rintro ⟨m, h1, h2, h3, h4⟩
    exact ⟨m, ⟨h1, by omega⟩, x.1, (mem_scL ht h1).mpr h3, x.2, (mem_scL ht (by omega)).mpr h4, rfl⟩
def cntP (top g : Int) : Nat := (uniq (allP top g)).length
theorem cntP_mono {top g : Int} (ht : 0 ≤ top) : cntP top g ≤ cntP top (g + 1) := by
  unfold cntP
  have h : ((uniq (allP top g)).map fun x : Int × Int => (x.1 + 1, x.2)).Nodup := by
    unfold List.Nodup
    rw [List.pairwise_map]
    refine List.Pairwise.imp (S := fun a b : Int × Int => (a.1 + 1, a.2) ≠ (b.1 + 1, b.2)) (fun {a b} (hab : a ≠ b) (e : (a.1 + 1, a.2) = (b.1 + 1, b.2)) => hab ?_) (nodup_uniq (l := allP top g))
    rw [Prod.mk.injEq] at e
    exact Prod.ext (by omega) e.2
  have := nodup_le h (m := uniq (allP top (g + 1))) fun y hy => by
    obtain ⟨x, hx, rfl⟩ := List.mem_map.mp hy
    rw [mem_uniq, mem_allP ht] at hx ⊢
    obtain ⟨m, h1, h2, h3, h4⟩ := hx
    refine ⟨m + 1, by omega, by omega, ?_, by rw [show g + 1 - (m + 1) = g - m by omega]; exact h4⟩
    have e : (top + 1) * (m + 1) = (top + 1) * m + (top + 1) := by rw [Int.mul_add, Int.mul_one]
    have e1 := Int.mul_nonneg (show 0 ≤ top + 1 by omega) h1
    unfold IsSc at *
    rw [e]
    dsimp only
    omega
  simpa using this
/-- what a dict holds behind the loops -/
def addN (L : List (Int × Int)) (x : Int × Int) : List (Int × Int) := if x ∈ L then L else L ++ [x]
theorem addN_nodup {L : List (Int × Int)} {x : Int × Int} (h : L.Nodup) : (addN L x).Nodup := by
  unfold addN
  split
  · exact h
  · rename_i c
    rw [List.nodup_append]
    exact ⟨h, List.nodup_cons.mpr ⟨List.not_mem_nil, List.nodup_nil⟩, fun a ha b hb e => by
      rw [List.mem_singleton] at hb
      subst hb e
      exact c ha⟩
theorem mem_addN {L : List (Int × Int)} {x y : Int × Int} : y ∈ addN L x ↔ y ∈ L ∨ y = x := by
  unfold addN
  split
  · rename_i c
    exact ⟨.inl, fun h => h.elim id fun e => e ▸ c⟩
  · rw [List.mem_append, List.mem_singleton]
theorem foldN_nodup : ∀ {l L : List (Int × Int)}, L.Nodup → (l.foldl addN L).Nodup
  | [], _, h => h
  | x :: l, _, h => foldN_nodup (l := l) (addN_nodup h)
theorem mem_foldN {y : Int × Int} : ∀ {l L : List (Int × Int)}, y ∈ l.foldl addN L ↔ y ∈ L ∨ y ∈ l
  | [], L => by simp
  | x :: l, L => by
    rw [List.foldl_cons, mem_foldN, mem_addN, List.mem_cons]
    constructor
    · rintro ((h | h) | h) <;> simp [h]
    · rintro (h | h | h) <;> simp [h]
theorem foldN_length (l : List (Int × Int)) : (l.foldl addN []).length = (uniq l).length :=
  Nat.le_antisymm (nodup_le (foldN_nodup List.nodup_nil) fun y hy => mem_uniq.mpr ((mem_foldN.mp hy).resolve_left List.not_mem_nil))
    (nodup_le nodup_uniq fun y hy => mem_foldN.mpr (.inr (mem_uniq.mp hy)))
end DL

set_option maxHeartbeats 2000000
namespace DL
open PySem L2
/-! ### equality of plain data -/
theorem eqok_int (i : Int) : EqOk (.int i) := ⟨rfl, by simp [D.py, PyData.depth]⟩
theorem eqok_non : EqOk .non := ⟨rfl, by simp [D.py, PyData.depth]⟩
theorem eqok_bl (b : Bool) : EqOk (.bl b) := ⟨rfl, by simp [D.py, PyData.depth]⟩
theorem flats_pairs : ∀ l : List (Int × Int), flats (l.map pD) = true
  | [] => by simp [flats]
  | p :: l => by simp [flats, pD, D.flat, flats_pairs l]
theorem depth_pairs : ∀ l : List (Int × Int), PyData.depthAll (pys (l.map pD)) ≤ 2
  | [] => by simp [pys, PyData.depthAll]
  | p :: l => by
    have := depth_pairs l
    simp [pys, pD, D.py, PyData.depthAll, PyData.depth]
    omega
theorem eqok_pairs (l : List (Int × Int)) : EqOk (.lst (l.map pD)) := by
  refine ⟨by simp [D.flat, flats_pairs], ?_⟩
  have := depth_pairs l
  simp [D.py, PyData.depth]
  omega
theorem flats_ints : ∀ l : List Int, flats (l.map iD) = true
  | [] => by simp [flats]
  | p :: l => by simp [flats, iD, D.flat, flats_ints l]
theorem depth_ints : ∀ l : List Int, PyData.depthAll (pys (l.map iD)) ≤ 1
  | [] => by simp [pys, PyData.depthAll]
  | p :: l => by
    have := depth_ints l
    simp [pys, iD, D.py, PyData.depthAll, PyData.depth]
    omega
theorem eqok_lints (l : List Int) : EqOk (.lst (l.map iD)) := by
  refine ⟨by simp [D.flat, flats_ints], ?_⟩
  have := depth_ints l
  simp [D.py, PyData.depth]
  omega
theorem eqok_tints (l : List Int) : EqOk (.tup (l.map iD)) := by
  refine ⟨by simp [D.flat, flats_ints], ?_⟩
  have := depth_ints l
  simp [D.py, PyData.depth]
  omega
theorem eqok_pair (a b : Int) : EqOk (.tup [.int a, .int b]) := eqok_tints [a, b]
theorem eqok_lnil : EqOk (.lst []) := eqok_lints []
theorem eqok_tnil : EqOk (.tup []) := eqok_tints []
theorem eqv_int (a b : Int) : PyData.eqv (D.int a).py (D.int b).py = decide (a = b) := by
  simp only [D.py, PyData.eqv]
  exact Bool.eq_iff_iff.mpr (by simp)
theorem eqv_pair (a b c d : Int) : PyData.eqv (D.tup [.int a, .int b]).py (D.tup [.int c, .int d]).py = decide ((a, b) = (c, d)) := by
  simp only [D.py, pys, PyData.eqv, PyData.eqvAll]
  exact Bool.eq_iff_iff.mpr (by simp)
theorem eqvAll_pairs : ∀ l m : List (Int × Int), PyData.eqvAll (pys (l.map pD)) (pys (m.map pD)) = decide (l = m)
  | [], [] => by simp [pys, PyData.eqvAll]
  | [], _ :: _ => by simp [pys, PyData.eqvAll]
  | _ :: _, [] => by simp [pys, PyData.eqvAll]
  | p :: l, q :: m => by
    have h1 := eqv_pair p.1 p.2 q.1 q.2
    simp only [List.map_cons, pys, PyData.eqvAll, eqvAll_pairs l m, pD, h1]
    exact Bool.eq_iff_iff.mpr (by simp [Prod.ext_iff])
theorem eqv_pairs (l m : List (Int × Int)) : PyData.eqv (D.lst (l.map pD)).py (D.lst (m.map pD)).py = decide (l = m) := by
  simp only [D.py, PyData.eqv, eqvAll_pairs]
theorem eqvAll_ints : ∀ l m : List Int, PyData.eqvAll (pys (l.map iD)) (pys (m.map iD)) = decide (l = m)
  | [], [] => by simp [pys, PyData.eqvAll]
  | [], _ :: _ => by simp [pys, PyData.eqvAll]
  | _ :: _, [] => by simp [pys, PyData.eqvAll]
  | p :: l, q :: m => by
    have h1 := eqv_int p q
    simp only [List.map_cons, pys, PyData.eqvAll, eqvAll_ints l m, iD, h1]
    exact Bool.eq_iff_iff.mpr (by simp)
theorem eqv_lints (l m : List Int) : PyData.eqv (D.lst (l.map iD)).py (D.lst (m.map iD)).py = decide (l = m) := by
  simp only [D.py, PyData.eqv, eqvAll_ints]
theorem eqv_tints (l m : List Int) : PyData.eqv (D.tup (l.map iD)).py (D.tup (m.map iD)).py = decide (l = m) := by
  simp only [D.py, PyData.eqv, eqvAll_ints]
theorem eqv_pairs_nil (l : List (Int × Int)) : PyData.eqv (D.lst (l.map pD)).py (D.lst []).py = decide (l = []) := eqv_pairs l []
theorem eqv_lints_nil (l : List Int) : PyData.eqv (D.lst (l.map iD)).py (D.lst []).py = decide (l = []) := eqv_lints l []

/-! ### running a term -/
section
variable {k : Bool → Prop}
theorem iteB_i {t : Bool} {A B : Prop} (h1 : t = true → A) (h2 : t = false → B) : iteB t A B := by
  rw [iteB_eq, iteB0.eq_def]
  cases t
  · exact h2 rfl
  · exact h1 rfl
theorem iteB_d {p : Prop} [Decidable p] {A B : Prop} (h1 : p → A) (h2 : ¬ p → B) : iteB (decide p) A B := iteB_i (fun h => h1 (of_decide_eq_true h)) fun h => h2 (of_decide_eq_false h)
theorem iteB_nd {p : Prop} [Decidable p] {A B : Prop} (h1 : ¬ p → A) (h2 : p → B) : iteB (!decide p) A B := by
  by_cases h : p
  · rw [decide_eq_true h, iteB_eq, iteB0.eq_def]; exact h2 h
  · rw [decide_eq_false h, iteB_eq, iteB0.eq_def]; exact h1 h
theorem iteB_t {t : Bool} {A B : Prop} (h : t = true) (h1 : A) : iteB t A B := by subst h; rw [iteB_eq, iteB0.eq_def]; exact h1
theorem iteB_f {t : Bool} {A B : Prop} (h : t = false) (h1 : B) : iteB t A B := by subst h; rw [iteB_eq, iteB0.eq_def]; exact h1
theorem iteB_T {A B : Prop} (h1 : A) : iteB true A B := iteB_t rfl h1
theorem iteB_F {A B : Prop} (h1 : B) : iteB false A B := iteB_f rfl h1
theorem iteB_nT {A B : Prop} (h1 : B) : iteB (!true) A B := iteB_f rfl h1
theorem iteB_nF {A B : Prop} (h1 : A) : iteB (!false) A B := iteB_t rfl h1
theorem iteB_n0 {A B : Prop} (h : A) : iteB (isNonD .non) A B := iteB_t rfl h
theorem iteB_n1 {A B : Prop} (h : B) : iteB (!isNonD .non) A B := iteB_f rfl h
theorem iteB_n2 {xs : List D} {A B : Prop} (h : B) : iteB (isNonD (.tup xs)) A B := iteB_f rfl h
theorem iteB_n3 {xs : List D} {A B : Prop} (h : A) : iteB (!isNonD (.tup xs)) A B := iteB_t rfl h
theorem iteB_n4 {i : Int} {A B : Prop} (h : B) : iteB (isNonD (.int i)) A B := iteB_f rfl h
theorem iteB_n5 {i : Int} {A B : Prop} (h : A) : iteB (!isNonD (.int i)) A B := iteB_t rfl h
theorem callG_i {o : Option (List Md × Ctr)} {K : List Md → Ctr → Prop} {ms : List Md} {C : Ctr} (h : o = some (ms, C)) (hm : okMs ms = true) (hk : K ms C) : callG o K := by
  subst h
  rw [callG_eq, callG0.eq_def]
  exact ⟨hm, hk⟩
theorem callD_v {C : Ctr} {s : DSt} {as : List CA} {P : DSt → Rs → Prop} {R : Str → Prop} {ds : List D} (h : caD s as = some ds) (hn : ioSlot as = none) (hc : C ds (fun r _ => P s r) R) : callD C s as P R := by
  rw [callD_eq, callD0.eq_def, h]
  have e : ∀ io, putIo s as io = s := fun io => by rw [putIo.eq_def, hn]
  simp only [e]
  exact hc
theorem callD_io {C : Ctr} {s : DSt} {as : List CA} {P : DSt → Rs → Prop} {R : Str → Prop} {ds : List D} (h : caD s as = some ds) (hc : C ds (fun r io => P (putIo s as io) r) R) : callD C s as P R := by
  rw [callD_eq, callD0.eq_def, h]
  exact hc
/-! comparisons -/
theorem cmp_eq {a b : D} (h1 : EqOk a) (h2 : EqOk b) (h : k (PyData.eqv a.py b.py)) : cmpD .eq a b k := by rw [cmpD_eq, cmpD0.eq_def]; exact ⟨h1, h2, h⟩
theorem cmp_ne {a b : D} (h1 : EqOk a) (h2 : EqOk b) (h : k (!PyData.eqv a.py b.py)) : cmpD .ne a b k := by rw [cmpD_eq, cmpD0.eq_def]; exact ⟨h1, h2, h⟩
theorem eq_int {i j : Int} (h : k (decide (i = j))) : cmpD .eq (.int i) (.int j) k := cmp_eq (eqok_int _) (eqok_int _) (by rw [eqv_int]; exact h)
theorem ne_int {i j : Int} (h : k (!decide (i = j))) : cmpD .ne (.int i) (.int j) k := cmp_ne (eqok_int _) (eqok_int _) (by rw [eqv_int]; exact h)
theorem eq_pair {a b c d : Int} (h : k (decide (a = c ∧ b = d))) : cmpD .eq (.tup [.int a, .int b]) (.tup [.int c, .int d]) k := cmp_eq (eqok_pair _ _) (eqok_pair _ _) (by rw [eqv_pair]; simpa only [Prod.mk.injEq] using h)
theorem ne_pair {a b c d : Int} (h : k (!decide (a = c ∧ b = d))) : cmpD .ne (.tup [.int a, .int b]) (.tup [.int c, .int d]) k := cmp_ne (eqok_pair _ _) (eqok_pair _ _) (by rw [eqv_pair]; simpa only [Prod.mk.injEq] using h)
theorem eq_pairs {l m : List (Int × Int)} (h : k (decide (l = m))) : cmpD .eq (.lst (l.map pD)) (.lst (m.map pD)) k := cmp_eq (eqok_pairs _) (eqok_pairs _) (by rw [eqv_pairs]; exact h)
theorem ne_pairs {l m : List (Int × Int)} (h : k (!decide (l = m))) : cmpD .ne (.lst (l.map pD)) (.lst (m.map pD)) k := cmp_ne (eqok_pairs _) (eqok_pairs _) (by rw [eqv_pairs]; exact h)
theorem eq_pairs0 {l : List (Int × Int)} (h : k (decide (l = []))) : cmpD .eq (.lst (l.map pD)) (.lst []) k := eq_pairs (m := []) h
theorem ne_pairs0 {l : List (Int × Int)} (h : k (!decide (l = []))) : cmpD .ne (.lst (l.map pD)) (.lst []) k := ne_pairs (m := []) h
theorem eq_ints {l m : List Int} (h : k (decide (l = m))) : cmpD .eq (.lst (l.map iD)) (.lst (m.map iD)) k := cmp_eq (eqok_lints _) (eqok_lints _) (by rw [eqv_lints]; exact h)
theorem ne_ints {l m : List Int} (h : k (!decide (l = m))) : cmpD .ne (.lst (l.map iD)) (.lst (m.map iD)) k := cmp_ne (eqok_lints _) (eqok_lints _) (by rw [eqv_lints]; exact h)
theorem eq_ints0 {l : List Int} (h : k (decide (l = []))) : cmpD .eq (.lst (l.map iD)) (.lst []) k := eq_ints (m := []) h
theorem ne_ints0 {l : List Int} (h : k (!decide (l = []))) : cmpD .ne (.lst (l.map iD)) (.lst []) k := ne_ints (m := []) h
theorem eq_tints {l m : List Int} (h : k (decide (l = m))) : cmpD .eq (.tup (l.map iD)) (.tup (m.map iD)) k := cmp_eq (eqok_tints _) (eqok_tints _) (by rw [eqv_tints]; exact h)
theorem ne_tints {l m : List Int} (h : k (!decide (l = m))) : cmpD .ne (.tup (l.map iD)) (.tup (m.map iD)) k := cmp_ne (eqok_tints _) (eqok_tints _) (by rw [eqv_tints]; exact h)
theorem ne_tints0 {l : List Int} (h : k (!decide (l = []))) : cmpD .ne (.tup (l.map iD)) (.tup []) k := ne_tints (m := []) h
theorem eq_tints0 {l : List Int} (h : k (decide (l = []))) : cmpD .eq (.tup (l.map iD)) (.tup []) k := eq_tints (m := []) h
theorem eqok_opt (o : Option (Int × Int)) : EqOk (match o with | some p => pD p | none => .non) := by
  cases o with
  | none => exact eqok_non
  | some p => exact eqok_pair _ _
theorem lt_int {i j : Int} (h : k (decide (i < j))) : cmpD .lt (.int i) (.int j) k := by rw [cmpD_eq, cmpD0.eq_def]; exact h
theorem le_int {i j : Int} (h : k (decide (i ≤ j))) : cmpD .le (.int i) (.int j) k := by rw [cmpD_eq, cmpD0.eq_def]; exact h
theorem gt_int {i j : Int} (h : k (decide (j < i))) : cmpD .gt (.int i) (.int j) k := by rw [cmpD_eq, cmpD0.eq_def]; exact h
theorem ge_int {i j : Int} (h : k (decide (j ≤ i))) : cmpD .ge (.int i) (.int j) k := by rw [cmpD_eq, cmpD0.eq_def]; exact h
theorem is_non {d : D} (h : k (isNonD d)) : cmpD .is d .non k := by rw [cmpD_eq, cmpD0.eq_def]; exact h
theorem isnot_non {d : D} (h : k (!isNonD d)) : cmpD .isNot d .non k := by rw [cmpD_eq, cmpD0.eq_def]; exact h
theorem is_bl {x y : Bool} (h : k (decide (x = y))) : cmpD .is (.bl x) (.bl y) k := by rw [cmpD_eq, cmpD0.eq_def]; exact h
theorem isnot_bl {x y : Bool} (h : k (!decide (x = y))) : cmpD .isNot (.bl x) (.bl y) k := by rw [cmpD_eq, cmpD0.eq_def]; exact h
theorem any_map_pys {α : Type} (l : List α) (e : α → D) (q : PyData → Bool) : (pys (l.map e)).any q = l.any fun a => q (e a).py := by
  induction l with
  | nil => rfl
  | cons a l ih => simp [pys, ih]
theorem any_eq {α : Type} [DecidableEq α] (l : List α) (p : α) (f : α → Bool) (h : ∀ x, f x = decide (x = p)) : l.any f = decide (p ∈ l) := by
  rw [show f = fun x => decide (x = p) from funext h]
  induction l with
  | nil => simp
  | cons a l ih =>
    rw [List.any_cons, ih]
    exact Bool.eq_iff_iff.mpr (by simp only [Bool.or_eq_true, decide_eq_true_eq, List.mem_cons]; exact or_congr ⟨fun e => e.symm, fun e => e.symm⟩ Iff.rfl)
theorem any_pairs (l : List (Int × Int)) (a b : Int) : ((pys (l.map pD)).any fun z => PyData.eqv z (D.tup [.int a, .int b]).py) = decide ((a, b) ∈ l) := by
  rw [any_map_pys, any_eq l (a, b) _ fun p => by exact eqv_pair p.1 p.2 a b]
  exact Bool.eq_iff_iff.mpr (by simp only [decide_eq_true_eq])
theorem in_pairs {l : List (Int × Int)} {a b : Int} (h : k (decide ((a, b) ∈ l))) : cmpD .in_ (.tup [.int a, .int b]) (.lst (l.map pD)) k := by
  rw [cmpD_eq, cmpD0.eq_def]
  dsimp only
  rw [inD_eq, inD0.eq_def]
  refine ⟨eqok_pair _ _, eqok_pairs _, ?_⟩
  rw [if_neg Bool.false_ne_true, any_pairs]
  exact h
theorem notIn_pairs {l : List (Int × Int)} {a b : Int} (h : k (!decide ((a, b) ∈ l))) : cmpD .notIn (.tup [.int a, .int b]) (.lst (l.map pD)) k := by
  rw [cmpD_eq, cmpD0.eq_def]
  dsimp only
  rw [inD_eq, inD0.eq_def]
  refine ⟨eqok_pair _ _, eqok_pairs _, ?_⟩
  rw [if_pos rfl, any_pairs]
  exact h
/-! items -/
theorem idx_0 {a : D} {r : List D} {q : D → Prop} (h : q a) : idxD (.tup (a :: r)) (.int 0) q := by
  rw [idxD_eq, idxD0.eq_def]
  have e : atI (a :: r) 0 = some a := by
    unfold atI ixN
    rw [if_pos (by omega), if_pos (by simp only [List.length_cons]; omega)]
    rfl
  show orF (atI (a :: r) 0) q
  rw [e]; exact h
theorem idx_1 {a b : D} {r : List D} {q : D → Prop} (h : q b) : idxD (.tup (a :: b :: r)) (.int 1) q := by
  rw [idxD_eq, idxD0.eq_def]
  have e : atI (a :: b :: r) 1 = some b := by
    unfold atI ixN
    rw [if_pos (by omega), if_pos (by simp only [List.length_cons]; omega)]
    rfl
  show orF (atI (a :: b :: r) 1) q
  rw [e]; exact h
theorem idx_l0 {a : D} {r : List D} {q : D → Prop} (h : q a) : idxD (.lst (a :: r)) (.int 0) q := by
  rw [idxD_eq, idxD0.eq_def]
  have e : atI (a :: r) 0 = some a := by
    unfold atI ixN
    rw [if_pos (by omega), if_pos (by simp only [List.length_cons]; omega)]
    rfl
  show orF (atI (a :: r) 0) q
  rw [e]; exact h
theorem idx_l1 {a b : D} {r : List D} {q : D → Prop} (h : q b) : idxD (.lst (a :: b :: r)) (.int 1) q := by
  rw [idxD_eq, idxD0.eq_def]
  have e : atI (a :: b :: r) 1 = some b := by
    unfold atI ixN
    rw [if_pos (by omega), if_pos (by simp only [List.length_cons]; omega)]
    rfl
  show orF (atI (a :: b :: r) 1) q
  rw [e]; exact h
theorem idx_l2 {a b c : D} {r : List D} {q : D → Prop} (h : q c) : idxD (.lst (a :: b :: c :: r)) (.int 2) q := by
  rw [idxD_eq, idxD0.eq_def]
  have e : atI (a :: b :: c :: r) 2 = some c := by
    unfold atI ixN
    rw [if_pos (by omega), if_pos (by simp only [List.length_cons]; omega)]
    rfl
  show orF (atI (a :: b :: c :: r) 2) q
  rw [e]; exact h
theorem idx_at {xs : List D} {i : Int} {d : D} {q : D → Prop} (e : atI xs i = some d) (h : q d) : idxD (.lst xs) (.int i) q := by
  rw [idxD_eq, idxD0.eq_def]
  show orF (atI xs i) q
  rw [e]; exact h
theorem idx_scr {xs : List D} {i : Int} {d : D} {q : D → Prop} (e : atI xs i = some d) (h : q d) : idxD (.scr xs) (.int i) q := by
  rw [idxD_eq, idxD0.eq_def]
  show orF (atI xs i) q
  rw [e]; exact h
theorem idx_tup {xs : List D} {i : Int} {d : D} {q : D → Prop} (e : atI xs i = some d) (h : q d) : idxD (.tup xs) (.int i) q := by
  rw [idxD_eq, idxD0.eq_def]
  show orF (atI xs i) q
  rw [e]; exact h
theorem seq_lst {xs : List D} {q : List D → Prop} (h : q xs) : seqD (.lst xs) q := by rw [seqD_eq, seqD0.eq_def]; exact h
theorem seq_tup {xs : List D} {q : List D → Prop} (h : q xs) : seqD (.tup xs) q := by rw [seqD_eq, seqD0.eq_def]; exact h
theorem seq_dI {ks : List Int} {xs : List D} {q : List D → Prop} (h : q (ks.map iD)) : seqD (.dI ks xs) q := by rw [seqD_eq, seqD0.eq_def]; exact h
theorem seq_dT {ks : List D} {xs : List D} {q : List D → Prop} (h : q ks) : seqD (.dT ks xs) q := by rw [seqD_eq, seqD0.eq_def]; exact h
theorem isi_k {d : D} {ty : String} {b : Bool} (h : d.odd = false) (e : kitB d.ty ty = some b) (hk : k b) : isiD d ty k := by rw [isiD_eq, isiD0.eq_def, e]; exact ⟨h, hk⟩
theorem slice_l {xs : List D} {lo hi : Option Int} {q : Rs → Prop} (h : q (.o (.l (cutD xs lo hi)))) : sliceD (.lst xs) lo hi q := by rw [sliceD_eq, sliceD0.eq_def]; exact h
theorem slice_t {xs : List D} {lo hi : Option Int} {q : Rs → Prop} (h : q (.v (.tup (cutD xs lo hi)))) : sliceD (.tup xs) lo hi q := by rw [sliceD_eq, sliceD0.eq_def]; exact h
/-! sets, sorting -/
theorem intsD_map : ∀ l : List Int, intsD (l.map iD) = some l
  | [] => rfl
  | x :: l => by simp [intsD, iD, ← intsD_map l]
theorem pairsD_map : ∀ l : List (Int × Int), pairsD (l.map pD) = some l
  | [] => rfl
  | p :: l => by simp [pairsD, pD, pairsD_map l]
theorem sset_pairs {l : List (Int × Int)} {q : Rs → Prop} (hl : (uniq l).length < 63) (h : q (.o (.l ((ssP l).map pD)))) : ssetD (.lst (l.map pD)) q := by
  rw [ssetD_eq, ssetD0.eq_def]
  cases l with
  | nil => exact ⟨by decide, h⟩
  | cons p l =>
    have e : intsD ((p :: l).map pD) = none := rfl
    dsimp only
    rw [e, pairsD_map]
    exact ⟨hl, h⟩
theorem sset_ints {l : List Int} {q : Rs → Prop} (hl : l.length < 4000) (h : q (.o (.l ((ssI l).map iD)))) : ssetD (.lst (l.map iD)) q := by
  rw [ssetD_eq, ssetD0.eq_def]
  dsimp only
  rw [intsD_map]
  exact ⟨hl, h⟩
theorem sorted_ints {l : List Int} {q : Rs → Prop} (h : q (.o (.l ((sortI l).map iD)))) : sortedD (.lst (l.map iD)) q := by
  rw [sortedD_eq, sortedD0.eq_def]
  dsimp only
  rw [intsD_map]
  exact h
end
/-! ### comprehensions, loops -/
theorem back_wiped {s s' : DSt} {vs : List Nat} (h : wipeD s' vs = wipeD s vs) : backD s s' vs = s := by
  have hl : s'.length = s.length := by rw [← wipeD_length s' vs, ← wipeD_length s vs, h]
  apply List.ext_getElem?
  intro i
  rw [backD_get]
  by_cases c : i ∈ vs
  · rw [if_pos c]
    by_cases k : i < s'.length
    · rw [if_pos k, List.getD_eq_getElem?_getD, List.getElem?_eq_getElem (by omega)]
      rfl
    · rw [if_neg k, List.getElem?_eq_none (by omega)]
  · rw [if_neg c, ← wipeD_out (s := s') c, h, wipeD_out c]
theorem compE_ok {α : Type} {vs : List Nat} {f : D → DSt → (Option D → DSt → Prop) → Prop} {P : DSt → Rs → Prop} {s : DSt} (l : List α) (em : α → D) (g : α → Option D)
    (hf : ∀ a ∈ l, ∀ k' : Option D → DSt → Prop, (∀ s'', wipeD s'' vs = wipeD s vs → k' (g a) s'') → f (em a) (wipeD s vs) k') (h : P s (.o (.l (l.filterMap g)))) : compE vs f (l.map em) s P := by
  rw [compE_eq, compE0.eq_def]
  have main : ∀ (l : List α) (s : DSt) (k : List D → DSt → Prop), (∀ a ∈ l, ∀ k' : Option D → DSt → Prop, (∀ s'', wipeD s'' vs = wipeD s vs → k' (g a) s'') → f (em a) (wipeD s vs) k') → (∀ s', wipeD s' vs = wipeD s vs → k (l.filterMap g) s') → compL vs f (l.map em) s k := by
    intro l
    induction l with
    | nil => intro s k _ h; rw [List.map_nil, compL_nil]; exact h s rfl
    | cons a l ih =>
      intro s k hf h
      rw [List.map_cons, compL_cons]
      refine hf a List.mem_cons_self _ fun s'' e => ?_
      refine ih _ _ (fun b hb k' hk => ?_) fun s3 e3 => ?_
      · rw [e]
        exact hf b (List.mem_cons_of_mem _ hb) k' fun s4 e4 => hk s4 (by rw [e4, e])
      · have := h s3 (by rw [e3, e])
        rw [List.filterMap_cons] at this
        cases q : g a with
        | none => rw [q] at this; exact this
        | some d => rw [q] at this; exact this
  exact main l s _ hf fun s' e => by rw [back_wiped e]; exact h
theorem fm_map {α β : Type} (l : List α) (g : α → β) : (l.filterMap fun a => some (g a)) = l.map g := by
  induction l with
  | nil => rfl
  | cons a l ih => rw [List.filterMap_cons, List.map_cons, ← ih]
theorem fm_opt {α β γ : Type} (l : List α) (g : α → Option β) (e : β → γ) : (l.filterMap fun a => (g a).map e) = (l.filterMap g).map e := by
  rw [List.map_filterMap]
theorem fm_if {α β : Type} (l : List α) (p : α → Bool) (g : α → β) : (l.filterMap fun a => if p a = true then some (g a) else none) = (l.filter p).map g := by
  induction l with
  | nil => rfl
  | cons a l ih => rw [List.filterMap_cons, List.filter_cons]; split <;> simp_all
/-- without a test -/
theorem compE_map {α : Type} {vs : List Nat} {f : D → DSt → (Option D → DSt → Prop) → Prop} {P : DSt → Rs → Prop} {s : DSt} (l : List α) (em : α → D) (g : α → D)
    (hf : ∀ a ∈ l, ∀ k' : Option D → DSt → Prop, (∀ s'', wipeD s'' vs = wipeD s vs → k' (some (g a)) s'') → f (em a) (wipeD s vs) k') (h : P s (.o (.l (l.map g)))) : compE vs f (l.map em) s P :=
  compE_ok l em (fun a => some (g a)) hf (by rw [fm_map]; exact h)
/-- only a test -/
theorem compE_if {α : Type} {vs : List Nat} {f : D → DSt → (Option D → DSt → Prop) → Prop} {P : DSt → Rs → Prop} {s : DSt} (l : List α) (em : α → D) (p : α → Bool) (g : α → D)
    (hf : ∀ a ∈ l, ∀ k' : Option D → DSt → Prop, (∀ s'', wipeD s'' vs = wipeD s vs → k' (if p a = true then some (g a) else none) s'') → f (em a) (wipeD s vs) k') (h : P s (.o (.l ((l.filter p).map g)))) : compE vs f (l.map em) s P :=
  compE_ok l em (fun a => if p a = true then some (g a) else none) hf (by rw [fm_if]; exact h)
theorem compA_ok {α : Type} {vs : List Nat} {f : D → DSt → List D → (List D → DSt → Prop) → Prop} {em : α → D} {g : α → List D} : ∀ {l : List α} {s : DSt} {acc : List D} {k : List D → DSt → Prop}, acc.length + (l.flatMap g).length ≤ sizeLine →
    (∀ a ∈ l, ∀ (acc : List D) (k' : List D → DSt → Prop), acc.length + (g a).length ≤ sizeLine → (∀ s'', wipeD s'' vs = wipeD s vs → k' (acc ++ g a) s'') → f (em a) (wipeD s vs) acc k') →
    (∀ s', wipeD s' vs = wipeD s vs → k (acc ++ l.flatMap g) s') → compA vs f (l.map em) s acc k
  | [], s, acc, k, _, _, h => by rw [List.map_nil, compA_nil]; have := h s rfl; simpa using this
  | a :: l, s, acc, k, hz, hf, h => by
    rw [List.map_cons, compA_cons]
    rw [List.flatMap_cons, List.length_append] at hz
    refine hf a List.mem_cons_self _ _ (by omega) fun s'' e => ?_
    refine compA_ok (g := g) (by rw [List.length_append]; omega) (fun b hb acc k' hz' hk => ?_) fun s3 e3 => ?_
    · rw [e]
      exact hf b (List.mem_cons_of_mem _ hb) acc k' hz' fun s4 e4 => hk s4 (by rw [e4, e])
    · have := h s3 (by rw [e3, e])
      rw [List.flatMap_cons] at this
      rw [List.append_assoc]
      exact this
theorem compE2_ok {α : Type} {vs : List Nat} {f : D → DSt → List D → (List D → DSt → Prop) → Prop} {P : DSt → Rs → Prop} {s : DSt} (l : List α) (em : α → D) (g : α → List D) (hz : (l.flatMap g).length ≤ sizeLine)
    (hf : ∀ a ∈ l, ∀ (acc : List D) (k' : List D → DSt → Prop), acc.length + (g a).length ≤ sizeLine → (∀ s'', wipeD s'' vs = wipeD s vs → k' (acc ++ g a) s'') → f (em a) (wipeD s vs) acc k') (h : P s (.o (.l (l.flatMap g)))) : compE2 vs f (l.map em) s P := by
  rw [compE2_eq, compE20.eq_def]
  refine compA_ok (g := g) (by simpa using hz) hf fun s' e => ?_
  rw [back_wiped e]
  simpa using h
/-- the inner walk: one item a turn -/
theorem compA_map {α : Type} {vs : List Nat} {f : D → DSt → List D → (List D → DSt → Prop) → Prop} (l : List α) (em : α → D) (g : α → D) {s : DSt} {acc : List D} {k : List D → DSt → Prop} (hz : acc.length + l.length ≤ sizeLine)
    (hf : ∀ a ∈ l, ∀ (acc : List D) (k' : List D → DSt → Prop), acc.length < sizeLine → (∀ s'', wipeD s'' vs = wipeD s vs → k' (acc ++ [g a]) s'') → f (em a) (wipeD s vs) acc k')
    (h : ∀ s', wipeD s' vs = wipeD s vs → k (acc ++ l.map g) s') : compB vs f (l.map em) s acc k := by
  rw [compB_eq]
  have e : ∀ l : List α, (l.flatMap fun a => [g a]) = l.map g := fun l => by
    induction l with
    | nil => rfl
    | cons a l ih => rw [List.flatMap_cons, List.map_cons, ih]; rfl
  refine compA_ok (g := fun a => [g a]) (by rw [e, List.length_map]; exact hz) (fun a ha acc k' h1 hk => hf a ha acc k' (by simp at h1; omega) hk) fun s' q => ?_
  rw [e]
  exact h s' q
/-- a loop over a list, by what is done -/
theorem forL_pre {α : Type} {f : D → DSt → Ks → Prop} {nx : DSt → Prop} {rt : DSt → Rs → Prop} {xx : Str → Prop} {bk ct : DSt → Prop} {s : DSt} (l : List α) (em : α → D) (I : List α → DSt → Prop) (h0 : I [] s)
    (step : ∀ (pre : List α) (a : α) (post : List α) (s : DSt), l = pre ++ a :: post → I pre s → ∀ N : DSt → Prop, (∀ s', I (pre ++ [a]) s' → N s') → f (em a) s ⟨N, rt, xx, nx, N⟩) (done : ∀ s, I l s → nx s) : forW f ⟨nx, rt, xx, bk, ct⟩ (l.map em) s := by
  rw [forW_eq]
  have main : ∀ (post pre : List α) (s : DSt), l = pre ++ post → I pre s → forL f ⟨nx, rt, xx, bk, ct⟩ (post.map em) s := by
    intro post
    induction post with
    | nil =>
      intro pre s e h
      rw [List.map_nil, forL_nil]
      rw [List.append_nil] at e
      subst e
      exact done s h
    | cons a post ih =>
      intro pre s e h
      rw [List.map_cons, forL_cons]
      exact step pre a post s e h _ fun s' hs' => ih (pre ++ [a]) s' (by rw [e, List.append_assoc]; rfl) hs'
  exact main l [] s rfl h0
/-- .. nothing is kept but the state's shape -/
theorem forL_inv {α : Type} {f : D → DSt → Ks → Prop} {nx : DSt → Prop} {rt : DSt → Rs → Prop} {xx : Str → Prop} {bk ct : DSt → Prop} {s : DSt} (l : List α) (em : α → D) (I : DSt → Prop) (h0 : I s)
    (step : ∀ (a : α) (s : DSt), a ∈ l → I s → ∀ N : DSt → Prop, (∀ s', I s' → N s') → f (em a) s ⟨N, rt, xx, nx, N⟩) (done : ∀ s, I s → nx s) : forW f ⟨nx, rt, xx, bk, ct⟩ (l.map em) s :=
  forL_pre l em (fun _ => I) h0 (fun pre a post s e h N hN => step a s (by rw [e]; simp) h N hN) done
/-- a loop that folds -/
theorem forL_fold {α β : Type} {f : D → DSt → Ks → Prop} {nx : DSt → Prop} {rt : DSt → Rs → Prop} {xx : Str → Prop} {bk ct : DSt → Prop} {s : DSt} (l : List α) (em : α → D) (st : β → α → β) (I : β → DSt → Prop) (b : β) (h0 : I b s)
    (step : ∀ (b : β) (a : α) (s : DSt), a ∈ l → I b s → ∀ N : DSt → Prop, (∀ s', I (st b a) s' → N s') → f (em a) s ⟨N, rt, xx, nx, N⟩) (done : ∀ s, I (l.foldl st b) s → nx s) : forW f ⟨nx, rt, xx, bk, ct⟩ (l.map em) s :=
  forL_pre l em (fun pre => I (pre.foldl st b)) h0 (fun pre a post s e h N hN => step _ a s (by rw [e]; simp) h N fun s' h' => hN s' (by rw [List.foldl_append]; exact h')) done
theorem rngD_rg (a b : Int) : rngD a b = (rg a b).map iD := by
  simp only [rngD, rg, List.map_map]
  rfl
theorem rng_ok {a b : Int} (h : -4611686018427387904 ≤ a ∧ a < 4611686018427387904 ∧ -4611686018427387904 ≤ b ∧ b < 4611686018427387904) : rngOk a b := h
theorem line_eq : sizeLine = 16777216 := rfl
theorem pos_i {j : Int} (h : 0 < j) : 0 < j := h
theorem hasD_and {s : DSt} {i : Nat} {x : Sl} {Y : Prop} (h : s[i]? = some (some x)) (k : Y) : hasD s i ∧ Y := ⟨by unfold hasD; rw [h]; trivial, k⟩
theorem ownL_i {s : DSt} {i : Nat} {xs : List D} (h : ownL s i = some xs) : (ownL s i).isSome = true := by rw [h]; rfl
theorem line_le {n : Nat} (h : n ≤ 16777216) : n ≤ sizeLine := h
/-- a def's term does what the contract says -/
def Does (G : Gam) (ms : List Md) (t : Ss) (n : Nat) (C : Ctr) : Prop := ∀ (ds : List D) (K : Rs → List D → Prop) (R : Str → Prop), C ds K R → wpSs G t (startD ms ds n) ⟨fun s => ioGet ms s (K (.v .non)), fun s r => ioGet ms s (K r), R, fun _ => False, fun _ => False⟩
theorem mul_l {i j : Int} (h : -18446744073709551616 < i ∧ i < 18446744073709551616) : mulOk i j := .inl (.inl h)
theorem mul_r {i j : Int} (h : -18446744073709551616 < j ∧ j < 18446744073709551616) : mulOk i j := .inl (.inr h)
theorem div_w {i j : Int} (h : 0 < j ∧ j < 9223372036854775808) : divOk i j := by
  refine .inr ⟨h.1, ?_⟩
  have : j.natAbs.log2 < 63 := (Nat.log2_lt (by omega)).mpr (by omega)
  omega
theorem div_ok {i j : Int} (h2 : 0 < j ∧ j < 1073741824) : divOk i j := .inl h2
end DL

set_option maxHeartbeats 1000000
namespace DL
open PySem L2
/-! ### what is wanted may be less -/
theorem ite_m {c : Prop} [Decidable c] {A B A' B' : Prop} (h1 : A → A') (h2 : B → B') (q : if c then A else B) : if c then A' else B' := by
  split at q <;> rename_i e
  · rw [if_pos e]; exact h1 q
  · rw [if_neg e]; exact h2 q
section
variable {P P' : DSt → Rs → Prop} {R R' : Str → Prop}
theorem asB_m {d : D} {k k' : Bool → Prop} (h : ∀ b, k b → k' b) (q : asB d k) : asB d k' := by
  cases d <;> first | exact h _ q | exact q.elim
theorem asI_m {d : D} {k k' : Int → Prop} (h : ∀ b, k b → k' b) (q : asI d k) : asI d k' := by
  cases d <;> first | exact h _ q | exact q.elim
theorem rd_m {r : Rs} {k k' : D → Prop} (h : ∀ d, k d → k' d) (q : r.d k) : r.d k' := by
  cases r with
  | v d => exact h _ q
  | o c => cases c <;> first | exact h _ q | exact q.elim
theorem orF_m {o : Option D} {k k' : D → Prop} (h : ∀ d, k d → k' d) (q : orF o k) : orF o k' := by
  cases o <;> first | exact h _ q | exact q.elim
theorem binD_m {op : Op2} {a b : D} {k k' : Rs → Prop} (h : ∀ d, k d → k' d) (q : binD op a b k) : binD op a b k' := by
  unfold binD at *
  split at q <;> first | exact h _ q | exact ⟨q.1, h _ q.2⟩ | exact ⟨q.1, q.2.1, h _ q.2.2⟩ | exact q.elim
theorem inD_m {n : Bool} {a b : D} {k k' : Bool → Prop} (h : ∀ d, k d → k' d) (q : inD n a b k) : inD n a b k' := by
  rw [inD_eq] at *
  unfold inD0 at *
  split at q <;> first | exact ⟨q.1, q.2.1, h _ q.2.2⟩ | exact asI_m (fun _ => h _) q | exact ⟨q.1, h _ q.2⟩ | exact q.elim
theorem cmpD_m {op : Cp} {a b : D} {k k' : Bool → Prop} (h : ∀ d, k d → k' d) (q : cmpD op a b k) : cmpD op a b k' := by
  rw [cmpD_eq, cmpD0.eq_def] at *
  cases op <;> dsimp only at * <;> first
    | exact ⟨q.1, q.2.1, h _ q.2.2⟩
    | exact asI_m (fun _ => asI_m fun _ => h _) q
    | exact inD_m h q
    | (split at q <;> first | exact h _ q | exact asB_m (fun _ => h _) q | exact q.elim)
theorem idxD_m {a b : D} {k k' : D → Prop} (h : ∀ d, k d → k' d) (q : idxD a b k) : idxD a b k' := by
  rw [idxD_eq] at *
  unfold idxD0 at *
  split at q <;> first
    | exact orF_m h q
    | exact ⟨q.1, orF_m h q.2⟩
    | (refine ⟨q.1, ?_⟩; have q2 := q.2; split at q2 <;> first | exact h _ q2 | exact q2.elim)
    | exact q.elim
theorem sliceD_m {a : D} {lo hi : Option Int} {k k' : Rs → Prop} (h : ∀ d, k d → k' d) (q : sliceD a lo hi k) : sliceD a lo hi k' := by
  rw [sliceD_eq] at *
  unfold sliceD0 at *
  split at q <;> first | exact h _ q | exact q.elim
theorem getD_m {a b c : D} {k k' : D → Prop} (h : ∀ d, k d → k' d) (q : getD_ a b c k) : getD_ a b c k' := by
  rw [getD__eq] at *
  unfold getD_0 at *
  split at q <;> first | exact h _ q | exact ⟨q.1, h _ q.2⟩ | exact q.elim
theorem sortedD_m {a : D} {k k' : Rs → Prop} (h : ∀ d, k d → k' d) (q : sortedD a k) : sortedD a k' := by
  rw [sortedD_eq] at *
  unfold sortedD0 at *
  split at q <;> first
    | exact h _ q
    | (split at q <;> first | exact h _ q | (split at q <;> first | exact h _ q | exact q.elim) | exact q.elim)
    | exact q.elim
theorem ssetD_m {a : D} {k k' : Rs → Prop} (h : ∀ d, k d → k' d) (q : ssetD a k) : ssetD a k' := by
  rw [ssetD_eq] at *
  unfold ssetD0 at *
  split at q <;> first
    | (split at q <;> first | exact ⟨q.1, h _ q.2⟩ | (split at q <;> first | exact ⟨q.1, h _ q.2⟩ | exact q.elim))
    | exact q.elim
theorem lenD_m {a : D} {k k' : Int → Prop} (h : ∀ d, k d → k' d) (q : lenD a k) : lenD a k' := by
  unfold lenD at *
  split at q <;> first | exact h _ q | exact ⟨q.1, h _ q.2⟩ | exact q.elim
theorem biD_m {b : Bi} {ds : List D} {k k' : Rs → Prop} (h : ∀ d, k d → k' d) (q : biD b ds k) : biD b ds k' := by
  unfold biD at *
  split at q <;> first
    | exact h _ q
    | exact lenD_m (fun _ => h _) q
    | exact sortedD_m h q
    | exact ssetD_m h q
    | exact ⟨q.1, h _ q.2⟩
    | (split at q <;> first | exact h _ q | exact ⟨q.1, fun m a b => h _ (q.2 m a b)⟩ | exact q.elim)
    | exact q.elim
theorem empD_m {a : D} {k k' : Bool → Prop} (h : ∀ d, k d → k' d) (q : empD a k) : empD a k' := by
  rw [empD_eq, empD0.eq_def] at *
  cases a <;> first | exact h _ q | exact q
theorem isiD_m {a : D} {ty : String} {k k' : Bool → Prop} (h : ∀ d, k d → k' d) (q : isiD a ty k) : isiD a ty k' := by
  rw [isiD_eq, isiD0.eq_def] at *
  refine ⟨q.1, ?_⟩
  have q2 := q.2
  split at q2 <;> first | exact h _ q2 | exact q2.elim
theorem rdV_m {s : DSt} {i : Nat} (h : ∀ s r, P s r → P' s r) (q : rdV s i P) : rdV s i P' := by
  unfold rdV at *
  split at q <;> first | exact h _ _ q | exact q.elim
theorem mvV_m {s : DSt} {i : Nat} (h : ∀ s r, P s r → P' s r) (q : mvV s i P) : mvV s i P' := by
  unfold mvV at *
  split at q <;> first | exact h _ _ q | exact q.elim
theorem atO_m {s : DSt} {i : Nat} {k k' : Own → Prop} (h : ∀ r, k r → k' r) (q : atO s i k) : atO s i k' := by
  unfold atO at *
  split at q <;> first | exact h _ q | exact q.elim
theorem atV_m {s : DSt} {i : Nat} {k k' : D → Prop} (h : ∀ r, k r → k' r) (q : atV s i k) : atV s i k' := by
  unfold atV at *
  split at q <;> first | exact h _ q | exact q.elim
theorem setRs_m {s : DSt} {i : Nat} {r : Rs} {k k' : DSt → Prop} (h : ∀ r, k r → k' r) (q : setRs s i r k) : setRs s i r k' := by
  unfold setRs at *
  split at q <;> exact h _ q
theorem parRs_m {k k' : DSt → Prop} (h : ∀ r, k r → k' r) : ∀ {is : List Nat} {rs : List Rs} {s : DSt}, parRs s is rs k → parRs s is rs k'
  | [], [], s, q => h _ q
  | i :: is, r :: rs, s, q => setRs_m (fun _ => parRs_m h) q
  | [], _ :: _, _, q => q
  | _ :: _, [], _, q => q
theorem setAll_m {k k' : DSt → Prop} (h : ∀ r, k r → k' r) : ∀ {is : List Nat} {rs : List D} {s : DSt}, setAll s is rs k → setAll s is rs k'
  | [], [], s, q => h _ q
  | i :: is, r :: rs, s, q => setAll_m (is := is) (rs := rs) h q
  | [], _ :: _, _, q => q
  | _ :: _, [], _, q => q
theorem asgTg_m {t : Tg} {d : D} {s : DSt} {k k' : DSt → Prop} (h : ∀ r, k r → k' r) (q : asgTg t d s k) : asgTg t d s k' := by
  cases t with
  | one i => exact h _ q
  | many is => cases d <;> first | exact setAll_m h q | exact q.elim
theorem nestC_m {s : DSt} {f : Nat} {t : Int} {d : D} {j : Int} {qs : List Addr} {ks : List Int} {cs : List (List D × List D)} {n n' : DSt → Prop} (h : ∀ s, n s → n' s) (q : nestC s f t d j qs ks cs n) : nestC s f t d j qs ks cs n' := by
  unfold nestC at *
  refine ⟨q.1, q.2.1, q.2.2.1, ?_⟩
  have q4 := q.2.2.2
  split at q4
  · exact fun a => h _ (q4 a)
  · refine ⟨q4.1, ?_⟩
    have q5 := q4.2
    unfold bumpD at *
    split at q5
    · exact h _ q5
    · exact h _ q5
    · exact q5.elim
theorem nestD_m {s : DSt} {f e k h w : Nat} {n n' : DSt → Prop} (hn : ∀ s, n s → n' s) (q : nestD s f e k h w n) : nestD s f e k h w n' := by
  rw [nestD_eq] at *
  unfold nestD0 at *
  split at q
  · exact ⟨q.1, nestC_m hn q.2⟩
  · exact ⟨q.1, nestC_m hn q.2⟩
  · exact q.elim
theorem setIxD_m {s : DSt} {i : Nat} {a b : D} {k k' : DSt → Prop} (h : ∀ r, k r → k' r) (q : setIxD s i a b k) : setIxD s i a b k' := by
  unfold setIxD at *
  split at q <;> first
    | (refine asI_m (fun j q => ?_) q; first | exact ⟨q.1, h _ q.2⟩ | (split at q <;> first | exact h _ q | exact q.elim))
    | exact ⟨q.1, q.2.1, h _ q.2.2⟩
    | exact q.elim
theorem appD_m {s : DSt} {i : Nat} {a : D} {k k' : DSt → Prop} (h : ∀ r, k r → k' r) (q : appD s i a k) : appD s i a k' := by
  unfold appD at *
  split at q <;> first | exact ⟨q.1, h _ q.2⟩ | exact q.elim
theorem popD_m {s : DSt} {i : Nat} {k k' : DSt → Prop} (h : ∀ r, k r → k' r) (q : popD s i k) : popD s i k' := by
  unfold popD at *
  split at q <;> first | exact ⟨q.1, h _ q.2⟩ | exact q.elim
theorem callG_m {o : Option (List Md × Ctr)} {k k' : List Md → Ctr → Prop} (h : ∀ ms C, o = some (ms, C) → k ms C → k' ms C) (q : callG o k) : callG o k' := by
  rw [callG_eq, callG0.eq_def] at *
  split at q
  · exact ⟨q.1, h _ _ rfl q.2⟩
  · exact q.elim
theorem callD_m {C : Ctr} {s : DSt} {as : List CA} (hC : CMono C) (h : ∀ s r, P s r → P' s r) (hR : ∀ c, R c → R' c) (q : callD C s as P R) : callD C s as P' R' := by
  rw [callD_eq, callD0.eq_def] at *
  split at q
  · exact hC _ _ _ _ _ (fun _ _ => h _ _) hR q
  · exact q.elim
theorem iteB_m {t : Bool} {A B A' B' : Prop} (h1 : A → A') (h2 : B → B') (q : iteB t A B) : iteB t A' B' := by
  rw [iteB_eq, iteB0.eq_def] at *
  cases t
  · exact h2 q
  · exact h1 q
theorem seqD_m {d : D} {k k' : List D → Prop} (h : ∀ x, k x → k' x) (q : seqD d k) : seqD d k' := by
  rw [seqD_eq] at *
  unfold seqD0 at *
  split at q <;> first | exact h _ q | exact q.elim
theorem compL_m {vs : List Nat} {f f' : D → DSt → (Option D → DSt → Prop) → Prop} (hf : ∀ x s k k', (∀ o s, k o s → k' o s) → f x s k → f' x s k') : ∀ {xs : List D} {s : DSt} {k k' : List D → DSt → Prop}, (∀ y s, k y s → k' y s) → compL vs f xs s k → compL vs f' xs s k'
  | [], s, k, k', h, q => by rw [compL_nil] at *; exact h _ _ q
  | x :: xs, s, k, k', h, q => by
    rw [compL_cons] at *
    exact hf _ _ _ _ (fun o s1 => compL_m hf fun _ _ => h _ _) q
theorem compA_m {vs : List Nat} {f f' : D → DSt → List D → (List D → DSt → Prop) → Prop} (hf : ∀ x s a k k', (∀ o s, k o s → k' o s) → f x s a k → f' x s a k') : ∀ {xs : List D} {s : DSt} {a : List D} {k k' : List D → DSt → Prop}, (∀ y s, k y s → k' y s) → compA vs f xs s a k → compA vs f' xs s a k'
  | [], s, a, k, k', h, q => by rw [compA_nil] at *; exact h _ _ q
  | x :: xs, s, a, k, k', h, q => by
    rw [compA_cons] at *
    exact hf _ _ _ _ _ (fun o s1 => compA_m hf h) q
theorem compE_m {vs : List Nat} {f f' : D → DSt → (Option D → DSt → Prop) → Prop} {xs : List D} {s : DSt} (hf : ∀ x s k k', (∀ o s, k o s → k' o s) → f x s k → f' x s k') (h : ∀ s r, P s r → P' s r) (q : compE vs f xs s P) : compE vs f' xs s P' := by
  rw [compE_eq, compE0.eq_def] at *
  exact compL_m hf (fun _ _ => h _ _) q
theorem compE2_m {vs : List Nat} {f f' : D → DSt → List D → (List D → DSt → Prop) → Prop} {xs : List D} {s : DSt} (hf : ∀ x s a k k', (∀ o s, k o s → k' o s) → f x s a k → f' x s a k') (h : ∀ s r, P s r → P' s r) (q : compE2 vs f xs s P) : compE2 vs f' xs s P' := by
  rw [compE2_eq, compE20.eq_def] at *
  exact compA_m hf (fun _ _ => h _ _) q
theorem compB_m {vs : List Nat} {f f' : D → DSt → List D → (List D → DSt → Prop) → Prop} (hf : ∀ x s a k k', (∀ o s, k o s → k' o s) → f x s a k → f' x s a k') {xs : List D} {s : DSt} {a : List D} {k k' : List D → DSt → Prop} (h : ∀ y s, k y s → k' y s) (q : compB vs f xs s a k) : compB vs f' xs s a k' := ⟨compA_m hf h q.h⟩
structure KsM (k k' : Ks) : Prop where
  nx : ∀ s, k.nx s → k'.nx s
  rt : ∀ s r, k.rt s r → k'.rt s r
  xx : ∀ c, k.xx c → k'.xx c
  bk : ∀ s, k.bk s → k'.bk s
  ct : ∀ s, k.ct s → k'.ct s
theorem forL_m {f f' : D → DSt → Ks → Prop} (hf : ∀ x s k k', KsM k k' → f x s k → f' x s k') : ∀ {xs : List D} {s : DSt} {k k' : Ks}, KsM k k' → forL f k xs s → forL f' k' xs s
  | [], s, k, k', h, q => by rw [forL_nil] at *; exact h.nx _ q
  | x :: xs, s, k, k', h, q => by
    rw [forL_cons] at *
    refine hf _ _ _ _ ?_ q
    exact ⟨fun s => forL_m hf h, h.rt, h.xx, h.nx, fun s => forL_m hf h⟩
end
section
variable {G : Gam} (hG : ∀ f ms C, G f = some (ms, C) → CMono C)
include hG
mutual
theorem wpE_m : ∀ (e : E) {s : DSt} {P P' : DSt → Rs → Prop} {R R' : Str → Prop}, (∀ s r, P s r → P' s r) → (∀ c, R c → R' c) → wpE G e s P R → wpE G e s P' R'
  | .var i, s, P, P', R, R', h, hR, q => rdV_m h q
  | .mv i, s, P, P', R, R', h, hR, q => mvV_m h q
  | .io _, s, P, P', R, R', h, hR, q => q
  | .int i, s, P, P', R, R', h, hR, q => h _ _ q
  | .bl b, s, P, P', R, R', h, hR, q => h _ _ q
  | .non, s, P, P', R, R', h, hR, q => h _ _ q
  | .str x, s, P, P', R, R', h, hR, q => h _ _ q
  | .cst _ i, s, P, P', R, R', h, hR, q => h _ _ q
  | .tup es, s, P, P', R, R', h, hR, q => wpV_m es (fun _ _ q => ⟨q.1, h _ _ q.2⟩) hR q
  | .lst es, s, P, P', R, R', h, hR, q => wpV_m es (fun _ _ q => ⟨q.1, h _ _ q.2⟩) hR q
  | .bin op a b, s, P, P', R, R', h, hR, q => wpE_m a (fun _ _ => rd_m fun _ => wpE_m b (fun _ _ => rd_m fun _ => binD_m fun _ => h _ _) hR) hR q
  | .neg a, s, P, P', R, R', h, hR, q => wpE_m a (fun _ _ => rd_m fun _ => asI_m fun _ => h _ _) hR q
  | .not a, s, P, P', R, R', h, hR, q => wpE_m a (fun _ _ => rd_m fun _ => asB_m fun _ => h _ _) hR q
  | .cmp op a b, s, P, P', R, R', h, hR, q => wpE_m a (fun _ _ => rd_m fun _ => wpE_m b (fun _ _ => rd_m fun _ => cmpD_m fun _ => h _ _) hR) hR q
  | .chain o1 o2 a b c, s, P, P', R, R', h, hR, q => wpE_m a (fun _ _ => rd_m fun _ => wpE_m b (fun _ _ => rd_m fun _ => cmpD_m fun _ => iteB_m (wpE_m c (fun _ _ => rd_m fun _ => cmpD_m fun _ => h _ _) hR) (h _ _)) hR) hR q
  | .and a b, s, P, P', R, R', h, hR, q => wpE_m a (fun _ _ => rd_m fun _ => asB_m fun _ => iteB_m (wpE_m b h hR) (h _ _)) hR q
  | .or a b, s, P, P', R, R', h, hR, q => wpE_m a (fun _ _ => rd_m fun _ => asB_m fun _ => iteB_m (h _ _) (wpE_m b h hR)) hR q
  | .ite c a b, s, P, P', R, R', h, hR, q => wpE_m c (fun _ _ => rd_m fun _ => asB_m fun _ => iteB_m (wpE_m a h hR) (wpE_m b h hR)) hR q
  | .idx a b, s, P, P', R, R', h, hR, q => wpE_m a (fun _ _ => rd_m fun _ => wpE_m b (fun _ _ => rd_m fun _ => idxD_m fun _ => h _ _) hR) hR q
  | .ixo i b, s, P, P', R, R', h, hR, q => ⟨q.1, wpE_m b (fun _ _ => rd_m fun _ => atO_m fun _ => idxD_m fun _ => h _ _) hR q.2⟩
  | .slL a lo, s, P, P', R, R', h, hR, q => wpE_m a (fun _ _ => rd_m fun _ => wpE_m lo (fun _ _ => rd_m fun _ => asI_m fun _ => sliceD_m fun _ => h _ _) hR) hR q
  | .slU a lo, s, P, P', R, R', h, hR, q => wpE_m a (fun _ _ => rd_m fun _ => wpE_m lo (fun _ _ => rd_m fun _ => asI_m fun _ => sliceD_m fun _ => h _ _) hR) hR q
  | .slLU a lo hi, s, P, P', R, R', h, hR, q => wpE_m a (fun _ _ => rd_m fun _ => wpE_m lo (fun _ _ => rd_m fun _ => asI_m fun _ => wpE_m hi (fun _ _ => rd_m fun _ => asI_m fun _ => sliceD_m fun _ => h _ _) hR) hR) hR q
  | .slR a, s, P, P', R, R', h, hR, q => wpE_m a (fun _ _ => rd_m fun d q => by cases d <;> first | exact h _ _ q | exact q) hR q
  | .sl2 a, s, P, P', R, R', h, hR, q => wpE_m a (fun _ _ => rd_m fun d q => by cases d <;> first | exact h _ _ q | exact q) hR q
  | .sl12 a, s, P, P', R, R', h, hR, q => wpE_m a (fun _ _ => rd_m fun d q => by cases d <;> first | exact h _ _ q | exact q) hR q
  | .call f es, s, P, P', R, R', h, hR, q => callG_m (fun ms C e => wpM_m es (fun _ _ => callD_m (hG _ _ _ e) h hR) hR) q
  | .bi b es, s, P, P', R, R', h, hR, q => wpV_m es (fun _ _ => biD_m fun _ => h _ _) hR q
  | .isi e ty, s, P, P', R, R', h, hR, q => wpE_m e (fun _ _ => rd_m fun _ => isiD_m fun _ => h _ _) hR q
  | .get d k x, s, P, P', R, R', h, hR, q => wpE_m d (fun _ _ => rd_m fun _ q => ⟨q.1, wpE_m k (fun _ _ => rd_m fun _ => wpE_m x (fun _ _ => rd_m fun _ => getD_m fun _ => h _ _) hR) hR q.2⟩) hR q
  | .getE d k, s, P, P', R, R', h, hR, q => wpE_m d (fun _ _ => rd_m fun _ q => ⟨q.1, wpE_m k (fun _ _ => rd_m fun _ => getD_m fun _ => h _ _) hR q.2⟩) hR q
  | .geto i k x, s, P, P', R, R', h, hR, q => ⟨q.1, wpE_m k (fun _ _ => rd_m fun _ => wpE_m x (fun _ _ => rd_m fun _ => atO_m fun _ => getD_m fun _ => h _ _) hR) hR q.2⟩
  | .cmpo op i b, s, P, P', R, R', h, hR, q => ⟨q.1, wpE_m b (fun _ _ => rd_m fun _ => atV_m fun _ => cmpD_m fun _ => h _ _) hR q.2⟩
  | .ino neg k i, s, P, P', R, R', h, hR, q => wpE_m k (fun _ _ => rd_m fun _ => atO_m fun _ => inD_m fun _ => h _ _) hR q
  | .nemp e, s, P, P', R, R', h, hR, q => wpE_m e (fun _ _ => rd_m fun _ => empD_m fun _ => h _ _) hR q
  | .leno i, s, P, P', R, R', h, hR, q => atO_m (fun _ => lenD_m fun _ => h _ _) q
  | .dNew t, s, P, P', R, R', h, hR, q => h _ _ q
  | .dOne t k v, s, P, P', R, R', h, hR, q => wpE_m k (fun _ _ => rd_m fun _ => wpE_m v (fun _ _ => rd_m fun _ q => by
      cases t
      · exact asI_m (fun _ => h _ _) q
      · exact ⟨q.1, h _ _ q.2⟩) hR) hR q
  | .frz e, s, P, P', R, R', h, hR, q => wpE_m e (fun _ r q => by cases r <;> exact h _ _ q) hR q
  | .comp elt own tg it c, s, P, P', R, R', h, hR, q => wpI_m it (fun _ _ q => ⟨q.1, compE_m (fun x s k k' hk => asgTg_m fun _ => wpE_m c (fun _ _ => rd_m fun _ => asB_m fun _ => iteB_m (wpE_m elt (fun _ _ => rd_m fun _ => hk _ _) fun _ z => z) (hk _ _)) fun _ z => z) h q.2⟩) hR q
  | .comp2 elt own tg it vs2 tg2 it2, s, P, P', R, R', h, hR, q => wpI_m it (fun _ _ => compE2_m (fun x s a k k' hk => asgTg_m fun _ => wpI_m it2 (fun _ _ q => by
      refine compB_m (fun y s a k k' hk q => ?_) hk q
      refine asgTg_m (fun _ q => ?_) q
      refine wpE_m elt (fun _ _ q => ?_) (fun _ z => z) q
      exact rd_m (fun _ q => ⟨q.1, hk _ _ q.2⟩) q) fun _ z => z) h) hR q
  | .callI fs ix es, s, P, P', R, R', h, hR, q => wpE_m ix (fun _ _ => rd_m fun _ => asI_m fun i q => by
      split at q
      · exact callG_m (fun ms C e => wpM_m es (fun _ _ => callD_m (hG _ _ _ e) h hR) hR) q
      · exact q.elim) hR q
theorem wpV_m : ∀ (es : Es) {s : DSt} {P P' : DSt → List D → Prop} {R R' : Str → Prop}, (∀ s r, P s r → P' s r) → (∀ c, R c → R' c) → wpV G es s P R → wpV G es s P' R'
  | .nil, s, P, P', R, R', h, hR, q => h _ _ q
  | .cons e r, s, P, P', R, R', h, hR, q => wpE_m e (fun _ _ => rd_m fun _ => wpV_m r (fun _ _ => h _ _) hR) hR q
theorem wpM_m : ∀ (es : Es) {ms : List Md} {s : DSt} {P P' : DSt → List CA → Prop} {R R' : Str → Prop}, (∀ s r, P s r → P' s r) → (∀ c, R c → R' c) → wpM G ms es s P R → wpM G ms es s P' R'
  | .nil, ms, s, P, P', R, R', h, hR, q => by
    cases ms <;> exact ⟨q.1, h _ _ q.2⟩
  | .cons e r, ms, s, P, P', R, R', h, hR, q => by
    cases ms with
    | nil => exact q
    | cons m ms =>
      cases m with
      | val => exact wpE_m e (fun _ _ => rd_m fun _ => wpM_m r (fun _ _ => h _ _) hR) hR q
      | mv => exact wpE_m e (fun _ r1 q => by
          cases r1 with
          | v d => exact q
          | o c => cases c <;> first | exact wpM_m r (fun _ _ => h _ _) hR q | exact q) hR q
      | io => cases e <;> first | exact ⟨q.1, wpM_m r (fun _ _ => h _ _) hR q.2⟩ | exact q
theorem wpP_m : ∀ (es : Es) {s : DSt} {P P' : DSt → List Rs → Prop} {R R' : Str → Prop}, (∀ s r, P s r → P' s r) → (∀ c, R c → R' c) → wpP G es s P R → wpP G es s P' R'
  | .nil, s, P, P', R, R', h, hR, q => h _ _ q
  | .cons e r, s, P, P', R, R', h, hR, q => wpE_m e (fun _ _ => wpP_m r (fun _ _ => h _ _) hR) hR q
theorem wpI_m : ∀ (it : DL.It) {s : DSt} {P P' : DSt → List D → Prop} {R R' : Str → Prop}, (∀ s r, P s r → P' s r) → (∀ c, R c → R' c) → wpI G it s P R → wpI G it s P' R'
  | .seq e, s, P, P', R, R', h, hR, q => wpE_m e (fun _ _ => rd_m fun _ => seqD_m fun _ => h _ _) hR q
  | .rng1 e, s, P, P', R, R', h, hR, q => wpE_m e (fun _ _ => rd_m fun _ => asI_m fun _ q => ⟨q.1, h _ _ q.2⟩) hR q
  | .rng2 a b, s, P, P', R, R', h, hR, q => wpE_m a (fun _ _ => rd_m fun _ => wpE_m b (fun _ _ => rd_m fun _ => asI_m fun _ => asI_m fun _ q => ⟨q.1, h _ _ q.2⟩) hR) hR q
  | .rngD a b, s, P, P', R, R', h, hR, q => wpE_m a (fun _ _ => rd_m fun _ => wpE_m b (fun _ _ => rd_m fun _ => asI_m fun _ => asI_m fun _ q => ⟨q.1, h _ _ q.2⟩) hR) hR q
  | .enum e, s, P, P', R, R', h, hR, q => wpE_m e (fun _ _ => rd_m fun d q => by cases d <;> first | exact h _ _ q | exact q) hR q
  | .zip a b, s, P, P', R, R', h, hR, q => wpE_m a (fun _ _ => rd_m fun d1 => wpE_m b (fun _ _ => rd_m fun d2 q => by cases d1 <;> cases d2 <;> first | exact h _ _ q | exact q) hR) hR q
end
mutual
theorem wpS_m : ∀ (t : S) {s : DSt} {k k' : Ks}, KsM k k' → wpS G t s k → wpS G t s k'
  | .asg i e, s, k, k', h, q => wpE_m hG e (fun _ _ => setRs_m h.nx) h.xx q
  | .asgT is e, s, k, k', h, q => wpE_m hG e (fun _ _ => rd_m fun d q => by cases d <;> first | exact setAll_m h.nx q | exact q) h.xx q
  | .par is es, s, k, k', h, q => wpP_m hG es (fun _ _ => parRs_m h.nx) h.xx q
  | .setIx i ke v, s, k, k', h, q => wpE_m hG v (fun _ _ => rd_m fun _ q => ⟨q.1, wpE_m hG ke (fun _ _ => rd_m fun _ => setIxD_m h.nx) h.xx q.2⟩) h.xx q
  | .app i e, s, k, k', h, q => ⟨q.1, wpE_m hG e (fun _ _ => rd_m fun _ => appD_m h.nx) h.xx q.2⟩
  | .pop i, s, k, k', h, q => popD_m h.nx q
  | .ite c a b, s, k, k', h, q => wpE_m hG c (fun _ _ => rd_m fun _ => asB_m fun _ => iteB_m (wpSs_m a h) (wpSs_m b h)) h.xx q
  | .for_ tg it body, s, k, k', h, q => wpI_m hG it (fun _ _ => fun q => ⟨forL_m (fun x s k k' hk q => asgTg_m (fun _ => wpSs_m body hk) q) h q.h⟩) h.xx q
  | .while_ c body, s, k, k', h, q => by
    obtain ⟨W, h0, h1⟩ := q
    exact ⟨W, h0, fun m s1 hw => wpE_m hG c (fun _ _ => rd_m fun _ => asB_m fun _ => iteB_m (fun q => by
      refine wpSs_m body ?_ q
      exact ⟨fun _ z => z, h.rt, h.xx, h.nx, fun _ z => z⟩) (h.nx _)) h.xx (h1 m s1 hw)⟩
  | .ret e, s, k, k', h, q => wpE_m hG e h.rt h.xx q
  | .retN, s, k, k', h, q => h.rt _ _ q
  | .ex e, s, k, k', h, q => wpE_m hG e (fun _ _ => h.nx _) h.xx q
  | .raise c, s, k, k', h, q => h.xx _ q
  | .pass, s, k, k', h, q => h.nx _ q
  | .nest _ _ _ _ _, s, k, k', h, q => nestD_m h.nx q
  | .tryN x i body, s, k, k', h, q => by
    rw [wpS, Ks.cas_eq] at q ⊢
    refine ⟨q.1, wpSs_m body ?_ q.2⟩
    exact ⟨fun _ q => ⟨q.1, h.nx _ q.2⟩, fun _ _ q => ⟨q.1, h.rt _ _ q.2⟩, fun c q => ⟨q.1, h.rt _ _ q.2⟩, fun _ q => ⟨q.1, h.bk _ q.2⟩, fun _ q => ⟨q.1, h.ct _ q.2⟩⟩
theorem wpSs_m : ∀ (t : Ss) {s : DSt} {k k' : Ks}, KsM k k' → wpSs G t s k → wpSs G t s k'
  | .nil, s, k, k', h, q => h.nx _ q
  | .cons t r, s, k, k', h, q => by
    rw [wpSs] at q ⊢
    refine wpS_m t ?_ q
    exact ⟨fun _ => wpSs_m r h, h.rt, h.xx, h.bk, h.ct⟩
end
/-- a statement apart: what holds behind it -/
theorem cut1 {t : S} {r : Ss} {s : DSt} {nx : DSt → Prop} {rt : DSt → Rs → Prop} {xx : Str → Prop} {bk ct : DSt → Prop} (J : DSt → Prop) (h : wpS G t s ⟨J, rt, xx, bk, ct⟩) (h2 : ∀ s, J s → wpSs G r s ⟨nx, rt, xx, bk, ct⟩) : wpSs G (.cons t r) s ⟨nx, rt, xx, bk, ct⟩ := by
  rw [wpSs]
  refine wpS_m hG t ?_ h
  exact ⟨h2, fun _ _ z => z, fun _ z => z, fun _ z => z, fun _ z => z⟩
/-- an expression apart: its value -/
theorem cutE {e : E} {s : DSt} {P : DSt → Rs → Prop} {R : Str → Prop} (s' : DSt) (r : Rs) (h : wpE G e s (fun s1 r1 => s1 = s' ∧ r1 = r) R) (h2 : P s' r) : wpE G e s P R :=
  wpE_m hG e (fun s1 r1 z => by rw [z.1, z.2]; exact h2) (fun _ z => z) h
end
end DL

namespace DL
open PySem L2
def n_is_integer : List Str := ["value", "low", "high"]
def t_is_integer : Ss := (.cons (.ret (.and (.isi (.var 0) "int") (.and (.not (.isi (.var 0) "bool")) (.chain .le .le (.var 1) (.var 0) (.var 2))))) .nil)
def n_is_table : List Str := ["value"]
def t_is_table : Ss := (.cons (.ite (.or (.not (.isi (.var 0) "tuple")) (.cmp .ne (.bi .len (.cons (.var 0) .nil)) (.int 2))) (.cons (.ret (.bl false)) .nil) (.nil)) (.cons (.ret (.and (.call "is_integer" (.cons (.idx (.var 0) (.int 0)) (.cons (.int 1) (.cons (.cst "MAX_REDS" (15)) .nil)))) (.call "is_integer" (.cons (.idx (.var 0) (.int 1)) (.cons (.cst "MIN_TOP" (3)) (.cons (.cst "MAX_TOP" (9)) .nil)))))) .nil))
def n_is_state_of : List Str := ["table", "value"]
def t_is_state_of : Ss := (.cons (.ite (.or (.not (.isi (.var 1) "tuple")) (.or (.cmp .ne (.bi .len (.cons (.var 1) .nil)) (.int 2)) (.not (.call "is_integer" (.cons (.idx (.var 1) (.int 0)) (.cons (.int 0) (.cons (.idx (.var 0) (.int 0)) .nil))))))) (.cons (.ret (.bl false)) .nil) (.nil)) (.cons (.ret (.and (.call "is_integer" (.cons (.idx (.var 1) (.int 1)) (.cons (.int 2) (.cons (.bin .add (.idx (.var 0) (.int 1)) (.int 1)) .nil)))) (.or (.cmp .eq (.idx (.var 1) (.int 0)) (.int 0)) (.cmp .eq (.idx (.var 1) (.int 1)) (.int 2))))) .nil))
def n_is_book : List Str := ["value", "points"]
def t_is_book : Ss := (.cons (.ite (.or (.not (.isi (.var 0) "tuple")) (.cmp .gt (.bi .len (.cons (.var 0) .nil)) (.cst "MAX_VISITS" (40)))) (.cons (.ret (.bl false)) .nil) (.nil)) (.cons (.ret (.bi .all (.cons (.comp (.call "is_integer" (.cons (.var 1) (.cons (.int 0) (.cons (.cst "MAX_POINTS" (300)) .nil)))) [("points", 1)] (.one 1) (.seq (.var 0)) (.bl true)) .nil))) .nil))
def n_require_table : List Str := ["value"]
def t_require_table : Ss := (.cons (.ite (.not (.call "is_table" (.cons (.var 0) .nil))) (.cons (.raise "InvalidTable") .nil) (.nil)) .nil)
def n_require_book : List Str := ["value"]
def t_require_book : Ss := (.cons (.ite (.not (.call "is_book" (.cons (.var 0) .nil))) (.cons (.raise "InvalidBook") .nil) (.nil)) .nil)
def n_require_points : List Str := ["value", "most"]
def t_require_points : Ss := (.cons (.ite (.not (.call "is_integer" (.cons (.var 0) (.cons (.int 0) (.cons (.var 1) .nil))))) (.cons (.raise "InvalidPoints") .nil) (.nil)) .nil)
def n_colour_sum : List Str := ["low", "many"]
def t_colour_sum : Ss := (.cons (.ret (.bin .add (.bin .mul (.var 1) (.var 0)) (.bin .fdiv (.bin .mul (.var 1) (.bin .sub (.var 1) (.int 1))) (.int 2)))) .nil)
def n_comes : List Str := ["top", "many", "points"]
def t_comes : Ss := (.cons (.ite (.cmp .eq (.var 1) (.int 0)) (.cons (.ret (.cmp .eq (.var 2) (.int 0))) .nil) (.nil)) (.cons (.ret (.or (.chain .le .le (.bin .sub (.bin .mul (.int 3) (.var 1)) (.int 2)) (.var 2) (.bin .add (.var 1) (.bin .mul (.var 0) (.bin .sub (.var 1) (.int 1))))) (.chain .le .le (.bin .mul (.int 3) (.var 1)) (.var 2) (.bin .mul (.bin .add (.var 0) (.int 1)) (.var 1))))) .nil))
def n_next_of : List Str := ["table", "state", "points", "top", "left", "low", "many", "found", "rows", "rest"]
def t_next_of : Ss := (.cons (.asgT [3, 4, 5] (.tup (.cons (.idx (.var 0) (.int 1)) (.cons (.idx (.var 1) (.int 0)) (.cons (.idx (.var 1) (.int 1)) .nil))))) (.cons (.ite (.cmp .gt (.var 5) (.var 3)) (.cons (.ret (.lst (.nil))) .nil) (.nil)) (.cons (.ite (.cmp .eq (.var 4) (.int 0)) (.cons (.ret (.comp (.tup (.cons (.int 0) (.cons (.bin .add (.var 5) (.var 6)) .nil))) [("many", 6)] (.one 6) (.rng1 (.bin .add (.bin .sub (.var 3) (.var 5)) (.int 2))) (.cmp .eq (.call "colour_sum" (.cons (.var 5) (.cons (.var 6) .nil))) (.var 2)))) .nil) (.nil)) (.cons (.asg 7 (.comp (.tup (.cons (.bin .sub (.var 4) (.var 6)) (.cons (.int 2) .nil))) [("many", 6)] (.one 6) (.rng1 (.var 4)) (.call "comes" (.cons (.var 3) (.cons (.var 6) (.cons (.var 2) .nil)))))) (.cons (.ite (.chain .le .le (.bin .sub (.bin .mul (.int 3) (.var 4)) (.int 2)) (.var 2) (.bin .add (.var 4) (.bin .mul (.var 3) (.bin .sub (.var 4) (.int 1))))) (.cons (.asg 7 (.bin .add (.var 7) (.lst (.cons (.tup (.cons (.int 0) (.cons (.int 2) .nil))) .nil)))) .nil) (.nil)) (.cons (.asg 8 (.comp (.tup (.cons (.var 6) (.cons (.bin .sub (.var 2) (.call "colour_sum" (.cons (.int 2) (.cons (.var 6) .nil)))) .nil))) [("many", 6)] (.one 6) (.rng1 (.var 3)) (.bl true))) (.cons (.asg 7 (.bin .add (.var 7) (.comp (.tup (.cons (.int 0) (.cons (.bin .add (.int 2) (.var 6)) .nil))) [("many", 6), ("rest", 9)] (.many [6, 9]) (.seq (.var 8)) (.chain .le .le (.bin .mul (.int 3) (.var 4)) (.var 9) (.bin .mul (.bin .add (.var 3) (.int 1)) (.var 4)))))) (.cons (.ret (.bi .sset (.cons (.var 7) .nil))) .nil))))))))
def n_require_state : List Str := ["table", "value"]
def t_require_state : Ss := (.cons (.ite (.not (.call "is_state_of" (.cons (.var 0) (.cons (.var 1) .nil)))) (.cons (.raise "InvalidState") .nil) (.nil)) .nil)
def n_next_states : List Str := ["table", "state", "points"]
def t_next_states : Ss := (.cons (.ex (.call "require_table" (.cons (.var 0) .nil))) (.cons (.ex (.call "require_state" (.cons (.var 0) (.cons (.var 1) .nil)))) (.cons (.ex (.call "require_points" (.cons (.var 2) (.cons (.cst "MAX_POINTS" (300)) .nil)))) (.cons (.ret (.call "next_of" (.cons (.var 0) (.cons (.var 1) (.cons (.var 2) .nil))))) .nil))))
def n_states_from : List Str := ["table", "states", "book", "points", "state", "other"]
def t_states_from : Ss := (.cons (.for_ (.one 3) (.seq (.var 2)) (.cons (.asg 1 (.bi .sset (.cons (.comp2 (.var 5) [("state", 4), ("other", 5)] (.one 4) (.seq (.var 1)) [5] (.one 5) (.seq (.call "next_of" (.cons (.var 0) (.cons (.var 4) (.cons (.var 3) .nil)))))) .nil))) .nil)) (.cons (.ret (.mv 1)) .nil))
def n_states_of : List Str := ["table", "book"]
def t_states_of : Ss := (.cons (.ret (.call "states_from" (.cons (.var 0) (.cons (.lst (.cons (.tup (.cons (.idx (.var 0) (.int 0)) (.cons (.int 2) .nil))) .nil)) (.cons (.var 1) .nil))))) .nil)
def n_states_after : List Str := ["table", "book"]
def t_states_after : Ss := (.cons (.ex (.call "require_table" (.cons (.var 0) .nil))) (.cons (.ex (.call "require_book" (.cons (.var 1) .nil))) (.cons (.ret (.call "states_of" (.cons (.var 0) (.cons (.var 1) .nil)))) .nil)))
def n_fits : List Str := ["table", "book"]
def t_fits : Ss := (.cons (.ex (.call "require_table" (.cons (.var 0) .nil))) (.cons (.ex (.call "require_book" (.cons (.var 1) .nil))) (.cons (.ret (.cmp .ne (.call "states_of" (.cons (.var 0) (.cons (.var 1) .nil))) (.lst (.nil)))) .nil)))
def n_law_source : List Str := ["script", "k", "cell", "primes", "seed"]
def t_law_source : Ss := (.cons (.asg 2 (.int 0)) (.cons (.ite (.cmp .lt (.var 1) (.bi .len (.cons (.var 0) .nil))) (.cons (.asg 2 (.idx (.var 0) (.var 1))) .nil) (.nil)) (.cons (.asg 3 (.lst (.cons (.int 2147483647) (.cons (.int 2147483629) (.cons (.int 2147483587) (.cons (.int 2147483579) (.cons (.int 2147483563) (.cons (.int 2147483549) (.cons (.int 2147483543) (.cons (.int 2147483497) .nil)))))))))) (.cons (.asg 4 (.bin .mod (.bin .mul (.bin .add (.bin .mod (.var 2) (.int 2147483489)) (.int 1)) (.bin .add (.int 48271) (.bin .mul (.int 2) (.var 1)))) (.int 2147483489))) (.cons (.asg 4 (.bin .add (.bin .add (.bin .mod (.bin .mul (.var 4) (.var 4)) (.int 2147483477)) (.var 1)) (.int 1))) (.cons (.ite (.cmp .ge (.var 2) (.bin .pow (.int 10) (.int 18))) (.cons (.ret (.lst (.cons (.var 2) (.cons (.var 4) (.cons (.idx (.var 3) (.bin .mod (.var 1) (.int 8))) .nil))))) .nil) (.nil)) (.cons (.ret (.lst (.cons (.int 0) (.cons (.var 4) (.cons (.idx (.var 3) (.bin .mod (.var 1) (.int 8))) .nil))))) .nil)))))))
def n_law_pick : List Str := ["source", "size", "drawn"]
def t_law_pick : Ss := (.cons (.ite (.cmp .gt (.ixo 0 (.int 0)) (.int 0)) (.cons (.asg 2 (.bin .mod (.ixo 0 (.int 0)) (.var 1))) (.cons (.setIx 0 (.int 0) (.bin .fdiv (.ixo 0 (.int 0)) (.var 1))) (.cons (.ret (.mv 2)) .nil))) (.nil)) (.cons (.setIx 0 (.int 1) (.bin .add (.bin .mod (.bin .mul (.ixo 0 (.int 1)) (.int 48271)) (.ixo 0 (.int 2))) (.int 1))) (.cons (.ret (.bin .mod (.bin .fdiv (.bin .mod (.bin .mul (.ixo 0 (.int 1)) (.ixo 0 (.int 1))) (.int 2147483423)) (.int 7)) (.var 1))) .nil)))
def n_law_table : List Str := ["source", "most"]
def t_law_table : Ss := (.cons (.ret (.tup (.cons (.bin .add (.int 1) (.call "_law_pick" (.cons (.io 0) (.cons (.var 1) .nil)))) (.cons (.bin .add (.int 3) (.call "_law_pick" (.cons (.io 0) (.cons (.int 7) .nil)))) .nil)))) .nil)
def n_require_top : List Str := ["value"]
def t_require_top : Ss := (.cons (.ite (.not (.call "is_integer" (.cons (.var 0) (.cons (.cst "MIN_TOP" (3)) (.cons (.cst "MAX_TOP" (9)) .nil))))) (.cons (.raise "InvalidTop") .nil) (.nil)) .nil)
def n_red_range : List Str := ["top", "points"]
def t_red_range : Ss := (.cons (.ex (.call "require_top" (.cons (.var 0) .nil))) (.cons (.ex (.call "require_points" (.cons (.var 1) (.cons (.cst "FAR" (1000000000000)) .nil)))) (.cons (.ite (.cmp .eq (.var 1) (.int 2)) (.cons (.ret (.non)) .nil) (.nil)) (.cons (.ret (.tup (.cons (.neg (.bin .fdiv (.neg (.var 1)) (.bin .add (.var 0) (.int 1)))) (.cons (.bin .fdiv (.bin .add (.var 1) (.int 2)) (.int 3)) .nil)))) .nil))))
def n_reds_left : List Str := ["table", "book", "states"]
def t_reds_left : Ss := (.cons (.ex (.call "require_table" (.cons (.var 0) .nil))) (.cons (.ex (.call "require_book" (.cons (.var 1) .nil))) (.cons (.asg 2 (.call "states_of" (.cons (.var 0) (.cons (.var 1) .nil)))) (.cons (.ret (.ite (.cmp .ne (.var 2) (.lst (.nil))) (.tup (.cons (.idx (.idx (.var 2) (.int 0)) (.int 0)) (.cons (.idx (.idx (.var 2) (.neg (.int 1))) (.int 0)) .nil))) (.non))) .nil))))
end DL

set_option maxHeartbeats 1000000
namespace DL
open PySem L2
local macro_rules | `(tactic| wtm_at "run") => `(tactic| conv => whnf)
local macro_rules | `(tactic| wtm_at "sz") => `(tactic| (rw [line_eq]; simp only [List.length_cons, List.length_nil, List.length_map, List.length_append, rg_length, rngD_rg]; omega))
local macro_rules | `(tactic| wtm_at "go") => `(tactic| ((conv => whnf); repeat (first
  | ((with_reducible refine eq_int ?_); conv => whnf) | ((with_reducible refine ne_int ?_); conv => whnf)
  | ((with_reducible refine lt_int ?_); conv => whnf) | ((with_reducible refine le_int ?_); conv => whnf) | ((with_reducible refine gt_int ?_); conv => whnf) | ((with_reducible refine ge_int ?_); conv => whnf)
  | ((with_reducible refine idx_0 ?_); conv => whnf) | ((with_reducible refine idx_1 ?_); conv => whnf)
  | ((with_reducible refine iteB_T ?_); conv => whnf) | ((with_reducible refine iteB_F ?_); conv => whnf) | ((with_reducible refine iteB_nT ?_); conv => whnf) | ((with_reducible refine iteB_nF ?_); conv => whnf)
  | ((with_reducible refine iteB_n0 ?_); conv => whnf) | ((with_reducible refine iteB_n1 ?_); conv => whnf) | ((with_reducible refine iteB_n2 ?_); conv => whnf) | ((with_reducible refine iteB_n3 ?_); conv => whnf) | ((with_reducible refine iteB_n4 ?_); conv => whnf) | ((with_reducible refine iteB_n5 ?_); conv => whnf)
  | ((with_reducible refine seq_lst ?_); conv => whnf) | ((with_reducible refine seq_tup ?_); conv => whnf)
  | ((with_reducible refine eq_pairs ?_); conv => whnf) | ((with_reducible refine ne_pairs ?_); conv => whnf) | ((with_reducible refine eq_pairs0 ?_); conv => whnf) | ((with_reducible refine ne_pairs0 ?_); conv => whnf)
  | ((with_reducible refine eq_ints ?_); conv => whnf) | ((with_reducible refine ne_ints ?_); conv => whnf) | ((with_reducible refine eq_ints0 ?_); conv => whnf) | ((with_reducible refine ne_ints0 ?_); conv => whnf)
  | ((with_reducible refine eq_tints ?_); conv => whnf) | ((with_reducible refine ne_tints ?_); conv => whnf) | ((with_reducible refine eq_tints0 ?_); conv => whnf) | ((with_reducible refine ne_tints0 ?_); conv => whnf)
  | ((with_reducible refine eq_pair ?_); conv => whnf) | ((with_reducible refine ne_pair ?_); conv => whnf)
  | ((with_reducible refine is_non ?_); conv => whnf) | ((with_reducible refine isnot_non ?_); conv => whnf) | ((with_reducible refine is_bl ?_); conv => whnf) | ((with_reducible refine isnot_bl ?_); conv => whnf)
  | ((with_reducible refine in_pairs ?_); conv => whnf) | ((with_reducible refine notIn_pairs ?_); conv => whnf)
  | ((with_reducible refine slice_l ?_); conv => whnf) | ((with_reducible refine slice_t ?_); conv => whnf)
  | ((with_reducible apply callG_i); (with_reducible assumption); rfl; conv => whnf)
  | (refine callD_v (by rfl) (by rfl) ?_)
  | ((with_reducible refine And.intro rfl ?_); conv => whnf)
  | ((with_reducible refine And.intro (pos_i (by omega)) ?_); conv => whnf)
  | ((with_reducible apply hasD_and); rfl; conv => whnf)
  | ((with_reducible refine And.intro (ownL_i rfl) ?_); conv => whnf)
  | ((with_reducible refine idx_l0 ?_); conv => whnf) | ((with_reducible refine idx_l1 ?_); conv => whnf) | ((with_reducible refine idx_l2 ?_); conv => whnf)
  | ((with_reducible refine And.intro (mul_l (by omega)) ?_); conv => whnf)
  | ((with_reducible refine And.intro (mul_r (by omega)) ?_); conv => whnf)
  | ((with_reducible refine And.intro (div_ok (by omega)) ?_); conv => whnf)
  | ((with_reducible refine And.intro (rng_ok (by ((try simp only [List.length_map]); omega))) ?_); conv => whnf)
  | ((with_reducible refine And.intro (line_le (by ((try simp only [List.length_cons, List.length_nil, List.length_map, List.length_append, rg_length, rngD_rg]); omega))) ?_); conv => whnf)
  | ((with_reducible apply idx_at); rfl; conv => whnf)
  )))
local macro_rules | `(tactic| wtm_at "mono") => `(tactic| (intro ds K K' R R' h hR q; (repeat (first | (refine Exists.imp (fun _ q => ?_) q; rename_i q) | (refine And.imp_right (fun q => ?_) q; rename_i q))); first | exact h _ _ q | exact ite_m (fun z => h _ _ z) (fun z => hR _ z) q | (intros; refine h _ _ (q _ _ _ ?_ ?_ ?_) <;> assumption) | (intros; refine h _ _ (q _ _ _ ?_) <;> assumption) | (intros; refine h _ _ (q _ _ _ _ ?_ ?_ ?_ ?_ ?_) <;> assumption)))
abbrev v3 : List Md := [.val, .val, .val]
abbrev v2 : List Md := [.val, .val]
abbrev v1 : List Md := [.val]
abbrev GMono (G : Gam) : Prop := ∀ f ms C, G f = some (ms, C) → CMono C
abbrev tabD (reds top : Int) : D := .tup [.int reds, .int top]
@[irreducible] def c_colour_sum : Ctr := fun ds K _ => ∃ low many, ds = [.int low, .int many] ∧ (0 ≤ many ∧ many ≤ 1000) ∧ K (.v (.int (colS low many))) []
theorem i_colour_sum {low many : Int} {K : Rs → List D → Prop} {R : Str → Prop} (ho : 0 ≤ many ∧ many ≤ 1000) (hk : K (.v (.int (colS low many))) []) : c_colour_sum [.int low, .int many] K R := by
  rw [c_colour_sum]; exact ⟨low, many, rfl, ho, hk⟩
theorem w_colour_sum (G : Gam) : Does G v2 t_colour_sum 2 c_colour_sum := by
  intro ds K R h
  rw [c_colour_sum] at h
  obtain ⟨low, many, rfl, ho, hk⟩ := h
  wtm_at "go"
  exact hk
@[irreducible] def c_comes : Ctr := fun ds K _ => ∃ top many points, ds = [.int top, .int many, .int points] ∧ (0 ≤ many ∧ many ≤ 1000) ∧ K (.v (.bl (comesB top many points))) []
theorem i_comes {top many points : Int} {K : Rs → List D → Prop} {R : Str → Prop} (ho : 0 ≤ many ∧ many ≤ 1000) (hk : K (.v (.bl (comesB top many points))) []) : c_comes [.int top, .int many, .int points] K R := by
  rw [c_comes]; exact ⟨top, many, points, rfl, ho, hk⟩
theorem w_comes (G : Gam) : Does G v3 t_comes 3 c_comes := by
  intro ds K R h
  rw [c_comes] at h
  obtain ⟨top, many, points, rfl, ho, hk⟩ := h
  unfold comesB at hk
  wtm_at "go"
  refine iteB_d (fun c => ?_) fun c => ?_
  · wtm_at "go"
    simpa [c] using hk
  · have m1 : mulOk 3 many := mul_l (by omega)
    rw [if_neg c] at hk
    wtm_at "go"
    refine iteB_d (fun c1 => ?_) fun c1 => ?_
    · wtm_at "go"
      refine iteB_d (fun c2 => ?_) fun c2 => ?_
      · wtm_at "go"
        simpa [c1, c2] using hk
      · wtm_at "go"
        refine iteB_d (fun c3 => ?_) fun c3 => ?_
        · wtm_at "go"
          simpa [c1, c2, c3] using hk
        · wtm_at "go"
          simpa [c1, c2, c3] using hk
    · wtm_at "go"
      refine iteB_d (fun c3 => ?_) fun c3 => ?_
      · wtm_at "go"
        simpa [c1, c3] using hk
      · wtm_at "go"
        simpa [c1, c3] using hk
@[irreducible] def c_next_of : Ctr := fun ds K _ => ∃ reds top left low points, ds = [tabD reds top, tabD left low, .int points] ∧ (0 ≤ left ∧ left ≤ 15 ∧ 2 ≤ low ∧ 3 ≤ top ∧ top ≤ 9) ∧ K (.o (.l ((nextL top left low points).map pD))) []
theorem i_next_of {reds top left low points : Int} {K : Rs → List D → Prop} {R : Str → Prop} (ho : 0 ≤ left ∧ left ≤ 15 ∧ 2 ≤ low ∧ 3 ≤ top ∧ top ≤ 9) (hk : K (.o (.l ((nextL top left low points).map pD))) []) : c_next_of [tabD reds top, tabD left low, .int points] K R := by
  rw [c_next_of]; exact ⟨reds, top, left, low, points, rfl, ho, hk⟩
/-- the three parts of the list -/
def nL3 (top left points : Int) : List (Int × Int) := (rg 0 left).filterMap (nA top left points) ++ nB top left points ++ (rg 0 top).filterMap (nC top left points)
theorem nL3_few {top left points : Int} (ho : 0 ≤ left ∧ left ≤ 15 ∧ 3 ≤ top ∧ top ≤ 9) : (uniq (nL3 top left points)).length < 63 := by
  have h : ∀ x ∈ uniq (nL3 top left points), St left top x := fun x hx => by
    rw [mem_uniq] at hx
    simp only [nL3, List.mem_append, List.mem_filterMap, mem_rg, nA, nB, nC] at hx
    rcases hx with (⟨m, h1, h2⟩ | h2) | ⟨m, h1, h2⟩
    · split at h2
      · simp only [Option.some.injEq] at h2
        subst h2
        refine ⟨?_, ?_, ?_, ?_, ?_⟩ <;> dsimp only <;> omega
      · cases h2
    · split at h2
      · rename_i h3
        rw [List.mem_singleton] at h2
        subst h2
        refine ⟨?_, ?_, ?_, ?_, ?_⟩ <;> dsimp only <;> omega
      · cases h2
    · split at h2
      · simp only [Option.some.injEq] at h2
        subst h2
        refine ⟨?_, ?_, ?_, ?_, ?_⟩ <;> dsimp only <;> omega
      · cases h2
  have := few nodup_uniq h
  omega
theorem w_next_of (G : Gam) (hG : GMono G) (h1 : G "colour_sum" = some ([.val, .val], c_colour_sum)) (h2 : G "comes" = some (v3, c_comes)) : Does G v3 t_next_of 10 c_next_of := by
  intro ds K R h
  rw [c_next_of] at h
  obtain ⟨reds, top, left, low, points, rfl, ho, hk⟩ := h
  wtm_at "go"
  unfold nextL at hk
  refine iteB_d (fun c => ?_) fun c => ?_
  · wtm_at "go"
    rw [if_pos c] at hk
    exact hk
  rw [if_neg c] at hk
  wtm_at "go"
  refine iteB_d (fun c0 => ?_) fun c0 => ?_
  · subst c0
    rw [if_pos rfl] at hk
    wtm_at "go"
    rw [rngD_rg]
    refine compE_ok (rg 0 (top - low + 2)) iD (fun m => (n0 low points m).map pD) (fun m hm k' hk' => ?_) ?_
    · rw [mem_rg] at hm
      wtm_at "go"
      refine i_colour_sum ?_ ?_
      · omega
      wtm_at "go"
      refine iteB_d (fun c1 => ?_) fun c1 => ?_
      · wtm_at "go"
        rw [n0, if_pos c1] at hk'
        exact hk' _ rfl
      · wtm_at "run"
        rw [n0, if_neg c1] at hk'
        exact hk' _ rfl
    · rw [fm_opt]
      exact hk
  rw [if_neg c0] at hk
  wtm_at "go"
  rw [rngD_rg]
  refine compE_ok (rg 0 left) iD (fun m => (nA top left points m).map pD) (fun m hm k' hk' => ?_) ?_
  · rw [mem_rg] at hm
    wtm_at "go"
    refine i_comes ?_ ?_
    · omega
    wtm_at "go"
    refine iteB_i (fun c1 => ?_) fun c1 => ?_
    · wtm_at "go"
      rw [nA, if_pos c1] at hk'
      exact hk' _ rfl
    · wtm_at "run"
      rw [nA, if_neg (by rw [c1]; exact Bool.false_ne_true)] at hk'
      exact hk' _ rfl
  rw [fm_opt]
  -- the states behind
  refine cut1 hG (fun s => s = [some (.val (tabD reds top)), some (.val (tabD left low)), some (.val (.int points)), some (.val (.int top)), some (.val (.int left)), some (.val (.int low)), none, some (.own (.l (((rg 0 left).filterMap (nA top left points) ++ nB top left points).map pD))), none, none]) ?_ ?_
  · wtm_at "go"
    refine iteB_d (fun c1 => ?_) fun c1 => ?_
    · wtm_at "go"
      refine iteB_d (fun c2 => ?_) fun c2 => ?_
      · wtm_at "go"
        refine And.intro (line_le ?_) ?_
        · have h1 := List.length_filterMap_le (nA top left points) (rg 0 left)
          rw [rg_length] at h1
          simp only [List.length_map, List.length_cons, List.length_nil]
          omega
        wtm_at "go"
        show _ = _
        rw [nB, if_pos ⟨c1, c2⟩, List.map_append]
        rfl
      · wtm_at "go"
        rw [nB, if_neg fun z => c2 z.2, List.append_nil]
        rfl
    · wtm_at "go"
      rw [nB, if_neg fun z => c1 z.1, List.append_nil]
      rfl
  rintro s rfl
  wtm_at "go"
  rw [rngD_rg]
  refine compE_map (rg 0 top) iD (fun m => pD (m, points - colS 2 m)) (fun m hm k' hk' => ?_) ?_
  · rw [mem_rg] at hm
    wtm_at "go"
    refine i_colour_sum ?_ ?_
    · omega
    wtm_at "go"
    exact hk' _ rfl
  wtm_at "go"
  refine compE_ok (rg 0 top) (fun m => pD (m, points - colS 2 m)) (fun m => (nC top left points m).map pD) (fun m hm k' hk' => ?_) ?_
  · rw [mem_rg] at hm
    wtm_at "go"
    refine iteB_d (fun c1 => ?_) fun c1 => ?_
    · wtm_at "go"
      refine iteB_d (fun c2 => ?_) fun c2 => ?_
      · wtm_at "go"
        rw [nC, if_pos ⟨c1, c2⟩] at hk'
        exact hk' _ rfl
      · wtm_at "go"
        rw [nC, if_neg fun z => c2 z.2] at hk'
        exact hk' _ rfl
    · wtm_at "go"
      rw [nC, if_neg fun z => c1 z.1] at hk'
      exact hk' _ rfl
  rw [fm_opt]
  wtm_at "go"
  refine And.intro (line_le ?_) ?_
  · have h1 := List.length_filterMap_le (nA top left points) (rg 0 left)
    have h2 := List.length_filterMap_le (nC top left points) (rg 0 top)
    have h3 : (nB top left points).length ≤ 1 := by unfold nB; split <;> simp
    rw [rg_length] at h1 h2
    simp only [List.length_map, List.length_append]
    omega
  wtm_at "go"
  rw [← List.map_append]
  exact sset_pairs (nL3_few (by omega)) hk
end DL

set_option maxHeartbeats 1000000
namespace DL
open PySem L2
local macro_rules | `(tactic| wtm_at "run") => `(tactic| conv => whnf)
local macro_rules | `(tactic| wtm_at "sz") => `(tactic| (rw [line_eq]; simp only [List.length_cons, List.length_nil, List.length_map, List.length_append, rg_length, rngD_rg]; omega))
local macro_rules | `(tactic| wtm_at "go") => `(tactic| ((conv => whnf); repeat (first
  | ((with_reducible refine eq_int ?_); conv => whnf) | ((with_reducible refine ne_int ?_); conv => whnf)
  | ((with_reducible refine lt_int ?_); conv => whnf) | ((with_reducible refine le_int ?_); conv => whnf) | ((with_reducible refine gt_int ?_); conv => whnf) | ((with_reducible refine ge_int ?_); conv => whnf)
  | ((with_reducible refine idx_0 ?_); conv => whnf) | ((with_reducible refine idx_1 ?_); conv => whnf)
  | ((with_reducible refine iteB_T ?_); conv => whnf) | ((with_reducible refine iteB_F ?_); conv => whnf) | ((with_reducible refine iteB_nT ?_); conv => whnf) | ((with_reducible refine iteB_nF ?_); conv => whnf)
  | ((with_reducible refine iteB_n0 ?_); conv => whnf) | ((with_reducible refine iteB_n1 ?_); conv => whnf) | ((with_reducible refine iteB_n2 ?_); conv => whnf) | ((with_reducible refine iteB_n3 ?_); conv => whnf) | ((with_reducible refine iteB_n4 ?_); conv => whnf) | ((with_reducible refine iteB_n5 ?_); conv => whnf)
  | ((with_reducible refine seq_lst ?_); conv => whnf) | ((with_reducible refine seq_tup ?_); conv => whnf)
  | ((with_reducible refine eq_pairs ?_); conv => whnf) | ((with_reducible refine ne_pairs ?_); conv => whnf) | ((with_reducible refine eq_pairs0 ?_); conv => whnf) | ((with_reducible refine ne_pairs0 ?_); conv => whnf)
  | ((with_reducible refine eq_ints ?_); conv => whnf) | ((with_reducible refine ne_ints ?_); conv => whnf) | ((with_reducible refine eq_ints0 ?_); conv => whnf) | ((with_reducible refine ne_ints0 ?_); conv => whnf)
  | ((with_reducible refine eq_tints ?_); conv => whnf) | ((with_reducible refine ne_tints ?_); conv => whnf) | ((with_reducible refine eq_tints0 ?_); conv => whnf) | ((with_reducible refine ne_tints0 ?_); conv => whnf)
  | ((with_reducible refine eq_pair ?_); conv => whnf) | ((with_reducible refine ne_pair ?_); conv => whnf)
  | ((with_reducible refine is_non ?_); conv => whnf) | ((with_reducible refine isnot_non ?_); conv => whnf) | ((with_reducible refine is_bl ?_); conv => whnf) | ((with_reducible refine isnot_bl ?_); conv => whnf)
  | ((with_reducible refine in_pairs ?_); conv => whnf) | ((with_reducible refine notIn_pairs ?_); conv => whnf)
  | ((with_reducible refine slice_l ?_); conv => whnf) | ((with_reducible refine slice_t ?_); conv => whnf)
  | ((with_reducible apply callG_i); (with_reducible assumption); rfl; conv => whnf)
  | (refine callD_v (by rfl) (by rfl) ?_)
  | ((with_reducible refine And.intro rfl ?_); conv => whnf)
  | ((with_reducible refine And.intro (pos_i (by omega)) ?_); conv => whnf)
  | ((with_reducible apply hasD_and); rfl; conv => whnf)
  | ((with_reducible refine And.intro (ownL_i rfl) ?_); conv => whnf)
  | ((with_reducible refine idx_l0 ?_); conv => whnf) | ((with_reducible refine idx_l1 ?_); conv => whnf) | ((with_reducible refine idx_l2 ?_); conv => whnf)
  | ((with_reducible refine And.intro (mul_l (by omega)) ?_); conv => whnf)
  | ((with_reducible refine And.intro (mul_r (by omega)) ?_); conv => whnf)
  | ((with_reducible refine And.intro (div_ok (by omega)) ?_); conv => whnf)
  | ((with_reducible refine And.intro (rng_ok (by ((try simp only [List.length_map]); omega))) ?_); conv => whnf)
  | ((with_reducible refine And.intro (line_le (by ((try simp only [List.length_cons, List.length_nil, List.length_map, List.length_append, rg_length, rngD_rg]); omega))) ?_); conv => whnf)
  | ((with_reducible apply idx_at); rfl; conv => whnf)
  )))
local macro_rules | `(tactic| wtm_at "mono") => `(tactic| (intro ds K K' R R' h hR q; (repeat (first | (refine Exists.imp (fun _ q => ?_) q; rename_i q) | (refine And.imp_right (fun q => ?_) q; rename_i q))); first | exact h _ _ q | exact ite_m (fun z => h _ _ z) (fun z => hR _ z) q | (intros; refine h _ _ (q _ _ _ ?_ ?_ ?_) <;> assumption) | (intros; refine h _ _ (q _ _ _ ?_) <;> assumption) | (intros; refine h _ _ (q _ _ _ _ ?_ ?_ ?_ ?_ ?_) <;> assumption)))
/-! ### values that are looked at -/
theorem isi_int {d : D} {k : Bool → Prop} (h : d.odd = false) (hk : k (match d with | .int _ => true | .bl _ => true | _ => false)) : isiD d "int" k := by
  cases d <;> first | exact isi_k rfl (by rfl) hk | cases h
theorem isi_bool {d : D} {k : Bool → Prop} (h : d.odd = false) (hk : k (match d with | .bl _ => true | _ => false)) : isiD d "bool" k := by
  cases d <;> first | exact isi_k rfl (by rfl) hk | cases h
theorem isi_tuple {d : D} {k : Bool → Prop} (h : d.odd = false) (hk : k (match d with | .tup _ => true | _ => false)) : isiD d "tuple" k := by
  cases d <;> first | exact isi_k rfl (by rfl) hk | cases h
def isIntD (d : D) (lo hi : Int) : Bool := match d with | .int i => decide (lo ≤ i ∧ i ≤ hi) | _ => false
@[irreducible] def c_is_integer : Ctr := fun ds K _ => ∃ d lo hi, ds = [d, .int lo, .int hi] ∧ d.odd = false ∧ K (.v (.bl (isIntD d lo hi))) []
theorem i_is_integer {d : D} {lo hi : Int} {K : Rs → List D → Prop} {R : Str → Prop} (ho : d.odd = false) (hk : K (.v (.bl (isIntD d lo hi))) []) : c_is_integer [d, .int lo, .int hi] K R := by
  rw [c_is_integer]; exact ⟨d, lo, hi, rfl, ho, hk⟩
theorem w_is_integer (G : Gam) : Does G v3 t_is_integer 3 c_is_integer := by
  intro ds K R h
  rw [c_is_integer] at h
  obtain ⟨d, lo, hi, rfl, ho, hk⟩ := h
  wtm_at "go"
  refine isi_int ho ?_
  cases d <;> wtm_at "go" <;> first | exact hk | skip
  · refine isi_bool rfl ?_
    wtm_at "go"
    exact hk
  · refine isi_bool rfl ?_
    wtm_at "go"
    refine iteB_d (fun c1 => ?_) fun c1 => ?_
    · wtm_at "go"
      simpa [isIntD, c1] using hk
    · wtm_at "go"
      simpa [isIntD, c1] using hk
/-- values that may be looked at -/
def tame (d : D) : Prop := d.odd = false ∧ match d with | .tup xs => (∀ x ∈ xs, x.odd = false) | _ => True
def isTableD (d : D) : Bool := match d with | .tup [a, b] => isIntD a 1 15 && isIntD b 3 9 | _ => false
@[irreducible] def c_is_table : Ctr := fun ds K _ => ∃ d, ds = [d] ∧ tame d ∧ K (.v (.bl (isTableD d))) []
theorem i_is_table {d : D} {K : Rs → List D → Prop} {R : Str → Prop} (ho : tame d) (hk : K (.v (.bl (isTableD d))) []) : c_is_table [d] K R := by
  rw [c_is_table]; exact ⟨d, rfl, ho, hk⟩
theorem len2 {xs : List D} (h : ((xs.length : Nat) : Int) = 2) : ∃ a b, xs = [a, b] := by
  match xs, h with
  | [a, b], _ => exact ⟨a, b, rfl⟩
  | [], h => simp at h
  | [_], h => simp at h
  | _ :: _ :: _ :: _, h => simp at h; omega
theorem w_is_table (G : Gam) (h1 : G "is_integer" = some (v3, c_is_integer)) : Does G v1 t_is_table 1 c_is_table := by
  intro ds K R h
  rw [c_is_table] at h
  obtain ⟨d, rfl, ho, hk⟩ := h
  wtm_at "go"
  refine isi_tuple ho.1 ?_
  cases d <;> wtm_at "go" <;> first | exact hk | skip
  rename_i xs
  refine iteB_nd (fun c => ?_) fun c => ?_
  · wtm_at "go"
    refine cast (congrArg (fun b => K (.v (.bl b)) []) ?_) hk
    unfold isTableD
    split
    · rename_i a b e; cases e; exact absurd rfl c
    · rfl
  · obtain ⟨a, b, rfl⟩ := len2 c
    have ha := ho.2 a (by simp)
    have hb := ho.2 b (by simp)
    wtm_at "go"
    refine i_is_integer ha ?_
    wtm_at "go"
    refine iteB_i (fun c1 => ?_) fun c1 => ?_
    · wtm_at "go"
      refine i_is_integer hb ?_
      wtm_at "go"
      simpa [isTableD, c1] using hk
    · wtm_at "go"
      simpa [isTableD, c1] using hk
@[irreducible] def c_require_table : Ctr := fun ds K R => ∃ d, ds = [d] ∧ tame d ∧ (if isTableD d = true then K (.v .non) [] else R "InvalidTable")
theorem i_require_table {d : D} {K : Rs → List D → Prop} {R : Str → Prop} (ho : tame d) (hk : if isTableD d = true then K (.v .non) [] else R "InvalidTable") : c_require_table [d] K R := by
  rw [c_require_table]; exact ⟨d, rfl, ho, hk⟩
theorem w_require_table (G : Gam) (h1 : G "is_table" = some (v1, c_is_table)) : Does G v1 t_require_table 1 c_require_table := by
  intro ds K R h
  rw [c_require_table] at h
  obtain ⟨d, rfl, ho, hk⟩ := h
  wtm_at "go"
  refine i_is_table ho ?_
  wtm_at "go"
  cases e : isTableD d <;> wtm_at "go" <;> simpa [e] using hk
def isStateD (reds top : Int) (d : D) : Bool := match d with | .tup [a, b] => isIntD a 0 reds && (isIntD b 2 (top + 1) && (isIntD a 0 0 || isIntD b 2 2)) | _ => false
@[irreducible] def c_is_state_of : Ctr := fun ds K _ => ∃ reds top d, ds = [tabD reds top, d] ∧ tame d ∧ K (.v (.bl (isStateD reds top d))) []
theorem i_is_state_of {reds top : Int} {d : D} {K : Rs → List D → Prop} {R : Str → Prop} (ho : tame d) (hk : K (.v (.bl (isStateD reds top d))) []) : c_is_state_of [tabD reds top, d] K R := by
  rw [c_is_state_of]; exact ⟨reds, top, d, rfl, ho, hk⟩
theorem intOf {d : D} {lo hi : Int} (h : isIntD d lo hi = true) : ∃ i, d = .int i ∧ lo ≤ i ∧ i ≤ hi := by
  cases d <;> simp only [isIntD, Bool.false_eq_true, decide_eq_true_eq] at h
  exact ⟨_, rfl, h⟩
theorem w_is_state_of (G : Gam) (h1 : G "is_integer" = some (v3, c_is_integer)) : Does G v2 t_is_state_of 2 c_is_state_of := by
  intro ds K R h
  rw [c_is_state_of] at h
  obtain ⟨reds, top, d, rfl, ho, hk⟩ := h
  wtm_at "go"
  refine isi_tuple ho.1 ?_
  cases d <;> wtm_at "go" <;> first | exact hk | skip
  rename_i xs
  refine iteB_nd (fun c => ?_) fun c => ?_
  · wtm_at "go"
    refine cast (congrArg (fun b => K (.v (.bl b)) []) ?_) hk
    unfold isStateD
    split
    · rename_i a b e; cases e; exact absurd rfl c
    · rfl
  · obtain ⟨a, b, rfl⟩ := len2 c
    have ha := ho.2 a (by simp)
    have hb := ho.2 b (by simp)
    wtm_at "go"
    refine i_is_integer ha ?_
    wtm_at "go"
    cases e3 : isIntD a 0 reds with
    | false =>
      wtm_at "go"
      simpa [isStateD, e3] using hk
    | true =>
      obtain ⟨i, rfl, i1, i2⟩ := intOf e3
      wtm_at "go"
      refine i_is_integer hb ?_
      wtm_at "go"
      cases e4 : isIntD b 2 (top + 1) with
      | false =>
        wtm_at "go"
        simpa [isStateD, e3, e4] using hk
      | true =>
        obtain ⟨j, rfl, j1, j2⟩ := intOf e4
        have e5 : isIntD (.int i) 0 0 = decide (i = 0) := by simp only [isIntD]; exact Bool.eq_iff_iff.mpr (by simp; omega)
        have e6 : isIntD (.int j) 2 2 = decide (j = 2) := by simp only [isIntD]; exact Bool.eq_iff_iff.mpr (by simp; omega)
        simp only [isStateD, e3, e4, e5, e6, Bool.true_and] at hk
        wtm_at "go"
        refine iteB_d (fun c1 => ?_) fun c1 => ?_
        · wtm_at "go"
          simpa [c1] using hk
        · wtm_at "go"
          simpa [c1] using hk
def isBookD (d : D) : Bool := match d with | .tup xs => decide (xs.length ≤ 40) && xs.all fun x => isIntD x 0 300 | _ => false
@[irreducible] def c_is_book : Ctr := fun ds K _ => ∃ d, ds = [d] ∧ tame d ∧ K (.v (.bl (isBookD d))) []
theorem i_is_book {d : D} {K : Rs → List D → Prop} {R : Str → Prop} (ho : tame d) (hk : K (.v (.bl (isBookD d))) []) : c_is_book [d] K R := by
  rw [c_is_book]; exact ⟨d, rfl, ho, hk⟩
theorem bols_map (xs : List D) (q : D → Bool) : bolsD (xs.map fun x => D.bl (q x)) = some (xs.map q) := by
  induction xs with
  | nil => rfl
  | cons x xs ih => simp [bolsD, ih]
theorem w_is_book (G : Gam) (h1 : G "is_integer" = some (v3, c_is_integer)) : Does G v1 t_is_book 2 c_is_book := by
  intro ds K R h
  rw [c_is_book] at h
  obtain ⟨d, rfl, ho, hk⟩ := h
  wtm_at "go"
  refine isi_tuple ho.1 ?_
  cases d <;> wtm_at "go" <;> first | exact hk | skip
  rename_i xs
  refine iteB_d (fun c => ?_) fun c => ?_
  · wtm_at "go"
    refine cast (congrArg (fun b => K (.v (.bl b)) []) ?_) hk
    have : ¬ xs.length ≤ 40 := by omega
    simp [isBookD, this]
  · wtm_at "go"
    have ex : xs = xs.map id := by simp
    rw [ex]
    refine compE_map xs id (fun x => .bl (isIntD x 0 300)) (fun x hx k' hk' => ?_) ?_
    · wtm_at "go"
      refine i_is_integer (ho.2 x hx) ?_
      wtm_at "go"
      exact hk' _ rfl
    · wtm_at "go"
      rw [bols_map]
      refine cast (congrArg (fun b => K (.v (.bl b)) []) ?_) hk
      have : xs.length ≤ 40 := by omega
      simp [isBookD, this]
@[irreducible] def c_require_book : Ctr := fun ds K R => ∃ d, ds = [d] ∧ tame d ∧ (if isBookD d = true then K (.v .non) [] else R "InvalidBook")
theorem i_require_book {d : D} {K : Rs → List D → Prop} {R : Str → Prop} (ho : tame d) (hk : if isBookD d = true then K (.v .non) [] else R "InvalidBook") : c_require_book [d] K R := by
  rw [c_require_book]; exact ⟨d, rfl, ho, hk⟩
theorem w_require_book (G : Gam) (h1 : G "is_book" = some (v1, c_is_book)) : Does G v1 t_require_book 1 c_require_book := by
  intro ds K R h
  rw [c_require_book] at h
  obtain ⟨d, rfl, ho, hk⟩ := h
  wtm_at "go"
  refine i_is_book ho ?_
  wtm_at "go"
  cases e : isBookD d <;> wtm_at "go" <;> simpa [e] using hk
@[irreducible] def c_require_state : Ctr := fun ds K R => ∃ reds top d, ds = [tabD reds top, d] ∧ tame d ∧ (if isStateD reds top d = true then K (.v .non) [] else R "InvalidState")
theorem i_require_state {reds top : Int} {d : D} {K : Rs → List D → Prop} {R : Str → Prop} (ho : tame d) (hk : if isStateD reds top d = true then K (.v .non) [] else R "InvalidState") : c_require_state [tabD reds top, d] K R := by
  rw [c_require_state]; exact ⟨reds, top, d, rfl, ho, hk⟩
theorem w_require_state (G : Gam) (h1 : G "is_state_of" = some (v2, c_is_state_of)) : Does G v2 t_require_state 2 c_require_state := by
  intro ds K R h
  rw [c_require_state] at h
  obtain ⟨reds, top, d, rfl, ho, hk⟩ := h
  wtm_at "go"
  refine i_is_state_of ho ?_
  wtm_at "go"
  cases e : isStateD reds top d <;> wtm_at "go" <;> simpa [e] using hk
@[irreducible] def c_require_points : Ctr := fun ds K R => ∃ d most, ds = [d, .int most] ∧ d.odd = false ∧ (if isIntD d 0 most = true then K (.v .non) [] else R "InvalidPoints")
theorem i_require_points {d : D} {most : Int} {K : Rs → List D → Prop} {R : Str → Prop} (ho : d.odd = false) (hk : if isIntD d 0 most = true then K (.v .non) [] else R "InvalidPoints") : c_require_points [d, .int most] K R := by
  rw [c_require_points]; exact ⟨d, most, rfl, ho, hk⟩
theorem w_require_points (G : Gam) (h1 : G "is_integer" = some (v3, c_is_integer)) : Does G v2 t_require_points 2 c_require_points := by
  intro ds K R h
  rw [c_require_points] at h
  obtain ⟨d, most, rfl, ho, hk⟩ := h
  wtm_at "go"
  refine i_is_integer ho ?_
  wtm_at "go"
  cases e : isIntD d 0 most <;> wtm_at "go" <;> simpa [e] using hk
@[irreducible] def c_require_top : Ctr := fun ds K R => ∃ d, ds = [d] ∧ d.odd = false ∧ (if isIntD d 3 9 = true then K (.v .non) [] else R "InvalidTop")
theorem i_require_top {d : D} {K : Rs → List D → Prop} {R : Str → Prop} (ho : d.odd = false) (hk : if isIntD d 3 9 = true then K (.v .non) [] else R "InvalidTop") : c_require_top [d] K R := by
  rw [c_require_top]; exact ⟨d, rfl, ho, hk⟩
theorem w_require_top (G : Gam) (h1 : G "is_integer" = some (v3, c_is_integer)) : Does G v1 t_require_top 1 c_require_top := by
  intro ds K R h
  rw [c_require_top] at h
  obtain ⟨d, rfl, ho, hk⟩ := h
  wtm_at "go"
  refine i_is_integer ho ?_
  wtm_at "go"
  cases e : isIntD d 3 9 <;> wtm_at "go" <;> simpa [e] using hk
end DL

set_option maxHeartbeats 1000000
namespace DL
open PySem L2
local macro_rules | `(tactic| wtm_at "run") => `(tactic| conv => whnf)
local macro_rules | `(tactic| wtm_at "sz") => `(tactic| (rw [line_eq]; simp only [List.length_cons, List.length_nil, List.length_map, List.length_append, rg_length, rngD_rg]; omega))
local macro_rules | `(tactic| wtm_at "go") => `(tactic| ((conv => whnf); repeat (first
  | ((with_reducible refine eq_int ?_); conv => whnf) | ((with_reducible refine ne_int ?_); conv => whnf)
  | ((with_reducible refine lt_int ?_); conv => whnf) | ((with_reducible refine le_int ?_); conv => whnf) | ((with_reducible refine gt_int ?_); conv => whnf) | ((with_reducible refine ge_int ?_); conv => whnf)
  | ((with_reducible refine idx_0 ?_); conv => whnf) | ((with_reducible refine idx_1 ?_); conv => whnf)
  | ((with_reducible refine iteB_T ?_); conv => whnf) | ((with_reducible refine iteB_F ?_); conv => whnf) | ((with_reducible refine iteB_nT ?_); conv => whnf) | ((with_reducible refine iteB_nF ?_); conv => whnf)
  | ((with_reducible refine iteB_n0 ?_); conv => whnf) | ((with_reducible refine iteB_n1 ?_); conv => whnf) | ((with_reducible refine iteB_n2 ?_); conv => whnf) | ((with_reducible refine iteB_n3 ?_); conv => whnf) | ((with_reducible refine iteB_n4 ?_); conv => whnf) | ((with_reducible refine iteB_n5 ?_); conv => whnf)
  | ((with_reducible refine seq_lst ?_); conv => whnf) | ((with_reducible refine seq_tup ?_); conv => whnf)
  | ((with_reducible refine eq_pairs ?_); conv => whnf) | ((with_reducible refine ne_pairs ?_); conv => whnf) | ((with_reducible refine eq_pairs0 ?_); conv => whnf) | ((with_reducible refine ne_pairs0 ?_); conv => whnf)
  | ((with_reducible refine eq_ints ?_); conv => whnf) | ((with_reducible refine ne_ints ?_); conv => whnf) | ((with_reducible refine eq_ints0 ?_); conv => whnf) | ((with_reducible refine ne_ints0 ?_); conv => whnf)
  | ((with_reducible refine eq_tints ?_); conv => whnf) | ((with_reducible refine ne_tints ?_); conv => whnf) | ((with_reducible refine eq_tints0 ?_); conv => whnf) | ((with_reducible refine ne_tints0 ?_); conv => whnf)
  | ((with_reducible refine eq_pair ?_); conv => whnf) | ((with_reducible refine ne_pair ?_); conv => whnf)
  | ((with_reducible refine is_non ?_); conv => whnf) | ((with_reducible refine isnot_non ?_); conv => whnf) | ((with_reducible refine is_bl ?_); conv => whnf) | ((with_reducible refine isnot_bl ?_); conv => whnf)
  | ((with_reducible refine in_pairs ?_); conv => whnf) | ((with_reducible refine notIn_pairs ?_); conv => whnf)
  | ((with_reducible refine slice_l ?_); conv => whnf) | ((with_reducible refine slice_t ?_); conv => whnf)
  | ((with_reducible apply callG_i); (with_reducible assumption); rfl; conv => whnf)
  | (refine callD_v (by rfl) (by rfl) ?_)
  | ((with_reducible refine And.intro rfl ?_); conv => whnf)
  | ((with_reducible refine And.intro (pos_i (by omega)) ?_); conv => whnf)
  | ((with_reducible apply hasD_and); rfl; conv => whnf)
  | ((with_reducible refine And.intro (ownL_i rfl) ?_); conv => whnf)
  | ((with_reducible refine idx_l0 ?_); conv => whnf) | ((with_reducible refine idx_l1 ?_); conv => whnf) | ((with_reducible refine idx_l2 ?_); conv => whnf)
  | ((with_reducible refine And.intro (mul_l (by omega)) ?_); conv => whnf)
  | ((with_reducible refine And.intro (mul_r (by omega)) ?_); conv => whnf)
  | ((with_reducible refine And.intro (div_ok (by omega)) ?_); conv => whnf)
  | ((with_reducible refine And.intro (rng_ok (by ((try simp only [List.length_map]); omega))) ?_); conv => whnf)
  | ((with_reducible refine And.intro (line_le (by ((try simp only [List.length_cons, List.length_nil, List.length_map, List.length_append, rg_length, rngD_rg]); omega))) ?_); conv => whnf)
  | ((with_reducible apply idx_at); rfl; conv => whnf)
  )))
local macro_rules | `(tactic| wtm_at "mono") => `(tactic| (intro ds K K' R R' h hR q; (repeat (first | (refine Exists.imp (fun _ q => ?_) q; rename_i q) | (refine And.imp_right (fun q => ?_) q; rename_i q))); first | exact h _ _ q | exact ite_m (fun z => h _ _ z) (fun z => hR _ z) q | (intros; refine h _ _ (q _ _ _ ?_ ?_ ?_) <;> assumption) | (intros; refine h _ _ (q _ _ _ ?_) <;> assumption) | (intros; refine h _ _ (q _ _ _ _ ?_ ?_ ?_ ?_ ?_) <;> assumption)))
abbrev iv (l : List Int) : D := .tup (l.map iD)
theorem len_flat {α β : Type} {n : Nat} (f : α → List β) : ∀ {l : List α}, (∀ a ∈ l, (f a).length ≤ n) → (l.flatMap f).length ≤ l.length * n
  | [], _ => by simp
  | a :: l, h => by
    have h1 := h a List.mem_cons_self
    have h2 := len_flat f (l := l) fun b hb => h b (List.mem_cons_of_mem _ hb)
    rw [List.flatMap_cons, List.length_append, List.length_cons, Nat.add_mul]
    omega
theorem nextL_few {reds top p : Int} {x : Int × Int} (ht : 1 ≤ top) (h : St reds top x) : (nextL top x.1 x.2 p).length ≤ reds.toNat + top.toNat :=
  few (ascP_nodup asc_nextL) fun y hy => (mem_nextL.mp hy).st ht h
theorem wipe_more {s t : DSt} {vs ws : List Nat} (h : ∀ i ∈ vs, i ∈ ws) (e : wipeD s vs = wipeD t vs) : wipeD s ws = wipeD t ws := by
  rw [← wipeD_wipe h, e, wipeD_wipe h]
@[irreducible] def c_states_from : Ctr := fun ds K _ => ∃ reds top S b, ds = [tabD reds top, .lst (S.map pD), iv b] ∧ (1 ≤ reds ∧ reds ≤ 15 ∧ 3 ≤ top ∧ top ≤ 9) ∧ S.Nodup ∧ AllSt reds top S ∧ K (.o (.l ((stL top S b).map pD))) []
theorem i_states_from {reds top : Int} {S : List (Int × Int)} {b : List Int} {K : Rs → List D → Prop} {R : Str → Prop} (ho : 1 ≤ reds ∧ reds ≤ 15 ∧ 3 ≤ top ∧ top ≤ 9) (h1 : S.Nodup) (h2 : AllSt reds top S) (hk : K (.o (.l ((stL top S b).map pD))) []) :
    c_states_from [tabD reds top, .lst (S.map pD), iv b] K R := by
  rw [c_states_from]; exact ⟨reds, top, S, b, rfl, ho, h1, h2, hk⟩
abbrev vmv : List Md := [.val, .mv, .val]
theorem w_states_from (G : Gam) (h1 : G "next_of" = some (v3, c_next_of)) : Does G vmv t_states_from 6 c_states_from := by
  intro ds K R h
  rw [c_states_from] at h
  obtain ⟨reds, top, S, b, rfl, ho, hn, hs, hk⟩ := h
  wtm_at "go"
  refine forL_fold b iD (nxS top) (fun T s => T.Nodup ∧ AllSt reds top T ∧ ∃ x, s = [some (.val (tabD reds top)), some (.own (.l (T.map pD))), some (.val (iv b)), x, none, none]) S ⟨hn, hs, none, rfl⟩ ?_ ?_
  · rintro T p s hp ⟨n1, n2, x, rfl⟩ N hN
    wtm_at "go"
    have f1 := few n1 n2
    have f2 : (T.flatMap fun st => (nextL top st.1 st.2 p).map pD).length ≤ 24 * 24 := by
      refine Nat.le_trans (len_flat _ (n := 24) fun a ha => ?_) (Nat.mul_le_mul_right _ (by omega))
      rw [List.length_map]
      have := nextL_few (p := p) (by omega) (n2 a ha)
      omega
    refine compE2_ok T pD (fun st => (nextL top st.1 st.2 p).map pD) (line_le (by omega)) (fun st hst acc k' hz hk' => ?_) ?_
    · obtain ⟨q1, q2, q3, q4, q5⟩ := n2 st hst
      wtm_at "go"
      refine i_next_of (by omega) ?_
      wtm_at "go"
      refine compA_map _ pD pD (by rw [List.length_map] at hz; exact hz) (fun y hy acc k'' hz' hk'' => ?_) fun s' e => ?_
      · wtm_at "go"
        exact ⟨hz', hk'' _ rfl⟩
      · exact hk' _ ((wipe_more (vs := [5]) (ws := [4, 5]) (by decide) e).trans rfl)
    · rw [← List.map_flatMap]
      wtm_at "go"
      have n3 := nxS_st (p := p) (top := top) (by omega) n2
      refine sset_pairs ?_ ?_
      · have := few (reds := reds) (top := top) (nodup_uniq (l := T.flatMap fun st => nextL top st.1 st.2 p)) fun y hy => n3 y (mem_ssP.mpr (mem_uniq.mp hy))
        omega
      · wtm_at "go"
        refine hN _ ⟨ascP_nodup (asc_nxS _ _ _), n3, _, rfl⟩
  · rintro s ⟨n1, n2, x, rfl⟩
    wtm_at "go"
    exact hk
abbrev Tb (reds top : Int) : Prop := 1 ≤ reds ∧ reds ≤ 15 ∧ 3 ≤ top ∧ top ≤ 9
@[irreducible] def c_states_of : Ctr := fun ds K _ => ∃ reds top b, ds = [tabD reds top, iv b] ∧ Tb reds top ∧ K (.o (.l ((ofB reds top b).map pD))) []
theorem i_states_of {reds top : Int} {b : List Int} {K : Rs → List D → Prop} {R : Str → Prop} (ho : Tb reds top) (hk : K (.o (.l ((ofB reds top b).map pD))) []) : c_states_of [tabD reds top, iv b] K R := by
  rw [c_states_of]; exact ⟨reds, top, b, rfl, ho, hk⟩
theorem w_states_of (G : Gam) (h1 : G "states_from" = some (vmv, c_states_from)) : Does G v2 t_states_of 2 c_states_of := by
  intro ds K R h
  rw [c_states_of] at h
  obtain ⟨reds, top, b, rfl, ho, hk⟩ := h
  wtm_at "go"
  exact i_states_from (S := [(reds, 2)]) ho (by simp) (begin_st (by omega) (by omega)) hk
theorem isTable_ok {reds top : Int} (h : Tb reds top) : isTableD (tabD reds top) = true := by
  simp only [isTableD, isIntD, Bool.and_eq_true, decide_eq_true_eq]
  omega
/-- a book's points -/
abbrev Bk (b : List Int) : Prop := b.length ≤ 40 ∧ ∀ p ∈ b, 0 ≤ p ∧ p ≤ 300
theorem isBook_ok {b : List Int} (h : Bk b) : isBookD (iv b) = true := by
  simp only [isBookD, Bool.and_eq_true, decide_eq_true_eq, List.length_map, List.all_eq_true, List.mem_map]
  refine ⟨h.1, ?_⟩
  rintro x ⟨p, hp, rfl⟩
  simp only [isIntD, decide_eq_true_eq]
  exact h.2 p hp
theorem tame_tab (a b : Int) : tame (tabD a b) := ⟨rfl, by simp [D.odd]⟩
theorem tame_iv (b : List Int) : tame (iv b) := ⟨rfl, by simp [D.odd]⟩
theorem yes_table {reds top : Int} {A B : Prop} (h : Tb reds top) (hk : A) : if isTableD (tabD reds top) = true then A else B := by rw [if_pos (isTable_ok h)]; exact hk
theorem yes_book {b : List Int} {A B : Prop} (h : Bk b) (hk : A) : if isBookD (iv b) = true then A else B := by rw [if_pos (isBook_ok h)]; exact hk
/-- with a table and a book that are right -/
@[irreducible] def c_states_after : Ctr := fun ds K _ => ∃ reds top b, ds = [tabD reds top, iv b] ∧ Tb reds top ∧ Bk b ∧ K (.o (.l ((ofB reds top b).map pD))) []
theorem i_states_after {reds top : Int} {b : List Int} {K : Rs → List D → Prop} {R : Str → Prop} (ho : Tb reds top) (hb : Bk b) (hk : K (.o (.l ((ofB reds top b).map pD))) []) : c_states_after [tabD reds top, iv b] K R := by
  rw [c_states_after]; exact ⟨reds, top, b, rfl, ho, hb, hk⟩
theorem w_states_after (G : Gam) (h1 : G "require_table" = some (v1, c_require_table)) (h2 : G "require_book" = some (v1, c_require_book)) (h3 : G "states_of" = some (v2, c_states_of)) : Does G v2 t_states_after 2 c_states_after := by
  intro ds K R h
  rw [c_states_after] at h
  obtain ⟨reds, top, b, rfl, ho, hb, hk⟩ := h
  wtm_at "go"
  refine i_require_table (tame_tab _ _) (yes_table ho ?_)
  wtm_at "go"
  refine i_require_book (tame_iv _) (yes_book hb ?_)
  wtm_at "go"
  exact i_states_of ho hk
@[irreducible] def c_fits : Ctr := fun ds K _ => ∃ reds top b, ds = [tabD reds top, iv b] ∧ Tb reds top ∧ Bk b ∧ K (.v (.bl (!decide (ofB reds top b = [])))) []
theorem i_fits {reds top : Int} {b : List Int} {K : Rs → List D → Prop} {R : Str → Prop} (ho : Tb reds top) (hb : Bk b) (hk : K (.v (.bl (!decide (ofB reds top b = [])))) []) : c_fits [tabD reds top, iv b] K R := by
  rw [c_fits]; exact ⟨reds, top, b, rfl, ho, hb, hk⟩
theorem w_fits (G : Gam) (h1 : G "require_table" = some (v1, c_require_table)) (h2 : G "require_book" = some (v1, c_require_book)) (h3 : G "states_of" = some (v2, c_states_of)) : Does G v2 t_fits 2 c_fits := by
  intro ds K R h
  rw [c_fits] at h
  obtain ⟨reds, top, b, rfl, ho, hb, hk⟩ := h
  wtm_at "go"
  refine i_require_table (tame_tab _ _) (yes_table ho ?_)
  wtm_at "go"
  refine i_require_book (tame_iv _) (yes_book hb ?_)
  wtm_at "go"
  refine i_states_of ho ?_
  wtm_at "go"
  exact hk
/-- the smallest and the largest number of reds, as data -/
def rlD (S : List (Int × Int)) : D := match S.head?, S.getLast? with
  | some x, some y => .tup [.int x.1, .int y.1]
  | _, _ => .non
@[irreducible] def c_reds_left : Ctr := fun ds K _ => ∃ reds top b, ds = [tabD reds top, iv b] ∧ Tb reds top ∧ Bk b ∧ K (.v (rlD (ofB reds top b))) []
theorem i_reds_left {reds top : Int} {b : List Int} {K : Rs → List D → Prop} {R : Str → Prop} (ho : Tb reds top) (hb : Bk b) (hk : K (.v (rlD (ofB reds top b))) []) : c_reds_left [tabD reds top, iv b] K R := by
  rw [c_reds_left]; exact ⟨reds, top, b, rfl, ho, hb, hk⟩
theorem at_head {α : Type} (x : α) (l : List α) : atI (x :: l) 0 = some x := by
  unfold atI ixN
  rw [if_pos (by omega), if_pos (by simp only [List.length_cons]; omega)]
  rfl
theorem at_last {α : Type} (x : α) (l : List α) : atI (x :: l) (-1) = (x :: l).getLast? := by
  unfold atI ixN
  rw [if_neg (by omega), if_pos (by simp only [List.length_cons]; omega), List.getLast?_eq_getElem?]
  simp only [Option.bind_some, List.length_cons]
  congr 1
  omega
theorem w_reds_left (G : Gam) (h1 : G "require_table" = some (v1, c_require_table)) (h2 : G "require_book" = some (v1, c_require_book)) (h3 : G "states_of" = some (v2, c_states_of)) : Does G v2 t_reds_left 3 c_reds_left := by
  intro ds K R h
  rw [c_reds_left] at h
  obtain ⟨reds, top, b, rfl, ho, hb, hk⟩ := h
  wtm_at "go"
  refine i_require_table (tame_tab _ _) (yes_table ho ?_)
  wtm_at "go"
  refine i_require_book (tame_iv _) (yes_book hb ?_)
  wtm_at "go"
  refine i_states_of ho ?_
  wtm_at "go"
  generalize ofB reds top b = S at *
  cases S with
  | nil =>
    refine iteB_nd (fun c => absurd rfl c) fun c => ?_
    wtm_at "go"
    exact hk
  | cons x S =>
    refine iteB_nd (fun c => ?_) fun c => by cases c
    wtm_at "go"
    refine idx_at (at_head _ _) ?_
    wtm_at "go"
    have e : atI (List.map pD (x :: S)) (-1) = ((x :: S).getLast?).map pD := by
      rw [List.map_cons, at_last, ← List.map_cons, List.getLast?_map]
    cases q : (x :: S).getLast? with
    | none => simp at q
    | some y =>
      rw [q] at e
      refine idx_at e ?_
      wtm_at "go"
      simpa [rlD, q] using hk
end DL

set_option maxHeartbeats 1000000
namespace DL
open PySem L2
local macro_rules | `(tactic| wtm_at "run") => `(tactic| conv => whnf)
local macro_rules | `(tactic| wtm_at "sz") => `(tactic| (rw [line_eq]; simp only [List.length_cons, List.length_nil, List.length_map, List.length_append, rg_length, rngD_rg]; omega))
local macro_rules | `(tactic| wtm_at "go") => `(tactic| ((conv => whnf); repeat (first
  | ((with_reducible refine eq_int ?_); conv => whnf) | ((with_reducible refine ne_int ?_); conv => whnf)
  | ((with_reducible refine lt_int ?_); conv => whnf) | ((with_reducible refine le_int ?_); conv => whnf) | ((with_reducible refine gt_int ?_); conv => whnf) | ((with_reducible refine ge_int ?_); conv => whnf)
  | ((with_reducible refine idx_0 ?_); conv => whnf) | ((with_reducible refine idx_1 ?_); conv => whnf)
  | ((with_reducible refine iteB_T ?_); conv => whnf) | ((with_reducible refine iteB_F ?_); conv => whnf) | ((with_reducible refine iteB_nT ?_); conv => whnf) | ((with_reducible refine iteB_nF ?_); conv => whnf)
  | ((with_reducible refine iteB_n0 ?_); conv => whnf) | ((with_reducible refine iteB_n1 ?_); conv => whnf) | ((with_reducible refine iteB_n2 ?_); conv => whnf) | ((with_reducible refine iteB_n3 ?_); conv => whnf) | ((with_reducible refine iteB_n4 ?_); conv => whnf) | ((with_reducible refine iteB_n5 ?_); conv => whnf)
  | ((with_reducible refine seq_lst ?_); conv => whnf) | ((with_reducible refine seq_tup ?_); conv => whnf)
  | ((with_reducible refine eq_pairs ?_); conv => whnf) | ((with_reducible refine ne_pairs ?_); conv => whnf) | ((with_reducible refine eq_pairs0 ?_); conv => whnf) | ((with_reducible refine ne_pairs0 ?_); conv => whnf)
  | ((with_reducible refine eq_ints ?_); conv => whnf) | ((with_reducible refine ne_ints ?_); conv => whnf) | ((with_reducible refine eq_ints0 ?_); conv => whnf) | ((with_reducible refine ne_ints0 ?_); conv => whnf)
  | ((with_reducible refine eq_tints ?_); conv => whnf) | ((with_reducible refine ne_tints ?_); conv => whnf) | ((with_reducible refine eq_tints0 ?_); conv => whnf) | ((with_reducible refine ne_tints0 ?_); conv => whnf)
  | ((with_reducible refine eq_pair ?_); conv => whnf) | ((with_reducible refine ne_pair ?_); conv => whnf)
  | ((with_reducible refine is_non ?_); conv => whnf) | ((with_reducible refine isnot_non ?_); conv => whnf) | ((with_reducible refine is_bl ?_); conv => whnf) | ((with_reducible refine isnot_bl ?_); conv => whnf)
  | ((with_reducible refine in_pairs ?_); conv => whnf) | ((with_reducible refine notIn_pairs ?_); conv => whnf)
  | ((with_reducible refine slice_l ?_); conv => whnf) | ((with_reducible refine slice_t ?_); conv => whnf)
  | ((with_reducible apply callG_i); (with_reducible assumption); rfl; conv => whnf)
  | (refine callD_v (by rfl) (by rfl) ?_)
  | ((with_reducible refine And.intro rfl ?_); conv => whnf)
  | ((with_reducible refine And.intro (pos_i (by omega)) ?_); conv => whnf)
  | ((with_reducible apply hasD_and); rfl; conv => whnf)
  | ((with_reducible refine And.intro (ownL_i rfl) ?_); conv => whnf)
  | ((with_reducible refine idx_l0 ?_); conv => whnf) | ((with_reducible refine idx_l1 ?_); conv => whnf) | ((with_reducible refine idx_l2 ?_); conv => whnf)
  | ((with_reducible refine And.intro (mul_l (by omega)) ?_); conv => whnf)
  | ((with_reducible refine And.intro (mul_r (by omega)) ?_); conv => whnf)
  | ((with_reducible refine And.intro (div_ok (by omega)) ?_); conv => whnf)
  | ((with_reducible refine And.intro (rng_ok (by ((try simp only [List.length_map]); omega))) ?_); conv => whnf)
  | ((with_reducible refine And.intro (line_le (by ((try simp only [List.length_cons, List.length_nil, List.length_map, List.length_append, rg_length, rngD_rg]); omega))) ?_); conv => whnf)
  | ((with_reducible apply idx_at); rfl; conv => whnf)
  )))
local macro_rules | `(tactic| wtm_at "mono") => `(tactic| (intro ds K K' R R' h hR q; (repeat (first | (refine Exists.imp (fun _ q => ?_) q; rename_i q) | (refine And.imp_right (fun q => ?_) q; rename_i q))); first | exact h _ _ q | exact ite_m (fun z => h _ _ z) (fun z => hR _ z) q | (intros; refine h _ _ (q _ _ _ ?_ ?_ ?_) <;> assumption) | (intros; refine h _ _ (q _ _ _ ?_) <;> assumption) | (intros; refine h _ _ (q _ _ _ _ ?_ ?_ ?_ ?_ ?_) <;> assumption)))
/-! ### draws -/
abbrev srcL (c s p : Int) : List D := [.int c, .int s, .int p]
abbrev Src (c s p : Int) : Prop := 0 ≤ c ∧ 0 ≤ s ∧ s < 4294967296 ∧ 0 < p ∧ p < 4294967296
@[irreducible] def c_source : Ctr := fun ds K _ => ∃ (ns : List Int) (k : Int), ds = [.scr (ns.map iD), .int k] ∧ (0 ≤ k ∧ k < 1000) ∧ ∀ c s p, Src c s p → K (.o (.l (srcL c s p))) []
theorem i_source {ns : List Int} {k : Int} {K : Rs → List D → Prop} {R : Str → Prop} (ho : 0 ≤ k ∧ k < 1000) (hk : ∀ c s p, Src c s p → K (.o (.l (srcL c s p))) []) : c_source [.scr (ns.map iD), .int k] K R := by
  rw [c_source]; exact ⟨ns, k, rfl, ho, hk⟩
theorem atI_lt {α : Type} {xs : List α} {i : Int} (h0 : 0 ≤ i) (h1 : i < xs.length) : atI xs i = xs[i.toNat]? := by
  unfold atI ixN
  rw [if_pos h0, if_pos h1]
  rfl
theorem primes_at {k : Int} : ∃ p, atI [D.int 2147483647, .int 2147483629, .int 2147483587, .int 2147483579, .int 2147483563, .int 2147483549, .int 2147483543, .int 2147483497] (k % 8) = some (.int p) ∧ 0 < p ∧ p < 4294967296 := by
  have h0 : 0 ≤ k % 8 := by omega
  have h1 : k % 8 < 8 := by omega
  rw [atI_lt h0 (by simp only [List.length_cons, List.length_nil]; omega)]
  generalize hj : (k % 8).toNat = j
  have : j < 8 := by omega
  match j, this with
  | 0, _ => exact ⟨_, rfl, by omega⟩
  | 1, _ => exact ⟨_, rfl, by omega⟩
  | 2, _ => exact ⟨_, rfl, by omega⟩
  | 3, _ => exact ⟨_, rfl, by omega⟩
  | 4, _ => exact ⟨_, rfl, by omega⟩
  | 5, _ => exact ⟨_, rfl, by omega⟩
  | 6, _ => exact ⟨_, rfl, by omega⟩
  | 7, _ => exact ⟨_, rfl, by omega⟩
theorem w_source (G : Gam) (hG : GMono G) : Does G v2 t_law_source 5 c_source := by
  intro ds K R h
  rw [c_source] at h
  obtain ⟨ns, k, rfl, ho, hk⟩ := h
  refine cut1 hG (fun s => s = [some (.val (.scr (ns.map iD))), some (.val (.int k)), some (.val (.int 0)), none, none]) ?_ ?_
  · wtm_at "go"
    rfl
  rintro s rfl
  refine cut1 hG (fun s => ∃ c, s = [some (.val (.scr (ns.map iD))), some (.val (.int k)), some (.val (.int c)), none, none]) ?_ ?_
  · wtm_at "go"
    refine iteB_d (fun c => ?_) fun c => ?_
    · wtm_at "go"
      rw [List.length_map] at c
      have hlt : k.toNat < ns.length := by omega
      refine idx_scr (d := .int ns[k.toNat]) ?_ ?_
      · rw [atI_lt (by omega) (by rw [List.length_map]; exact c), List.getElem?_map, List.getElem?_eq_getElem hlt]
        rfl
      · wtm_at "go"
        exact ⟨_, rfl⟩
    · wtm_at "go"
      exact ⟨_, rfl⟩
  rintro s ⟨c, rfl⟩
  wtm_at "go"
  refine ⟨⟨by decide, by decide, by decide⟩, ?_⟩
  wtm_at "go"
  obtain ⟨p, e, p1, p2⟩ := primes_at (k := k)
  refine iteB_d (fun c1 => ?_) fun c1 => ?_
  · have c0 : (0 : Int) < 10 ^ (18 : Int).toNat := by decide
    wtm_at "go"
    refine idx_at e ?_
    wtm_at "go"
    refine hk _ _ _ ⟨Int.le_trans (Int.le_of_lt c0) c1, ?_, ?_, p1, p2⟩ <;> omega
  · wtm_at "go"
    refine idx_at e ?_
    wtm_at "go"
    refine hk _ _ _ ⟨Int.le_refl 0, ?_, ?_, p1, p2⟩ <;> omega
@[irreducible] def c_pick : Ctr := fun ds K _ => ∃ c s p size, ds = [.lst (srcL c s p), .int size] ∧ Src c s p ∧ (0 < size ∧ size < 9223372036854775808) ∧ ∀ d c' s', 0 ≤ d → d < size → Src c' s' p → K (.v (.int d)) (srcL c' s' p)
theorem i_pick {c s p size : Int} {K : Rs → List D → Prop} {R : Str → Prop} (hs : Src c s p) (ho : 0 < size ∧ size < 9223372036854775808) (hk : ∀ d c' s', 0 ≤ d → d < size → Src c' s' p → K (.v (.int d)) (srcL c' s' p)) : c_pick [.lst (srcL c s p), .int size] K R := by
  rw [c_pick]; exact ⟨c, s, p, size, rfl, hs, ho, hk⟩
abbrev iov : List Md := [.io, .val]
theorem w_pick (G : Gam) (hG : GMono G) : Does G iov t_law_pick 3 c_pick := by
  intro ds K R h
  rw [c_pick] at h
  obtain ⟨c, s, p, size, rfl, hs, ho, hk⟩ := h
  have m1 : 0 ≤ s * 48271 % p := Int.emod_nonneg _ (by omega)
  have m2 : s * 48271 % p < p := Int.emod_lt_of_pos _ (by omega)
  wtm_at "go"
  refine iteB_d (fun c1 => ?_) fun c1 => ?_
  · wtm_at "go"
    refine ⟨div_w (by omega), ?_⟩
    wtm_at "go"
    refine hk _ _ _ (Int.emod_nonneg _ (by omega)) (Int.emod_lt_of_pos _ (by omega)) ⟨?_, hs.2⟩
    exact Int.ediv_nonneg hs.1 (by omega)
  · wtm_at "go"
    exact hk _ _ _ (Int.emod_nonneg _ (by omega)) (Int.emod_lt_of_pos _ (by omega)) ⟨hs.1, by omega, by omega, hs.2.2.2⟩

theorem c_pick_mono : CMono c_pick := fun ds K K' R R' h _ q => by
  rw [c_pick] at *
  obtain ⟨c, s, p, size, e, a, b, hk⟩ := q
  exact ⟨c, s, p, size, e, a, b, fun d c' s' x y z => h _ _ (hk d c' s' x y z)⟩
/-- a drawn table: most reds -/
@[irreducible] def c_table : Ctr := fun ds K _ => ∃ c s p most, ds = [.lst (srcL c s p), .int most] ∧ Src c s p ∧ (0 < most ∧ most < 1000) ∧ ∀ reds top c' s', 1 ≤ reds → reds ≤ most → 3 ≤ top → top ≤ 9 → Src c' s' p → K (.v (tabD reds top)) (srcL c' s' p)
theorem i_table {c s p most : Int} {K : Rs → List D → Prop} {R : Str → Prop} (hs : Src c s p) (ho : 0 < most ∧ most < 1000) (hk : ∀ reds top c' s', 1 ≤ reds → reds ≤ most → 3 ≤ top → top ≤ 9 → Src c' s' p → K (.v (tabD reds top)) (srcL c' s' p)) : c_table [.lst (srcL c s p), .int most] K R := by
  rw [c_table]; exact ⟨c, s, p, most, rfl, hs, ho, hk⟩
theorem w_table (G : Gam) (h1 : G "_law_pick" = some (iov, c_pick)) : Does G iov t_law_table 2 c_table := by
  intro ds K R h
  rw [c_table] at h
  obtain ⟨c, s, p, most, rfl, hs, ho, hk⟩ := h
  wtm_at "go"
  refine callD_io (by rfl) ?_
  refine i_pick hs (by omega) fun d c1 s1 d1 d2 hs1 => ?_
  wtm_at "go"
  refine callD_io (by rfl) ?_
  refine i_pick hs1 (by omega) fun d' c2 s2 d3 d4 hs2 => ?_
  wtm_at "go"
  exact hk _ _ _ _ (by omega) (by omega) (by omega) (by omega) hs2
end DL

set_option maxHeartbeats 1000000
namespace DL
open PySem L2
local macro_rules | `(tactic| wtm_at "run") => `(tactic| conv => whnf)
local macro_rules | `(tactic| wtm_at "sz") => `(tactic| (rw [line_eq]; simp only [List.length_cons, List.length_nil, List.length_map, List.length_append, rg_length, rngD_rg]; omega))
local macro_rules | `(tactic| wtm_at "go") => `(tactic| ((conv => whnf); repeat (first
  | ((with_reducible refine eq_int ?_); conv => whnf) | ((with_reducible refine ne_int ?_); conv => whnf)
  | ((with_reducible refine lt_int ?_); conv => whnf) | ((with_reducible refine le_int ?_); conv => whnf) | ((with_reducible refine gt_int ?_); conv => whnf) | ((with_reducible refine ge_int ?_); conv => whnf)
  | ((with_reducible refine idx_0 ?_); conv => whnf) | ((with_reducible refine idx_1 ?_); conv => whnf)
  | ((with_reducible refine iteB_T ?_); conv => whnf) | ((with_reducible refine iteB_F ?_); conv => whnf) | ((with_reducible refine iteB_nT ?_); conv => whnf) | ((with_reducible refine iteB_nF ?_); conv => whnf)
  | ((with_reducible refine iteB_n0 ?_); conv => whnf) | ((with_reducible refine iteB_n1 ?_); conv => whnf) | ((with_reducible refine iteB_n2 ?_); conv => whnf) | ((with_reducible refine iteB_n3 ?_); conv => whnf) | ((with_reducible refine iteB_n4 ?_); conv => whnf) | ((with_reducible refine iteB_n5 ?_); conv => whnf)
  | ((with_reducible refine seq_lst ?_); conv => whnf) | ((with_reducible refine seq_tup ?_); conv => whnf)
  | ((with_reducible refine eq_pairs ?_); conv => whnf) | ((with_reducible refine ne_pairs ?_); conv => whnf) | ((with_reducible refine eq_pairs0 ?_); conv => whnf) | ((with_reducible refine ne_pairs0 ?_); conv => whnf)
  | ((with_reducible refine eq_ints ?_); conv => whnf) | ((with_reducible refine ne_ints ?_); conv => whnf) | ((with_reducible refine eq_ints0 ?_); conv => whnf) | ((with_reducible refine ne_ints0 ?_); conv => whnf)
  | ((with_reducible refine eq_tints ?_); conv => whnf) | ((with_reducible refine ne_tints ?_); conv => whnf) | ((with_reducible refine eq_tints0 ?_); conv => whnf) | ((with_reducible refine ne_tints0 ?_); conv => whnf)
  | ((with_reducible refine eq_pair ?_); conv => whnf) | ((with_reducible refine ne_pair ?_); conv => whnf)
  | ((with_reducible refine is_non ?_); conv => whnf) | ((with_reducible refine isnot_non ?_); conv => whnf) | ((with_reducible refine is_bl ?_); conv => whnf) | ((with_reducible refine isnot_bl ?_); conv => whnf)
  | ((with_reducible refine in_pairs ?_); conv => whnf) | ((with_reducible refine notIn_pairs ?_); conv => whnf)
  | ((with_reducible refine slice_l ?_); conv => whnf) | ((with_reducible refine slice_t ?_); conv => whnf)
  | ((with_reducible apply callG_i); (with_reducible assumption); rfl; conv => whnf)
  | (refine callD_v (by rfl) (by rfl) ?_)
  | ((with_reducible refine And.intro rfl ?_); conv => whnf)
  | ((with_reducible refine And.intro (pos_i (by omega)) ?_); conv => whnf)
  | ((with_reducible apply hasD_and); rfl; conv => whnf)
  | ((with_reducible refine And.intro (ownL_i rfl) ?_); conv => whnf)
  | ((with_reducible refine idx_l0 ?_); conv => whnf) | ((with_reducible refine idx_l1 ?_); conv => whnf) | ((with_reducible refine idx_l2 ?_); conv => whnf)
  | ((with_reducible refine And.intro (mul_l (by omega)) ?_); conv => whnf)
  | ((with_reducible refine And.intro (mul_r (by omega)) ?_); conv => whnf)
  | ((with_reducible refine And.intro (div_ok (by omega)) ?_); conv => whnf)
  | ((with_reducible refine And.intro (rng_ok (by ((try simp only [List.length_map]); omega))) ?_); conv => whnf)
  | ((with_reducible refine And.intro (line_le (by ((try simp only [List.length_cons, List.length_nil, List.length_map, List.length_append, rg_length, rngD_rg]); omega))) ?_); conv => whnf)
  | ((with_reducible apply idx_at); rfl; conv => whnf)
  )))
local macro_rules | `(tactic| wtm_at "mono") => `(tactic| (intro ds K K' R R' h hR q; (repeat (first | (refine Exists.imp (fun _ q => ?_) q; rename_i q) | (refine And.imp_right (fun q => ?_) q; rename_i q))); first | exact h _ _ q | exact ite_m (fun z => h _ _ z) (fun z => hR _ z) q | (intros; refine h _ _ (q _ _ _ ?_ ?_ ?_) <;> assumption) | (intros; refine h _ _ (q _ _ _ ?_) <;> assumption) | (intros; refine h _ _ (q _ _ _ _ ?_ ?_ ?_ ?_ ?_) <;> assumption)))
/-! ### slices of lists that are maps -/
theorem cutD_take {xs : List D} {c : Int} (h0 : 0 ≤ c) : cutD xs none (some c) = xs.take c.toNat := by
  unfold cutD HT.sIx
  simp only [if_neg (show ¬ c < 0 by omega), List.drop_zero, Nat.sub_zero]
  rw [← List.take_take, List.take_length]
theorem cutD_drop {xs : List D} {c : Int} (h0 : 0 ≤ c) : cutD xs (some c) none = xs.drop c.toNat := by
  unfold cutD HT.sIx
  simp only [if_neg (show ¬ c < 0 by omega)]
  by_cases h : c.toNat ≤ xs.length
  · rw [Nat.min_eq_left h]
    exact List.take_of_length_le (by rw [List.length_drop]; omega)
  · rw [Nat.min_eq_right (by omega), List.drop_length, List.drop_of_length_le (by omega)]
    simp
theorem cutD_mid {xs : List D} {c e : Int} (h0 : 0 ≤ c) (h1 : 0 ≤ e) : cutD xs (some c) (some e) = (xs.drop c.toNat).take (e.toNat - c.toNat) := by
  unfold cutD HT.sIx
  simp only [if_neg (show ¬ c < 0 by omega), if_neg (show ¬ e < 0 by omega)]
  by_cases h : c.toNat ≤ xs.length
  · rw [Nat.min_eq_left h]
    by_cases h2 : e.toNat ≤ xs.length
    · rw [Nat.min_eq_left h2]
    · rw [Nat.min_eq_right (by omega), List.take_of_length_le (by rw [List.length_drop]; omega), List.take_of_length_le (by rw [List.length_drop]; omega)]
  · rw [Nat.min_eq_right (show xs.length ≤ c.toNat by omega), List.drop_length, List.drop_of_length_le (by omega)]
    simp
theorem cut_take {α : Type} {e : α → D} {l : List α} {c : Int} (h0 : 0 ≤ c) : cutD (l.map e) none (some c) = (l.take c.toNat).map e := by rw [cutD_take h0, List.map_take]
theorem cut_drop {α : Type} {e : α → D} {l : List α} {c : Int} (h0 : 0 ≤ c) : cutD (l.map e) (some c) none = (l.drop c.toNat).map e := by rw [cutD_drop h0, List.map_drop]
/-- an item of a written list -/
theorem menu {l : List D} {d : Int} (h0 : 0 ≤ d) (h1 : d < l.length) : ∃ x ∈ l, atI l d = some x := by
  rw [atI_lt h0 h1]
  have : d.toNat < l.length := by omega
  exact ⟨l[d.toNat], List.getElem_mem this, List.getElem?_eq_getElem this⟩
@[irreducible] def c_next_states : Ctr := fun ds K _ => ∃ reds top left low p, ds = [tabD reds top, tabD left low, .int p] ∧ Tb reds top ∧ St reds top (left, low) ∧ (0 ≤ p ∧ p ≤ 300) ∧ K (.o (.l ((nextL top left low p).map pD))) []
theorem i_next_states {reds top left low p : Int} {K : Rs → List D → Prop} {R : Str → Prop} (ho : Tb reds top) (hs : St reds top (left, low)) (hp : 0 ≤ p ∧ p ≤ 300) (hk : K (.o (.l ((nextL top left low p).map pD))) []) : c_next_states [tabD reds top, tabD left low, .int p] K R := by
  rw [c_next_states]; exact ⟨reds, top, left, low, p, rfl, ho, hs, hp, hk⟩
theorem isState_ok {reds top l w : Int} (h : St reds top (l, w)) : isStateD reds top (tabD l w) = true := by
  obtain ⟨h1, h2, h3, h4, h5⟩ := h
  dsimp only at *
  simp only [isStateD, isIntD, Bool.and_eq_true, Bool.or_eq_true, decide_eq_true_eq]
  omega
theorem yes_state {reds top l w : Int} {A B : Prop} (h : St reds top (l, w)) (hk : A) : if isStateD reds top (tabD l w) = true then A else B := by rw [if_pos (isState_ok h)]; exact hk
theorem yes_int {i lo hi : Int} {A B : Prop} (h : lo ≤ i ∧ i ≤ hi) (hk : A) : if isIntD (.int i) lo hi = true then A else B := by
  rw [if_pos (by simp only [isIntD, decide_eq_true_eq]; exact h)]; exact hk
theorem w_next_states (G : Gam) (h1 : G "require_table" = some (v1, c_require_table)) (h2 : G "require_state" = some (v2, c_require_state)) (h3 : G "require_points" = some (v2, c_require_points)) (h4 : G "next_of" = some (v3, c_next_of)) : Does G v3 t_next_states 3 c_next_states := by
  intro ds K R h
  rw [c_next_states] at h
  obtain ⟨reds, top, left, low, p, rfl, ho, hs, hp, hk⟩ := h
  wtm_at "go"
  refine i_require_table (tame_tab _ _) (yes_table ho ?_)
  wtm_at "go"
  refine i_require_state (tame_tab _ _) (yes_state hs ?_)
  wtm_at "go"
  refine i_require_points rfl (yes_int (by omega) ?_)
  wtm_at "go"
  obtain ⟨q1, q2, q3, q4, q5⟩ := hs
  exact i_next_of (by dsimp only at *; omega) hk
theorem menuI (l : List Int) {d : Int} (h0 : 0 ≤ d) (h1 : d < l.length) : ∃ x ∈ l, atI (l.map iD) d = some (.int x) := by
  rw [atI_lt h0 (by rw [List.length_map]; exact h1), List.getElem?_map]
  have : d.toNat < l.length := by omega
  exact ⟨l[d.toNat], List.getElem_mem this, by rw [List.getElem?_eq_getElem this]; rfl⟩
theorem iv_append (a b : List Int) : D.tup (a.map iD ++ b.map iD) = iv (a ++ b) := by rw [iv, List.map_append]
theorem iv_snoc (a : List Int) (x : Int) : D.tup (a.map iD ++ [.int x]) = iv (a ++ [x]) := by rw [iv, List.map_append]; rfl
theorem iv_snoc2 (a : List Int) (x y : Int) : D.tup (a.map iD ++ [.int x, .int y]) = iv (a ++ [x, y]) := by rw [iv, List.map_append]; rfl
theorem atI_iv {l : List Int} {i : Int} (h0 : 0 ≤ i) (h1 : i < l.length) : atI (l.map iD) i = some (.int (l.getD i.toNat 0)) := by
  rw [atI_lt h0 (by rw [List.length_map]; exact h1), List.getElem?_map, List.getD_eq_getElem?_getD]
  have : i.toNat < l.length := by omega
  rw [List.getElem?_eq_getElem this]
  rfl
theorem wS1 {s : DSt} {vs : List Nat} {i : Nat} {v : Option Sl} (h : i ∈ vs) : wipeD ((wipeD s vs).set i v) vs = wipeD s vs := by
  have e : ∀ t : DSt, wipeD (wipeD t vs) vs = wipeD t vs := fun t => wipeD_wipe fun _ h => h
  apply List.ext_getElem?
  intro j
  by_cases c : j ∈ vs
  · rw [wipeD_key c, wipeD_key c, List.length_set, wipeD_length]
  · rw [wipeD_out c, List.getElem?_set_ne (fun z => c (by rw [← z]; exact h))]
theorem wS2 {s : DSt} {vs : List Nat} {i j : Nat} {v w : Option Sl} (h : i ∈ vs) (h2 : j ∈ vs) : wipeD (((wipeD s vs).set i v).set j w) vs = wipeD s vs := by
  apply List.ext_getElem?
  intro k
  by_cases c : k ∈ vs
  · rw [wipeD_key c, wipeD_key c, List.length_set, List.length_set, wipeD_length]
  · rw [wipeD_out c, List.getElem?_set_ne (fun z => c (by rw [← z]; exact h2)), List.getElem?_set_ne (fun z => c (by rw [← z]; exact h))]
end DL

set_option maxHeartbeats 1000000
namespace DL
open PySem L2
local macro_rules | `(tactic| wtm_at "run") => `(tactic| conv => whnf)
local macro_rules | `(tactic| wtm_at "sz") => `(tactic| (rw [line_eq]; simp only [List.length_cons, List.length_nil, List.length_map, List.length_append, rg_length, rngD_rg]; omega))
local macro_rules | `(tactic| wtm_at "go") => `(tactic| ((conv => whnf); repeat (first
  | ((with_reducible refine eq_int ?_); conv => whnf) | ((with_reducible refine ne_int ?_); conv => whnf)
  | ((with_reducible refine lt_int ?_); conv => whnf) | ((with_reducible refine le_int ?_); conv => whnf) | ((with_reducible refine gt_int ?_); conv => whnf) | ((with_reducible refine ge_int ?_); conv => whnf)
  | ((with_reducible refine idx_0 ?_); conv => whnf) | ((with_reducible refine idx_1 ?_); conv => whnf)
  | ((with_reducible refine iteB_T ?_); conv => whnf) | ((with_reducible refine iteB_F ?_); conv => whnf) | ((with_reducible refine iteB_nT ?_); conv => whnf) | ((with_reducible refine iteB_nF ?_); conv => whnf)
  | ((with_reducible refine iteB_n0 ?_); conv => whnf) | ((with_reducible refine iteB_n1 ?_); conv => whnf) | ((with_reducible refine iteB_n2 ?_); conv => whnf) | ((with_reducible refine iteB_n3 ?_); conv => whnf) | ((with_reducible refine iteB_n4 ?_); conv => whnf) | ((with_reducible refine iteB_n5 ?_); conv => whnf)
  | ((with_reducible refine seq_lst ?_); conv => whnf) | ((with_reducible refine seq_tup ?_); conv => whnf)
  | ((with_reducible refine eq_pairs ?_); conv => whnf) | ((with_reducible refine ne_pairs ?_); conv => whnf) | ((with_reducible refine eq_pairs0 ?_); conv => whnf) | ((with_reducible refine ne_pairs0 ?_); conv => whnf)
  | ((with_reducible refine eq_ints ?_); conv => whnf) | ((with_reducible refine ne_ints ?_); conv => whnf) | ((with_reducible refine eq_ints0 ?_); conv => whnf) | ((with_reducible refine ne_ints0 ?_); conv => whnf)
  | ((with_reducible refine eq_tints ?_); conv => whnf) | ((with_reducible refine ne_tints ?_); conv => whnf) | ((with_reducible refine eq_tints0 ?_); conv => whnf) | ((with_reducible refine ne_tints0 ?_); conv => whnf)
  | ((with_reducible refine eq_pair ?_); conv => whnf) | ((with_reducible refine ne_pair ?_); conv => whnf)
  | ((with_reducible refine is_non ?_); conv => whnf) | ((with_reducible refine isnot_non ?_); conv => whnf) | ((with_reducible refine is_bl ?_); conv => whnf) | ((with_reducible refine isnot_bl ?_); conv => whnf)
  | ((with_reducible refine in_pairs ?_); conv => whnf) | ((with_reducible refine notIn_pairs ?_); conv => whnf)
  | ((with_reducible refine slice_l ?_); conv => whnf) | ((with_reducible refine slice_t ?_); conv => whnf)
  | ((with_reducible apply callG_i); (with_reducible assumption); rfl; conv => whnf)
  | (refine callD_v (by rfl) (by rfl) ?_)
  | ((with_reducible refine And.intro rfl ?_); conv => whnf)
  | ((with_reducible refine And.intro (pos_i (by omega)) ?_); conv => whnf)
  | ((with_reducible apply hasD_and); rfl; conv => whnf)
  | ((with_reducible refine And.intro (ownL_i rfl) ?_); conv => whnf)
  | ((with_reducible refine idx_l0 ?_); conv => whnf) | ((with_reducible refine idx_l1 ?_); conv => whnf) | ((with_reducible refine idx_l2 ?_); conv => whnf)
  | ((with_reducible refine And.intro (mul_l (by omega)) ?_); conv => whnf)
  | ((with_reducible refine And.intro (mul_r (by omega)) ?_); conv => whnf)
  | ((with_reducible refine And.intro (div_ok (by omega)) ?_); conv => whnf)
  | ((with_reducible refine And.intro (rng_ok (by ((try simp only [List.length_map]); omega))) ?_); conv => whnf)
  | ((with_reducible refine And.intro (line_le (by ((try simp only [List.length_cons, List.length_nil, List.length_map, List.length_append, rg_length, rngD_rg]); omega))) ?_); conv => whnf)
  | ((with_reducible apply idx_at); rfl; conv => whnf)
  )))
local macro_rules | `(tactic| wtm_at "mono") => `(tactic| (intro ds K K' R R' h hR q; (repeat (first | (refine Exists.imp (fun _ q => ?_) q; rename_i q) | (refine And.imp_right (fun q => ?_) q; rename_i q))); first | exact h _ _ q | exact ite_m (fun z => h _ _ z) (fun z => hR _ z) q | (intros; refine h _ _ (q _ _ _ ?_ ?_ ?_) <;> assumption) | (intros; refine h _ _ (q _ _ _ ?_) <;> assumption) | (intros; refine h _ _ (q _ _ _ _ ?_ ?_ ?_ ?_ ?_) <;> assumption)))
theorem m_colour_sum : CMono c_colour_sum := by
  unfold c_colour_sum
  wtm_at "mono"
theorem m_comes : CMono c_comes := by
  unfold c_comes
  wtm_at "mono"
theorem m_next_of : CMono c_next_of := by
  unfold c_next_of
  wtm_at "mono"
theorem m_is_integer : CMono c_is_integer := by
  unfold c_is_integer
  wtm_at "mono"
theorem m_is_table : CMono c_is_table := by
  unfold c_is_table
  wtm_at "mono"
theorem m_require_table : CMono c_require_table := by
  unfold c_require_table
  wtm_at "mono"
theorem m_is_state_of : CMono c_is_state_of := by
  unfold c_is_state_of
  wtm_at "mono"
theorem m_is_book : CMono c_is_book := by
  unfold c_is_book
  wtm_at "mono"
theorem m_require_book : CMono c_require_book := by
  unfold c_require_book
  wtm_at "mono"
theorem m_require_state : CMono c_require_state := by
  unfold c_require_state
  wtm_at "mono"
theorem m_require_points : CMono c_require_points := by
  unfold c_require_points
  wtm_at "mono"
theorem m_require_top : CMono c_require_top := by
  unfold c_require_top
  wtm_at "mono"
theorem m_states_from : CMono c_states_from := by
  unfold c_states_from
  wtm_at "mono"
theorem m_states_of : CMono c_states_of := by
  unfold c_states_of
  wtm_at "mono"
theorem m_states_after : CMono c_states_after := by
  unfold c_states_after
  wtm_at "mono"
theorem m_fits : CMono c_fits := by
  unfold c_fits
  wtm_at "mono"
theorem m_reds_left : CMono c_reds_left := by
  unfold c_reds_left
  wtm_at "mono"
theorem m_source : CMono c_source := by
  unfold c_source
  wtm_at "mono"
theorem m_pick : CMono c_pick := by
  unfold c_pick
  wtm_at "mono"
theorem m_table : CMono c_table := by
  unfold c_table
  wtm_at "mono"
theorem m_next_states : CMono c_next_states := by
  unfold c_next_states
  wtm_at "mono"
end DL

set_option maxHeartbeats 1000000
namespace DL
open PySem L2
local macro_rules | `(tactic| wtm_at "run") => `(tactic| conv => whnf)
local macro_rules | `(tactic| wtm_at "sz") => `(tactic| (rw [line_eq]; simp only [List.length_cons, List.length_nil, List.length_map, List.length_append, rg_length, rngD_rg]; omega))
local macro_rules | `(tactic| wtm_at "go") => `(tactic| ((conv => whnf); repeat (first
  | ((with_reducible refine eq_int ?_); conv => whnf) | ((with_reducible refine ne_int ?_); conv => whnf)
  | ((with_reducible refine lt_int ?_); conv => whnf) | ((with_reducible refine le_int ?_); conv => whnf) | ((with_reducible refine gt_int ?_); conv => whnf) | ((with_reducible refine ge_int ?_); conv => whnf)
  | ((with_reducible refine idx_0 ?_); conv => whnf) | ((with_reducible refine idx_1 ?_); conv => whnf)
  | ((with_reducible refine iteB_T ?_); conv => whnf) | ((with_reducible refine iteB_F ?_); conv => whnf) | ((with_reducible refine iteB_nT ?_); conv => whnf) | ((with_reducible refine iteB_nF ?_); conv => whnf)
  | ((with_reducible refine iteB_n0 ?_); conv => whnf) | ((with_reducible refine iteB_n1 ?_); conv => whnf) | ((with_reducible refine iteB_n2 ?_); conv => whnf) | ((with_reducible refine iteB_n3 ?_); conv => whnf) | ((with_reducible refine iteB_n4 ?_); conv => whnf) | ((with_reducible refine iteB_n5 ?_); conv => whnf)
  | ((with_reducible refine seq_lst ?_); conv => whnf) | ((with_reducible refine seq_tup ?_); conv => whnf)
  | ((with_reducible refine eq_pairs ?_); conv => whnf) | ((with_reducible refine ne_pairs ?_); conv => whnf) | ((with_reducible refine eq_pairs0 ?_); conv => whnf) | ((with_reducible refine ne_pairs0 ?_); conv => whnf)
  | ((with_reducible refine eq_ints ?_); conv => whnf) | ((with_reducible refine ne_ints ?_); conv => whnf) | ((with_reducible refine eq_ints0 ?_); conv => whnf) | ((with_reducible refine ne_ints0 ?_); conv => whnf)
  | ((with_reducible refine eq_tints ?_); conv => whnf) | ((with_reducible refine ne_tints ?_); conv => whnf) | ((with_reducible refine eq_tints0 ?_); conv => whnf) | ((with_reducible refine ne_tints0 ?_); conv => whnf)
  | ((with_reducible refine eq_pair ?_); conv => whnf) | ((with_reducible refine ne_pair ?_); conv => whnf)
  | ((with_reducible refine is_non ?_); conv => whnf) | ((with_reducible refine isnot_non ?_); conv => whnf) | ((with_reducible refine is_bl ?_); conv => whnf) | ((with_reducible refine isnot_bl ?_); conv => whnf)
  | ((with_reducible refine in_pairs ?_); conv => whnf) | ((with_reducible refine notIn_pairs ?_); conv => whnf)
  | ((with_reducible refine slice_l ?_); conv => whnf) | ((with_reducible refine slice_t ?_); conv => whnf)
  | ((with_reducible apply callG_i); (with_reducible assumption); rfl; conv => whnf)
  | (refine callD_v (by rfl) (by rfl) ?_)
  | ((with_reducible refine And.intro rfl ?_); conv => whnf)
  | ((with_reducible refine And.intro (pos_i (by omega)) ?_); conv => whnf)
  | ((with_reducible apply hasD_and); rfl; conv => whnf)
  | ((with_reducible refine And.intro (ownL_i rfl) ?_); conv => whnf)
  | ((with_reducible refine idx_l0 ?_); conv => whnf) | ((with_reducible refine idx_l1 ?_); conv => whnf) | ((with_reducible refine idx_l2 ?_); conv => whnf)
  | ((with_reducible refine And.intro (mul_l (by omega)) ?_); conv => whnf)
  | ((with_reducible refine And.intro (mul_r (by omega)) ?_); conv => whnf)
  | ((with_reducible refine And.intro (div_ok (by omega)) ?_); conv => whnf)
  | ((with_reducible refine And.intro (rng_ok (by ((try simp only [List.length_map]); omega))) ?_); conv => whnf)
  | ((with_reducible refine And.intro (line_le (by ((try simp only [List.length_cons, List.length_nil, List.length_map, List.length_append, rg_length, rngD_rg]); omega))) ?_); conv => whnf)
  | ((with_reducible apply idx_at); rfl; conv => whnf)
  )))
local macro_rules | `(tactic| wtm_at "mono") => `(tactic| (intro ds K K' R R' h hR q; (repeat (first | (refine Exists.imp (fun _ q => ?_) q; rename_i q) | (refine And.imp_right (fun q => ?_) q; rename_i q))); first | exact h _ _ q | exact ite_m (fun z => h _ _ z) (fun z => hR _ z) q | (intros; refine h _ _ (q _ _ _ ?_ ?_ ?_) <;> assumption) | (intros; refine h _ _ (q _ _ _ ?_) <;> assumption) | (intros; refine h _ _ (q _ _ _ _ ?_ ?_ ?_ ?_ ?_) <;> assumption)))
/-- the range of reds of a visit -/
def rrD (top p : Int) : D := if p = 2 then .non else .tup [.int (loI top p), .int (hiI p)]
@[irreducible] def c_red_range : Ctr := fun ds K _ => ∃ top p, ds = [.int top, .int p] ∧ (3 ≤ top ∧ top ≤ 9) ∧ (0 ≤ p ∧ p ≤ 1000000000000) ∧ K (.v (rrD top p)) []
theorem i_red_range {top p : Int} {K : Rs → List D → Prop} {R : Str → Prop} (ho : 3 ≤ top ∧ top ≤ 9) (hp : 0 ≤ p ∧ p ≤ 1000000000000) (hk : K (.v (rrD top p)) []) : c_red_range [.int top, .int p] K R := by
  rw [c_red_range]; exact ⟨top, p, rfl, ho, hp, hk⟩
theorem m_red_range : CMono c_red_range := by
  unfold c_red_range
  wtm_at "mono"
theorem w_red_range (G : Gam) (h1 : G "require_top" = some (v1, c_require_top)) (h2 : G "require_points" = some (v2, c_require_points)) : Does G v2 t_red_range 2 c_red_range := by
  intro ds K R h
  rw [c_red_range] at h
  obtain ⟨top, p, rfl, ho, hp, hk⟩ := h
  wtm_at "go"
  refine i_require_top rfl (yes_int ho ?_)
  wtm_at "go"
  refine i_require_points rfl (yes_int hp ?_)
  wtm_at "go"
  unfold rrD at hk
  refine iteB_d (fun c => ?_) fun c => ?_
  · rw [if_pos c] at hk
    wtm_at "go"
    exact hk
  · rw [if_neg c] at hk
    wtm_at "go"
    exact hk
/-- the end of a list of states -/
theorem rlD_ivl {a b : Int} (h : a ≤ b) : rlD (ivl a b) = .tup [.int a, .int b] := by
  unfold rlD
  rw [ivl_head h, ivl_last h]
theorem rlD_zero {S : List (Int × Int)} (hn : S ≠ []) (h : ∀ x ∈ S, x.1 = 0) : rlD S = .tup [.int 0, .int 0] := by
  obtain ⟨x, S', rfl⟩ := List.exists_cons_of_ne_nil hn
  unfold rlD
  cases q : (x :: S').getLast? with
  | none => simp at q
  | some y =>
    simp only [List.head?_cons]
    rw [h x List.mem_cons_self, h y (List.mem_of_getLast? q)]
theorem sset_few {l : List Int} {q : Rs → Prop} (hl : l.length < 4000) (h : q (.o (.l ((ssI l).map iD)))) : ssetD (.lst (l.map iD)) q := sset_ints hl h
end DL

set_option maxHeartbeats 1000000
namespace DL
open PySem L2
local macro_rules | `(tactic| wtm_at "run") => `(tactic| conv => whnf)
local macro_rules | `(tactic| wtm_at "sz") => `(tactic| (rw [line_eq]; simp only [List.length_cons, List.length_nil, List.length_map, List.length_append, rg_length, rngD_rg]; omega))
local macro_rules | `(tactic| wtm_at "go") => `(tactic| ((conv => whnf); repeat (first
  | ((with_reducible refine eq_int ?_); conv => whnf) | ((with_reducible refine ne_int ?_); conv => whnf)
  | ((with_reducible refine lt_int ?_); conv => whnf) | ((with_reducible refine le_int ?_); conv => whnf) | ((with_reducible refine gt_int ?_); conv => whnf) | ((with_reducible refine ge_int ?_); conv => whnf)
  | ((with_reducible refine idx_0 ?_); conv => whnf) | ((with_reducible refine idx_1 ?_); conv => whnf)
  | ((with_reducible refine iteB_T ?_); conv => whnf) | ((with_reducible refine iteB_F ?_); conv => whnf) | ((with_reducible refine iteB_nT ?_); conv => whnf) | ((with_reducible refine iteB_nF ?_); conv => whnf)
  | ((with_reducible refine iteB_n0 ?_); conv => whnf) | ((with_reducible refine iteB_n1 ?_); conv => whnf) | ((with_reducible refine iteB_n2 ?_); conv => whnf) | ((with_reducible refine iteB_n3 ?_); conv => whnf) | ((with_reducible refine iteB_n4 ?_); conv => whnf) | ((with_reducible refine iteB_n5 ?_); conv => whnf)
  | ((with_reducible refine seq_lst ?_); conv => whnf) | ((with_reducible refine seq_tup ?_); conv => whnf)
  | ((with_reducible refine eq_pairs ?_); conv => whnf) | ((with_reducible refine ne_pairs ?_); conv => whnf) | ((with_reducible refine eq_pairs0 ?_); conv => whnf) | ((with_reducible refine ne_pairs0 ?_); conv => whnf)
  | ((with_reducible refine eq_ints ?_); conv => whnf) | ((with_reducible refine ne_ints ?_); conv => whnf) | ((with_reducible refine eq_ints0 ?_); conv => whnf) | ((with_reducible refine ne_ints0 ?_); conv => whnf)
  | ((with_reducible refine eq_tints ?_); conv => whnf) | ((with_reducible refine ne_tints ?_); conv => whnf) | ((with_reducible refine eq_tints0 ?_); conv => whnf) | ((with_reducible refine ne_tints0 ?_); conv => whnf)
  | ((with_reducible refine eq_pair ?_); conv => whnf) | ((with_reducible refine ne_pair ?_); conv => whnf)
  | ((with_reducible refine is_non ?_); conv => whnf) | ((with_reducible refine isnot_non ?_); conv => whnf) | ((with_reducible refine is_bl ?_); conv => whnf) | ((with_reducible refine isnot_bl ?_); conv => whnf)
  | ((with_reducible refine in_pairs ?_); conv => whnf) | ((with_reducible refine notIn_pairs ?_); conv => whnf)
  | ((with_reducible refine slice_l ?_); conv => whnf) | ((with_reducible refine slice_t ?_); conv => whnf)
  | ((with_reducible apply callG_i); (with_reducible assumption); rfl; conv => whnf)
  | (refine callD_v (by rfl) (by rfl) ?_)
  | ((with_reducible refine And.intro rfl ?_); conv => whnf)
  | ((with_reducible refine And.intro (pos_i (by omega)) ?_); conv => whnf)
  | ((with_reducible apply hasD_and); rfl; conv => whnf)
  | ((with_reducible refine And.intro (ownL_i rfl) ?_); conv => whnf)
  | ((with_reducible refine idx_l0 ?_); conv => whnf) | ((with_reducible refine idx_l1 ?_); conv => whnf) | ((with_reducible refine idx_l2 ?_); conv => whnf)
  | ((with_reducible refine And.intro (mul_l (by omega)) ?_); conv => whnf)
  | ((with_reducible refine And.intro (mul_r (by omega)) ?_); conv => whnf)
  | ((with_reducible refine And.intro (div_ok (by omega)) ?_); conv => whnf)
  | ((with_reducible refine And.intro (rng_ok (by ((try simp only [List.length_map]); omega))) ?_); conv => whnf)
  | ((with_reducible refine And.intro (line_le (by ((try simp only [List.length_cons, List.length_nil, List.length_map, List.length_append, rg_length, rngD_rg]); omega))) ?_); conv => whnf)
  | ((with_reducible apply idx_at); rfl; conv => whnf)
  )))
local macro_rules | `(tactic| wtm_at "mono") => `(tactic| (intro ds K K' R R' h hR q; (repeat (first | (refine Exists.imp (fun _ q => ?_) q; rename_i q) | (refine And.imp_right (fun q => ?_) q; rename_i q))); first | exact h _ _ q | exact ite_m (fun z => h _ _ z) (fun z => hR _ z) q | (intros; refine h _ _ (q _ _ _ ?_ ?_ ?_) <;> assumption) | (intros; refine h _ _ (q _ _ _ ?_) <;> assumption) | (intros; refine h _ _ (q _ _ _ _ ?_ ?_ ?_ ?_ ?_) <;> assumption)))
def n_is_score : List Str := ["top", "many", "points"]
def t_is_score : Ss := (.cons (.ret (.or (.cmp .eq (.var 2) (.var 1)) (.chain .le .le (.bin .add (.var 1) (.int 2)) (.var 2) (.bin .mul (.bin .add (.var 0) (.int 1)) (.var 1))))) .nil)
def n_require_left : List Str := ["table", "value"]
def t_require_left : Ss := (.cons (.ite (.not (.call "is_integer" (.cons (.var 1) (.cons (.int 1) (.cons (.idx (.var 0) (.int 0)) .nil))))) (.cons (.raise "InvalidNumber") .nil) (.nil)) .nil)
def n_can_stand : List Str := ["table", "first", "second", "left", "gone", "top", "many"]
def t_can_stand : Ss := (.cons (.ex (.call "require_table" (.cons (.var 0) .nil))) (.cons (.ex (.call "require_points" (.cons (.var 1) (.cons (.cst "MAX_POINTS" (300)) .nil)))) (.cons (.ex (.call "require_points" (.cons (.var 2) (.cons (.cst "MAX_POINTS" (300)) .nil)))) (.cons (.ex (.call "require_left" (.cons (.var 0) (.cons (.var 3) .nil)))) (.cons (.asgT [4, 5] (.tup (.cons (.bin .sub (.idx (.var 0) (.int 0)) (.var 3)) (.cons (.idx (.var 0) (.int 1)) .nil)))) (.cons (.ret (.bi .any (.cons (.comp (.and (.call "is_score" (.cons (.var 5) (.cons (.var 6) (.cons (.var 1) .nil)))) (.call "is_score" (.cons (.var 5) (.cons (.bin .sub (.var 4) (.var 6)) (.cons (.var 2) .nil))))) [("many", 6)] (.one 6) (.rng1 (.bin .add (.var 4) (.int 1))) (.bl true)) .nil))) .nil))))))
def n_count_pairs : List Str := ["table", "left", "gone", "top", "scores", "pairs", "many", "points", "first", "second"]
def t_count_pairs : Ss := (.cons (.ex (.call "require_table" (.cons (.var 0) .nil))) (.cons (.ex (.call "require_left" (.cons (.var 0) (.cons (.var 1) .nil)))) (.cons (.asgT [2, 3] (.tup (.cons (.bin .sub (.idx (.var 0) (.int 0)) (.var 1)) (.cons (.idx (.var 0) (.int 1)) .nil)))) (.cons (.par [4, 5] (.cons (.lst (.nil)) (.cons (.dNew true) .nil))) (.cons (.for_ (.one 6) (.rng1 (.bin .add (.var 2) (.int 1))) (.cons (.app 4 (.comp (.var 7) [("points", 7)] (.one 7) (.rng1 (.bin .add (.bin .mul (.bin .add (.var 3) (.int 1)) (.var 6)) (.int 1))) (.call "is_score" (.cons (.var 3) (.cons (.var 6) (.cons (.var 7) .nil)))))) .nil)) (.cons (.for_ (.one 6) (.rng1 (.bin .add (.var 2) (.int 1))) (.cons (.for_ (.one 8) (.seq (.ixo 4 (.var 6))) (.cons (.for_ (.one 9) (.seq (.ixo 4 (.bin .sub (.var 2) (.var 6)))) (.cons (.setIx 5 (.tup (.cons (.var 8) (.cons (.var 9) .nil))) (.bl true)) .nil)) .nil)) .nil)) (.cons (.ret (.leno 5)) .nil)))))))
def n_scores_of : List Str := ["book"]
def t_scores_of : Ss := (.cons (.ret (.tup (.cons (.bi .sum (.cons (.sl2 (.var 0)) .nil)) (.cons (.bi .sum (.cons (.sl12 (.var 0)) .nil)) .nil)))) .nil)
def n_scores : List Str := ["book"]
def t_scores : Ss := (.cons (.ex (.call "require_book" (.cons (.var 0) .nil))) (.cons (.ret (.call "scores_of" (.cons (.var 0) .nil))) .nil))
@[irreducible] def c_is_score : Ctr := fun ds K _ => ∃ top many p, ds = [.int top, .int many, .int p] ∧ (0 ≤ many ∧ many ≤ 1000) ∧ K (.v (.bl (decide (IsSc top many p)))) []
theorem i_is_score {top many p : Int} {K : Rs → List D → Prop} {R : Str → Prop} (ho : 0 ≤ many ∧ many ≤ 1000) (hk : K (.v (.bl (decide (IsSc top many p)))) []) : c_is_score [.int top, .int many, .int p] K R := by
  rw [c_is_score]; exact ⟨top, many, p, rfl, ho, hk⟩
theorem m_is_score : CMono c_is_score := by
  unfold c_is_score
  wtm_at "mono"
theorem w_is_score (G : Gam) : Does G v3 t_is_score 3 c_is_score := by
  intro ds K R h
  rw [c_is_score] at h
  obtain ⟨top, many, p, rfl, ho, hk⟩ := h
  unfold IsSc at hk
  wtm_at "go"
  refine iteB_d (fun c => ?_) fun c => ?_
  · wtm_at "go"
    simpa [c] using hk
  · wtm_at "go"
    refine iteB_d (fun c1 => ?_) fun c1 => ?_
    · wtm_at "go"
      simpa [c, c1] using hk
    · wtm_at "go"
      simpa [c, c1] using hk
@[irreducible] def c_require_left : Ctr := fun ds K R => ∃ reds top d, ds = [tabD reds top, d] ∧ d.odd = false ∧ (if isIntD d 1 reds = true then K (.v .non) [] else R "InvalidNumber")
theorem i_require_left {reds top : Int} {d : D} {K : Rs → List D → Prop} {R : Str → Prop} (ho : d.odd = false) (hk : if isIntD d 1 reds = true then K (.v .non) [] else R "InvalidNumber") : c_require_left [tabD reds top, d] K R := by
  rw [c_require_left]; exact ⟨reds, top, d, rfl, ho, hk⟩
theorem m_require_left : CMono c_require_left := by
  unfold c_require_left
  wtm_at "mono"
theorem w_require_left (G : Gam) (h1 : G "is_integer" = some (v3, c_is_integer)) : Does G v2 t_require_left 2 c_require_left := by
  intro ds K R h
  rw [c_require_left] at h
  obtain ⟨reds, top, d, rfl, ho, hk⟩ := h
  wtm_at "go"
  refine i_is_integer ho ?_
  wtm_at "go"
  cases e : isIntD d 1 reds <;> wtm_at "go" <;> simpa [e] using hk
/-- with arguments that are right -/
@[irreducible] def c_can_stand : Ctr := fun ds K _ => ∃ reds top a b l, ds = [tabD reds top, .int a, .int b, .int l] ∧ Tb reds top ∧ (0 ≤ a ∧ a ≤ 300) ∧ (0 ≤ b ∧ b ≤ 300) ∧ (1 ≤ l ∧ l ≤ reds) ∧ K (.v (.bl (canB top (reds - l) a b))) []
theorem i_can_stand {reds top a b l : Int} {K : Rs → List D → Prop} {R : Str → Prop} (ho : Tb reds top) (ha : 0 ≤ a ∧ a ≤ 300) (hb : 0 ≤ b ∧ b ≤ 300) (hl : 1 ≤ l ∧ l ≤ reds) (hk : K (.v (.bl (canB top (reds - l) a b))) []) : c_can_stand [tabD reds top, .int a, .int b, .int l] K R := by
  rw [c_can_stand]; exact ⟨reds, top, a, b, l, rfl, ho, ha, hb, hl, hk⟩
theorem m_can_stand : CMono c_can_stand := by
  unfold c_can_stand
  wtm_at "mono"
theorem bols_map2 {α : Type} (xs : List α) (q : α → Bool) : bolsD (xs.map fun x => D.bl (q x)) = some (xs.map q) := by
  induction xs with
  | nil => rfl
  | cons x xs ih => simp [bolsD, ih]
theorem w_can_stand (G : Gam) (h1 : G "require_table" = some (v1, c_require_table)) (h2 : G "require_points" = some (v2, c_require_points)) (h3 : G "require_left" = some (v2, c_require_left)) (h4 : G "is_score" = some (v3, c_is_score)) : Does G [.val, .val, .val, .val] t_can_stand 7 c_can_stand := by
  intro ds K R h
  rw [c_can_stand] at h
  obtain ⟨reds, top, a, b, l, rfl, ho, ha, hb, hl, hk⟩ := h
  wtm_at "go"
  refine i_require_table (tame_tab _ _) (yes_table ho ?_)
  wtm_at "go"
  refine i_require_points rfl (yes_int ha ?_)
  wtm_at "go"
  refine i_require_points rfl (yes_int hb ?_)
  wtm_at "go"
  refine i_require_left rfl (yes_int hl ?_)
  wtm_at "go"
  rw [rngD_rg]
  refine compE_map _ iD (fun m => .bl (decide (IsSc top m a) && decide (IsSc top (reds - l - m) b))) (fun m hm k' hk' => ?_) ?_
  · have hm2 := mem_rg.mp hm
    wtm_at "go"
    refine i_is_score (by omega) ?_
    wtm_at "go"
    refine iteB_d (fun c => ?_) fun c => ?_
    · wtm_at "go"
      refine i_is_score (by omega) ?_
      wtm_at "go"
      rw [decide_eq_true c, Bool.true_and] at hk'
      exact hk' _ (wS1 (by decide))
    · wtm_at "go"
      rw [decide_eq_false c, Bool.false_and] at hk'
      exact hk' _ (wS1 (by decide))
  · wtm_at "go"
    rw [bols_map2]
    wtm_at "go"
    rw [List.any_map]
    exact hk
/-! scores -/
def altI : List Int → List Int
  | [] => []
  | [x] => [x]
  | x :: _ :: r => x :: altI r
theorem alt_map : ∀ b : List Int, alt (b.map iD) = (altI b).map iD
  | [] => rfl
  | [x] => rfl
  | x :: y :: r => by simp only [List.map_cons, alt, altI, alt_map r]
theorem sumE_alt : ∀ b : List Int, (altI b).sum = sumE b
  | [] => by simp [altI, sumE]
  | [x] => by simp [altI, sumE, sumO]
  | x :: y :: r => by simp [altI, sumE, sumO, sumE_alt r]
theorem sumO_alt (b : List Int) : (altI (b.drop 1)).sum = sumO b := by
  cases b with
  | nil => simp [altI, sumO]
  | cons x r => rw [List.drop_one, List.tail_cons, sumE_alt, sumO]
@[irreducible] def c_scores_of : Ctr := fun ds K _ => ∃ b, ds = [iv b] ∧ b.length ≤ 1000 ∧ K (.v (.tup [.int (sumE b), .int (sumO b)])) []
theorem i_scores_of {b : List Int} {K : Rs → List D → Prop} {R : Str → Prop} (hb : b.length ≤ 1000) (hk : K (.v (.tup [.int (sumE b), .int (sumO b)])) []) : c_scores_of [iv b] K R := by
  rw [c_scores_of]; exact ⟨b, rfl, hb, hk⟩
theorem m_scores_of : CMono c_scores_of := by
  unfold c_scores_of
  wtm_at "mono"
theorem w_scores_of (G : Gam) : Does G v1 t_scores_of 1 c_scores_of := by
  intro ds K R h
  rw [c_scores_of] at h
  obtain ⟨b, rfl, hb, hk⟩ := h
  wtm_at "go"
  rw [alt_map, intsD_map]
  wtm_at "go"
  rw [← List.map_drop, alt_map, intsD_map]
  wtm_at "go"
  rw [sumE_alt, sumO_alt]
  exact hk
@[irreducible] def c_scores : Ctr := fun ds K _ => ∃ b, ds = [iv b] ∧ Bk b ∧ K (.v (.tup [.int (sumE b), .int (sumO b)])) []
theorem i_scores {b : List Int} {K : Rs → List D → Prop} {R : Str → Prop} (hb : Bk b) (hk : K (.v (.tup [.int (sumE b), .int (sumO b)])) []) : c_scores [iv b] K R := by
  rw [c_scores]; exact ⟨b, rfl, hb, hk⟩
theorem m_scores : CMono c_scores := by
  unfold c_scores
  wtm_at "mono"
theorem w_scores (G : Gam) (h1 : G "require_book" = some (v1, c_require_book)) (h2 : G "scores_of" = some (v1, c_scores_of)) : Does G v1 t_scores 1 c_scores := by
  intro ds K R h
  rw [c_scores] at h
  obtain ⟨b, rfl, hb, hk⟩ := h
  wtm_at "go"
  refine i_require_book (tame_iv _) (yes_book hb ?_)
  wtm_at "go"
  exact i_scores_of (by have := hb.1; omega) hk
end DL

set_option maxHeartbeats 2000000
namespace DL
open PySem PySem.Spec PyProof.Rows L2 C8
/-! ### tables of defs -/
structure Ent where
  name : Str
  ms : List Md
  C : Ctr
def getG : List Ent → Gam
  | [] => fun _ => none
  | e :: l => fun x => if x = e.name then some (e.ms, e.C) else getG l x
def tabL (cs : List (Str × Int)) (ex : List Str) (l : List Ent) : Tab := { G := getG l, cs := fun x => cs.lookup x, ex := fun c => ex.contains c, er := ex.contains "VisitError" }
theorem getG_mem {e : Ent} : ∀ {l : List Ent}, (l.map Ent.name).Nodup → e ∈ l → getG l e.name = some (e.ms, e.C)
  | a :: l, hn, h => by
    rw [List.map_cons, List.nodup_cons] at hn
    rcases List.mem_cons.mp h with rfl | h
    · exact if_pos rfl
    · have ne : e.name ≠ a.name := fun z => hn.1 (z ▸ List.mem_map_of_mem h)
      exact (if_neg ne).trans (getG_mem hn.2 h)
section
variable {P : Program} {w : World} {K : PySem.W.Frag} {mg : Str → Option Value} {base : Heap} {cs : List (Str × Int)} {ex : List Str} {l : List Ent} {k : Nat}
theorem TabOk.gm {T : Tab} (t : TabOk P w K mg base T k) : ∀ f ms C, T.G f = some (ms, C) → CMono C := fun f ms C h => by
  obtain ⟨j, _, F⟩ := t.fn f ms C h
  exact F.mono
theorem TabOk.add {e : Ent} (t : TabOk P w K mg base (tabL cs ex l) k) (f : FnAt P w K mg base (k + 1) e.name e.ms e.C) : TabOk P w K mg base (tabL cs ex (e :: l)) (k + 1) where
  bi := t.bi
  cs := t.cs
  exc := t.exc
  er := t.er
  fn := fun x ms C h => by
    simp only [tabL, getG] at h
    split at h
    · rename_i e1
      simp only [Option.some.injEq, Prod.mk.injEq] at h
      obtain ⟨rfl, rfl⟩ := h
      subst e1
      exact ⟨k + 1, Nat.le_refl _, f⟩
    · obtain ⟨j, hj, F⟩ := t.fn x ms C h
      exact ⟨j, by omega, F⟩
/-- an own exception class -/
def ExcFacts (K : PySem.W.Frag) (c : Str) : Prop := ∃ C : Addr, PySem.W.nsIn K mainGlobals c = some (some (.ref C)) ∧ PySem.W.excIn K C [.type "ValueError", .type "Exception", .type "BaseException", .type "object"] "ValueError.__new__" = true ∧ PySem.W.keepIn K (.ref C) = true ∧
    PySem.W.subIn K (.ref C) (.type "BaseException") = some true ∧ PySem.W.typeIn K (.ref C) = some (.type "type")
theorem ExcFacts.mk {K : PySem.W.Frag} {c : Str} {C : Addr} (a : PySem.W.nsIn K mainGlobals c = some (some (.ref C))) (b : PySem.W.excIn K C [.type "ValueError", .type "Exception", .type "BaseException", .type "object"] "ValueError.__new__" = true)
    (d : PySem.W.keepIn K (.ref C) = true) (e : PySem.W.subIn K (.ref C) (.type "BaseException") = some true) (f : PySem.W.typeIn K (.ref C) = some (.type "type")) : ExcFacts K c := ⟨C, a, b, d, e, f⟩
theorem ExcFacts.ok {c : Str} {h : Heap} (f : ExcFacts K c) (X : K.In h) (G : h.Ns mainGlobals mg) : ExcOk K mg c := by
  obtain ⟨C, a, b, d, e, q⟩ := f
  exact ⟨C, _, _, _, _, PySem.W.mg_of X G a, PySem.F.excBase_ValueError, b, d, e, q⟩
def ConFacts (K : PySem.W.Frag) (x : Str) (i : Int) : Prop := ∃ t, PySem.W.nsIn K mainGlobals x = some (some (.int i t))
theorem ConFacts.mk {K : PySem.W.Frag} {x : Str} {i : Int} {t : Nat} (a : PySem.W.nsIn K mainGlobals x = some (some (.int i t))) : ConFacts K x i := ⟨t, a⟩
theorem ConFacts.of {K : PySem.W.Frag} {h : Heap} (_ : K.In h) {x : Str} {i : Int} (t : ConFacts K x i) : ConFacts K x i := t
theorem ExcFacts.of {K : PySem.W.Frag} {h : Heap} (_ : K.In h) {x : Str} (t : ExcFacts K x) : ExcFacts K x := t
def NoFacts (K : PySem.W.Frag) (x : Str) : Prop := PySem.W.nsIn K mainGlobals x = some none
theorem NoFacts.of {K : PySem.W.Frag} {h : Heap} (_ : K.In h) {x : Str} (t : PySem.W.nsIn K mainGlobals x = some none) : NoFacts K x := t
theorem lookup_mem {x : Str} {i : Int} : ∀ {cs : List (Str × Int)}, cs.lookup x = some i → (x, i) ∈ cs
  | [], h => by cases h
  | (y, j) :: cs, h => by
    rw [List.lookup_cons] at h
    split at h
    · rename_i e
      simp only [Option.some.injEq] at h
      have := eq_of_beq e
      subst this h
      exact List.mem_cons_self
    · exact List.mem_cons_of_mem _ (lookup_mem h)
theorem tab0 {h : Heap} (X : K.In h) (G : h.Ns mainGlobals mg) (hb : ∀ x ∈ builtins, NoFacts K x) (hc : ∀ p ∈ cs, ConFacts K p.1 p.2) (he : ∀ c ∈ ex, ExcFacts K c) (her : ex.contains "VisitError" = true → ErrFn P w K mg base := by (intro h; exact absurd h (by decide +kernel))) : TabOk P w K mg base (tabL cs ex []) 1 where
  bi := fun x hx => PySem.W.mg_none_of X G (hb x hx)
  cs := fun x i e => by
    obtain ⟨t, a⟩ := hc _ (lookup_mem e)
    exact ⟨t, PySem.W.mg_of X G a⟩
  exc := fun c e => (he c (List.contains_iff_mem.mp e)).ok X G
  er := her
  fn := fun f ms C e => by cases e
/-- one more def -/
theorem TabOk.def {e : Ent} {st : Stmt} {N ps : List Str} {ss : Ss} {h : Heap} (t : TabOk P w K mg base (tabL cs ex l) k) (X : K.In h) (G : h.Ns mainGlobals mg) (hk : 1 ≤ k) (d : DefFacts K e.name st)
    (hb : ∀ (kV doc pm : Value) (an : Option Addr) (cdv ct : Value) (us : List Value), us.length = ps.length → bindArgs (PySem.W.fnOf e.name e.name (fnArgs st) (fnBody st) (fnScope st) .none kV doc pm an cdv ct) ⟨us, []⟩ = pure (ps.zip us))
    (hsc : scC N ps (fnScope st) = true) (hms : okMs e.ms = true) (hl : e.ms.length = ps.length) (chk : chkSs (tabL cs ex l) N (fnScope st) (fun _ => true) ss (fnBody st) = true)
    (hC : Does (tabL cs ex l).G e.ms ss N.length e.C) (mono : CMono e.C) : TabOk P w K mg base (tabL cs ex (e :: l)) (k + 1) := by
  obtain ⟨f, fd, Df, hd⟩ := d.def X G
  exact t.add (fn_term t hk Df (Df.fn.binds hd hb) hsc hms hl chk hC mono)
/-- the law itself, as the end wants it -/
theorem law_fn {st : Stmt} {N : List Str} {ss : Ss} {h : Heap} {fa : Addr} (X : K.In h) (G : h.Ns mainGlobals mg) (hk : 1 ≤ k) (d : DefFacts K "law" st) (hfa : mg "law" = some (.ref fa))
    (hb : ∀ (kV doc pm : Value) (an : Option Addr) (cdv ct : Value) (us : List Value), us.length = (["script"] : List Str).length → bindArgs (PySem.W.fnOf "law" "law" (fnArgs st) (fnBody st) (fnScope st) .none kV doc pm an cdv ct) ⟨us, []⟩ = pure ((["script"] : List Str).zip us))
    (hb2 : ∀ (kV doc pm : Value) (an : Option Addr) (cdv ct : Value) (s : Shared) (u : Value), BindsTo s (PySem.W.fnOf "law" "law" (fnArgs st) (fnBody st) (fnScope st) .none kV doc pm an cdv ct) ⟨[u], []⟩ [("script", u)])
    (hsc : scC N ["script"] (fnScope st) = true) (chk : chkSs (tabL cs ex l) N (fnScope st) (fun _ => true) ss (fnBody st) = true)
    (tt : ∀ base : Heap, K.In base → base.Ns mainGlobals mg → TabOk P w K mg base (tabL cs ex l) k) (hC : (∀ f ms C, (tabL cs ex l).G f = some (ms, C) → CMono C) → Does (tabL cs ex l).G [.val] ss N.length c_law) :
    ∃ fd : FuncData, (∀ (s : Shared) (u : Value), BindsTo s fd ⟨[u], []⟩ [("script", u)]) ∧ ∀ base : Heap, K.In base → base.Ns mainGlobals mg → FnOk P w K mg base (L2N.CX P w) (k + 1) fa fd ["script"] (spOf P w K mg [.val] c_law) := by
  obtain ⟨f, oc, od, sl, kV, dc, pm, an, cd, ct, a, lk, c, kp⟩ := id d
  have e := hfa.symm.trans (PySem.W.mg_of X G a)
  cases e
  refine ⟨_, fun s u => hb2 kV dc pm an cd ct s u, fun base hB hG => ?_⟩
  have t := tt base hB hG
  have Df : Def K mg "law" st fa (PySem.W.fnOf "law" "law" (fnArgs st) (fnBody st) (fnScope st) .none kV dc pm an cd ct) := ⟨⟨oc, od, .none, kV, dc, pm, an, cd, ct, sl, rfl, lk, c⟩, hfa, kp⟩
  exact fn_ok t hk Df hsc (by rfl) (by rfl) chk (hC t.gm)
end
end DL

namespace DL
/-! ### visits ball by ball: what is still to come -/
/-- behind j colours more -/
def conv (top : Int) (c : Int → Int) : Nat → Int → Int
  | 0, t => c t
  | j + 1, t => ((rg 2 (top + 1)).map fun b => conv top c j (t - b)).sum
theorem conv_shift (top a : Int) (c : Int → Int) : ∀ (j : Nat) (t : Int), conv top (fun t => c (t - a)) j t = conv top c j (t - a)
  | 0, t => rfl
  | j + 1, t => by
    simp only [conv]
    congr 1
    apply List.map_congr_left
    intro b _
    rw [conv_shift top a c j]
    congr 1
    omega
theorem conv_one (top : Int) (c : Int → Int) : ∀ (j : Nat) (t : Int), conv top (conv top c 1) j t = conv top c (j + 1) t
  | 0, t => rfl
  | j + 1, t => by
    rw [conv, conv]
    congr 1
    apply List.map_congr_left
    intro b _
    exact conv_one top c j (t - b)
theorem sum_nonneg : ∀ {l : List Int}, (∀ x ∈ l, 0 ≤ x) → 0 ≤ l.sum
  | [], _ => by simp
  | x :: l, h => by
    rw [List.sum_cons]
    have h1 := h x List.mem_cons_self
    have h2 := sum_nonneg (l := l) fun y hy => h y (List.mem_cons_of_mem _ hy)
    omega
theorem sum_ne {l : List Int} (h : ∀ x ∈ l, 0 ≤ x) : l.sum ≠ 0 ↔ ∃ x ∈ l, x ≠ 0 := by
  induction l with
  | nil => simp
  | cons x l ih =>
    have h1 := h x List.mem_cons_self
    have h2 := sum_nonneg (l := l) fun y hy => h y (List.mem_cons_of_mem _ hy)
    have ih := ih fun y hy => h y (List.mem_cons_of_mem _ hy)
    rw [List.sum_cons]
    constructor
    · intro e
      by_cases c : x = 0
      · obtain ⟨y, hy, hn⟩ := ih.mp (by omega)
        exact ⟨y, List.mem_cons_of_mem _ hy, hn⟩
      · exact ⟨x, List.mem_cons_self, c⟩
    · rintro ⟨y, hy, hn⟩
      rcases List.mem_cons.mp hy with rfl | hy
      · omega
      · have := ih.mpr ⟨y, hy, hn⟩
        omega
theorem conv_nonneg {top : Int} {c : Int → Int} (h : ∀ t, 0 ≤ c t) : ∀ (j : Nat) (t : Int), 0 ≤ conv top c j t
  | 0, t => h t
  | j + 1, t => by
    rw [conv]
    refine sum_nonneg fun x hx => ?_
    obtain ⟨b, _, rfl⟩ := List.mem_map.mp hx
    exact conv_nonneg h j _
theorem conv_ne {top : Int} {c : Int → Int} (h : ∀ t, 0 ≤ c t) (j : Nat) (t : Int) : conv top c (j + 1) t ≠ 0 ↔ ∃ b, 2 ≤ b ∧ b ≤ top ∧ conv top c j (t - b) ≠ 0 := by
  rw [conv, sum_ne fun x hx => by
    obtain ⟨b, _, rfl⟩ := List.mem_map.mp hx
    exact conv_nonneg h j _]
  constructor
  · rintro ⟨x, hx, hn⟩
    obtain ⟨b, hb, rfl⟩ := List.mem_map.mp hx
    rw [mem_rg] at hb
    exact ⟨b, by omega, by omega, hn⟩
  · rintro ⟨b, h1, h2, h3⟩
    exact ⟨_, List.mem_map.mpr ⟨b, by rw [mem_rg]; omega, rfl⟩, h3⟩
/-- nothing potted yet -/
def c0 (t : Int) : Int := if t = 0 then 1 else 0
theorem c0_nonneg (t : Int) : 0 ≤ c0 t := by unfold c0; split <;> omega
theorem conv0_ne {top : Int} (ht : 2 ≤ top) : ∀ (j : Nat) (t : Int), conv top c0 j t ≠ 0 ↔ 2 * (j : Int) ≤ t ∧ t ≤ top * (j : Int)
  | 0, t => by
    simp only [conv, c0]
    have : top * ((0 : Nat) : Int) = 0 := by simp
    rw [this]
    split <;> omega
  | j + 1, t => by
    rw [conv_ne c0_nonneg]
    have e : top * ((j + 1 : Nat) : Int) = top * (j : Int) + top := by
      rw [show ((j + 1 : Nat) : Int) = (j : Int) + 1 by omega, Int.mul_add, Int.mul_one]
    rw [e]
    have hj : 2 * (j : Int) ≤ top * (j : Int) := Int.mul_le_mul_of_nonneg_right ht (by omega)
    constructor
    · rintro ⟨b, h1, h2, h3⟩
      have := (conv0_ne ht j (t - b)).mp h3
      omega
    · rintro ⟨h1, h2⟩
      by_cases c : t - 2 ≤ top * (j : Int)
      · exact ⟨2, by omega, ht, (conv0_ne ht j (t - 2)).mpr (by omega)⟩
      · exact ⟨t - top * (j : Int), by omega, by omega, (conv0_ne ht j _).mpr (by omega)⟩
/-- the ends still to come, from (a, w) on, no red potted last -/
def remC (top a w : Int) (c : Int → Int) (t x y : Int) : Int :=
  if a = 0 then (if x = 0 ∧ w ≤ y ∧ y ≤ top + 1 then c (t - colS w (y - w)) else 0)
  else if x = a ∧ y = 2 then c t
  else if y = 2 ∧ 0 ≤ x ∧ x < a then conv top c (a - x - 1).toNat (t - (a - x)) + conv top c (a - x).toNat (t - (a - x))
  else if x = 0 ∧ 3 ≤ y ∧ y ≤ top + 1 then conv top c a.toNat (t - a - colS 2 (y - 2)) else 0
/-- .. behind a red -/
def remR (top a : Int) (c : Int → Int) (t x y : Int) : Int := (if x = a ∧ y = 2 then c t else 0) + remC top a 2 (conv top c 1) t x y
theorem colS_first {w n : Int} (hn : 1 ≤ n) : colS w n = w + colS (w + 1) (n - 1) := by
  have h := half_succ (n - 1)
  unfold colS
  rw [show n - 1 + 1 = n by omega] at h
  rw [h]
  have e1 : n * w = (n - 1) * w + w := by rw [Int.sub_mul]; omega
  have e2 : (n - 1) * (w + 1) = (n - 1) * w + (n - 1) := by rw [Int.mul_add, Int.mul_one]
  rw [e1, e2]
  omega
theorem rem_clear {top w t x y : Int} {c : Int → Int} (hw : w ≤ top) : remC top 0 w c t x y = (if x = 0 ∧ y = w then c t else 0) + remC top 0 (w + 1) (fun t => c (t - w)) t x y := by
  unfold remC
  rw [if_pos rfl, if_pos rfl]
  by_cases h : x = 0 ∧ y = w
  · obtain ⟨rfl, rfl⟩ := h
    rw [if_pos (by omega), if_pos (by omega), if_neg (by omega), Int.sub_self, colS_zero, Int.sub_zero, Int.add_zero]
  · rw [if_neg h, Int.zero_add]
    by_cases h2 : x = 0 ∧ w ≤ y ∧ y ≤ top + 1
    · rw [if_pos h2, if_pos (by omega), colS_first (n := y - w) (by omega)]
      congr 1
      rw [show y - w - 1 = y - (w + 1) by omega]
      omega
    · rw [if_neg h2, if_neg (by omega)]
theorem rem_end {top t x y : Int} {c : Int → Int} : remC top 0 (top + 1) c t x y = if x = 0 ∧ y = top + 1 then c t else 0 := by
  unfold remC
  rw [if_pos rfl]
  by_cases h : x = 0 ∧ y = top + 1
  · obtain ⟨rfl, rfl⟩ := h
    rw [if_pos (by omega), if_pos (by omega), Int.sub_self, colS_zero, Int.sub_zero]
  · rw [if_neg h, if_neg (by omega)]
theorem rem_red {top a t x y : Int} {c : Int → Int} (ht : 1 ≤ top) (ha : 0 < a) : remC top a 2 c t x y = (if x = a ∧ y = 2 then c t else 0) + remR top (a - 1) (fun t => c (t - 1)) t x y := by
  have key : ∀ (j : Nat) (t : Int), conv top (conv top (fun t => c (t - 1)) 1) j t = conv top c (j + 1) (t - 1) := fun j t => by
    rw [conv_one, conv_shift]
  unfold remR remC
  rw [if_neg (by omega)]
  by_cases h1 : x = a ∧ y = 2
  · obtain ⟨rfl, rfl⟩ := h1
    have z1 : ¬ (x = x - 1 ∧ (2 : Int) = 2) := by omega
    rw [if_pos ⟨rfl, rfl⟩, if_neg z1]
    by_cases a1 : x - 1 = 0
    · have z2 : ¬ (x = 0 ∧ (2 : Int) ≤ 2 ∧ 2 ≤ top + 1) := by omega
      rw [if_pos a1, if_neg z2]; omega
    · have z2 : ¬ ((2 : Int) = 2 ∧ 0 ≤ x ∧ x < x - 1) := by omega
      have z3 : ¬ (x = 0 ∧ (3 : Int) ≤ 2 ∧ 2 ≤ top + 1) := by omega
      rw [if_neg a1, if_neg z1, if_neg z2, if_neg z3]; omega
  · rw [if_neg h1, if_neg h1]
    by_cases h2 : y = 2 ∧ 0 ≤ x ∧ x < a
    · obtain ⟨rfl, h2, h3⟩ := h2
      rw [if_pos ⟨rfl, h2, h3⟩]
      by_cases h4 : x = a - 1
      · subst h4
        rw [if_pos ⟨rfl, rfl⟩, show a - (a - 1) - 1 = 0 by omega, show a - (a - 1) = 1 by omega]
        have e1 : conv top c (Int.toNat 0) (t - 1) = c (t - 1) := rfl
        have e2 : conv top c (Int.toNat 1) (t - 1) = conv top (fun t => c (t - 1)) 1 t := by rw [conv_shift]; rfl
        rw [e1, e2]
        by_cases a1 : a - 1 = 0
        · rw [if_pos a1, if_pos (by omega), Int.sub_self, colS_zero, Int.sub_zero, Int.zero_add]
        · rw [if_neg a1, if_pos ⟨rfl, rfl⟩, Int.zero_add]
      · rw [if_neg (by omega), if_neg (by omega), if_neg (by omega), if_pos (by omega), key, key]
        rw [show (a - 1 - x - 1).toNat + 1 = (a - x - 1).toNat by omega, show (a - 1 - x).toNat + 1 = (a - x).toNat by omega, show t - (a - 1 - x) - 1 = t - (a - x) by omega]
        omega
    · rw [if_neg h2]
      by_cases h3 : x = 0 ∧ 3 ≤ y ∧ y ≤ top + 1
      · obtain ⟨rfl, h3, h4⟩ := h3
        rw [if_pos ⟨rfl, h3, h4⟩, if_neg (by omega)]
        by_cases a1 : a - 1 = 0
        · have ea : a = 1 := by omega
          subst ea
          rw [if_pos a1, if_pos (by omega), show (1 : Int).toNat = 1 from rfl, conv_shift]
          rw [show t - colS 2 (y - 2) - 1 = t - 1 - colS 2 (y - 2) by omega]
          omega
        · rw [if_neg a1, if_neg (by omega), if_neg (by omega), if_pos (by omega), key, show (a - 1).toNat + 1 = a.toNat by omega]
          rw [show t - (a - 1) - colS 2 (y - 2) - 1 = t - a - colS 2 (y - 2) by omega]
          omega
      · rw [if_neg h3, if_neg (by omega)]
        by_cases a1 : a - 1 = 0
        · rw [if_pos a1, if_neg (by omega)]; rfl
        · rw [if_neg a1, if_neg (by omega), if_neg (by omega), if_neg (by omega)]; rfl
theorem remC_nonneg {top a w t x y : Int} {c : Int → Int} (h : ∀ t, 0 ≤ c t) : 0 ≤ remC top a w c t x y := by
  have k := conv_nonneg (top := top) h
  unfold remC
  split
  · split
    · exact h _
    · omega
  · split
    · exact h _
    · split
      · have h1 := k (a - x - 1).toNat (t - (a - x))
        have h2 := k (a - x).toNat (t - (a - x))
        omega
      · split
        · exact k _ _
        · omega
theorem remR_nonneg {top a t x y : Int} {c : Int → Int} (h : ∀ t, 0 ≤ c t) : 0 ≤ remR top a c t x y := by
  have h1 := remC_nonneg (top := top) (a := a) (w := 2) (t := t) (x := x) (y := y) (conv_nonneg (top := top) h 1)
  have h2 := h t
  unfold remR
  split <;> omega
/-- nothing comes of nothing -/
theorem conv_nil {top : Int} : ∀ (j : Nat) (t : Int), conv top (fun _ => 0) j t = 0
  | 0, t => rfl
  | j + 1, t => by
    rw [conv]
    have : ∀ l : List Int, (l.map fun b => conv top (fun _ => 0) j (t - b)).sum = 0 := fun l => by
      induction l with
      | nil => rfl
      | cons b l ih => rw [List.map_cons, List.sum_cons, ih, conv_nil j]; rfl
    exact this _
/-- the visits from (a, w): how many rows of balls with t points end in (x, y) -/
def visF (top a w t x y : Int) : Int := if top < w then 0 else remC top a w c0 t x y
theorem visF_nonneg {top a w t x y : Int} : 0 ≤ visF top a w t x y := by
  unfold visF
  split
  · omega
  · exact remC_nonneg c0_nonneg
theorem visF_ne {top a w t x y : Int} (ht : 3 ≤ top) (ha : 0 ≤ a) (hs : a = 0 ∨ w = 2) (hw : 2 ≤ w) : visF top a w t x y ≠ 0 ↔ (x, y) ∈ nextL top a w t := by
  rw [mem_nextL]
  unfold visF Nxt
  by_cases tw : top < w
  · rw [if_pos tw]
    constructor
    · intro h; exact absurd rfl h
    · intro h; omega
  rw [if_neg tw]
  have cn := conv0_ne (top := top) (by omega)
  unfold remC
  by_cases a0 : a = 0
  · subst a0
    rw [if_pos rfl]
    by_cases h : x = 0 ∧ w ≤ y ∧ y ≤ top + 1
    · rw [if_pos h]
      unfold c0
      constructor
      · intro e
        split at e
        · exact ⟨by omega, .inl ⟨rfl, y - w, by omega, by omega, by omega, by rw [h.1, show w + (y - w) = y by omega]⟩⟩
        · exact absurd rfl e
      · rintro ⟨_, ⟨_, m, h1, h2, h3, h4⟩ | ⟨h1, _⟩⟩
        · have : y = w + m := (Prod.mk.inj h4).2
          subst this
          rw [if_pos (by rw [show w + m - w = m by omega]; omega)]
          omega
        · exact absurd rfl h1
    · rw [if_neg h]
      constructor
      · intro e; exact absurd rfl e
      · rintro ⟨_, ⟨_, m, h1, h2, h3, h4⟩ | ⟨h1, _⟩⟩
        · have e1 := (Prod.mk.inj h4).1
          have e2 := (Prod.mk.inj h4).2
          omega
        · exact absurd rfl h1
  · have w2 : w = 2 := by omega
    subst w2
    rw [if_neg a0]
    by_cases h1 : x = a ∧ y = 2
    · obtain ⟨rfl, rfl⟩ := h1
      rw [if_pos ⟨rfl, rfl⟩]
      constructor
      · intro e
        refine ⟨by omega, .inr ⟨a0, .inl ⟨0, by omega, by omega, ?_, by rw [Int.sub_zero]⟩⟩⟩
        unfold c0 at e
        unfold comesB
        rw [if_pos rfl, decide_eq_true_eq]
        split at e <;> omega
      · rintro ⟨_, ⟨h1, _⟩ | ⟨_, ⟨m, h1, h2, h3, h4⟩ | ⟨h1, h2, h3⟩ | ⟨m, h1, h2, h3, h4, h5⟩⟩⟩
        · exact absurd h1 a0
        · have e1 := (Prod.mk.inj h4).1
          have m0 : m = 0 := by omega
          subst m0
          unfold comesB at h3
          rw [if_pos rfl, decide_eq_true_eq] at h3
          subst h3
          unfold c0
          rw [if_pos rfl]; omega
        · have e1 := (Prod.mk.inj h3).1; omega
        · have e1 := (Prod.mk.inj h5).1; omega
    · rw [if_neg h1]
      by_cases h2 : y = 2 ∧ 0 ≤ x ∧ x < a
      · obtain ⟨rfl, h2, h3⟩ := h2
        rw [if_pos ⟨rfl, h2, h3⟩]
        generalize hm : a - x = m
        have m1 : 1 ≤ m := by omega
        have n1 := conv_nonneg (top := top) c0_nonneg (m - 1).toNat (t - m)
        have n2 := conv_nonneg (top := top) c0_nonneg m.toNat (t - m)
        have k1 := cn (m - 1).toNat (t - m)
        have k2 := cn m.toNat (t - m)
        rw [show ((m - 1).toNat : Int) = m - 1 by omega] at k1
        rw [show (m.toNat : Int) = m by omega] at k2
        have e1 : (top + 1) * m = top * m + m := by rw [Int.add_mul, Int.one_mul]
        constructor
        · intro e
          refine ⟨by omega, .inr ⟨a0, ?_⟩⟩
          have hh : (2 * (m - 1) ≤ t - m ∧ t - m ≤ top * (m - 1)) ∨ (2 * m ≤ t - m ∧ t - m ≤ top * m) := by
            by_cases z : conv top c0 (m - 1).toNat (t - m) = 0
            · exact .inr (k2.mp (by omega))
            · exact .inl (k1.mp z)
          by_cases x0 : x = 0
          · subst x0
            rcases hh with hh | hh
            · exact .inr (.inl ⟨by omega, by rw [show a = m by omega]; omega, rfl⟩)
            · exact .inr (.inr ⟨0, by omega, by omega, by rw [colS_zero]; omega, by rw [colS_zero, show a = m by omega, e1]; omega, rfl⟩)
          · refine .inl ⟨m, by omega, by omega, ?_, by rw [show a - m = x by omega]⟩
            unfold comesB
            rw [if_neg (by omega), decide_eq_true_eq, e1]
            omega
        · rintro ⟨_, ⟨h4, _⟩ | ⟨_, ⟨m', h4, h5, h6, h7⟩ | ⟨h4, h5, h6⟩ | ⟨m', h4, h5, h6, h7, h8⟩⟩⟩
          · exact absurd h4 a0
          · have e2 := (Prod.mk.inj h7).1
            have : m' = m := by omega
            subst this
            unfold comesB at h6
            rw [if_neg (by omega), decide_eq_true_eq, e1] at h6
            rcases h6 with h6 | h6
            · have := k1.mpr (by omega); omega
            · have := k2.mpr (by omega); omega
          · have e2 := (Prod.mk.inj h6).1
            have : a = m := by omega
            subst this
            have := k1.mpr (by omega); omega
          · have e2 := Prod.mk.inj h8
            have m0 : m' = 0 := by omega
            have : a = m := by omega
            subst m0 this
            rw [colS_zero] at h6 h7
            rw [e1] at h7
            have := k2.mpr (by omega); omega
      · rw [if_neg h2]
        by_cases h3 : x = 0 ∧ 3 ≤ y ∧ y ≤ top + 1
        · obtain ⟨rfl, h3, h4⟩ := h3
          rw [if_pos ⟨rfl, h3, h4⟩]
          have k1 := cn a.toNat (t - a - colS 2 (y - 2))
          rw [show (a.toNat : Int) = a by omega] at k1
          have e1 : (top + 1) * a = top * a + a := by rw [Int.add_mul, Int.one_mul]
          constructor
          · intro e
            have := k1.mp e
            exact ⟨by omega, .inr ⟨a0, .inr (.inr ⟨y - 2, by omega, by omega, by omega, by rw [e1]; omega, by rw [show 2 + (y - 2) = y by omega]⟩)⟩⟩
          · rintro ⟨_, ⟨h5, _⟩ | ⟨_, ⟨m', h5, h6, h7, h8⟩ | ⟨h5, h6, h7⟩ | ⟨m', h5, h6, h7, h8, h9⟩⟩⟩
            · exact absurd h5 a0
            · have := (Prod.mk.inj h8).2; omega
            · have := (Prod.mk.inj h7).2; omega
            · have e2 := (Prod.mk.inj h9).2
              have : y - 2 = m' := by omega
              rw [this] at k1 ⊢
              rw [e1] at h8
              exact k1.mpr (by omega)
        · rw [if_neg h3]
          constructor
          · intro e; exact absurd rfl e
          · rintro ⟨_, ⟨h5, _⟩ | ⟨_, ⟨m', h5, h6, h7, h8⟩ | ⟨h5, h6, h7⟩ | ⟨m', h5, h6, h7, h8, h9⟩⟩⟩
            · exact absurd h5 a0
            · have := Prod.mk.inj h8; omega
            · have := Prod.mk.inj h7; omega
            · have := Prod.mk.inj h9; omega
end DL

set_option maxHeartbeats 1000000
namespace DL
open PySem L2
/-! ### dicts, by lists of what they know -/
section
variable {α κ β : Type} [DecidableEq α] [DecidableEq κ]
theorem lookL_map {kf : α → κ} (inj : ∀ a b, kf a = kf b → a = b) (vf : α → β) : ∀ (ts : List α) (a : α), lookL (ts.map kf) (ts.map vf) (kf a) = if a ∈ ts then some (vf a) else none
  | [], a => by simp [lookL]
  | b :: ts, a => by
    simp only [List.map_cons, lookL, List.mem_cons]
    by_cases c : b = a
    · subst c; simp
    · have c2 : ¬ kf b = kf a := fun e => c (inj _ _ e)
      have c3 : ¬ a = b := fun e => c e.symm
      simp only [c2, c3, if_false, false_or]
      exact lookL_map inj vf ts a
theorem mem_map_inj {kf : α → κ} (inj : ∀ a b, kf a = kf b → a = b) {ts : List α} {a : α} : kf a ∈ ts.map kf ↔ a ∈ ts := by
  rw [List.mem_map]
  constructor
  · rintro ⟨b, hb, e⟩; rw [← inj _ _ e]; exact hb
  · intro h; exact ⟨a, h, rfl⟩
def addA (ts : List α) (a : α) : List α := if a ∈ ts then ts else ts ++ [a]
theorem mem_addA {ts : List α} {a b : α} : b ∈ addA ts a ↔ b ∈ ts ∨ b = a := by
  unfold addA
  split
  · rename_i h
    constructor
    · exact .inl
    · rintro (h2 | rfl)
      · exact h2
      · exact h
  · rw [List.mem_append, List.mem_singleton]
theorem addA_nodup {ts : List α} {a : α} (h : ts.Nodup) : (addA ts a).Nodup := by
  unfold addA
  split
  · exact h
  · rename_i c
    rw [List.nodup_append]
    exact ⟨h, List.nodup_cons.mpr ⟨List.not_mem_nil, List.nodup_nil⟩, fun x hx y hy e => by rw [List.mem_singleton] at hy; subst hy e; exact c hx⟩
theorem putVs_map {kf : α → κ} (inj : ∀ a b, kf a = kf b → a = b) (vf : α → β) (ts : List α) (a : α) (v : β) : putVs (ts.map kf) (ts.map vf) (kf a) v = (addA ts a).map fun x => if x = a then v else vf x := by
  have mi := mem_map_inj (kf := kf) inj (ts := ts) (a := a)
  unfold putVs addA
  by_cases h : a ∈ ts
  · rw [if_pos h, if_pos (mi.mpr h)]
    rw [List.zip_map', List.map_map]
    apply List.map_congr_left
    intro x _
    show (if kf x = kf a then v else vf x) = _
    by_cases c : x = a
    · subst c; simp
    · rw [if_neg c, if_neg fun e => c (inj _ _ e)]
  · rw [if_neg h, if_neg fun z => h (mi.mp z)]
    rw [List.map_append]
    congr 1
    · apply List.map_congr_left
      intro x hx
      rw [if_neg fun e => h (by rw [← e]; exact hx)]
    · simp
theorem map_congr_of {ts : List α} {f g : α → β} (h : ∀ x ∈ ts, f x = g x) : ts.map f = ts.map g := List.map_congr_left h
end
theorem keys_map {α : Type} (f : α → D) : ∀ ts : List α, keys (ts.map f) = ts.map fun x => (f x).key
  | [] => rfl
  | x :: ts => by simp [keys, keys_map f ts]
theorem pD_key_inj : ∀ a b : Int × Int, (pD a).key = (pD b).key → a = b := fun a b h => by
  simp only [pD, D.key, keys, NestedKey.tup.injEq, List.cons.injEq, NestedKey.num.injEq, and_true] at h
  exact Prod.ext h.1 h.2
theorem kOk1_pD (p : Int × Int) : kOk1 (pD p) = true := by
  show kOk1 (.tup [.int p.1, .int p.2]) = true
  unfold kOk1
  simp [areKeys, D.isKey, keys, D.key, NestedKey.depth, NestedKey.depthAll]
theorem kOk_pairs (l : List (Int × Int)) : kOk (l.map pD) = true := by
  unfold kOk
  rw [List.all_map, List.all_eq_true]
  intro x _
  exact kOk1_pD x
/-! ### nodes of the walk -/
inductive Lst | no | red | col | clr
  deriving DecidableEq
def Lst.d : Lst → D
  | .no => .non | .red => .str "red" | .col => .str "colour" | .clr => .str "clear"
abbrev nodeD (h : Int × Int) (l : Lst) (t : Int) : D := .tup [pD h, l.d, .int t]
theorem node_inj (h : Int × Int) (l : Lst) : ∀ a b : Int, (nodeD h l a).key = (nodeD h l b).key → a = b := fun a b e => by
  simp only [nodeD, D.key, keys, NestedKey.tup.injEq, List.cons.injEq, NestedKey.num.injEq, and_true, true_and] at e
  exact e
theorem kOk1_node (h : Int × Int) (l : Lst) (t : Int) : kOk1 (nodeD h l t) = true := by
  cases l <;> (unfold kOk1; simp [areKeys, D.isKey, keys, D.key, NestedKey.depth, NestedKey.depthAll, Lst.d])
theorem kOk_nodes (h : Int × Int) (l : Lst) (ts : List Int) : kOk (ts.map (nodeD h l)) = true := by
  unfold kOk
  rw [List.all_map, List.all_eq_true]
  intro x _
  exact kOk1_node h l x
/-- one level's numbers, as a dict -/
structure LtOk (h : Int × Int) (l : Lst) (g : Int → Int) (ts : List Int) : Prop where
  nd : ts.Nodup
  mem : ∀ t, t ∈ ts ↔ g t ≠ 0
abbrev ltK (h : Int × Int) (l : Lst) (ts : List Int) : List D := ts.map (nodeD h l)
abbrev ltV (g : Int → Int) (ts : List Int) : List D := ts.map fun t => D.int (g t)
theorem lt_get {h : Int × Int} {l : Lst} {g : Int → Int} {ts : List Int} (ok : LtOk h l g ts) (t : Int) : lookL (keys (ltK h l ts)) (ltV g ts) (nodeD h l t).key = if t ∈ ts then some (.int (g t)) else none := by
  rw [keys_map]
  exact lookL_map (kf := fun t => (nodeD h l t).key) (node_inj h l) (fun t => D.int (g t)) ts t
theorem lt_getD {h : Int × Int} {l : Lst} {g : Int → Int} {ts : List Int} (ok : LtOk h l g ts) (t : Int) : (lookL (keys (ltK h l ts)) (ltV g ts) (nodeD h l t).key).getD (.int 0) = .int (g t) := by
  rw [lt_get ok]
  split
  · rfl
  · rename_i c
    have : g t = 0 := by
      by_cases z : g t = 0
      · exact z
      · exact absurd ((ok.mem t).mpr z) c
    rw [this]; rfl
abbrev bump (g : Int → Int) (t0 w : Int) : Int → Int := fun t => g t + if t = t0 then w else 0
theorem lt_put {h : Int × Int} {l : Lst} {g : Int → Int} {ts : List Int} (ok : LtOk h l g ts) (hg : ∀ t, 0 ≤ g t) {t0 w : Int} (hw : 0 < w) :
    LtOk h l (bump g t0 w) (addA ts t0) ∧ (if (nodeD h l t0).key ∈ keys (ltK h l ts) then ltK h l ts else ltK h l ts ++ [nodeD h l t0]) = ltK h l (addA ts t0) ∧
      putVs (keys (ltK h l ts)) (ltV g ts) (nodeD h l t0).key (.int (g t0 + w)) = ltV (bump g t0 w) (addA ts t0) := by
  refine ⟨⟨addA_nodup ok.nd, fun t => ?_⟩, ?_, ?_⟩
  · rw [mem_addA, ok.mem]
    have h1 := hg t
    show _ ↔ g t + (if t = t0 then w else 0) ≠ 0
    by_cases c : t = t0
    · rw [if_pos c]
      constructor
      · intro _; omega
      · intro _; exact .inr c
    · rw [if_neg c]
      constructor
      · rintro (z | z)
        · omega
        · exact absurd z c
      · intro z; exact .inl (by omega)
  · rw [keys_map]
    have mi := mem_map_inj (kf := fun t => (nodeD h l t).key) (node_inj h l) (ts := ts) (a := t0)
    unfold addA
    by_cases c : t0 ∈ ts
    · rw [if_pos c, if_pos (mi.mpr c)]
    · rw [if_neg c, if_neg fun z => c (mi.mp z), ltK, ltK, List.map_append]; rfl
  · rw [keys_map]
    have := putVs_map (kf := fun t => (nodeD h l t).key) (node_inj h l) (fun t => D.int (g t)) ts t0 (.int (g t0 + w))
    rw [this]
    apply List.map_congr_left
    intro x _
    show _ = D.int (g x + if x = t0 then w else 0)
    by_cases c : x = t0
    · subst c; simp
    · rw [if_neg c, if_neg c, Int.add_zero]
/-! ### what is found -/
abbrev chD (F : Int → Int × Int → Int) (hs : Int → List (Int × Int)) (t : Int) : List D × List D := ((hs t).map pD, (hs t).map fun h => D.int (F t h))
structure FdN (F : Int → Int × Int → Int) (ts : List Int) (hs : Int → List (Int × Int)) : Prop where
  nd : ts.Nodup
  nh : ∀ t, (hs t).Nodup
  mem : ∀ t h, h ∈ hs t ↔ F t h ≠ 0
  tot : ∀ t, t ∈ ts ↔ ∃ h, F t h ≠ 0
/-- as one's own -/
def FdO (F : Int → Int × Int → Int) (o : Own) : Prop := (o = .i [] [] ∧ ∀ t h, F t h = 0) ∨ ∃ qs ts hs, o = .n qs ts (ts.map (chD F hs)) ∧ FdN F ts hs
/-- as a value -/
def FdD (F : Int → Int × Int → Int) (d : D) : Prop := ∃ ts hs, d = .dI ts (ts.map fun t => .dT ((hs t).map pD) ((hs t).map fun h => .int (F t h))) ∧ FdN F ts hs
theorem FdO.d {F : Int → Int × Int → Int} {o : Own} (h : FdO F o) : FdD F o.d := by
  rcases h with ⟨rfl, h⟩ | ⟨qs, ts, hs, rfl, h⟩
  · exact ⟨[], fun _ => [], rfl, List.nodup_nil, fun _ => List.nodup_nil, fun t x => by simp [h], fun t => by simp [h]⟩
  · refine ⟨ts, hs, ?_, h⟩
    simp only [Own.d, List.map_map]
    rfl
theorem FdN.child0 {F : Int → Int × Int → Int} {ts : List Int} {hs : Int → List (Int × Int)} (h : FdN F ts hs) {t : Int} (n : t ∉ ts) : hs t = [] := by
  cases e : hs t with
  | nil => rfl
  | cons x r =>
    refine absurd ((h.tot t).mpr ⟨x, (h.mem t x).mp ?_⟩) n
    rw [e]; exact List.mem_cons_self
abbrev bumpF (F : Int → Int × Int → Int) (t0 : Int) (x0 : Int × Int) (w : Int) : Int → Int × Int → Int := fun t x => F t x + if t = t0 ∧ x = x0 then w else 0
theorem FdN.bump {F : Int → Int × Int → Int} {ts : List Int} {hs : Int → List (Int × Int)} (h : FdN F ts hs) (hF : ∀ t x, 0 ≤ F t x) {t0 : Int} {x0 : Int × Int} {w : Int} (hw : 0 < w) :
    FdN (bumpF F t0 x0 w) (addA ts t0) fun t => if t = t0 then addA (hs t0) x0 else hs t := by
  have ne : ∀ t x, bumpF F t0 x0 w t x ≠ 0 ↔ F t x ≠ 0 ∨ (t = t0 ∧ x = x0) := fun t x => by
    have := hF t x
    show F t x + (if t = t0 ∧ x = x0 then w else 0) ≠ 0 ↔ _
    by_cases c : t = t0 ∧ x = x0
    · rw [if_pos c]
      constructor
      · intro _; exact .inr c
      · intro _; omega
    · rw [if_neg c]
      constructor
      · intro z; exact .inl (by omega)
      · rintro (z | z)
        · omega
        · exact absurd z c
  refine ⟨addA_nodup h.nd, fun t => ?_, fun t x => ?_, fun t => ?_⟩
  · split
    · exact addA_nodup (h.nh t0)
    · exact h.nh t
  · rw [ne]
    split
    · rename_i c; subst c
      rw [mem_addA, h.mem]
      constructor
      · exact Or.imp id fun z => ⟨rfl, z⟩
      · exact Or.imp id fun z => z.2
    · rename_i c
      rw [h.mem]
      constructor
      · exact .inl
      · rintro (z | z)
        · exact z
        · exact absurd z.1 c
  · rw [mem_addA, h.tot]
    constructor
    · rintro (⟨x, z⟩ | z)
      · exact ⟨x, (ne t x).mpr (.inl z)⟩
      · exact ⟨x0, (ne t x0).mpr (.inr ⟨z, rfl⟩)⟩
    · rintro ⟨x, z⟩
      rcases (ne t x).mp z with z | z
      · exact .inl ⟨x, z⟩
      · exact .inr z.1
/-- the step of the three lines -/
theorem nestC_i {F : Int → Int × Int → Int} {ts : List Int} {hs : Int → List (Int × Int)} {s : DSt} {f : Nat} {t0 : Int} {x0 : Int × Int} {w : Int} {qs : List Addr} {n : DSt → Prop} (h : FdN F ts hs) (hF : ∀ t x, 0 ≤ F t x) (hw : 0 < w) (hl : ts.length < 16777216) (hc : (hs t0).length < 16777216)
    (hn : ∀ o, FdO (bumpF F t0 x0 w) o → n (s.set f (some (.own o)))) : nestC s f t0 (pD x0) w qs ts (ts.map (chD F hs)) n := by
  have lk : lookL ts (ts.map (chD F hs)) t0 = if t0 ∈ ts then some (chD F hs t0) else none := by
    have := lookL_map (kf := fun (t : Int) => t) (fun _ _ e => e) (chD F hs) ts t0
    simpa using this
  have new : FdN (bumpF F t0 x0 w) (addA ts t0) fun t => if t = t0 then addA (hs t0) x0 else hs t := h.bump hF hw
  refine ⟨kOk1_pD x0, h.nd, hl, ?_⟩
  rw [lk]
  -- the children that stay
  have stay : ∀ t, t ≠ t0 → chD (bumpF F t0 x0 w) (fun t => if t = t0 then addA (hs t0) x0 else hs t) t = chD F hs t := fun t ht => by
    simp only [chD, bumpF, if_neg ht]
    congr 1
    apply List.map_congr_left
    intro x _
    rw [if_neg fun z => ht z.1, Int.add_zero]
  by_cases c : t0 ∈ ts
  · rw [if_pos c]
    dsimp only
    refine ⟨by rw [List.length_map]; exact hc, ?_⟩
    have e1 : addA ts t0 = ts := by unfold addA; rw [if_pos c]
    rw [e1] at new
    have kx := lookL_map (kf := fun h => (pD h).key) pD_key_inj (fun h => D.int (F t0 h)) (hs t0) x0
    have px := putVs_map (kf := fun h => (pD h).key) pD_key_inj (fun h => D.int (F t0 h)) (hs t0) x0
    have fin : ∀ c' : List D × List D, c' = chD (bumpF F t0 x0 w) (fun t => if t = t0 then addA (hs t0) x0 else hs t) t0 → n (s.set f (some (.own (.n qs ts (putVs ts (ts.map (chD F hs)) t0 c'))))) := fun c' ec => by
      have e2 : putVs ts (ts.map (chD F hs)) t0 c' = ts.map (chD (bumpF F t0 x0 w) fun t => if t = t0 then addA (hs t0) x0 else hs t) := by
        have := putVs_map (kf := fun (t : Int) => t) (fun _ _ e => e) (chD F hs) ts t0 c'
        rw [e1, List.map_id'] at this
        rw [this]
        apply List.map_congr_left
        intro t _
        by_cases ct : t = t0
        · subst ct; rw [if_pos rfl]; exact ec
        · rw [if_neg ct, stay t ct]
      rw [e2]
      exact hn _ (.inr ⟨qs, ts, _, rfl, new⟩)
    unfold bumpD
    dsimp only
    rw [keys_map, kx]
    by_cases cx : x0 ∈ hs t0
    · rw [if_pos cx]
      dsimp only
      refine fin _ ?_
      rw [px]
      have e3 : addA (hs t0) x0 = hs t0 := by unfold addA; rw [if_pos cx]
      simp only [chD, if_true, e3]
      congr 1
      apply List.map_congr_left
      intro x _
      by_cases cy : x = x0
      · subst cy; simp [bumpF]
      · simp [bumpF, cy]
    · rw [if_neg cx]
      dsimp only
      refine fin _ ?_
      have e3 : addA (hs t0) x0 = hs t0 ++ [x0] := by unfold addA; rw [if_neg cx]
      have f0 : F t0 x0 = 0 := by
        by_cases z : F t0 x0 = 0
        · exact z
        · exact absurd ((h.mem t0 x0).mpr z) cx
      simp only [chD, if_true, e3, List.map_append, List.map_cons, List.map_nil]
      congr 2
      · apply List.map_congr_left
        intro x hx
        have cy : x ≠ x0 := fun e => cx (e ▸ hx)
        simp [bumpF, cy]
      · simp [bumpF, f0]
  · rw [if_neg c]
    dsimp only
    intro q
    have e1 : addA ts t0 = ts ++ [t0] := by unfold addA; rw [if_neg c]
    rw [e1] at new
    have h0 := h.child0 c
    have f0 : F t0 x0 = 0 := by
      by_cases z : F t0 x0 = 0
      · exact z
      · have := (h.mem t0 x0).mpr z
        rw [h0] at this; cases this
    have e2 : ts.map (chD F hs) ++ [([pD x0], [D.int w])] = (ts ++ [t0]).map (chD (bumpF F t0 x0 w) fun t => if t = t0 then addA (hs t0) x0 else hs t) := by
      rw [List.map_append]
      congr 1
      · apply List.map_congr_left
        intro t ht
        rw [stay t fun e => c (e ▸ ht)]
      · simp [chD, h0, addA, bumpF, f0]
    rw [e2]
    exact hn _ (.inr ⟨_, _, _, rfl, new⟩)
theorem nestD_i {F : Int → Int × Int → Int} {o : Own} {s : DSt} {f e k h w : Nat} {t0 : Int} {x0 : Int × Int} {j : Int} {n : DSt → Prop} (hk : s[k]? = some (some (.val (.int t0)))) (hh : s[h]? = some (some (.val (pD x0)))) (hw : s[w]? = some (some (.val (.int j)))) (hf : s[f]? = some (some (.own o))) (hO : FdO F o)
    (hF : ∀ t x, 0 ≤ F t x) (hj : 0 < j) (he : e < s.length) (sz : ∀ ts hs, FdN F ts hs → ts.length < 16777216 ∧ ∀ t, (hs t).length < 16777216) (hn : ∀ o', FdO (bumpF F t0 x0 j) o' → n ((s.set e none).set f (some (.own o')))) : nestD s f e k h w n := by
  rw [nestD_eq, nestD0.eq_def, hk, hh, hw, hf]
  rcases hO with ⟨rfl, h0⟩ | ⟨qs, ts, hs, rfl, hN⟩
  · dsimp only
    exact ⟨he, nestC_i (F := F) (ts := []) (hs := fun _ => []) ⟨List.nodup_nil, fun _ => List.nodup_nil, fun t x => by simp [h0], fun t => by simp [h0]⟩ hF hj (by decide) (by decide) hn⟩
  · dsimp only
    exact ⟨he, nestC_i hN hF hj (sz ts hs hN).1 ((sz ts hs hN).2 t0) hn⟩
end DL

set_option maxHeartbeats 1000000
namespace DL
open PySem L2
local macro_rules | `(tactic| wtm_at "run") => `(tactic| conv => whnf)
local macro_rules | `(tactic| wtm_at "sz") => `(tactic| (rw [line_eq]; simp only [List.length_cons, List.length_nil, List.length_map, List.length_append, rg_length, rngD_rg]; omega))
local macro_rules | `(tactic| wtm_at "go") => `(tactic| ((conv => whnf); repeat (first
  | ((with_reducible refine eq_int ?_); conv => whnf) | ((with_reducible refine ne_int ?_); conv => whnf)
  | ((with_reducible refine lt_int ?_); conv => whnf) | ((with_reducible refine le_int ?_); conv => whnf) | ((with_reducible refine gt_int ?_); conv => whnf) | ((with_reducible refine ge_int ?_); conv => whnf)
  | ((with_reducible refine idx_0 ?_); conv => whnf) | ((with_reducible refine idx_1 ?_); conv => whnf)
  | ((with_reducible refine iteB_T ?_); conv => whnf) | ((with_reducible refine iteB_F ?_); conv => whnf) | ((with_reducible refine iteB_nT ?_); conv => whnf) | ((with_reducible refine iteB_nF ?_); conv => whnf)
  | ((with_reducible refine iteB_n0 ?_); conv => whnf) | ((with_reducible refine iteB_n1 ?_); conv => whnf) | ((with_reducible refine iteB_n2 ?_); conv => whnf) | ((with_reducible refine iteB_n3 ?_); conv => whnf) | ((with_reducible refine iteB_n4 ?_); conv => whnf) | ((with_reducible refine iteB_n5 ?_); conv => whnf)
  | ((with_reducible refine seq_lst ?_); conv => whnf) | ((with_reducible refine seq_tup ?_); conv => whnf)
  | ((with_reducible refine eq_pairs ?_); conv => whnf) | ((with_reducible refine ne_pairs ?_); conv => whnf) | ((with_reducible refine eq_pairs0 ?_); conv => whnf) | ((with_reducible refine ne_pairs0 ?_); conv => whnf)
  | ((with_reducible refine eq_ints ?_); conv => whnf) | ((with_reducible refine ne_ints ?_); conv => whnf) | ((with_reducible refine eq_ints0 ?_); conv => whnf) | ((with_reducible refine ne_ints0 ?_); conv => whnf)
  | ((with_reducible refine eq_tints ?_); conv => whnf) | ((with_reducible refine ne_tints ?_); conv => whnf) | ((with_reducible refine eq_tints0 ?_); conv => whnf) | ((with_reducible refine ne_tints0 ?_); conv => whnf)
  | ((with_reducible refine eq_pair ?_); conv => whnf) | ((with_reducible refine ne_pair ?_); conv => whnf)
  | ((with_reducible refine is_non ?_); conv => whnf) | ((with_reducible refine isnot_non ?_); conv => whnf) | ((with_reducible refine is_bl ?_); conv => whnf) | ((with_reducible refine isnot_bl ?_); conv => whnf)
  | ((with_reducible refine in_pairs ?_); conv => whnf) | ((with_reducible refine notIn_pairs ?_); conv => whnf)
  | ((with_reducible refine slice_l ?_); conv => whnf) | ((with_reducible refine slice_t ?_); conv => whnf)
  | ((with_reducible apply callG_i); (with_reducible assumption); rfl; conv => whnf)
  | (refine callD_v (by rfl) (by rfl) ?_)
  | ((with_reducible refine And.intro rfl ?_); conv => whnf)
  | ((with_reducible refine And.intro (pos_i (by omega)) ?_); conv => whnf)
  | ((with_reducible apply hasD_and); rfl; conv => whnf)
  | ((with_reducible refine And.intro (ownL_i rfl) ?_); conv => whnf)
  | ((with_reducible refine idx_l0 ?_); conv => whnf) | ((with_reducible refine idx_l1 ?_); conv => whnf) | ((with_reducible refine idx_l2 ?_); conv => whnf)
  | ((with_reducible refine And.intro (mul_l (by omega)) ?_); conv => whnf)
  | ((with_reducible refine And.intro (mul_r (by omega)) ?_); conv => whnf)
  | ((with_reducible refine And.intro (div_ok (by omega)) ?_); conv => whnf)
  | ((with_reducible refine And.intro (rng_ok (by ((try simp only [List.length_map]); omega))) ?_); conv => whnf)
  | ((with_reducible refine And.intro (line_le (by ((try simp only [List.length_cons, List.length_nil, List.length_map, List.length_append, rg_length, rngD_rg]); omega))) ?_); conv => whnf)
  | ((with_reducible apply idx_at); rfl; conv => whnf)
  )))
local macro_rules | `(tactic| wtm_at "mono") => `(tactic| (intro ds K K' R R' h hR q; (repeat (first | (refine Exists.imp (fun _ q => ?_) q; rename_i q) | (refine And.imp_right (fun q => ?_) q; rename_i q))); first | exact h _ _ q | exact ite_m (fun z => h _ _ z) (fun z => hR _ z) q | (intros; refine h _ _ (q _ _ _ ?_ ?_ ?_) <;> assumption) | (intros; refine h _ _ (q _ _ _ ?_) <;> assumption) | (intros; refine h _ _ (q _ _ _ _ ?_ ?_ ?_ ?_ ?_) <;> assumption)))
def n_law_ball : List Str := ["state_so", "last_so", "top_so", "ball", "left_so", "low_so"]
def t_law_ball : Ss := (.cons (.asgT [4, 5] (.var 0)) (.cons (.ite (.and (.cmp .eq (.var 4) (.int 0)) (.cmp .in_ (.var 1) (.tup (.cons (.non) (.cons (.str "clear") .nil))))) (.cons (.ret (.ite (.and (.cmp .eq (.var 3) (.var 5)) (.cmp .le (.var 5) (.var 2))) (.tup (.cons (.tup (.cons (.int 0) (.cons (.bin .add (.var 5) (.int 1)) .nil))) (.cons (.str "clear") .nil))) (.non))) .nil) (.nil)) (.cons (.ite (.cmp .eq (.var 1) (.str "red")) (.cons (.ret (.ite (.chain .le .le (.int 2) (.var 3) (.var 2)) (.tup (.cons (.var 0) (.cons (.ite (.cmp .gt (.var 4) (.int 0)) (.str "colour") (.str "clear")) .nil))) (.non))) .nil) (.nil)) (.cons (.ret (.ite (.cmp .eq (.var 3) (.int 1)) (.tup (.cons (.tup (.cons (.bin .sub (.var 4) (.int 1)) (.cons (.var 5) .nil))) (.cons (.str "red") .nil))) (.non))) .nil))))
def n_law_visits : List Str := ["top_so", "state_so", "found", "front", "later", "here", "last_so", "total", "ways", "ends", "ball", "behind", "key"]
def t_law_visits : Ss := (.cons (.ite (.cmp .gt (.idx (.var 1) (.int 1)) (.var 0)) (.cons (.ret (.frz (.dNew false))) .nil) (.nil)) (.cons (.par [2, 3] (.cons (.dNew false) (.cons (.dOne true (.tup (.cons (.var 1) (.cons (.non) (.cons (.int 0) .nil)))) (.int 1)) .nil))) (.cons (.while_ (.nemp (.var 3)) (.cons (.asg 4 (.dNew true)) (.cons (.for_ (.many [5, 6, 7]) (.seq (.var 3)) (.cons (.asg 8 (.idx (.var 3) (.tup (.cons (.var 5) (.cons (.var 6) (.cons (.var 7) .nil)))))) (.cons (.nest 2 9 7 5 8) (.cons (.for_ (.one 10) (.rng2 (.int 1) (.bin .add (.var 0) (.int 1))) (.cons (.asg 11 (.call "_law_ball" (.cons (.var 5) (.cons (.var 6) (.cons (.var 0) (.cons (.var 10) .nil)))))) (.cons (.ite (.cmp .isNot (.var 11) (.non)) (.cons (.asg 12 (.tup (.cons (.idx (.var 11) (.int 0)) (.cons (.idx (.var 11) (.int 1)) (.cons (.bin .add (.var 7) (.var 10)) .nil))))) (.cons (.setIx 4 (.var 12) (.bin .add (.geto 4 (.var 12) (.int 0)) (.var 8))) .nil)) (.nil)) .nil))) .nil)))) (.cons (.asg 3 (.var 4)) .nil)))) (.cons (.ret (.frz (.mv 2))) .nil))))
def n_law_tables_of : List Str := ["table_so", "top_so", "states_so", "left_so", "low_so", "found", "state_so"]
def t_law_tables_of : Ss := (.cons (.asg 1 (.idx (.var 0) (.int 1))) (.cons (.asg 2 (.comp (.tup (.cons (.var 3) (.cons (.int 2) .nil))) [("left_so", 3)] (.one 3) (.rng2 (.int 1) (.bin .add (.idx (.var 0) (.int 0)) (.int 1))) (.bl true))) (.cons (.asg 2 (.bin .add (.var 2) (.comp (.tup (.cons (.int 0) (.cons (.var 4) .nil))) [("low_so", 4)] (.one 4) (.rng2 (.int 2) (.bin .add (.var 1) (.int 2))) (.bl true)))) (.cons (.asg 5 (.dNew true)) (.cons (.for_ (.one 6) (.seq (.var 2)) (.cons (.setIx 5 (.var 6) (.call "_law_visits" (.cons (.var 1) (.cons (.var 6) .nil)))) .nil)) (.cons (.ret (.frz (.mv 5))) .nil))))))
/-! ### one ball -/
def balB (a w : Int) (l : Lst) (top b : Int) : Bool := if a = 0 ∧ (l = .no ∨ l = .clr) then decide (b = w ∧ w ≤ top) else if l = .red then decide (2 ≤ b ∧ b ≤ top) else decide (b = 1)
def nxH (a w : Int) (l : Lst) : Int × Int := if a = 0 ∧ (l = .no ∨ l = .clr) then (0, w + 1) else if l = .red then (a, w) else (a - 1, w)
def nxL (a : Int) (l : Lst) : Lst := if a = 0 ∧ (l = .no ∨ l = .clr) then .clr else if l = .red then (if 0 < a then .col else .clr) else .red
def ballD (a w : Int) (l : Lst) (top b : Int) : D := if balB a w l top b = true then .tup [pD (nxH a w l), (nxL a l).d] else .non
theorem eqok_nc : EqOk (.tup [.non, .str "clear"]) := ⟨by decide +kernel, by decide +kernel⟩
theorem eqok_red : EqOk (.str "red") := ⟨by decide +kernel, by decide +kernel⟩
theorem eqok_lst (l : Lst) : EqOk l.d := by cases l <;> exact ⟨by decide +kernel, by decide +kernel⟩
theorem in_nc {l : Lst} {k : Bool → Prop} (h : k (decide (l = .no ∨ l = .clr))) : cmpD .in_ l.d (.tup [.non, .str "clear"]) k := by
  rw [cmpD_eq, cmpD0.eq_def]
  dsimp only
  rw [inD_eq, inD0.eq_def]
  refine ⟨eqok_lst l, eqok_nc, ?_⟩
  rw [if_neg Bool.false_ne_true]
  refine cast (congrArg k ?_) h
  cases l <;> decide +kernel
theorem eq_red {l : Lst} {k : Bool → Prop} (h : k (decide (l = .red))) : cmpD .eq l.d (.str "red") k := by
  refine cmp_eq (eqok_lst l) eqok_red (cast (congrArg k ?_) h)
  cases l <;> decide +kernel
@[irreducible] def c_ball : Ctr := fun ds K _ => ∃ a w l top b, ds = [pD (a, w), Lst.d l, .int top, .int b] ∧ K (.v (ballD a w l top b)) []
theorem i_ball {a w : Int} {l : Lst} {top b : Int} {K : Rs → List D → Prop} {R : Str → Prop} (hk : K (.v (ballD a w l top b)) []) : c_ball [pD (a, w), l.d, .int top, .int b] K R := by
  rw [c_ball]; exact ⟨a, w, l, top, b, rfl, hk⟩
theorem m_ball : CMono c_ball := by
  unfold c_ball
  wtm_at "mono"
theorem w_ball (G : Gam) : Does G [.val, .val, .val, .val] t_law_ball 6 c_ball := by
  intro ds K R h
  rw [c_ball] at h
  obtain ⟨a, w, l, top, b, rfl, hk⟩ := h
  have step : ∀ d, ballD a w l top b = d → K (.v d) [] := fun d e => e ▸ hk
  have rest : ¬ (a = 0 ∧ (l = .no ∨ l = .clr)) → l ≠ .red → ∀ d, (if b = 1 then D.tup [pD (a - 1, w), Lst.red.d] else .non) = d → K (.v d) [] := fun c cr d e => step d (by
    unfold ballD balB nxH nxL
    rw [if_neg c, if_neg c, if_neg c, if_neg cr, if_neg cr, if_neg cr]
    rw [← e]
    by_cases z : b = 1 <;> simp [z])
  have mid : ¬ (a = 0 ∧ (l = .no ∨ l = .clr)) → l = .red → ∀ d, (if 2 ≤ b ∧ b ≤ top then D.tup [pD (a, w), (if 0 < a then Lst.col else .clr).d] else .non) = d → K (.v d) [] := fun c cr d e => step d (by
    unfold ballD balB nxH nxL
    rw [if_neg c, if_neg c, if_neg c, if_pos cr, if_pos cr, if_pos cr]
    rw [← e]
    by_cases z : 2 ≤ b ∧ b ≤ top <;> simp [z])
  have low : (a = 0 ∧ (l = .no ∨ l = .clr)) → ∀ d, (if b = w ∧ w ≤ top then D.tup [pD (0, w + 1), Lst.clr.d] else .non) = d → K (.v d) [] := fun c d e => step d (by
    unfold ballD balB nxH nxL
    rw [if_pos c, if_pos c, if_pos c]
    rw [← e]
    by_cases z : b = w ∧ w ≤ top <;> simp [z])
  have tail : ¬ (a = 0 ∧ (l = .no ∨ l = .clr)) → wpSs G (.cons (.ite (.cmp .eq (.var 1) (.str "red")) (.cons (.ret (.ite (.chain .le .le (.int 2) (.var 3) (.var 2)) (.tup (.cons (.var 0) (.cons (.ite (.cmp .gt (.var 4) (.int 0)) (.str "colour") (.str "clear")) .nil))) (.non))) .nil) (.nil)) (.cons (.ret (.ite (.cmp .eq (.var 3) (.int 1)) (.tup (.cons (.tup (.cons (.bin .sub (.var 4) (.int 1)) (.cons (.var 5) .nil))) (.cons (.str "red") .nil))) (.non))) .nil))
      [some (.val (pD (a, w))), some (.val l.d), some (.val (.int top)), some (.val (.int b)), some (.val (.int a)), some (.val (.int w))] ⟨fun s => ioGet [.val, .val, .val, .val] s (K (.v .non)), fun s r => ioGet [.val, .val, .val, .val] s (K r), R, fun _ => False, fun _ => False⟩ := fun c => by
    wtm_at "go"
    refine eq_red ?_
    wtm_at "go"
    refine iteB_d (fun cr => ?_) fun cr => ?_
    · have mid := mid c cr
      wtm_at "go"
      refine iteB_d (fun c2 => ?_) fun c2 => ?_
      · wtm_at "go"
        refine iteB_d (fun c3 => ?_) fun c3 => ?_
        · wtm_at "go"
          refine iteB_d (fun c4 => ?_) fun c4 => ?_
          · wtm_at "go"
            exact mid _ (by rw [if_pos ⟨c2, c3⟩, if_pos c4]; rfl)
          · wtm_at "go"
            exact mid _ (by rw [if_pos ⟨c2, c3⟩, if_neg c4]; rfl)
        · wtm_at "go"
          exact mid _ (by rw [if_neg fun z => c3 z.2])
      · wtm_at "go"
        exact mid _ (by rw [if_neg fun z => c2 z.1])
    · have rest := rest c cr
      wtm_at "go"
      refine iteB_d (fun c2 => ?_) fun c2 => ?_
      · wtm_at "go"
        exact rest _ (by rw [if_pos c2]; rfl)
      · wtm_at "go"
        exact rest _ (by rw [if_neg c2])
  wtm_at "go"
  refine iteB_d (fun c => ?_) fun c => ?_
  · wtm_at "go"
    refine in_nc ?_
    wtm_at "go"
    refine iteB_d (fun c1 => ?_) fun c1 => ?_
    · have low := low ⟨c, c1⟩
      wtm_at "go"
      refine iteB_d (fun c2 => ?_) fun c2 => ?_
      · wtm_at "go"
        refine iteB_d (fun c3 => ?_) fun c3 => ?_
        · wtm_at "go"
          exact low _ (by rw [if_pos ⟨c2, c3⟩]; rfl)
        · wtm_at "go"
          exact low _ (by rw [if_neg fun z => c3 z.2])
      · wtm_at "go"
        exact low _ (by rw [if_neg fun z => c2 z.1])
    · exact tail fun z => c1 z.2
  · wtm_at "run"
    exact iteB_F (tail fun z => c z.1)
end DL

set_option maxHeartbeats 1000000
namespace DL
/-! ### one level of the walk -/
theorem rg_nodup (a b : Int) : (rg a b).Nodup := ascI_nodup (asc_rg a b)
theorem sum_out {f : Int → Int} {a : Int} : ∀ {l : List Int}, a ∉ l → (l.map fun b => if b = a then f b else 0).sum = 0
  | [], _ => rfl
  | b :: l, h => by
    rw [List.map_cons, List.sum_cons, if_neg fun e => h (by rw [e]; exact List.mem_cons_self), sum_out fun z => h (List.mem_cons_of_mem _ z)]; rfl
theorem sum_single {f : Int → Int} {a : Int} : ∀ {l : List Int}, l.Nodup → a ∈ l → (l.map fun b => if b = a then f b else 0).sum = f a
  | [], _, h => by cases h
  | b :: l, nd, h => by
    obtain ⟨n1, n2⟩ := List.nodup_cons.mp nd
    rw [List.map_cons, List.sum_cons]
    by_cases c : b = a
    · subst c
      rw [if_pos rfl, sum_out n1, Int.add_zero]
    · rw [if_neg c, Int.zero_add]
      exact sum_single n2 ((List.mem_cons.mp h).resolve_left fun e => c e.symm)
section
variable {top a w : Int} {l : Lst} {c : Int → Int}
def Rem (top a w : Int) (l : Lst) (c : Int → Int) (t x y : Int) : Int := if l = .red then remR top a c t x y else remC top a w c t x y
def cN (top a w : Int) (l : Lst) (c : Int → Int) (t : Int) : Int := ((rg 1 (top + 1)).map fun b => if balB a w l top b = true then c (t - b) else 0).sum
structure NdOk (top L a w : Int) (l : Lst) : Prop where
  a0 : 0 ≤ a
  aL : a ≤ L
  w2 : 2 ≤ w
  wt : w ≤ top + 1
  s : a = 0 ∨ w = 2
  r : l = .red → w = 2
  c : l = .col → 0 < a
theorem cN_low (h : a = 0 ∧ (l = .no ∨ l = .clr)) (hw : 2 ≤ w) (t : Int) : cN top a w l c t = if w ≤ top then c (t - w) else 0 := by
  have e : ∀ b, (if balB a w l top b = true then c (t - b) else 0) = if b = w then (if w ≤ top then c (t - b) else 0) else 0 := fun b => by
    unfold balB
    rw [if_pos h]
    simp only [decide_eq_true_eq]
    by_cases z : b = w
    · subst z; simp
    · rw [if_neg fun q => z q.1, if_neg z]
  unfold cN
  simp only [e]
  by_cases z : w ≤ top
  · rw [sum_single (f := fun b => if w ≤ top then c (t - b) else 0) (rg_nodup _ _) (by rw [mem_rg]; omega)]
  · rw [sum_out (f := fun b => if w ≤ top then c (t - b) else 0) (by rw [mem_rg]; omega), if_neg z]
theorem cN_red (h : ¬ (a = 0 ∧ (l = .no ∨ l = .clr))) (hr : l = .red) (ht : 1 ≤ top) (t : Int) : cN top a w l c t = conv top c 1 t := by
  unfold cN conv
  rw [rg_cons (by omega), List.map_cons, List.sum_cons]
  have e : ∀ b, balB a w l top b = decide (2 ≤ b ∧ b ≤ top) := fun b => by unfold balB; rw [if_neg h, if_pos hr]
  rw [e, if_neg (by simp), Int.zero_add]
  congr 1
  apply List.map_congr_left
  intro b hb
  rw [mem_rg] at hb
  rw [e, if_pos (by rw [decide_eq_true_eq]; omega)]
  rfl
theorem cN_ball (h : ¬ (a = 0 ∧ (l = .no ∨ l = .clr))) (hr : l ≠ .red) (ht : 1 ≤ top) (t : Int) : cN top a w l c t = c (t - 1) := by
  unfold cN
  have e : ∀ b, balB a w l top b = decide (b = 1) := fun b => by unfold balB; rw [if_neg h, if_neg hr]
  simp only [e, decide_eq_true_eq]
  rw [sum_single (f := fun b => c (t - b)) (rg_nodup _ _) (by rw [mem_rg]; omega)]
theorem cN_nonneg (h : ∀ t, 0 ≤ c t) (t : Int) : 0 ≤ cN top a w l c t := by
  unfold cN
  refine sum_nonneg fun x hx => ?_
  obtain ⟨b, _, rfl⟩ := List.mem_map.mp hx
  split
  · exact h _
  · omega
theorem Rem_ne {t x y : Int} (h : l ≠ .red) : Rem top a w l c t x y = remC top a w c t x y := by unfold Rem; rw [if_neg h]
theorem Rem_red {t x y : Int} : Rem top a w .red c t x y = remR top a c t x y := by unfold Rem; rw [if_pos rfl]
theorem nx_low (h : a = 0 ∧ (l = .no ∨ l = .clr)) : nxH a w l = (0, w + 1) ∧ nxL a l = .clr := by unfold nxH nxL; rw [if_pos h, if_pos h]; exact ⟨rfl, rfl⟩
theorem nx_red (h : ¬ (a = 0 ∧ (l = .no ∨ l = .clr))) (hr : l = .red) : nxH a w l = (a, w) ∧ nxL a l = if 0 < a then .col else .clr := by unfold nxH nxL; rw [if_neg h, if_neg h, if_pos hr, if_pos hr]; exact ⟨rfl, rfl⟩
theorem nx_ball (h : ¬ (a = 0 ∧ (l = .no ∨ l = .clr))) (hr : l ≠ .red) : nxH a w l = (a - 1, w) ∧ nxL a l = .red := by unfold nxH nxL; rw [if_neg h, if_neg h, if_neg hr, if_neg hr]; exact ⟨rfl, rfl⟩
theorem NdOk.pos {L : Int} (ok : NdOk top L a w l) (h : ¬ (a = 0 ∧ (l = .no ∨ l = .clr))) (hr : l ≠ .red) : 0 < a := by
  have a0 := ok.a0
  cases l with
  | no => have : a ≠ 0 := fun z => h ⟨z, .inl rfl⟩; omega
  | clr => have : a ≠ 0 := fun z => h ⟨z, .inr rfl⟩; omega
  | red => exact absurd rfl hr
  | col => exact ok.c rfl
theorem rem_step {L : Int} (ok : NdOk top L a w l) (ht : 2 ≤ top) (t x y : Int) : Rem top a w l c t x y = (if x = a ∧ y = w then c t else 0) + Rem top (nxH a w l).1 (nxH a w l).2 (nxL a l) (cN top a w l c) t x y := by
  by_cases h : a = 0 ∧ (l = .no ∨ l = .clr)
  · have e : cN top a w l c = fun t => if w ≤ top then c (t - w) else 0 := funext fun t => cN_low h ok.w2 t
    have lr : l ≠ .red := by rcases h.2 with z | z <;> rw [z] <;> decide
    obtain ⟨e1, e2⟩ := nx_low (w := w) h
    rw [Rem_ne lr, e1, e2, Rem_ne (show Lst.clr ≠ .red by decide), e]
    dsimp only
    obtain ⟨rfl, _⟩ := h
    by_cases tw : w ≤ top
    · simp only [if_pos tw]
      exact rem_clear tw
    · have : w = top + 1 := by have := ok.wt; omega
      subst this
      rw [rem_end]
      unfold remC
      have z : ¬ (x = 0 ∧ top + 1 + 1 ≤ y ∧ y ≤ top + 1) := by omega
      rw [if_pos rfl, if_neg z]; omega
  · by_cases hr : l = .red
    · have e : cN top a w l c = conv top c 1 := funext fun t => cN_red h hr (by omega) t
      have w2 := ok.r hr
      obtain ⟨e1, e2⟩ := nx_red (w := w) h hr
      have ln : (if 0 < a then Lst.col else .clr) ≠ .red := by split <;> decide
      subst w2
      rw [e1, e2, Rem_ne ln, e, hr, Rem_red]
      rfl
    · have e : cN top a w l c = fun t => c (t - 1) := funext fun t => cN_ball h hr (by omega) t
      have ap := ok.pos h hr
      have w2 : w = 2 := by have := ok.s; omega
      subst w2
      obtain ⟨e1, e2⟩ := nx_ball (w := 2) h hr
      rw [Rem_ne hr, e1, e2, Rem_red, e]
      exact rem_red (by omega) ap
/-- how many levels are to come, at most -/
def mu (top a w : Int) (l : Lst) : Nat := (2 * a + (if l = .red then 1 else 0) + (top + 1 - w)).toNat
theorem next_ok {L : Int} (ok : NdOk top L a w l) (ht : 2 ≤ top) (hn : ∃ t, cN top a w l c t ≠ 0) : NdOk top L (nxH a w l).1 (nxH a w l).2 (nxL a l) ∧ mu top (nxH a w l).1 (nxH a w l).2 (nxL a l) < mu top a w l := by
  have ps := ok.pos
  obtain ⟨a0, aL, w2, wt, s, r, hc⟩ := ok
  by_cases h : a = 0 ∧ (l = .no ∨ l = .clr)
  · have lr : l ≠ .red := by rcases h.2 with z | z <;> rw [z] <;> decide
    have tw : w ≤ top := by
      obtain ⟨t, hn⟩ := hn
      rw [cN_low h w2] at hn
      by_cases z : w ≤ top
      · exact z
      · rw [if_neg z] at hn; exact absurd rfl hn
    obtain ⟨e1, e2⟩ := nx_low (w := w) h
    rw [e1, e2]
    refine ⟨⟨by dsimp only; omega, by dsimp only; omega, by dsimp only; omega, by dsimp only; omega, .inl rfl, nofun, nofun⟩, ?_⟩
    unfold mu
    rw [if_neg lr, if_neg (show ¬ Lst.clr = .red by decide)]
    dsimp only
    omega
  · by_cases hr : l = .red
    · have ww := r hr
      obtain ⟨e1, e2⟩ := nx_red (w := w) h hr
      have ln : (if 0 < a then Lst.col else .clr) ≠ .red := by split <;> decide
      rw [e1, e2]
      refine ⟨⟨a0, aL, w2, wt, s, fun _ => ww, fun z => ?_⟩, ?_⟩
      · by_cases p : 0 < a
        · exact p
        · rw [if_neg p] at z; cases z
      · unfold mu
        rw [if_neg ln, if_pos hr]
        dsimp only
        omega
    · have ap := ps h hr
      have ww : w = 2 := by omega
      obtain ⟨e1, e2⟩ := nx_ball (w := w) h hr
      rw [e1, e2]
      refine ⟨⟨by dsimp only; omega, by dsimp only; omega, w2, wt, .inr ww, fun _ => ww, nofun⟩, ?_⟩
      unfold mu
      rw [if_neg hr, if_pos rfl]
      dsimp only
      omega
theorem rem_nil {top a w : Int} {l : Lst} {t x y : Int} : Rem top a w l (fun _ => 0) t x y = 0 := by
  have e : conv top (fun _ => 0) 1 = fun _ => 0 := funext fun t => conv_nil 1 t
  unfold Rem remR
  rw [e]
  unfold remC
  simp [conv_nil]
/-! part of a level -/
def gp (top a w : Int) (l : Lst) (c : Int → Int) (pre : List Int) (t : Int) : Int := ((rg 1 (top + 1)).map fun b => if balB a w l top b = true then (if t - b ∈ pre then c (t - b) else 0) else 0).sum
theorem gp_nil (t : Int) : gp top a w l c [] t = 0 := by
  unfold gp
  have : ∀ m : List Int, (m.map fun b => if balB a w l top b = true then (if t - b ∈ ([] : List Int) then c (t - b) else 0) else 0).sum = 0 := fun m => by
    induction m with
    | nil => rfl
    | cons b m ih => rw [List.map_cons, List.sum_cons, ih]; simp
  exact this _
theorem gp_nonneg (h : ∀ t, 0 ≤ c t) (pre : List Int) (t : Int) : 0 ≤ gp top a w l c pre t := by
  unfold gp
  refine sum_nonneg fun x hx => ?_
  obtain ⟨b, _, rfl⟩ := List.mem_map.mp hx
  split
  · split
    · exact h _
    · omega
  · omega
theorem gp_full {ts : List Int} (h : ∀ t, t ∈ ts ↔ c t ≠ 0) (t : Int) : gp top a w l c ts t = cN top a w l c t := by
  unfold gp cN
  congr 1
  apply List.map_congr_left
  intro b _
  by_cases z : balB a w l top b = true
  · rw [if_pos z, if_pos z]
    split
    · rfl
    · rename_i q
      by_cases e : c (t - b) = 0
      · exact e.symm
      · exact absurd ((h _).mpr e) q
  · rw [if_neg z, if_neg z]
theorem gp_snoc {pre : List Int} {t0 : Int} (n : t0 ∉ pre) (t : Int) : gp top a w l c (pre ++ [t0]) t = gp top a w l c pre t + if t - t0 ∈ rg 1 (top + 1) ∧ balB a w l top (t - t0) = true then c t0 else 0 := by
  unfold gp
  have : ∀ m : List Int, m.Nodup → (m.map fun b => if balB a w l top b = true then (if t - b ∈ pre ++ [t0] then c (t - b) else 0) else 0).sum = (m.map fun b => if balB a w l top b = true then (if t - b ∈ pre then c (t - b) else 0) else 0).sum + if t - t0 ∈ m ∧ balB a w l top (t - t0) = true then c t0 else 0 := fun m => by
    induction m with
    | nil => intro _; simp
    | cons b m ih =>
      intro nd
      obtain ⟨n1, n2⟩ := List.nodup_cons.mp nd
      rw [List.map_cons, List.sum_cons, List.map_cons, List.sum_cons, ih n2]
      by_cases e : t - b = t0
      · have eb : t - t0 = b := by omega
        rw [eb]
        have q : ¬ (b ∈ m ∧ balB a w l top b = true) := fun z => n1 z.1
        rw [if_neg q]
        by_cases z : balB a w l top b = true
        · have q1 : b ∈ b :: m ∧ balB a w l top b = true := ⟨List.mem_cons_self, z⟩
          have q2 : t0 ∈ pre ++ [t0] := by simp
          rw [if_pos z, if_pos z, e, if_pos q2, if_neg n, if_pos q1]
          omega
        · rw [if_neg z, if_neg z, if_neg fun h => z h.2]
          omega
      · have e1 : (t - b ∈ pre ++ [t0]) ↔ t - b ∈ pre := by
          rw [List.mem_append, List.mem_singleton]
          exact ⟨fun h => h.resolve_right e, .inl⟩
        have e2 : (t - t0 ∈ b :: m ∧ balB a w l top (t - t0) = true) ↔ (t - t0 ∈ m ∧ balB a w l top (t - t0) = true) := by
          rw [List.mem_cons]
          exact ⟨fun h => ⟨h.1.resolve_left fun q => e (by omega), h.2⟩, fun h => ⟨.inr h.1, h.2⟩⟩
        simp only [e1, e2]
        omega
  exact this _ (rg_nodup _ _)
end
end DL

set_option maxHeartbeats 1000000
namespace DL
open PySem L2
local macro_rules | `(tactic| wtm_at "run") => `(tactic| conv => whnf)
local macro_rules | `(tactic| wtm_at "sz") => `(tactic| (rw [line_eq]; simp only [List.length_cons, List.length_nil, List.length_map, List.length_append, rg_length, rngD_rg]; omega))
local macro_rules | `(tactic| wtm_at "go") => `(tactic| ((conv => whnf); repeat (first
  | ((with_reducible refine eq_int ?_); conv => whnf) | ((with_reducible refine ne_int ?_); conv => whnf)
  | ((with_reducible refine lt_int ?_); conv => whnf) | ((with_reducible refine le_int ?_); conv => whnf) | ((with_reducible refine gt_int ?_); conv => whnf) | ((with_reducible refine ge_int ?_); conv => whnf)
  | ((with_reducible refine idx_0 ?_); conv => whnf) | ((with_reducible refine idx_1 ?_); conv => whnf)
  | ((with_reducible refine iteB_T ?_); conv => whnf) | ((with_reducible refine iteB_F ?_); conv => whnf) | ((with_reducible refine iteB_nT ?_); conv => whnf) | ((with_reducible refine iteB_nF ?_); conv => whnf)
  | ((with_reducible refine iteB_n0 ?_); conv => whnf) | ((with_reducible refine iteB_n1 ?_); conv => whnf) | ((with_reducible refine iteB_n2 ?_); conv => whnf) | ((with_reducible refine iteB_n3 ?_); conv => whnf) | ((with_reducible refine iteB_n4 ?_); conv => whnf) | ((with_reducible refine iteB_n5 ?_); conv => whnf)
  | ((with_reducible refine seq_lst ?_); conv => whnf) | ((with_reducible refine seq_tup ?_); conv => whnf)
  | ((with_reducible refine eq_pairs ?_); conv => whnf) | ((with_reducible refine ne_pairs ?_); conv => whnf) | ((with_reducible refine eq_pairs0 ?_); conv => whnf) | ((with_reducible refine ne_pairs0 ?_); conv => whnf)
  | ((with_reducible refine eq_ints ?_); conv => whnf) | ((with_reducible refine ne_ints ?_); conv => whnf) | ((with_reducible refine eq_ints0 ?_); conv => whnf) | ((with_reducible refine ne_ints0 ?_); conv => whnf)
  | ((with_reducible refine eq_tints ?_); conv => whnf) | ((with_reducible refine ne_tints ?_); conv => whnf) | ((with_reducible refine eq_tints0 ?_); conv => whnf) | ((with_reducible refine ne_tints0 ?_); conv => whnf)
  | ((with_reducible refine eq_pair ?_); conv => whnf) | ((with_reducible refine ne_pair ?_); conv => whnf)
  | ((with_reducible refine is_non ?_); conv => whnf) | ((with_reducible refine isnot_non ?_); conv => whnf) | ((with_reducible refine is_bl ?_); conv => whnf) | ((with_reducible refine isnot_bl ?_); conv => whnf)
  | ((with_reducible refine in_pairs ?_); conv => whnf) | ((with_reducible refine notIn_pairs ?_); conv => whnf)
  | ((with_reducible refine slice_l ?_); conv => whnf) | ((with_reducible refine slice_t ?_); conv => whnf)
  | ((with_reducible apply callG_i); (with_reducible assumption); rfl; conv => whnf)
  | (refine callD_v (by rfl) (by rfl) ?_)
  | ((with_reducible refine And.intro rfl ?_); conv => whnf)
  | ((with_reducible refine And.intro (pos_i (by omega)) ?_); conv => whnf)
  | ((with_reducible apply hasD_and); rfl; conv => whnf)
  | ((with_reducible refine And.intro (ownL_i rfl) ?_); conv => whnf)
  | ((with_reducible refine idx_l0 ?_); conv => whnf) | ((with_reducible refine idx_l1 ?_); conv => whnf) | ((with_reducible refine idx_l2 ?_); conv => whnf)
  | ((with_reducible refine And.intro (mul_l (by omega)) ?_); conv => whnf)
  | ((with_reducible refine And.intro (mul_r (by omega)) ?_); conv => whnf)
  | ((with_reducible refine And.intro (div_ok (by omega)) ?_); conv => whnf)
  | ((with_reducible refine And.intro (rng_ok (by ((try simp only [List.length_map]); omega))) ?_); conv => whnf)
  | ((with_reducible refine And.intro (line_le (by ((try simp only [List.length_cons, List.length_nil, List.length_map, List.length_append, rg_length, rngD_rg]); omega))) ?_); conv => whnf)
  | ((with_reducible apply idx_at); rfl; conv => whnf)
  )))
local macro_rules | `(tactic| wtm_at "mono") => `(tactic| (intro ds K K' R R' h hR q; (repeat (first | (refine Exists.imp (fun _ q => ?_) q; rename_i q) | (refine And.imp_right (fun q => ?_) q; rename_i q))); first | exact h _ _ q | exact ite_m (fun z => h _ _ z) (fun z => hR _ z) q | (intros; refine h _ _ (q _ _ _ ?_ ?_ ?_) <;> assumption) | (intros; refine h _ _ (q _ _ _ ?_) <;> assumption) | (intros; refine h _ _ (q _ _ _ _ ?_ ?_ ?_ ?_ ?_) <;> assumption)))
abbrev v4 : List Md := [.val, .val, .val, .val]
def tvBB : Ss := (.cons (.asg 11 (.call "_law_ball" (.cons (.var 5) (.cons (.var 6) (.cons (.var 0) (.cons (.var 10) .nil)))))) (.cons (.ite (.cmp .isNot (.var 11) (.non)) (.cons (.asg 12 (.tup (.cons (.idx (.var 11) (.int 0)) (.cons (.idx (.var 11) (.int 1)) (.cons (.bin .add (.var 7) (.var 10)) .nil))))) (.cons (.setIx 4 (.var 12) (.bin .add (.geto 4 (.var 12) (.int 0)) (.var 8))) .nil)) (.nil)) .nil))
def tvFB : Ss := (.cons (.asg 8 (.idx (.var 3) (.tup (.cons (.var 5) (.cons (.var 6) (.cons (.var 7) .nil)))))) (.cons (.nest 2 9 7 5 8) (.cons (.for_ (.one 10) (.rng2 (.int 1) (.bin .add (.var 0) (.int 1))) tvBB) .nil)))
def tvBD : Ss := (.cons (.asg 4 (.dNew true)) (.cons (.for_ (.many [5, 6, 7]) (.seq (.var 3)) tvFB) (.cons (.asg 3 (.var 4)) .nil)))
theorem idx_dT {ks vs xs : List D} {d : D} {q : D → Prop} (h1 : kOk1 (.tup xs) = true) (e : lookL (keys ks) vs (D.tup xs).key = some d) (h : q d) : idxD (.dT ks vs) (.tup xs) q := by
  rw [idxD_eq, idxD0.eq_def]
  dsimp only
  refine ⟨h1, ?_⟩
  rw [e]; exact h
theorem get_dT {ks vs xs : List D} {x d : D} {q : D → Prop} (h1 : kOk1 (.tup xs) = true) (e : (lookL (keys ks) vs (D.tup xs).key).getD x = d) (h : q d) : getD_ (.dT ks vs) (.tup xs) x q := by
  rw [getD__eq, getD_0.eq_def]
  dsimp only
  refine ⟨h1, ?_⟩
  rw [e]; exact h
theorem hasDct_t {s : DSt} {i : Nat} {ks vs : List D} {Y : Prop} (h : s[i]? = some (some (.own (.t ks vs)))) (k : Y) : hasDct s i ∧ Y := ⟨by unfold hasDct; rw [h]; trivial, k⟩
theorem emp_dT {ks vs : List D} {k : Bool → Prop} (h : k (!ks.isEmpty)) : empD (.dT ks vs) k := by rw [empD_eq, empD0.eq_def]; exact h
/-- one ball more -/
theorem w_BB (G : Gam) (h1 : G "_law_ball" = some (v4, c_ball)) {top a w t0 b ways : Int} {l : Lst} {st : D} {fo fr x9 x11 x12 : Option Sl} {g : Int → Int} {ts : List Int} {nx : DSt → Prop} {rt : DSt → Rs → Prop} {xx : Str → Prop} {bk ct : DSt → Prop}
    (ok : LtOk (nxH a w l) (nxL a l) g ts) (hg : ∀ t, 0 ≤ g t) (hw : 0 < ways) (hz : ts.length < 16777216)
    (n1 : balB a w l top b = true → ∀ x11 x12, nx [some (.val (.int top)), some (.val st), fo, fr, some (.own (.t (ltK (nxH a w l) (nxL a l) (addA ts (t0 + b))) (ltV (bump g (t0 + b) ways) (addA ts (t0 + b))))), some (.val (pD (a, w))), some (.val l.d), some (.val (.int t0)), some (.val (.int ways)), x9, some (.val (.int b)), x11, x12])
    (n2 : balB a w l top b = false → ∀ x11 x12, nx [some (.val (.int top)), some (.val st), fo, fr, some (.own (.t (ltK (nxH a w l) (nxL a l) ts) (ltV g ts))), some (.val (pD (a, w))), some (.val l.d), some (.val (.int t0)), some (.val (.int ways)), x9, some (.val (.int b)), x11, x12]) :
    wpSs G tvBB [some (.val (.int top)), some (.val st), fo, fr, some (.own (.t (ltK (nxH a w l) (nxL a l) ts) (ltV g ts))), some (.val (pD (a, w))), some (.val l.d), some (.val (.int t0)), some (.val (.int ways)), x9, some (.val (.int b)), x11, x12] ⟨nx, rt, xx, bk, ct⟩ := by
  wtm_at "go"
  refine i_ball ?_
  by_cases c : balB a w l top b = true
  · have e : ballD a w l top b = .tup [pD (nxH a w l), (nxL a l).d] := by unfold ballD; rw [if_pos c]
    rw [e]
    have n1 := n1 c
    wtm_at "go"
    refine hasDct_t rfl ?_
    wtm_at "go"
    refine get_dT (kOk1_node _ _ _) (lt_getD ok (t0 + b)) ?_
    obtain ⟨e1, e2, e3⟩ := lt_put ok hg (t0 := t0 + b) hw
    wtm_at "go"
    refine ⟨kOk1_node _ _ _, by rw [line_eq, List.length_map]; exact hz, ?_⟩
    rw [e2, e3]
    exact n1 _ _
  · have c' : balB a w l top b = false := by simpa using c
    have e : ballD a w l top b = .non := by unfold ballD; rw [if_neg c]
    rw [e]
    have n2 := n2 c'
    wtm_at "go"
    exact n2 _ _
/-- a place of the front -/
theorem w_FB (G : Gam) (h1 : G "_law_ball" = some (v4, c_ball)) {top a w t0 : Int} {l : Lst} {st : D} {x8 x9 x10 x11 x12 : Option Sl} {c g : Int → Int} {F : Int → Int × Int → Int} {o : Own} {tf ts : List Int} {nx : DSt → Prop} {rt : DSt → Rs → Prop} {xx : Str → Prop} {bk ct : DSt → Prop}
    (ht : 3 ≤ top ∧ top ≤ 9) (okf : LtOk (a, w) l c tf) (hc : ∀ t, 0 ≤ c t) (m0 : t0 ∈ tf) (ok : LtOk (nxH a w l) (nxL a l) g ts) (hg : ∀ t, 0 ≤ g t) (hO : FdO F o) (hF : ∀ t x, 0 ≤ F t x) (szF : ∀ ts hs, FdN F ts hs → ts.length < 16777216 ∧ ∀ t, (hs t).length < 16777216)
    (szG : ∀ (pb : List Int) (ts : List Int), LtOk (nxH a w l) (nxL a l) (fun t => g t + if t - t0 ∈ pb ∧ balB a w l top (t - t0) = true then c t0 else 0) ts → ts.length < 16777216)
    (nn : ∀ o' ts' x8 x10 x11 x12, FdO (bumpF F t0 (a, w) (c t0)) o' → LtOk (nxH a w l) (nxL a l) (fun t => g t + if t - t0 ∈ rg 1 (top + 1) ∧ balB a w l top (t - t0) = true then c t0 else 0) ts' →
      nx [some (.val (.int top)), some (.val st), some (.own o'), some (.val (.dT (ltK (a, w) l tf) (ltV c tf))), some (.own (.t (ltK (nxH a w l) (nxL a l) ts') (ltV (fun t => g t + if t - t0 ∈ rg 1 (top + 1) ∧ balB a w l top (t - t0) = true then c t0 else 0) ts'))), some (.val (pD (a, w))), some (.val l.d), some (.val (.int t0)), x8, none, x10, x11, x12]) :
    wpSs G tvFB [some (.val (.int top)), some (.val st), some (.own o), some (.val (.dT (ltK (a, w) l tf) (ltV c tf))), some (.own (.t (ltK (nxH a w l) (nxL a l) ts) (ltV g ts))), some (.val (pD (a, w))), some (.val l.d), some (.val (.int t0)), x8, x9, x10, x11, x12] ⟨nx, rt, xx, bk, ct⟩ := by
  have hw : 0 < c t0 := by have h1 := (okf.mem t0).mp m0; have h2 := hc t0; omega
  wtm_at "go"
  refine idx_dT (kOk1_node _ _ _) (show _ = some (.int (c t0)) from ?_) ?_
  · exact (lt_get okf t0).trans (if_pos m0)
  wtm_at "go"
  refine nestD_i (F := F) (t0 := t0) (x0 := (a, w)) (j := c t0) (o := o) rfl rfl rfl rfl hO hF hw (by simp) szF fun o' hO' => ?_
  wtm_at "go"
  rw [rngD_rg]
  refine forL_pre (rg 1 (top + 1)) iD (fun pb s => ∃ ts' x10 x11 x12, s = [some (.val (.int top)), some (.val st), some (.own o'), some (.val (.dT (ltK (a, w) l tf) (ltV c tf))), some (.own (.t (ltK (nxH a w l) (nxL a l) ts') (ltV (fun t => g t + if t - t0 ∈ pb ∧ balB a w l top (t - t0) = true then c t0 else 0) ts'))), some (.val (pD (a, w))), some (.val l.d), some (.val (.int t0)), some (.val (.int (c t0))), none, x10, x11, x12] ∧
    LtOk (nxH a w l) (nxL a l) (fun t => g t + if t - t0 ∈ pb ∧ balB a w l top (t - t0) = true then c t0 else 0) ts') ?_ ?_ ?_
  · have e : (fun t => g t + if t - t0 ∈ ([] : List Int) ∧ balB a w l top (t - t0) = true then c t0 else 0) = g := funext fun t => by simp
    rw [e]
    exact ⟨ts, _, _, _, rfl, ok⟩
  · rintro pre b post s ee ⟨ts', x10, x11, x12, rfl, ok'⟩ N hN
    have nb : b ∉ pre := by
      have := rg_nodup 1 (top + 1)
      rw [ee, List.nodup_append] at this
      exact fun z => this.2.2 b z b List.mem_cons_self rfl
    have gn : ∀ t, 0 ≤ g t + if t - t0 ∈ pre ∧ balB a w l top (t - t0) = true then c t0 else 0 := fun t => by
      have := hg t
      split <;> omega
    wtm_at "run"
    refine w_BB G h1 ok' gn hw (szG pre ts' ok') (fun hb x11 x12 => ?_) fun hb x11 x12 => ?_
    · refine hN _ ?_
      have e : (fun t => g t + if t - t0 ∈ pre ++ [b] ∧ balB a w l top (t - t0) = true then c t0 else 0) = bump (fun t => g t + if t - t0 ∈ pre ∧ balB a w l top (t - t0) = true then c t0 else 0) (t0 + b) (c t0) := funext fun t => by
        show _ = g t + (if t - t0 ∈ pre ∧ balB a w l top (t - t0) = true then c t0 else 0) + if t = t0 + b then c t0 else 0
        by_cases z : t = t0 + b
        · have z2 : t - t0 = b := by omega
          rw [if_pos z, z2, if_pos ⟨by simp, hb⟩, if_neg fun q => nb q.1]
          omega
        · have z2 : ¬ t - t0 = b := by omega
          rw [if_neg z, Int.add_zero]
          simp only [List.mem_append, List.mem_singleton, z2, or_false]
      rw [e]
      exact ⟨_, _, x11, x12, rfl, (lt_put ok' gn hw).1⟩
    · refine hN _ ?_
      have e : (fun t => g t + if t - t0 ∈ pre ++ [b] ∧ balB a w l top (t - t0) = true then c t0 else 0) = (fun t => g t + if t - t0 ∈ pre ∧ balB a w l top (t - t0) = true then c t0 else 0) := funext fun t => by
        by_cases z2 : t - t0 = b
        · rw [z2, hb]; simp
        · simp only [List.mem_append, List.mem_singleton, z2, or_false]
      rw [e]
      exact ⟨ts', _, x11, x12, rfl, ok'⟩
  · rintro s ⟨ts', x10, x11, x12, rfl, ok'⟩
    exact nn o' ts' _ x10 x11 x12 hO' ok'
end DL

set_option maxHeartbeats 1000000
namespace DL
open PySem L2
local macro_rules | `(tactic| wtm_at "run") => `(tactic| conv => whnf)
local macro_rules | `(tactic| wtm_at "sz") => `(tactic| (rw [line_eq]; simp only [List.length_cons, List.length_nil, List.length_map, List.length_append, rg_length, rngD_rg]; omega))
local macro_rules | `(tactic| wtm_at "go") => `(tactic| ((conv => whnf); repeat (first
  | ((with_reducible refine eq_int ?_); conv => whnf) | ((with_reducible refine ne_int ?_); conv => whnf)
  | ((with_reducible refine lt_int ?_); conv => whnf) | ((with_reducible refine le_int ?_); conv => whnf) | ((with_reducible refine gt_int ?_); conv => whnf) | ((with_reducible refine ge_int ?_); conv => whnf)
  | ((with_reducible refine idx_0 ?_); conv => whnf) | ((with_reducible refine idx_1 ?_); conv => whnf)
  | ((with_reducible refine iteB_T ?_); conv => whnf) | ((with_reducible refine iteB_F ?_); conv => whnf) | ((with_reducible refine iteB_nT ?_); conv => whnf) | ((with_reducible refine iteB_nF ?_); conv => whnf)
  | ((with_reducible refine iteB_n0 ?_); conv => whnf) | ((with_reducible refine iteB_n1 ?_); conv => whnf) | ((with_reducible refine iteB_n2 ?_); conv => whnf) | ((with_reducible refine iteB_n3 ?_); conv => whnf) | ((with_reducible refine iteB_n4 ?_); conv => whnf) | ((with_reducible refine iteB_n5 ?_); conv => whnf)
  | ((with_reducible refine seq_lst ?_); conv => whnf) | ((with_reducible refine seq_tup ?_); conv => whnf)
  | ((with_reducible refine eq_pairs ?_); conv => whnf) | ((with_reducible refine ne_pairs ?_); conv => whnf) | ((with_reducible refine eq_pairs0 ?_); conv => whnf) | ((with_reducible refine ne_pairs0 ?_); conv => whnf)
  | ((with_reducible refine eq_ints ?_); conv => whnf) | ((with_reducible refine ne_ints ?_); conv => whnf) | ((with_reducible refine eq_ints0 ?_); conv => whnf) | ((with_reducible refine ne_ints0 ?_); conv => whnf)
  | ((with_reducible refine eq_tints ?_); conv => whnf) | ((with_reducible refine ne_tints ?_); conv => whnf) | ((with_reducible refine eq_tints0 ?_); conv => whnf) | ((with_reducible refine ne_tints0 ?_); conv => whnf)
  | ((with_reducible refine eq_pair ?_); conv => whnf) | ((with_reducible refine ne_pair ?_); conv => whnf)
  | ((with_reducible refine is_non ?_); conv => whnf) | ((with_reducible refine isnot_non ?_); conv => whnf) | ((with_reducible refine is_bl ?_); conv => whnf) | ((with_reducible refine isnot_bl ?_); conv => whnf)
  | ((with_reducible refine in_pairs ?_); conv => whnf) | ((with_reducible refine notIn_pairs ?_); conv => whnf)
  | ((with_reducible refine slice_l ?_); conv => whnf) | ((with_reducible refine slice_t ?_); conv => whnf)
  | ((with_reducible apply callG_i); (with_reducible assumption); rfl; conv => whnf)
  | (refine callD_v (by rfl) (by rfl) ?_)
  | ((with_reducible refine And.intro rfl ?_); conv => whnf)
  | ((with_reducible refine And.intro (pos_i (by omega)) ?_); conv => whnf)
  | ((with_reducible apply hasD_and); rfl; conv => whnf)
  | ((with_reducible refine And.intro (ownL_i rfl) ?_); conv => whnf)
  | ((with_reducible refine idx_l0 ?_); conv => whnf) | ((with_reducible refine idx_l1 ?_); conv => whnf) | ((with_reducible refine idx_l2 ?_); conv => whnf)
  | ((with_reducible refine And.intro (mul_l (by omega)) ?_); conv => whnf)
  | ((with_reducible refine And.intro (mul_r (by omega)) ?_); conv => whnf)
  | ((with_reducible refine And.intro (div_ok (by omega)) ?_); conv => whnf)
  | ((with_reducible refine And.intro (rng_ok (by ((try simp only [List.length_map]); omega))) ?_); conv => whnf)
  | ((with_reducible refine And.intro (line_le (by ((try simp only [List.length_cons, List.length_nil, List.length_map, List.length_append, rg_length, rngD_rg]); omega))) ?_); conv => whnf)
  | ((with_reducible apply idx_at); rfl; conv => whnf)
  )))
local macro_rules | `(tactic| wtm_at "mono") => `(tactic| (intro ds K K' R R' h hR q; (repeat (first | (refine Exists.imp (fun _ q => ?_) q; rename_i q) | (refine And.imp_right (fun q => ?_) q; rename_i q))); first | exact h _ _ q | exact ite_m (fun z => h _ _ z) (fun z => hR _ z) q | (intros; refine h _ _ (q _ _ _ ?_ ?_ ?_) <;> assumption) | (intros; refine h _ _ (q _ _ _ ?_) <;> assumption) | (intros; refine h _ _ (q _ _ _ _ ?_ ?_ ?_ ?_ ?_) <;> assumption)))
theorem lt_size {h : Int × Int} {l : Lst} {g : Int → Int} {ts : List Int} {B : Int} (ok : LtOk h l g ts) (b : ∀ t, g t ≠ 0 → 0 ≤ t ∧ t ≤ B) (hB : B ≤ 10000) : ts.length < 16777216 := by
  have := nodup_le ok.nd (m := rg 0 (B + 1)) fun t ht => by
    have := b t ((ok.mem t).mp ht)
    rw [mem_rg]; omega
  rw [rg_length] at this
  omega
theorem fd_size {F : Int → Int × Int → Int} {ts : List Int} {hs : Int → List (Int × Int)} {B L top : Int} (h : FdN F ts hs) (b : ∀ t x, F t x ≠ 0 → (0 ≤ t ∧ t ≤ B) ∧ St L top x) (hB : B ≤ 10000) (hL : L ≤ 15) (ht : top ≤ 9) : ts.length < 16777216 ∧ ∀ t, (hs t).length < 16777216 := by
  constructor
  · have := nodup_le h.nd (m := rg 0 (B + 1)) fun t ht => by
      obtain ⟨x, hx⟩ := (h.tot t).mp ht
      have := (b t x hx).1
      rw [mem_rg]; omega
    rw [rg_length] at this
    omega
  · intro t
    have := few (h.nh t) fun x hx => (b t x ((h.mem t x).mp hx)).2
    omega
theorem gp_ne {top a w : Int} {l : Lst} {c : Int → Int} {pre : List Int} {t : Int} (hc : ∀ t, 0 ≤ c t) (h : gp top a w l c pre t ≠ 0) : ∃ b, 1 ≤ b ∧ b ≤ top ∧ c (t - b) ≠ 0 := by
  unfold gp at h
  obtain ⟨x, hx, hn⟩ := (sum_ne fun x hx => by
    obtain ⟨b, _, rfl⟩ := List.mem_map.mp hx
    split
    · split
      · exact hc _
      · omega
    · omega).mp h
  obtain ⟨b, hb, rfl⟩ := List.mem_map.mp hx
  rw [mem_rg] at hb
  refine ⟨b, by omega, by omega, fun z => hn ?_⟩
  split
  · split
    · exact z
    · rfl
  · rfl
abbrev slI (i : Int) : Option Sl := some (.val (.int i))
/-- a level -/
theorem w_BD (G : Gam) (h1 : G "_law_ball" = some (v4, c_ball)) {top a w L B : Int} {l : Lst} {st : D} {x4 x5 x6 x7 x8 x9 x10 x11 x12 : Option Sl} {c : Int → Int} {F : Int → Int × Int → Int} {o : Own} {tf : List Int} {nx : DSt → Prop} {rt : DSt → Rs → Prop} {xx : Str → Prop} {bk ct : DSt → Prop}
    (ht : 3 ≤ top ∧ top ≤ 9) (hL : L ≤ 15) (hB : B ≤ 600) (okf : LtOk (a, w) l c tf) (hc : ∀ t, 0 ≤ c t) (cb : ∀ t, c t ≠ 0 → 0 ≤ t ∧ t ≤ B) (hO : FdO F o) (hF : ∀ t x, 0 ≤ F t x) (fb : ∀ t x, F t x ≠ 0 → (0 ≤ t ∧ t ≤ B) ∧ St L top x) (hs : St L top (a, w))
    (nn : ∀ o' ts' x4 x5 x6 x7 x8 x9 x10 x11 x12, FdO (fun t x => F t x + if x = (a, w) then c t else 0) o' → LtOk (nxH a w l) (nxL a l) (cN top a w l c) ts' →
      nx [slI top, some (.val st), some (.own o'), some (.val (.dT (ltK (nxH a w l) (nxL a l) ts') (ltV (cN top a w l c) ts'))), x4, x5, x6, x7, x8, x9, x10, x11, x12]) :
    wpSs G tvBD [slI top, some (.val st), some (.own o), some (.val (.dT (ltK (a, w) l tf) (ltV c tf))), x4, x5, x6, x7, x8, x9, x10, x11, x12] ⟨nx, rt, xx, bk, ct⟩ := by
  wtm_at "go"
  refine seq_dT ?_
  wtm_at "run"
  refine forL_pre tf (nodeD (a, w) l) (fun pre s => ∃ o' ts' x5 x6 x7 x8 x9 x10 x11 x12, s = [slI top, some (.val st), some (.own o'), some (.val (.dT (ltK (a, w) l tf) (ltV c tf))), some (.own (.t (ltK (nxH a w l) (nxL a l) ts') (ltV (gp top a w l c pre) ts'))), x5, x6, x7, x8, x9, x10, x11, x12] ∧
    FdO (fun t x => F t x + if x = (a, w) ∧ t ∈ pre then c t else 0) o' ∧ LtOk (nxH a w l) (nxL a l) (gp top a w l c pre) ts') ?_ ?_ ?_
  · have e1 : (fun t x => F t x + if x = (a, w) ∧ t ∈ ([] : List Int) then c t else 0) = F := funext fun t => funext fun x => by simp
    have e2 : LtOk (nxH a w l) (nxL a l) (gp top a w l c []) [] := ⟨List.nodup_nil, fun t => by rw [gp_nil]; simp⟩
    refine ⟨o, [], _, _, _, _, _, _, _, _, rfl, ?_, e2⟩
    rw [e1]; exact hO
  · rintro pre t0 post s ee ⟨o', ts', x5, x6, x7, x8, x9, x10, x11, x12, rfl, hO', ok'⟩ N hN
    have m0 : t0 ∈ tf := by rw [ee]; simp
    have np : t0 ∉ pre := by
      have := okf.nd
      rw [ee, List.nodup_append] at this
      exact fun z => this.2.2 t0 z t0 List.mem_cons_self rfl
    have c0 := cb t0 ((okf.mem t0).mp m0)
    have F2 : ∀ t x, 0 ≤ F t x + if x = (a, w) ∧ t ∈ pre then c t else 0 := fun t x => by
      have h1 := hF t x
      have h2 := hc t
      split <;> omega
    wtm_at "run"
    refine w_FB G h1 ht okf hc m0 ok' (gp_nonneg hc pre) hO' F2 (fun ts hs' hN => fd_size (B := B) (L := L) (top := top) hN (fun t x hx => ?_) (by omega) hL ht.2) (fun pb ts ok2 => lt_size (B := B + top) ok2 (fun t hx => ?_) (by omega)) fun o2 ts2 x8 x10 x11 x12 hO2 ok2 => ?_
    · by_cases z : F t x = 0
      · rw [z] at hx
        split at hx
        · rename_i q
          obtain ⟨rfl, q⟩ := q
          have q2 : t ∈ tf := by rw [ee]; exact List.mem_append_left _ q
          exact ⟨cb t ((okf.mem t).mp q2), hs⟩
        · exact absurd rfl hx
      · exact fb t x z
    · by_cases z : gp top a w l c pre t = 0
      · rw [z] at hx
        split at hx
        · rename_i q
          by_cases qb : 2 ≤ t - t0 ∧ t - t0 ≤ top
          · omega
          · have q2 := q.2
            unfold balB at q2
            by_cases q3 : a = 0 ∧ (l = .no ∨ l = .clr)
            · rw [if_pos q3, decide_eq_true_eq] at q2
              have := hs.2.2.1
              have hs2 : (2 : Int) ≤ w := this
              omega
            · rw [if_neg q3] at q2
              by_cases q4 : l = .red
              · rw [if_pos q4, decide_eq_true_eq] at q2; omega
              · rw [if_neg q4, decide_eq_true_eq] at q2; omega
        · exact absurd rfl hx
      · obtain ⟨b, b1, b2, b3⟩ := gp_ne hc z
        have := cb _ b3
        omega
    · refine hN _ ?_
      have e1 : (fun t x => F t x + if x = (a, w) ∧ t ∈ pre ++ [t0] then c t else 0) = bumpF (fun t x => F t x + if x = (a, w) ∧ t ∈ pre then c t else 0) t0 (a, w) (c t0) := funext fun t => funext fun x => by
        show _ = F t x + (if x = (a, w) ∧ t ∈ pre then c t else 0) + if t = t0 ∧ x = (a, w) then c t0 else 0
        by_cases z : t = t0
        · subst z
          by_cases zx : x = (a, w)
          · rw [if_pos ⟨zx, by simp⟩, if_neg fun q => np q.2, if_pos ⟨rfl, zx⟩]; omega
          · rw [if_neg fun q => zx q.1, if_neg fun q => zx q.1, if_neg fun q => zx q.2]; omega
        · rw [if_neg (c := t = t0 ∧ x = (a, w)) fun q => z q.1, Int.add_zero]
          simp only [List.mem_append, List.mem_singleton, z, or_false]
      have e2 : gp top a w l c (pre ++ [t0]) = fun t => gp top a w l c pre t + if t - t0 ∈ rg 1 (top + 1) ∧ balB a w l top (t - t0) = true then c t0 else 0 := funext fun t => gp_snoc np t
      rw [e1, e2]
      exact ⟨o2, ts2, _, _, _, x8, none, x10, x11, x12, rfl, hO2, ok2⟩
  · rintro s ⟨o', ts', x5, x6, x7, x8, x9, x10, x11, x12, rfl, hO', ok'⟩
    have e1 : (fun t x => F t x + if x = (a, w) ∧ t ∈ tf then c t else 0) = fun t x => F t x + if x = (a, w) then c t else 0 := funext fun t => funext fun x => by
      by_cases z : c t = 0
      · rw [z]; simp
      · simp only [(okf.mem t).mpr z, and_true]
    have e2 : gp top a w l c tf = cN top a w l c := funext fun t => gp_full okf.mem t
    rw [e1] at hO'
    rw [e2] at ok' ⊢
    wtm_at "go"
    exact nn o' ts' _ _ _ _ _ _ _ _ _ hO' ok'
/-! ### all levels -/
structure VOk (top L w0 : Int) (m : Nat) (a w : Int) (l : Lst) (c : Int → Int) (ts : List Int) (F : Int → Int × Int → Int) (o : Own) (B : Int) : Prop where
  lt : LtOk (a, w) l c ts
  nn : ∀ t, 0 ≤ c t
  nd : ts ≠ [] → NdOk top L a w l
  fd : FdO F o
  fn : ∀ t x, 0 ≤ F t x
  rem : ∀ t x y, F t (x, y) + Rem top a w l c t x y = visF top L w0 t x y
  cb : ∀ t, c t ≠ 0 → 0 ≤ t ∧ t ≤ B
  fb : ∀ t x, F t x ≠ 0 → (0 ≤ t ∧ t ≤ B) ∧ St L top x
  b : B + 10 * m ≤ 600
  mm : m = if ts = [] then 0 else mu top a w l + 1
def VInv (top L w0 : Int) (st : D) (m : Nat) (s : DSt) : Prop := ∃ a w l c ts F o B fr x4 x5 x6 x7 x8 x9 x10 x11 x12, s = [slI top, some (.val st), some (.own o), some fr, x4, x5, x6, x7, x8, x9, x10, x11, x12] ∧
  (fr = .own (.t (ltK (a, w) l ts) (ltV c ts)) ∨ fr = .val (.dT (ltK (a, w) l ts) (ltV c ts))) ∧ VOk top L w0 m a w l c ts F o B
@[irreducible] def c_visits : Ctr := fun ds K _ => ∃ top L w, ds = [.int top, pD (L, w)] ∧ (3 ≤ top ∧ top ≤ 9) ∧ L ≤ 15 ∧ St L top (L, w) ∧ ∀ d, FdD (fun t x => visF top L w t x.1 x.2) d → K (.v d) []
theorem i_visits {top L w : Int} {K : Rs → List D → Prop} {R : Str → Prop} (ht : 3 ≤ top ∧ top ≤ 9) (hL : L ≤ 15) (hs : St L top (L, w)) (hk : ∀ d, FdD (fun t x => visF top L w t x.1 x.2) d → K (.v d) []) : c_visits [.int top, pD (L, w)] K R := by
  rw [c_visits]; exact ⟨top, L, w, rfl, ht, hL, hs, hk⟩
theorem m_visits : CMono c_visits := by
  unfold c_visits
  intro ds K K' R R' h hR q
  obtain ⟨top, L, w, e, h1, h2, h3, h4⟩ := q
  exact ⟨top, L, w, e, h1, h2, h3, fun d hd => h _ _ (h4 d hd)⟩
theorem w_visits (G : Gam) (hG : GMono G) (h1 : G "_law_ball" = some (v4, c_ball)) : Does G v2 t_law_visits 13 c_visits := by
  intro ds K R h
  rw [c_visits] at h
  obtain ⟨top, L, w0, rfl, ht, hL, hs, hk⟩ := h
  have s1 : (0 : Int) ≤ L := hs.1
  have s2 : (2 : Int) ≤ w0 := hs.2.2.1
  have s3 : w0 ≤ top + 1 := hs.2.2.2.1
  have s4 : L = 0 ∨ w0 = 2 := hs.2.2.2.2
  wtm_at "go"
  refine iteB_d (fun c => ?_) fun c => ?_
  · wtm_at "go"
    exact hk _ ⟨[], fun _ => [], rfl, List.nodup_nil, fun _ => List.nodup_nil, fun t x => by simp [visF, c], fun t => by simp [visF, c]⟩
  wtm_at "go"
  refine ⟨VInv top L w0 (pD (L, w0)), ⟨mu top L w0 .no + 1, L, w0, .no, c0, [0], fun _ _ => 0, .i [] [], 0, _, none, none, none, none, none, none, none, none, none, rfl, .inl rfl, ?_⟩, ?_⟩
  · refine ⟨⟨by simp, fun t => ?_⟩, c0_nonneg, fun _ => ⟨s1, Int.le_refl _, s2, s3, s4, nofun, nofun⟩, .inl ⟨rfl, fun _ _ => rfl⟩, fun _ _ => Int.le_refl _, fun t x y => ?_, fun t z => ?_, fun t x z => absurd rfl z, ?_, ?_⟩
    · rw [List.mem_singleton]
      unfold c0
      split <;> simp [*]
    · rw [Rem_ne (by decide), Int.zero_add]
      unfold visF
      rw [if_neg c]
    · unfold c0 at z
      split at z
      · omega
      · exact absurd rfl z
    · unfold mu
      rw [if_neg (by decide)]
      omega
    · rw [if_neg (by simp)]
  · rintro m s ⟨a, w, l, c, ts, F, o, B, fr, x4, x5, x6, x7, x8, x9, x10, x11, x12, rfl, hfr, ok⟩
    have main : ∀ (s' : DSt), s' = [slI top, some (.val (pD (L, w0))), some (.own o), some (.val (.dT (ltK (a, w) l ts) (ltV c ts))), x4, x5, x6, x7, x8, x9, x10, x11, x12] →
        iteB (!(ltK (a, w) l ts).isEmpty) (wpSs G tvBD s' ⟨fun s3 => ∃ m', m' < m ∧ VInv top L w0 (pD (L, w0)) m' s3, fun s r => ioGet v2 s (K r), R, fun s => wpSs G (.cons (.ret (.frz (.mv 2))) .nil) s ⟨fun s => ioGet v2 s (K (.v .non)), fun s r => ioGet v2 s (K r), R, fun _ => False, fun _ => False⟩, fun s3 => ∃ m', m' < m ∧ VInv top L w0 (pD (L, w0)) m' s3⟩)
          (wpSs G (.cons (.ret (.frz (.mv 2))) .nil) s' ⟨fun s => ioGet v2 s (K (.v .non)), fun s r => ioGet v2 s (K r), R, fun _ => False, fun _ => False⟩) := by
      rintro s' rfl
      refine iteB_i (fun ne => ?_) fun em => ?_
      · have ne' : ts ≠ [] := fun z => by rw [z] at ne; cases ne
        have nd := ok.nd ne'
        have b := ok.b
        have mm := ok.mm
        rw [if_neg ne'] at mm
        refine w_BD G h1 ht hL (by omega) ok.lt ok.nn ok.cb ok.fd ok.fn ok.fb ⟨nd.a0, nd.aL, nd.w2, nd.wt, nd.s⟩ fun o' ts' x4 x5 x6 x7 x8 x9 x10 x11 x12 hO' ok' => ?_
        refine ⟨if ts' = [] then 0 else mu top (nxH a w l).1 (nxH a w l).2 (nxL a l) + 1, ?_, (nxH a w l).1, (nxH a w l).2, nxL a l, cN top a w l c, ts', fun t x => F t x + if x = (a, w) then c t else 0, o', B + 10, _, x4, x5, x6, x7, x8, x9, x10, x11, x12, rfl, .inr rfl, ?_⟩
        · have nx2 : ts' ≠ [] → _ := fun z => next_ok nd (by omega) (c := c) (by
            cases ts' with
            | nil => exact absurd rfl z
            | cons t r => exact ⟨t, (ok'.mem t).mp List.mem_cons_self⟩)
          split
          · omega
          · rename_i z
            have := (nx2 z).2
            omega
        · have nx2 : ts' ≠ [] → _ := fun z => next_ok nd (by omega) (c := c) (by
            cases ts' with
            | nil => exact absurd rfl z
            | cons t r => exact ⟨t, (ok'.mem t).mp List.mem_cons_self⟩)
          refine ⟨ok', cN_nonneg ok.nn, fun z => (nx2 z).1, hO', fun t x => ?_, fun t x y => ?_, fun t z => ?_, fun t x z => ?_, ?_, rfl⟩
          · have q1 := ok.fn t x
            have q2 := ok.nn t
            split <;> omega
          · have q1 := ok.rem t x y
            rw [rem_step nd (by omega)] at q1
            have q2 : (if (x, y) = (a, w) then c t else 0) = if x = a ∧ y = w then c t else 0 := by
              simp only [Prod.mk.injEq]
            rw [q2]
            omega
          · rw [← gp_full ok.lt.mem] at z
            obtain ⟨b, b1, b2, b3⟩ := gp_ne ok.nn z
            have := ok.cb _ b3
            omega
          · by_cases q : F t x = 0
            · rw [q] at z
              split at z
              · rename_i e
                subst e
                have := ok.cb t (by omega)
                exact ⟨by omega, nd.a0, nd.aL, nd.w2, nd.wt, nd.s⟩
              · exact absurd rfl z
            · have := ok.fb t x q
              exact ⟨by omega, this.2⟩
          · split
            · omega
            · rename_i z
              have := (nx2 z).2
              omega
      · have e0 : ts = [] := by
          cases ts with
          | nil => rfl
          | cons t r => simp at em
        have ec : c = fun _ => 0 := funext fun t => by
          by_cases z : c t = 0
          · exact z
          · have := (ok.lt.mem t).mpr z
            rw [e0] at this; cases this
        have eF : F = fun t x => visF top L w0 t x.1 x.2 := funext fun t => funext fun x => by
          have := ok.rem t x.1 x.2
          rw [ec, rem_nil, Int.add_zero] at this
          exact this
        have hd := ok.fd.d
        rw [eF] at hd
        wtm_at "go"
        exact hk _ hd
    rcases hfr with rfl | rfl
    · wtm_at "run"
      refine emp_dT ?_
      wtm_at "run"
      exact main _ rfl
    · wtm_at "run"
      refine emp_dT ?_
      wtm_at "run"
      exact main _ rfl
end DL

set_option maxHeartbeats 1000000
namespace DL
open PySem L2
local macro_rules | `(tactic| wtm_at "run") => `(tactic| conv => whnf)
local macro_rules | `(tactic| wtm_at "sz") => `(tactic| (rw [line_eq]; simp only [List.length_cons, List.length_nil, List.length_map, List.length_append, rg_length, rngD_rg]; omega))
local macro_rules | `(tactic| wtm_at "go") => `(tactic| ((conv => whnf); repeat (first
  | ((with_reducible refine eq_int ?_); conv => whnf) | ((with_reducible refine ne_int ?_); conv => whnf)
  | ((with_reducible refine lt_int ?_); conv => whnf) | ((with_reducible refine le_int ?_); conv => whnf) | ((with_reducible refine gt_int ?_); conv => whnf) | ((with_reducible refine ge_int ?_); conv => whnf)
  | ((with_reducible refine idx_0 ?_); conv => whnf) | ((with_reducible refine idx_1 ?_); conv => whnf)
  | ((with_reducible refine iteB_T ?_); conv => whnf) | ((with_reducible refine iteB_F ?_); conv => whnf) | ((with_reducible refine iteB_nT ?_); conv => whnf) | ((with_reducible refine iteB_nF ?_); conv => whnf)
  | ((with_reducible refine iteB_n0 ?_); conv => whnf) | ((with_reducible refine iteB_n1 ?_); conv => whnf) | ((with_reducible refine iteB_n2 ?_); conv => whnf) | ((with_reducible refine iteB_n3 ?_); conv => whnf) | ((with_reducible refine iteB_n4 ?_); conv => whnf) | ((with_reducible refine iteB_n5 ?_); conv => whnf)
  | ((with_reducible refine seq_lst ?_); conv => whnf) | ((with_reducible refine seq_tup ?_); conv => whnf)
  | ((with_reducible refine eq_pairs ?_); conv => whnf) | ((with_reducible refine ne_pairs ?_); conv => whnf) | ((with_reducible refine eq_pairs0 ?_); conv => whnf) | ((with_reducible refine ne_pairs0 ?_); conv => whnf)
  | ((with_reducible refine eq_ints ?_); conv => whnf) | ((with_reducible refine ne_ints ?_); conv => whnf) | ((with_reducible refine eq_ints0 ?_); conv => whnf) | ((with_reducible refine ne_ints0 ?_); conv => whnf)
  | ((with_reducible refine eq_tints ?_); conv => whnf) | ((with_reducible refine ne_tints ?_); conv => whnf) | ((with_reducible refine eq_tints0 ?_); conv => whnf) | ((with_reducible refine ne_tints0 ?_); conv => whnf)
  | ((with_reducible refine eq_pair ?_); conv => whnf) | ((with_reducible refine ne_pair ?_); conv => whnf)
  | ((with_reducible refine is_non ?_); conv => whnf) | ((with_reducible refine isnot_non ?_); conv => whnf) | ((with_reducible refine is_bl ?_); conv => whnf) | ((with_reducible refine isnot_bl ?_); conv => whnf)
  | ((with_reducible refine in_pairs ?_); conv => whnf) | ((with_reducible refine notIn_pairs ?_); conv => whnf)
  | ((with_reducible refine slice_l ?_); conv => whnf) | ((with_reducible refine slice_t ?_); conv => whnf)
  | ((with_reducible apply callG_i); (with_reducible assumption); rfl; conv => whnf)
  | (refine callD_v (by rfl) (by rfl) ?_)
  | ((with_reducible refine And.intro rfl ?_); conv => whnf)
  | ((with_reducible refine And.intro (pos_i (by omega)) ?_); conv => whnf)
  | ((with_reducible apply hasD_and); rfl; conv => whnf)
  | ((with_reducible refine And.intro (ownL_i rfl) ?_); conv => whnf)
  | ((with_reducible refine idx_l0 ?_); conv => whnf) | ((with_reducible refine idx_l1 ?_); conv => whnf) | ((with_reducible refine idx_l2 ?_); conv => whnf)
  | ((with_reducible refine And.intro (mul_l (by omega)) ?_); conv => whnf)
  | ((with_reducible refine And.intro (mul_r (by omega)) ?_); conv => whnf)
  | ((with_reducible refine And.intro (div_ok (by omega)) ?_); conv => whnf)
  | ((with_reducible refine And.intro (rng_ok (by ((try simp only [List.length_map]); omega))) ?_); conv => whnf)
  | ((with_reducible refine And.intro (line_le (by ((try simp only [List.length_cons, List.length_nil, List.length_map, List.length_append, rg_length, rngD_rg]); omega))) ?_); conv => whnf)
  | ((with_reducible apply idx_at); rfl; conv => whnf)
  )))
local macro_rules | `(tactic| wtm_at "mono") => `(tactic| (intro ds K K' R R' h hR q; (repeat (first | (refine Exists.imp (fun _ q => ?_) q; rename_i q) | (refine And.imp_right (fun q => ?_) q; rename_i q))); first | exact h _ _ q | exact ite_m (fun z => h _ _ z) (fun z => hR _ z) q | (intros; refine h _ _ (q _ _ _ ?_ ?_ ?_) <;> assumption) | (intros; refine h _ _ (q _ _ _ ?_) <;> assumption) | (intros; refine h _ _ (q _ _ _ _ ?_ ?_ ?_ ?_ ?_) <;> assumption)))
def n_visit_points : List Str := ["table", "state", "points"]
def t_visit_points : Ss := (.cons (.ex (.call "require_table" (.cons (.var 0) .nil))) (.cons (.ex (.call "require_state" (.cons (.var 0) (.cons (.var 1) .nil)))) (.cons (.ret (.comp (.var 2) [("points", 2)] (.one 2) (.rng1 (.bin .add (.cst "MAX_POINTS" (300)) (.int 1))) (.cmp .ne (.call "next_of" (.cons (.var 0) (.cons (.var 1) (.cons (.var 2) .nil)))) (.lst (.nil))))) .nil)))
def n_first_wrong : List Str := ["table", "book", "states", "index", "points"]
def t_first_wrong : Ss := (.cons (.ex (.call "require_table" (.cons (.var 0) .nil))) (.cons (.ex (.call "require_book" (.cons (.var 1) .nil))) (.cons (.asg 2 (.lst (.cons (.tup (.cons (.idx (.var 0) (.int 0)) (.cons (.int 2) .nil))) .nil))) (.cons (.for_ (.many [3, 4]) (.enum (.var 1)) (.cons (.asg 2 (.call "states_from" (.cons (.var 0) (.cons (.mv 2) (.cons (.tup (.cons (.var 4) .nil)) .nil))))) (.cons (.ite (.cmpo .eq 2 (.lst (.nil))) (.cons (.ret (.mv 3)) .nil) (.nil)) .nil))) (.cons (.ret (.non)) .nil)))))
def n_law_is_bool : List Str := ["actual", "expected"]
def t_law_is_bool : Ss := (.cons (.ret (.and (.isi (.var 0) "bool") (.cmp .eq (.var 0) (.var 1)))) .nil)
def n_law_behind : List Str := ["tables_so", "states_so", "points_so", "found", "state_so"]
def t_law_behind : Ss := (.cons (.asg 3 (.lst (.nil))) (.cons (.for_ (.one 4) (.seq (.var 1)) (.cons (.asg 3 (.bin .add (.var 3) (.bi .sorted (.cons (.getE (.idx (.var 0) (.var 4)) (.var 2)) .nil)))) .nil)) (.cons (.ret (.bi .sset (.cons (.var 3) .nil))) .nil)))
def n_law_states : List Str := ["tables_so", "table_so", "book_so", "found", "points_so"]
def t_law_states : Ss := (.cons (.asg 3 (.lst (.cons (.tup (.cons (.idx (.var 1) (.int 0)) (.cons (.int 2) .nil))) .nil))) (.cons (.for_ (.one 4) (.seq (.var 2)) (.cons (.asg 3 (.call "_law_behind" (.cons (.var 0) (.cons (.var 3) (.cons (.var 4) .nil))))) .nil)) (.cons (.ret (.mv 3)) .nil)))
def n_law_true_book : List Str := ["source", "tables_so", "table_so", "most", "here", "found", "turn", "some", "low_so", "points_so", "ends"]
def t_law_true_book : Ss := (.cons (.par [4, 5] (.cons (.tup (.cons (.idx (.var 2) (.int 0)) (.cons (.int 2) .nil))) (.cons (.tup (.nil)) .nil))) (.cons (.for_ (.one 6) (.rng1 (.call "_law_pick" (.cons (.io 0) (.cons (.bin .add (.var 3) (.int 1)) .nil)))) (.cons (.asg 7 (.bi .sorted (.cons (.idx (.var 1) (.var 4)) .nil))) (.cons (.ite (.cmp .ne (.var 7) (.lst (.nil))) (.cons (.asg 8 (.idx (.lst (.cons (.bi .len (.cons (.var 7) .nil)) (.cons (.bi .min2 (.cons (.bi .len (.cons (.var 7) .nil)) (.cons (.int 12) .nil))) .nil))) (.call "_law_pick" (.cons (.io 0) (.cons (.int 2) .nil))))) (.cons (.asg 9 (.idx (.var 7) (.call "_law_pick" (.cons (.io 0) (.cons (.var 8) .nil))))) (.cons (.asg 10 (.bi .sorted (.cons (.idx (.idx (.var 1) (.var 4)) (.var 9)) .nil))) (.cons (.par [4, 5] (.cons (.idx (.var 10) (.call "_law_pick" (.cons (.io 0) (.cons (.bi .len (.cons (.var 10) .nil)) .nil)))) (.cons (.bin .add (.var 5) (.tup (.cons (.var 9) .nil))) .nil))) .nil)))) (.nil)) .nil))) (.cons (.ret (.mv 5)) .nil)))
def n_law_book : List Str := ["source", "tables_so", "table_so", "most", "book_so", "at"]
def t_law_book : Ss := (.cons (.asg 4 (.call "_law_true_book" (.cons (.io 0) (.cons (.var 1) (.cons (.var 2) (.cons (.var 3) .nil)))))) (.cons (.ite (.and (.cmp .ne (.var 4) (.tup (.nil))) (.cmp .eq (.call "_law_pick" (.cons (.io 0) (.cons (.int 3) .nil))) (.int 0))) (.cons (.asg 5 (.call "_law_pick" (.cons (.io 0) (.cons (.bi .len (.cons (.var 4) .nil)) .nil)))) (.cons (.asg 4 (.bin .add (.bin .add (.slU (.var 4) (.var 5)) (.tup (.cons (.idx (.lst (.cons (.int 2) (.cons (.int 1) (.cons (.bin .add (.idx (.var 4) (.var 5)) (.int 1)) (.cons (.int 35) .nil))))) (.call "_law_pick" (.cons (.io 0) (.cons (.int 4) .nil)))) .nil))) (.slL (.var 4) (.bin .add (.var 5) (.int 1))))) .nil)) (.nil)) (.cons (.ret (.mv 4)) .nil)))
/-! ### the tables of visits -/
theorem colS_le {w m : Int} (hw : 0 ≤ w ∧ w ≤ 10) (hm : 0 ≤ m ∧ m ≤ 8) : colS w m ≤ 149 := by
  unfold colS
  have h1 : m * w ≤ 8 * 10 := Int.le_trans (Int.mul_le_mul_of_nonneg_right hm.2 hw.1) (Int.mul_le_mul_of_nonneg_left hw.2 (by omega))
  have h2 : m * (m - 1) ≤ 8 * 8 := by
    by_cases c : m = 0
    · subst c; decide
    · exact Int.le_trans (Int.mul_le_mul_of_nonneg_right hm.2 (by omega)) (Int.mul_le_mul_of_nonneg_left (by omega) (by omega))
  omega
theorem nxt_range {L top p : Int} {s x : Int × Int} (hL : L ≤ 15) (ht : 3 ≤ top ∧ top ≤ 9) (hs : St L top s) (h : Nxt top s.1 s.2 p x) : 0 ≤ p ∧ p ≤ 299 := by
  obtain ⟨h1, h2, h3, h4, h5⟩ := hs
  have mul : ∀ a : Int, 0 ≤ a → a ≤ 15 → (top + 1) * a ≤ 150 := fun a a0 a1 => Int.le_trans (Int.mul_le_mul_of_nonneg_right (show top + 1 ≤ 10 by omega) a0) (by omega)
  obtain ⟨hw, ⟨h0, m, a, b, c, rfl⟩ | ⟨h0, ⟨m, a, b, c, rfl⟩ | ⟨a, b, rfl⟩ | ⟨m, a, b, c, d, rfl⟩⟩⟩ := h
  · have e1 := colS_nonneg h3 a
    have e2 := colS_le (w := s.2) (m := m) (by omega) (by omega)
    omega
  · have m1 := mul m a (by omega)
    unfold comesB at c
    split at c
    · rw [decide_eq_true_eq] at c; omega
    · rw [decide_eq_true_eq] at c
      have e1 : (top + 1) * m = top * (m - 1) + (top + m) := by rw [Int.add_mul, Int.mul_sub]; omega
      omega
  · have m1 := mul s.1 h1 (by omega)
    have e1 : (top + 1) * s.1 = top * (s.1 - 1) + (top + s.1) := by rw [Int.add_mul, Int.mul_sub]; omega
    omega
  · have m1 := mul s.1 h1 (by omega)
    have e1 := colS_nonneg (low := 2) (by omega) a
    have e2 := colS_le (w := 2) (m := m) (by omega) (by omega)
    omega
/-- the points of a visit -/
def vpts (top : Int) (s : Int × Int) : List Int := (rg 0 301).filter fun p => !decide (nextL top s.1 s.2 p = [])
theorem mem_vpts {L top p : Int} {s : Int × Int} (hL : L ≤ 15) (ht : 3 ≤ top ∧ top ≤ 9) (hs : St L top s) : p ∈ vpts top s ↔ nextL top s.1 s.2 p ≠ [] := by
  unfold vpts
  rw [List.mem_filter, mem_rg]
  constructor
  · rintro ⟨_, h⟩ e; rw [e] at h; cases h
  · intro h
    refine ⟨?_, by simpa using h⟩
    obtain ⟨x, r, e⟩ := List.exists_cons_of_ne_nil h
    have := nxt_range hL ht hs (mem_nextL.mp (show x ∈ nextL top s.1 s.2 p by rw [e]; exact List.mem_cons_self))
    omega
theorem asc_vpts (top : Int) (s : Int × Int) : AscI (vpts top s) := List.Pairwise.filter _ (asc_rg _ _)
abbrev visG (top : Int) (s : Int × Int) : Int → Int × Int → Int := fun t x => visF top s.1 s.2 t x.1 x.2
theorem visG_ne {L top : Int} {s : Int × Int} (ht : 3 ≤ top ∧ top ≤ 9) (hs : St L top s) (t : Int) (x : Int × Int) : visG top s t x ≠ 0 ↔ x ∈ nextL top s.1 s.2 t :=
  visF_ne (x := x.1) (y := x.2) ht.1 hs.1 hs.2.2.2.2 hs.2.2.1
/-- the ends of a visit with their numbers -/
def ChD (F : Int → Int × Int → Int) (p : Int) (c : D) : Prop := ∃ hs : List (Int × Int), c = .dT (hs.map pD) (hs.map fun h => .int (F p h)) ∧ hs.Nodup ∧ ∀ h, h ∈ hs ↔ F p h ≠ 0
theorem sortI_nd {l m : List Int} (hn : l.Nodup) (hm : AscI m) (h : ∀ x, x ∈ l ↔ x ∈ m) : sortI l = m := ascI_ext (asc_sortI hn) hm fun x => mem_sortI.trans (h x)
theorem sortP_nd {l m : List (Int × Int)} (hn : l.Nodup) (hm : AscP m) (h : ∀ x, x ∈ l ↔ x ∈ m) : sortP l = m := ascP_ext (asc_sortP hn) hm fun x => mem_sortP.trans (h x)
theorem ch_sorted {L top p : Int} {s : Int × Int} {c : D} {k : Rs → Prop} (ht : 3 ≤ top ∧ top ≤ 9) (hs : St L top s) (h : ChD (visG top s) p c) (hk : k (.o (.l ((nextL top s.1 s.2 p).map pD)))) : sortedD c k := by
  obtain ⟨l, rfl, nd, m⟩ := h
  rw [sortedD_eq, sortedD0.eq_def]
  dsimp only
  rw [pairsD_map]
  dsimp only
  rw [sortP_nd nd asc_nextL fun x => (m x).trans (visG_ne ht hs p x)]
  exact hk
theorem fd_sorted {L top : Int} {s : Int × Int} {v : D} {k : Rs → Prop} (hL : L ≤ 15) (ht : 3 ≤ top ∧ top ≤ 9) (hs : St L top s) (h : FdD (visG top s) v) (hk : k (.o (.l ((vpts top s).map iD)))) : sortedD v k := by
  obtain ⟨ts, l, rfl, hN⟩ := h
  rw [sortedD_eq, sortedD0.eq_def]
  dsimp only
  rw [sortI_nd hN.nd (asc_vpts top s) fun t => ?_]
  · exact hk
  · rw [hN.tot, mem_vpts hL ht hs]
    constructor
    · rintro ⟨x, hx⟩ e
      have := (visG_ne ht hs t x).mp hx
      rw [e] at this; cases this
    · intro z
      obtain ⟨x, r, e⟩ := List.exists_cons_of_ne_nil z
      exact ⟨x, (visG_ne ht hs t x).mpr (by rw [e]; exact List.mem_cons_self)⟩
theorem fd_get {F : Int → Int × Int → Int} {v : D} {p : Int} {k : D → Prop} (h : FdD F v) (hk : ∀ c, ChD F p c → k c) : getD_ v (.int p) (.dT [] []) k := by
  obtain ⟨ts, l, rfl, hN⟩ := h
  rw [getD__eq, getD_0.eq_def]
  dsimp only
  have := lookL_map (kf := fun (t : Int) => t) (fun _ _ e => e) (fun t => D.dT ((l t).map pD) ((l t).map fun h => .int (F t h))) ts p
  rw [List.map_id'] at this
  rw [this]
  by_cases c : p ∈ ts
  · rw [if_pos c]
    exact hk _ ⟨l p, rfl, hN.nh p, hN.mem p⟩
  · rw [if_neg c]
    refine hk _ ⟨[], rfl, List.nodup_nil, fun x => ?_⟩
    rw [← hN.mem, hN.child0 c]
theorem fd_idx {F : Int → Int × Int → Int} {v : D} {p : Int} {k : D → Prop} (h : FdD F v) (hp : ∃ x, F p x ≠ 0) (hk : ∀ c, ChD F p c → k c) : idxD v (.int p) k := by
  obtain ⟨ts, l, rfl, hN⟩ := h
  rw [idxD_eq, idxD0.eq_def]
  dsimp only
  have := lookL_map (kf := fun (t : Int) => t) (fun _ _ e => e) (fun t => D.dT ((l t).map pD) ((l t).map fun h => .int (F t h))) ts p
  rw [List.map_id'] at this
  rw [this, if_pos ((hN.tot p).mpr hp)]
  exact hk _ ⟨l p, rfl, hN.nh p, hN.mem p⟩
theorem allS_iff {reds top : Int} (hr : 0 ≤ reds) (ht : 1 ≤ top) {x : Int × Int} : x ∈ allS reds top ↔ St reds top x := by
  refine ⟨fun h => ?_, mem_allS⟩
  simp only [allS, List.mem_append, List.mem_map, mem_rg] at h
  rcases h with ⟨l, h, rfl⟩ | ⟨w, h, rfl⟩ <;> refine ⟨?_, ?_, ?_, ?_, ?_⟩ <;> dsimp only <;> omega
theorem allS_nodup {reds top : Int} : (allS reds top).Nodup := by
  unfold allS
  rw [List.nodup_append]
  refine ⟨?_, ?_, fun a ha b hb e => ?_⟩
  · exact List.pairwise_map.mpr (List.Pairwise.imp (fun h e => by have := (Prod.mk.inj e).1; omega) (asc_rg _ _))
  · exact List.pairwise_map.mpr (List.Pairwise.imp (fun h e => by have := (Prod.mk.inj e).2; omega) (asc_rg _ _))
  · simp only [List.mem_map, mem_rg] at ha hb
    obtain ⟨l, h1, rfl⟩ := ha
    obtain ⟨w, h2, rfl⟩ := hb
    have := (Prod.mk.inj e).1
    omega
def TbD (reds top : Int) (d : D) : Prop := ∃ vf : Int × Int → D, d = .dT ((allS reds top).map pD) ((allS reds top).map vf) ∧ ∀ x, St reds top x → FdD (visG top x) (vf x)
theorem tb_idx {reds top : Int} {d : D} {x : Int × Int} {k : D → Prop} (h : TbD reds top d) (hx : St reds top x) (hk : ∀ v, FdD (visG top x) v → k v) : idxD d (pD x) k := by
  obtain ⟨vf, rfl, hv⟩ := h
  show idxD _ (.tup [.int x.1, .int x.2]) k
  refine idx_dT (kOk1_pD x) (d := vf x) ?_ (hk _ (hv x hx))
  rw [keys_map]
  exact (lookL_map (kf := fun h => (pD h).key) pD_key_inj vf (allS reds top) x).trans (if_pos (mem_allS hx))
theorem tb_sorted {reds top : Int} {d : D} {k : Rs → Prop} (h : TbD reds top d) (hk : k (.o (.l ((sortP (allS reds top)).map pD)))) : sortedD d k := by
  obtain ⟨vf, rfl, hv⟩ := h
  rw [sortedD_eq, sortedD0.eq_def]
  dsimp only
  rw [pairsD_map]
  exact hk
@[irreducible] def c_tables_of : Ctr := fun ds K _ => ∃ reds top, ds = [tabD reds top] ∧ Tb reds top ∧ ∀ d, TbD reds top d → K (.v d) []
theorem i_tables_of {reds top : Int} {K : Rs → List D → Prop} {R : Str → Prop} (ht : Tb reds top) (hk : ∀ d, TbD reds top d → K (.v d) []) : c_tables_of [tabD reds top] K R := by
  rw [c_tables_of]; exact ⟨reds, top, rfl, ht, hk⟩
theorem m_tables_of : CMono c_tables_of := by
  unfold c_tables_of
  intro ds K K' R R' h hR q
  obtain ⟨reds, top, e, h1, h4⟩ := q
  exact ⟨reds, top, e, h1, fun d hd => h _ _ (h4 d hd)⟩
theorem w_tables_of (G : Gam) (h1 : G "_law_visits" = some (v2, c_visits)) : Does G v1 t_law_tables_of 7 c_tables_of := by
  intro ds K R h
  rw [c_tables_of] at h
  obtain ⟨reds, top, rfl, ho, hk⟩ := h
  wtm_at "go"
  rw [rngD_rg]
  refine compE_map (rg 1 (reds + 1)) iD (fun l => pD (l, 2)) (fun l hl k' hk' => ?_) ?_
  · wtm_at "go"
    exact hk' _ (wS1 (by decide))
  wtm_at "go"
  rw [rngD_rg]
  refine compE_map (rg 2 (top + 2)) iD (fun w => pD (0, w)) (fun l hl k' hk' => ?_) ?_
  · wtm_at "go"
    exact hk' _ (wS1 (by decide))
  wtm_at "go"
  have e : (rg 1 (reds + 1)).map (fun l => pD (l, 2)) ++ (rg 2 (top + 2)).map (fun w => pD (0, w)) = (allS reds top).map pD := by
    unfold allS
    rw [List.map_append, List.map_map, List.map_map]
    rfl
  rw [e]
  refine forL_pre (allS reds top) pD (fun pre s => ∃ vf x6, s = [some (.val (tabD reds top)), some (.val (.int top)), some (.val (.lst ((allS reds top).map pD))), none, none, some (.own (.t (pre.map pD) (pre.map vf))), x6] ∧ ∀ x ∈ pre, FdD (visG top x) (vf x)) ⟨fun _ => .non, _, rfl, by simp⟩ ?_ ?_
  · rintro pre x post s ee ⟨vf, x6, rfl, hv⟩ N hN
    have hx : St reds top x := (allS_iff (by omega) (by omega)).mp (by rw [ee]; simp)
    have hL : x.1 ≤ 15 := by have := hx.2.1; omega
    have np : x ∉ pre := by
      have := allS_nodup (reds := reds) (top := top)
      rw [ee, List.nodup_append] at this
      exact fun z => this.2.2 x z x List.mem_cons_self rfl
    have len : pre.length ≤ 24 := by
      have h1 := allS_length reds top
      rw [ee, List.length_append] at h1
      omega
    wtm_at "go"
    refine i_visits (L := x.1) (w := x.2) (by omega) hL ⟨hx.1, Int.le_refl _, hx.2.2⟩ fun d hd => ?_
    wtm_at "go"
    have mi := mem_map_inj (kf := fun h => (pD h).key) pD_key_inj (ts := pre) (a := x)
    have pm := putVs_map (kf := fun h => (pD h).key) pD_key_inj vf pre x d
    have ea : addA pre x = pre ++ [x] := by unfold addA; rw [if_neg np]
    rw [keys_map, if_neg fun z => np (mi.mp z), pm, ea]
    refine hN _ ⟨fun y => if y = x then d else vf y, some (.val (pD x)), ?_, fun y hy => ?_⟩
    · simp only [List.map_append, List.map_cons, List.map_nil]
      rfl
    · show FdD (visG top y) (if y = x then d else vf y)
      by_cases c : y = x
      · rw [if_pos c, c]; exact hd
      · rw [if_neg c]
        exact hv y ((List.mem_append.mp hy).resolve_right fun z => c (List.mem_singleton.mp z))
  · rintro s ⟨vf, x6, rfl, hv⟩
    wtm_at "go"
    exact hk _ ⟨vf, rfl, fun x hx => hv x (mem_allS hx)⟩
/-! ### states by all visits -/
@[irreducible] def c_behind : Ctr := fun ds K _ => ∃ reds top d S p, ds = [d, .lst (S.map pD), .int p] ∧ Tb reds top ∧ TbD reds top d ∧ S.Nodup ∧ AllSt reds top S ∧ K (.o (.l ((nxS top S p).map pD))) []
theorem i_behind {reds top p : Int} {d : D} {S : List (Int × Int)} {K : Rs → List D → Prop} {R : Str → Prop} (ho : Tb reds top) (hd : TbD reds top d) (h1 : S.Nodup) (h2 : AllSt reds top S) (hk : K (.o (.l ((nxS top S p).map pD))) []) : c_behind [d, .lst (S.map pD), .int p] K R := by
  rw [c_behind]; exact ⟨reds, top, d, S, p, rfl, ho, hd, h1, h2, hk⟩
theorem m_behind : CMono c_behind := by
  unfold c_behind
  wtm_at "mono"
theorem w_behind (G : Gam) : Does G v3 t_law_behind 5 c_behind := by
  intro ds K R h
  rw [c_behind] at h
  obtain ⟨reds, top, d, S, p, rfl, ho, hd, hn, hs, hk⟩ := h
  have f1 := few hn hs
  have f2 : (S.flatMap fun st => nextL top st.1 st.2 p).length ≤ 24 * 24 := by
    refine Nat.le_trans (len_flat _ (n := 24) fun a ha => ?_) (Nat.mul_le_mul_right _ (by omega))
    have := nextL_few (p := p) (by omega) (hs a ha)
    omega
  wtm_at "go"
  refine forL_pre S pD (fun pre s => ∃ z, s = [some (.val d), some (.val (.lst (S.map pD))), some (.val (.int p)), some (.own (.l ((pre.flatMap fun st => nextL top st.1 st.2 p).map pD))), z]) ⟨_, rfl⟩ ?_ ?_
  · rintro pre st post s e ⟨z, rfl⟩ N' hN'
    have hst := hs st (by rw [e]; simp)
    wtm_at "go"
    refine tb_idx hd hst fun v hv => ?_
    wtm_at "go"
    refine ⟨by obtain ⟨_, _, rfl, _⟩ := hv; trivial, ?_⟩
    wtm_at "go"
    refine fd_get hv fun c hc => ?_
    wtm_at "go"
    refine ch_sorted (by omega) hst hc ?_
    wtm_at "go"
    rw [e, List.flatMap_append, List.flatMap_cons] at f2
    simp only [List.length_append] at f2
    refine ⟨line_le (by simp only [List.length_map]; omega), ?_⟩
    wtm_at "go"
    refine hN' _ ⟨some (.val (pD st)), ?_⟩
    rw [List.flatMap_append, List.map_append]
    simp only [List.flatMap_cons, List.flatMap_nil, List.append_nil]
    rfl
  · rintro s ⟨z, rfl⟩
    wtm_at "go"
    have n3 := nxS_st (p := p) (top := top) (by omega) hs
    refine sset_pairs ?_ ?_
    · have := few (reds := reds) (top := top) (nodup_uniq (l := S.flatMap fun st => nextL top st.1 st.2 p)) fun y hy => n3 y (mem_ssP.mpr (mem_uniq.mp hy))
      omega
    · wtm_at "go"
      exact hk
@[irreducible] def c_states : Ctr := fun ds K _ => ∃ reds top d b, ds = [d, tabD reds top, iv b] ∧ Tb reds top ∧ TbD reds top d ∧ K (.o (.l ((ofB reds top b).map pD))) []
theorem i_states {reds top : Int} {d : D} {b : List Int} {K : Rs → List D → Prop} {R : Str → Prop} (ho : Tb reds top) (hd : TbD reds top d) (hk : K (.o (.l ((ofB reds top b).map pD))) []) : c_states [d, tabD reds top, iv b] K R := by
  rw [c_states]; exact ⟨reds, top, d, b, rfl, ho, hd, hk⟩
theorem m_states : CMono c_states := by
  unfold c_states
  wtm_at "mono"
theorem w_states (G : Gam) (h1 : G "_law_behind" = some (v3, c_behind)) : Does G v3 t_law_states 5 c_states := by
  intro ds K R h
  rw [c_states] at h
  obtain ⟨reds, top, d, b, rfl, ho, hd, hk⟩ := h
  wtm_at "go"
  refine forL_fold b iD (nxS top) (fun T s => T.Nodup ∧ AllSt reds top T ∧ ∃ x, s = [some (.val d), some (.val (tabD reds top)), some (.val (iv b)), some (.own (.l (T.map pD))), x]) [(reds, 2)] ⟨by simp, begin_st (by omega) (by omega), none, rfl⟩ ?_ ?_
  · rintro T p s hp ⟨n1, n2, x, rfl⟩ N hN
    wtm_at "go"
    refine i_behind ho hd n1 n2 ?_
    wtm_at "go"
    exact hN _ ⟨ascP_nodup (asc_nxS _ _ _), nxS_st (p := p) (top := top) (by omega) n2, _, rfl⟩
  · rintro s ⟨n1, n2, x, rfl⟩
    wtm_at "go"
    exact hk
@[irreducible] def c_visit_points : Ctr := fun ds K _ => ∃ reds top s, ds = [tabD reds top, pD s] ∧ Tb reds top ∧ St reds top s ∧ K (.o (.l ((vpts top s).map iD))) []
theorem i_visit_points {reds top : Int} {s : Int × Int} {K : Rs → List D → Prop} {R : Str → Prop} (ho : Tb reds top) (hs : St reds top s) (hk : K (.o (.l ((vpts top s).map iD))) []) : c_visit_points [tabD reds top, pD s] K R := by
  rw [c_visit_points]; exact ⟨reds, top, s, rfl, ho, hs, hk⟩
theorem m_visit_points : CMono c_visit_points := by
  unfold c_visit_points
  wtm_at "mono"
theorem w_visit_points (G : Gam) (h1 : G "require_table" = some (v1, c_require_table)) (h2 : G "require_state" = some (v2, c_require_state)) (h4 : G "next_of" = some (v3, c_next_of)) : Does G v2 t_visit_points 3 c_visit_points := by
  intro ds K R h
  rw [c_visit_points] at h
  obtain ⟨reds, top, s, rfl, ho, hs, hk⟩ := h
  wtm_at "go"
  refine i_require_table (tame_tab _ _) (yes_table ho ?_)
  wtm_at "go"
  refine i_require_state (tame_tab _ _) (yes_state hs ?_)
  wtm_at "go"
  rw [rngD_rg]
  obtain ⟨q1, q2, q3, q4, q5⟩ := id hs
  refine compE_if (rg 0 (300 + 1)) iD (fun p => !decide (nextL top s.1 s.2 p = [])) iD (fun p hp k' hk' => ?_) ?_
  · wtm_at "go"
    refine i_next_of (by omega) ?_
    wtm_at "go"
    refine iteB_nd (fun c => ?_) fun c => ?_
    · wtm_at "go"
      rw [decide_eq_false c] at hk'
      exact hk' _ (wS1 (by decide))
    · wtm_at "go"
      rw [decide_eq_true c] at hk'
      exact hk' _ (wS1 (by decide))
  · exact hk
end DL

set_option maxHeartbeats 1000000
namespace DL
open PySem L2
local macro_rules | `(tactic| wtm_at "run") => `(tactic| conv => whnf)
local macro_rules | `(tactic| wtm_at "sz") => `(tactic| (rw [line_eq]; simp only [List.length_cons, List.length_nil, List.length_map, List.length_append, rg_length, rngD_rg]; omega))
local macro_rules | `(tactic| wtm_at "go") => `(tactic| ((conv => whnf); repeat (first
  | ((with_reducible refine eq_int ?_); conv => whnf) | ((with_reducible refine ne_int ?_); conv => whnf)
  | ((with_reducible refine lt_int ?_); conv => whnf) | ((with_reducible refine le_int ?_); conv => whnf) | ((with_reducible refine gt_int ?_); conv => whnf) | ((with_reducible refine ge_int ?_); conv => whnf)
  | ((with_reducible refine idx_0 ?_); conv => whnf) | ((with_reducible refine idx_1 ?_); conv => whnf)
  | ((with_reducible refine iteB_T ?_); conv => whnf) | ((with_reducible refine iteB_F ?_); conv => whnf) | ((with_reducible refine iteB_nT ?_); conv => whnf) | ((with_reducible refine iteB_nF ?_); conv => whnf)
  | ((with_reducible refine iteB_n0 ?_); conv => whnf) | ((with_reducible refine iteB_n1 ?_); conv => whnf) | ((with_reducible refine iteB_n2 ?_); conv => whnf) | ((with_reducible refine iteB_n3 ?_); conv => whnf) | ((with_reducible refine iteB_n4 ?_); conv => whnf) | ((with_reducible refine iteB_n5 ?_); conv => whnf)
  | ((with_reducible refine seq_lst ?_); conv => whnf) | ((with_reducible refine seq_tup ?_); conv => whnf)
  | ((with_reducible refine eq_pairs ?_); conv => whnf) | ((with_reducible refine ne_pairs ?_); conv => whnf) | ((with_reducible refine eq_pairs0 ?_); conv => whnf) | ((with_reducible refine ne_pairs0 ?_); conv => whnf)
  | ((with_reducible refine eq_ints ?_); conv => whnf) | ((with_reducible refine ne_ints ?_); conv => whnf) | ((with_reducible refine eq_ints0 ?_); conv => whnf) | ((with_reducible refine ne_ints0 ?_); conv => whnf)
  | ((with_reducible refine eq_tints ?_); conv => whnf) | ((with_reducible refine ne_tints ?_); conv => whnf) | ((with_reducible refine eq_tints0 ?_); conv => whnf) | ((with_reducible refine ne_tints0 ?_); conv => whnf)
  | ((with_reducible refine eq_pair ?_); conv => whnf) | ((with_reducible refine ne_pair ?_); conv => whnf)
  | ((with_reducible refine is_non ?_); conv => whnf) | ((with_reducible refine isnot_non ?_); conv => whnf) | ((with_reducible refine is_bl ?_); conv => whnf) | ((with_reducible refine isnot_bl ?_); conv => whnf)
  | ((with_reducible refine in_pairs ?_); conv => whnf) | ((with_reducible refine notIn_pairs ?_); conv => whnf)
  | ((with_reducible refine slice_l ?_); conv => whnf) | ((with_reducible refine slice_t ?_); conv => whnf)
  | ((with_reducible apply callG_i); (with_reducible assumption); rfl; conv => whnf)
  | (refine callD_v (by rfl) (by rfl) ?_)
  | ((with_reducible refine And.intro rfl ?_); conv => whnf)
  | ((with_reducible refine And.intro (pos_i (by omega)) ?_); conv => whnf)
  | ((with_reducible apply hasD_and); rfl; conv => whnf)
  | ((with_reducible refine And.intro (ownL_i rfl) ?_); conv => whnf)
  | ((with_reducible refine idx_l0 ?_); conv => whnf) | ((with_reducible refine idx_l1 ?_); conv => whnf) | ((with_reducible refine idx_l2 ?_); conv => whnf)
  | ((with_reducible refine And.intro (mul_l (by omega)) ?_); conv => whnf)
  | ((with_reducible refine And.intro (mul_r (by omega)) ?_); conv => whnf)
  | ((with_reducible refine And.intro (div_ok (by omega)) ?_); conv => whnf)
  | ((with_reducible refine And.intro (rng_ok (by ((try simp only [List.length_map]); omega))) ?_); conv => whnf)
  | ((with_reducible refine And.intro (line_le (by ((try simp only [List.length_cons, List.length_nil, List.length_map, List.length_append, rg_length, rngD_rg]); omega))) ?_); conv => whnf)
  | ((with_reducible apply idx_at); rfl; conv => whnf)
  )))
local macro_rules | `(tactic| wtm_at "mono") => `(tactic| (intro ds K K' R R' h hR q; (repeat (first | (refine Exists.imp (fun _ q => ?_) q; rename_i q) | (refine And.imp_right (fun q => ?_) q; rename_i q))); first | exact h _ _ q | exact ite_m (fun z => h _ _ z) (fun z => hR _ z) q | (intros; refine h _ _ (q _ _ _ ?_ ?_ ?_) <;> assumption) | (intros; refine h _ _ (q _ _ _ ?_) <;> assumption) | (intros; refine h _ _ (q _ _ _ _ ?_ ?_ ?_ ?_ ?_) <;> assumption)))
theorem eqv_bl (a b : Bool) : PyData.eqv (D.bl a).py (D.bl b).py = decide (a = b) := by
  cases a <;> cases b <;> rfl
@[irreducible] def c_is_bool : Ctr := fun ds K _ => ∃ a b, ds = [.bl a, .bl b] ∧ K (.v (.bl (decide (a = b)))) []
theorem i_is_bool {a b : Bool} {K : Rs → List D → Prop} {R : Str → Prop} (hk : K (.v (.bl (decide (a = b)))) []) : c_is_bool [.bl a, .bl b] K R := by
  rw [c_is_bool]; exact ⟨a, b, rfl, hk⟩
theorem m_is_bool : CMono c_is_bool := by
  unfold c_is_bool
  wtm_at "mono"
theorem w_is_bool (G : Gam) : Does G v2 t_law_is_bool 2 c_is_bool := by
  intro ds K R h
  rw [c_is_bool] at h
  obtain ⟨a, b, rfl, hk⟩ := h
  wtm_at "go"
  refine isi_bool rfl ?_
  wtm_at "go"
  refine cmp_eq (eqok_bl a) (eqok_bl b) ?_
  rw [eqv_bl]
  exact hk
/-! ### the first wrong visit -/
def fwN (reds top : Int) (b : List Int) : Option Nat := (List.range b.length).find? fun i => decide (ofB reds top (b.take (i + 1)) = [])
def oiD (o : Option Nat) : D := match o with | none => .non | some i => .int (i : Int)
@[irreducible] def c_first_wrong : Ctr := fun ds K _ => ∃ reds top b, ds = [tabD reds top, iv b] ∧ Tb reds top ∧ Bk b ∧ K (.v (oiD (fwN reds top b))) []
theorem i_first_wrong {reds top : Int} {b : List Int} {K : Rs → List D → Prop} {R : Str → Prop} (ho : Tb reds top) (hb : Bk b) (hk : K (.v (oiD (fwN reds top b))) []) : c_first_wrong [tabD reds top, iv b] K R := by
  rw [c_first_wrong]; exact ⟨reds, top, b, rfl, ho, hb, hk⟩
theorem m_first_wrong : CMono c_first_wrong := by
  unfold c_first_wrong
  wtm_at "mono"
theorem iota_map (b : List Int) : iotaD (b.map iD) = (List.range b.length).map fun (i : Nat) => D.tup [.int (i : Int), .int (b.getD i 0)] := by
  unfold iotaD
  rw [List.length_map]
  apply List.map_congr_left
  intro i hi
  rw [List.mem_range] at hi
  rw [List.getD_eq_getElem?_getD, List.getD_eq_getElem?_getD, List.getElem?_map, List.getElem?_eq_getElem hi]
  rfl
theorem take_snoc (b : List Int) {i : Nat} (hi : i < b.length) : b.take (i + 1) = b.take i ++ [b.getD i 0] := by
  rw [List.take_succ, List.getElem?_eq_getElem hi, List.getD_eq_getElem?_getD, List.getElem?_eq_getElem hi]
  rfl
theorem range_split {n a : Nat} {pre post : List Nat} (h : List.range n = pre ++ a :: post) : a = pre.length ∧ a < n := by
  have h1 : (List.range n)[pre.length]? = some a := by rw [h, List.getElem?_append_right (Nat.le_refl _), Nat.sub_self]; rfl
  have h2 := List.getElem?_eq_some_iff.mp h1
  obtain ⟨h3, h4⟩ := h2
  rw [List.getElem_range] at h4
  rw [List.length_range] at h3
  omega
theorem w_first_wrong (G : Gam) (h1 : G "require_table" = some (v1, c_require_table)) (h2 : G "require_book" = some (v1, c_require_book)) (h3 : G "states_from" = some (vmv, c_states_from)) : Does G v2 t_first_wrong 5 c_first_wrong := by
  intro ds K R h
  rw [c_first_wrong] at h
  obtain ⟨reds, top, b, rfl, ho, hb, hk⟩ := h
  wtm_at "go"
  refine i_require_table (tame_tab _ _) (yes_table ho ?_)
  wtm_at "go"
  refine i_require_book (tame_iv _) (yes_book hb ?_)
  wtm_at "go"
  rw [iota_map]
  refine forL_pre (List.range b.length) (fun (i : Nat) => D.tup [.int (i : Int), .int (b.getD i 0)]) (fun pre s => (∀ j ∈ pre, ¬ ofB reds top (b.take (j + 1)) = []) ∧ ∃ x3 x4, s = [some (.val (tabD reds top)), some (.val (iv b)), some (.own (.l ((ofB reds top (b.take pre.length)).map pD))), x3, x4]) ⟨by simp, _, _, rfl⟩ ?_ ?_
  · rintro pre i post s e ⟨hp, x3, x4, rfl⟩ N hN
    obtain ⟨e1, e2⟩ := range_split e
    have hst := ofB_st (reds := reds) (top := top) (by omega) (by omega) (b.take pre.length)
    wtm_at "go"
    refine i_states_from (S := ofB reds top (b.take pre.length)) (b := [b.getD i 0]) ho (ascP_nodup (asc_ofB _ _ _)) hst ?_
    have e3 : stL top (ofB reds top (b.take pre.length)) [b.getD i 0] = ofB reds top (b.take (i + 1)) := by
      rw [take_snoc b e2, e1]
      unfold ofB
      rw [stL_append]
    rw [e3]
    wtm_at "go"
    refine iteB_d (fun c => ?_) fun c => ?_
    · wtm_at "go"
      have : fwN reds top b = some i := by
        unfold fwN
        rw [e, List.find?_append, List.find?_eq_none.mpr fun j hj => by simpa using hp j hj]
        simp [c]
      rw [this] at hk
      exact hk
    · wtm_at "go"
      refine hN _ ⟨fun j hj => ?_, some (.val (.int (i : Int))), some (.val (.int (b.getD i 0))), ?_⟩
      · rcases List.mem_append.mp hj with hj | hj
        · exact hp j hj
        · rw [List.mem_singleton] at hj; rw [hj]; exact c
      · rw [List.length_append, List.length_singleton, ← e1]
        rfl
  · rintro s ⟨hp, x3, x4, rfl⟩
    wtm_at "go"
    have : fwN reds top b = none := by
      unfold fwN
      rw [List.find?_eq_none]
      intro j hj
      simpa using hp j hj
    rw [this] at hk
    exact hk
/-! ### drawn books -/
abbrev Bk9 (most : Int) (b : List Int) : Prop := (b.length : Int) ≤ most ∧ ∀ p ∈ b, 0 ≤ p ∧ p ≤ 299
@[irreducible] def c_true_book : Ctr := fun ds K _ => ∃ c s p d reds top most, ds = [.lst (srcL c s p), d, tabD reds top, .int most] ∧ Src c s p ∧ Tb reds top ∧ TbD reds top d ∧ (0 ≤ most ∧ most ≤ 100) ∧ ∀ b c' s', Bk9 most b → ofB reds top b ≠ [] → Src c' s' p → K (.v (iv b)) (srcL c' s' p)
theorem i_true_book {c s p reds top most : Int} {d : D} {K : Rs → List D → Prop} {R : Str → Prop} (hs : Src c s p) (ho : Tb reds top) (hd : TbD reds top d) (hm : 0 ≤ most ∧ most ≤ 100) (hk : ∀ b c' s', Bk9 most b → ofB reds top b ≠ [] → Src c' s' p → K (.v (iv b)) (srcL c' s' p)) : c_true_book [.lst (srcL c s p), d, tabD reds top, .int most] K R := by
  rw [c_true_book]; exact ⟨c, s, p, d, reds, top, most, rfl, hs, ho, hd, hm, hk⟩
theorem m_true_book : CMono c_true_book := by
  unfold c_true_book
  intro ds K K' R R' h hR q
  obtain ⟨c, s, p, d, reds, top, most, e, a1, a2, a3, a4, hk⟩ := q
  exact ⟨c, s, p, d, reds, top, most, e, a1, a2, a3, a4, fun b c' s' x y z => h _ _ (hk b c' s' x y z)⟩
abbrev io4 : List Md := [.io, .val, .val, .val]
theorem menuP (l : List (Int × Int)) {d : Int} (h0 : 0 ≤ d) (h1 : d < l.length) : ∃ x ∈ l, atI (l.map pD) d = some (pD x) := by
  rw [atI_lt h0 (by rw [List.length_map]; exact h1), List.getElem?_map]
  have : d.toNat < l.length := by omega
  exact ⟨l[d.toNat], List.getElem_mem this, by rw [List.getElem?_eq_getElem this]; rfl⟩
theorem w_true_book (G : Gam) (hG : GMono G) (h1 : G "_law_pick" = some (iov, c_pick)) : Does G io4 t_law_true_book 11 c_true_book := by
  intro ds K R h
  rw [c_true_book] at h
  obtain ⟨c, s, p, d, reds, top, most, rfl, hs, ho, hd, hm, hk⟩ := h
  wtm_at "go"
  refine callD_io (by rfl) ?_
  refine i_pick hs (by omega) fun n c1 s1 hn1 hn2 hs1 => ?_
  wtm_at "go"
  rw [rngD_rg]
  refine forL_pre (rg 0 n) iD (fun pre s => ∃ c' s' b x x6 x7 x8 x9 x10, Src c' s' p ∧ Bk9 (pre.length : Int) b ∧ x ∈ ofB reds top b ∧ s = [some (.io (srcL c' s' p)), some (.val d), some (.val (tabD reds top)), some (.val (.int most)), some (.val (pD x)), some (.val (iv b)), x6, x7, x8, x9, x10])
    ⟨c1, s1, [], (reds, 2), _, _, _, _, _, hs1, ⟨by simp, by simp⟩, by unfold ofB stL; simp, rfl⟩ ?_ ?_
  · rintro pre i post st e ⟨c', s', b, x, x6, x7, x8, x9, x10, hs', hb, hx, rfl⟩ N hN
    have hst := ofB_st (reds := reds) (top := top) (by omega) (by omega) b x hx
    have hL : reds ≤ 15 := ho.2.1
    wtm_at "go"
    refine tb_idx hd hst fun v hv => ?_
    wtm_at "go"
    refine fd_sorted (L := reds) hL (by omega) hst hv ?_
    wtm_at "go"
    refine iteB_nd (fun ne => ?_) fun em => ?_
    · have len : 0 < (vpts top x).length := List.length_pos_iff.mpr ne
      have len2 : (vpts top x).length ≤ 301 := by
        have := List.length_filter_le (fun p => !decide (nextL top x.1 x.2 p = [])) (rg 0 301)
        rw [rg_length] at this
        exact this
      wtm_at "go"
      refine callD_io (by rfl) ?_
      refine i_pick hs' (by omega) fun k1 c2 s2 hk1 hk2 hs2 => ?_
      wtm_at "go"
      rw [List.length_map]
      obtain ⟨low, hlow, elow⟩ := menuI [((vpts top x).length : Int), if (12 : Int) < (vpts top x).length then 12 else (vpts top x).length] hk1 hk2
      have low2 : 0 < low ∧ low ≤ (vpts top x).length := by
        simp only [List.mem_cons, List.not_mem_nil, or_false] at hlow
        rcases hlow with rfl | rfl
        · omega
        · split <;> omega
      refine idx_at elow ?_
      wtm_at "go"
      refine callD_io (by rfl) ?_
      refine i_pick hs2 (by omega) fun k2 c3 s3 hk3 hk4 hs3 => ?_
      wtm_at "go"
      obtain ⟨q, hq, eq⟩ := menuI (vpts top x) hk3 (by omega)
      refine idx_at eq ?_
      wtm_at "go"
      refine tb_idx hd hst fun v hv => ?_
      wtm_at "go"
      have hq2 := (mem_vpts hL (by omega) hst).mp hq
      obtain ⟨y0, r0, e0⟩ := List.exists_cons_of_ne_nil hq2
      have y0m : y0 ∈ nextL top x.1 x.2 q := by rw [e0]; exact List.mem_cons_self
      refine fd_idx hv ⟨y0, (visG_ne (by omega) hst q y0).mpr y0m⟩ fun ch hc => ?_
      wtm_at "go"
      refine ch_sorted (by omega) hst hc ?_
      wtm_at "go"
      rw [List.length_map]
      have len3 : 0 < (nextL top x.1 x.2 q).length := by rw [e0]; simp
      have len4 := nextL_few (p := q) (by omega) hst
      refine callD_io (by rfl) ?_
      refine i_pick hs3 (by omega) fun k3 c4 s4 hk5 hk6 hs4 => ?_
      wtm_at "go"
      obtain ⟨y, hy, ey⟩ := menuP (nextL top x.1 x.2 q) hk5 (by omega)
      refine idx_at ey ?_
      wtm_at "go"
      have pl : pre.length ≤ 100 := by
        have := congrArg List.length e
        rw [rg_length, List.length_append, List.length_cons] at this
        omega
      refine ⟨line_le (by have := hb.1; simp only [List.length_map, List.length_cons, List.length_nil]; omega), ?_⟩
      wtm_at "go"
      rw [iv_snoc]
      refine hN _ ⟨c4, s4, b ++ [q], y, _, _, _, _, _, hs4, ⟨by have := hb.1; simp only [List.length_append, List.length_cons, List.length_nil]; omega, fun z hz => ?_⟩, ?_, rfl⟩
      · rcases List.mem_append.mp hz with hz | hz
        · exact hb.2 z hz
        · rw [List.mem_singleton] at hz
          rw [hz]
          exact nxt_range (L := reds) hL (by omega) hst (mem_nextL.mp hy)
      · unfold ofB at hx ⊢
        rw [stL_snoc]
        exact mem_nxS.mpr ⟨x, hx, mem_nextL.mp hy⟩
    · wtm_at "go"
      exact hN _ ⟨c', s', b, x, _, _, _, _, _, hs', ⟨by have := hb.1; simp only [List.length_append, List.length_cons, List.length_nil]; omega, hb.2⟩, hx, rfl⟩
  · rintro st ⟨c', s', b, x, x6, x7, x8, x9, x10, hs', hb, hx, rfl⟩
    wtm_at "go"
    refine hk b c' s' ⟨?_, hb.2⟩ (fun z => by rw [z] at hx; cases hx) hs'
    have := hb.1
    rw [rg_length] at this
    omega
@[irreducible] def c_book : Ctr := fun ds K _ => ∃ c s p d reds top most, ds = [.lst (srcL c s p), d, tabD reds top, .int most] ∧ Src c s p ∧ Tb reds top ∧ TbD reds top d ∧ (0 ≤ most ∧ most ≤ 40) ∧ ∀ b c' s', Bk b → (b.length : Int) ≤ most → Src c' s' p → K (.v (iv b)) (srcL c' s' p)
theorem i_book {c s p reds top most : Int} {d : D} {K : Rs → List D → Prop} {R : Str → Prop} (hs : Src c s p) (ho : Tb reds top) (hd : TbD reds top d) (hm : 0 ≤ most ∧ most ≤ 40) (hk : ∀ b c' s', Bk b → (b.length : Int) ≤ most → Src c' s' p → K (.v (iv b)) (srcL c' s' p)) : c_book [.lst (srcL c s p), d, tabD reds top, .int most] K R := by
  rw [c_book]; exact ⟨c, s, p, d, reds, top, most, rfl, hs, ho, hd, hm, hk⟩
theorem m_book : CMono c_book := by
  unfold c_book
  intro ds K K' R R' h hR q
  obtain ⟨c, s, p, d, reds, top, most, e, a1, a2, a3, a4, hk⟩ := q
  exact ⟨c, s, p, d, reds, top, most, e, a1, a2, a3, a4, fun b c' s' x y z => h _ _ (hk b c' s' x y z)⟩
theorem iv_three (a : List Int) (x : Int) (b : List Int) : D.tup ((a.map iD ++ [.int x]) ++ b.map iD) = iv (a ++ x :: b) := by
  rw [iv, List.map_append, List.map_cons, List.append_assoc]; rfl
theorem w_book (G : Gam) (hG : GMono G) (h1 : G "_law_pick" = some (iov, c_pick)) (h2 : G "_law_true_book" = some (io4, c_true_book)) : Does G io4 t_law_book 6 c_book := by
  intro ds K R h
  rw [c_book] at h
  obtain ⟨c, s, p, d, reds, top, most, rfl, hs, ho, hd, hm, hk⟩ := h
  wtm_at "go"
  refine callD_io (by rfl) ?_
  refine i_true_book hs ho hd (by omega) fun b c1 s1 hb hne hs1 => ?_
  have bk : Bk b := ⟨by have := hb.1; omega, fun z hz => by have := hb.2 z hz; omega⟩
  wtm_at "go"
  refine iteB_nd (fun c => ?_) fun c => ?_
  · have len : 0 < b.length := List.length_pos_iff.mpr c
    wtm_at "go"
    refine callD_io (by rfl) ?_
    refine i_pick hs1 (by omega) fun n c2 s2 hn1 hn2 hs2 => ?_
    wtm_at "go"
    refine iteB_d (fun c => ?_) fun c => ?_
    · wtm_at "go"
      rw [List.length_map]
      refine callD_io (by rfl) ?_
      refine i_pick hs2 (by omega) fun at_ c3 s3 ha1 ha2 hs3 => ?_
      wtm_at "go"
      refine idx_tup (atI_iv ha1 ha2) ?_
      wtm_at "go"
      refine callD_io (by rfl) ?_
      refine i_pick hs3 (by omega) fun k c4 s4 hk1 hk2 hs4 => ?_
      wtm_at "go"
      have hx := hb.2 (b.getD at_.toNat 0) (by
        rw [List.getD_eq_getElem?_getD, List.getElem?_eq_getElem (by omega)]; exact List.getElem_mem _)
      obtain ⟨v, hv, ev⟩ := menuI [2, 1, b.getD at_.toNat 0 + 1, 35] hk1 hk2
      have hv2 : 0 ≤ v ∧ v ≤ 300 := by
        simp only [List.mem_cons, List.not_mem_nil, or_false] at hv
        omega
      refine idx_at ev ?_
      wtm_at "go"
      rw [cut_take ha1]
      have l1 : (b.take at_.toNat).length ≤ b.length := List.length_take_le' _ _
      have l2 : (b.drop (at_ + 1).toNat).length ≤ b.length := by rw [List.length_drop]; omega
      refine ⟨line_le (by have := bk.1; simp only [List.length_map, List.length_cons, List.length_nil]; omega), ?_⟩
      wtm_at "go"
      rw [cut_drop (show 0 ≤ at_ + 1 by omega)]
      refine ⟨line_le (by have := bk.1; simp only [List.length_map, List.length_append, List.length_cons, List.length_nil]; omega), ?_⟩
      wtm_at "go"
      rw [iv_three]
      have l3 : (b.take at_.toNat ++ v :: b.drop (at_ + 1).toNat).length = b.length := by
        rw [List.length_append, List.length_cons, List.length_take, List.length_drop]; omega
      refine hk _ _ _ ⟨by rw [l3]; exact bk.1, fun z hz => ?_⟩ (by rw [l3]; exact hb.1) hs4
      rcases List.mem_append.mp hz with hz | hz
      · exact bk.2 z (List.mem_of_mem_take hz)
      · rcases List.mem_cons.mp hz with rfl | hz
        · exact hv2
        · exact bk.2 z (List.mem_of_mem_drop hz)
    · wtm_at "go"
      exact hk b _ _ bk hb.1 hs2
  · wtm_at "go"
    exact hk b _ _ bk hb.1 hs1
end DL

set_option maxHeartbeats 2000000
namespace DL
/-! ### the points that a state leaves -/
def leftF (top : Int) (s : Int × Int) : Int := s.1 * (top + 1) + colS s.2 (top - s.2 + 1)
theorem colS_add (w a : Int) : ∀ n : Nat, colS w a + colS (w + a) n = colS w (a + n)
  | 0 => by rw [show ((0 : Nat) : Int) = 0 from rfl, colS_zero, Int.add_zero, Int.add_zero]
  | n + 1 => by
    have ih := colS_add w a n
    have e1 : ((n + 1 : Nat) : Int) = (n : Int) + 1 := by omega
    rw [e1, colS_succ (w + a) n, show a + ((n : Int) + 1) = (a + n) + 1 by omega, colS_succ w (a + n), ← ih]
    omega
theorem colS_to {w a b : Int} (h : 0 ≤ b) : colS w a + colS (w + a) b = colS w (a + b) := by
  have := colS_add w a b.toNat
  rw [Int.toNat_of_nonneg h] at this
  exact this
theorem colS_two {w : Int} (hw : 2 ≤ w) : ∀ n : Nat, 2 * (n : Int) ≤ colS w n
  | 0 => by rw [show ((0 : Nat) : Int) = 0 from rfl, colS_zero]; omega
  | n + 1 => by
    have ih := colS_two hw n
    rw [show ((n + 1 : Nat) : Int) = (n : Int) + 1 by omega, colS_succ]
    omega
theorem colS_nn {w b : Int} (hw : 2 ≤ w) (h : 0 ≤ b) : 2 * b ≤ colS w b := by
  have := colS_two hw b.toNat
  rw [Int.toNat_of_nonneg h] at this
  exact this
section
variable {L top : Int} {s : Int × Int}
theorem left_nn (ht : 3 ≤ top) (hs : St L top s) : 0 ≤ leftF top s := by
  obtain ⟨h1, h2, h3, h4, h5⟩ := hs
  have a := colS_nn h3 (show 0 ≤ top - s.2 + 1 by omega)
  have b : 0 ≤ s.1 * (top + 1) := Int.mul_nonneg h1 (by omega)
  unfold leftF; omega
theorem left_zero (ht : 3 ≤ top) (hs : St L top s) (h : leftF top s ≤ 0) : s = (0, top + 1) := by
  obtain ⟨h1, h2, h3, h4, h5⟩ := hs
  have a := colS_nn h3 (show 0 ≤ top - s.2 + 1 by omega)
  have b : s.1 * 1 ≤ s.1 * (top + 1) := Int.mul_le_mul_of_nonneg_left (by omega) h1
  unfold leftF at h
  refine Prod.ext ?_ ?_
  · show s.1 = 0; omega
  · show s.2 = top + 1; omega
theorem comes_le {m p : Int} (ht : 0 ≤ top) (hm : 0 ≤ m) (h : comesB top m p = true) : p ≤ m * (top + 1) := by
  unfold comesB at h
  split at h
  · rename_i e
    simp only [decide_eq_true_eq] at h
    rw [e, h, Int.zero_mul]
    exact Int.le_refl _
  · simp only [Bool.or_eq_true, decide_eq_true_eq] at h
    rcases h with h | h
    · have e : m * (top + 1) = m + top * (m - 1) + top := by rw [Int.mul_add, Int.mul_one, Int.mul_sub, Int.mul_one, Int.mul_comm m top]; omega
      omega
    · rw [Int.mul_comm]; exact h.2
/-- a visit takes its points off -/
theorem left_next {p : Int} {x : Int × Int} (ht : 3 ≤ top) (hs : St L top s) (h : x ∈ nextL top s.1 s.2 p) : p + leftF top x ≤ leftF top s := by
  obtain ⟨h1, h2, h3, h4, h5⟩ := hs
  obtain ⟨q0, q⟩ := mem_nextL.mp h
  rcases q with ⟨z, m, m1, m2, e, rfl⟩ | ⟨nz, q⟩
  · unfold leftF
    rw [z, ← e]
    show colS s.2 m + (0 * (top + 1) + colS (s.2 + m) (top - (s.2 + m) + 1)) ≤ 0 * (top + 1) + colS s.2 (top - s.2 + 1)
    have := colS_to (w := s.2) (a := m) (b := top - (s.2 + m) + 1) (by omega)
    rw [show m + (top - (s.2 + m) + 1) = top - s.2 + 1 by omega] at this
    omega
  · have w2 : s.2 = 2 := h5.resolve_left nz
    rcases q with ⟨m, m1, m2, c, rfl⟩ | ⟨c1, c2, rfl⟩ | ⟨m, m1, m2, c1, c2, rfl⟩
    · have := comes_le (by omega) m1 c
      unfold leftF
      show p + ((s.1 - m) * (top + 1) + colS 2 (top - 2 + 1)) ≤ s.1 * (top + 1) + colS s.2 (top - s.2 + 1)
      rw [w2, Int.sub_mul]
      omega
    · unfold leftF
      show p + (0 * (top + 1) + colS 2 (top - 2 + 1)) ≤ s.1 * (top + 1) + colS s.2 (top - s.2 + 1)
      have e : s.1 * (top + 1) = s.1 + top * (s.1 - 1) + top := by rw [Int.mul_add, Int.mul_one, Int.mul_sub, Int.mul_one, Int.mul_comm s.1 top]; omega
      rw [w2]
      omega
    · unfold leftF
      show p + (0 * (top + 1) + colS (2 + m) (top - (2 + m) + 1)) ≤ s.1 * (top + 1) + colS s.2 (top - s.2 + 1)
      have := colS_to (w := 2) (a := m) (b := top - (2 + m) + 1) (by omega)
      rw [show m + (top - (2 + m) + 1) = top - 2 + 1 by omega] at this
      rw [w2, Int.mul_comm s.1]
      omega
/-- the best visit ends the frame -/
theorem left_best (ht : 3 ≤ top) (hs : St L top s) (h : 0 < leftF top s) : (0, top + 1) ∈ nextL top s.1 s.2 (leftF top s) := by
  obtain ⟨h1, h2, h3, h4, h5⟩ := hs
  refine mem_nextL.mpr ?_
  by_cases z : s.1 = 0
  · have hw : s.2 ≤ top := by
      rcases Int.lt_or_le top s.2 with q | q
      · have e : s.2 = top + 1 := by omega
        unfold leftF at h
        rw [z, e, show top - (top + 1) + 1 = 0 by omega, colS_zero, Int.zero_mul] at h
        omega
      · exact q
    refine ⟨hw, .inl ⟨z, top - s.2 + 1, by omega, by omega, ?_, ?_⟩⟩
    · unfold leftF; rw [z, Int.zero_mul, Int.zero_add]
    · rw [show s.2 + (top - s.2 + 1) = top + 1 by omega]
  · have w2 : s.2 = 2 := h5.resolve_left z
    refine ⟨by omega, .inr ⟨z, .inr (.inr ⟨top - 1, by omega, by omega, ?_, ?_, ?_⟩)⟩⟩
    · unfold leftF
      rw [w2, show top - 2 + 1 = top - 1 by omega]
      have : s.1 * 3 ≤ s.1 * (top + 1) := Int.mul_le_mul_of_nonneg_left (by omega) h1
      omega
    · unfold leftF
      rw [w2, show top - 2 + 1 = top - 1 by omega, Int.mul_comm s.1]
      omega
    · rw [show 2 + (top - 1) = top + 1 by omega]
end
/-- the greatest of a list -/
theorem foldl_max_eq {l : List Int} {m : Int} : ∀ {a : Int}, a ≤ m → (∀ x ∈ l, x ≤ m) → (a = m ∨ m ∈ l) → l.foldl max a = m := by
  induction l with
  | nil => intro a h1 _ h3; exact h3.elim id fun z => by cases z
  | cons x l ih =>
    intro a h1 h2 h3
    rw [List.foldl_cons]
    have hx := h2 x List.mem_cons_self
    refine ih (by omega) (fun y hy => h2 y (List.mem_cons_of_mem _ hy)) ?_
    rcases h3 with h3 | h3
    · left; omega
    · rcases List.mem_cons.mp h3 with h3 | h3
      · left; omega
      · exact .inr h3
end DL

set_option maxHeartbeats 1000000
namespace DL
open PySem L2
local macro_rules | `(tactic| wtm_at "run") => `(tactic| conv => whnf)
local macro_rules | `(tactic| wtm_at "sz") => `(tactic| (rw [line_eq]; simp only [List.length_cons, List.length_nil, List.length_map, List.length_append, rg_length, rngD_rg]; omega))
local macro_rules | `(tactic| wtm_at "go") => `(tactic| ((conv => whnf); repeat (first
  | ((with_reducible refine eq_int ?_); conv => whnf) | ((with_reducible refine ne_int ?_); conv => whnf)
  | ((with_reducible refine lt_int ?_); conv => whnf) | ((with_reducible refine le_int ?_); conv => whnf) | ((with_reducible refine gt_int ?_); conv => whnf) | ((with_reducible refine ge_int ?_); conv => whnf)
  | ((with_reducible refine idx_0 ?_); conv => whnf) | ((with_reducible refine idx_1 ?_); conv => whnf)
  | ((with_reducible refine iteB_T ?_); conv => whnf) | ((with_reducible refine iteB_F ?_); conv => whnf) | ((with_reducible refine iteB_nT ?_); conv => whnf) | ((with_reducible refine iteB_nF ?_); conv => whnf)
  | ((with_reducible refine iteB_n0 ?_); conv => whnf) | ((with_reducible refine iteB_n1 ?_); conv => whnf) | ((with_reducible refine iteB_n2 ?_); conv => whnf) | ((with_reducible refine iteB_n3 ?_); conv => whnf) | ((with_reducible refine iteB_n4 ?_); conv => whnf) | ((with_reducible refine iteB_n5 ?_); conv => whnf)
  | ((with_reducible refine seq_lst ?_); conv => whnf) | ((with_reducible refine seq_tup ?_); conv => whnf)
  | ((with_reducible refine eq_pairs ?_); conv => whnf) | ((with_reducible refine ne_pairs ?_); conv => whnf) | ((with_reducible refine eq_pairs0 ?_); conv => whnf) | ((with_reducible refine ne_pairs0 ?_); conv => whnf)
  | ((with_reducible refine eq_ints ?_); conv => whnf) | ((with_reducible refine ne_ints ?_); conv => whnf) | ((with_reducible refine eq_ints0 ?_); conv => whnf) | ((with_reducible refine ne_ints0 ?_); conv => whnf)
  | ((with_reducible refine eq_tints ?_); conv => whnf) | ((with_reducible refine ne_tints ?_); conv => whnf) | ((with_reducible refine eq_tints0 ?_); conv => whnf) | ((with_reducible refine ne_tints0 ?_); conv => whnf)
  | ((with_reducible refine eq_pair ?_); conv => whnf) | ((with_reducible refine ne_pair ?_); conv => whnf)
  | ((with_reducible refine is_non ?_); conv => whnf) | ((with_reducible refine isnot_non ?_); conv => whnf) | ((with_reducible refine is_bl ?_); conv => whnf) | ((with_reducible refine isnot_bl ?_); conv => whnf)
  | ((with_reducible refine in_pairs ?_); conv => whnf) | ((with_reducible refine notIn_pairs ?_); conv => whnf)
  | ((with_reducible refine slice_l ?_); conv => whnf) | ((with_reducible refine slice_t ?_); conv => whnf)
  | ((with_reducible apply callG_i); (with_reducible assumption); rfl; conv => whnf)
  | (refine callD_v (by rfl) (by rfl) ?_)
  | ((with_reducible refine And.intro rfl ?_); conv => whnf)
  | ((with_reducible refine And.intro (pos_i (by omega)) ?_); conv => whnf)
  | ((with_reducible apply hasD_and); rfl; conv => whnf)
  | ((with_reducible refine And.intro (ownL_i rfl) ?_); conv => whnf)
  | ((with_reducible refine idx_l0 ?_); conv => whnf) | ((with_reducible refine idx_l1 ?_); conv => whnf) | ((with_reducible refine idx_l2 ?_); conv => whnf)
  | ((with_reducible refine And.intro (mul_l (by omega)) ?_); conv => whnf)
  | ((with_reducible refine And.intro (mul_r (by omega)) ?_); conv => whnf)
  | ((with_reducible refine And.intro (div_ok (by omega)) ?_); conv => whnf)
  | ((with_reducible refine And.intro (rng_ok (by ((try simp only [List.length_map]); omega))) ?_); conv => whnf)
  | ((with_reducible refine And.intro (line_le (by ((try simp only [List.length_cons, List.length_nil, List.length_map, List.length_append, rg_length, rngD_rg]); omega))) ?_); conv => whnf)
  | ((with_reducible apply idx_at); rfl; conv => whnf)
  )))
local macro_rules | `(tactic| wtm_at "mono") => `(tactic| (intro ds K K' R R' h hR q; (repeat (first | (refine Exists.imp (fun _ q => ?_) q; rename_i q) | (refine And.imp_right (fun q => ?_) q; rename_i q))); first | exact h _ _ q | exact ite_m (fun z => h _ _ z) (fun z => hR _ z) q | (intros; refine h _ _ (q _ _ _ ?_ ?_ ?_) <;> assumption) | (intros; refine h _ _ (q _ _ _ ?_) <;> assumption) | (intros; refine h _ _ (q _ _ _ _ ?_ ?_ ?_ ?_ ?_) <;> assumption)))
def n_left_in : List Str := ["table", "state", "top", "low"]
def t_left_in : Ss := (.cons (.par [2, 3] (.cons (.idx (.var 0) (.int 1)) (.cons (.idx (.var 1) (.int 1)) .nil))) (.cons (.ret (.bin .add (.bin .mul (.idx (.var 1) (.int 0)) (.bin .add (.var 2) (.int 1))) (.call "colour_sum" (.cons (.var 3) (.cons (.bin .add (.bin .sub (.var 2) (.var 3)) (.int 1)) .nil))))) .nil))
def n_all_left : List Str := ["table", "book", "states", "state"]
def t_all_left : Ss := (.cons (.asg 2 (.call "states_of" (.cons (.var 0) (.cons (.var 1) .nil)))) (.cons (.ite (.cmp .eq (.var 2) (.lst (.nil))) (.cons (.raise "NotPossible") .nil) (.nil)) (.cons (.ret (.comp (.call "left_in" (.cons (.var 0) (.cons (.var 3) .nil))) [("state", 3)] (.one 3) (.seq (.var 2)) (.bl true))) .nil)))
def n_can_win : List Str := ["table", "book", "player", "numbers", "both", "gap"]
def t_can_win : Ss := (.cons (.ex (.call "require_table" (.cons (.var 0) .nil))) (.cons (.ex (.call "require_book" (.cons (.var 1) .nil))) (.cons (.asg 3 (.call "all_left" (.cons (.var 0) (.cons (.var 1) .nil)))) (.cons (.ite (.not (.call "is_integer" (.cons (.var 2) (.cons (.int 0) (.cons (.int 1) .nil))))) (.cons (.raise "InvalidPlayer") .nil) (.nil)) (.cons (.asg 4 (.call "scores_of" (.cons (.var 1) .nil))) (.cons (.asg 5 (.bin .sub (.idx (.var 4) (.bin .sub (.int 1) (.var 2))) (.idx (.var 4) (.var 2)))) (.cons (.ret (.tup (.cons (.cmp .gt (.bi .min1 (.cons (.var 3) .nil)) (.var 5)) (.cons (.cmp .gt (.bi .max1 (.cons (.var 3) .nil)) (.var 5)) .nil)))) .nil)))))))
def n_law_sums : List Str := ["book_so", "found", "at", "points_so"]
def t_law_sums : Ss := (.cons (.asg 1 (.lst (.cons (.int 0) (.cons (.int 0) .nil)))) (.cons (.for_ (.many [2, 3]) (.enum (.var 0)) (.cons (.setIx 1 (.bin .mod (.var 2) (.int 2)) (.bin .add (.ixo 1 (.bin .mod (.var 2) (.int 2))) (.var 3))) .nil)) (.cons (.ret (.tup (.cons (.ixo 1 (.int 0)) (.cons (.ixo 1 (.int 1)) .nil)))) .nil)))
def n_points_left : List Str := ["table", "book", "numbers"]
def t_points_left : Ss := (.cons (.ex (.call "require_table" (.cons (.var 0) .nil))) (.cons (.ex (.call "require_book" (.cons (.var 1) .nil))) (.cons (.asg 2 (.call "all_left" (.cons (.var 0) (.cons (.var 1) .nil)))) (.cons (.ret (.tup (.cons (.bi .min1 (.cons (.var 2) .nil)) (.cons (.bi .max1 (.cons (.var 2) .nil)) .nil)))) .nil))))

/-! ### the points that are left -/
theorem isInt_of2 {d : D} {a b : Int} (h : isIntD d a b = true) : ∃ i, d = .int i ∧ a ≤ i ∧ i ≤ b := by
  cases d <;> simp only [isIntD, decide_eq_true_eq, Bool.false_eq_true] at h
  exact ⟨_, rfl, h.1, h.2⟩
def lefts (reds top : Int) (b : List Int) : List Int := (ofB reds top b).map (leftF top)
@[irreducible] def c_left_in : Ctr := fun ds K _ => ∃ reds top s, ds = [tabD reds top, pD s] ∧ Tb reds top ∧ St reds top s ∧ K (.v (.int (leftF top s))) []
theorem i_left_in {reds top : Int} {s : Int × Int} {K : Rs → List D → Prop} {R : Str → Prop} (ho : Tb reds top) (hs : St reds top s) (hk : K (.v (.int (leftF top s))) []) : c_left_in [tabD reds top, pD s] K R := by
  rw [c_left_in]; exact ⟨reds, top, s, rfl, ho, hs, hk⟩
theorem m_left_in : CMono c_left_in := by
  unfold c_left_in
  wtm_at "mono"
theorem w_left_in (G : Gam) (h1 : G "colour_sum" = some (v2, c_colour_sum)) : Does G v2 t_left_in 4 c_left_in := by
  intro ds K R h
  rw [c_left_in] at h
  obtain ⟨reds, top, s, rfl, ho, hs, hk⟩ := h
  obtain ⟨q1, q2, q3, q4⟩ := id ho
  obtain ⟨r1, r2, r3, r4, r5⟩ := id hs
  wtm_at "go"
  refine i_colour_sum (by omega) ?_
  wtm_at "go"
  exact hk
@[irreducible] def c_all_left : Ctr := fun ds K R => ∃ reds top b, ds = [tabD reds top, iv b] ∧ Tb reds top ∧ Bk b ∧ (if ofB reds top b = [] then R "NotPossible" else K (.o (.l ((lefts reds top b).map iD))) [])
theorem i_all_left {reds top : Int} {b : List Int} {K : Rs → List D → Prop} {R : Str → Prop} (ho : Tb reds top) (hb : Bk b) (hk : if ofB reds top b = [] then R "NotPossible" else K (.o (.l ((lefts reds top b).map iD))) []) : c_all_left [tabD reds top, iv b] K R := by
  rw [c_all_left]; exact ⟨reds, top, b, rfl, ho, hb, hk⟩
theorem m_all_left : CMono c_all_left := by
  unfold c_all_left
  intro ds K K' R R' h hR q
  obtain ⟨reds, top, b, e, h1, h2, q⟩ := q
  refine ⟨reds, top, b, e, h1, h2, ?_⟩
  split
  · rename_i c; rw [if_pos c] at q; exact hR _ q
  · rename_i c; rw [if_neg c] at q; exact h _ _ q
theorem w_all_left (G : Gam) (h1 : G "states_of" = some (v2, c_states_of)) (h2 : G "left_in" = some (v2, c_left_in)) : Does G v2 t_all_left 4 c_all_left := by
  intro ds K R h
  rw [c_all_left] at h
  obtain ⟨reds, top, b, rfl, ho, hb, hk⟩ := h
  obtain ⟨q1, q2, q3, q4⟩ := id ho
  have hst := ofB_st (reds := reds) (top := top) (by omega) (by omega) b
  wtm_at "go"
  refine i_states_of ho ?_
  wtm_at "go"
  refine iteB_d (fun c => ?_) fun c => ?_
  · rw [if_pos c] at hk
    wtm_at "go"
    exact hk
  · rw [if_neg c] at hk
    wtm_at "go"
    have hfew := few (ascP_nodup (asc_ofB reds top b)) hst
    refine ⟨line_le (by rw [List.length_map]; omega), ?_⟩
    refine compE_map _ pD (fun s => .int (leftF top s)) (fun s hs k' hk' => ?_) ?_
    · wtm_at "go"
      refine i_left_in ho (hst s hs) ?_
      wtm_at "go"
      exact hk' _ (wS1 (by decide))
    have e : (ofB reds top b).map (fun s => D.int (leftF top s)) = (lefts reds top b).map iD := by unfold lefts; rw [List.map_map]; rfl
    rw [e]
    exact hk
def IsMin (l : List Int) (m : Int) : Prop := m ∈ l ∧ ∀ y ∈ l, m ≤ y
def IsMax (l : List Int) (m : Int) : Prop := m ∈ l ∧ ∀ y ∈ l, y ≤ m
theorem lefts_pos {reds top : Int} {b : List Int} (h : ofB reds top b ≠ []) : 0 < (lefts reds top b).length := by
  unfold lefts; rw [List.length_map]; exact List.length_pos_iff.mpr h
@[irreducible] def c_points_left : Ctr := fun ds K R => ∃ reds top b, ds = [tabD reds top, iv b] ∧ Tb reds top ∧ Bk b ∧ (if ofB reds top b = [] then R "NotPossible" else ∀ mn mx, IsMin (lefts reds top b) mn → IsMax (lefts reds top b) mx → K (.v (.tup [.int mn, .int mx])) [])
theorem i_points_left {reds top : Int} {b : List Int} {K : Rs → List D → Prop} {R : Str → Prop} (ho : Tb reds top) (hb : Bk b) (hk : if ofB reds top b = [] then R "NotPossible" else ∀ mn mx, IsMin (lefts reds top b) mn → IsMax (lefts reds top b) mx → K (.v (.tup [.int mn, .int mx])) []) : c_points_left [tabD reds top, iv b] K R := by
  rw [c_points_left]; exact ⟨reds, top, b, rfl, ho, hb, hk⟩
theorem m_points_left : CMono c_points_left := by
  unfold c_points_left
  intro ds K K' R R' h hR q
  obtain ⟨reds, top, b, e, h1, h2, q⟩ := q
  refine ⟨reds, top, b, e, h1, h2, ?_⟩
  split
  · rename_i c; rw [if_pos c] at q; exact hR _ q
  · rename_i c; rw [if_neg c] at q; exact fun mn mx a b => h _ _ (q mn mx a b)
theorem w_points_left (G : Gam) (h1 : G "require_table" = some (v1, c_require_table)) (h2 : G "require_book" = some (v1, c_require_book)) (h3 : G "all_left" = some (v2, c_all_left)) : Does G v2 t_points_left 3 c_points_left := by
  intro ds K R h
  rw [c_points_left] at h
  obtain ⟨reds, top, b, rfl, ho, hb, hk⟩ := h
  wtm_at "go"
  refine i_require_table (tame_tab _ _) (yes_table ho ?_)
  wtm_at "go"
  refine i_require_book (tame_iv _) (yes_book hb ?_)
  wtm_at "go"
  refine i_all_left ho hb ?_
  by_cases c : ofB reds top b = []
  · rw [if_pos c] at hk ⊢
    exact hk
  · rw [if_neg c] at hk ⊢
    have hp := lefts_pos c
    wtm_at "go"
    rw [intsD_map]
    refine ⟨hp, fun mn a1 a2 => ?_⟩
    wtm_at "go"
    rw [intsD_map]
    refine ⟨hp, fun mx b1 b2 => ?_⟩
    wtm_at "go"
    exact hk mn mx ⟨a1, a2⟩ ⟨b1, b2⟩
/-- who can still win: p the player -/
def gapI (b : List Int) (p : Int) : Int := if p = 0 then sumO b - sumE b else sumE b - sumO b
@[irreducible] def c_can_win : Ctr := fun ds K R => ∃ reds top b d, ds = [tabD reds top, iv b, d] ∧ Tb reds top ∧ Bk b ∧ d.odd = false ∧ (if ofB reds top b = [] then R "NotPossible" else if isIntD d 0 1 = true then ∀ p mn mx, d = .int p → IsMin (lefts reds top b) mn → IsMax (lefts reds top b) mx →
  K (.v (.tup [.bl (decide (mn > gapI b p)), .bl (decide (mx > gapI b p))])) [] else R "InvalidPlayer")
theorem i_can_win {reds top : Int} {b : List Int} {d : D} {K : Rs → List D → Prop} {R : Str → Prop} (ho : Tb reds top) (hb : Bk b) (hd : d.odd = false) (hk : if ofB reds top b = [] then R "NotPossible" else if isIntD d 0 1 = true then ∀ p mn mx, d = .int p → IsMin (lefts reds top b) mn → IsMax (lefts reds top b) mx →
  K (.v (.tup [.bl (decide (mn > gapI b p)), .bl (decide (mx > gapI b p))])) [] else R "InvalidPlayer") : c_can_win [tabD reds top, iv b, d] K R := by
  rw [c_can_win]; exact ⟨reds, top, b, d, rfl, ho, hb, hd, hk⟩
theorem m_can_win : CMono c_can_win := by
  unfold c_can_win
  intro ds K K' R R' h hR q
  obtain ⟨reds, top, b, d, e, h1, h2, h3, q⟩ := q
  refine ⟨reds, top, b, d, e, h1, h2, h3, ?_⟩
  split
  · rename_i c; rw [if_pos c] at q; exact hR _ q
  · rename_i c; rw [if_neg c] at q
    split
    · rename_i c2; rw [if_pos c2] at q; exact fun p mn mx a b c => h _ _ (q p mn mx a b c)
    · rename_i c2; rw [if_neg c2] at q; exact hR _ q
theorem w_can_win (G : Gam) (h1 : G "require_table" = some (v1, c_require_table)) (h2 : G "require_book" = some (v1, c_require_book)) (h3 : G "all_left" = some (v2, c_all_left)) (h4 : G "is_integer" = some (v3, c_is_integer)) (h5 : G "scores_of" = some (v1, c_scores_of)) : Does G v3 t_can_win 6 c_can_win := by
  intro ds K R h
  rw [c_can_win] at h
  obtain ⟨reds, top, b, d, rfl, ho, hb, hd, hk⟩ := h
  wtm_at "go"
  refine i_require_table (tame_tab _ _) (yes_table ho ?_)
  wtm_at "go"
  refine i_require_book (tame_iv _) (yes_book hb ?_)
  wtm_at "go"
  refine i_all_left ho hb ?_
  by_cases c : ofB reds top b = []
  · rw [if_pos c] at hk ⊢
    exact hk
  · rw [if_neg c] at hk ⊢
    have hp := lefts_pos c
    wtm_at "go"
    refine i_is_integer hd ?_
    cases e : isIntD d 0 1 with
    | false =>
      rw [e] at hk
      simp only [Bool.false_eq_true, if_false] at hk
      wtm_at "go"
      exact hk
    | true =>
      rw [e] at hk
      simp only [if_true] at hk
      obtain ⟨p, rfl, p1, p2⟩ := isInt_of2 e
      wtm_at "go"
      refine i_scores_of (by have := hb.1; omega) ?_
      wtm_at "go"
      have at0 : ∀ i : Int, 0 ≤ i → i ≤ 1 → atI [D.int (sumE b), D.int (sumO b)] i = some (.int (if i = 0 then sumE b else sumO b)) := fun i i0 i1 => by
        rcases (show i = 0 ∨ i = 1 by omega) with rfl | rfl <;> rfl
      refine idx_tup (at0 _ (by omega) (by omega)) ?_
      wtm_at "go"
      refine idx_tup (at0 _ (by omega) (by omega)) ?_
      wtm_at "go"
      have eg : (if 1 - p = 0 then sumE b else sumO b) - (if p = 0 then sumE b else sumO b) = gapI b p := by
        unfold gapI
        rcases (show p = 0 ∨ p = 1 by omega) with rfl | rfl <;> simp
      rw [eg]
      wtm_at "go"
      rw [intsD_map]
      refine ⟨hp, fun mn a1 a2 => ?_⟩
      wtm_at "go"
      rw [intsD_map]
      refine ⟨hp, fun mx b1 b2 => ?_⟩
      wtm_at "go"
      exact hk p mn mx rfl ⟨a1, a2⟩ ⟨b1, b2⟩

/-! ### the sums of a book, turn by turn -/
theorem sum_snoc : ∀ (b : List Int) (x : Int), (sumE (b ++ [x]) = if b.length % 2 = 0 then sumE b + x else sumE b) ∧ (sumO (b ++ [x]) = if b.length % 2 = 0 then sumO b else sumO b + x)
  | [], x => by simp [sumE, sumO]
  | p :: b, x => by
    obtain ⟨h1, h2⟩ := sum_snoc b x
    rw [List.cons_append, sumE, sumO, sumE, sumO, h1, h2, List.length_cons]
    by_cases c : b.length % 2 = 0
    · rw [if_pos c, if_pos c, if_neg (by omega), if_neg (by omega)]
      exact ⟨rfl, rfl⟩
    · rw [if_neg c, if_neg c, if_pos (by omega), if_pos (by omega)]
      exact ⟨by omega, rfl⟩
@[irreducible] def c_sums : Ctr := fun ds K _ => ∃ b, ds = [iv b] ∧ b.length ≤ 1000 ∧ K (.v (.tup [.int (sumE b), .int (sumO b)])) []
theorem i_sums {b : List Int} {K : Rs → List D → Prop} {R : Str → Prop} (hb : b.length ≤ 1000) (hk : K (.v (.tup [.int (sumE b), .int (sumO b)])) []) : c_sums [iv b] K R := by
  rw [c_sums]; exact ⟨b, rfl, hb, hk⟩
theorem m_sums : CMono c_sums := by
  unfold c_sums
  wtm_at "mono"
theorem w_sums (G : Gam) : Does G v1 t_law_sums 4 c_sums := by
  intro ds K R h
  rw [c_sums] at h
  obtain ⟨b, rfl, hb, hk⟩ := h
  wtm_at "go"
  rw [iota_map]
  refine forL_pre (List.range b.length) (fun (i : Nat) => D.tup [.int (i : Int), .int (b.getD i 0)]) (fun pre s => ∃ x2 x3, s = [some (.val (iv b)), some (.own (.l [.int (sumE (b.take pre.length)), .int (sumO (b.take pre.length))])), x2, x3]) ⟨none, none, rfl⟩ ?_ ?_
  · rintro pre i post s e ⟨x2, x3, rfl⟩ N hN
    obtain ⟨e1, e2⟩ := range_split e
    wtm_at "go"
    obtain ⟨a1, a2⟩ := sum_snoc (b.take pre.length) (b.getD i 0)
    have eb : b.take (pre.length + 1) = b.take pre.length ++ [b.getD i 0] := by rw [← e1]; exact take_snoc b e2
    have el : (b.take pre.length).length = i := by rw [List.length_take]; omega
    rw [← eb, el] at a1 a2
    have fin : ∀ x y, sumE (b.take (pre.length + 1)) = x → sumO (b.take (pre.length + 1)) = y → N [some (.val (iv b)), some (.own (.l [.int x, .int y])), some (.val (.int (i : Int))), some (.val (.int (b.getD i 0)))] := fun x y z1 z2 => by
      refine hN _ ⟨some (.val (.int (i : Int))), some (.val (.int (b.getD i 0))), ?_⟩
      rw [List.length_append, List.length_singleton, z1, z2]
    rcases Nat.mod_two_eq_zero_or_one i with c | c
    · have z : ((i : Int) % 2) = 0 := by omega
      rw [if_pos c] at a1 a2
      rw [z]
      wtm_at "go"
      rw [z]
      exact fin _ _ a1 a2
    · have z : ((i : Int) % 2) = 1 := by omega
      rw [if_neg (by omega)] at a1 a2
      rw [z]
      wtm_at "go"
      rw [z]
      exact fin _ _ a1 a2
  · rintro s ⟨x2, x3, rfl⟩
    rw [List.length_range, List.take_length]
    wtm_at "go"
    exact hk
/-- the most that a state's table holds -/
theorem most_eq {L top : Int} {s : Int × Int} (hL : L ≤ 15) (ht : 3 ≤ top ∧ top ≤ 9) (hs : St L top s) {m : Int} (h1 : m ∈ (0 : Int) :: vpts top s) (h2 : ∀ y ∈ (0 : Int) :: vpts top s, y ≤ m) : m = leftF top s := by
  have nn := left_nn ht.1 hs
  have le : m ≤ leftF top s := by
    rcases List.mem_cons.mp h1 with e | e
    · omega
    · have ne := (mem_vpts hL ht hs).mp e
      obtain ⟨x, hx⟩ := List.exists_mem_of_ne_nil _ ne
      have a := left_next ht.1 hs hx
      have b := left_nn ht.1 ((mem_nextL.mp hx).st (by omega) hs)
      omega
  have ge : leftF top s ≤ m := by
    by_cases c : 0 < leftF top s
    · exact h2 _ (List.mem_cons_of_mem _ ((mem_vpts hL ht hs).mpr (List.ne_nil_of_mem (left_best ht.1 hs c))))
    · have := h2 0 List.mem_cons_self
      omega
  omega
end DL

set_option maxHeartbeats 1000000
namespace DL
open PySem L2
local macro_rules | `(tactic| wtm_at "run") => `(tactic| conv => whnf)
local macro_rules | `(tactic| wtm_at "sz") => `(tactic| (rw [line_eq]; simp only [List.length_cons, List.length_nil, List.length_map, List.length_append, rg_length, rngD_rg]; omega))
local macro_rules | `(tactic| wtm_at "go") => `(tactic| ((conv => whnf); repeat (first
  | ((with_reducible refine eq_int ?_); conv => whnf) | ((with_reducible refine ne_int ?_); conv => whnf)
  | ((with_reducible refine lt_int ?_); conv => whnf) | ((with_reducible refine le_int ?_); conv => whnf) | ((with_reducible refine gt_int ?_); conv => whnf) | ((with_reducible refine ge_int ?_); conv => whnf)
  | ((with_reducible refine idx_0 ?_); conv => whnf) | ((with_reducible refine idx_1 ?_); conv => whnf)
  | ((with_reducible refine iteB_T ?_); conv => whnf) | ((with_reducible refine iteB_F ?_); conv => whnf) | ((with_reducible refine iteB_nT ?_); conv => whnf) | ((with_reducible refine iteB_nF ?_); conv => whnf)
  | ((with_reducible refine iteB_n0 ?_); conv => whnf) | ((with_reducible refine iteB_n1 ?_); conv => whnf) | ((with_reducible refine iteB_n2 ?_); conv => whnf) | ((with_reducible refine iteB_n3 ?_); conv => whnf) | ((with_reducible refine iteB_n4 ?_); conv => whnf) | ((with_reducible refine iteB_n5 ?_); conv => whnf)
  | ((with_reducible refine seq_lst ?_); conv => whnf) | ((with_reducible refine seq_tup ?_); conv => whnf)
  | ((with_reducible refine eq_pairs ?_); conv => whnf) | ((with_reducible refine ne_pairs ?_); conv => whnf) | ((with_reducible refine eq_pairs0 ?_); conv => whnf) | ((with_reducible refine ne_pairs0 ?_); conv => whnf)
  | ((with_reducible refine eq_ints ?_); conv => whnf) | ((with_reducible refine ne_ints ?_); conv => whnf) | ((with_reducible refine eq_ints0 ?_); conv => whnf) | ((with_reducible refine ne_ints0 ?_); conv => whnf)
  | ((with_reducible refine eq_tints ?_); conv => whnf) | ((with_reducible refine ne_tints ?_); conv => whnf) | ((with_reducible refine eq_tints0 ?_); conv => whnf) | ((with_reducible refine ne_tints0 ?_); conv => whnf)
  | ((with_reducible refine eq_pair ?_); conv => whnf) | ((with_reducible refine ne_pair ?_); conv => whnf)
  | ((with_reducible refine is_non ?_); conv => whnf) | ((with_reducible refine isnot_non ?_); conv => whnf) | ((with_reducible refine is_bl ?_); conv => whnf) | ((with_reducible refine isnot_bl ?_); conv => whnf)
  | ((with_reducible refine in_pairs ?_); conv => whnf) | ((with_reducible refine notIn_pairs ?_); conv => whnf)
  | ((with_reducible refine slice_l ?_); conv => whnf) | ((with_reducible refine slice_t ?_); conv => whnf)
  | ((with_reducible apply callG_i); (with_reducible assumption); rfl; conv => whnf)
  | (refine callD_v (by rfl) (by rfl) ?_)
  | ((with_reducible refine And.intro rfl ?_); conv => whnf)
  | ((with_reducible refine And.intro (pos_i (by omega)) ?_); conv => whnf)
  | ((with_reducible apply hasD_and); rfl; conv => whnf)
  | ((with_reducible refine And.intro (ownL_i rfl) ?_); conv => whnf)
  | ((with_reducible refine idx_l0 ?_); conv => whnf) | ((with_reducible refine idx_l1 ?_); conv => whnf) | ((with_reducible refine idx_l2 ?_); conv => whnf)
  | ((with_reducible refine And.intro (mul_l (by omega)) ?_); conv => whnf)
  | ((with_reducible refine And.intro (mul_r (by omega)) ?_); conv => whnf)
  | ((with_reducible refine And.intro (div_ok (by omega)) ?_); conv => whnf)
  | ((with_reducible refine And.intro (rng_ok (by ((try simp only [List.length_map]); omega))) ?_); conv => whnf)
  | ((with_reducible refine And.intro (line_le (by ((try simp only [List.length_cons, List.length_nil, List.length_map, List.length_append, rg_length, rngD_rg]); omega))) ?_); conv => whnf)
  | ((with_reducible apply idx_at); rfl; conv => whnf)
  )))
local macro_rules | `(tactic| wtm_at "mono") => `(tactic| (intro ds K K' R R' h hR q; (repeat (first | (refine Exists.imp (fun _ q => ?_) q; rename_i q) | (refine And.imp_right (fun q => ?_) q; rename_i q))); first | exact h _ _ q | exact ite_m (fun z => h _ _ z) (fun z => hR _ z) q | (intros; refine h _ _ (q _ _ _ ?_ ?_ ?_) <;> assumption) | (intros; refine h _ _ (q _ _ _ ?_) <;> assumption) | (intros; refine h _ _ (q _ _ _ _ ?_ ?_ ?_ ?_ ?_) <;> assumption)))
def n_law_outcome22 : List Str := ["table_so", "book_so", "player_so", "e"]
def t_law_outcome22 : Ss := (.cons (.tryN "_law_error_name" 3 (.cons (.ex (.call "can_win" (.cons (.var 0) (.cons (.var 1) (.cons (.var 2) .nil))))) .nil)) (.cons (.ret (.str "fine")) .nil))
def n_law22 : List Str := ["script", "k", "source", "table_so", "tables_so", "turn", "book_so", "ends", "sums", "odd", "numbers", "state_so", "player_so", "own", "other", "good", "number", "due"]
def t_law22 : Ss := (.cons (.for_ (.one 1) (.rng1 (.bi .max2 (.cons (.int 4) (.cons (.bi .min2 (.cons (.int 16) (.cons (.bi .len (.cons (.var 0) .nil)) .nil))) .nil)))) (.cons (.asg 2 (.call "_law_source" (.cons (.var 0) (.cons (.var 1) .nil)))) (.cons (.asg 3 (.call "_law_table" (.cons (.io 2) (.cons (.int 5) .nil)))) (.cons (.asg 4 (.call "_law_tables_of" (.cons (.var 3) .nil))) (.cons (.for_ (.one 5) (.rng1 (.int 8)) (.cons (.asg 6 (.call "_law_book" (.cons (.io 2) (.cons (.var 4) (.cons (.var 3) (.cons (.idx (.lst (.cons (.int 5) (.cons (.int 14) .nil))) (.call "_law_pick" (.cons (.io 2) (.cons (.int 2) .nil)))) .nil)))))) (.cons (.par [7, 8] (.cons (.call "_law_states" (.cons (.var 4) (.cons (.var 3) (.cons (.var 6) .nil)))) (.cons (.call "_law_sums" (.cons (.var 6) .nil)) .nil))) (.cons (.ite (.cmp .eq (.var 7) (.lst (.nil))) (.cons (.ite (.cmp .ne (.comp (.call "_law_outcome" (.cons (.var 3) (.cons (.var 6) (.cons (.var 9) .nil)))) [("odd", 9)] (.one 9) (.seq (.lst (.cons (.int 0) (.cons (.non) .nil)))) (.bl true)) (.bin .mul (.lst (.cons (.str "not") .nil)) (.int 2))) (.cons (.ret (.bl false)) .nil) (.nil)) .nil) (.cons (.asg 10 (.comp (.bi .max1 (.cons (.bin .add (.lst (.cons (.int 0) .nil)) (.bi .sorted (.cons (.idx (.var 4) (.var 11)) .nil))) .nil)) [("state_so", 11)] (.one 11) (.seq (.var 7)) (.bl true))) (.cons (.for_ (.one 12) (.seq (.tup (.cons (.int 0) (.cons (.int 1) .nil)))) (.cons (.asgT [13, 14] (.tup (.cons (.idx (.var 8) (.var 12)) (.cons (.idx (.var 8) (.bin .sub (.int 1) (.var 12))) .nil)))) (.cons (.asg 15 (.comp (.var 16) [("number", 16)] (.one 16) (.seq (.var 10)) (.cmp .gt (.bin .add (.var 13) (.var 16)) (.var 14)))) (.cons (.asg 17 (.tup (.cons (.cmp .eq (.bi .len (.cons (.var 15) .nil)) (.bi .len (.cons (.var 10) .nil))) (.cons (.cmp .ne (.var 15) (.lst (.nil))) .nil)))) (.cons (.ite (.or (.cmp .ne (.call "can_win" (.cons (.var 3) (.cons (.var 6) (.cons (.var 12) .nil)))) (.var 17)) (.and (.cmp .gt (.var 13) (.var 14)) (.cmp .ne (.var 17) (.tup (.cons (.bl true) (.cons (.bl true) .nil)))))) (.cons (.ret (.bl false)) .nil) (.nil)) .nil))))) (.cons (.ite (.cmp .ne (.comp (.call "_law_outcome" (.cons (.var 3) (.cons (.var 6) (.cons (.var 9) .nil)))) [("odd", 9)] (.one 9) (.seq (.lst (.cons (.non) (.cons (.int 2) (.cons (.neg (.int 1)) (.cons (.bl true) .nil)))))) (.bl true)) (.bin .mul (.lst (.cons (.str "player") .nil)) (.int 4))) (.cons (.ret (.bl false)) .nil) (.nil)) .nil)))) .nil)))) .nil))))) (.cons (.ite (.or (.cmp .ne (.call "can_win" (.cons (.tup (.cons (.int 1) (.cons (.int 3) .nil))) (.cons (.tup (.cons (.int 4) .nil)) (.cons (.int 1) .nil)))) (.tup (.cons (.bl true) (.cons (.bl true) .nil)))) (.cmp .ne (.call "can_win" (.cons (.tup (.cons (.int 2) (.cons (.int 3) .nil))) (.cons (.tup (.cons (.int 4) (.cons (.int 0) (.cons (.int 6) .nil)))) (.cons (.int 1) .nil)))) (.tup (.cons (.bl false) (.cons (.bl false) .nil))))) (.cons (.ret (.bl false)) .nil) (.nil)) (.cons (.ite (.or (.cmp .ne (.call "can_win" (.cons (.tup (.cons (.int 1) (.cons (.int 4) .nil))) (.cons (.tup (.cons (.int 7) .nil)) (.cons (.int 1) .nil)))) (.tup (.cons (.bl false) (.cons (.bl false) .nil)))) (.cmp .ne (.call "can_win" (.cons (.tup (.cons (.int 1) (.cons (.int 4) .nil))) (.cons (.tup (.cons (.int 7) .nil)) (.cons (.int 0) .nil)))) (.tup (.cons (.bl true) (.cons (.bl true) .nil))))) (.cons (.ret (.bl false)) .nil) (.nil)) (.cons (.ret (.and (.cmp .eq (.call "can_win" (.cons (.tup (.cons (.int 1) (.cons (.int 3) .nil))) (.cons (.tup (.cons (.int 5) (.cons (.int 0) (.cons (.int 3) .nil)))) (.cons (.int 1) .nil)))) (.tup (.cons (.bl false) (.cons (.bl false) .nil)))) (.cmp .eq (.call "can_win" (.cons (.tup (.cons (.int 1) (.cons (.int 3) .nil))) (.cons (.tup (.cons (.int 1) (.cons (.int 5) .nil))) (.cons (.int 0) .nil)))) (.tup (.cons (.bl false) (.cons (.bl false) .nil)))))) .nil))))

/-! ### k22 -/
def outW (reds top : Int) (b : List Int) (d : D) : Str := if ofB reds top b = [] then "not" else if isIntD d 0 1 = true then "fine" else "player"
@[irreducible] def c_outcome22 : Ctr := fun ds K _ => ∃ reds top b d, ds = [tabD reds top, iv b, d] ∧ Tb reds top ∧ Bk b ∧ d.odd = false ∧ K (.v (.str (outW reds top b d))) []
theorem i_outcome22 {reds top : Int} {b : List Int} {d : D} {K : Rs → List D → Prop} {R : Str → Prop} (ho : Tb reds top) (hb : Bk b) (hd : d.odd = false) (hk : K (.v (.str (outW reds top b d))) []) : c_outcome22 [tabD reds top, iv b, d] K R := by
  rw [c_outcome22]; exact ⟨reds, top, b, d, rfl, ho, hb, hd, hk⟩
theorem m_outcome22 : CMono c_outcome22 := by
  unfold c_outcome22
  wtm_at "mono"
theorem w_outcome22 (G : Gam) (h1 : G "can_win" = some (v3, c_can_win)) : Does G v3 t_law_outcome22 4 c_outcome22 := by
  intro ds K R h
  rw [c_outcome22] at h
  obtain ⟨reds, top, b, d, rfl, ho, hb, hd, hk⟩ := h
  unfold outW at hk
  wtm_at "go"
  refine i_can_win ho hb hd ?_
  by_cases c : ofB reds top b = []
  · rw [if_pos c] at hk ⊢
    exact ⟨by decide, hk⟩
  · rw [if_neg c] at hk ⊢
    cases e : isIntD d 0 1 with
    | false =>
      rw [e] at hk
      simp only [Bool.false_eq_true, if_false] at hk ⊢
      exact ⟨by decide, hk⟩
    | true =>
      rw [e] at hk
      simp only [if_true] at hk ⊢
      intro p mn mx _ _ _
      wtm_at "go"
      exact hk
theorem ne_sameW {d : D} {k : Bool → Prop} (h : EqOk d) (e : PyData.eqv d.py d.py = true) (hk : k false) : cmpD .ne d d k := cmp_ne h h (by rw [e]; exact hk)
theorem win_all {l : List Int} {g m : Int} (h : IsMin l m) : decide ((l.filter fun n => decide (n > g)).length = l.length) = decide (m > g) := by
  refine decide_eq_decide.mpr ?_
  rw [List.length_filter_eq_length_iff]
  constructor
  · intro q; simpa using q m h.1
  · intro q a ha
    have := h.2 a ha
    simp only [decide_eq_true_eq]; omega
theorem win_some {l : List Int} {g m : Int} (h : IsMax l m) : (!decide ((l.filter fun n => decide (n > g)) = [])) = decide (m > g) := by
  by_cases c : m > g
  · rw [decide_eq_true c, decide_eq_false fun z => ?_, Bool.not_false]
    have : m ∈ l.filter fun n => decide (n > g) := List.mem_filter.mpr ⟨h.1, decide_eq_true c⟩
    rw [z] at this; cases this
  · rw [decide_eq_false c, decide_eq_true, Bool.not_true]
    rw [List.filter_eq_nil_iff]
    intro a ha
    have := h.2 a ha
    simp only [decide_eq_true_eq]; omega
theorem ne_bb {a b : Bool} {k : Bool → Prop} (h : k false) : cmpD .ne (.tup [.bl a, .bl b]) (.tup [.bl a, .bl b]) k := by
  refine ne_sameW ⟨?_, ?_⟩ ?_ h <;> cases a <;> cases b <;> decide +kernel
theorem ne_bb2 {a b c d : Bool} {k : Bool → Prop} (h1 : a = c) (h2 : b = d) (h : k false) : cmpD .ne (.tup [.bl a, .bl b]) (.tup [.bl c, .bl d]) k := by
  subst h1 h2; exact ne_bb h
theorem eq_ff {k : Bool → Prop} (h : k true) : cmpD .eq (.tup [.bl false, .bl false]) (.tup [.bl false, .bl false]) k := by
  refine cmp_eq ⟨by decide +kernel, by decide +kernel⟩ ⟨by decide +kernel, by decide +kernel⟩ ?_
  rw [show PyData.eqv (D.tup [.bl false, .bl false]).py (D.tup [.bl false, .bl false]).py = true from by decide +kernel]
  exact h
theorem i_can_winC {reds top p : Int} {b : List Int} {t : Bool} {K : Rs → List D → Prop} {R : Str → Prop} (ho : Tb reds top) (hb : Bk b) (hne : ofB reds top b ≠ []) (hp : isIntD (.int p) 0 1 = true) (h : ∀ m ∈ lefts reds top b, decide (m > gapI b p) = t) (hk : K (.v (.tup [.bl t, .bl t])) []) :
    c_can_win [tabD reds top, iv b, .int p] K R := by
  refine i_can_win ho hb rfl ?_
  rw [if_neg hne, if_pos hp]
  intro p' mn mx e h1 h2
  cases e
  rw [h mn h1.1, h mx h2.1]
  exact hk
theorem w_law22 (G : Gam) (hG : GMono G) (h1 : G "_law_source" = some (v2, c_source)) (h2 : G "_law_table" = some (iov, c_table)) (h3 : G "_law_tables_of" = some (v1, c_tables_of)) (h4 : G "_law_book" = some (io4, c_book)) (h5 : G "_law_pick" = some (iov, c_pick)) (h6 : G "_law_states" = some (v3, c_states)) (h7 : G "_law_sums" = some (v1, c_sums)) (h8 : G "_law_outcome" = some (v3, c_outcome22)) (h9 : G "can_win" = some (v3, c_can_win)) : Does G v1 t_law22 18 c_law := by
  intro ds K R h
  obtain ⟨ns, rfl, hl, hk⟩ := h
  wtm_at "go"
  rw [rngD_rg]
  refine forL_inv _ iD (fun s => ∃ x1 x2 x3 x4 x5 x6 x7 x8 x9 x10 x11 x12 x13 x14 x15 x16 x17, s = [some (.val (.scr (ns.map iD))), x1, x2, x3, x4, x5, x6, x7, x8, x9, x10, x11, x12, x13, x14, x15, x16, x17]) ⟨_, _, _, _, _, _, _, _, _, _, _, _, _, _, _, _, _, rfl⟩ ?_ ?_
  · rintro k s hk0 ⟨x1, x2, x3, x4, x5, x6, x7, x8, x9, x10, x11, x12, x13, x14, x15, x16, x17, rfl⟩ N hN
    have hk1 := mem_rg.mp hk0
    wtm_at "go"
    refine i_source (by omega) fun c s p hs => ?_
    wtm_at "go"
    refine callD_io (by rfl) ?_
    refine i_table hs (by omega) fun reds top c1 s1 hr1 hr2 ht1 ht2 hs1 => ?_
    have ho : Tb reds top := ⟨hr1, by omega, ht1, ht2⟩
    wtm_at "go"
    refine i_tables_of ho fun d hd => ?_
    wtm_at "go"
    rw [rngD_rg]
    refine forL_inv (rg 0 8) iD (fun s => ∃ c' s' x5 x6 x7 x8 x9 x10 x11 x12 x13 x14 x15 x16 x17, Src c' s' p ∧ s = [some (.val (.scr (ns.map iD))), some (.val (.int k)), some (.own (.l (srcL c' s' p))), some (.val (tabD reds top)), some (.val d), x5, x6, x7, x8, x9, x10, x11, x12, x13, x14, x15, x16, x17]) ⟨_, _, _, _, _, _, _, _, _, _, _, _, _, _, _, hs1, rfl⟩ ?_ ?_
    · clear hs1 x5 x6 x7 x8 x9 x10 x11 x12 x13 x14 x15 x16 x17
      rintro turn s2 _ ⟨c', s', x5, x6, x7, x8, x9, x10, x11, x12, x13, x14, x15, x16, x17, hs1, rfl⟩ N1 hN1
      wtm_at "go"
      refine callD_io (by rfl) ?_
      refine i_pick hs1 (by omega) fun n c2 s2 hn1 hn2 hs2 => ?_
      wtm_at "go"
      obtain ⟨most, hmost, emost⟩ := menuI [5, 14] hn1 hn2
      have hm2 : 0 ≤ most ∧ most ≤ 14 := by
        simp only [List.mem_cons, List.not_mem_nil, or_false] at hmost
        omega
      refine idx_at emost ?_
      wtm_at "go"
      refine callD_io (by rfl) ?_
      refine i_book hs2 ho hd (by omega) fun b c3 s3 hb hbl hs3 => ?_
      have hst := ofB_st (reds := reds) (top := top) (by omega) (by omega) b
      have hfew := few (ascP_nodup (asc_ofB reds top b)) hst
      wtm_at "go"
      refine i_states ho hd ?_
      wtm_at "go"
      refine i_sums (by have := hb.1; omega) ?_
      wtm_at "go"
      have done : ∀ x9 x10 x11 x12 x13 x14 x15 x16 x17 y7 y8, N1 [some (.val (.scr (ns.map iD))), some (.val (.int k)), some (.own (.l (srcL c3 s3 p))), some (.val (tabD reds top)), some (.val d), some (.val (.int turn)), some (.val (iv b)), y7, y8, x9, x10, x11, x12, x13, x14, x15, x16, x17] := fun _ _ _ _ _ _ _ _ _ _ _ => hN1 _ ⟨_, _, _, _, _, _, _, _, _, _, _, _, _, _, _, hs3, rfl⟩
      refine iteB_d (fun c0 => ?_) fun c0 => ?_
      · have odd1 : ∀ x ∈ [D.int 0, D.non], x.odd = false := by decide +kernel
        wtm_at "go"
        refine compE_map [D.int 0, D.non] (fun x => x) (fun _ => .str "not") (fun x hx k' hk' => ?_) ?_
        · wtm_at "go"
          refine i_outcome22 ho hb (odd1 x hx) ?_
          rw [show outW reds top b x = "not" from if_pos c0]
          wtm_at "go"
          exact hk' _ (wS1 (by decide))
        wtm_at "go"
        refine ⟨by decide, by decide, ?_⟩
        wtm_at "go"
        refine ne_sameW (d := .lst [.str "not", .str "not"]) ⟨by decide +kernel, by decide +kernel⟩ (by decide +kernel) ?_
        wtm_at "go"
        exact done _ _ _ _ _ _ _ _ _ _ _
      · wtm_at "go"
        refine compE_map _ pD (fun s => .int (leftF top s)) (fun x hx k' hk' => ?_) ?_
        · have hsx := hst x hx
          wtm_at "go"
          refine tb_idx hd hsx fun v hv => ?_
          wtm_at "go"
          refine fd_sorted (by omega) ⟨ht1, ht2⟩ hsx hv ?_
          wtm_at "go"
          have len : (vpts top x).length ≤ 301 := by
            have : (vpts top x).length ≤ (rg 0 301).length := List.length_filter_le _ _
            rw [rg_length] at this
            omega
          refine ⟨line_le (by rw [List.length_map]; simp only [List.length_cons, List.length_nil]; omega), ?_⟩
          wtm_at "go"
          rw [show [D.int 0] ++ (vpts top x).map iD = ((0 : Int) :: vpts top x).map iD from rfl, intsD_map]
          refine ⟨by simp, fun m m1 m2 => ?_⟩
          rw [most_eq (by omega) ⟨ht1, ht2⟩ hsx m1 m2]
          wtm_at "go"
          exact hk' _ (wS1 (by decide))
        have em : (ofB reds top b).map (fun s => D.int (leftF top s)) = (lefts reds top b).map iD := by unfold lefts; rw [List.map_map]; rfl
        rw [em]
        wtm_at "go"
        refine forL_inv [0, 1] iD (fun s => ∃ sl y9 y11 y12 y13 y14 y15 y16 y17, (sl = .own (.l ((lefts reds top b).map iD)) ∨ sl = .val (.lst ((lefts reds top b).map iD))) ∧ s = [some (.val (.scr (ns.map iD))), some (.val (.int k)), some (.own (.l (srcL c3 s3 p))), some (.val (tabD reds top)), some (.val d), some (.val (.int turn)), some (.val (iv b)), some (.val (.lst ((ofB reds top b).map pD))), some (.val (.tup [.int (sumE b), .int (sumO b)])), y9, some sl, y11, y12, y13, y14, y15, y16, y17]) ⟨_, _, _, _, _, _, _, _, _, .inl rfl, rfl⟩ ?_ ?_
        · rintro pl s hpl ⟨sl, y9, y11, y12, y13, y14, y15, y16, y17, hsl, rfl⟩ N2 hN2
          have g0 : gapI b 0 = sumO b - sumE b := rfl
          have g1 : gapI b 1 = sumE b - sumO b := rfl
          have nn : ∀ m ∈ lefts reds top b, 0 ≤ m := fun m hm => by
            unfold lefts at hm
            obtain ⟨x, hx, rfl⟩ := List.mem_map.mp hm
            exact left_nn ht1 (hst x hx)
          rcases (show pl = 0 ∨ pl = 1 by simpa using hpl) with rfl | rfl <;> rcases hsl with rfl | rfl
          all_goals
            wtm_at "go"
            first | refine idx_tup (d := .int (sumO b)) rfl ?_ | refine idx_tup (d := .int (sumE b)) rfl ?_
            wtm_at "go"
          all_goals refine ⟨line_le (by rw [List.length_map]; unfold lefts; rw [List.length_map]; omega), ?_⟩
          case inl.inl =>
            refine compE_if _ iD (fun n => decide (n > gapI b 0)) iD (fun m hm k' hk' => ?_) ?_
            · wtm_at "go"
              refine iteB_d (fun c => ?_) fun c => ?_
              · wtm_at "go"
                rw [if_pos (decide_eq_true (by omega))] at hk'
                exact hk' _ (wS1 (by decide))
              · wtm_at "run"
                rw [if_neg (by rw [decide_eq_true_eq]; omega)] at hk'
                exact hk' _ (wS1 (by decide))
            wtm_at "go"
            refine i_can_win ho hb rfl ?_
            rw [if_neg c0, if_pos (by decide)]
            intro p' mn mx e hmn hmx
            cases e
            wtm_at "go"
            have w1 := win_all (g := gapI b 0) hmn
            have w2 := win_some (g := gapI b 0) hmx
            have w1' : decide (((((lefts reds top b).filter fun n => decide (n > gapI b 0)).map iD).length : Int) = (((lefts reds top b).map iD).length : Int)) = decide (mn > gapI b 0) := by
              rw [← w1]; exact decide_eq_decide.mpr (by simp only [List.length_map]; omega)
            refine ne_bb2 w1'.symm w2.symm ?_
            wtm_at "go"
            refine iteB_d (fun c => ?_) fun c => ?_
            · wtm_at "go"
              have p1 := nn mn hmn.1
              have p2 := nn mx hmx.1
              refine ne_bb2 (w1'.trans (decide_eq_true (by omega))) (w2.trans (decide_eq_true (by omega))) ?_
              wtm_at "go"
              exact hN2 _ ⟨_, _, _, _, _, _, _, _, _, .inr rfl, rfl⟩
            · wtm_at "go"
              exact hN2 _ ⟨_, _, _, _, _, _, _, _, _, .inr rfl, rfl⟩
          case inl.inr =>
            refine compE_if _ iD (fun n => decide (n > gapI b 0)) iD (fun m hm k' hk' => ?_) ?_
            · wtm_at "go"
              refine iteB_d (fun c => ?_) fun c => ?_
              · wtm_at "go"
                rw [if_pos (decide_eq_true (by omega))] at hk'
                exact hk' _ (wS1 (by decide))
              · wtm_at "run"
                rw [if_neg (by rw [decide_eq_true_eq]; omega)] at hk'
                exact hk' _ (wS1 (by decide))
            wtm_at "go"
            refine i_can_win ho hb rfl ?_
            rw [if_neg c0, if_pos (by decide)]
            intro p' mn mx e hmn hmx
            cases e
            wtm_at "go"
            have w1 := win_all (g := gapI b 0) hmn
            have w2 := win_some (g := gapI b 0) hmx
            have w1' : decide (((((lefts reds top b).filter fun n => decide (n > gapI b 0)).map iD).length : Int) = (((lefts reds top b).map iD).length : Int)) = decide (mn > gapI b 0) := by
              rw [← w1]; exact decide_eq_decide.mpr (by simp only [List.length_map]; omega)
            refine ne_bb2 w1'.symm w2.symm ?_
            wtm_at "go"
            refine iteB_d (fun c => ?_) fun c => ?_
            · wtm_at "go"
              have p1 := nn mn hmn.1
              have p2 := nn mx hmx.1
              refine ne_bb2 (w1'.trans (decide_eq_true (by omega))) (w2.trans (decide_eq_true (by omega))) ?_
              wtm_at "go"
              exact hN2 _ ⟨_, _, _, _, _, _, _, _, _, .inr rfl, rfl⟩
            · wtm_at "go"
              exact hN2 _ ⟨_, _, _, _, _, _, _, _, _, .inr rfl, rfl⟩
          case inr.inl =>
            refine compE_if _ iD (fun n => decide (n > gapI b 1)) iD (fun m hm k' hk' => ?_) ?_
            · wtm_at "go"
              refine iteB_d (fun c => ?_) fun c => ?_
              · wtm_at "go"
                rw [if_pos (decide_eq_true (by omega))] at hk'
                exact hk' _ (wS1 (by decide))
              · wtm_at "run"
                rw [if_neg (by rw [decide_eq_true_eq]; omega)] at hk'
                exact hk' _ (wS1 (by decide))
            wtm_at "go"
            refine i_can_win ho hb rfl ?_
            rw [if_neg c0, if_pos (by decide)]
            intro p' mn mx e hmn hmx
            cases e
            wtm_at "go"
            have w1 := win_all (g := gapI b 1) hmn
            have w2 := win_some (g := gapI b 1) hmx
            have w1' : decide (((((lefts reds top b).filter fun n => decide (n > gapI b 1)).map iD).length : Int) = (((lefts reds top b).map iD).length : Int)) = decide (mn > gapI b 1) := by
              rw [← w1]; exact decide_eq_decide.mpr (by simp only [List.length_map]; omega)
            refine ne_bb2 w1'.symm w2.symm ?_
            wtm_at "go"
            refine iteB_d (fun c => ?_) fun c => ?_
            · wtm_at "go"
              have p1 := nn mn hmn.1
              have p2 := nn mx hmx.1
              refine ne_bb2 (w1'.trans (decide_eq_true (by omega))) (w2.trans (decide_eq_true (by omega))) ?_
              wtm_at "go"
              exact hN2 _ ⟨_, _, _, _, _, _, _, _, _, .inr rfl, rfl⟩
            · wtm_at "go"
              exact hN2 _ ⟨_, _, _, _, _, _, _, _, _, .inr rfl, rfl⟩
          case inr.inr =>
            refine compE_if _ iD (fun n => decide (n > gapI b 1)) iD (fun m hm k' hk' => ?_) ?_
            · wtm_at "go"
              refine iteB_d (fun c => ?_) fun c => ?_
              · wtm_at "go"
                rw [if_pos (decide_eq_true (by omega))] at hk'
                exact hk' _ (wS1 (by decide))
              · wtm_at "run"
                rw [if_neg (by rw [decide_eq_true_eq]; omega)] at hk'
                exact hk' _ (wS1 (by decide))
            wtm_at "go"
            refine i_can_win ho hb rfl ?_
            rw [if_neg c0, if_pos (by decide)]
            intro p' mn mx e hmn hmx
            cases e
            wtm_at "go"
            have w1 := win_all (g := gapI b 1) hmn
            have w2 := win_some (g := gapI b 1) hmx
            have w1' : decide (((((lefts reds top b).filter fun n => decide (n > gapI b 1)).map iD).length : Int) = (((lefts reds top b).map iD).length : Int)) = decide (mn > gapI b 1) := by
              rw [← w1]; exact decide_eq_decide.mpr (by simp only [List.length_map]; omega)
            refine ne_bb2 w1'.symm w2.symm ?_
            wtm_at "go"
            refine iteB_d (fun c => ?_) fun c => ?_
            · wtm_at "go"
              have p1 := nn mn hmn.1
              have p2 := nn mx hmx.1
              refine ne_bb2 (w1'.trans (decide_eq_true (by omega))) (w2.trans (decide_eq_true (by omega))) ?_
              wtm_at "go"
              exact hN2 _ ⟨_, _, _, _, _, _, _, _, _, .inr rfl, rfl⟩
            · wtm_at "go"
              exact hN2 _ ⟨_, _, _, _, _, _, _, _, _, .inr rfl, rfl⟩
        · rintro s ⟨sl, y9, y11, y12, y13, y14, y15, y16, y17, hsl, rfl⟩
          have odd2 : ∀ x ∈ [D.non, D.int 2, D.int (-1), D.bl true], x.odd = false := by decide +kernel
          have odd3 : ∀ x ∈ [D.non, D.int 2, D.int (-1), D.bl true], isIntD x 0 1 = false := by decide +kernel
          wtm_at "go"
          refine compE_map [D.non, D.int 2, D.int (-1), D.bl true] (fun x => x) (fun _ => .str "player") (fun x hx k' hk' => ?_) ?_
          · wtm_at "go"
            refine i_outcome22 ho hb (odd2 x hx) ?_
            rw [show outW reds top b x = "player" from by unfold outW; rw [if_neg c0, if_neg (by rw [odd3 x hx]; exact Bool.false_ne_true)]]
            wtm_at "go"
            exact hk' _ (wS1 (by decide))
          wtm_at "go"
          refine ⟨by decide, by decide, ?_⟩
          wtm_at "go"
          refine ne_sameW (d := .lst [.str "player", .str "player", .str "player", .str "player"]) ⟨by decide +kernel, by decide +kernel⟩ (by decide +kernel) ?_
          wtm_at "go"
          exact done _ _ _ _ _ _ _ _ _ _ _
    · rintro s2 ⟨c', s', x5, x6, x7, x8, x9, x10, x11, x12, x13, x14, x15, x16, x17, hs1, rfl⟩
      exact hN _ ⟨_, _, _, _, _, _, _, _, _, _, _, _, _, _, _, _, _, rfl⟩
  · rintro s ⟨x1, x2, x3, x4, x5, x6, x7, x8, x9, x10, x11, x12, x13, x14, x15, x16, x17, rfl⟩
    wtm_at "go"
    refine i_can_winC (reds := 1) (top := 3) (b := [4]) (p := 1) (t := true) (by decide) ⟨by decide, by simp⟩ (by decide +kernel) rfl (by decide +kernel) ?_
    wtm_at "go"
    refine ne_bb ?_
    wtm_at "go"
    refine i_can_winC (reds := 2) (top := 3) (b := [4, 0, 6]) (p := 1) (t := false) (by decide) ⟨by decide, by simp⟩ (by decide +kernel) rfl (by decide +kernel) ?_
    wtm_at "go"
    refine ne_bb ?_
    wtm_at "go"
    refine i_can_winC (reds := 1) (top := 4) (b := [7]) (p := 1) (t := false) (by decide) ⟨by decide, by simp⟩ (by decide +kernel) rfl (by decide +kernel) ?_
    wtm_at "go"
    refine ne_bb ?_
    wtm_at "go"
    refine i_can_winC (reds := 1) (top := 4) (b := [7]) (p := 0) (t := true) (by decide) ⟨by decide, by simp⟩ (by decide +kernel) rfl (by decide +kernel) ?_
    wtm_at "go"
    refine ne_bb ?_
    wtm_at "go"
    refine i_can_winC (reds := 1) (top := 3) (b := [5, 0, 3]) (p := 1) (t := false) (by decide) ⟨by decide, by simp⟩ (by decide +kernel) rfl (by decide +kernel) ?_
    wtm_at "go"
    refine eq_ff ?_
    wtm_at "go"
    refine i_can_winC (reds := 1) (top := 3) (b := [1, 5]) (p := 0) (t := false) (by decide) ⟨by decide, by simp⟩ (by decide +kernel) rfl (by decide +kernel) ?_
    wtm_at "go"
    refine eq_ff ?_
    exact hk
end DL

namespace DL
open PySem PySem.Spec PyProof.Rows L2 C8
def top_k22 (i : Nat) : Stmt := PySem.Challenge.pw_redvisits_k22_who_can_still_win.main.body.getD i (.Pass ⟨0, 0, 0, 0⟩)
def cs_k22 : List (Str × Int) := [("MAX_REDS", 15), ("MIN_TOP", 3), ("MAX_TOP", 9), ("MAX_VISITS", 40), ("MAX_POINTS", 300)]
def ex_k22 : List Str := ["VisitError", "InvalidTable", "InvalidBook", "InvalidPlayer", "NotPossible"]
def ek22_source : Ent := ⟨"_law_source", [.val, .val], c_source⟩
def ek22_pick : Ent := ⟨"_law_pick", [.io, .val], c_pick⟩
def ek22_table : Ent := ⟨"_law_table", [.io, .val], c_table⟩
def ek22_ball : Ent := ⟨"_law_ball", [.val, .val, .val, .val], c_ball⟩
def ek22_visits : Ent := ⟨"_law_visits", [.val, .val], c_visits⟩
def ek22_tables_of : Ent := ⟨"_law_tables_of", [.val], c_tables_of⟩
def ek22_true_book : Ent := ⟨"_law_true_book", [.io, .val, .val, .val], c_true_book⟩
def ek22_book : Ent := ⟨"_law_book", [.io, .val, .val, .val], c_book⟩
def ek22_is_integer : Ent := ⟨"is_integer", [.val, .val, .val], c_is_integer⟩
def ek22_is_table : Ent := ⟨"is_table", [.val], c_is_table⟩
def ek22_require_table : Ent := ⟨"require_table", [.val], c_require_table⟩
def ek22_is_book : Ent := ⟨"is_book", [.val], c_is_book⟩
def ek22_require_book : Ent := ⟨"require_book", [.val], c_require_book⟩
def ek22_comes : Ent := ⟨"comes", [.val, .val, .val], c_comes⟩
def ek22_colour_sum : Ent := ⟨"colour_sum", [.val, .val], c_colour_sum⟩
def ek22_next_of : Ent := ⟨"next_of", [.val, .val, .val], c_next_of⟩
def ek22_states_from : Ent := ⟨"states_from", [.val, .mv, .val], c_states_from⟩
def ek22_states_of : Ent := ⟨"states_of", [.val, .val], c_states_of⟩
def ek22_left_in : Ent := ⟨"left_in", [.val, .val], c_left_in⟩
def ek22_all_left : Ent := ⟨"all_left", [.val, .val], c_all_left⟩
def ek22_scores_of : Ent := ⟨"scores_of", [.val], c_scores_of⟩
def ek22_can_win : Ent := ⟨"can_win", [.val, .val, .val], c_can_win⟩
def ek22_behind : Ent := ⟨"_law_behind", [.val, .val, .val], c_behind⟩
def ek22_states : Ent := ⟨"_law_states", [.val, .val, .val], c_states⟩
def ek22_sums : Ent := ⟨"_law_sums", [.val], c_sums⟩
def ek22_outcome22 : Ent := ⟨"_law_outcome", [.val, .val, .val], c_outcome22⟩
structure Facts_k22 (K : PySem.W.Frag) : Prop where
  b : ∀ x ∈ builtins, NoFacts K x
  c : ∀ p ∈ cs_k22, ConFacts K p.1 p.2
  e : ∀ c ∈ ex_k22, ExcFacts K c
  d_source : DefFacts K "_law_source" (top_k22 38)
  d_pick : DefFacts K "_law_pick" (top_k22 39)
  d_table : DefFacts K "_law_table" (top_k22 41)
  d_ball : DefFacts K "_law_ball" (top_k22 42)
  d_visits : DefFacts K "_law_visits" (top_k22 43)
  d_tables_of : DefFacts K "_law_tables_of" (top_k22 44)
  d_true_book : DefFacts K "_law_true_book" (top_k22 47)
  d_book : DefFacts K "_law_book" (top_k22 48)
  d_is_integer : DefFacts K "is_integer" (top_k22 20)
  d_is_table : DefFacts K "is_table" (top_k22 21)
  d_require_table : DefFacts K "require_table" (top_k22 23)
  d_is_book : DefFacts K "is_book" (top_k22 22)
  d_require_book : DefFacts K "require_book" (top_k22 24)
  d_comes : DefFacts K "comes" (top_k22 27)
  d_colour_sum : DefFacts K "colour_sum" (top_k22 26)
  d_next_of : DefFacts K "next_of" (top_k22 28)
  d_states_from : DefFacts K "states_from" (top_k22 30)
  d_states_of : DefFacts K "states_of" (top_k22 31)
  d_left_in : DefFacts K "left_in" (top_k22 34)
  d_all_left : DefFacts K "all_left" (top_k22 35)
  d_scores_of : DefFacts K "scores_of" (top_k22 33)
  d_can_win : DefFacts K "can_win" (top_k22 36)
  d_behind : DefFacts K "_law_behind" (top_k22 45)
  d_states : DefFacts K "_law_states" (top_k22 46)
  d_sums : DefFacts K "_law_sums" (top_k22 49)
  d_outcome22 : DefFacts K "_law_outcome" (top_k22 50)
  d_law : DefFacts K "law" (top_k22 51)
  er : ErrFacts K (top_k22 40)
set_option maxHeartbeats 0 in
theorem tab_k22 {P : Program} {w : World} {K : PySem.W.Frag} {mg : Str → Option Value} {h base : Heap} (X : K.In h) (G : h.Ns mainGlobals mg) (f : Facts_k22 K) : TabOk P w K mg base (tabL cs_k22 ex_k22 [ek22_outcome22, ek22_sums, ek22_states, ek22_behind, ek22_can_win, ek22_scores_of, ek22_all_left, ek22_left_in, ek22_states_of, ek22_states_from, ek22_next_of, ek22_colour_sum, ek22_comes, ek22_require_book, ek22_is_book, ek22_require_table, ek22_is_table, ek22_is_integer, ek22_book, ek22_true_book, ek22_tables_of, ek22_visits, ek22_ball, ek22_table, ek22_pick, ek22_source]) 27 := by
  have t0 := tab0 (P := P) (w := w) (base := base) (cs := cs_k22) (ex := ex_k22) X G f.b f.c f.e (fun _ => err_ok f.er X G (fun x hx => PySem.W.mg_none_of X G (f.b x hx)) (by decide +kernel) (by decide +kernel) (fun _ _ _ _ _ _ us hl => match us, hl with | [_], _ => rfl))
  have t1 := t0.def (e := ek22_source) (N := n_law_source) (ps := ["script", "k"]) (ss := t_law_source) X G (by decide) f.d_source (fun _ _ _ _ _ _ us hl => match us, hl with | [_, _], _ => rfl) (by decide +kernel) rfl rfl (by decide +kernel) (by
    have gm := t0.gm
    first | exact w_source _ | exact w_source _ gm | (apply w_source <;> assumption)) m_source
  have t2 := t1.def (e := ek22_pick) (N := n_law_pick) (ps := ["source", "size"]) (ss := t_law_pick) X G (by decide) f.d_pick (fun _ _ _ _ _ _ us hl => match us, hl with | [_, _], _ => rfl) (by decide +kernel) rfl rfl (by decide +kernel) (by
    have gm := t1.gm
    first | exact w_pick _ | exact w_pick _ gm | (apply w_pick <;> assumption)) m_pick
  have t3 := t2.def (e := ek22_table) (N := n_law_table) (ps := ["source", "most"]) (ss := t_law_table) X G (by decide) f.d_table (fun _ _ _ _ _ _ us hl => match us, hl with | [_, _], _ => rfl) (by decide +kernel) rfl rfl (by decide +kernel) (by
    have gm := t2.gm
    have nd : (([ek22_pick, ek22_source] : List Ent).map Ent.name).Nodup := by decide +kernel
    have g0 := getG_mem (e := ek22_pick) nd (.head _)
    first | exact w_table _ | exact w_table _ gm | (apply w_table <;> assumption)) m_table
  have t4 := t3.def (e := ek22_ball) (N := n_law_ball) (ps := ["state_so", "last_so", "top_so", "ball"]) (ss := t_law_ball) X G (by decide) f.d_ball (fun _ _ _ _ _ _ us hl => match us, hl with | [_, _, _, _], _ => rfl) (by decide +kernel) rfl rfl (by decide +kernel) (by
    have gm := t3.gm
    first | exact w_ball _ | exact w_ball _ gm | (apply w_ball <;> assumption)) m_ball
  have t5 := t4.def (e := ek22_visits) (N := n_law_visits) (ps := ["top_so", "state_so"]) (ss := t_law_visits) X G (by decide) f.d_visits (fun _ _ _ _ _ _ us hl => match us, hl with | [_, _], _ => rfl) (by decide +kernel) rfl rfl (by decide +kernel) (by
    have gm := t4.gm
    have nd : (([ek22_ball, ek22_table, ek22_pick, ek22_source] : List Ent).map Ent.name).Nodup := by decide +kernel
    have g0 := getG_mem (e := ek22_ball) nd (.head _)
    first | exact w_visits _ | exact w_visits _ gm | (apply w_visits <;> assumption)) m_visits
  have t6 := t5.def (e := ek22_tables_of) (N := n_law_tables_of) (ps := ["table_so"]) (ss := t_law_tables_of) X G (by decide) f.d_tables_of (fun _ _ _ _ _ _ us hl => match us, hl with | [_], _ => rfl) (by decide +kernel) rfl rfl (by decide +kernel) (by
    have gm := t5.gm
    have nd : (([ek22_visits, ek22_ball, ek22_table, ek22_pick, ek22_source] : List Ent).map Ent.name).Nodup := by decide +kernel
    have g0 := getG_mem (e := ek22_visits) nd (.head _)
    first | exact w_tables_of _ | exact w_tables_of _ gm | (apply w_tables_of <;> assumption)) m_tables_of
  have t7 := t6.def (e := ek22_true_book) (N := n_law_true_book) (ps := ["source", "tables_so", "table_so", "most"]) (ss := t_law_true_book) X G (by decide) f.d_true_book (fun _ _ _ _ _ _ us hl => match us, hl with | [_, _, _, _], _ => rfl) (by decide +kernel) rfl rfl (by decide +kernel) (by
    have gm := t6.gm
    have nd : (([ek22_tables_of, ek22_visits, ek22_ball, ek22_table, ek22_pick, ek22_source] : List Ent).map Ent.name).Nodup := by decide +kernel
    have g0 := getG_mem (e := ek22_pick) nd (.tail _ (.tail _ (.tail _ (.tail _ (.head _)))))
    first | exact w_true_book _ | exact w_true_book _ gm | (apply w_true_book <;> assumption)) m_true_book
  have t8 := t7.def (e := ek22_book) (N := n_law_book) (ps := ["source", "tables_so", "table_so", "most"]) (ss := t_law_book) X G (by decide) f.d_book (fun _ _ _ _ _ _ us hl => match us, hl with | [_, _, _, _], _ => rfl) (by decide +kernel) rfl rfl (by decide +kernel) (by
    have gm := t7.gm
    have nd : (([ek22_true_book, ek22_tables_of, ek22_visits, ek22_ball, ek22_table, ek22_pick, ek22_source] : List Ent).map Ent.name).Nodup := by decide +kernel
    have g0 := getG_mem (e := ek22_true_book) nd (.head _)
    have g1 := getG_mem (e := ek22_pick) nd (.tail _ (.tail _ (.tail _ (.tail _ (.tail _ (.head _))))))
    first | exact w_book _ | exact w_book _ gm | (apply w_book <;> assumption)) m_book
  have t9 := t8.def (e := ek22_is_integer) (N := n_is_integer) (ps := ["value", "low", "high"]) (ss := t_is_integer) X G (by decide) f.d_is_integer (fun _ _ _ _ _ _ us hl => match us, hl with | [_, _, _], _ => rfl) (by decide +kernel) rfl rfl (by decide +kernel) (by
    have gm := t8.gm
    first | exact w_is_integer _ | exact w_is_integer _ gm | (apply w_is_integer <;> assumption)) m_is_integer
  have t10 := t9.def (e := ek22_is_table) (N := n_is_table) (ps := ["value"]) (ss := t_is_table) X G (by decide) f.d_is_table (fun _ _ _ _ _ _ us hl => match us, hl with | [_], _ => rfl) (by decide +kernel) rfl rfl (by decide +kernel) (by
    have gm := t9.gm
    have nd : (([ek22_is_integer, ek22_book, ek22_true_book, ek22_tables_of, ek22_visits, ek22_ball, ek22_table, ek22_pick, ek22_source] : List Ent).map Ent.name).Nodup := by decide +kernel
    have g0 := getG_mem (e := ek22_is_integer) nd (.head _)
    first | exact w_is_table _ | exact w_is_table _ gm | (apply w_is_table <;> assumption)) m_is_table
  have t11 := t10.def (e := ek22_require_table) (N := n_require_table) (ps := ["value"]) (ss := t_require_table) X G (by decide) f.d_require_table (fun _ _ _ _ _ _ us hl => match us, hl with | [_], _ => rfl) (by decide +kernel) rfl rfl (by decide +kernel) (by
    have gm := t10.gm
    have nd : (([ek22_is_table, ek22_is_integer, ek22_book, ek22_true_book, ek22_tables_of, ek22_visits, ek22_ball, ek22_table, ek22_pick, ek22_source] : List Ent).map Ent.name).Nodup := by decide +kernel
    have g0 := getG_mem (e := ek22_is_table) nd (.head _)
    first | exact w_require_table _ | exact w_require_table _ gm | (apply w_require_table <;> assumption)) m_require_table
  have t12 := t11.def (e := ek22_is_book) (N := n_is_book) (ps := ["value"]) (ss := t_is_book) X G (by decide) f.d_is_book (fun _ _ _ _ _ _ us hl => match us, hl with | [_], _ => rfl) (by decide +kernel) rfl rfl (by decide +kernel) (by
    have gm := t11.gm
    have nd : (([ek22_require_table, ek22_is_table, ek22_is_integer, ek22_book, ek22_true_book, ek22_tables_of, ek22_visits, ek22_ball, ek22_table, ek22_pick, ek22_source] : List Ent).map Ent.name).Nodup := by decide +kernel
    have g0 := getG_mem (e := ek22_is_integer) nd (.tail _ (.tail _ (.head _)))
    first | exact w_is_book _ | exact w_is_book _ gm | (apply w_is_book <;> assumption)) m_is_book
  have t13 := t12.def (e := ek22_require_book) (N := n_require_book) (ps := ["value"]) (ss := t_require_book) X G (by decide) f.d_require_book (fun _ _ _ _ _ _ us hl => match us, hl with | [_], _ => rfl) (by decide +kernel) rfl rfl (by decide +kernel) (by
    have gm := t12.gm
    have nd : (([ek22_is_book, ek22_require_table, ek22_is_table, ek22_is_integer, ek22_book, ek22_true_book, ek22_tables_of, ek22_visits, ek22_ball, ek22_table, ek22_pick, ek22_source] : List Ent).map Ent.name).Nodup := by decide +kernel
    have g0 := getG_mem (e := ek22_is_book) nd (.head _)
    first | exact w_require_book _ | exact w_require_book _ gm | (apply w_require_book <;> assumption)) m_require_book
  have t14 := t13.def (e := ek22_comes) (N := n_comes) (ps := ["top", "many", "points"]) (ss := t_comes) X G (by decide) f.d_comes (fun _ _ _ _ _ _ us hl => match us, hl with | [_, _, _], _ => rfl) (by decide +kernel) rfl rfl (by decide +kernel) (by
    have gm := t13.gm
    first | exact w_comes _ | exact w_comes _ gm | (apply w_comes <;> assumption)) m_comes
  have t15 := t14.def (e := ek22_colour_sum) (N := n_colour_sum) (ps := ["low", "many"]) (ss := t_colour_sum) X G (by decide) f.d_colour_sum (fun _ _ _ _ _ _ us hl => match us, hl with | [_, _], _ => rfl) (by decide +kernel) rfl rfl (by decide +kernel) (by
    have gm := t14.gm
    first | exact w_colour_sum _ | exact w_colour_sum _ gm | (apply w_colour_sum <;> assumption)) m_colour_sum
  have t16 := t15.def (e := ek22_next_of) (N := n_next_of) (ps := ["table", "state", "points"]) (ss := t_next_of) X G (by decide) f.d_next_of (fun _ _ _ _ _ _ us hl => match us, hl with | [_, _, _], _ => rfl) (by decide +kernel) rfl rfl (by decide +kernel) (by
    have gm := t15.gm
    have nd : (([ek22_colour_sum, ek22_comes, ek22_require_book, ek22_is_book, ek22_require_table, ek22_is_table, ek22_is_integer, ek22_book, ek22_true_book, ek22_tables_of, ek22_visits, ek22_ball, ek22_table, ek22_pick, ek22_source] : List Ent).map Ent.name).Nodup := by decide +kernel
    have g0 := getG_mem (e := ek22_comes) nd (.tail _ (.head _))
    have g1 := getG_mem (e := ek22_colour_sum) nd (.head _)
    first | exact w_next_of _ | exact w_next_of _ gm | (apply w_next_of <;> assumption)) m_next_of
  have t17 := t16.def (e := ek22_states_from) (N := n_states_from) (ps := ["table", "states", "book"]) (ss := t_states_from) X G (by decide) f.d_states_from (fun _ _ _ _ _ _ us hl => match us, hl with | [_, _, _], _ => rfl) (by decide +kernel) rfl rfl (by decide +kernel) (by
    have gm := t16.gm
    have nd : (([ek22_next_of, ek22_colour_sum, ek22_comes, ek22_require_book, ek22_is_book, ek22_require_table, ek22_is_table, ek22_is_integer, ek22_book, ek22_true_book, ek22_tables_of, ek22_visits, ek22_ball, ek22_table, ek22_pick, ek22_source] : List Ent).map Ent.name).Nodup := by decide +kernel
    have g0 := getG_mem (e := ek22_next_of) nd (.head _)
    first | exact w_states_from _ | exact w_states_from _ gm | (apply w_states_from <;> assumption)) m_states_from
  have t18 := t17.def (e := ek22_states_of) (N := n_states_of) (ps := ["table", "book"]) (ss := t_states_of) X G (by decide) f.d_states_of (fun _ _ _ _ _ _ us hl => match us, hl with | [_, _], _ => rfl) (by decide +kernel) rfl rfl (by decide +kernel) (by
    have gm := t17.gm
    have nd : (([ek22_states_from, ek22_next_of, ek22_colour_sum, ek22_comes, ek22_require_book, ek22_is_book, ek22_require_table, ek22_is_table, ek22_is_integer, ek22_book, ek22_true_book, ek22_tables_of, ek22_visits, ek22_ball, ek22_table, ek22_pick, ek22_source] : List Ent).map Ent.name).Nodup := by decide +kernel
    have g0 := getG_mem (e := ek22_states_from) nd (.head _)
    first | exact w_states_of _ | exact w_states_of _ gm | (apply w_states_of <;> assumption)) m_states_of
  have t19 := t18.def (e := ek22_left_in) (N := n_left_in) (ps := ["table", "state"]) (ss := t_left_in) X G (by decide) f.d_left_in (fun _ _ _ _ _ _ us hl => match us, hl with | [_, _], _ => rfl) (by decide +kernel) rfl rfl (by decide +kernel) (by
    have gm := t18.gm
    have nd : (([ek22_states_of, ek22_states_from, ek22_next_of, ek22_colour_sum, ek22_comes, ek22_require_book, ek22_is_book, ek22_require_table, ek22_is_table, ek22_is_integer, ek22_book, ek22_true_book, ek22_tables_of, ek22_visits, ek22_ball, ek22_table, ek22_pick, ek22_source] : List Ent).map Ent.name).Nodup := by decide +kernel
    have g0 := getG_mem (e := ek22_colour_sum) nd (.tail _ (.tail _ (.tail _ (.head _))))
    first | exact w_left_in _ | exact w_left_in _ gm | (apply w_left_in <;> assumption)) m_left_in
  have t20 := t19.def (e := ek22_all_left) (N := n_all_left) (ps := ["table", "book"]) (ss := t_all_left) X G (by decide) f.d_all_left (fun _ _ _ _ _ _ us hl => match us, hl with | [_, _], _ => rfl) (by decide +kernel) rfl rfl (by decide +kernel) (by
    have gm := t19.gm
    have nd : (([ek22_left_in, ek22_states_of, ek22_states_from, ek22_next_of, ek22_colour_sum, ek22_comes, ek22_require_book, ek22_is_book, ek22_require_table, ek22_is_table, ek22_is_integer, ek22_book, ek22_true_book, ek22_tables_of, ek22_visits, ek22_ball, ek22_table, ek22_pick, ek22_source] : List Ent).map Ent.name).Nodup := by decide +kernel
    have g0 := getG_mem (e := ek22_states_of) nd (.tail _ (.head _))
    have g1 := getG_mem (e := ek22_left_in) nd (.head _)
    first | exact w_all_left _ | exact w_all_left _ gm | (apply w_all_left <;> assumption)) m_all_left
  have t21 := t20.def (e := ek22_scores_of) (N := n_scores_of) (ps := ["book"]) (ss := t_scores_of) X G (by decide) f.d_scores_of (fun _ _ _ _ _ _ us hl => match us, hl with | [_], _ => rfl) (by decide +kernel) rfl rfl (by decide +kernel) (by
    have gm := t20.gm
    first | exact w_scores_of _ | exact w_scores_of _ gm | (apply w_scores_of <;> assumption)) m_scores_of
  have t22 := t21.def (e := ek22_can_win) (N := n_can_win) (ps := ["table", "book", "player"]) (ss := t_can_win) X G (by decide) f.d_can_win (fun _ _ _ _ _ _ us hl => match us, hl with | [_, _, _], _ => rfl) (by decide +kernel) rfl rfl (by decide +kernel) (by
    have gm := t21.gm
    have nd : (([ek22_scores_of, ek22_all_left, ek22_left_in, ek22_states_of, ek22_states_from, ek22_next_of, ek22_colour_sum, ek22_comes, ek22_require_book, ek22_is_book, ek22_require_table, ek22_is_table, ek22_is_integer, ek22_book, ek22_true_book, ek22_tables_of, ek22_visits, ek22_ball, ek22_table, ek22_pick, ek22_source] : List Ent).map Ent.name).Nodup := by decide +kernel
    have g0 := getG_mem (e := ek22_require_table) nd (.tail _ (.tail _ (.tail _ (.tail _ (.tail _ (.tail _ (.tail _ (.tail _ (.tail _ (.tail _ (.head _)))))))))))
    have g1 := getG_mem (e := ek22_require_book) nd (.tail _ (.tail _ (.tail _ (.tail _ (.tail _ (.tail _ (.tail _ (.tail _ (.head _)))))))))
    have g2 := getG_mem (e := ek22_all_left) nd (.tail _ (.head _))
    have g3 := getG_mem (e := ek22_scores_of) nd (.head _)
    have g4 := getG_mem (e := ek22_is_integer) nd (.tail _ (.tail _ (.tail _ (.tail _ (.tail _ (.tail _ (.tail _ (.tail _ (.tail _ (.tail _ (.tail _ (.tail _ (.head _)))))))))))))
    first | exact w_can_win _ | exact w_can_win _ gm | (apply w_can_win <;> assumption)) m_can_win
  have t23 := t22.def (e := ek22_behind) (N := n_law_behind) (ps := ["tables_so", "states_so", "points_so"]) (ss := t_law_behind) X G (by decide) f.d_behind (fun _ _ _ _ _ _ us hl => match us, hl with | [_, _, _], _ => rfl) (by decide +kernel) rfl rfl (by decide +kernel) (by
    have gm := t22.gm
    first | exact w_behind _ | exact w_behind _ gm | (apply w_behind <;> assumption)) m_behind
  have t24 := t23.def (e := ek22_states) (N := n_law_states) (ps := ["tables_so", "table_so", "book_so"]) (ss := t_law_states) X G (by decide) f.d_states (fun _ _ _ _ _ _ us hl => match us, hl with | [_, _, _], _ => rfl) (by decide +kernel) rfl rfl (by decide +kernel) (by
    have gm := t23.gm
    have nd : (([ek22_behind, ek22_can_win, ek22_scores_of, ek22_all_left, ek22_left_in, ek22_states_of, ek22_states_from, ek22_next_of, ek22_colour_sum, ek22_comes, ek22_require_book, ek22_is_book, ek22_require_table, ek22_is_table, ek22_is_integer, ek22_book, ek22_true_book, ek22_tables_of, ek22_visits, ek22_ball, ek22_table, ek22_pick, ek22_source] : List Ent).map Ent.name).Nodup := by decide +kernel
    have g0 := getG_mem (e := ek22_behind) nd (.head _)
    first | exact w_states _ | exact w_states _ gm | (apply w_states <;> assumption)) m_states
  have t25 := t24.def (e := ek22_sums) (N := n_law_sums) (ps := ["book_so"]) (ss := t_law_sums) X G (by decide) f.d_sums (fun _ _ _ _ _ _ us hl => match us, hl with | [_], _ => rfl) (by decide +kernel) rfl rfl (by decide +kernel) (by
    have gm := t24.gm
    first | exact w_sums _ | exact w_sums _ gm | (apply w_sums <;> assumption)) m_sums
  have t26 := t25.def (e := ek22_outcome22) (N := n_law_outcome22) (ps := ["table_so", "book_so", "player_so"]) (ss := t_law_outcome22) X G (by decide) f.d_outcome22 (fun _ _ _ _ _ _ us hl => match us, hl with | [_, _, _], _ => rfl) (by decide +kernel) rfl rfl (by decide +kernel) (by
    have gm := t25.gm
    have nd : (([ek22_sums, ek22_states, ek22_behind, ek22_can_win, ek22_scores_of, ek22_all_left, ek22_left_in, ek22_states_of, ek22_states_from, ek22_next_of, ek22_colour_sum, ek22_comes, ek22_require_book, ek22_is_book, ek22_require_table, ek22_is_table, ek22_is_integer, ek22_book, ek22_true_book, ek22_tables_of, ek22_visits, ek22_ball, ek22_table, ek22_pick, ek22_source] : List Ent).map Ent.name).Nodup := by decide +kernel
    have g0 := getG_mem (e := ek22_can_win) nd (.tail _ (.tail _ (.tail _ (.head _))))
    first | exact w_outcome22 _ | exact w_outcome22 _ gm | (apply w_outcome22 <;> assumption)) m_outcome22
  exact t26
end DL
open PySem PySem.W PyProof.Rows L2 DL
set_option maxRecDepth 100000 in
set_option maxHeartbeats 0 in
theorem DL.run_k22 {P : Program} {w : World} {K : PySem.W.Frag} {mg : Str → Option Value} {h : Heap} {fa : Addr} (X : K.In h) (G : h.Ns mainGlobals mg) (hfa : mg "law" = some (.ref fa)) (f : Facts_k22 K) :
    ∃ fd : FuncData, (∀ (s : Shared) (u : Value), BindsTo s fd ⟨[u], []⟩ [("script", u)]) ∧ ∀ base : Heap, K.In base → base.Ns mainGlobals mg → FnOk P w K mg base (L2N.CX P w) 28 fa fd ["script"] (spOf P w K mg [.val] c_law) := by
  refine law_fn (ss := t_law22) (N := n_law22) X G (by decide) f.d_law hfa (fun _ _ _ _ _ _ us hl => match us, hl with | [_], _ => rfl) (fun _ _ _ _ _ _ _ _ => .of_eq rfl) (by decide +kernel) (by decide +kernel) (fun base _ _ => tab_k22 X G f) ?_
  intro gm
  have nd : (([ek22_outcome22, ek22_sums, ek22_states, ek22_behind, ek22_can_win, ek22_scores_of, ek22_all_left, ek22_left_in, ek22_states_of, ek22_states_from, ek22_next_of, ek22_colour_sum, ek22_comes, ek22_require_book, ek22_is_book, ek22_require_table, ek22_is_table, ek22_is_integer, ek22_book, ek22_true_book, ek22_tables_of, ek22_visits, ek22_ball, ek22_table, ek22_pick, ek22_source] : List Ent).map Ent.name).Nodup := by decide +kernel
  have g0 := getG_mem (e := ek22_source) nd (.tail _ (.tail _ (.tail _ (.tail _ (.tail _ (.tail _ (.tail _ (.tail _ (.tail _ (.tail _ (.tail _ (.tail _ (.tail _ (.tail _ (.tail _ (.tail _ (.tail _ (.tail _ (.tail _ (.tail _ (.tail _ (.tail _ (.tail _ (.tail _ (.tail _ (.head _))))))))))))))))))))))))))
  have g1 := getG_mem (e := ek22_table) nd (.tail _ (.tail _ (.tail _ (.tail _ (.tail _ (.tail _ (.tail _ (.tail _ (.tail _ (.tail _ (.tail _ (.tail _ (.tail _ (.tail _ (.tail _ (.tail _ (.tail _ (.tail _ (.tail _ (.tail _ (.tail _ (.tail _ (.tail _ (.head _))))))))))))))))))))))))
  have g2 := getG_mem (e := ek22_tables_of) nd (.tail _ (.tail _ (.tail _ (.tail _ (.tail _ (.tail _ (.tail _ (.tail _ (.tail _ (.tail _ (.tail _ (.tail _ (.tail _ (.tail _ (.tail _ (.tail _ (.tail _ (.tail _ (.tail _ (.tail _ (.head _)))))))))))))))))))))
  have g3 := getG_mem (e := ek22_book) nd (.tail _ (.tail _ (.tail _ (.tail _ (.tail _ (.tail _ (.tail _ (.tail _ (.tail _ (.tail _ (.tail _ (.tail _ (.tail _ (.tail _ (.tail _ (.tail _ (.tail _ (.tail _ (.head _)))))))))))))))))))
  have g4 := getG_mem (e := ek22_can_win) nd (.tail _ (.tail _ (.tail _ (.tail _ (.head _)))))
  have g5 := getG_mem (e := ek22_states) nd (.tail _ (.tail _ (.head _)))
  have g6 := getG_mem (e := ek22_sums) nd (.tail _ (.head _))
  have g7 := getG_mem (e := ek22_pick) nd (.tail _ (.tail _ (.tail _ (.tail _ (.tail _ (.tail _ (.tail _ (.tail _ (.tail _ (.tail _ (.tail _ (.tail _ (.tail _ (.tail _ (.tail _ (.tail _ (.tail _ (.tail _ (.tail _ (.tail _ (.tail _ (.tail _ (.tail _ (.tail _ (.head _)))))))))))))))))))))))))
  have g8 := getG_mem (e := ek22_outcome22) nd (.head _)
  first | exact w_law22 _ | exact w_law22 _ gm | (apply w_law22 <;> assumption)
set_option maxRecDepth 100000 in
set_option maxHeartbeats 0 in
theorem PySem.Challenge.cw_redvisits_k22_who_can_still_win_holds : PySem.Challenge.rw_redvisits_k22_who_can_still_win.Holds := by
  w_on; o_law; k_head; (case hw => w_witness2)
  k_fill
  refine DL.law_end (k := 28) (l := PySem.Challenge.rw_redvisits_k22_who_can_still_win) ⟨rfl, by decide, by decide⟩ rfl rfl (fun w h Y => PySem.W.kIn_of Y) ?F
  case F =>
    intro w mg fa h KX G hmg
    have b0 := DL.NoFacts.of KX (x := "len") (by k_is)
    have b1 := DL.NoFacts.of KX (x := "sorted") (by k_is)
    have b2 := DL.NoFacts.of KX (x := "set") (by k_is)
    have b3 := DL.NoFacts.of KX (x := "tuple") (by k_is)
    have b4 := DL.NoFacts.of KX (x := "list") (by k_is)
    have b5 := DL.NoFacts.of KX (x := "sum") (by k_is)
    have b6 := DL.NoFacts.of KX (x := "min") (by k_is)
    have b7 := DL.NoFacts.of KX (x := "max") (by k_is)
    have b8 := DL.NoFacts.of KX (x := "abs") (by k_is)
    have b9 := DL.NoFacts.of KX (x := "all") (by k_is)
    have b10 := DL.NoFacts.of KX (x := "any") (by k_is)
    have b11 := DL.NoFacts.of KX (x := "int") (by k_is)
    have b12 := DL.NoFacts.of KX (x := "bool") (by k_is)
    have b13 := DL.NoFacts.of KX (x := "str") (by k_is)
    have b14 := DL.NoFacts.of KX (x := "range") (by k_is)
    have b15 := DL.NoFacts.of KX (x := "enumerate") (by k_is)
    have b16 := DL.NoFacts.of KX (x := "zip") (by k_is)
    have b17 := DL.NoFacts.of KX (x := "isinstance") (by k_is)
    have b18 := DL.NoFacts.of KX (x := "dict") (by k_is)
    have c0 := DL.ConFacts.of KX (x := "MAX_REDS") (i := 15) (by refine' DL.ConFacts.mk ?a; (case a => k_is))
    have c1 := DL.ConFacts.of KX (x := "MIN_TOP") (i := 3) (by refine' DL.ConFacts.mk ?a; (case a => k_is))
    have c2 := DL.ConFacts.of KX (x := "MAX_TOP") (i := 9) (by refine' DL.ConFacts.mk ?a; (case a => k_is))
    have c3 := DL.ConFacts.of KX (x := "MAX_VISITS") (i := 40) (by refine' DL.ConFacts.mk ?a; (case a => k_is))
    have c4 := DL.ConFacts.of KX (x := "MAX_POINTS") (i := 300) (by refine' DL.ConFacts.mk ?a; (case a => k_is))
    have x0 := DL.ExcFacts.of KX (x := "VisitError") (by refine' DL.ExcFacts.mk ?a ?b ?c ?d ?e; (case a => k_is); (case b => k_exc); (case c => k_is); (case d => k_is); (case e => k_is))
    have x1 := DL.ExcFacts.of KX (x := "InvalidTable") (by refine' DL.ExcFacts.mk ?a ?b ?c ?d ?e; (case a => k_is); (case b => k_exc); (case c => k_is); (case d => k_is); (case e => k_is))
    have x2 := DL.ExcFacts.of KX (x := "InvalidBook") (by refine' DL.ExcFacts.mk ?a ?b ?c ?d ?e; (case a => k_is); (case b => k_exc); (case c => k_is); (case d => k_is); (case e => k_is))
    have x3 := DL.ExcFacts.of KX (x := "InvalidPlayer") (by refine' DL.ExcFacts.mk ?a ?b ?c ?d ?e; (case a => k_is); (case b => k_exc); (case c => k_is); (case d => k_is); (case e => k_is))
    have x4 := DL.ExcFacts.of KX (x := "NotPossible") (by refine' DL.ExcFacts.mk ?a ?b ?c ?d ?e; (case a => k_is); (case b => k_exc); (case c => k_is); (case d => k_is); (case e => k_is))
    have d0 := DL.DefFacts.of KX (x := "_law_source") (st := top_k22 38) (by refine' DL.DefFacts.mk ?a ?l ?c ?k; (case a => k_is); (case l => k_is); (case c => k_is); (case k => k_is))
    have d1 := DL.DefFacts.of KX (x := "_law_pick") (st := top_k22 39) (by refine' DL.DefFacts.mk ?a ?l ?c ?k; (case a => k_is); (case l => k_is); (case c => k_is); (case k => k_is))
    have d2 := DL.DefFacts.of KX (x := "_law_table") (st := top_k22 41) (by refine' DL.DefFacts.mk ?a ?l ?c ?k; (case a => k_is); (case l => k_is); (case c => k_is); (case k => k_is))
    have d3 := DL.DefFacts.of KX (x := "_law_ball") (st := top_k22 42) (by refine' DL.DefFacts.mk ?a ?l ?c ?k; (case a => k_is); (case l => k_is); (case c => k_is); (case k => k_is))
    have d4 := DL.DefFacts.of KX (x := "_law_visits") (st := top_k22 43) (by refine' DL.DefFacts.mk ?a ?l ?c ?k; (case a => k_is); (case l => k_is); (case c => k_is); (case k => k_is))
    have d5 := DL.DefFacts.of KX (x := "_law_tables_of") (st := top_k22 44) (by refine' DL.DefFacts.mk ?a ?l ?c ?k; (case a => k_is); (case l => k_is); (case c => k_is); (case k => k_is))
    have d6 := DL.DefFacts.of KX (x := "_law_true_book") (st := top_k22 47) (by refine' DL.DefFacts.mk ?a ?l ?c ?k; (case a => k_is); (case l => k_is); (case c => k_is); (case k => k_is))
    have d7 := DL.DefFacts.of KX (x := "_law_book") (st := top_k22 48) (by refine' DL.DefFacts.mk ?a ?l ?c ?k; (case a => k_is); (case l => k_is); (case c => k_is); (case k => k_is))
    have d8 := DL.DefFacts.of KX (x := "is_integer") (st := top_k22 20) (by refine' DL.DefFacts.mk ?a ?l ?c ?k; (case a => k_is); (case l => k_is); (case c => k_is); (case k => k_is))
    have d9 := DL.DefFacts.of KX (x := "is_table") (st := top_k22 21) (by refine' DL.DefFacts.mk ?a ?l ?c ?k; (case a => k_is); (case l => k_is); (case c => k_is); (case k => k_is))
    have d10 := DL.DefFacts.of KX (x := "require_table") (st := top_k22 23) (by refine' DL.DefFacts.mk ?a ?l ?c ?k; (case a => k_is); (case l => k_is); (case c => k_is); (case k => k_is))
    have d11 := DL.DefFacts.of KX (x := "is_book") (st := top_k22 22) (by refine' DL.DefFacts.mk ?a ?l ?c ?k; (case a => k_is); (case l => k_is); (case c => k_is); (case k => k_is))
    have d12 := DL.DefFacts.of KX (x := "require_book") (st := top_k22 24) (by refine' DL.DefFacts.mk ?a ?l ?c ?k; (case a => k_is); (case l => k_is); (case c => k_is); (case k => k_is))
    have d13 := DL.DefFacts.of KX (x := "comes") (st := top_k22 27) (by refine' DL.DefFacts.mk ?a ?l ?c ?k; (case a => k_is); (case l => k_is); (case c => k_is); (case k => k_is))
    have d14 := DL.DefFacts.of KX (x := "colour_sum") (st := top_k22 26) (by refine' DL.DefFacts.mk ?a ?l ?c ?k; (case a => k_is); (case l => k_is); (case c => k_is); (case k => k_is))
    have d15 := DL.DefFacts.of KX (x := "next_of") (st := top_k22 28) (by refine' DL.DefFacts.mk ?a ?l ?c ?k; (case a => k_is); (case l => k_is); (case c => k_is); (case k => k_is))
    have d16 := DL.DefFacts.of KX (x := "states_from") (st := top_k22 30) (by refine' DL.DefFacts.mk ?a ?l ?c ?k; (case a => k_is); (case l => k_is); (case c => k_is); (case k => k_is))
    have d17 := DL.DefFacts.of KX (x := "states_of") (st := top_k22 31) (by refine' DL.DefFacts.mk ?a ?l ?c ?k; (case a => k_is); (case l => k_is); (case c => k_is); (case k => k_is))
    have d18 := DL.DefFacts.of KX (x := "left_in") (st := top_k22 34) (by refine' DL.DefFacts.mk ?a ?l ?c ?k; (case a => k_is); (case l => k_is); (case c => k_is); (case k => k_is))
    have d19 := DL.DefFacts.of KX (x := "all_left") (st := top_k22 35) (by refine' DL.DefFacts.mk ?a ?l ?c ?k; (case a => k_is); (case l => k_is); (case c => k_is); (case k => k_is))
    have d20 := DL.DefFacts.of KX (x := "scores_of") (st := top_k22 33) (by refine' DL.DefFacts.mk ?a ?l ?c ?k; (case a => k_is); (case l => k_is); (case c => k_is); (case k => k_is))
    have d21 := DL.DefFacts.of KX (x := "can_win") (st := top_k22 36) (by refine' DL.DefFacts.mk ?a ?l ?c ?k; (case a => k_is); (case l => k_is); (case c => k_is); (case k => k_is))
    have d22 := DL.DefFacts.of KX (x := "_law_behind") (st := top_k22 45) (by refine' DL.DefFacts.mk ?a ?l ?c ?k; (case a => k_is); (case l => k_is); (case c => k_is); (case k => k_is))
    have d23 := DL.DefFacts.of KX (x := "_law_states") (st := top_k22 46) (by refine' DL.DefFacts.mk ?a ?l ?c ?k; (case a => k_is); (case l => k_is); (case c => k_is); (case k => k_is))
    have d24 := DL.DefFacts.of KX (x := "_law_sums") (st := top_k22 49) (by refine' DL.DefFacts.mk ?a ?l ?c ?k; (case a => k_is); (case l => k_is); (case c => k_is); (case k => k_is))
    have d25 := DL.DefFacts.of KX (x := "_law_outcome") (st := top_k22 50) (by refine' DL.DefFacts.mk ?a ?l ?c ?k; (case a => k_is); (case l => k_is); (case c => k_is); (case k => k_is))
    have d26 := DL.DefFacts.of KX (x := "law") (st := top_k22 51) (by refine' DL.DefFacts.mk ?a ?l ?c ?k; (case a => k_is); (case l => k_is); (case c => k_is); (case k => k_is))
    have de := DL.DefFacts.of KX (x := "_law_error_name") (st := top_k22 40) (by refine' DL.DefFacts.mk ?a ?l ?c ?k; (case a => k_is); (case l => k_is); (case c => k_is); (case k => k_is))
    have er : DL.ErrFacts _ (top_k22 40) := DL.ErrFacts.of KX (by
      refine' DL.ErrFacts.mk12 de ?B ?f0 ?f1 ?f2 ?f3 ?f4 ?f5 ?f6 ?f7 ?f8 ?f9 ?f10 ?f11 ?nd ?x ?n ?t
      case B => refine' DL.BasF.of ?a ?b ?c ?d ?e; (case a => k_is); (case b => k_is); (case c => k_is); (case d => rfl); (case e => rfl)
      case f0 => refine' DL.ClsF.of ?a ?b ?c ?d ?e ?f ?g ?h; (case a => k_is); (case b => k_is); (case c => k_is); (case d => rfl); (case e => rfl); (case f => k_is); (case g => k_is); (case h => k_is)
      case f1 => refine' DL.ClsF.of ?a ?b ?c ?d ?e ?f ?g ?h; (case a => k_is); (case b => k_is); (case c => k_is); (case d => rfl); (case e => rfl); (case f => k_is); (case g => k_is); (case h => k_is)
      case f2 => refine' DL.ClsF.of ?a ?b ?c ?d ?e ?f ?g ?h; (case a => k_is); (case b => k_is); (case c => k_is); (case d => rfl); (case e => rfl); (case f => k_is); (case g => k_is); (case h => k_is)
      case f3 => refine' DL.ClsF.of ?a ?b ?c ?d ?e ?f ?g ?h; (case a => k_is); (case b => k_is); (case c => k_is); (case d => rfl); (case e => rfl); (case f => k_is); (case g => k_is); (case h => k_is)
      case f4 => refine' DL.ClsF.of ?a ?b ?c ?d ?e ?f ?g ?h; (case a => k_is); (case b => k_is); (case c => k_is); (case d => rfl); (case e => rfl); (case f => k_is); (case g => k_is); (case h => k_is)
      case f5 => refine' DL.ClsF.of ?a ?b ?c ?d ?e ?f ?g ?h; (case a => k_is); (case b => k_is); (case c => k_is); (case d => rfl); (case e => rfl); (case f => k_is); (case g => k_is); (case h => k_is)
      case f6 => refine' DL.ClsF.of ?a ?b ?c ?d ?e ?f ?g ?h; (case a => k_is); (case b => k_is); (case c => k_is); (case d => rfl); (case e => rfl); (case f => k_is); (case g => k_is); (case h => k_is)
      case f7 => refine' DL.ClsF.of ?a ?b ?c ?d ?e ?f ?g ?h; (case a => k_is); (case b => k_is); (case c => k_is); (case d => rfl); (case e => rfl); (case f => k_is); (case g => k_is); (case h => k_is)
      case f8 => refine' DL.ClsF.of ?a ?b ?c ?d ?e ?f ?g ?h; (case a => k_is); (case b => k_is); (case c => k_is); (case d => rfl); (case e => rfl); (case f => k_is); (case g => k_is); (case h => k_is)
      case f9 => refine' DL.ClsF.of ?a ?b ?c ?d ?e ?f ?g ?h; (case a => k_is); (case b => k_is); (case c => k_is); (case d => rfl); (case e => rfl); (case f => k_is); (case g => k_is); (case h => k_is)
      case f10 => refine' DL.ClsF.of ?a ?b ?c ?d ?e ?f ?g ?h; (case a => k_is); (case b => k_is); (case c => k_is); (case d => rfl); (case e => rfl); (case f => k_is); (case g => k_is); (case h => k_is)
      case f11 => refine' DL.ClsF.of ?a ?b ?c ?d ?e ?f ?g ?h; (case a => k_is); (case b => k_is); (case c => k_is); (case d => rfl); (case e => rfl); (case f => k_is); (case g => k_is); (case h => k_is)
      case nd => decide
      case x => k_is
      case n => k_is
      case t => k_is)
    refine DL.run_k22 KX G hmg ⟨?_, ?_, ?_, d0, d1, d2, d3, d4, d5, d6, d7, d8, d9, d10, d11, d12, d13, d14, d15, d16, d17, d18, d19, d20, d21, d22, d23, d24, d25, d26, er⟩
    · intro x hx
      simp only [builtins, List.mem_cons, List.not_mem_nil, or_false] at hx
      rcases hx with rfl | rfl | rfl | rfl | rfl | rfl | rfl | rfl | rfl | rfl | rfl | rfl | rfl | rfl | rfl | rfl | rfl | rfl | rfl <;> assumption
    · intro p hp
      simp only [cs_k22, List.mem_cons, List.not_mem_nil, or_false] at hp
      rcases hp with rfl | rfl | rfl | rfl | rfl <;> assumption
    · intro p hp
      simp only [ex_k22, List.mem_cons, List.not_mem_nil, or_false] at hp
      rcases hp with rfl | rfl | rfl | rfl | rfl <;> assumption

