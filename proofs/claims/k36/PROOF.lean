import PyProof.Rows.All
import Wide.All
import OpenK.AllK
import Wide.FinOn
import HandS.ForMost
import HandS.ForExc
import HandS.IsInst
import HandS.TupAny
import HandS.TupMul
import HandS.Style
import HandS.Conv
import HandS.Wide
import HandS.WideBits
import HandS.EndBits
import HandS.Defaults
import HandS.Flow
import HandS.TupLe
import HandS.ExcOwn
import HandS.TryOnly
import PyProof.ReprRoads
import PyProof.CallFns
import KE.GoesMore
import KE.GoesEnum
import HandS.Zip
import HandS.Rev
import HandS.RevRange
import HandS.HeadHook2
import HandS.SortKw
import HandS.Text
import KE.DataMinMax
import KE.SortData
import PyProof.StrOps2
import HandS.Deep
import KE.DataAny
import HandS.More
import HandS.Replace
import PyProof.Rows.RegStrFacts
import PyProof.StrLawsIn
import PyProof.StrLawsRepr
import HandS.Head0
import HandS.Head1
import HandS.Head2
import HandS.HeadEnd
import HandS.HeadHook1
import PySem.Challenge.RW_lawfulpages_k36_whole_states_by_own_step
set_option Elab.async false
set_option linter.all false
set_option maxRecDepth 100000
set_option maxHeartbeats 4000000
/-! T: values as trees over the kit's hand layer. -/
namespace T
open PySem PySem.Spec PyProof.Rows L2

/-- a value: what never changes is a tree, what may change is a place -/
inductive Tr where
  | non | bl (b : Bool) | int (i : Int) | str (x : Str) | tup (ds : List Tr) | fro (ds : List Tr) | loc (a : Addr) | ty (n : String)

/-- what may change, by its place -/
inductive MO where
  | lst (ds : List Tr) | dic (kvs : List (Key × Tr)) | ins (C dx : Addr) (fs : List (Str × Tr)) | xd (fs : List (Str × Tr))
abbrev Ms := Addr → Option MO
def up (M : Ms) (a : Addr) (o : MO) : Ms := fun b => if b = a then some o else M b
theorem up_same {M : Ms} {a : Addr} {o : MO} : up M a o a = some o := by unfold up; rw [if_pos rfl]
theorem up_ne {M : Ms} {a b : Addr} {o : MO} (h : b ≠ a) : up M a o b = M b := by unfold up; rw [if_neg h]
theorem up_up {M : Ms} {a : Addr} {o u : MO} : up (up M a o) a u = up M a u := by
  funext b; unfold up; split <;> rfl
theorem m_ne {M : Ms} {a b : Addr} {o : MO} (h : M a = some o) (h' : M b = none) : a ≠ b := by
  intro e; subst e; rw [h] at h'; cases h'
theorem m_ne' {M : Ms} {a b : Addr} {o : MO} (h : M a = some o) (h' : M b = none) : b ≠ a := fun e => m_ne h h' e.symm

/-- a list of the written part -/
def KL (K : PySem.W.Frag) (a : Addr) (xs : List V) : Prop :=
  ∃ (ob : Obj) (vs : Array Value) (k : Nat), K.lookup a = some ob ∧ ob.cls = .type "list" ∧ ob.dict = none ∧ ob.data = .seq vs k ∧ vs.size ≤ sizeLine ∧ Vals xs vs.toList
/-- a list that no one writes -/
def FrL (K : PySem.W.Frag) (H : Hp) (a : Addr) (xs : List V) : Prop := (∃ o, H a = some (.frz o (.lst xs))) ∨ KL K a xs
theorem FrL.sq {K : PySem.W.Frag} {H : Hp} {a : Addr} {xs : List V} (h : FrL K H a xs) : SqL K H a xs := by
  rcases h with ⟨o, h⟩ | h
  · exact .inl (.inr ⟨o, h⟩)
  · exact .inr h

mutual
/-- the value v shows the tree -/
def Rep (K : PySem.W.Frag) (H : Hp) : Tr → V → Prop
  | .non, v => v = .non
  | .bl b, v => v = .bl b
  | .int i, v => v = .int i
  | .str x, v => v = .str x
  | .tup ds, v => ∃ a xs, v = .ref a ∧ SqT K H a xs ∧ RepL K H ds xs
  | .fro ds, v => ∃ a xs, v = .ref a ∧ FrL K H a xs ∧ RepL K H ds xs
  | .loc a, v => v = .ref a
  | .ty n, v => v = .ty n
def RepL (K : PySem.W.Frag) (H : Hp) : List Tr → List V → Prop
  | [], xs => xs = []
  | d :: ds, xs => ∃ x r, xs = x :: r ∧ Rep K H d x ∧ RepL K H ds r
end

/-- tuples and written lists stand as they stood -/
structure Tx (K : PySem.W.Frag) (H H' : Hp) : Prop where
  tup : ∀ a xs, SqT K H a xs → SqT K H' a xs
  fro : ∀ a xs, FrL K H a xs → FrL K H' a xs
section
variable {K : PySem.W.Frag} {H H' H1 H2 : Hp}
theorem Tx.refl : Tx K H H := ⟨fun _ _ h => h, fun _ _ h => h⟩
theorem Tx.trans (a : Tx K H H1) (b : Tx K H1 H2) : Tx K H H2 := ⟨fun x xs h => b.tup x xs (a.tup x xs h), fun x xs h => b.fro x xs (a.fro x xs h)⟩
theorem Tx.keep (h : ∀ a o, (∃ xs, o = HO.tup xs) ∨ (∃ ob u, o = HO.frz ob u) → H a = some o → H' a = some o) : Tx K H H' := by
  refine ⟨fun a xs q => ?_, fun a xs q => ?_⟩
  · rcases q with (q | ⟨o, q⟩) | q
    · exact .inl (.inl (h _ _ (.inl ⟨_, rfl⟩) q))
    · exact .inl (.inr ⟨o, h _ _ (.inr ⟨_, _, rfl⟩) q⟩)
    · exact .inr q
  · rcases q with ⟨o, q⟩ | q
    · exact .inl ⟨o, h _ _ (.inr ⟨_, _, rfl⟩) q⟩
    · exact .inr q
theorem Tx.same (h : ∀ a o, H a = some o → H' a = some o) : Tx K H H' := Tx.keep fun a o _ q => h a o q
theorem Tx.new {p : Addr} {o : HO} (h : H p = none) : Tx K H (upd H p o) := Tx.same fun a u q => by rw [upd_ne (ne_of_none q h)]; exact q
theorem Tx.mut {p : Addr} {o u : HO} (h : H p = some u) (h1 : ∀ xs, u ≠ .tup xs) (h2 : ∀ ob x, u ≠ .frz ob x) : Tx K H (upd H p o) := Tx.keep fun a v c q => by
  have ne : a ≠ p := by
    rintro rfl
    rw [h] at q; cases q
    rcases c with ⟨xs, e⟩ | ⟨ob, x, e⟩
    · exact h1 _ e
    · exact h2 _ _ e
  rw [upd_ne ne]; exact q
theorem Tx.lst {p : Addr} {xs : List V} {o : HO} (h : H p = some (.lst xs)) : Tx K H (upd H p o) := Tx.mut h (fun _ e => nomatch e) fun _ _ e => nomatch e
theorem Tx.dic {p : Addr} {xs : List (Key × V)} {o : HO} (h : H p = some (.dK xs)) : Tx K H (upd H p o) := Tx.mut h (fun _ e => nomatch e) fun _ _ e => nomatch e
theorem Tx.ins {p C dx : Addr} {fs : List (Str × V)} {o : HO} (h : H p = some (.ins C dx fs)) : Tx K H (upd H p o) := Tx.mut h (fun _ e => nomatch e) fun _ _ e => nomatch e
theorem Tx.un {fs ex : List Addr} {h h' : Heap} (u : Un fs ex H H' h h') : Tx K H H' := Tx.keep fun a o c q => by
  rcases c with ⟨xs, rfl⟩ | ⟨ob, x, rfl⟩
  · exact u.tups _ _ q
  · exact u.frzs _ _ _ q
end
mutual
theorem Rep.mono {K : PySem.W.Frag} {H H' : Hp} (t : Tx K H H') : ∀ {d : Tr} {v : V}, Rep K H d v → Rep K H' d v
  | .non, _, h => h
  | .bl _, _, h => h
  | .int _, _, h => h
  | .str _, _, h => h
  | .tup _, _, h => by
    obtain ⟨a, xs, e, q, r⟩ := h
    exact ⟨a, xs, e, t.tup _ _ q, RepL.mono t r⟩
  | .fro _, _, h => by
    obtain ⟨a, xs, e, q, r⟩ := h
    exact ⟨a, xs, e, t.fro _ _ q, RepL.mono t r⟩
  | .loc _, _, h => h
  | .ty _, _, h => h
theorem RepL.mono {K : PySem.W.Frag} {H H' : Hp} (t : Tx K H H') : ∀ {ds : List Tr} {xs : List V}, RepL K H ds xs → RepL K H' ds xs
  | [], _, h => h
  | _ :: _, _, h => by
    obtain ⟨x, r, e, h1, h2⟩ := h
    exact ⟨x, r, e, Rep.mono t h1, RepL.mono t h2⟩
end
section
variable {K : PySem.W.Frag} {H H' : Hp}
theorem RepL.len : ∀ {ds : List Tr} {xs : List V}, RepL K H ds xs → ds.length = xs.length
  | [], _, h => by
    have e : _ = [] := h
    subst e
    rfl
  | _ :: ds, _, h => by
    obtain ⟨x, r, e, h1, h2⟩ := h
    subst e
    rw [List.length_cons, List.length_cons, RepL.len h2]
theorem RepL.get : ∀ {ds : List Tr} {xs : List V} {i : Nat} {d : Tr}, RepL K H ds xs → ds[i]? = some d → ∃ x, xs[i]? = some x ∧ Rep K H d x
  | [], _, i, _, _, e => by simp at e
  | d :: ds, _, 0, _, h, e => by
    obtain ⟨x, r, e1, h1, h2⟩ := h
    subst e1
    have e : d = _ := Option.some.inj e
    subst e
    exact ⟨x, rfl, h1⟩
  | _ :: ds, _, i + 1, _, h, e => by
    obtain ⟨x, r, e1, h1, h2⟩ := h
    subst e1
    obtain ⟨y, a, b⟩ := RepL.get (i := i) h2 (by simpa using e)
    exact ⟨y, by simpa using a, b⟩
theorem RepL.of : ∀ {ds : List Tr} {xs : List V}, ds.length = xs.length → (∀ (i : Nat) (d : Tr) (x : V), ds[i]? = some d → xs[i]? = some x → Rep K H d x) → RepL K H ds xs
  | [], [], _, _ => rfl
  | [], _ :: _, e, _ => by simp at e
  | _ :: _, [], e, _ => by simp at e
  | d :: ds, x :: xs, e, h => ⟨x, xs, rfl, h 0 d x rfl rfl, RepL.of (by simpa using e) fun i d x h1 h2 => h (i + 1) d x (by simpa using h1) (by simpa using h2)⟩
theorem RepL.back {ds : List Tr} {xs : List V} {i : Nat} {x : V} (h : RepL K H ds xs) (e : xs[i]? = some x) : ∃ d, ds[i]? = some d ∧ Rep K H d x := by
  have hi : i < ds.length := by
    rw [h.len]; exact (List.getElem?_eq_some_iff.mp e).1
  obtain ⟨y, a, b⟩ := h.get (i := i) (d := ds[i]) (by simp [hi])
  rw [e] at a; cases a
  exact ⟨_, by simp [hi], b⟩
theorem RepL.at {ds : List Tr} {xs : List V} {i : Nat} {d : Tr} {x : V} (h : RepL K H ds xs) (e : ds[i]? = some d) (e' : xs[i]? = some x) : Rep K H d x := by
  obtain ⟨y, a, b⟩ := h.get e
  rw [e'] at a; cases a
  exact b
theorem RepL.app {ds es : List Tr} {xs ys : List V} (h : RepL K H ds xs) (h' : RepL K H es ys) : RepL K H (ds ++ es) (xs ++ ys) := by
  refine RepL.of (by rw [List.length_append, List.length_append, h.len, h'.len]) fun i d x e1 e2 => ?_
  by_cases c : i < ds.length
  · rw [List.getElem?_append_left c] at e1
    rw [List.getElem?_append_left (by rw [← h.len]; exact c)] at e2
    exact h.at e1 e2
  · rw [List.getElem?_append_right (by omega)] at e1
    rw [List.getElem?_append_right (by have := h.len; omega)] at e2
    rw [← h.len] at e2
    exact h'.at e1 e2
theorem RepL.one {d : Tr} {x : V} (h : Rep K H d x) : RepL K H [d] [x] := ⟨x, [], rfl, h, rfl⟩
theorem RepL.nil : RepL K H [] [] := rfl
theorem RepL.cons {d : Tr} {x : V} {ds : List Tr} {xs : List V} (h : Rep K H d x) (t : RepL K H ds xs) : RepL K H (d :: ds) (x :: xs) := ⟨x, xs, rfl, h, t⟩
theorem RepL.take {ds : List Tr} {xs : List V} (n : Nat) (h : RepL K H ds xs) : RepL K H (ds.take n) (xs.take n) := by
  refine RepL.of (by rw [List.length_take, List.length_take, h.len]) fun i d x e1 e2 => ?_
  rw [List.getElem?_take] at e1 e2
  split at e1
  · rename_i c
    rw [if_pos c] at e2
    exact h.at e1 e2
  · cases e1
theorem RepL.drop {ds : List Tr} {xs : List V} (n : Nat) (h : RepL K H ds xs) : RepL K H (ds.drop n) (xs.drop n) := by
  refine RepL.of (by rw [List.length_drop, List.length_drop, h.len]) fun i d x e1 e2 => ?_
  rw [List.getElem?_drop] at e1 e2
  exact h.at e1 e2
theorem RepL.set {ds : List Tr} {xs : List V} {d : Tr} {x : V} (n : Nat) (h : RepL K H ds xs) (r : Rep K H d x) : RepL K H (ds.set n d) (xs.set n x) := by
  refine RepL.of (by rw [List.length_set, List.length_set, h.len]) fun i e y e1 e2 => ?_
  rw [List.getElem?_set] at e1 e2
  by_cases c : n = i
  · rw [if_pos c] at e1 e2
    rw [← h.len] at e2
    split at e1
    · rename_i c2
      rw [if_pos c2] at e2
      cases e1; cases e2
      exact r
    · cases e1
  · rw [if_neg c] at e1 e2
    exact h.at e1 e2
theorem RepL.dropLast {ds : List Tr} {xs : List V} (h : RepL K H ds xs) : RepL K H ds.dropLast xs.dropLast := by
  rw [List.dropLast_eq_take, List.dropLast_eq_take, h.len]
  exact h.take _
theorem RepL.erase {ds : List Tr} {xs : List V} (n : Nat) (h : RepL K H ds xs) : RepL K H (ds.eraseIdx n) (xs.eraseIdx n) := by
  rw [List.eraseIdx_eq_take_drop_succ, List.eraseIdx_eq_take_drop_succ]
  exact (h.take _).app (h.drop _)
theorem RepL.rev {ds : List Tr} {xs : List V} (h : RepL K H ds xs) : RepL K H ds.reverse xs.reverse := by
  refine RepL.of (by rw [List.length_reverse, List.length_reverse, h.len]) fun i d x e1 e2 => ?_
  have hi : i < ds.length := by
    have := (List.getElem?_eq_some_iff.mp e1).1
    rwa [List.length_reverse] at this
  rw [List.getElem?_reverse hi] at e1
  rw [List.getElem?_reverse (by rw [← h.len]; exact hi), ← h.len] at e2
  exact h.at e1 e2
theorem RepL.rep {ds : List Tr} {xs : List V} (h : RepL K H ds xs) : ∀ k : Nat, RepL K H (List.replicate k ds).flatten (List.replicate k xs).flatten
  | 0 => rfl
  | k + 1 => by
    rw [List.replicate_succ, List.replicate_succ, List.flatten_cons, List.flatten_cons]
    exact h.app (RepL.rep h k)
theorem RepL.ints {ns : List Int} : RepL K H (ns.map Tr.int) (ns.map V.int) := by
  induction ns with
  | nil => rfl
  | cons n r ih => exact ⟨_, _, rfl, rfl, ih⟩
theorem RepL.cut {ds : List Tr} {xs : List V} (lo hi : Option Int) (h : RepL K H ds xs) :
    RepL K H ((ds.drop (HT.sIx ds.length 0 lo)).take (HT.sIx ds.length ds.length hi - HT.sIx ds.length 0 lo)) (cutV xs lo hi) := by
  unfold cutV
  rw [h.len]
  exact (h.drop _).take _
end

/-! ### the store, the slots -/
def RepO (K : PySem.W.Frag) (H : Hp) (a : Addr) : MO → Prop
  | .lst ds => ∃ xs, H a = some (.lst xs) ∧ RepL K H ds xs
  | .dic kvs => ∃ xs, H a = some (.dK xs) ∧ xs.map (·.1) = kvs.map (·.1) ∧ RepL K H (kvs.map (·.2)) (xs.map (·.2))
  | .ins C dx fs => ∃ xs, H a = some (.ins C dx xs) ∧ xs.map (·.1) = fs.map (·.1) ∧ RepL K H (fs.map (·.2)) (xs.map (·.2))
  | .xd fs => ∃ xs, H a = some (.xd xs) ∧ xs.map (·.1) = fs.map (·.1) ∧ RepL K H (fs.map (·.2)) (xs.map (·.2))
def SimM (K : PySem.W.Frag) (H : Hp) (M : Ms) : Prop := ∀ a o, M a = some o → RepO K H a o
abbrev St2 := List (Option Tr)
structure SimS (K : PySem.W.Frag) (H : Hp) (σ' : St2) (σ : L2.St) : Prop where
  len : σ'.length = σ.length
  at_ : ∀ (i : Nat) (d : Tr), σ'[i]? = some (some d) → ∃ v, σ[i]? = some (some v) ∧ Rep K H d v
section
variable {K : PySem.W.Frag} {H H' : Hp} {M : Ms} {σ' : St2} {σ : L2.St} {d : Tr} {v : V} {a p : Addr}
theorem RepO.there {o : MO} (h : RepO K H a o) : ∃ u, H a = some u := by
  cases o with
  | lst ds => obtain ⟨xs, e, _⟩ := h; exact ⟨_, e⟩
  | dic ds => obtain ⟨xs, e, _⟩ := h; exact ⟨_, e⟩
  | ins C dx ds => obtain ⟨xs, e, _⟩ := h; exact ⟨_, e⟩
  | xd ds => obtain ⟨xs, e, _⟩ := h; exact ⟨_, e⟩
theorem RepO.mono {o : MO} (t : Tx K H H') (e : H' a = H a) (h : RepO K H a o) : RepO K H' a o := by
  cases o with
  | lst ds => obtain ⟨xs, q, r⟩ := h; exact ⟨xs, e.trans q, r.mono t⟩
  | dic ds => obtain ⟨xs, q, k, r⟩ := h; exact ⟨xs, e.trans q, k, r.mono t⟩
  | ins C dx ds => obtain ⟨xs, q, k, r⟩ := h; exact ⟨xs, e.trans q, k, r.mono t⟩
  | xd ds => obtain ⟨xs, q, k, r⟩ := h; exact ⟨xs, e.trans q, k, r.mono t⟩
theorem SimM.free (h : SimM K H M) (e : H p = none) : M p = none := by
  cases q : M p with
  | none => rfl
  | some o =>
    obtain ⟨u, z⟩ := (h p o q).there
    rw [e] at z; cases z
theorem SimM.keep (h : SimM K H M) (k : ∀ b u, H b = some u → H' b = some u) : SimM K H' M := fun b o q => by
  obtain ⟨u, z⟩ := (h b o q).there
  exact (h b o q).mono (Tx.same k) ((k b u z).trans z.symm)
/-- a new thing that the store does not name -/
theorem SimM.hid {o : HO} (h : SimM K H M) (e : H p = none) : SimM K (upd H p o) M := h.keep fun b u q => by rw [upd_ne (ne_of_none q e)]; exact q
theorem SimM.put {o : HO} {m : MO} (h : SimM K H M) (t : Tx K H (upd H p o)) (n : RepO K (upd H p o) p m) : SimM K (upd H p o) (up M p m) := fun b u q => by
  by_cases c : b = p
  · subst c
    rw [up_same] at q; cases q
    exact n
  · rw [up_ne c] at q
    exact (h b u q).mono t (upd_ne c)
theorem SimM.newL {ds : List Tr} {xs : List V} (h : SimM K H M) (e : H p = none) (r : RepL K H ds xs) : SimM K (upd H p (.lst xs)) (up M p (.lst ds)) :=
  h.put (Tx.new e) ⟨xs, upd_same, r.mono (Tx.new e)⟩
theorem SimM.setL {ds : List Tr} {xs ys : List V} (h : SimM K H M) (e : H p = some (.lst ys)) (r : RepL K H ds xs) : SimM K (upd H p (.lst xs)) (up M p (.lst ds)) :=
  h.put (Tx.lst e) ⟨xs, upd_same, r.mono (Tx.lst e)⟩
theorem SimM.lst {ds : List Tr} (h : SimM K H M) (e : M a = some (.lst ds)) : ∃ xs, H a = some (.lst xs) ∧ RepL K H ds xs := h a _ e
theorem SimS.mono (h : SimS K H σ' σ) (t : Tx K H H') : SimS K H' σ' σ := ⟨h.len, fun i d e => by
  obtain ⟨v, a, b⟩ := h.at_ i d e
  exact ⟨v, a, b.mono t⟩⟩
theorem SimS.set (h : SimS K H σ' σ) (i : Nat) (r : Rep K H d v) : SimS K H (σ'.set i (some d)) (σ.set i (some v)) := ⟨by rw [List.length_set, List.length_set, h.len], fun j e q => by
  rw [List.getElem?_set] at q ⊢
  by_cases c : i = j
  · rw [if_pos c] at q ⊢
    rw [← h.len]
    split at q
    · rename_i c2
      rw [if_pos c2]
      cases q
      exact ⟨v, rfl, r⟩
    · cases q
  · rw [if_neg c] at q ⊢
    exact h.at_ j e q⟩
theorem SimS.none (h : SimS K H σ' σ) (i : Nat) : SimS K H (σ'.set i none) (σ.set i none) := ⟨by rw [List.length_set, List.length_set, h.len], fun j e q => by
  rw [List.getElem?_set] at q ⊢
  by_cases c : i = j
  · rw [if_pos c] at q
    split at q <;> cases q
  · rw [if_neg c] at q ⊢
    exact h.at_ j e q⟩
theorem SimS.none' (h : SimS K H σ' σ) (i : Nat) (o : Option V) : SimS K H (σ'.set i Option.none) (σ.set i o) := ⟨by rw [List.length_set, List.length_set, h.len], fun j e q => by
  rw [List.getElem?_set] at q ⊢
  by_cases c : i = j
  · rw [if_pos c] at q
    split at q <;> cases q
  · rw [if_neg c] at q ⊢
    exact h.at_ j e q⟩
end
def start2 (N : List Str) (ds : List Tr) : St2 := ds.map some ++ List.replicate (N.length - ds.length) none
theorem SimS.start {K : PySem.W.Frag} {H : Hp} {N : List Str} {ds : List Tr} {vs : List V} (r : RepL K H ds vs) : SimS K H (start2 N ds) (L2.start N vs) := by
  refine ⟨by unfold start2 L2.start; simp [r.len], fun i d e => ?_⟩
  unfold start2 at e
  unfold L2.start
  by_cases c : i < ds.length
  · rw [List.getElem?_append_left (by simpa using c), List.getElem?_map] at e
    cases q : ds[i]? with
    | none => rw [q] at e; cases e
    | some d' =>
      rw [q] at e
      cases e
      obtain ⟨x, a, b⟩ := r.get q
      refine ⟨x, ?_, b⟩
      rw [List.getElem?_append_left (by rw [List.length_map, ← r.len]; exact c), List.getElem?_map, a]
      rfl
  · rw [List.getElem?_append_right (by simpa using c), List.getElem?_replicate] at e
    split at e <;> cases e
end T

/-! T, second part: readings over trees; expressions. -/
namespace T
open PySem PySem.Spec L2

abbrev Q2 := Tr → Ms → Prop
abbrev X2 := Value → Option Addr → Ms → Prop
abbrev TE2 := St2 → Ms → Q2 → X2 → Prop
abbrev TT2 := St2 → Ms → (Bool → Ms → Prop) → X2 → Prop
abbrev TA2 := St2 → Ms → (List Tr → Ms → Prop) → X2 → Prop
/-- no exception is wished for -/
abbrev X0 : X2 := fun _ _ _ => False

section lifts
variable (K : PySem.W.Frag)
def LkQ (H : Hp) (Q' : Q2) (Q : VK) : Prop := ∀ d M v H', Tx K H H' → Rep K H' d v → SimM K H' M → Q' d M → Q v H'
def LkB (H : Hp) (Q' : Bool → Ms → Prop) (Q : Bool → Hp → Prop) : Prop := ∀ b M H', Tx K H H' → SimM K H' M → Q' b M → Q b H'
def LkA (H : Hp) (Q' : List Tr → Ms → Prop) (Q : List V → Hp → Prop) : Prop := ∀ ds M vs H', Tx K H H' → RepL K H' ds vs → SimM K H' M → Q' ds M → Q vs H'
def LkX (H : Hp) (E' : X2) (W : L2.WX) (σ : L2.St) : Prop := ∀ c dd M H', Tx K H H' → SimM K H' M → E' c dd M → W c dd σ H'
def lfE (W : L2.WX) (t : TE2) : TE := fun σ H Q => ∃ σ' M Q' E', SimS K H σ' σ ∧ SimM K H M ∧ t σ' M Q' E' ∧ LkQ K H Q' Q ∧ LkX K H E' W σ
def lfT (W : L2.WX) (t : TT2) : TT := fun σ H Q => ∃ σ' M Q' E', SimS K H σ' σ ∧ SimM K H M ∧ t σ' M Q' E' ∧ LkB K H Q' Q ∧ LkX K H E' W σ
def lfA (W : L2.WX) (t : TA2) : TA := fun σ H Q => ∃ σ' M Q' E', SimS K H σ' σ ∧ SimM K H M ∧ t σ' M Q' E' ∧ LkA K H Q' Q ∧ LkX K H E' W σ
end lifts
section
variable {K : PySem.W.Frag} {H H1 : Hp} {E' : X2} {W : L2.WX} {σ : L2.St} {Q' : Q2} {Q : VK} {QB' : Bool → Ms → Prop} {QB : Bool → Hp → Prop}
theorem LkX.mono (h : LkX K H E' W σ) (t : Tx K H H1) : LkX K H1 E' W σ := fun c dd M H' t' s q => h c dd M H' (t.trans t') s q
theorem LkQ.mono (h : LkQ K H Q' Q) (t : Tx K H H1) : LkQ K H1 Q' Q := fun d M v H' t' r s q => h d M v H' (t.trans t') r s q
theorem LkB.mono (h : LkB K H QB' QB) (t : Tx K H H1) : LkB K H1 QB' QB := fun d M H' t' s q => h d M H' (t.trans t') s q
end

theorem pe_weak {X : Cx} {e : Expr} {t t' : TE} (h : PE X e t) (w : ∀ σ H Q, t' σ H Q → t σ H Q) : PE X e t' := ⟨fun pins s σ H Q I q => h.run pins s σ H Q I (w σ H Q q)⟩
theorem pt_weak {X : Cx} {e : Expr} {t t' : TT} (h : PT X e t) (w : ∀ σ H Q, t' σ H Q → t σ H Q) : PT X e t' := ⟨fun pins s σ H Q I q => h.run pins s σ H Q I (w σ H Q q)⟩
theorem pw_weak {X : Cx} {e : Expr} {t t' : TT} (h : PW X e t) (w : ∀ σ H Q, t' σ H Q → t σ H Q) : PW X e t' := ⟨fun wh pins s σ H Q I q => h.run wh pins s σ H Q I (w σ H Q q)⟩
theorem pa_weak {X : Cx} {es : List Expr} {t t' : TA} (h : PA X es t) (w : ∀ σ H Q, t' σ H Q → t σ H Q) : PA X es t' := ⟨fun pos pins s σ H Q I q => h.run pos pins s σ H Q I (w σ H Q q)⟩

abbrev QE (X : Cx) (W : L2.WX) (e : Expr) (t : TE2) : Prop := PE X e (lfE X.K W t)
abbrev QT (X : Cx) (W : L2.WX) (e : Expr) (t : TT2) : Prop := PT X e (lfT X.K W t)
abbrev QW (X : Cx) (W : L2.WX) (e : Expr) (t : TT2) : Prop := PW X e (lfT X.K W t)
abbrev QA (X : Cx) (W : L2.WX) (es : List Expr) (t : TA2) : Prop := PA X es (lfA X.K W t)

/-! ### names, constants -/
def eVar (i : Nat) : TE2 := fun σ M Q _ => ∃ d, σ[i]? = some (some d) ∧ Q d M
def eC (d : Tr) : TE2 := fun _ M Q _ => Q d M
section
variable {X : Cx} {W : L2.WX} {pos : Pos}
theorem qv (i : Nat) {x : Str} (hN : X.N[i]? = some x := by rfl) (hv : Vis X.env.scope x := by first | exact Or.inl rfl | exact Or.inr (Or.inl rfl) | exact Or.inr (Or.inr rfl)) (hd : (x == ("__debug__" : Str)) = false := by decide)
    (hcd : (x == ("__classdict__" : Str)) = false := by decide) : QE X W (.Name x pos) (eVar i) :=
  pe_weak (pe_var hN hv hd hcd) fun σ H Q ⟨σ', M, Q', E', hs, hm, ⟨d, e, q⟩, hq, _⟩ => by
    obtain ⟨v, a, b⟩ := hs.at_ i d e
    exact ⟨v, a, hq d M v H Tx.refl b hm q⟩
theorem qc {e : Expr} {v : V} {d : Tr} (h : PE X e (tC v)) (r : ∀ H, Rep X.K H d v) : QE X W e (eC d) :=
  pe_weak h fun σ H Q ⟨σ', M, Q', E', hs, hm, q, hq, _⟩ => hq d M v H Tx.refl (r H) hm q
theorem qe_int {i j pos} : QE X W (.Constant (.int i) j pos) (eC (.int i)) := qc pe_int fun _ => rfl
theorem qe_bl {b j pos} : QE X W (.Constant (.bool b) j pos) (eC (.bl b)) := qc pe_bl fun _ => rfl
theorem qe_non {j pos} : QE X W (.Constant .none j pos) (eC .non) := qc pe_non fun _ => rfl
theorem qe_str {x j pos} : QE X W (.Constant (.str x) j pos) (eC (.str x)) := qc pe_str fun _ => rfl
/-- a constant of the module -/
theorem qe_glob {x : Str} {u : Value} (v : V) (d : Tr) (hm : X.mg x = some u) (r : RelV v u) (rd : ∀ H, Rep X.K H d v) (hg : Gl X x := by rfl) (hd : (x == ("__debug__" : Str)) = false := by decide) : QE X W (.Name x pos) (eC d) :=
  qc (pe_glob hg hm r hd) rd
theorem qe_bltn {x : Str} {u : Value} (v : V) (d : Tr) (hm : X.mg x = none) (hv : bootBuiltins x = some u) (r : RelV v u) (rd : ∀ H, Rep X.K H d v) (hg : Gl X x := by rfl) (hn : x ≠ "__name__" := by decide) (hd : (x == ("__debug__" : Str)) = false := by decide) :
    QE X W (.Name x pos) (eC d) := qc (pe_bltn hg hm hv r hn hd) rd

/-! ### operators -/
abbrev R22 := Tr → Tr → Ms → Q2 → Prop
def lfR (K : PySem.W.Frag) (r : R22) : R2 := fun x y H Q => ∃ d e M Q', Rep K H d x ∧ Rep K H e y ∧ SimM K H M ∧ r d e M Q' ∧ LkQ K H Q' Q
def eOp (r : R22) (ta tb : TE2) : TE2 := fun σ M Q E => ta σ M (fun d M1 => tb σ M1 (fun e M2 => r d e M2 Q) E) E
variable {a b c e : Expr} {es : List Expr} {ta tb tc : TE2} {t : TA2}
theorem op_low {K : PySem.W.Frag} {r : R22} {σ : L2.St} {H : Hp} {Q : VK} (h : lfE K W (eOp r ta tb) σ H Q) : tOp (lfR K r) (lfE K W ta) (lfE K W tb) σ H Q := by
  obtain ⟨σ', M, Q', E', hs, hm, q, hq, hx⟩ := h
  exact ⟨σ', M, _, E', hs, hm, q, fun d M1 x H1 t1 r1 s1 q1 => ⟨σ', M1, _, E', hs.mono t1, s1, q1, fun e M2 y H2 t2 r2 s2 q2 =>
    ⟨d, e, M2, Q', r1.mono t2, r2, s2, q2, hq.mono (t1.trans t2)⟩, hx.mono t1⟩, hx⟩
theorem qe_op {op : Operator} {r : R22} (ho : OpR X (binaryOp op) (lfR X.K r)) (ha : QE X W a ta) (hb : QE X W b tb) : QE X W (.BinOp a op b pos) (eOp r ta tb) :=
  pe_weak (pe_op ho ha hb) fun _ _ _ h => op_low h
theorem qe_cmp {op : CmpOp} {r : R22} (ho : OpR X (compareOp op) (lfR X.K r)) (ha : QE X W a ta) (hb : QE X W b tb) (hm : behindInMarks op b = false := by first | exact nomark _ | rfl) : QE X W (.Compare a [op] [b] pos) (eOp r ta tb) :=
  pe_weak (pe_cmpR ho ha hb hm) fun _ _ _ h => op_low h
/-- a test that a comparison is -/
def tCm (t : TE2) : TT2 := fun σ M Q E => t σ M (fun d M1 => ∃ b, d = .bl b ∧ Q b M1) E
theorem cm_link {K : PySem.W.Frag} {H : Hp} {Q' : Bool → Ms → Prop} {Q : Bool → Hp → Prop} (h : LkB K H Q' Q) : LkQ K H (fun d M1 => ∃ b, d = .bl b ∧ Q' b M1) (fun x H1 => ∃ k, x = .bl k ∧ Q k H1) :=
  fun d M v H' t r s ⟨b, e, q⟩ => by
    subst e
    exact ⟨b, r, h b M H' t s q⟩
theorem qt_cmp {op : CmpOp} {r : R22} (ho : OpR X (compareOp op) (lfR X.K r)) (ha : QE X W a ta) (hb : QE X W b tb) (hm : behindInMarks op b = false := by first | exact nomark _ | rfl) : QT X W (.Compare a [op] [b] pos) (tCm (eOp r ta tb)) :=
  pt_weak (pt_cmpR ho ha hb hm) fun σ H Q ⟨σ', M, Q', E', hs, hm, q, hq, hx⟩ => op_low ⟨σ', M, _, E', hs, hm, q, cm_link hq, hx⟩
/-- a < b < c -/
def eChain (r r' : R22) (ta tb tc : TE2) : TE2 := fun σ M Q E => ta σ M (fun d M1 => tb σ M1 (fun e M2 => r d e M2 fun z M3 => ∃ k, z = .bl k ∧ (if k = true then tc σ M3 (fun f M4 => r' e f M4 Q) E else Q (.bl false) M3)) E) E
theorem chain_low {K : PySem.W.Frag} {r r' : R22} {σ : L2.St} {H : Hp} {Q : VK} (h : lfE K W (eChain r r' ta tb tc) σ H Q) : tChain (lfR K r) (lfR K r') (lfE K W ta) (lfE K W tb) (lfE K W tc) σ H Q := by
  obtain ⟨σ', M, Q', E', hs, hm, q, hq, hx⟩ := h
  refine ⟨σ', M, _, E', hs, hm, q, fun d M1 x H1 t1 r1 s1 q1 => ⟨σ', M1, _, E', hs.mono t1, s1, q1, fun e M2 y H2 t2 r2 s2 q2 =>
    ⟨d, e, M2, _, r1.mono t2, r2, s2, q2, fun z M3 v H3 t3 r3 s3 ⟨k, ek, q3⟩ => ?_⟩, hx.mono t1⟩, hx⟩
  subst ek
  refine ⟨k, r3, ?_⟩
  cases k with
  | true =>
    have q3' : tc σ' M3 (fun f M4 => r' e f M4 Q') E' := q3
    exact ⟨σ', M3, _, E', hs.mono ((t1.trans t2).trans t3), s3, q3', fun f M4 z H4 t4 r4 s4 q4 => ⟨e, f, M4, Q', (r2.mono t3).mono t4, r4, s4, q4, hq.mono (((t1.trans t2).trans t3).trans t4)⟩, hx.mono ((t1.trans t2).trans t3)⟩
  | false => exact hq (.bl false) M3 (.bl false) H3 ((t1.trans t2).trans t3) rfl s3 q3
theorem qe_chain {op op' : CmpOp} {r r' : R22} (ho : OpR X (compareOp op) (lfR X.K r)) (ho' : OpR X (compareOp op') (lfR X.K r')) (ha : QE X W a ta) (hb : QE X W b tb) (hc : QE X W c tc)
    (h1 : PE X (.Compare a [op, op'] [b, c] pos) (tChain (lfR X.K r) (lfR X.K r') (lfE X.K W ta) (lfE X.K W tb) (lfE X.K W tc)) := by exact pe_chain (by assumption) (by assumption) (by assumption) (by assumption) (by assumption)) :
    QE X W (.Compare a [op, op'] [b, c] pos) (eChain r r' ta tb tc) := pe_weak h1 fun _ _ _ h => chain_low h
theorem qt_chain {op op' : CmpOp} {r r' : R22} (ho : OpR X (compareOp op) (lfR X.K r)) (ho' : OpR X (compareOp op') (lfR X.K r')) (ha : QE X W a ta) (hb : QE X W b tb) (hc : QE X W c tc)
    (h1 : PT X (.Compare a [op, op'] [b, c] pos) (tTest (tChain (lfR X.K r) (lfR X.K r') (lfE X.K W ta) (lfE X.K W tb) (lfE X.K W tc))) := by exact pt_chain (by assumption) (by assumption) (by assumption) (by assumption) (by assumption)) :
    QT X W (.Compare a [op, op'] [b, c] pos) (tCm (eChain r r' ta tb tc)) :=
  pt_weak h1 fun σ H Q ⟨σ', M, Q', E', hs, hm, q, hq, hx⟩ => chain_low ⟨σ', M, _, E', hs, hm, q, cm_link hq, hx⟩
def lfU (K : PySem.W.Frag) (r : Tr → Ms → Q2 → Prop) : V → Hp → VK → Prop := fun x H Q => ∃ d M Q', Rep K H d x ∧ SimM K H M ∧ r d M Q' ∧ LkQ K H Q' Q
def eUn (r : Tr → Ms → Q2 → Prop) (ta : TE2) : TE2 := fun σ M Q E => ta σ M (fun d M1 => r d M1 Q) E
theorem qe_un {op : UnaryOp} {r : Tr → Ms → Q2 → Prop} (ho : UnR X (unaryOp op) (lfU X.K r)) (ha : QE X W a ta) : QE X W (.UnaryOp op a pos) (eUn r ta) :=
  pe_weak (pe_un ho ha) fun σ H Q ⟨σ', M, Q', E', hs, hm, q, hq, hx⟩ => ⟨σ', M, _, E', hs, hm, q, fun d M1 x H1 t1 r1 s1 q1 => ⟨d, M1, Q', r1, s1, q1, hq.mono t1⟩, hx⟩

/-! ### truth, and, or, not, if .. else -/
def truT : Tr → Ms → Option Bool
  | .non, _ => some false
  | .bl b, _ => some b
  | .int i, _ => some (i != 0)
  | .str x, _ => if x.length ≤ sizeLine then some ((x.length : Int) != 0) else none
  | .tup ds, _ => some (!ds.isEmpty)
  | .fro ds, _ => some (!ds.isEmpty)
  | .loc a, M => match M a with
    | some (.lst ds) => some (!ds.isEmpty)
    | some (.dic kvs) => some (!kvs.isEmpty)
    | _ => none
  | .ty _, _ => none
theorem RepL.emp {K : PySem.W.Frag} {H : Hp} {ds : List Tr} {xs : List V} (h : RepL K H ds xs) : (!ds.isEmpty) = !xs.isEmpty := by
  have := h.len
  cases ds <;> cases xs <;> simp at this ⊢
theorem truT_ok {K : PySem.W.Frag} {H : Hp} {M : Ms} {d : Tr} {x : V} {k : Bool} (h : truT d M = some k) (r : Rep K H d x) (s : SimM K H M) : TruV K x H k := by
  cases d with
  | non => cases r; cases h; exact rfl
  | bl b => cases r; cases h; exact rfl
  | int i => cases r; cases h; exact rfl
  | str z =>
    cases r
    have h' : (if z.length ≤ sizeLine then some ((z.length : Int) != 0) else none) = some k := h
    split at h'
    · cases h'; exact ⟨by assumption, rfl⟩
    · cases h'
  | tup ds =>
    obtain ⟨a, xs, rfl, q, rl⟩ := r
    cases h
    exact .inr (.inl ⟨xs, q, rl.emp⟩)
  | fro ds =>
    obtain ⟨a, xs, rfl, q, rl⟩ := r
    cases h
    exact .inl ⟨xs, q.sq, rl.emp⟩
  | loc a =>
    cases r
    have h' : (match M a with | some (.lst ds) => some (!ds.isEmpty) | some (.dic kvs) => some (!kvs.isEmpty) | _ => none) = some k := h
    split at h'
    · rename_i ds e
      cases h'
      obtain ⟨xs, q, rl⟩ := s a _ e
      exact .inl ⟨xs, SqL.of q, rl.emp⟩
    · rename_i kvs e
      cases h'
      obtain ⟨xs, q, _, rl⟩ := s a _ e
      refine .inr (.inr ⟨xs, q, ?_⟩)
      have := rl.emp
      simpa [List.isEmpty_map] using this
    · cases h'
  | ty n => cases h
def tTr (t : TE2) : TT2 := fun σ M Q E => t σ M (fun d M1 => ∃ k, truT d M1 = some k ∧ Q k M1) E
theorem qt_tru (ha : QE X W a ta) (he : ∀ whole, isTrue a X.env whole = (do let v ← whole; standAt a.pos; holding [v] (truthy v)) := by intro _; rfl) : QT X W a (tTr ta) :=
  pt_weak (pt_truth ha he) fun σ H Q ⟨σ', M, Q', E', hs, hm, q, hq, hx⟩ => ⟨σ', M, _, E', hs, hm, q, fun d M1 x H1 t1 r1 s1 ⟨k, e, q1⟩ => ⟨k, truT_ok e r1 s1, hq k M1 H1 t1 s1 q1⟩, hx⟩
def tAn (t u : TT2) : TT2 := fun σ M Q E => t σ M (fun c M1 => if c = true then u σ M1 Q E else Q false M1) E
def tOrr (t u : TT2) : TT2 := fun σ M Q E => t σ M (fun c M1 => if c = true then Q true M1 else u σ M1 Q E) E
def tNo (t : TT2) : TT2 := fun σ M Q E => t σ M (fun c M1 => Q (!c) M1) E
variable {tA tB : TT2} {rest : List Expr}
theorem qw_and1 (ha : QT X W a tA) : QW X W (.BoolOp .And [a] pos) tA := pw_and1 ha
theorem qw_or1 (ha : QT X W a tA) : QW X W (.BoolOp .Or [a] pos) tA := pw_or1 ha
theorem qw_and (ha : QT X W a tA) (hb : QW X W (.BoolOp .And (b :: rest) pos) tB) : QW X W (.BoolOp .And (a :: b :: rest) pos) (tAn tA tB) :=
  pw_weak (pw_and ha hb) fun σ H Q ⟨σ', M, Q', E', hs, hm, q, hq, hx⟩ => ⟨σ', M, _, E', hs, hm, q, fun c M1 H1 t1 s1 q1 => by
    cases c with
    | true => exact ⟨σ', M1, Q', E', hs.mono t1, s1, q1, hq.mono t1, hx.mono t1⟩
    | false => exact hq false M1 H1 t1 s1 q1, hx⟩
theorem qw_or (ha : QT X W a tA) (hb : QW X W (.BoolOp .Or (b :: rest) pos) tB) : QW X W (.BoolOp .Or (a :: b :: rest) pos) (tOrr tA tB) :=
  pw_weak (pw_or ha hb) fun σ H Q ⟨σ', M, Q', E', hs, hm, q, hq, hx⟩ => ⟨σ', M, _, E', hs, hm, q, fun c M1 H1 t1 s1 q1 => by
    cases c with
    | true => exact hq true M1 H1 t1 s1 q1
    | false => exact ⟨σ', M1, Q', E', hs.mono t1, s1, q1, hq.mono t1, hx.mono t1⟩, hx⟩
theorem qt_not (ha : QT X W a tA) : QT X W (.UnaryOp .Not a pos) (tNo tA) :=
  pt_weak (pt_not ha) fun σ H Q ⟨σ', M, Q', E', hs, hm, q, hq, hx⟩ => ⟨σ', M, _, E', hs, hm, q, fun c M1 H1 t1 s1 q1 => hq _ M1 H1 t1 s1 q1, hx⟩
theorem QW.pt (h : QW X W a tA) : QT X W a tA := PW.pt h
/-- as values -/
def eAn (ta tb : TE2) : TE2 := fun σ M Q E => ta σ M (fun d M1 => ∃ k, truT d M1 = some k ∧ if k = true then tb σ M1 Q E else Q d M1) E
def eOrr (ta tb : TE2) : TE2 := fun σ M Q E => ta σ M (fun d M1 => ∃ k, truT d M1 = some k ∧ if k = true then Q d M1 else tb σ M1 Q E) E
def eNo (ta : TE2) : TE2 := fun σ M Q E => ta σ M (fun d M1 => ∃ k, truT d M1 = some k ∧ Q (.bl (!k)) M1) E
theorem qe_one {op} (h : QE X W a ta) : QE X W (.BoolOp op [a] pos) ta := pe_one h
theorem qe_and (ha : QE X W a ta) (hb : QE X W (.BoolOp .And (b :: rest) pos) tb) : QE X W (.BoolOp .And (a :: b :: rest) pos) (eAn ta tb) :=
  pe_weak (pe_andT ha hb) fun σ H Q ⟨σ', M, Q', E', hs, hm, q, hq, hx⟩ => ⟨σ', M, _, E', hs, hm, q, fun d M1 x H1 t1 r1 s1 ⟨k, e, q1⟩ => ⟨k, truT_ok e r1 s1, by
    cases k with
    | true => exact ⟨σ', M1, Q', E', hs.mono t1, s1, q1, hq.mono t1, hx.mono t1⟩
    | false => exact hq d M1 x H1 t1 r1 s1 q1⟩, hx⟩
theorem qe_or (ha : QE X W a ta) (hb : QE X W (.BoolOp .Or (b :: rest) pos) tb) : QE X W (.BoolOp .Or (a :: b :: rest) pos) (eOrr ta tb) :=
  pe_weak (pe_orT ha hb) fun σ H Q ⟨σ', M, Q', E', hs, hm, q, hq, hx⟩ => ⟨σ', M, _, E', hs, hm, q, fun d M1 x H1 t1 r1 s1 ⟨k, e, q1⟩ => ⟨k, truT_ok e r1 s1, by
    cases k with
    | true => exact hq d M1 x H1 t1 r1 s1 q1
    | false => exact ⟨σ', M1, Q', E', hs.mono t1, s1, q1, hq.mono t1, hx.mono t1⟩⟩, hx⟩
theorem qe_not (ha : QE X W a ta) : QE X W (.UnaryOp .Not a pos) (eNo ta) :=
  pe_weak (pe_notT ha) fun σ H Q ⟨σ', M, Q', E', hs, hm, q, hq, hx⟩ => ⟨σ', M, _, E', hs, hm, q, fun d M1 x H1 t1 r1 s1 ⟨k, e, q1⟩ => ⟨k, truT_ok e r1 s1, hq (.bl _) M1 _ H1 t1 rfl s1 q1⟩, hx⟩
def eIf (t : TT2) (ta tb : TE2) : TE2 := fun σ M Q E => t σ M (fun c M1 => if c = true then ta σ M1 Q E else tb σ M1 Q E) E
theorem qe_if (hc : QT X W c tA) (ha : QE X W a ta) (hb : QE X W b tb) : QE X W (.IfExp c a b pos) (eIf tA ta tb) :=
  pe_weak (pe_ifExp hc ha hb) fun σ H Q ⟨σ', M, Q', E', hs, hm, q, hq, hx⟩ => ⟨σ', M, _, E', hs, hm, q, fun c M1 H1 t1 s1 q1 => by
    cases c with
    | true => exact ⟨σ', M1, Q', E', hs.mono t1, s1, q1, hq.mono t1, hx.mono t1⟩
    | false => exact ⟨σ', M1, Q', E', hs.mono t1, s1, q1, hq.mono t1, hx.mono t1⟩, hx⟩

/-! ### argument lists, displays -/
def aNil : TA2 := fun _ M Q _ => Q [] M
def aCons (ta : TE2) (tr : TA2) : TA2 := fun σ M Q E => ta σ M (fun d M1 => tr σ M1 (fun ds M2 => Q (d :: ds) M2) E) E
theorem qa_nil : QA X W [] aNil := pa_weak pa_nil fun σ H Q ⟨σ', M, Q', E', hs, hm, q, hq, hx⟩ => hq [] M [] H Tx.refl RepL.nil hm q
theorem qa_cons (ha : QE X W e ta) (hr : QA X W es t) (hs : starEach (e :: es) X.env = (false, eval e X.env) :: starEach es X.env := by rfl) : QA X W (e :: es) (aCons ta t) :=
  pa_weak (pa_cons ha hr hs) fun σ H Q ⟨σ', M, Q', E', hs, hm, q, hq, hx⟩ => ⟨σ', M, _, E', hs, hm, q, fun d M1 x H1 t1 r1 s1 q1 => ⟨σ', M1, _, E', hs.mono t1, s1, q1, fun ds M2 xs H2 t2 r2 s2 q2 =>
    hq (d :: ds) M2 (x :: xs) H2 (t1.trans t2) (.cons (r1.mono t2) r2) s2 q2, hx.mono t1⟩, hx⟩
def eTup (t : TA2) : TE2 := fun σ M Q E => t σ M (fun ds M1 => ds.length ≤ sizeLine ∧ Q (.tup ds) M1) E
def eLst (t : TA2) : TE2 := fun σ M Q E => t σ M (fun ds M1 => ds.length ≤ sizeLine ∧ ∀ p, M1 p = none → Q (.loc p) (up M1 p (.lst ds))) E
/-- a new tuple -/
theorem new_tup {K : PySem.W.Frag} {H : Hp} {M : Ms} {Q' : Q2} {Q : VK} {ds : List Tr} {xs : List V} {p : Addr} (hq : LkQ K H Q' Q) (r : RepL K H ds xs) (s : SimM K H M) (hp : H p = none) (q : Q' (.tup ds) M) : Q (.ref p) (upd H p (.tup xs)) :=
  hq (.tup ds) M (.ref p) _ (Tx.new hp) ⟨p, xs, rfl, SqT.of upd_same, r.mono (Tx.new hp)⟩ (s.hid hp) q
theorem new_lst {K : PySem.W.Frag} {H : Hp} {M : Ms} {Q' : Q2} {Q : VK} {ds : List Tr} {xs : List V} {p : Addr} (hq : LkQ K H Q' Q) (r : RepL K H ds xs) (s : SimM K H M) (hp : H p = none) (q : ∀ p, M p = none → Q' (.loc p) (up M p (.lst ds))) : Q (.ref p) (upd H p (.lst xs)) :=
  hq (.loc p) _ (.ref p) _ (Tx.new hp) rfl (s.newL hp r) (q p (s.free hp))
theorem qe_tup {x1} (h : QA X W es t) : QE X W (.Tuple es x1 pos) (eTup t) :=
  pe_weak (pe_tup h) fun σ H Q ⟨σ', M, Q', E', hs, hm, q, hq, hx⟩ => ⟨σ', M, _, E', hs, hm, q, fun ds M1 xs H1 t1 r1 s1 ⟨z, q1⟩ => ⟨by rw [← r1.len]; exact z, fun p hp => new_tup (hq.mono t1) r1 s1 hp q1⟩, hx⟩
theorem qe_lst (h : QA X W es t) : QE X W (.List es pos) (eLst t) :=
  pe_weak (pe_lst h) fun σ H Q ⟨σ', M, Q', E', hs, hm, q, hq, hx⟩ => ⟨σ', M, _, E', hs, hm, q, fun ds M1 xs H1 t1 r1 s1 ⟨z, q1⟩ => ⟨by rw [← r1.len]; exact z, fun p hp => new_lst (hq.mono t1) r1 s1 hp q1⟩, hx⟩

/-! ### subscripts, slices -/
def seqT : Tr → Ms → Option (List Tr)
  | .tup ds, _ => some ds
  | .fro ds, _ => some ds
  | .loc a, M => match M a with
    | some (.lst ds) => some ds
    | _ => none
  | _, _ => none
theorem seqT_loc {M : Ms} {a : Addr} {ds : List Tr} (h : seqT (.loc a) M = some ds) : M a = some (.lst ds) := by
  have h' : (match M a with | some (.lst ds) => some ds | _ => none) = some ds := h
  split at h'
  · rename_i es e
    cases h'
    exact e
  · cases h'
theorem seqT_ok {K : PySem.W.Frag} {H : Hp} {M : Ms} {d : Tr} {x : V} {ds : List Tr} (h : seqT d M = some ds) (r : Rep K H d x) (s : SimM K H M) : ∃ a xs, x = .ref a ∧ (SqL K H a xs ∨ SqT K H a xs) ∧ RepL K H ds xs := by
  cases d with
  | tup es =>
    obtain ⟨a, xs, rfl, q, rl⟩ := r
    cases h
    exact ⟨a, xs, rfl, .inr q, rl⟩
  | fro es =>
    obtain ⟨a, xs, rfl, q, rl⟩ := r
    cases h
    exact ⟨a, xs, rfl, .inl q.sq, rl⟩
  | loc a =>
    cases r
    obtain ⟨xs, q, rl⟩ := s a _ (seqT_loc h)
    exact ⟨a, xs, rfl, .inl (SqL.of q), rl⟩
  | _ => cases h
theorem atI_rep {K : PySem.W.Frag} {H : Hp} {ds : List Tr} {xs : List V} {i : Int} {d : Tr} (r : RepL K H ds xs) (h : atI ds i = some d) : ∃ x, atI xs i = some x ∧ Rep K H d x := by
  unfold atI at h ⊢
  rw [← r.len]
  cases q : ixN ds.length i with
  | none => rw [q] at h; cases h
  | some j =>
    rw [q] at h
    exact r.get h
/-- x[i] -/
def rIx2 : R22 := fun d e M Q => match d, e with
  | .str z, .int i => z.length ≤ sizeLine ∧ ∃ c, atI z.cps.toList i = some c ∧ Q (.str ⟨#[c]⟩) M
  | d, .int i => ∃ ds f, seqT d M = some ds ∧ atI ds i = some f ∧ Q f M
  | _, _ => False
theorem ix2 : IxR X (lfR X.K rIx2) := by
  intro value slice pins s σ H x y v u Q I rx ry h hsub
  obtain ⟨d, e, M, Q', rd, re, sm, h, hq⟩ := h
  cases e with
  | int i =>
    cases re
    have go : (∃ ds f, seqT d M = some ds ∧ atI ds i = some f ∧ Q' f M) → rIx X.K x (.int i) H Q := fun ⟨ds, f, e1, e2, q⟩ => by
      obtain ⟨a, xs, rfl, sq, rl⟩ := seqT_ok e1 rd sm
      obtain ⟨z, e3, rz⟩ := atI_rep rl e2
      rcases sq with sq | sq
      · exact .inl ⟨a, xs, i, z, rfl, rfl, sq, e3, hq f M z H Tx.refl rz sm q⟩
      · exact .inr (.inl ⟨a, xs, i, z, rfl, rfl, sq, e3, hq f M z H Tx.refl rz sm q⟩)
    refine ix_seq value slice pins s σ H x _ v u Q I rx ry ?_ hsub
    cases d with
    | str z =>
      cases rd
      obtain ⟨hz, c, e1, q⟩ := h
      exact .inr (.inr ⟨z, i, c, rfl, rfl, hz, e1, hq (.str _) M _ H Tx.refl rfl sm q⟩)
    | _ => exact go h
  | _ => cases d <;> exact h.elim
theorem qe_ix (ha : QE X W a ta) (hb : QE X W b tb) (hs : PlainIx b := by exact fun _ _ => rfl) : QE X W (.Subscript a b pos) (eOp rIx2 ta tb) :=
  pe_weak (pe_ix ix2 ha hb hs) fun _ _ _ h => op_low h
/-! slices -/
abbrev TO2 := St2 → Ms → (Option Int → Ms → Prop) → X2 → Prop
def LkO (K : PySem.W.Frag) (H : Hp) (Q' : Option Int → Ms → Prop) (Q : Option Int → Hp → Prop) : Prop := ∀ b M H', Tx K H H' → SimM K H' M → Q' b M → Q b H'
def lfO (K : PySem.W.Frag) (W : L2.WX) (t : TO2) : TO := fun σ H Q => ∃ σ' M Q' E', SimS K H σ' σ ∧ SimM K H M ∧ t σ' M Q' E' ∧ LkO K H Q' Q ∧ LkX K H E' W σ
abbrev QO (X : Cx) (W : L2.WX) (e : Option Expr) (t : TO2) : Prop := PO X e (lfO X.K W t)
def oNo : TO2 := fun _ M Q _ => Q none M
def oPart (t : TE2) : TO2 := fun σ M Q E => t σ M (fun d M1 => ∃ i, d = .int i ∧ Q (some i) M1) E
theorem po_weak {e : Option Expr} {t t' : TO} (h : PO X e t) (w : ∀ σ H Q, t' σ H Q → t σ H Q) : PO X e t' := ⟨fun s pins σ H Q I q => h.run s pins σ H Q I (w σ H Q q)⟩
theorem qo_none : QO X W none oNo := po_weak po_none fun σ H Q ⟨σ', M, Q', E', hs, hm, q, hq, hx⟩ => hq none M H Tx.refl hm q
theorem qo_some (h : QE X W e ta) : QO X W (some e) (oPart ta) := po_weak (po_some h) fun σ H Q ⟨σ', M, Q', E', hs, hm, q, hq, hx⟩ =>
  ⟨σ', M, _, E', hs, hm, q, fun d M1 x H1 t1 r1 s1 ⟨i, e, q1⟩ => by subst e; exact ⟨i, r1, hq (some i) M1 H1 t1 s1 q1⟩, hx⟩
def cutT (ds : List Tr) (lo hi : Option Int) : List Tr := (ds.drop (HT.sIx ds.length 0 lo)).take (HT.sIx ds.length ds.length hi - HT.sIx ds.length 0 lo)
def rSl2 : Tr → Option Int → Option Int → Ms → Q2 → Prop := fun d lo hi M Q => match d with
  | .tup ds => Q (.tup (cutT ds lo hi)) M
  | .str z => z.length ≤ sizeLine ∧ Q (.str (cutS z lo hi)) M
  | d => ∃ ds, seqT d M = some ds ∧ ∀ p, M p = none → Q (.loc p) (up M p (.lst (cutT ds lo hi)))
theorem cut_all {xs : List Tr} {lo hi : Option Int} (h : HT.sIx xs.length 0 lo = 0 ∧ HT.sIx xs.length xs.length hi = xs.length) : cutT xs lo hi = xs := by
  unfold cutT
  rw [h.1, h.2]
  simp
def lfSl (K : PySem.W.Frag) (r : Tr → Option Int → Option Int → Ms → Q2 → Prop) : V → Option Int → Option Int → Hp → VK → Prop := fun x lo hi H Q => ∃ d M Q', Rep K H d x ∧ SimM K H M ∧ r d lo hi M Q' ∧ LkQ K H Q' Q
theorem sl2 : SlR X (lfSl X.K rSl2) := by
  intro pins s σ H x v vl vu lo hi sl Q I rx hs pl pu h
  obtain ⟨d, M, Q', rd, sm, h, hq⟩ := h
  have golist : (∃ ds, seqT d M = some ds ∧ ∀ p, M p = none → Q' (.loc p) (up M p (.lst (cutT ds lo hi)))) → (∀ es, d ≠ .tup es) → ∃ a xs, x = .ref a ∧ SqL X.K H a xs ∧ ∀ p, H p = none → Q (.ref p) (upd H p (.lst (cutV xs lo hi))) := fun ⟨ds, e1, q⟩ nt => by
    have go2 : ∀ a xs, x = .ref a → SqL X.K H a xs → RepL X.K H ds xs → ∃ a xs, x = .ref a ∧ SqL X.K H a xs ∧ ∀ p, H p = none → Q (.ref p) (upd H p (.lst (cutV xs lo hi))) := fun a xs ex sq rl => ⟨a, xs, ex, sq, fun p hp => new_lst hq (rl.cut lo hi) sm hp q⟩
    cases d with
    | tup es => exact absurd rfl (nt es)
    | fro es =>
      obtain ⟨a, xs, ex, q, rl⟩ := rd
      cases e1
      exact go2 a xs ex q.sq rl
    | loc a =>
      cases rd
      obtain ⟨xs, q, rl⟩ := sm a _ (seqT_loc e1)
      exact go2 a xs rfl (SqL.of q) rl
    | _ => cases e1
  cases d with
  | tup ds =>
    obtain ⟨a, xs, rfl, q, rl⟩ := rd
    refine sl_tupA pins s σ H _ v vl vu lo hi sl Q I rx hs pl pu ⟨a, xs, rfl, q, fun c => ?_, fun _ p hp => new_tup hq (rl.cut lo hi) sm hp h⟩
    refine hq (.tup (cutT ds lo hi)) M (.ref a) H Tx.refl ⟨a, xs, rfl, q, ?_⟩ sm h
    rw [cut_all (by rw [rl.len]; exact c)]
    exact rl
  | str z =>
    cases rd
    exact sl_str pins s σ H _ v vl vu lo hi sl Q I rx hs pl pu ⟨z, rfl, h.1, hq (.str _) M _ H Tx.refl rfl sm h.2⟩
  | fro ds => exact sl_list pins s σ H _ v vl vu lo hi sl Q I rx hs pl pu (golist h fun _ e => nomatch e)
  | loc a => exact sl_list pins s σ H _ v vl vu lo hi sl Q I rx hs pl pu (golist h fun _ e => nomatch e)
  | _ => obtain ⟨_, e, _⟩ := h; cases e
def eSl (r : Tr → Option Int → Option Int → Ms → Q2 → Prop) (ta : TE2) (tl th : TO2) : TE2 := fun σ M Q E => ta σ M (fun d M1 => tl σ M1 (fun lo M2 => th σ M2 (fun hi M3 => r d lo hi M3 Q) E) E) E
theorem qe_slice {lo hi : Option Expr} {tl th : TO2} {p2 : Pos} (he : QE X W e ta) (hl : QO X W lo tl) (hu : QO X W hi th) : QE X W (.Subscript e (.Slice lo hi none p2) pos) (eSl rSl2 ta tl th) :=
  pe_weak (pe_slice sl2 he hl hu) fun σ H Q ⟨σ', M, Q', E', hs, hm, q, hq, hx⟩ => ⟨σ', M, _, E', hs, hm, q, fun d M1 x H1 t1 r1 s1 q1 => ⟨σ', M1, _, E', hs.mono t1, s1, q1, fun l M2 H2 t2 s2 q2 =>
    ⟨σ', M2, _, E', hs.mono (t1.trans t2), s2, q2, fun u M3 H3 t3 s3 q3 => ⟨d, M3, Q', (r1.mono t2).mono t3, s3, q3, hq.mono ((t1.trans t2).trans t3)⟩, hx.mono (t1.trans t2)⟩, hx.mono t1⟩, hx⟩

/-! ### built-ins by name, methods of built-in types -/
abbrev RC2 := List Tr → Ms → Q2 → Prop
def lfC (K : PySem.W.Frag) (r : RC2) : List V → Hp → VK → Prop := fun xs H Q => ∃ ds M Q', RepL K H ds xs ∧ SimM K H M ∧ r ds M Q' ∧ LkQ K H Q' Q
def eB (r : RC2) (t : TA2) : TE2 := fun σ M Q E => t σ M (fun ds M1 => r ds M1 Q) E
variable {x : Str} {p : Pos} {id Ty : String} {r : RC2}
theorem b_low {K : PySem.W.Frag} {σ : L2.St} {H : Hp} {Q : VK} (h : lfE K W (eB r t) σ H Q) : tCB (lfC K r) (lfA K W t) σ H Q := by
  obtain ⟨σ', M, Q', E', hs, hm, q, hq, hx⟩ := h
  exact ⟨σ', M, _, E', hs, hm, q, fun ds M1 xs H1 t1 r1 s1 q1 => ⟨ds, M1, Q', r1, s1, q1, hq.mono t1⟩, hx⟩
theorem qe_callB (hc : CallR X (.builtin id) (lfC X.K r)) (hm : X.mg x = none) (hv : bootBuiltins x = some (.builtin id)) (ha : QA X W (e :: es) t) (hg : Gl X x := by rfl) (hn : x ≠ "__name__" := by decide) (hdb : (x == ("__debug__" : Str)) = false := by decide)
    (he : starEach (e :: es) X.env = (false, eval e X.env) :: starEach es X.env := by rfl) (hpl : (backTo pos (starEach es X.env)).any (·.1) = false := by rfl) : QE X W (.Call (.Name x p) (e :: es) [] pos) (eB r t) :=
  pe_weak (pe_callB hc hg hm hv ha hn hdb he hpl) fun _ _ _ h => b_low h
theorem qe_callTy (hc : CallR X (.type Ty) (lfC X.K r)) (hm : X.mg x = none) (hv : bootBuiltins x = some (.type Ty)) (ha : QA X W (e :: es) t) (hg : Gl X x := by rfl) (hn : x ≠ "__name__" := by decide) (hdb : (x == ("__debug__" : Str)) = false := by decide)
    (he : starEach (e :: es) X.env = (false, eval e X.env) :: starEach es X.env := by rfl) (hpl : (backTo pos (starEach es X.env)).any (·.1) = false := by rfl) : QE X W (.Call (.Name x p) (e :: es) [] pos) (eB r t) :=
  pe_weak (pe_callTy hc hg hm hv ha hn hdb he hpl) fun _ _ _ h => b_low h
/-- the type of a value, by its name -/
def isT (Ty : String) (d : Tr) (M : Ms) : Prop := match d with
  | .str _ => Ty = "str"
  | .int _ => Ty = "int"
  | .fro _ => Ty = "list"
  | .loc a => (Ty = "list" ∧ ∃ ds, M a = some (.lst ds)) ∨ (Ty = "dict" ∧ ∃ kvs, M a = some (.dic kvs))
  | _ => False
theorem isT_ok {K : PySem.W.Frag} {H : Hp} {M : Ms} {d : Tr} {x : V} (h : isT Ty d M) (r : Rep K H d x) (s : SimM K H M) : tyV K Ty x H := by
  cases d with
  | str z => cases r; exact h
  | int z => cases r; exact h
  | fro ds =>
    obtain ⟨a, xs, rfl, q, rl⟩ := r
    exact .inl ⟨h, xs, q.sq⟩
  | loc a =>
    cases r
    rcases h with ⟨e, ds, h⟩ | ⟨e, ds, h⟩
    · obtain ⟨xs, q, _⟩ := s a _ h
      exact .inl ⟨e, xs, SqL.of q⟩
    · obtain ⟨xs, q, _⟩ := s a _ h
      exact .inr (.inr (.inl ⟨e, .inl ⟨xs, q⟩⟩))
  | _ => exact h.elim
abbrev RM2 := Tr → List Tr → Ms → Q2 → Prop
def lfM (K : PySem.W.Frag) (r : RM2) : V → List V → Hp → VK → Prop := fun x xs H Q => ∃ d ds M Q', Rep K H d x ∧ RepL K H ds xs ∧ SimM K H M ∧ r d ds M Q' ∧ LkQ K H Q' Q
def eM0 (Ty : String) (r : RM2) (to : TE2) : TE2 := fun σ M Q E => to σ M (fun d M1 => isT Ty d M1 ∧ r d [] M1 Q) E
def eM (Ty : String) (r : RM2) (to : TE2) (t : TA2) : TE2 := fun σ M Q E => to σ M (fun d M1 => isT Ty d M1 ∧ t σ M1 (fun ds M2 => r d ds M2 Q) E) E
variable {o : Expr} {to : TE2} {name : Str} {rm : RM2}
theorem m0_low {K : PySem.W.Frag} {σ : L2.St} {H : Hp} {Q : VK} (h : lfE K W (eM0 Ty rm to) σ H Q) : tBM0 K Ty (lfM K rm) (lfE K W to) σ H Q := by
  obtain ⟨σ', M, Q', E', hs, hm, q, hq, hx⟩ := h
  exact ⟨σ', M, _, E', hs, hm, q, fun d M1 x H1 t1 r1 s1 ⟨ty, q1⟩ => ⟨isT_ok ty r1 s1, d, [], M1, Q', r1, RepL.nil, s1, q1, hq.mono t1⟩, hx⟩
theorem m_low {K : PySem.W.Frag} {σ : L2.St} {H : Hp} {Q : VK} (h : lfE K W (eM Ty rm to t) σ H Q) : tBM K Ty (lfM K rm) (lfE K W to) (lfA K W t) σ H Q := by
  obtain ⟨σ', M, Q', E', hs, hm, q, hq, hx⟩ := h
  exact ⟨σ', M, _, E', hs, hm, q, fun d M1 x H1 t1 r1 s1 ⟨ty, q1⟩ => ⟨isT_ok ty r1 s1, σ', M1, _, E', hs.mono t1, s1, q1, fun ds M2 xs H2 t2 r2 s2 q2 =>
    ⟨d, ds, M2, Q', r1.mono t2, r2, s2, q2, hq.mono (t1.trans t2)⟩, hx.mono t1⟩, hx⟩
end
end T

/-! T, third part: operators, built-ins, methods over trees. -/
namespace T
open PySem PySem.Spec L2
section
variable {X : Cx}
/-- two ints in, an int or a truth out -/
def rII (C : Int → Int → Prop) (g : Int → Int → Int) : R22 := fun d e M Q => match d, e with
  | .int i, .int j => C i j ∧ Q (.int (g i j)) M
  | _, _ => False
theorem opII {f : Value → Value → Sem Value} {C : Int → Int → Prop} {g : Int → Int → Int} (h : OpR X f (rI C fun i j => .int (g i j))) : OpR X f (lfR X.K (rII C g)) := by
  intro pins s σ H x y v u Q I rx ry ⟨d, e, M, Q', rd, re, sm, q, hq⟩
  cases d with
  | int i =>
    cases e with
    | int j =>
      cases rd; cases re
      exact h pins s σ H _ _ v u Q I rx ry ⟨i, j, rfl, rfl, q.1, hq (.int _) M _ H Tx.refl rfl sm q.2⟩
    | _ => exact q.elim
  | _ => cases e <;> exact q.elim
theorem rI0_rI {f : Value → Value → Sem Value} {g : Int → Int → V} (h : OpR X f (rI0 g)) : OpR X f (rI (fun _ _ => True) g) := fun pins s σ H x y v u Q I rx ry ⟨i, j, a, b, _, q⟩ => h pins s σ H x y v u Q I rx ry ⟨i, j, a, b, q⟩
abbrev rSub2 : R22 := rII (fun _ _ => True) (fun i j => i - j)
theorem o_sub : OpR X (binaryOp .Sub) (lfR X.K rSub2) := opII (rI0_rI op_sub)
def CDv (i j : Int) : Prop := 0 < j ∧ j.natAbs.log2 < 9000
abbrev rDiv2 : R22 := rII CDv (fun i j => i / j)
theorem o_fdiv : OpR X (binaryOp .FloorDiv) (lfR X.K rDiv2) := opII op_fdivW
abbrev rMod2 : R22 := rII (fun _ j => 0 < j) (fun i j => i % j)
theorem o_mod : OpR X (binaryOp .Mod) (lfR X.K rMod2) := opII op_mod
abbrev rPow2 : R22 := rII CPow (fun i j => i ^ j.toNat)
theorem o_pow : OpR X (binaryOp .Pow) (lfR X.K rPow2) := opII op_pow
abbrev rShl2 : R22 := rII CShl (fun i j => i * 2 ^ j.toNat)
theorem o_shl : OpR X (binaryOp .LShift) (lfR X.K rShl2) := opII op_shlW
abbrev rShr2 : R22 := rII (fun _ j => 0 ≤ j) (fun i j => i / 2 ^ j.toNat)
theorem o_shr : OpR X (binaryOp .RShift) (lfR X.K rShr2) := opII op_shr
abbrev rAnd2 : R22 := rII (fun _ _ => True) Builtin.bitAnd
theorem o_and : OpR X (binaryOp .BitAnd) (lfR X.K rAnd2) := opII (rI0_rI op_and)
abbrev rOr2 : R22 := rII (fun _ _ => True) Builtin.bitOr
theorem o_or : OpR X (binaryOp .BitOr) (lfR X.K rOr2) := opII (rI0_rI op_or)
abbrev rXor2 : R22 := rII (fun _ _ => True) Builtin.bitXor
theorem o_xor : OpR X (binaryOp .BitXor) (lfR X.K rXor2) := opII (rI0_rI op_xor)
/-- x + y -/
def rAdd2 : R22 := fun d e M Q => match d, e with
  | .int i, .int j => Q (.int (i + j)) M
  | .str a, .str b => a.length + b.length ≤ sizeLine ∧ Q (.str (a ++ b)) M
  | .tup a, .tup b => a.length + b.length ≤ sizeLine ∧ Q (.tup (a ++ b)) M
  | .loc a, .loc b => ∃ la lb, M a = some (.lst la) ∧ M b = some (.lst lb) ∧ la.length + lb.length ≤ sizeLine ∧ ∀ p, M p = none → Q (.loc p) (up M p (.lst (la ++ lb)))
  | _, _ => False
theorem o_add : OpR X (binaryOp .Add) (lfR X.K rAdd2) := by
  intro pins s σ H x y v u Q I rx ry ⟨d, e, M, Q', rd, re, sm, q, hq⟩
  cases d with
  | int i =>
    cases e with
    | int j =>
      cases rd; cases re
      exact op_add pins s σ H _ _ v u Q I rx ry ⟨i, j, rfl, rfl, hq (.int _) M _ H Tx.refl rfl sm q⟩
    | _ => exact q.elim
  | str i =>
    cases e with
    | str j =>
      cases rd; cases re
      exact op_add_str pins s σ H _ _ v u Q I rx ry ⟨i, j, rfl, rfl, q.1, hq (.str _) M _ H Tx.refl rfl sm q.2⟩
    | _ => exact q.elim
  | tup i =>
    cases e with
    | tup j =>
      obtain ⟨a, xs, rfl, ha, ra⟩ := rd
      obtain ⟨b, ys, rfl, hb, rb⟩ := re
      obtain ⟨z, q⟩ := q
      refine op_catA pins s σ H _ _ v u Q I rx ry ⟨a, b, xs, ys, rfl, rfl, ha, hb, by rw [← ra.len, ← rb.len]; exact z, fun e0 => ?_, fun _ e0 => ?_, fun _ _ p hp => new_tup hq (ra.app rb) sm hp q⟩
      · subst e0
        have e1 : i = [] := List.eq_nil_of_length_eq_zero ra.len
        subst e1
        exact hq (.tup j) M _ H Tx.refl ⟨b, ys, rfl, hb, rb⟩ sm q
      · subst e0
        have e1 : j = [] := List.eq_nil_of_length_eq_zero rb.len
        subst e1
        rw [List.append_nil] at q
        exact hq (.tup i) M _ H Tx.refl ⟨a, xs, rfl, ha, ra⟩ sm q
    | _ => exact q.elim
  | loc a =>
    cases e with
    | loc b =>
      cases rd; cases re
      obtain ⟨la, lb, ea, eb, z, q⟩ := q
      obtain ⟨xs, ha, ra⟩ := sm a _ ea
      obtain ⟨ys, hb, rb⟩ := sm b _ eb
      exact op_cat pins s σ H _ _ v u Q I rx ry ⟨a, b, xs, ys, rfl, rfl, ha, hb, by rw [← ra.len, ← rb.len]; exact z, fun p hp => new_lst hq (ra.app rb) sm hp q⟩
    | _ => exact q.elim
  | _ => cases e <;> exact q.elim
/-- x * y -/
def rMul2 : R22 := fun d e M Q => match d, e with
  | .int i, .int j => CMulX i j ∧ Q (.int (i * j)) M
  | .loc a, .int k => ∃ la, M a = some (.lst la) ∧ -(2 ^ 63) ≤ k ∧ k < 2 ^ 63 ∧ la.length * k.toNat ≤ sizeLine ∧ ∀ p, M p = none → Q (.loc p) (up M p (.lst (List.replicate k.toNat la).flatten))
  | _, _ => False
theorem o_mul : OpR X (binaryOp .Mult) (lfR X.K rMul2) := by
  intro pins s σ H x y v u Q I rx ry ⟨d, e, M, Q', rd, re, sm, q, hq⟩
  cases d with
  | int i =>
    cases e with
    | int j =>
      cases rd; cases re
      exact op_mulX pins s σ H _ _ v u Q I rx ry ⟨i, j, rfl, rfl, q.1, hq (.int _) M _ H Tx.refl rfl sm q.2⟩
    | _ => exact q.elim
  | loc a =>
    cases e with
    | int k =>
      cases rd; cases re
      obtain ⟨la, ea, h1, h2, z, q⟩ := q
      obtain ⟨xs, ha, ra⟩ := sm a _ ea
      exact op_rep pins s σ H _ _ v u Q I rx ry ⟨a, k, xs, rfl, rfl, ha, h1, h2, by rw [← ra.len]; exact z, fun p hp => new_lst hq (ra.rep _) sm hp q⟩
    | _ => exact q.elim
  | _ => cases e <;> exact q.elim
/-! comparisons -/
def rCmp2 (p : Int → Int → Bool) (ps : Str → Str → Bool) : R22 := fun d e M Q => match d, e with
  | .int i, .int j => Q (.bl (p i j)) M
  | .str a, .str b => Q (.bl (ps a b)) M
  | _, _ => False
theorem o_cmp {op : CmpOp} {p : Int → Int → Bool} {ps : Str → Str → Bool} (h : OpR X (compareOp op) (rI0 fun i j => .bl (p i j))) (h' : OpR X (compareOp op) (fun x y H Q => ∃ i j, x = .str i ∧ y = .str j ∧ Q (.bl (ps i j)) H)) : OpR X (compareOp op) (lfR X.K (rCmp2 p ps)) := by
  intro pins s σ H x y v u Q I rx ry ⟨d, e, M, Q', rd, re, sm, q, hq⟩
  cases d with
  | int i =>
    cases e with
    | int j =>
      cases rd; cases re
      exact h pins s σ H _ _ v u Q I rx ry ⟨i, j, rfl, rfl, hq (.bl _) M _ H Tx.refl rfl sm q⟩
    | _ => exact q.elim
  | str i =>
    cases e with
    | str j =>
      cases rd; cases re
      exact h' pins s σ H _ _ v u Q I rx ry ⟨i, j, rfl, rfl, hq (.bl _) M _ H Tx.refl rfl sm q⟩
    | _ => exact q.elim
  | _ => cases e <;> exact q.elim
def strLt (a b : Str) : Bool := decide (a.cps.toList < b.cps.toList)
def strLe (a b : Str) : Bool := decide (a.cps.toList ≤ b.cps.toList)
abbrev rLt2 : R22 := rCmp2 (fun i j => decide (i < j)) strLt
theorem o_lt : OpR X (compareOp .Lt) (lfR X.K rLt2) := o_cmp op_lt op_lt_str
abbrev rLe2 : R22 := rCmp2 (fun i j => decide (i ≤ j)) (fun i j => decide (i.cps.toList ≤ j.cps.toList))
abbrev rGt2 : R22 := rCmp2 (fun i j => decide (j < i)) (fun i j => decide (j.cps.toList < i.cps.toList))
abbrev rGe2 : R22 := rCmp2 (fun i j => decide (j ≤ i)) (fun i j => decide (j.cps.toList ≤ i.cps.toList))
end
/-! data -/
mutual
def Dat (M : Ms) : PyData → Tr → Prop
  | .none, d => d = .non
  | .bool b, d => d = .bl b
  | .int i, d => d = .int i
  | .str x, d => d = .str x
  | .list ps, d => ∃ ds, seqT d M = some ds ∧ (∀ es, d ≠ .tup es) ∧ DatL M ps ds
  | .tuple ps, d => ∃ ds, d = .tup ds ∧ DatL M ps ds
  | .dict _, _ => False
def DatL (M : Ms) : List PyData → List Tr → Prop
  | [], ds => ds = []
  | p :: ps, ds => ∃ d r, ds = d :: r ∧ Dat M p d ∧ DatL M ps r
end
mutual
theorem Dat.dp {K : PySem.W.Frag} {H : Hp} {M : Ms} (sm : SimM K H M) : ∀ {p : PyData} {d : Tr} {v : V}, Dat M p d → Rep K H d v → Dp K H v p
  | .none, _, _, h, r => by have e : _ = Tr.non := h; subst e; cases r; exact .non
  | .bool b, _, _, h, r => by have e : _ = Tr.bl b := h; subst e; cases r; exact .bl b
  | .int b, _, _, h, r => by have e : _ = Tr.int b := h; subst e; cases r; exact .int b
  | .str b, _, _, h, r => by have e : _ = Tr.str b := h; subst e; cases r; exact .str b
  | .list ps, d, v, h, r => by
    obtain ⟨ds, e, nt, h⟩ := h
    cases d with
    | tup es => exact absurd rfl (nt es)
    | fro es =>
      obtain ⟨a, xs, rfl, q, rl⟩ := r
      cases e
      exact .lst q.sq (DatL.dp sm h rl)
    | loc a =>
      cases r
      obtain ⟨xs, q, rl⟩ := sm a _ (seqT_loc e)
      exact .lst (SqL.of q) (DatL.dp sm h rl)
    | _ => cases e
  | .tuple ps, _, _, h, r => by
    obtain ⟨ds, e, h⟩ := h
    subst e
    obtain ⟨a, xs, rfl, q, rl⟩ := r
    exact .tup q (DatL.dp sm h rl)
  | .dict _, _, _, h, _ => False.elim h
theorem DatL.dp {K : PySem.W.Frag} {H : Hp} {M : Ms} (sm : SimM K H M) : ∀ {ps : List PyData} {ds : List Tr} {vs : List V}, DatL M ps ds → RepL K H ds vs → DpAll K H vs ps
  | [], _, _, h, r => by
    have e : _ = ([] : List Tr) := h
    subst e
    have e2 : _ = ([] : List V) := r
    subst e2
    exact .nil
  | p :: ps, _, _, h, r => by
    obtain ⟨d, r', e, h1, h2⟩ := h
    subst e
    obtain ⟨x, xs, e, r1, r2⟩ := r
    subst e
    exact .cons (Dat.dp sm h1 r1) (DatL.dp sm h2 r2)
end
mutual
/-- the data that a tree without places is -/
def toP : Tr → PyData
  | .non => .none
  | .bl b => .bool b
  | .int i => .int i
  | .str x => .str x
  | .tup ds => .tuple (toPs ds)
  | .fro ds => .list (toPs ds)
  | .loc _ => .none
  | .ty _ => .none
def toPs : List Tr → List PyData
  | [] => []
  | d :: r => toP d :: toPs r
end
mutual
def pureT : Tr → Bool
  | .tup ds => pureL ds
  | .fro ds => pureL ds
  | .loc _ => false
  | .ty _ => false
  | _ => true
def pureL : List Tr → Bool
  | [] => true
  | d :: r => pureT d && pureL r
end
mutual
theorem dat_pure {M : Ms} : ∀ {d : Tr}, pureT d = true → Dat M (toP d) d
  | .non, _ => rfl
  | .bl _, _ => rfl
  | .int _, _ => rfl
  | .str _, _ => rfl
  | .tup ds, h => ⟨ds, rfl, datL_pure h⟩
  | .fro ds, h => ⟨ds, rfl, (fun _ e => nomatch e), datL_pure h⟩
  | .loc _, h => nomatch h
  | .ty _, h => nomatch h
theorem datL_pure {M : Ms} : ∀ {ds : List Tr}, pureL ds = true → DatL M (toPs ds) ds
  | [], _ => rfl
  | d :: r, h => by
    have h' : (pureT d && pureL r) = true := h
    rw [Bool.and_eq_true] at h'
    exact ⟨d, r, rfl, dat_pure h'.1, datL_pure h'.2⟩
end
section
variable {X : Cx}
/-- x == y -/
def rEqG (f : Bool → Bool) : R22 := fun d e M Q => match d, e with
  | .int i, .int j => Q (.bl (f (decide (i = j)))) M
  | .str i, .str j => Q (.bl (f (decide (i = j)))) M
  | .bl i, .bl j => Q (.bl (f (decide (i = j)))) M
  | .non, .non => Q (.bl (f true)) M
  | .non, .int _ => Q (.bl (f false)) M
  | .int _, .non => Q (.bl (f false)) M
  | .non, .str _ => Q (.bl (f false)) M
  | .str _, .non => Q (.bl (f false)) M
  | .int _, .str _ => Q (.bl (f false)) M
  | .str _, .int _ => Q (.bl (f false)) M
  | d, e => ∃ p q, Dat M p d ∧ Dat M q e ∧ SeqAt.shaped p = true ∧ SeqAt.shaped q = true ∧ Q (.bl (f (PyData.eqv p q))) M
theorem o_eqG {op : CmpOp} {f : Bool → Bool} (h1 : OpR X (compareOp op) (fun x y H Q => scal x y = true ∧ Q (.bl (f (decide (x = y)))) H))
    (h2 : OpR X (compareOp op) (fun x y H Q => ∃ d e, Dp X.K H x d ∧ Dp X.K H y e ∧ SeqAt.shaped d = true ∧ SeqAt.shaped e = true ∧ Q (.bl (f (PyData.eqv d e))) H)) : OpR X (compareOp op) (lfR X.K (rEqG f)) := by
  intro pins s σ H x y v u Q I rx ry ⟨d, e, M, Q', rd, re, sm, q, hq⟩
  have sc : ∀ {k : Bool}, Q' (.bl (f k)) M → scal x y = true → decide (x = y) = k → wpAny (model X.prog X.w) X.A (compareOp op v u) (EP X pins σ Q) X.xe s := fun {k} q0 h0 e0 =>
    h1 pins s σ H x y v u Q I rx ry ⟨h0, by rw [e0]; exact hq (.bl _) M _ H Tx.refl rfl sm q0⟩
  have gen : (∃ p q, Dat M p d ∧ Dat M q e ∧ SeqAt.shaped p = true ∧ SeqAt.shaped q = true ∧ Q' (.bl (f (PyData.eqv p q))) M) → wpAny (model X.prog X.w) X.A (compareOp op v u) (EP X pins σ Q) X.xe s := fun ⟨p, q', hp, hq', s1, s2, q0⟩ =>
    h2 pins s σ H x y v u Q I rx ry ⟨p, q', hp.dp sm rd, hq'.dp sm re, s1, s2, hq (.bl _) M _ H Tx.refl rfl sm q0⟩
  cases d <;> cases e <;> first
    | exact gen q
    | (cases rd; cases re; exact sc q rfl (by simp))
theorem o_eq (hu : X.A.units + 64 < cLine) : OpR X (compareOp .Eq) (lfR X.K (rEqG id)) := o_eqG op_eq (op_eqD hu)
theorem o_ne (hu : X.A.units + 64 < cLine) : OpR X (compareOp .NotEq) (lfR X.K (rEqG not)) := o_eqG op_ne (op_neD hu)
def isNon : Tr → Bool
  | .non => true
  | _ => false
theorem isNon_ok {K : PySem.W.Frag} {H : Hp} {d : Tr} {x : V} (r : Rep K H d x) : decide (x = .non) = isNon d := by
  cases d with
  | tup ds => obtain ⟨a, xs, rfl, _⟩ := r; rfl
  | fro ds => obtain ⟨a, xs, rfl, _⟩ := r; rfl
  | _ => cases r; rfl
/-- x is y, for None and truths -/
def rIsG (f : Bool → Bool) : R22 := fun d e M Q => match e with
  | .non => Q (.bl (f (isNon d))) M
  | .bl b => ∃ a, d = .bl a ∧ Q (.bl (f (decide (a = b)))) M
  | _ => False
theorem o_isG {op : CmpOp} {f : Bool → Bool} (h1 : OpR X (compareOp op) (fun x y H Q => y = .non ∧ Q (.bl (f (decide (x = .non)))) H)) (h2 : OpR X (compareOp op) (fun x y H Q => ∃ a b : Bool, x = .bl a ∧ y = .bl b ∧ Q (.bl (f (decide (a = b)))) H)) : OpR X (compareOp op) (lfR X.K (rIsG f)) := by
  intro pins s σ H x y v u Q I rx ry ⟨d, e, M, Q', rd, re, sm, q, hq⟩
  cases e with
  | non =>
    cases re
    exact h1 pins s σ H _ _ v u Q I rx ry ⟨rfl, by rw [isNon_ok rd]; exact hq (.bl _) M _ H Tx.refl rfl sm q⟩
  | bl b =>
    cases re
    obtain ⟨a, rfl, q⟩ := q
    cases rd
    exact h2 pins s σ H _ _ v u Q I rx ry ⟨a, b, rfl, rfl, hq (.bl _) M _ H Tx.refl rfl sm q⟩
  | _ => exact q.elim
theorem o_is : OpR X (compareOp .Is) (lfR X.K (rIsG id)) := o_isG op_isN op_isBl
theorem o_isnot : OpR X (compareOp .IsNot) (lfR X.K (rIsG not)) := o_isG op_notN op_notBl
/-- the key that a tree is -/
def keyT : Tr → Option Key
  | .int i => some (.inl i)
  | .str x => some (.inr x)
  | _ => none
theorem keyT_ok {K : PySem.W.Frag} {H : Hp} {d : Tr} {k : Key} {x : V} (h : keyT d = some k) (r : Rep K H d x) : x = kV k := by
  cases d with
  | int i => cases r; cases h; rfl
  | str i => cases r; cases h; rfl
  | _ => cases h
def flatT : Tr → Bool
  | .non => true
  | .bl _ => true
  | .int _ => true
  | .str _ => true
  | _ => false
def eqT : Tr → Tr → Bool
  | .non, .non => true
  | .bl a, .bl b => a == b
  | .bl a, .int b => (if a then 1 else 0) == b
  | .int a, .bl b => a == (if b then 1 else 0)
  | .int a, .int b => a == b
  | .str a, .str b => a == b
  | _, _ => false
def inT (d : Tr) (ds : List Tr) : Bool := ds.any fun e => eqT e d
theorem flatT_ok {K : PySem.W.Frag} {H : Hp} {d : Tr} {x : V} (h : flatT d = true) (r : Rep K H d x) : flatV x = true := by
  cases d <;> first | (cases r; rfl) | (simp [flatT] at h; done)
theorem flatL_ok {K : PySem.W.Frag} {H : Hp} : ∀ {ds : List Tr} {xs : List V}, ds.all flatT = true → RepL K H ds xs → xs.all flatV = true
  | [], _, _, r => by
    have e : _ = ([] : List V) := r
    subst e; rfl
  | d :: ds, _, h, r => by
    obtain ⟨x, xs, rfl, r1, r2⟩ := r
    rw [List.all_cons, Bool.and_eq_true] at h ⊢
    exact ⟨flatT_ok h.1 r1, flatL_ok h.2 r2⟩
theorem eqT_ok {K : PySem.W.Frag} {H : Hp} {d e : Tr} {x y : V} (h : flatT d = true) (h' : flatT e = true) (r : Rep K H d x) (r' : Rep K H e y) : eqV x y = eqT d e := by
  cases d <;> first | (cases e <;> first | (cases r; cases r'; rfl) | (simp [flatT] at h'; done)) | (simp [flatT] at h; done)
theorem inT_ok {K : PySem.W.Frag} {H : Hp} {d : Tr} {x : V} (h : flatT d = true) (r : Rep K H d x) : ∀ {ds : List Tr} {xs : List V}, ds.all flatT = true → RepL K H ds xs → inV x xs = inT d ds
  | [], _, _, q => by
    have e : _ = ([] : List V) := q
    subst e; rfl
  | e :: ds, _, hh, q => by
    obtain ⟨y, ys, rfl, r1, r2⟩ := q
    rw [List.all_cons, Bool.and_eq_true] at hh
    have ih := inT_ok h r hh.2 r2
    unfold inV inT at ih ⊢
    rw [List.any_cons, List.any_cons, eqT_ok hh.1 h r1 r, ih]
def valT (kvs : List (Key × Tr)) (k : Key) : Option Tr := (kvs.find? fun kv => decide (kv.1 = k)).map (·.2)
theorem valT_ok {K : PySem.W.Frag} {H : Hp} {k : Key} : ∀ {kvs : List (Key × Tr)} {xs : List (Key × V)}, xs.map (·.1) = kvs.map (·.1) → RepL K H (kvs.map (·.2)) (xs.map (·.2)) →
    (valT kvs k = none → valV xs k = none) ∧ ∀ d, valT kvs k = some d → ∃ v, valV xs k = some v ∧ Rep K H d v
  | [], [], _, _ => ⟨fun _ => rfl, fun _ e => nomatch e⟩
  | [], _ :: _, e, _ => by simp at e
  | _ :: _, [], e, _ => by simp at e
  | (k1, d1) :: kvs, (k2, v2) :: xs, e, r => by
    obtain ⟨x, y, e0, r1, r2⟩ := r
    cases e0
    simp only [List.map_cons, List.cons.injEq] at e
    obtain ⟨e1, e2⟩ := e
    have e1 : k2 = k1 := e1
    subst e1
    have ih := valT_ok (k := k) e2 r2
    by_cases c : k2 = k
    · have a1 : valT ((k2, d1) :: kvs) k = some d1 := by simp [valT, List.find?_cons, c]
      have a2 : valV ((k2, v2) :: xs) k = some v2 := valV_pos (p := (k2, v2)) c
      rw [a1, a2]
      exact ⟨(fun z => nomatch z), fun d z => ⟨v2, rfl, by cases z; exact r1⟩⟩
    · have a1 : valT ((k2, d1) :: kvs) k = valT kvs k := by simp [valT, List.find?_cons, c]
      have a2 : valV ((k2, v2) :: xs) k = valV xs k := valV_neg (p := (k2, v2)) c
      rw [a1, a2]
      exact ih
def strIn (a b : Str) : Bool := !(Builtin.Str.occurrences b a 0 b.length 1).isEmpty
/-- x in y -/
def rInG (f : Bool → Bool) : R22 := fun d e M Q => match d, e with
  | .str a, .str b => Q (.bl (f (strIn a b))) M
  | d, e => (∃ ds, seqT e M = some ds ∧ flatT d = true ∧ ds.all flatT = true ∧ Q (.bl (f (inT d ds))) M) ∨ ∃ a kvs k, e = .loc a ∧ M a = some (.dic kvs) ∧ keyT d = some k ∧ Q (.bl (f (valT kvs k).isSome)) M
theorem o_inG {op : CmpOp} {f : Bool → Bool} (h1 : OpR X (compareOp op) (fun x y H Q => ∃ i j, x = .str i ∧ y = .str j ∧ Q (.bl (f (!(Builtin.Str.occurrences j i 0 j.length 1).isEmpty))) H))
    (h2 : OpR X (compareOp op) (fun x y H Q => ∃ p xs, y = .ref p ∧ (SqL X.K H p xs ∨ SqT X.K H p xs) ∧ flatV x = true ∧ xs.all flatV = true ∧ Q (.bl (f (inV x xs))) H))
    (h3 : ∀ (pins : List (Addr × Obj)) (s : Shared) (σ : L2.St) (H : Hp) (a : Addr) (y : V) (o : Option V) (u : Value) (Q : VK), Inv X pins σ H s → DGet H a y o → RelV y u → Q (.bl (f o.isSome)) H → wpAny (model X.prog X.w) X.A (compareOp op u (.ref a)) (EP X pins σ Q) X.xe s) :
    OpR X (compareOp op) (lfR X.K (rInG f)) := by
  intro pins s σ H x y v u Q I rx ry ⟨d, e, M, Q', rd, re, sm, q, hq⟩
  have gen : ((∃ ds, seqT e M = some ds ∧ flatT d = true ∧ ds.all flatT = true ∧ Q' (.bl (f (inT d ds))) M) ∨ ∃ a kvs k, e = .loc a ∧ M a = some (.dic kvs) ∧ keyT d = some k ∧ Q' (.bl (f (valT kvs k).isSome)) M) →
      wpAny (model X.prog X.w) X.A (compareOp op v u) (EP X pins σ Q) X.xe s := by
    rintro (⟨ds, e1, fd, fl, q⟩ | ⟨a, kvs, k, rfl, e1, ek, q⟩)
    · obtain ⟨a, xs, rfl, sq, rl⟩ := seqT_ok e1 re sm
      exact h2 pins s σ H _ _ v u Q I rx ry ⟨a, xs, rfl, sq, flatT_ok fd rd, flatL_ok fl rl, by rw [inT_ok fd rd fl rl]; exact hq (.bl _) M _ H Tx.refl rfl sm q⟩
    · cases re
      cases ry
      obtain ⟨xs, hx, ke, rl⟩ := sm a _ e1
      have ex := keyT_ok ek rd
      subst ex
      have vt := valT_ok (k := k) ke rl
      have es : (valV xs k).isSome = (valT kvs k).isSome := by
        cases z : valT kvs k with
        | none => rw [vt.1 z]; rfl
        | some d' =>
          obtain ⟨v', e', _⟩ := vt.2 d' z
          rw [e']; rfl
      exact h3 pins s σ H a _ _ v Q I (DGet.k hx) rx (by rw [es]; exact hq (.bl _) M _ H Tx.refl rfl sm q)
  cases d <;> cases e <;> first
    | exact gen q
    | (cases rd; cases re; exact h1 pins s σ H _ _ v u Q I rx ry ⟨_, _, rfl, rfl, hq (.bl _) M _ H Tx.refl rfl sm q⟩)
theorem o_in (hu : X.A.units + 1 < cLine) : OpR X (compareOp .In) (lfR X.K (rInG id)) := o_inG op_in_str (fun pins s σ H x y v u Q I rx ry ⟨p, xs, a, b, c, d, e⟩ => op_in_seq pins s σ H x y v u Q I rx ry ⟨p, xs, a, b, c, d, e⟩)
  fun pins s σ H a y o u Q I g r q => d_in hu I g r fun s' I' => ⟨.bl o.isSome, H, I', rfl, q⟩
theorem o_notin (hu : X.A.units + 1 < cLine) : OpR X (compareOp .NotIn) (lfR X.K (rInG not)) := o_inG op_notIn_str (fun pins s σ H x y v u Q I rx ry ⟨p, xs, a, b, c, d, e⟩ => op_notIn_seq pins s σ H x y v u Q I rx ry ⟨p, xs, a, b, c, d, e⟩)
  fun pins s σ H a y o u Q I g r q => d_notIn hu I g r fun s' I' => ⟨.bl (!o.isSome), H, I', rfl, q⟩
/-- -x -/
def rNeg2 : Tr → Ms → Q2 → Prop := fun d M Q => match d with
  | .int i => Q (.int (-i)) M
  | _ => False
theorem o_neg : UnR X (unaryOp .USub) (lfU X.K rNeg2) := by
  intro pins s σ H x v Q I rx ⟨d, M, Q', rd, sm, q, hq⟩
  cases d with
  | int i => cases rd; exact un_neg pins s σ H _ v Q I rx ⟨i, rfl, hq (.int _) M _ H Tx.refl rfl sm q⟩
  | _ => exact q.elim

/-! ### built-ins -/
def lenT : Tr → Ms → Option Nat
  | .str x, _ => if x.length ≤ sizeLine then some x.length else none
  | .loc a, M => match M a with
    | some (.lst ds) => some ds.length
    | some (.dic kvs) => some kvs.length
    | _ => none
  | d, M => (seqT d M).map List.length
def c1 (r : Tr → Ms → Q2 → Prop) : RC2 := fun ds M Q => match ds with
  | [d] => r d M Q
  | _ => False
theorem one_of {K : PySem.W.Frag} {H : Hp} {d : Tr} {xs : List V} (r : RepL K H [d] xs) : ∃ x, xs = [x] ∧ Rep K H d x := by
  obtain ⟨x, r, rfl, h, e⟩ := r
  have e' : r = [] := e
  subst e'
  exact ⟨x, rfl, h⟩
theorem two_of {K : PySem.W.Frag} {H : Hp} {d e : Tr} {xs : List V} (r : RepL K H [d, e] xs) : ∃ x y, xs = [x, y] ∧ Rep K H d x ∧ Rep K H e y := by
  obtain ⟨x, r, rfl, h, e⟩ := r
  obtain ⟨y, rfl, h'⟩ := one_of e
  exact ⟨x, y, rfl, h, h'⟩
theorem c1_of {f : Value} {r : Tr → Ms → Q2 → Prop} (h : ∀ (pins : List (Addr × Obj)) (s : Shared) (σ : L2.St) (H : Hp) (x : V) (u : Value) (Q : VK) (d : Tr) (M : Ms) (Q' : Q2), Inv X pins σ H s → RelV x u → Rep X.K H d x → SimM X.K H M → r d M Q' → LkQ X.K H Q' Q →
    wpAny (model X.prog X.w) X.A (call f [u]) (EP X pins σ Q) X.xe s) : CallR X f (lfC X.K (c1 r)) := by
  intro pins s σ H xs us Q I rv ⟨ds, M, Q', rd, sm, q, hq⟩
  match ds, q with
  | [d], q =>
    obtain ⟨x, rfl, r1⟩ := one_of rd
    obtain ⟨u, rfl, r2⟩ := vals1 rv
    exact h pins s σ H x u Q d M Q' I r2 r1 sm q hq
abbrev rLen2 : RC2 := c1 fun d M Q => ∃ n, lenT d M = some n ∧ Q (.int n) M
theorem lenT_ok {K : PySem.W.Frag} {H : Hp} {M : Ms} {d : Tr} {x : V} {n : Nat} (e : lenT d M = some n) (r : Rep K H d x) (sm : SimM K H M) : LenV K x H n ∨ ∃ p kvs, x = .ref p ∧ H p = some (.dK kvs) ∧ kvs.length = n := by
  cases d with
  | str z =>
    cases r
    have e' : (if z.length ≤ sizeLine then some z.length else none) = some n := e
    split at e'
    · cases e'; exact .inl ⟨by assumption, rfl⟩
    · cases e'
  | tup ds =>
    obtain ⟨a, xs, rfl, q, rl⟩ := r
    cases e
    exact .inl (.inr ⟨xs, q, rl.len⟩)
  | fro ds =>
    obtain ⟨a, xs, rfl, q, rl⟩ := r
    cases e
    exact .inl (.inl ⟨xs, q.sq, rl.len⟩)
  | loc a =>
    cases r
    have e' : (match M a with | some (.lst ds) => some ds.length | some (.dic kvs) => some kvs.length | _ => none) = some n := e
    split at e'
    · rename_i ds z
      cases e'
      obtain ⟨xs, q, rl⟩ := sm a _ z
      exact .inl (.inl ⟨xs, SqL.of q, rl.len⟩)
    · rename_i ds z
      cases e'
      obtain ⟨xs, q, _, rl⟩ := sm a _ z
      refine .inr ⟨a, xs, rfl, q, ?_⟩
      have := rl.len
      simpa using this.symm
    · cases e'
  | _ => cases e
theorem b_len : CallR X (.builtin "len") (lfC X.K rLen2) := c1_of fun pins s σ H x u Q d M Q' I rx rd sm ⟨n, e, q⟩ hq => by
  have fin : Q (.int n) H := hq (.int n) M _ H Tx.refl rfl sm q
  rcases lenT_ok e rd sm with h | ⟨p, kvs, rfl, h, hn⟩
  · exact call_len pins s σ H [x] [u] Q I (.cons rx .nil) ⟨x, n, rfl, h, fin⟩
  · cases rx
    subst hn
    exact d_len I (.inl h) fun t s' I' => ⟨.int kvs.length, H, I', ⟨t, rfl⟩, fin⟩
abbrev rTuple2 : RC2 := c1 fun d M Q => ∃ ds, seqT d M = some ds ∧ Q (.tup ds) M
theorem b_tuple : CallR X (.type "tuple") (lfC X.K rTuple2) := c1_of fun pins s σ H x u Q d M Q' I rx rd sm ⟨ds, e, q⟩ hq => by
  obtain ⟨a, xs, rfl, sq, rl⟩ := seqT_ok e rd sm
  refine call_tuple_of pins s σ H [.ref a] [u] Q I (.cons rx .nil) ⟨a, xs, rfl, ?_⟩
  rcases sq with sq | sq
  · exact .inl ⟨sq, fun l hl => new_tup hq rl sm hl q⟩
  · exact .inr ⟨sq, hq (.tup ds) M _ H Tx.refl ⟨a, xs, rfl, sq, rl⟩ sm q⟩
abbrev rList2 : RC2 := c1 fun d M Q => ∃ ds, seqT d M = some ds ∧ ∀ p, M p = none → Q (.loc p) (up M p (.lst ds))
theorem b_list : CallR X (.type "list") (lfC X.K rList2) := c1_of fun pins s σ H x u Q d M Q' I rx rd sm ⟨ds, e, q⟩ hq => by
  obtain ⟨a, xs, rfl, sq, rl⟩ := seqT_ok e rd sm
  exact call_list_of pins s σ H [.ref a] [u] Q I (.cons rx .nil) ⟨a, xs, rfl, sq, fun l hl => new_lst hq rl sm hl q⟩
abbrev rInt2 : RC2 := c1 fun d M Q => match d with
  | .int i => Q (.int i) M
  | .bl b => Q (.int (if b then 1 else 0)) M
  | _ => False
theorem b_int : CallR X (.type "int") (lfC X.K rInt2) := c1_of fun pins s σ H x u Q d M Q' I rx rd sm q hq => by
  cases d with
  | int i => cases rd; exact call_int1 pins s σ H _ [u] Q I (.cons rx .nil) (.inl ⟨i, rfl, hq (.int _) M _ H Tx.refl rfl sm q⟩)
  | bl i => cases rd; exact call_int1 pins s σ H _ [u] Q I (.cons rx .nil) (.inr ⟨i, rfl, hq (.int _) M _ H Tx.refl rfl sm q⟩)
  | _ => exact q.elim
abbrev rAbs2 : RC2 := c1 fun d M Q => match d with
  | .int i => Q (.int (if i < 0 then -i else i)) M
  | _ => False
theorem b_abs : CallR X (.builtin "abs") (lfC X.K rAbs2) := c1_of fun pins s σ H x u Q d M Q' I rx rd sm q hq => by
  cases d with
  | int i => cases rd; exact call_abs pins s σ H _ [u] Q I (.cons rx .nil) ⟨i, rfl, hq (.int _) M _ H Tx.refl rfl sm q⟩
  | _ => exact q.elim
theorem ints_back {K : PySem.W.Frag} {H : Hp} {ns : List Int} {xs : List V} (r : RepL K H (ns.map Tr.int) xs) : xs = ns.map V.int := by
  induction ns generalizing xs with
  | nil => exact r
  | cons n t ih =>
    obtain ⟨x, y, rfl, r1, r2⟩ := r
    cases r1
    rw [ih r2]; rfl
abbrev rSum2 : RC2 := c1 fun d M Q => ∃ ns : List Int, seqT d M = some (ns.map Tr.int) ∧ (∀ es, d ≠ .tup es) ∧ Q (.int ns.sum) M
theorem b_sum (hc : X.calm = true) : CallR X (.builtin "sum") (lfC X.K rSum2) := c1_of fun pins s σ H x u Q d M Q' I rx rd sm ⟨ns, e, nt, q⟩ hq => by
  have go : ∀ a, x = .ref a → SqL X.K H a (ns.map V.int) → wpAny (model X.prog X.w) X.A (call (.builtin "sum") [u]) (EP X pins σ Q) X.xe s := fun a ex sq => by
    subst ex
    exact cr_sum hc pins s σ H _ [u] Q I (.cons rx .nil) ⟨a, ns, rfl, sq, hq (.int _) M _ H Tx.refl rfl sm q⟩
  cases d with
  | tup ds => exact absurd rfl (nt ds)
  | fro ds =>
    obtain ⟨a, xs, rfl, sq, rl⟩ := rd
    cases e
    have := ints_back rl
    subst this
    exact go a rfl sq.sq
  | loc a =>
    cases rd
    obtain ⟨xs, hx, rl⟩ := sm a _ (seqT_loc e)
    have := ints_back rl
    subst this
    exact go a rfl (SqL.of hx)
  | _ => cases e
/-- max(a, b), min(a, b) -/
def c2 (r : Tr → Tr → Ms → Q2 → Prop) : RC2 := fun ds M Q => match ds with
  | [d, e] => r d e M Q
  | _ => False
def rII2 (g : Int → Int → Int) : RC2 := c2 fun d e M Q => match d, e with
  | .int i, .int j => Q (.int (g i j)) M
  | _, _ => False
theorem c2_ints {f : Value} {g : Int → Int → Int} (h : CallR X f (fun xs H Q => ∃ i j, xs = [.int i, .int j] ∧ Q (.int (g i j)) H)) : CallR X f (lfC X.K (rII2 g)) := by
  intro pins s σ H xs us Q I rv ⟨ds, M, Q', rd, sm, q, hq⟩
  match ds, q with
  | [d, e], q =>
    obtain ⟨x, y, rfl, r1, r2⟩ := two_of rd
    cases d with
    | int i =>
      cases e with
      | int j => cases r1; cases r2; exact h pins s σ H _ us Q I rv ⟨i, j, rfl, hq (.int _) M _ H Tx.refl rfl sm q⟩
      | _ => exact q.elim
    | _ => cases e <;> exact q.elim
abbrev rMax2 : RC2 := rII2 fun i j => if j > i then j else i
abbrev rMin2 : RC2 := rII2 fun i j => if j < i then j else i
theorem b_max2 (hc : X.calm = true) : CallR X (.builtin "max") (lfC X.K rMax2) := c2_ints (call_max2 hc)
theorem b_min2 (hc : X.calm = true) : CallR X (.builtin "min") (lfC X.K rMin2) := c2_ints (call_min2 hc)
/-- max of a list of ints -/
def rMaxL (le : Int → Int → Prop) : RC2 := c1 fun d M Q => ∃ ns : List Int, seqT d M = some (ns.map Tr.int) ∧ (∀ es, d ≠ .tup es) ∧ 0 < ns.length ∧ ∀ m, m ∈ ns → (∀ y, y ∈ ns → le y m) → Q (.int m) M
theorem maxL_of {f : Value} {le : Int → Int → Prop} (h : CallR X f (fun vs H Q => ∃ (a : Addr) (ns : List Int), vs = [V.ref a] ∧ SqL X.K H a (ns.map V.int) ∧ 0 < ns.length ∧ ∀ m, m ∈ ns → (∀ y, y ∈ ns → le y m) → Q (.int m) H)) : CallR X f (lfC X.K (rMaxL le)) :=
  c1_of fun pins s σ H x u Q d M Q' I rx rd sm ⟨ns, e, nt, hl, q⟩ hq => by
  have go : ∀ a, x = .ref a → SqL X.K H a (ns.map V.int) → wpAny (model X.prog X.w) X.A (call f [u]) (EP X pins σ Q) X.xe s := fun a ex sq => by
    subst ex
    exact h pins s σ H _ [u] Q I (.cons rx .nil) ⟨a, ns, rfl, sq, hl, fun m hm hy => hq (.int _) M _ H Tx.refl rfl sm (q m hm hy)⟩
  cases d with
  | tup ds => exact absurd rfl (nt ds)
  | fro ds =>
    obtain ⟨a, xs, rfl, sq, rl⟩ := rd
    cases e
    have := ints_back rl
    subst this
    exact go a rfl sq.sq
  | loc a =>
    cases rd
    obtain ⟨xs, hx, rl⟩ := sm a _ (seqT_loc e)
    have := ints_back rl
    subst this
    exact go a rfl (SqL.of hx)
  | _ => cases e
theorem b_maxL (hc : X.calm = true) : CallR X (.builtin "max") (lfC X.K (rMaxL fun y m => y ≤ m)) := maxL_of (cr_max hc)
theorem b_minL (hc : X.calm = true) : CallR X (.builtin "min") (lfC X.K (rMaxL fun y m => m ≤ y)) := maxL_of (cr_min hc)
/-- the built-in type of a tree -/
def tyT : Tr → Ms → Option String
  | .non, _ => some "NoneType"
  | .bl _, _ => some "bool"
  | .int _, _ => some "int"
  | .str _, _ => some "str"
  | .tup _, _ => some "tuple"
  | .loc a, M => match M a with
    | some (.lst _) => some "list"
    | some (.dic _) => some "dict"
    | _ => none
  | .fro _, _ => some "list"
  | .ty _, _ => none
theorem tyT_ok {K : PySem.W.Frag} {H : Hp} {M : Ms} {d : Tr} {x : V} {t : String} (e : tyT d M = some t) (r : Rep K H d x) (sm : SimM K H M) : TyX K H x (.type t) := by
  cases d with
  | non => cases r; cases e; exact .base .non
  | bl b => cases r; cases e; exact .base (.bl b)
  | int b => cases r; cases e; exact .base (.int b)
  | str b => cases r; cases e; exact .base (.str b)
  | tup ds =>
    obtain ⟨a, xs, rfl, q, rl⟩ := r
    cases e
    rcases q with (q | ⟨o, q⟩) | ⟨o, its, n, q1, q2, _⟩
    · exact .base (.tup q)
    · exact .fTuple q
    · exact .kTuple q1 q2
  | fro ds =>
    obtain ⟨a, xs, rfl, q, rl⟩ := r
    cases e
    rcases q with ⟨o, q⟩ | ⟨o, its, n, q1, q2, _⟩
    · exact .base (.frz q)
    · exact .kList q1 q2
  | loc a =>
    cases r
    have e' : (match M a with | some (.lst _) => some "list" | some (.dic _) => some "dict" | _ => none) = some t := e
    split at e'
    · rename_i ds z
      cases e'
      obtain ⟨xs, q, rl⟩ := sm a _ z
      exact .base (.lst q)
    · rename_i ds z
      cases e'
      obtain ⟨xs, q, _, rl⟩ := sm a _ z
      exact .base (.dK q)
    · cases e'
  | ty n => cases e
abbrev rIsi2 : RC2 := c2 fun d e M Q => ∃ t c b, tyT d M = some t ∧ e = .ty c ∧ kitB t c = some b ∧ Q (.bl b) M
theorem b_isi : CallR X (.builtin "isinstance") (lfC X.K rIsi2) := by
  intro pins s σ H xs us Q I rv ⟨ds, M, Q', rd, sm, q, hq⟩
  match ds, q with
  | [d, e], q =>
    obtain ⟨x, y, rfl, r1, r2⟩ := two_of rd
    obtain ⟨t, c, b, e1, rfl, e2, q⟩ := q
    cases r2
    exact call_isi pins s σ H _ us Q I rv ⟨x, .ty c, .type t, .type c, b, rfl, .ty c, tyT_ok e1 r1 sm, kit_ty e2, hq (.bl _) M _ H Tx.refl rfl sm q⟩
/-- repr -/
def rRepr2 : RC2 := c1 fun d M Q => ∃ p : PyData, Dat M p d ∧ p.showable = true ∧ p.hasDict = false ∧ p.depth ≤ 50 ∧ p.shown.length ≤ sizeLine ∧ Q (.str p.shown) M
theorem b_repr (hu : X.A.units + 64 < cLine) (hg : X.A.guards = some []) : CallR X (.builtin "repr") (lfC X.K rRepr2) := c1_of fun pins s σ H x u Q d M Q' I rx rd sm ⟨p, dp, s1, s2, s3, s4, q⟩ hq => by
  have D := dp.dp sm rd
  have fin : Q (.str p.shown) H := hq (.str _) M _ H Tx.refl rfl sm q
  cases D with
  | non => cases rx; exact PySem.P.repr_of_none ⟨.str _, H, I.tok _, ⟨_, rfl⟩, fin⟩
  | bl b => cases rx; exact PySem.P.repr_of_bool ⟨.str _, H, I.tok _, ⟨_, rfl⟩, fin⟩
  | int i =>
    obtain ⟨t, rfl⟩ := rx
    exact PySem.P.repr_of_int (of_decide_eq_true s1) ⟨.str _, H, I.tok _, ⟨_, rfl⟩, fin⟩
  | str z =>
    obtain ⟨t, rfl⟩ := rx
    exact PySem.P.repr_of_str ⟨.str _, H, I.tok _, ⟨_, rfl⟩, fin⟩ s4
  | lst q1 q2 =>
    cases rx
    obtain ⟨as, r⟩ := Dp.reads I _ _ _ (.lst q1 q2) rfl
    exact PySem.repr_of_reads' r s1 (PyData.noDict_hsm s2) hg (by omega) (fun _ _ e => e) (fun h' w' tk hk => ⟨.str _, H, I.kept hk, ⟨_, rfl⟩, fin⟩) s4
  | tup q1 q2 =>
    cases rx
    obtain ⟨as, r⟩ := Dp.reads I _ _ _ (.tup q1 q2) rfl
    exact PySem.repr_of_reads' r s1 (PyData.noDict_hsm s2) hg (by omega) (fun _ _ e => e) (fun h' w' tk hk => ⟨.str _, H, I.kept hk, ⟨_, rfl⟩, fin⟩) s4

/-! ### methods -/
def rApp2 : RM2 := fun d ds M Q => match d, ds with
  | .loc a, [e] => ∃ l, M a = some (.lst l) ∧ l.length < sizeLine ∧ Q .non (up M a (.lst (l ++ [e])))
  | _, _ => False
theorem m_append : MtR X "list.append" (lfM X.K rApp2) := by
  intro pins s σ H x xs v us Q I rx rv ⟨d, ds, M, Q', rd, rl, sm, q, hq⟩
  match d, ds, q with
  | .loc a, [e], ⟨l, el, z, q⟩ =>
    obtain ⟨y, rfl, r1⟩ := one_of rl
    cases rd
    obtain ⟨ys, hy, ry⟩ := sm a _ el
    exact mt_append pins s σ H _ _ v us Q I rx rv ⟨a, ys, y, rfl, rfl, hy, by rw [← ry.len]; exact z, hq .non _ _ _ (Tx.lst hy) rfl (sm.setL hy (ry.app (.one r1))) q⟩
def rPop2 : RM2 := fun d ds M Q => match d, ds with
  | .loc a, [] => ∃ l e, M a = some (.lst l) ∧ l[l.length - 1]? = some e ∧ Q e (up M a (.lst l.dropLast))
  | _, _ => False
theorem m_pop : MtR X "list.pop" (lfM X.K rPop2) := by
  intro pins s σ H x xs v us Q I rx rv ⟨d, ds, M, Q', rd, rl, sm, q, hq⟩
  match d, ds, q with
  | .loc a, [], ⟨l, e, el, z, q⟩ =>
    have ex : xs = [] := rl
    subst ex
    cases rd
    obtain ⟨ys, hy, ry⟩ := sm a _ el
    obtain ⟨w', e1, rw'⟩ := ry.get z
    exact mt_pop pins s σ H _ _ v us Q I rx rv ⟨a, ys, w', rfl, rfl, hy, by rw [← ry.len]; exact e1, hq e _ _ _ (Tx.lst hy) (rw'.mono (Tx.lst hy)) (sm.setL hy ry.dropLast) q⟩
def rExt2 : RM2 := fun d ds M Q => match d, ds with
  | .loc a, [.loc b] => ∃ l r, M a = some (.lst l) ∧ M b = some (.lst r) ∧ l.length + r.length ≤ sizeLine ∧ Q .non (up M a (.lst (l ++ r)))
  | _, _ => False
theorem m_extend : MtR X "list.extend" (lfM X.K rExt2) := by
  intro pins s σ H x xs v us Q I rx rv ⟨d, ds, M, Q', rd, rl, sm, q, hq⟩
  match d, ds, q with
  | .loc a, [.loc b], ⟨l, r, el, er, z, q⟩ =>
    obtain ⟨y, rfl, r1⟩ := one_of rl
    cases rd
    cases r1
    obtain ⟨ys, hy, ry⟩ := sm a _ el
    obtain ⟨zs, hz, rz⟩ := sm b _ er
    exact mt_extend pins s σ H _ _ v us Q I rx rv ⟨a, b, ys, zs, rfl, rfl, hy, hz, by rw [← ry.len, ← rz.len]; exact z, hq .non _ _ _ (Tx.lst hy) rfl (sm.setL hy (ry.app rz)) q⟩
variable {W : L2.WX} {o e : Expr} {to : TE2} {t : TA2} {apos pos : Pos} {es : List Expr}
theorem lt_append (ho : QE X W o to) (ha : QA X W [e] t) (h : PE X (.Call (.Attribute o "append" apos) [e] [] pos) (tBM X.K "list" (lfM X.K rApp2) (lfE X.K W to) (lfA X.K W t)) := by exact pe_bm PySem.F.plainAttrs_list PySem.F.slot_list_append PySem.F.type_list_append m_append (by assumption) (by assumption)) :
    QE X W (.Call (.Attribute o "append" apos) [e] [] pos) (eM "list" rApp2 to t) := pe_weak h fun _ _ _ h => m_low h
theorem lt_extend (ho : QE X W o to) (ha : QA X W [e] t) (h : PE X (.Call (.Attribute o "extend" apos) [e] [] pos) (tBM X.K "list" (lfM X.K rExt2) (lfE X.K W to) (lfA X.K W t)) := by exact pe_bm PySem.F.plainAttrs_list PySem.F.slot_list_extend PySem.F.type_list_extend m_extend (by assumption) (by assumption)) :
    QE X W (.Call (.Attribute o "extend" apos) [e] [] pos) (eM "list" rExt2 to t) := pe_weak h fun _ _ _ h => m_low h
theorem lt_pop (ho : QE X W o to) (h : PE X (.Call (.Attribute o "pop" apos) [] [] pos) (tBM0 X.K "list" (lfM X.K rPop2) (lfE X.K W to)) := by exact pe_bm0 PySem.F.plainAttrs_list PySem.F.slot_list_pop PySem.F.type_list_pop m_pop (by assumption)) :
    QE X W (.Call (.Attribute o "pop" apos) [] [] pos) (eM0 "list" rPop2 to) := pe_weak h fun _ _ _ h => m0_low h
end
end T

/-! T, fourth part: targets, statements, walks, loops, comprehensions, errors. -/
namespace T
open PySem PySem.Spec L2

structure Ends2 where
  nx : St2 → Ms → Prop
  rt : Q2
  bk : St2 → Ms → Prop
  ct : St2 → Ms → Prop
  ex : Value → Option Addr → St2 → Ms → Prop
abbrev TS2 := Ends2 → St2 → Ms → Prop
abbrev Ends2.xx (D : Ends2) (σ : St2) : X2 := fun c dd M => D.ex c dd σ M
/-- the links of the ends -/
def LkN (K : PySem.W.Frag) (H : Hp) (N' : St2 → Ms → Prop) (N : L2.St → Hp → Prop) : Prop := ∀ σ1' M1 σ1 H1, Tx K H H1 → SimS K H1 σ1' σ1 → SimM K H1 M1 → N' σ1' M1 → N σ1 H1
structure LkD (K : PySem.W.Frag) (H : Hp) (W : L2.WX) (D' : Ends2) (D : L2.Ends) : Prop where
  nx : LkN K H D'.nx D.nx
  rt : LkQ K H D'.rt D.rt
  bk : LkN K H D'.bk D.bk
  ct : LkN K H D'.ct D.ct
  ex : ∀ c dd, LkN K H (D'.ex c dd) (W c dd)
section
variable {K : PySem.W.Frag} {H H1 : Hp} {W : L2.WX} {D' : Ends2} {D : L2.Ends} {N' : St2 → Ms → Prop} {N : L2.St → Hp → Prop} {σ : L2.St} {σ' : St2}
theorem LkN.mono (h : LkN K H N' N) (t : Tx K H H1) : LkN K H1 N' N := fun a b c d t' s m q => h a b c d (t.trans t') s m q
theorem LkD.mono (h : LkD K H W D' D) (t : Tx K H H1) : LkD K H1 W D' D := ⟨h.nx.mono t, h.rt.mono t, h.bk.mono t, h.ct.mono t, fun c dd => (h.ex c dd).mono t⟩
theorem LkD.x (h : LkD K H W D' D) (s : SimS K H σ' σ) : LkX K H (D'.xx σ') W σ := fun c dd M H' t m q => h.ex c dd σ' M σ H' t (s.mono t) m q
end
def lfS (K : PySem.W.Frag) (W : L2.WX) (t : TS2) : TS := fun D σ H => ∃ σ' M D', SimS K H σ' σ ∧ SimM K H M ∧ t D' σ' M ∧ LkD K H W D' D
theorem ps_weak {X : Cx} {e : Stmt} {t t' : TS} (h : PS X e t) (w : ∀ D σ H, t' D σ H → t D σ H) : PS X e t' := ⟨fun pins s σ H D I q => h.run pins s σ H D I (w D σ H q)⟩
theorem pss_weak {X : Cx} {e : List Stmt} {t t' : TS} (h : PSs X e t) (w : ∀ D σ H, t' D σ H → t D σ H) : PSs X e t' := ⟨fun pins s σ H D I q => h.run pins s σ H D I (w D σ H q)⟩
theorem pg_weak {X : Cx} {e : Expr} {t t' : TG} (h : PG X e t) (w : ∀ v σ H Q, t' v σ H Q → t v σ H Q) : PG X e t' := ⟨fun pins s σ H v u Q I r q => h.run pins s σ H v u Q I r (w v σ H Q q)⟩
theorem pgs_weak {X : Cx} {e : List Expr} {t t' : TGs} (h : PGs X e t) (w : ∀ v σ H Q, t' v σ H Q → t v σ H Q) : PGs X e t' := ⟨fun pins s σ H v u Q I r q => h.run pins s σ H v u Q I r (w v σ H Q q)⟩
theorem pi_weak {X : Cx} {tg e : Expr} {t t' : TI} (h : PI X tg e t) (w : ∀ σ H R, t' σ H R → t σ H R) : PI X tg e t' := ⟨fun pins s σ H R I q => h.run pins s σ H R I (w σ H R q)⟩
abbrev QS (X : Cx) (W : L2.WX) (e : Stmt) (t : TS2) : Prop := PS X e (lfS X.K W t)
abbrev QSs (X : Cx) (W : L2.WX) (e : List Stmt) (t : TS2) : Prop := PSs X e (lfS X.K W t)

/-! ### targets -/
abbrev TG2 := Tr → St2 → Ms → (St2 → Ms → Prop) → Prop
abbrev TGs2 := List Tr → St2 → Ms → (St2 → Ms → Prop) → Prop
/-- alike but for some slots -/
def Agr (js : List Nat) (σ σ1 : L2.St) : Prop := σ1.length = σ.length ∧ ∀ i, i ∉ js → σ1[i]? = σ[i]?
theorem Agr.refl {js : List Nat} {σ : L2.St} : Agr js σ σ := ⟨rfl, fun _ _ => rfl⟩
theorem Agr.app {js ks : List Nat} {σ σ1 σ2 : L2.St} (a : Agr js σ σ1) (b : Agr ks σ1 σ2) : Agr (js ++ ks) σ σ2 := ⟨b.1.trans a.1, fun i hi => (b.2 i fun z => hi (List.mem_append_right _ z)).trans (a.2 i fun z => hi (List.mem_append_left _ z))⟩
theorem wipe_at {σ : L2.St} {i : Nat} : ∀ {vs : List Nat}, i ∈ vs → i < σ.length → (wipe σ vs)[i]? = some none
  | [], h, _ => nomatch h
  | v :: vs, h, hl => by
    unfold wipe
    rw [List.getElem?_set, wipe_length]
    by_cases c : v = i
    · rw [if_pos c, if_pos (by omega)]
    · rw [if_neg c]
      rcases List.mem_cons.mp h with e | m
      · exact absurd e.symm c
      · exact wipe_at m hl
theorem Agr.wipe {js vs : List Nat} {σ σ1 : L2.St} (a : Agr js (L2.wipe σ vs) σ1) (h : ∀ i ∈ js, i ∈ vs) : L2.wipe σ1 vs = L2.wipe σ vs := by
  have l1 : σ1.length = σ.length := a.1.trans (wipe_length _ _)
  apply List.ext_getElem?
  intro i
  by_cases m : i ∈ vs
  · by_cases hl : i < σ.length
    · rw [wipe_at m (by rw [l1]; exact hl), wipe_at m hl]
    · rw [List.getElem?_eq_none (by rw [wipe_length, l1]; omega), List.getElem?_eq_none (by rw [wipe_length]; omega)]
  · rw [wipe_out m, a.2 i fun z => m (h i z)]
def lfG (K : PySem.W.Frag) (js : List Nat) (g : TG2) : TG := fun v σ H Q => ∃ d σ' M Q', Rep K H d v ∧ SimS K H σ' σ ∧ SimM K H M ∧ g d σ' M Q' ∧ ∀ σ1' M1 σ1 H1, Tx K H H1 → SimS K H1 σ1' σ1 → SimM K H1 M1 → Agr js σ σ1 → Q' σ1' M1 → Q σ1 H1
def lfGs (K : PySem.W.Frag) (js : List Nat) (g : TGs2) : TGs := fun vs σ H Q => ∃ ds σ' M Q', RepL K H ds vs ∧ SimS K H σ' σ ∧ SimM K H M ∧ g ds σ' M Q' ∧ ∀ σ1' M1 σ1 H1, Tx K H H1 → SimS K H1 σ1' σ1 → SimM K H1 M1 → Agr js σ σ1 → Q' σ1' M1 → Q σ1 H1
abbrev QG (X : Cx) (tg : Expr) (g : TG2) (js : List Nat) : Prop := PG X tg (lfG X.K js g)
abbrev QGs (X : Cx) (tg : List Expr) (g : TGs2) (js : List Nat) : Prop := PGs X tg (lfGs X.K js g)
def gN (i : Nat) : TG2 := fun d σ M Q => Q (σ.set i (some d)) M
def gNil2 : TGs2 := fun ds σ M Q => ds = [] ∧ Q σ M
def gCo (t : TG2) (u : TGs2) : TGs2 := fun ds σ M Q => ∃ d r, ds = d :: r ∧ t d σ M fun σ' M' => u r σ' M' Q
def gT (n : Nat) (t : TGs2) : TG2 := fun d σ M Q => ∃ ds, d = .tup ds ∧ ds.length = n ∧ t ds σ M Q
def gL (n : Nat) (t : TGs2) : TG2 := fun d σ M Q => ∃ ds, seqT d M = some ds ∧ (∀ es, d ≠ .tup es) ∧ ds.length = n ∧ t ds σ M Q
section
variable {X : Cx} {W : L2.WX} {pos : Pos} {tg e a b c : Expr} {es : List Expr} {g : TG2} {gs : TGs2} {js ks : List Nat} {te ta tb : TE2} {tt : TA2}
theorem qg_name {i : Nat} {x : Str} (hN : X.N.Nodup) (hi : X.N[i]? = some x := by rfl) (hx : Loc X.env.scope x := by first | exact Or.inl rfl | exact Or.inr rfl) (hf : X.fn x = true ∨ X.env.scope.names.lookup x = some .local := by first | exact .inl rfl | exact .inr rfl | assumption) : QG X (.Name x pos) (gN i) [i] :=
  pg_weak (pg_name hN hi hx hf) fun v σ H Q ⟨d, σ', M, Q', r, hs, hm, q, hq⟩ => hq _ M _ H Tx.refl (hs.set i r) hm ⟨by rw [List.length_set], fun j hj => by
    rw [List.getElem?_set, if_neg (fun z => hj (by rw [z]; exact List.mem_singleton.mpr rfl))]⟩ q
theorem qgs_nil : QGs X [] gNil2 [] := pgs_weak pgs_nil fun vs σ H Q ⟨ds, σ', M, Q', r, hs, hm, ⟨e, q⟩, hq⟩ => by
  subst e
  exact ⟨r, hq σ' M σ H Tx.refl hs hm Agr.refl q⟩
theorem qgs_cons (h1 : QG X e g js) (h2 : QGs X es gs ks) (hs : (assignEach (e :: es) X.env).map (·.2) = assign e X.env :: (assignEach es X.env).map (·.2) := by rfl) : QGs X (e :: es) (gCo g gs) (js ++ ks) :=
  pgs_weak (pgs_cons h1 h2 hs) fun vs σ H Q ⟨ds, σ', M, Q', r, hs, hm, ⟨d, dr, e, q⟩, hq⟩ => by
    subst e
    obtain ⟨x, xs, e, r1, r2⟩ := r
    subst e
    exact ⟨x, xs, rfl, d, σ', M, _, r1, hs, hm, q, fun σ1' M1 σ1 H1 t1 s1 m1 a1 q1 => ⟨dr, σ1', M1, Q', r2.mono t1, s1, m1, q1, fun σ2' M2 σ2 H2 t2 s2 m2 a2 q2 => hq σ2' M2 σ2 H2 (t1.trans t2) s2 m2 (a1.app a2) q2⟩⟩
theorem qg_tup {k : Nat} {n : Nat} (hc : X.calm = true) (h : QGs X es gs js) (hn : (assignEach es X.env).length = n := by rfl) (hst : (assignEach es X.env).findIdx? (·.1) = none := by rfl) : QG X (.Tuple es k pos) (gT n gs) js :=
  pg_weak (pg_tup hc h hn hst) fun v σ H Q ⟨d, σ', M, Q', r, hs, hm, ⟨ds, e, hl, q⟩, hq⟩ => by
    subst e
    obtain ⟨a, xs, rfl, sq, rl⟩ := r
    exact ⟨a, xs, rfl, sq, by rw [← rl.len]; exact hl, ds, σ', M, Q', rl, hs, hm, q, hq⟩
/-- o[i] = v, by values -/
abbrev TSet2 := Tr → Tr → Tr → Ms → (Ms → Prop) → Prop
def lfPut (K : PySem.W.Frag) (t : TSet2) : TSet := fun o i v H Q => ∃ d e f M Q', Rep K H d o ∧ Rep K H e i ∧ Rep K H f v ∧ SimM K H M ∧ t d e f M Q' ∧ ∀ M1 H1, Tx K H H1 → SimM K H1 M1 → Q' M1 → Q H1
/-- stored at its key, or behind all -/
def putT (kvs : List (Key × Tr)) (k : Key) (v : Tr) : List (Key × Tr) :=
  match kvs.any fun p => decide (p.1 = k) with
  | true => kvs.map fun p => (p.1, if p.1 = k then v else p.2)
  | false => kvs ++ [(k, v)]
theorem swap_ok {K : PySem.W.Frag} {H : Hp} {k : Key} {f : Tr} {v : V} (r : Rep K H f v) : ∀ {kvs : List (Key × Tr)} {xs : List (Key × V)}, xs.map (·.1) = kvs.map (·.1) → RepL K H (kvs.map (·.2)) (xs.map (·.2)) →
    (xs.map fun p => if p.1 = k then (p.1, v) else p).map (·.1) = (kvs.map fun p => (p.1, if p.1 = k then f else p.2)).map (·.1) ∧
      RepL K H ((kvs.map fun p => (p.1, if p.1 = k then f else p.2)).map (·.2)) ((xs.map fun p => if p.1 = k then (p.1, v) else p).map (·.2))
  | [], [], _, _ => ⟨rfl, rfl⟩
  | [], _ :: _, e, _ => by simp at e
  | _ :: _, [], e, _ => by simp at e
  | p :: kvs, y :: ys, e, rl => by
    simp only [List.map_cons, List.cons.injEq] at e
    obtain ⟨x, z, e0, r1, r2⟩ := rl
    cases e0
    have e1 := e.1
    have ih := swap_ok (k := k) r e.2 r2
    by_cases c : p.1 = k
    · have c2 : y.1 = k := by rw [e1]; exact c
      simp only [List.map_cons, if_pos c, if_pos c2]
      exact ⟨by rw [ih.1, e1], v, _, rfl, r, ih.2⟩
    · have c2 : ¬ y.1 = k := by rw [e1]; exact c
      simp only [List.map_cons, if_neg c, if_neg c2]
      exact ⟨by rw [ih.1, e1], y.2, _, rfl, r1, ih.2⟩
def rPut2 : TSet2 := fun o i v M Q => (∃ a l k j, o = .loc a ∧ i = .int k ∧ M a = some (.lst l) ∧ ixN l.length k = some j ∧ Q (up M a (.lst (l.set j v)))) ∨
  ∃ a kvs k, o = .loc a ∧ keyT i = some k ∧ M a = some (.dic kvs) ∧ kvs.length < sizeLine ∧ Q (up M a (.dic (putT kvs k v)))
theorem putT_ok {K : PySem.W.Frag} {H : Hp} {k : Key} {f : Tr} {v : V} (r : Rep K H f v) {kvs : List (Key × Tr)} {xs : List (Key × V)} (e : xs.map (·.1) = kvs.map (·.1)) (rl : RepL K H (kvs.map (·.2)) (xs.map (·.2))) :
    (putK xs k v).map (·.1) = (putT kvs k f).map (·.1) ∧ RepL K H ((putT kvs k f).map (·.2)) ((putK xs k v).map (·.2)) := by
  have hany : (xs.any fun kv => decide (kv.1 = k)) = (kvs.any fun kv => decide (kv.1 = k)) := by
    have h1 : (xs.any fun kv => decide (kv.1 = k)) = (xs.map (·.1)).any fun j => decide (j = k) := by rw [List.any_map]; rfl
    have h2 : (kvs.any fun kv => decide (kv.1 = k)) = (kvs.map (·.1)).any fun j => decide (j = k) := by rw [List.any_map]; rfl
    rw [h1, h2, e]
  unfold putK putT
  rw [hany]
  cases (kvs.any fun kv => decide (kv.1 = k)) with
  | true =>
    rw [if_pos rfl]
    exact swap_ok r e rl
  | false =>
    rw [if_neg Bool.false_ne_true]
    simp only [List.map_append, List.map_cons, List.map_nil, e]
    exact ⟨trivial, rl.app (.one r)⟩
theorem p_set (hu : X.A.units + 1 < cLine) : PSet X (lfPut X.K rPut2) := by
  intro pins s σ H o i v ov iv u Q I ro ri rv ⟨d, e, f, M, Q', rd, re, rf, sm, q, hq⟩
  rcases q with ⟨a, l, k, j, rfl, rfl, el, hj, q⟩ | ⟨a, kvs, k, rfl, ek, el, hz, q⟩
  · cases rd; cases re
    obtain ⟨ys, hy, ry⟩ := sm a _ el
    exact set_list pins s σ H _ _ v ov iv u Q I ro ri rv ⟨a, ys, k, j, rfl, rfl, hy, by rw [← ry.len]; exact hj, hq _ _ (Tx.lst hy) (sm.setL hy (ry.set j rf)) q⟩
  · cases rd
    have ei := keyT_ok ek re
    subst ei
    obtain ⟨ys, hy, ke, ry⟩ := sm a _ el
    cases ro
    have hl : ys.length < sizeLine := by
      have := congrArg List.length ke
      simp only [List.length_map] at this
      omega
    have pk := putT_ok (k := k) rf ke ry
    exact d_setItem hu I (DPut.k hy hl) ri rv fun s' I' => ⟨_, I', hq _ _ (Tx.dic hy) (sm.put (m := .dic (putT kvs k f)) (Tx.dic hy) ⟨_, upd_same, pk.1, pk.2.mono (Tx.dic hy)⟩) q⟩
def gSb (r : TSet2) (to ti : TE2) : TG2 := fun v σ M Q => to σ M (fun o M1 => ti σ M1 (fun i M2 => r o i v M2 fun M3 => Q σ M3) X0) X0
theorem qg_sub {o i : Expr} {to ti : TE2} (hu : X.A.units + 1 < cLine) (ho : QE X W o to) (hi : QE X W i ti)
    (ha : PG X (.Subscript o i pos) (gSub (lfE X.K W to) (lfE X.K W ti) (lfPut X.K rPut2)) := by exact pg_sub (by assumption) (by assumption) (p_set (by assumption))) : QG X (.Subscript o i pos) (gSb rPut2 to ti) [] :=
  pg_weak ha fun v σ H Q ⟨d, σ', M, Q', r, hs, hm, q, hq⟩ => ⟨σ', M, _, X0, hs, hm, q, fun o M1 x H1 t1 r1 s1 q1 => ⟨σ', M1, _, X0, hs.mono t1, s1, q1, fun i M2 y H2 t2 r2 s2 q2 =>
    ⟨o, i, d, M2, _, r1.mono t2, r2, (r.mono t1).mono t2, s2, q2, fun M3 H3 t3 s3 q3 => hq σ' M3 σ H3 ((t1.trans t2).trans t3) (((hs.mono t1).mono t2).mono t3) s3 Agr.refl q3⟩, fun _ _ _ _ _ _ z => False.elim z⟩, fun _ _ _ _ _ _ z => False.elim z⟩

/-! ### statements -/
variable {t u : TS2} {st : Stmt} {rest : List Stmt} {tA : TT2}
def sNx : TS2 := fun D σ M => D.nx σ M
def sSq (t u : TS2) : TS2 := fun D σ M => t { D with nx := u D } σ M
theorem qss_nil : QSs X W [] sNx := pss_weak pss_nil fun D σ H ⟨σ', M, D', hs, hm, q, L⟩ => L.nx σ' M σ H Tx.refl hs hm q
theorem qss_cons (h1 : QS X W st t) (h2 : QSs X W rest u) : QSs X W (st :: rest) (sSq t u) := pss_weak (pss_cons h1 h2) fun D σ H ⟨σ', M, D', hs, hm, q, L⟩ =>
  ⟨σ', M, _, hs, hm, q, fun σ1' M1 σ1 H1 t1 s1 m1 q1 => ⟨σ1', M1, D', s1, m1, q1, L.mono t1⟩, L.rt, L.bk, L.ct, L.ex⟩
theorem qss_one (h1 : QS X W st t) : QSs X W [st] t := pss_one h1
theorem qs_pass : QS X W (.Pass pos) sNx := ps_weak ps_pass fun D σ H ⟨σ', M, D', hs, hm, q, L⟩ => L.nx σ' M σ H Tx.refl hs hm q
def sBk : TS2 := fun D σ M => D.bk σ M
def sCt : TS2 := fun D σ M => D.ct σ M
theorem qs_break : QS X W (.Break pos) sBk := ps_weak ps_break fun D σ H ⟨σ', M, D', hs, hm, q, L⟩ => L.bk σ' M σ H Tx.refl hs hm q
theorem qs_continue : QS X W (.Continue pos) sCt := ps_weak ps_continue fun D σ H ⟨σ', M, D', hs, hm, q, L⟩ => L.ct σ' M σ H Tx.refl hs hm q
def sDr (te : TE2) : TS2 := fun D σ M => te σ M (fun _ M1 => D.nx σ M1) (D.xx σ)
theorem qs_expr (he : QE X W e te) (hs : swapsWith e none pos.line X.env = pure false := by rfl) : QS X W (.Expr e pos) (sDr te) := ps_weak (ps_expr he hs) fun D σ H ⟨σ', M, D', hs, hm, q, L⟩ =>
  ⟨σ', M, _, _, hs, hm, q, fun d M1 v H1 t1 r1 s1 q1 => L.nx σ' M1 σ H1 t1 (hs.mono t1) s1 q1, L.x hs⟩
def sRt (te : TE2) : TS2 := fun D σ M => te σ M D.rt (D.xx σ)
theorem qs_ret (he : QE X W e te) : QS X W (.Return (some e) pos) (sRt te) := ps_weak (ps_ret he) fun D σ H ⟨σ', M, D', hs, hm, q, L⟩ => ⟨σ', M, _, _, hs, hm, q, L.rt, L.x hs⟩
def sRtN : TS2 := fun D _ M => D.rt .non M
theorem qs_retN : QS X W (.Return none pos) sRtN := ps_weak ps_retN fun D σ H ⟨σ', M, D', hs, hm, q, L⟩ => L.rt .non M .non H Tx.refl rfl hm q
def sIf (c : TT2) (t u : TS2) : TS2 := fun D σ M => c σ M (fun b M1 => if b = true then t D σ M1 else u D σ M1) (D.xx σ)
theorem qs_if {aa bb : List Stmt} (hc : QT X W c tA) (ha : QSs X W aa t) (hb : QSs X W bb u) : QS X W (.If c aa bb pos) (sIf tA t u) := ps_weak (ps_if hc ha hb) fun D σ H ⟨σ', M, D', hs, hm, q, L⟩ =>
  ⟨σ', M, _, _, hs, hm, q, fun b M1 H1 t1 s1 q1 => by
    cases b with
    | true => exact ⟨σ', M1, D', hs.mono t1, s1, q1, L.mono t1⟩
    | false => exact ⟨σ', M1, D', hs.mono t1, s1, q1, L.mono t1⟩, L.x hs⟩
def sNv : TS2 := fun _ _ _ => False
theorem qs_never : QS X W st sNv := ps_weak ps_never fun D σ H ⟨σ', M, D', hs, hm, q, L⟩ => q
theorem qss_never {sts : List Stmt} : QSs X W sts sNv := pss_weak pss_never fun D σ H ⟨σ', M, D', hs, hm, q, L⟩ => q
/-- target = value -/
def sAs (te : TE2) (g : TG2) : TS2 := fun D σ M => te σ M (fun d M1 => g d σ M1 D.nx) (D.xx σ)
theorem asg_low {K : PySem.W.Frag} {D : L2.Ends} {σ : L2.St} {H : Hp} (h : lfS K W (sAs te g) D σ H) : tAsg (lfE K W te) (lfG K js g) D σ H := by
  obtain ⟨σ', M, D', hs, hm, q, L⟩ := h
  exact ⟨σ', M, _, _, hs, hm, q, fun d M1 v H1 t1 r1 s1 q1 => ⟨d, σ', M1, _, r1, hs.mono t1, s1, q1, fun σ2' M2 σ2 H2 t2 s2 m2 _ q2 => L.nx σ2' M2 σ2 H2 (t1.trans t2) s2 m2 q2⟩, L.x hs⟩
theorem qs_asg (he : QE X W e te) (hg : QG X tg g js) (hs : swapsWithSole [tg] e pos.line X.env = pure false := by rfl) (hw : swappedStores [tg] e X.env = pure none := by rfl)
    (h1 : (assignEach [tg] X.env).map (·.2) = [assign tg X.env] := by rfl) : QS X W (.Assign [tg] e pos) (sAs te g) := ps_weak (ps_asg he hg hs hw h1) fun D σ H h => asg_low h
theorem qs_set {i : Nat} {x : Str} {pos' : Pos} (hN : X.N.Nodup) (he : QE X W e te) (hi : X.N[i]? = some x := by rfl) (hx : Loc X.env.scope x := by first | exact Or.inl rfl | exact Or.inr rfl) (hs : swapsWith e (some (.Name x pos')) pos.line X.env = pure false := by rfl)
    (hf : X.fn x = true ∨ X.env.scope.names.lookup x = some .local := by first | exact .inl rfl | exact .inr rfl | assumption) : QS X W (.Assign [.Name x pos'] e pos) (sAs te (gN i)) :=
  ps_weak (ps_set hN hi hx he hs hf) fun D σ H ⟨σ', M, D', hs, hm, q, L⟩ => ⟨σ', M, _, _, hs, hm, q, fun d M1 v H1 t1 r1 s1 q1 => L.nx _ M1 _ H1 t1 ((hs.mono t1).set i r1) s1 q1, L.x hs⟩
def sPr (i j : Nat) (ta : TA2) : TS2 := fun D σ M => ta σ M (fun ds M1 => ∃ d e, ds = [d, e] ∧ D.nx ((σ.set i (some d)).set j (some e)) M1) (D.xx σ)
theorem qs_par {i j : Nat} {x y : Str} {px py pt : Pos} {kt k2 pt2} (hc : X.calm = true) (hN : X.N.Nodup) (hij : i ≠ j) (ha : QA X W [a, b] tt) (hi : X.N[i]? = some x := by rfl) (hj : X.N[j]? = some y := by rfl)
    (hx : X.env.scope.names.lookup x = some .local := by rfl) (hy : X.env.scope.names.lookup y = some .local := by rfl)
    (hw : swappedStores [.Tuple [.Name x px, .Name y py] kt pt] (.Tuple [a, b] k2 pt2) X.env = pure (some [x, y]) := by rfl)
    (hs : swapsWithSole [.Tuple [.Name x px, .Name y py] kt pt] (.Tuple [a, b] k2 pt2) pos.line X.env = pure false := by rfl) :
    QS X W (.Assign [.Tuple [.Name x px, .Name y py] kt pt] (.Tuple [a, b] k2 pt2) pos) (sPr i j tt) := ps_weak (ps_par hc hN hi hj hij hx hy ha hw hs) fun D σ H ⟨σ', M, D', hs, hm, q, L⟩ =>
  ⟨σ', M, _, _, hs, hm, q, fun ds M1 vs H1 t1 r1 s1 ⟨d, e, ed, q1⟩ => by
    subst ed
    obtain ⟨x, y, rfl, r2, r3⟩ := two_of r1
    exact ⟨x, y, rfl, L.nx _ M1 _ H1 t1 (((hs.mono t1).set i r2).set j r3) s1 q1⟩, L.x hs⟩
def sPr3 (i j l : Nat) (ta : TA2) : TS2 := fun D σ M => ta σ M (fun ds M1 => ∃ d e f, ds = [d, e, f] ∧ D.nx (((σ.set i (some d)).set j (some e)).set l (some f)) M1) (D.xx σ)
theorem qs_par3 {i j l : Nat} {x y z : Str} {px py pz pt : Pos} {kt k2 pt2} (hc : X.calm = true) (hN : X.N.Nodup) (hij : i ≠ j) (hil : i ≠ l) (hjl : j ≠ l) (ha : QA X W [a, b, c] tt) (hi : X.N[i]? = some x := by rfl) (hj : X.N[j]? = some y := by rfl) (hl : X.N[l]? = some z := by rfl)
    (hx : X.env.scope.names.lookup x = some .local := by rfl) (hy : X.env.scope.names.lookup y = some .local := by rfl) (hz : X.env.scope.names.lookup z = some .local := by rfl)
    (hw : swappedStores [.Tuple [.Name x px, .Name y py, .Name z pz] kt pt] (.Tuple [a, b, c] k2 pt2) X.env = pure (some [x, y, z]) := by rfl)
    (hs : swapsWithSole [.Tuple [.Name x px, .Name y py, .Name z pz] kt pt] (.Tuple [a, b, c] k2 pt2) pos.line X.env = pure false := by rfl) :
    QS X W (.Assign [.Tuple [.Name x px, .Name y py, .Name z pz] kt pt] (.Tuple [a, b, c] k2 pt2) pos) (sPr3 i j l tt) := ps_weak (ps_par3 hc hN hi hj hl hij hil hjl hx hy hz ha hw hs) fun D σ H ⟨σ', M, D', hs, hm, q, L⟩ =>
  ⟨σ', M, _, _, hs, hm, q, fun ds M1 vs H1 t1 r1 s1 ⟨d, e, f, ed, q1⟩ => by
    subst ed
    obtain ⟨x, r, rfl, r2, r5⟩ := r1
    obtain ⟨y, z, rfl, r3, r4⟩ := two_of r5
    exact ⟨x, y, z, rfl, L.nx _ M1 _ H1 t1 ((((hs.mono t1).set i r2).set j r3).set l r4) s1 q1⟩, L.x hs⟩
/-- name op= e -/
def sAu (i : Nat) (r : R22) (te : TE2) : TS2 := fun D σ M => ∃ d, σ[i]? = some (some d) ∧ te σ M (fun e M1 => r d e M1 fun z M2 => D.nx (σ.set i (some z)) M2) (D.xx σ)
theorem qs_aug {i : Nat} {x : Str} {op : Operator} {r : R22} {pos' : Pos} (hN : X.N.Nodup) (he : QE X W e te) (ho : PIp X op (lfR X.K r)) (hi : X.N[i]? = some x := by rfl) (hx : Loc X.env.scope x := by first | exact Or.inl rfl | exact Or.inr rfl)
    (hf : X.fn x = true ∨ X.env.scope.names.lookup x = some .local := by first | exact .inl rfl | exact .inr rfl | assumption) : QS X W (.AugAssign (.Name x pos') op e pos) (sAu i r te) :=
  ps_weak (ps_aug hN hi hx he ho hf) fun D σ H ⟨σ', M, D', hs, hm, ⟨d, ed, q⟩, L⟩ => by
    obtain ⟨v, ev, rv⟩ := hs.at_ i d ed
    exact ⟨v, ev, σ', M, _, _, hs, hm, q, fun e M1 y H1 t1 r1 s1 q1 => ⟨d, e, M1, _, rv.mono t1, r1, s1, q1, fun z M2 w H2 t2 r2 s2 q2 => L.nx _ M2 _ H2 (t1.trans t2) (((hs.mono t1).mono t2).set i r2) s2 q2⟩, L.x hs⟩
def sWh (c : TT2) (tb : TS2) : TS2 := fun D σ M => ∃ W : Nat → St2 → Ms → Prop, (∃ m, W m σ M) ∧ ∀ m σ M, W m σ M →
  c σ M (fun b M1 => if b = true then ∃ N : St2 → Ms → Prop, (∀ σ' M', N σ' M' → ∃ m', m' < m ∧ W m' σ' M') ∧ tb { D with nx := N, ct := N, bk := D.nx } σ M1 else D.nx σ M1) (D.xx σ)
theorem qs_while {body : List Stmt} (hp : PassesOwn (model X.prog X.w) X.A X.env X.xe) (hc : QT X W c tA) (hb : QSs X W body t) : QS X W (.While c body [] pos) (sWh tA t) := ps_weak (ps_while hp hc hb) fun D σ H ⟨σ', M, D', hs, hm, ⟨W0, ⟨m0, w0⟩, turn⟩, L⟩ => by
  refine ⟨fun m σ1 H1 => ∃ σ1' M1, Tx X.K H H1 ∧ SimS X.K H1 σ1' σ1 ∧ SimM X.K H1 M1 ∧ W0 m σ1' M1, ⟨m0, σ', M, Tx.refl, hs, hm, w0⟩, ?_⟩
  rintro m σ1 H1 ⟨σ1', M1, t1, s1, m1, w1⟩
  refine ⟨σ1', M1, _, _, s1, m1, turn m σ1' M1 w1, fun b M2 H2 t2 m2 q2 => ?_, (L.mono t1).x s1⟩
  cases b with
  | true =>
    obtain ⟨N, hN, q2⟩ := q2
    refine ⟨fun σ3 H3 => ∃ σ3' M3, Tx X.K H H3 ∧ SimS X.K H3 σ3' σ3 ∧ SimM X.K H3 M3 ∧ N σ3' M3, fun σ3 H3 ⟨σ3', M3, t3, s3, m3, n3⟩ => ?_, ?_⟩
    · obtain ⟨m', lt, w'⟩ := hN σ3' M3 n3
      exact ⟨m', lt, σ3', M3, t3, s3, m3, w'⟩
    · have T2 := t1.trans t2
      exact ⟨σ1', M2, _, s1.mono t2, m2, q2, fun σ3' M3 σ3 H3 t3 s3 m3 n3 => ⟨σ3', M3, T2.trans t3, s3, m3, n3⟩, (L.mono T2).rt, fun σ3' M3 σ3 H3 t3 s3 m3 n3 => (L.mono T2).nx σ3' M3 σ3 H3 t3 s3 m3 n3,
        fun σ3' M3 σ3 H3 t3 s3 m3 n3 => ⟨σ3', M3, T2.trans t3, s3, m3, n3⟩, (L.mono T2).ex⟩
  | false => exact L.nx σ1' M2 σ1 H2 (t1.trans t2) (s1.mono t2) m2 q2

/-! ### walks -/
structure It2 where
  go : Nat → Ms → Prop
  yld : Nat → Ms → Tr → Prop
  stop : Nat → Ms → Prop
abbrev TI2 := St2 → Ms → (It2 → Ms → Prop) → X2 → Prop
/-- the walk J over the heap is the walk J2 over the store, from H on -/
def ItOk (K : PySem.W.Frag) (H : Hp) (J : It) (J2 : It2) : Prop := ∀ H1 M, Tx K H H1 → SimM K H1 M → (∀ i, J2.stop i M → J.stop i H1) ∧ (∀ i, J2.go i M → J.go i H1) ∧
  ∀ i x H2, J2.go i M → J.yld i H1 x H2 → Tx K H1 H2 ∧ SimM K H2 M ∧ ∃ d, Rep K H2 d x ∧ J2.yld i M d
def LkI (K : PySem.W.Frag) (H : Hp) (R' : It2 → Ms → Prop) (R : It → Hp → Prop) : Prop := ∀ J2 M J H1, Tx K H H1 → SimM K H1 M → ItOk K H1 J J2 → R' J2 M → R J H1
def lfI (K : PySem.W.Frag) (W : L2.WX) (t : TI2) : TI := fun σ H R => ∃ σ' M R' E', SimS K H σ' σ ∧ SimM K H M ∧ t σ' M R' E' ∧ LkI K H R' R ∧ LkX K H E' W σ
abbrev QI (X : Cx) (W : L2.WX) (tg e : Expr) (t : TI2) : Prop := PI X tg e (lfI X.K W t)
def sFo (wi : TI2) (g : TG2) (tb : TS2) : TS2 := fun D σ M => wi σ M (fun J M1 => ∃ W : Nat → Nat → St2 → Ms → Prop, (∃ m, W 0 m σ M1) ∧ ∀ i m σ M, W i m σ M →
  (J.stop i M ∧ D.nx σ M) ∨ (J.go i M ∧ ∃ N : St2 → Ms → Prop, (∀ σ' M', N σ' M' → ∃ m', m' < m ∧ W (i + 1) m' σ' M') ∧ ∀ d, J.yld i M d → g d σ M fun σ2 M2 => tb { D with nx := N, ct := N, bk := D.nx } σ2 M2)) (D.xx σ)
theorem qs_for {body : List Stmt} {wi : TI2} (hp : PassesOwn (model X.prog X.w) X.A X.env X.xe) (hc : X.calm = true) (hi : QI X W tg e wi) (hg : QG X tg g js) (hb : QSs X W body t)
    (hs : ∀ x, foldedSetIterable e X.env x = pure x := by intro _; rfl) : QS X W (.For tg e body [] pos) (sFo wi g t) := ps_weak (ps_for hp hc hi hg hb hs) fun D σ H ⟨σ', M, D', hs, hm, q, L⟩ => by
  refine ⟨σ', M, _, _, hs, hm, q, fun J2 M1 J H1 t1 m1 ok ⟨W0, ⟨m0, w0⟩, turn⟩ => ?_, L.x hs⟩
  refine ⟨fun i m σ2 H2 => ∃ σ2' M2, Tx X.K H1 H2 ∧ SimS X.K H2 σ2' σ2 ∧ SimM X.K H2 M2 ∧ W0 i m σ2' M2, ⟨m0, σ', M1, Tx.refl, hs.mono t1, m1, w0⟩, ?_⟩
  rintro i m σ2 H2 ⟨σ2', M2, t2, s2, m2, w2⟩
  obtain ⟨o1, o2, o3⟩ := ok H2 M2 t2 m2
  rcases turn i m σ2' M2 w2 with ⟨st, q2⟩ | ⟨go, N, hN, q2⟩
  · exact .inl ⟨o1 i st, L.nx σ2' M2 σ2 H2 (t1.trans t2) s2 m2 q2⟩
  · refine .inr ⟨o2 i go, fun σ3 H3 => ∃ σ3' M3, Tx X.K H1 H3 ∧ SimS X.K H3 σ3' σ3 ∧ SimM X.K H3 M3 ∧ N σ3' M3, fun σ3 H3 ⟨σ3', M3, t3, s3, m3, n3⟩ => ?_, fun x H3 y => ?_⟩
    · obtain ⟨m', lt, w'⟩ := hN σ3' M3 n3
      exact ⟨m', lt, σ3', M3, t3, s3, m3, w'⟩
    · obtain ⟨t3, m3, d, rd, yd⟩ := o3 i x H3 go y
      have T3 := t2.trans t3
      exact ⟨d, σ2', M2, _, rd, s2.mono t3, m3, q2 d yd, fun σ4' M4 σ4 H4 t4 s4 m4 _ q4 => ⟨σ4', M4, _, s4, m4, q4, fun σ5' M5 σ5 H5 t5 s5 m5 n5 => ⟨σ5', M5, (T3.trans t4).trans t5, s5, m5, n5⟩,
        (L.mono (t1.trans (T3.trans t4))).rt, fun σ5' M5 σ5 H5 t5 s5 m5 n5 => (L.mono (t1.trans (T3.trans t4))).nx σ5' M5 σ5 H5 t5 s5 m5 n5, fun σ5' M5 σ5 H5 t5 s5 m5 n5 => ⟨σ5', M5, (T3.trans t4).trans t5, s5, m5, n5⟩, (L.mono (t1.trans (T3.trans t4))).ex⟩⟩
/-- items known ahead, while ok -/
def itL (ds : List Tr) (ok : Ms → Prop) : It2 := ⟨fun i M => ok M ∧ i < ds.length, fun i _ d => ds[i]? = some d, fun i M => ok M ∧ ds.length ≤ i⟩
theorem for_itL {ds : List Tr} {ok : Ms → Prop} {D : Ends2} {σ : St2} {M : Ms} (Pv : Nat → St2 → Ms → Prop) (h0 : Pv 0 σ M) (hok : ∀ i σ M, i ≤ ds.length → Pv i σ M → ok M)
    (hs : ∀ i d σ M, ds[i]? = some d → Pv i σ M → g d σ M fun σ2 M2 => t { D with nx := Pv (i + 1), ct := Pv (i + 1), bk := D.nx } σ2 M2) (hd : ∀ σ M, Pv ds.length σ M → D.nx σ M) :
    ∃ W : Nat → Nat → St2 → Ms → Prop, (∃ m, W 0 m σ M) ∧ ∀ i m σ M, W i m σ M → ((itL ds ok).stop i M ∧ D.nx σ M) ∨ ((itL ds ok).go i M ∧ ∃ N : St2 → Ms → Prop, (∀ σ' M', N σ' M' → ∃ m', m' < m ∧ W (i + 1) m' σ' M') ∧
      ∀ d, (itL ds ok).yld i M d → g d σ M fun σ2 M2 => t { D with nx := N, ct := N, bk := D.nx } σ2 M2) := by
  refine ⟨fun i m σ M => m = ds.length - i ∧ i ≤ ds.length ∧ Pv i σ M, ⟨ds.length, by simp, Nat.zero_le _, h0⟩, ?_⟩
  rintro i m σ M ⟨rfl, hi, p⟩
  by_cases lt : i < ds.length
  · exact .inr ⟨⟨hok i σ M hi p, lt⟩, Pv (i + 1), fun σ' M' p' => ⟨ds.length - (i + 1), by omega, rfl, lt, p'⟩, fun d y => hs i d σ M y p⟩
  · have e : i = ds.length := by omega
    subst e
    exact .inl ⟨⟨hok _ σ M hi p, Nat.le_refl _⟩, hd σ M p⟩
end
end T

/-! T, fifth part: what is walked. -/
namespace T
open PySem PySem.Spec L2

/-! ### enumerate(x) of one argument, x begun by an iterator -/
theorem enum1_new {v : Value} {o : Obj} {Hh : Heap → Prop} (B : Begins v o Hh) :
    Meets (Builtin.«enumerate.__new__» ⟨[.type "enumerate", v], []⟩) (fun _ R s => Hh s.heap ∧
      R (.ok (.ret (.ref (s.heap.push o).objs.size))) { s with heap := (s.heap.push o).push { cls := .type "enumerate", data := .fields #[.none, .bool false, .ref s.heap.objs.size, rawInt 0, .none, .none] } }) := by
  refine .of_wp fun prog w A R s hh => ?_
  obtain ⟨hp, g, d, tk, os⟩ := s
  obtain ⟨h1, h⟩ := hh
  have sb := sub_enumerate
  have it1 : ∀ {A1 : Around} {E1 : Value → Shared → Prop} {Q1 : Value → Shared → Prop}, Q1 (.ref hp.objs.size) ⟨hp.push o, g, d, tk, os⟩ → wpAny (model prog w) A1 (pyIter v) Q1 E1 ⟨hp, g, d, tk, os⟩ :=
    fun q => B.iter prog w _ _ ⟨hp, g, d, tk, os⟩ _ h1 q
  wp_walk using it1
  refine wpAny_stack_any fun st => wpAny_pure ?_
  split
  · rename_i c _ _ _ _ _
    cases (c == Value.type "enumerate")
    · wp_walk using it1
      exact ⟨_, rfl, h⟩
    · wp_walk using it1
      exact ⟨_, rfl, h⟩
  · wp_walk using it1
    exact ⟨_, rfl, h⟩
theorem enum1_call {prog : Program} {w : World} {A : Around} {E : Value → Shared → Prop} {s : Shared} {v : Value} {o : Obj} {Hh : Heap → Prop} {Q : Value → Shared → Prop} (B : Begins v o Hh) (h1 : Hh s.heap)
    (h : ∀ h', IsEnum h' (s.heap.objs.size + 1) s.heap.objs.size 0 .none → h'.get? s.heap.objs.size = some o → (∀ b ob, s.heap.get? b = some ob → h'.get? b = some ob) → Q (.ref (s.heap.objs.size + 1)) { s with heap := h' }) :
    wpAny (model prog w) A (call (.type "enumerate") [v]) Q E s := by
  refine callType_new F.called_enumerate (by decide) (F.typeCall_enumerate_1 _) (F.newCall_enumerate_1 _) (fun obj => F.args_object_init_2 obj _) F.entry_enumerate_new (enum1_new B) ⟨h1, ?_⟩
  have hz : (s.heap.push o).objs.size = s.heap.objs.size + 1 := Heap.size_push ..
  show _ ∧ _
  rw [hz]
  have he : IsEnum ((s.heap.push o).push { cls := .type "enumerate", data := .fields #[.none, .bool false, .ref s.heap.objs.size, rawInt 0, .none, .none] }) (s.heap.objs.size + 1) s.heap.objs.size 0 .none := by
    have := Heap.get?_push_size (s.heap.push o) (o := { cls := .type "enumerate", data := .fields #[.none, .bool false, .ref s.heap.objs.size, rawInt 0, .none, .none] }) rfl
    rw [hz] at this; exact this
  exact ⟨⟨_, he, rfl⟩, h _ he (Heap.get?_push_of_some _ (Heap.get?_push_size _ B.free)) fun b ob x => Heap.get?_push_of_some _ (Heap.get?_push_of_some _ x)⟩
/-- the tuple at a, each item in a new pair -/
def IteT (K : PySem.W.Frag) (a : Addr) : It where
  go := fun i H => ∃ (xs : List V) (x : V), SqT K H a xs ∧ xs[i]? = some x
  yld := fun i H v H' => ∃ (T : Addr) (x : V), v = .ref T ∧ H T = none ∧ H' = upd H T (.tup [.int (i : Nat), x]) ∧ ∀ xs, SqT K H a xs → xs[i]? = some x
  stop := fun i H => ∃ xs : List V, SqT K H a xs ∧ xs.length ≤ i
theorem turn_enumT {P : Program} {w : World} {K : PySem.W.Frag} {elts : List Expr} {kk : Nat} {tpos : Pos} (a e it : Addr) :
    Turn P w K (.Tuple elts kk tpos) (IteT K a) [e, it] e (fun i h => (∃ old, IsEnum h e it ((i : Nat) : Int) old) ∧ h.IsTupleIter it a i ∧ e ≠ it) where
  mem := by simp
  obj := by
    rintro i h ⟨⟨old, he⟩, ⟨o, ho, hc, hd⟩, _⟩ b hb
    have c : b = e ∨ b = it := by simpa using hb
    rcases c with rfl | rfl
    · exact ⟨_, he, fun v q => nomatch q⟩
    · exact ⟨o, ho, fun v q => by rw [hd] at q; cases q⟩
  keep := by
    rintro i h h' ⟨⟨old, he⟩, ⟨o, ho, r⟩, hne⟩ k
    exact ⟨⟨old, k e (by simp) _ he⟩, ⟨o, k it (by simp) _ ho, r⟩, hne⟩
  item := by
    intro X hP hw hK hc i pins s σ H E I hf st hg
    subst hP hw hK
    obtain ⟨⟨old, he⟩, hit, hne⟩ := st
    obtain ⟨xs, x, hq, hx⟩ := hg
    obtain ⟨its, rv, p, hz⟩ := I.tuple hq
    obtain ⟨u, hu, ru⟩ := rv.get hx
    have hel : e < s.heap.objs.size := Heap.lt_size he
    have hil : it < s.heap.objs.size := by obtain ⟨_, q, _⟩ := hit; exact Heap.lt_size q
    have p' : s.heap.IsTuple a its.toArray := p
    have hai : a ≠ it := by
      rintro rfl
      obtain ⟨o1, e1, c1, _⟩ := p'
      obtain ⟨o2, e2, c2, _⟩ := hit
      rw [e1] at e2; cases e2
      rw [c1] at c2; injection c2 with c3; exact absurd c3 (by decide)
    have hea : e ≠ a := by
      rintro rfl
      obtain ⟨o1, e1, c1, _⟩ := p'
      rw [he] at e1; cases e1
      injection c1 with c3; exact absurd c3 (by decide)
    have hlt : i < its.toArray.size := by
      have := (List.getElem?_eq_some_iff.mp hu).1
      simpa using this
    refine wpAny_pyNext_enum_itemD (Draws.tuple (A := X.A.in1) (show X.A.in1.handled = none from I.ok.hd hc) it a hai its.toArray) he ⟨hit, p'⟩ hlt hne (by simp [hne, hea]) fun y h' tk hy ho st' hT hsz hk => ?_
    have hyu : y = u := by
      have q1 : its[i]? = some y := by simpa using hy
      rw [hu] at q1; exact (Option.some.inj q1).symm
    subst hyu
    refine ⟨_, rfl, wpAny_letOwnedTupleGo_enum (s := { s with heap := h', toks := tk + 1 }) ho fun h'' he' sb => ?_⟩
    have hT2 : h''.get? s.heap.objs.size = some { cls := .type "tuple", data := .seq #[.int i tk, y] } := (sb.2 _ (Nat.ne_of_gt hel)).trans hT
    have new : ObjOk X.prog X.w (upd H s.heap.objs.size (.tup [.int (i : Nat), x])) h'' s.heap.objs.size (.tup [.int (i : Nat), x]) :=
      ⟨by show 2 ≤ sizeLine; decide, [.int i tk, y], .cons ⟨_, rfl⟩ (.cons ru .nil), ⟨_, hT2, rfl, _, rfl⟩⟩
    have I1 : Inv X pins σ (upd H s.heap.objs.size (.tup [.int (i : Nat), x])) { s with heap := h'', toks := tk + 1 } :=
      I.turnedNew (ch := [e, it]) (fun b ob hb q => (sb.2 b (fun z => hb (by simp [z]))).trans (hk b ob (fun z => hb (by simp [z])) (fun z => hb (by simp [z])) q)) hf (Nat.le_refl _) new
    refine ⟨.ref s.heap.objs.size, _, I1, rfl, ⟨_, x, rfl, I.hok.fresh (Nat.le_refl _), rfl, fun ys hy => by rw [I.tuple_inj hy hq]; exact hx⟩, ⟨⟨y, ?_⟩, ?_, hne⟩, fun b hb => ?_⟩
    · have e1 : ((i + 1 : Nat) : Int) = (i : Int) + 1 := by omega
      rw [e1]; exact he'
    · obtain ⟨o, q, r⟩ := st'.1
      exact ⟨o, (sb.2 it (Ne.symm hne)).trans q, r⟩
    · have hb' : b < s.heap.objs.size := by
        have c : b = e ∨ b = it := by simpa using hb
        rcases c with rfl | rfl
        · exact hel
        · exact hil
      rw [upd_ne (Nat.ne_of_lt hb')]
      exact (hf b hb).1
  done := by
    intro X hP hw hK hc i pins s σ H E I hf st hg
    subst hP hw hK
    obtain ⟨⟨old, he⟩, hit, hne⟩ := st
    obtain ⟨xs, hq, hx⟩ := hg
    obtain ⟨its, rv, p, hz⟩ := I.tuple hq
    have p' : s.heap.IsTuple a its.toArray := p
    have hai : a ≠ it := by
      rintro rfl
      obtain ⟨o1, e1, c1, _⟩ := p'
      obtain ⟨o2, e2, c2, _⟩ := hit
      rw [e1] at e2; cases e2
      rw [c1] at c2; injection c2 with c3; exact absurd c3 (by decide)
    obtain ⟨f0, f1, f2, f3, f4, f5⟩ := hf it (by simp)
    have hl := rv.length
    -- the end: no item at i
    have hT : s.TypeIs (.ref e) "enumerate" := ⟨_, he, rfl⟩
    unfold pyNext
    refine wpAny_bind (wpAny_attempt (wpAny_callSpecial?_slot (name := Str.ofString "__next__") hT F.slot_enumerate_next
      (wpAny_call_entry F.slot_enumerate_next hT F.entry_enumerate_next ?_ (F.args_enumerate_next_1 _))))
    show wpAny _ _ (field (.ref e) 2 >>= _) _ _ _
    refine wpAny_bind (wpAny_field he rfl (x := .ref it) rfl ?_)
    refine wpAny_bind (wpAny_nextOf_tuple_end (show X.A.in1.handled = none from I.ok.hd hc) hit p' (by simp; omega) fun h' x eb hx' => ?_)
    obtain ⟨o, ho, hcl⟩ := hx'
    refine wpAny_bind (wpAny_isInstance (T := "StopIteration") (b := true) ⟨o, ho, hcl⟩ isSubtype_stop ?_)
    exact wpAny_pure ⟨rfl, I.turned (t' := s.toks) (fun b ob hb q => eb b ob hb q) f0 f1 f3 f4 f5⟩
  self := by
    rintro A i s Q E ⟨⟨_, he⟩, _⟩ h
    exact wpAny_pyIter_enum he h
section
variable {X : Cx}
/-- enumerate(x), x a list or a tuple -/
def iEnumA (K : PySem.W.Frag) (ta : TA) : TI := fun σ H R => ta σ H fun vs H1 => ∃ a xs, vs = [.ref a] ∧ ((SqL K H1 a xs ∧ R (Ite K a) H1) ∨ (SqT K H1 a xs ∧ R (IteT K a) H1))
theorem pi_enumA {e : Expr} {ta : TA} {p pos tpos : Pos} {elts : List Expr} {kk : Nat} (hg : Gl X "enumerate") (hm : X.mg "enumerate" = none) (ha : PA X [e] ta) (hs : starEach [e] X.env = [(false, eval e X.env)] := by rfl) :
    PI X (.Tuple elts kk tpos) (.Call (.Name "enumerate" p) [e] [] pos) (iEnumA X.K ta) := by
  refine ⟨fun pins s σ H R I h => ?_⟩
  refine PyProof.Rows.Call_ (ld_blt I hg hm PyProof.Rows.boot_enumerate (PyProof.Rows.callWith_type1 (thn (ha.run pos pins s σ H _ I h) fun us s1 ⟨vs, H1, I1, r1, q1⟩ => ?_) hs rfl))
  obtain ⟨a, xs, ex, hq⟩ := q1
  subst ex
  cases r1 with
  | cons r rr =>
    cases rr
    cases r
    have fp2 : ∀ b ∈ [s1.heap.objs.size + 1, s1.heap.objs.size], FpOk X pins H1 b := fun b hb => by
      have c : b = s1.heap.objs.size + 1 ∨ b = s1.heap.objs.size := by simpa using hb
      have hle : s1.heap.objs.size ≤ b := by
        rcases c with z | z
        · rw [z]; exact Nat.le_add_right _ _
        · rw [z]; exact Nat.le_refl _
      exact I1.fpOk hle (I1.hok.fresh hle)
    rcases hq with ⟨hq, q⟩ | ⟨hq, q⟩
    · obtain ⟨its, rv, p', hz⟩ := I1.list hq
      refine enum1_call (begins_list a its.toArray) p'.isList fun h' he ho hk => wpAny_pyIter_enum he ?_
      exact ⟨s1.heap.objs.size + 1, [s1.heap.objs.size + 1, s1.heap.objs.size], _, _, H1, rfl, I1.kept (t' := s1.toks) hk, turn_enum a (s1.heap.objs.size + 1) s1.heap.objs.size, ⟨⟨.none, he⟩, ⟨_, ho, rfl, rfl⟩, Nat.succ_ne_self _⟩, fp2, q⟩
    · obtain ⟨its, rv, p', hz⟩ := I1.tuple hq
      refine enum1_call (begins_tuple a its.toArray) p' fun h' he ho hk => wpAny_pyIter_enum he ?_
      exact ⟨s1.heap.objs.size + 1, [s1.heap.objs.size + 1, s1.heap.objs.size], _, _, H1, rfl, I1.kept (t' := s1.toks) hk, turn_enumT a (s1.heap.objs.size + 1) s1.heap.objs.size, ⟨⟨.none, he⟩, ⟨_, ho, rfl, rfl⟩, Nat.succ_ne_self _⟩, fp2, q⟩
/-- a list, a tuple or a text walked -/
def iAny (K : PySem.W.Frag) (te : TE) : TI := fun σ H R => te σ H fun x H1 => (∃ a xs, x = .ref a ∧ ((SqL K H1 a xs ∧ R (Itl K a) H1) ∨ (SqT K H1 a xs ∧ R (Itt K a) H1))) ∨ ∃ z, x = .str z ∧ R (Its z) H1
theorem pi_any {tg l : Expr} {te : TE} (hl : PE X l te) : PI X tg l (iAny X.K te) := by
  refine ⟨fun pins s σ H R I h => ?_⟩
  refine thn (hl.run pins s σ H _ I h) fun v s1 ⟨x, H1, I1, r1, q1⟩ => ?_
  rcases q1 with ⟨a, xs, e, q1⟩ | ⟨z, e, q1⟩
  · subst e
    cases r1
    have fp1 : ∀ b ∈ [s1.heap.objs.size], FpOk X pins H1 b := fun b hb => by
      have e : b = s1.heap.objs.size := by simpa using hb
      subst e
      exact I1.fpOk (Nat.le_refl _) (I1.hok.fresh (Nat.le_refl _))
    rcases q1 with ⟨hq, q⟩ | ⟨hq, q⟩
    · obtain ⟨its, rv, p, hz⟩ := I1.list hq
      refine wpAny_pyIter_list p.isList ?_
      exact ⟨s1.heap.objs.size, [s1.heap.objs.size], _, _, H1, rfl, I1.kept (t' := s1.toks) fun b o e => Heap.get?_push_of_some _ e, turn_list a _, ⟨_, Heap.get?_push_size _ rfl, rfl, rfl⟩, fp1, q⟩
    · obtain ⟨its, rv, p, hz⟩ := I1.tuple hq
      refine wpAny_pyIter_tuple (show s1.heap.IsTuple a its.toArray from p) ?_
      exact ⟨s1.heap.objs.size, [s1.heap.objs.size], _, _, H1, rfl, I1.kept (t' := s1.toks) fun b o e => Heap.get?_push_of_some _ e, turn_tuple a _, ⟨_, Heap.get?_push_size _ rfl, rfl, rfl⟩, fp1, q⟩
  · subst e
    obtain ⟨t, rfl⟩ := r1
    refine wpAny_pyIter_strU ?_
    refine pi_one (tk := s1.toks) I1 _ (turn_str s1.heap.objs.size z t (strIterType z) ?_) ⟨_, Heap.get?_push_size _ rfl, rfl, rfl⟩ q1
    unfold strIterType
    split
    · exact .inl rfl
    · exact .inr rfl
end
end T

/-! T, sixth part: walks and comprehensions over trees, calls, defs, errors, the law's end. -/
namespace T
open PySem PySem.Spec L2
section
variable {X : Cx} {W : L2.WX} {pos p : Pos} {tg e a b c : Expr} {es : List Expr} {te ta tb : TE2} {tt : TA2}

/-! ### what is walked -/
/-- the items of a tree: a tuple's, a list's, the signs of a text -/
def seqS : Tr → Ms → Option (List Tr)
  | .str z, _ => some (z.cps.toList.map fun k => .str ⟨#[k]⟩)
  | d, M => seqT d M
def iSq (te : TE2) : TI2 := fun σ M R E => te σ M (fun d M1 => ∃ ds, seqS d M1 = some ds ∧ R (itL ds fun M => seqS d M = some ds) M1) E
theorem itl_ok {K : PySem.W.Frag} {H : Hp} {a : Addr} {d : Tr} {ds : List Tr} (h : ∀ H1 M, Tx K H H1 → SimM K H1 M → seqS d M = some ds → ∃ xs, SqL K H1 a xs ∧ RepL K H1 ds xs) : ItOk K H (Itl K a) (itL ds fun M => seqS d M = some ds) := fun H1 M t sm => by
  refine ⟨fun i ⟨o, hi⟩ => ?_, fun i ⟨o, hi⟩ => ?_, fun i x H2 ⟨o, hi⟩ ⟨e, y⟩ => ?_⟩
  · obtain ⟨xs, sq, rl⟩ := h H1 M t sm o
    exact ⟨xs, sq, by rw [← rl.len]; exact hi⟩
  · obtain ⟨xs, sq, rl⟩ := h H1 M t sm o
    obtain ⟨x, e, _⟩ := rl.get (i := i) (d := ds[i]) (by simp [hi])
    exact ⟨xs, x, sq, e⟩
  · subst e
    obtain ⟨xs, sq, rl⟩ := h _ M t sm o
    obtain ⟨d', e', r⟩ := rl.back (y xs sq)
    exact ⟨Tx.refl, sm, d', r, e'⟩
theorem itt_ok {K : PySem.W.Frag} {H : Hp} {a : Addr} {ds : List Tr} {ok : Ms → Prop} (h : ∀ H1, Tx K H H1 → ∃ xs, SqT K H1 a xs ∧ RepL K H1 ds xs) : ItOk K H (Itt K a) (itL ds ok) := fun H1 M t sm => by
  obtain ⟨xs, sq, rl⟩ := h H1 t
  refine ⟨fun i ⟨_, hi⟩ => ⟨xs, sq, by rw [← rl.len]; exact hi⟩, fun i ⟨_, hi⟩ => ?_, fun i x H2 ⟨_, hi⟩ ⟨e, y⟩ => ?_⟩
  · obtain ⟨x, e, _⟩ := rl.get (i := i) (d := ds[i]) (by simp [hi])
    exact ⟨xs, x, sq, e⟩
  · subst e
    obtain ⟨d', e', r⟩ := rl.back (y xs sq)
    exact ⟨Tx.refl, sm, d', r, e'⟩
theorem its_ok {K : PySem.W.Frag} {H : Hp} {z : Str} {ok : Ms → Prop} : ItOk K H (Its z) (itL (z.cps.toList.map fun k => .str ⟨#[k]⟩) ok) := fun H1 M t sm => by
  refine ⟨fun i ⟨_, hi⟩ => ?_, fun i ⟨_, hi⟩ => ?_, fun i x H2 ⟨_, hi⟩ ⟨e, k, ek, ev⟩ => ?_⟩
  · show z.cps.size ≤ i
    simpa using hi
  · show i < z.cps.size
    simpa using hi
  · subst e
    subst ev
    refine ⟨Tx.refl, sm, .str ⟨#[k]⟩, rfl, ?_⟩
    show (z.cps.toList.map fun k => Tr.str ⟨#[k]⟩)[i]? = _
    rw [List.getElem?_map]
    have : z.cps.toList[i]? = some k := by simpa using ek
    rw [this]; rfl
/-- which list stands at a tree's place -/
theorem seq_cases {K : PySem.W.Frag} {H : Hp} {M : Ms} {d : Tr} {ds : List Tr} {x : V} (e : seqS d M = some ds) (r : Rep K H d x) (sm : SimM K H M) :
    (∃ a xs, x = .ref a ∧ ((SqL K H a xs ∧ ItOk K H (Itl K a) (itL ds fun M => seqS d M = some ds)) ∨ (SqT K H a xs ∧ ItOk K H (Itt K a) (itL ds fun M => seqS d M = some ds)))) ∨ ∃ z, x = .str z ∧ ItOk K H (Its z) (itL ds fun M => seqS d M = some ds) := by
  cases d with
  | str z =>
    cases r
    cases e
    exact .inr ⟨z, rfl, its_ok⟩
  | tup es =>
    obtain ⟨a, xs, rfl, q, rl⟩ := r
    cases e
    exact .inl ⟨a, xs, rfl, .inr ⟨q, itt_ok fun H1 t => ⟨xs, t.tup _ _ q, rl.mono t⟩⟩⟩
  | fro es =>
    obtain ⟨a, xs, rfl, q, rl⟩ := r
    cases e
    exact .inl ⟨a, xs, rfl, .inl ⟨q.sq, itl_ok fun H1 M t _ _ => ⟨xs, (t.fro _ _ q).sq, rl.mono t⟩⟩⟩
  | loc a =>
    cases r
    obtain ⟨xs, hx, rl⟩ := sm a _ (seqT_loc e)
    refine .inl ⟨a, xs, rfl, .inl ⟨SqL.of hx, itl_ok fun H1 M1 t sm1 e1 => ?_⟩⟩
    obtain ⟨ys, hy, rl'⟩ := sm1 a _ (seqT_loc e1)
    exact ⟨ys, SqL.of hy, rl'⟩
  | _ => cases e
theorem qi_any (he : QE X W e te) : QI X W tg e (iSq te) := pi_weak (pi_any he) fun σ H R ⟨σ', M, R', E', hs, hm, q, hq, hx⟩ =>
  ⟨σ', M, _, E', hs, hm, q, fun d M1 x H1 t1 r1 s1 ⟨ds, e1, q1⟩ => by
    rcases seq_cases e1 r1 s1 with ⟨a, xs, ex, h⟩ | ⟨z, ez, h⟩
    · refine .inl ⟨a, xs, ex, ?_⟩
      rcases h with ⟨h1, h2⟩ | ⟨h1, h2⟩
      · exact .inl ⟨h1, hq _ M1 _ H1 t1 s1 h2 q1⟩
      · exact .inr ⟨h1, hq _ M1 _ H1 t1 s1 h2 q1⟩
    · exact .inr ⟨z, ez, hq _ M1 _ H1 t1 s1 h q1⟩, hx⟩
/-- ranges -/
def itR (lo : Int) (n : Nat) : It2 := ⟨fun i _ => i < n, fun i _ d => d = .int (lo + i), fun i _ => n ≤ i⟩
theorem itr_ok {K : PySem.W.Frag} {H : Hp} {lo : Int} {n : Nat} : ItOk K H (Itr lo n) (itR lo n) := fun H1 M t sm => ⟨fun i h => h, fun i h => h, fun i x H2 _ ⟨e, y⟩ => by
  subst e
  subst y
  exact ⟨Tx.refl, sm, .int _, rfl, rfl⟩⟩
def Rg (j : Int) : Prop := -(2 ^ 62) ≤ j ∧ j < 2 ^ 62
def iRg1 (ta : TA2) : TI2 := fun σ M R E => ta σ M (fun ds M1 => ∃ j, ds = [.int j] ∧ Rg j ∧ R (itR 0 j.toNat) M1) E
def iRg2 (ta : TA2) : TI2 := fun σ M R E => ta σ M (fun ds M1 => ∃ i j, ds = [.int i, .int j] ∧ Rg i ∧ Rg j ∧ R (itR i (j - i).toNat) M1) E
theorem qi_range1 (hm : X.mg "range" = none) (ha : QA X W [a] tt) (hg : Gl X "range" := by rfl) (hs : starEach [a] X.env = [(false, eval a X.env)] := by rfl) : QI X W tg (.Call (.Name "range" p) [a] [] pos) (iRg1 tt) :=
  pi_weak (pi_range1 hg hm ha hs) fun σ H R ⟨σ', M, R', E', hs, hm, q, hq, hx⟩ => ⟨σ', M, _, E', hs, hm, q, fun ds M1 xs H1 t1 r1 s1 ⟨j, ej, hj, q1⟩ => by
    subst ej
    obtain ⟨x, rfl, r2⟩ := one_of r1
    cases r2
    exact ⟨j, rfl, hj.1, hj.2, hq _ M1 _ H1 t1 s1 itr_ok q1⟩, hx⟩
theorem qi_range2 (hm : X.mg "range" = none) (ha : QA X W [a, b] tt) (hg : Gl X "range" := by rfl) (hs : starEach [a, b] X.env = [(false, eval a X.env), (false, eval b X.env)] := by rfl) (hs2 : starEach [b] X.env = [(false, eval b X.env)] := by rfl) : QI X W tg (.Call (.Name "range" p) [a, b] [] pos) (iRg2 tt) :=
  pi_weak (pi_range2 hg hm ha hs hs2) fun σ H R ⟨σ', M, R', E', hs, hm, q, hq, hx⟩ => ⟨σ', M, _, E', hs, hm, q, fun ds M1 xs H1 t1 r1 s1 ⟨i, j, ej, hi, hj, q1⟩ => by
    subst ej
    obtain ⟨x, y, rfl, r2, r3⟩ := two_of r1
    cases r2; cases r3
    exact ⟨i, j, rfl, ⟨hi.1, hi.2, hj.1, hj.2⟩, hq _ M1 _ H1 t1 s1 itr_ok q1⟩, hx⟩
/-- enumerate -/
def itE (ds : List Tr) (ok : Ms → Prop) : It2 := ⟨fun i M => ok M ∧ i < ds.length, fun i _ d => ∃ e, ds[i]? = some e ∧ d = .tup [.int i, e], fun i M => ok M ∧ ds.length ≤ i⟩
def iEn (ta : TA2) : TI2 := fun σ M R E => ta σ M (fun es M1 => ∃ d ds, es = [d] ∧ seqT d M1 = some ds ∧ R (itE ds fun M => seqT d M = some ds) M1) E
theorem pair_rep {K : PySem.W.Frag} {H : Hp} {M : Ms} {i : Nat} {x : V} {d : Tr} {T : Addr} (hT : H T = none) (r : Rep K H d x) (sm : SimM K H M) :
    Tx K H (upd H T (.tup [.int (i : Nat), x])) ∧ SimM K (upd H T (.tup [.int (i : Nat), x])) M ∧ Rep K (upd H T (.tup [.int (i : Nat), x])) (.tup [.int i, d]) (.ref T) :=
  ⟨Tx.new hT, sm.hid hT, T, _, rfl, SqT.of upd_same, .int i, [x], rfl, rfl, x, [], rfl, r.mono (Tx.new hT), rfl⟩
theorem ite_ok {K : PySem.W.Frag} {H : Hp} {a : Addr} {d : Tr} {ds : List Tr} (h : ∀ H1 M, Tx K H H1 → SimM K H1 M → seqT d M = some ds → ∃ xs, SqL K H1 a xs ∧ RepL K H1 ds xs) : ItOk K H (Ite K a) (itE ds fun M => seqT d M = some ds) := fun H1 M t sm => by
  refine ⟨fun i ⟨o, hi⟩ => ?_, fun i ⟨o, hi⟩ => ?_, fun i x H2 ⟨o, hi⟩ ⟨T, y, ex, hT, e, hy⟩ => ?_⟩
  · obtain ⟨xs, sq, rl⟩ := h H1 M t sm o
    exact ⟨xs, sq, by rw [← rl.len]; exact hi⟩
  · obtain ⟨xs, sq, rl⟩ := h H1 M t sm o
    obtain ⟨x, e, _⟩ := rl.get (i := i) (d := ds[i]) (by simp [hi])
    exact ⟨xs, x, sq, e⟩
  · subst e
    subst ex
    obtain ⟨xs, sq, rl⟩ := h _ M t sm o
    obtain ⟨d', e', r⟩ := rl.back (hy xs sq)
    obtain ⟨p1, p2, p3⟩ := pair_rep (i := i) hT r sm
    exact ⟨p1, p2, _, p3, d', e', rfl⟩
theorem itet_ok {K : PySem.W.Frag} {H : Hp} {a : Addr} {ds : List Tr} {ok : Ms → Prop} (h : ∀ H1, Tx K H H1 → ∃ xs, SqT K H1 a xs ∧ RepL K H1 ds xs) : ItOk K H (IteT K a) (itE ds ok) := fun H1 M t sm => by
  obtain ⟨xs, sq, rl⟩ := h H1 t
  refine ⟨fun i ⟨_, hi⟩ => ⟨xs, sq, by rw [← rl.len]; exact hi⟩, fun i ⟨_, hi⟩ => ?_, fun i x H2 ⟨_, hi⟩ ⟨T, y, ex, hT, e, hy⟩ => ?_⟩
  · obtain ⟨x, e, _⟩ := rl.get (i := i) (d := ds[i]) (by simp [hi])
    exact ⟨xs, x, sq, e⟩
  · subst e
    subst ex
    obtain ⟨d', e', r⟩ := rl.back (hy xs sq)
    obtain ⟨p1, p2, p3⟩ := pair_rep (i := i) hT r sm
    exact ⟨p1, p2, _, p3, d', e', rfl⟩
theorem qi_enum {elts : List Expr} {kk : Nat} {tpos : Pos} (hm : X.mg "enumerate" = none) (ha : QA X W [e] tt) (hg : Gl X "enumerate" := by rfl) (hs : starEach [e] X.env = [(false, eval e X.env)] := by rfl) :
    QI X W (.Tuple elts kk tpos) (.Call (.Name "enumerate" p) [e] [] pos) (iEn tt) := pi_weak (pi_enumA hg hm ha hs) fun σ H R ⟨σ', M, R', E', hs, hm, q, hq, hx⟩ =>
  ⟨σ', M, _, E', hs, hm, q, fun es M1 xs H1 t1 r1 s1 ⟨d, ds, ee, e1, q1⟩ => by
    subst ee
    obtain ⟨x, rfl, r2⟩ := one_of r1
    cases d with
    | tup es =>
      obtain ⟨a, xs, rfl, q, rl⟩ := r2
      cases e1
      exact ⟨a, xs, rfl, .inr ⟨q, hq _ M1 _ H1 t1 s1 (itet_ok fun H2 t => ⟨xs, t.tup _ _ q, rl.mono t⟩) q1⟩⟩
    | fro es =>
      obtain ⟨a, xs, rfl, q, rl⟩ := r2
      cases e1
      exact ⟨a, xs, rfl, .inl ⟨q.sq, hq _ M1 _ H1 t1 s1 (ite_ok fun H2 M2 t _ _ => ⟨xs, (t.fro _ _ q).sq, rl.mono t⟩) q1⟩⟩
    | loc a =>
      cases r2
      obtain ⟨xs, hx, rl⟩ := s1 a _ (seqT_loc e1)
      refine ⟨a, xs, rfl, .inl ⟨SqL.of hx, hq _ M1 _ H1 t1 s1 (ite_ok fun H2 M2 t sm2 e2 => ?_) q1⟩⟩
      obtain ⟨ys, hy, rl'⟩ := sm2 a _ (seqT_loc e2)
      exact ⟨ys, SqL.of hy, rl'⟩
    | _ => exact absurd e1 (by intro z; cases z), hx⟩
theorem for_itE {g : TG2} {t : TS2} {ds : List Tr} {ok : Ms → Prop} {D : Ends2} {σ : St2} {M : Ms} (Pv : Nat → St2 → Ms → Prop) (h0 : Pv 0 σ M) (hok : ∀ i σ M, i ≤ ds.length → Pv i σ M → ok M)
    (hs : ∀ i d σ M, ds[i]? = some d → Pv i σ M → g (.tup [.int i, d]) σ M fun σ2 M2 => t { D with nx := Pv (i + 1), ct := Pv (i + 1), bk := D.nx } σ2 M2) (hd : ∀ σ M, Pv ds.length σ M → D.nx σ M) :
    ∃ W : Nat → Nat → St2 → Ms → Prop, (∃ m, W 0 m σ M) ∧ ∀ i m σ M, W i m σ M → ((itE ds ok).stop i M ∧ D.nx σ M) ∨ ((itE ds ok).go i M ∧ ∃ N : St2 → Ms → Prop, (∀ σ' M', N σ' M' → ∃ m', m' < m ∧ W (i + 1) m' σ' M') ∧
      ∀ d, (itE ds ok).yld i M d → g d σ M fun σ2 M2 => t { D with nx := N, ct := N, bk := D.nx } σ2 M2) := by
  refine ⟨fun i m σ M => m = ds.length - i ∧ i ≤ ds.length ∧ Pv i σ M, ⟨ds.length, by simp, Nat.zero_le _, h0⟩, ?_⟩
  rintro i m σ M ⟨rfl, hi, p⟩
  by_cases lt : i < ds.length
  · refine .inr ⟨⟨hok i σ M hi p, lt⟩, Pv (i + 1), fun σ' M' p' => ⟨ds.length - (i + 1), by omega, rfl, lt, p'⟩, fun d y => ?_⟩
    obtain ⟨e, e1, e2⟩ := y
    subst e2
    exact hs i e σ M e1 p
  · have e : i = ds.length := by omega
    subst e
    exact .inl ⟨⟨hok _ σ M hi p, Nat.le_refl _⟩, hd σ M p⟩
theorem for_itR {g : TG2} {t : TS2} {lo : Int} {n : Nat} {D : Ends2} {σ : St2} {M : Ms} (Pv : Nat → St2 → Ms → Prop) (h0 : Pv 0 σ M)
    (hs : ∀ (i : Nat) σ M, i < n → Pv i σ M → g (.int (lo + i)) σ M fun σ2 M2 => t { D with nx := Pv (i + 1), ct := Pv (i + 1), bk := D.nx } σ2 M2) (hd : ∀ σ M, Pv n σ M → D.nx σ M) :
    ∃ W : Nat → Nat → St2 → Ms → Prop, (∃ m, W 0 m σ M) ∧ ∀ i m σ M, W i m σ M → ((itR lo n).stop i M ∧ D.nx σ M) ∨ ((itR lo n).go i M ∧ ∃ N : St2 → Ms → Prop, (∀ σ' M', N σ' M' → ∃ m', m' < m ∧ W (i + 1) m' σ' M') ∧
      ∀ d, (itR lo n).yld i M d → g d σ M fun σ2 M2 => t { D with nx := N, ct := N, bk := D.nx } σ2 M2) := by
  refine ⟨fun i m σ M => m = n - i ∧ i ≤ n ∧ Pv i σ M, ⟨n, by simp, Nat.zero_le _, h0⟩, ?_⟩
  rintro i m σ M ⟨rfl, hi, p⟩
  by_cases lt : i < n
  · refine .inr ⟨lt, Pv (i + 1), fun σ' M' p' => ⟨n - (i + 1), by omega, rfl, lt, p'⟩, fun d y => ?_⟩
    have y' : d = .int (lo + i) := y
    subst y'
    exact hs i σ M lt p
  · have e : i = n := by omega
    subst e
    exact .inl ⟨Nat.le_refl _, hd σ M p⟩

/-! ### comprehensions -/
abbrev W0 : L2.WX := fun _ _ _ _ => False
def wipe2 (σ : St2) : List Nat → St2
  | [] => σ
  | v :: vs => (wipe2 σ vs).set v none
theorem SimS.wipe {K : PySem.W.Frag} {H : Hp} {σ' : St2} {σ : L2.St} (h : SimS K H σ' σ) : ∀ vs : List Nat, SimS K H (wipe2 σ' vs) (L2.wipe σ vs)
  | [] => h
  | v :: vs => (h.wipe vs).none v
def tYes2 : TT2 := fun _ M Q _ => Q true M
abbrev QTs (X : Cx) (ifs : List Expr) (t : TT2) : Prop := PTs X ifs (lfT X.K W0 t)
theorem pts_weak {ifs : List Expr} {t t' : TT} (h : PTs X ifs t) (w : ∀ σ H Q, t' σ H Q → t σ H Q) : PTs X ifs t' := ⟨fun pins s σ H Q I q => h.run pins s σ H Q I (w σ H Q q)⟩
theorem qts_nil : QTs X [] tYes2 := pts_weak pts_nil fun σ H Q ⟨σ', M, Q', E', hs, hm, q, hq, hx⟩ => hq true M H Tx.refl hm q
theorem qts_one {t : TT2} (h : QT X W0 c t) : QTs X [c] t := pts_one h
def eLc (wi : TI2) (g : TG2) (tt : TT2) (te : TE2) (vs : List Nat) : TE2 := fun σ M Q E => wi σ M (fun J M1 => ∀ p, M1 p = none → ∃ W : Nat → Nat → Ms → Prop, (∃ m, W 0 m (up M1 p (.lst []))) ∧ ∀ i m M, W i m M →
  (J.stop i M ∧ Q (.loc p) M) ∨ (J.go i M ∧ ∃ N : Ms → Prop, (∀ M', N M' → ∃ m', m' < m ∧ W (i + 1) m' M') ∧ ∀ d, J.yld i M d → g d (wipe2 σ vs) M fun σ2 M2 => tt σ2 M2 (fun b M3 =>
    if b = true then te σ2 M3 (fun y M4 => ∃ acc, M4 p = some (.lst acc) ∧ acc.length < sizeLine ∧ N (up M4 p (.lst (acc ++ [y])))) X0 else N M3) X0)) E
theorem lc_low {K : PySem.W.Frag} {wi : TI2} {g : TG2} {js vs : List Nat} {t : TT2} {σ : L2.St} {H : Hp} {Q : VK} (hv : ∀ i ∈ js, i ∈ vs) (h : lfE K W (eLc wi g t te vs) σ H Q) : tLc (lfI K W wi) (lfG K js g) (lfT K W0 t) (lfE K W0 te) vs σ H Q := by
  obtain ⟨σ', M, Q', E', hs, hm, q, hq, hx⟩ := h
  refine ⟨σ', M, _, E', hs, hm, q, fun J2 M1 J H1 t1 m1 ok r D hD => ?_, hx⟩
  obtain ⟨V0, ⟨n0, w0⟩, turn⟩ := r D (m1.free hD)
  refine ⟨fun i m H2 => ∃ M2, Tx K H1 H2 ∧ SimM K H2 M2 ∧ V0 i m M2, ⟨n0, _, Tx.new hD, m1.newL hD RepL.nil, w0⟩, ?_⟩
  rintro i m H2 ⟨M2, t2, m2, w2⟩
  obtain ⟨o1, o2, o3⟩ := ok H2 M2 t2 m2
  rcases turn i m M2 w2 with ⟨st, q2⟩ | ⟨go, N, hN, q2⟩
  · exact .inl ⟨o1 i st, hq (.loc D) M2 (.ref D) H2 (t1.trans t2) rfl m2 q2⟩
  · refine .inr ⟨o2 i go, fun H3 => ∃ M3, Tx K H1 H3 ∧ SimM K H3 M3 ∧ N M3, fun H3 ⟨M3, t3, m3, n3⟩ => ?_, fun x H3 y => ?_⟩
    · obtain ⟨m', lt, w'⟩ := hN M3 n3
      exact ⟨m', lt, M3, t3, m3, w'⟩
    · obtain ⟨t3, m3, d, rd, yd⟩ := o3 i x H3 go y
      have T3 := t2.trans t3
      refine ⟨d, wipe2 σ' vs, M2, _, rd, (hs.mono (t1.trans T3)).wipe vs, m3, q2 d yd, fun σ2' M4 σ2 H4 t4 s4 m4 agr q4 => ⟨agr.wipe hv, σ2', M4, _, X0, s4, m4, q4, fun b M5 H5 t5 m5 q5 => ?_, fun _ _ _ _ _ _ z => False.elim z⟩⟩
      cases b with
      | false => exact ⟨M5, (T3.trans t4).trans t5, m5, q5⟩
      | true =>
        refine ⟨σ2', M5, _, X0, s4.mono t5, m5, q5, fun d6 M6 v6 H6 t6 r6 m6 ⟨acc, ea, hz, n6⟩ => ?_, fun _ _ _ _ _ _ z => False.elim z⟩
        obtain ⟨xs, hxs, rl⟩ := m6 D _ ea
        exact ⟨xs, hxs, by rw [← rl.len]; exact hz, _, (((T3.trans t4).trans t5).trans t6).trans (Tx.lst hxs), m6.setL hxs (rl.app (.one r6)), n6⟩
theorem qe_lc {elt iter : Expr} {ifs : List Expr} {scope : Scope} {own : List (Str × Nat)} {wi : TI2} {g : TG2} {js : List Nat} {t : TT2} (hc : X.calm = true) (hN : X.N.Nodup) (hi : QI X W tg iter wi) (ok : BlkOk X.N X.env.scope scope own) (hv : ∀ i ∈ js, i ∈ own.map (·.2))
    (hg : ∀ (s : Shared) (H : Hp) (C : Addr) (cl : List (Str × Addr)) (fp : List Addr), QG (X.blk s H scope (compEnvC scope cl C X.env) fp) tg g js) (ht : ∀ (s : Shared) (H : Hp) (C : Addr) (cl : List (Str × Addr)) (fp : List Addr), QTs (X.blk s H scope (compEnvC scope cl C X.env) fp) ifs t)
    (he : ∀ (s : Shared) (H : Hp) (C : Addr) (cl : List (Str × Addr)) (fp : List Addr), QE (X.blk s H scope (compEnvC scope cl C X.env) fp) W0 elt te) (hs : ∀ x, foldedSetIterable iter X.env x = pure x := by intro _; rfl) :
    QE X W (.ListComp elt [⟨tg, iter, ifs, 0⟩] scope pos) (eLc wi g t te (own.map (·.2))) := pe_weak (pe_lc hc hN hi ok hg ht he hs) fun σ H Q h => lc_low hv h
theorem qs_setLc {i : Nat} {y : Str} {py : Pos} {elt iter : Expr} {ifs : List Expr} {scope : Scope} {own : List (Str × Nat)} {spos : Pos} {wi : TI2} {g : TG2} {js : List Nat} {t : TT2} (hc : X.calm = true) (hN : X.N.Nodup) (hyl : X.env.scope.names.lookup y = some .local)
    (hsw : swapsWith (.ListComp elt [⟨tg, iter, ifs, 0⟩] scope pos) (some (.Name y py)) spos.line X.env = pure true) (hi : QI X W tg iter wi) (ok : BlkOk X.N X.env.scope scope own) (hv : ∀ i ∈ js, i ∈ own.map (·.2))
    (hg : ∀ (s : Shared) (H : Hp) (C : Addr) (cl : List (Str × Addr)) (fp : List Addr), QG (X.blk s H scope (compEnvC scope cl C X.env) fp) tg g js) (ht : ∀ (s : Shared) (H : Hp) (C : Addr) (cl : List (Str × Addr)) (fp : List Addr), QTs (X.blk s H scope (compEnvC scope cl C X.env) fp) ifs t)
    (he : ∀ (s : Shared) (H : Hp) (C : Addr) (cl : List (Str × Addr)) (fp : List Addr), QE (X.blk s H scope (compEnvC scope cl C X.env) fp) W0 elt te) (hy : X.N[i]? = some y := by rfl) (hs : ∀ x, foldedSetIterable iter X.env x = pure x := by intro _; rfl) :
    QS X W (.Assign [.Name y py] (.ListComp elt [⟨tg, iter, ifs, 0⟩] scope pos) spos) (sAs (eLc wi g t te (own.map (·.2))) (gN i)) := ps_weak (ps_setLc hc hN hy hyl hsw hi ok hg ht he hs) fun D σ H ⟨σ', M, D', hs, hm, q, L⟩ => by
  show tLc _ _ _ _ _ σ H _
  exact lc_low hv ⟨σ', M, _, _, hs, hm, q, fun d M1 v H1 t1 r1 s1 q1 => L.nx _ M1 _ H1 t1 ((hs.mono t1).set i r1) s1 q1, L.x hs⟩
/-! the forms one uses: Pv by the turn and the store -/
theorem lc_itL {g : TG2} {t : TT2} {vs : List Nat} {ds : List Tr} {ok : Ms → Prop} {σ : St2} {M1 : Ms} {p : Addr} {Qd : Ms → Prop} (Pv : Nat → Ms → Prop) (h0 : Pv 0 (up M1 p (.lst []))) (hok : ∀ i M, i ≤ ds.length → Pv i M → ok M)
    (hs : ∀ i d M, ds[i]? = some d → Pv i M → g d (wipe2 σ vs) M fun σ2 M2 => t σ2 M2 (fun b M3 => if b = true then te σ2 M3 (fun y M4 => ∃ acc, M4 p = some (.lst acc) ∧ acc.length < sizeLine ∧ Pv (i + 1) (up M4 p (.lst (acc ++ [y])))) X0 else Pv (i + 1) M3) X0)
    (hd : ∀ M, Pv ds.length M → Qd M) :
    ∃ W : Nat → Nat → Ms → Prop, (∃ m, W 0 m (up M1 p (.lst []))) ∧ ∀ i m M, W i m M → ((itL ds ok).stop i M ∧ Qd M) ∨ ((itL ds ok).go i M ∧ ∃ N : Ms → Prop, (∀ M', N M' → ∃ m', m' < m ∧ W (i + 1) m' M') ∧ ∀ d, (itL ds ok).yld i M d →
      g d (wipe2 σ vs) M fun σ2 M2 => t σ2 M2 (fun b M3 => if b = true then te σ2 M3 (fun y M4 => ∃ acc, M4 p = some (.lst acc) ∧ acc.length < sizeLine ∧ N (up M4 p (.lst (acc ++ [y])))) X0 else N M3) X0) := by
  refine ⟨fun i m M => m = ds.length - i ∧ i ≤ ds.length ∧ Pv i M, ⟨ds.length, by simp, Nat.zero_le _, h0⟩, ?_⟩
  rintro i m M ⟨rfl, hi, q⟩
  by_cases lt : i < ds.length
  · exact .inr ⟨⟨hok i M hi q, lt⟩, Pv (i + 1), fun M' q' => ⟨ds.length - (i + 1), by omega, rfl, lt, q'⟩, fun d y => hs i d M y q⟩
  · have e : i = ds.length := by omega
    subst e
    exact .inl ⟨⟨hok _ M hi q, Nat.le_refl _⟩, hd M q⟩
theorem lc_itE {g : TG2} {t : TT2} {vs : List Nat} {ds : List Tr} {ok : Ms → Prop} {σ : St2} {M1 : Ms} {p : Addr} {Qd : Ms → Prop} (Pv : Nat → Ms → Prop) (h0 : Pv 0 (up M1 p (.lst []))) (hok : ∀ i M, i ≤ ds.length → Pv i M → ok M)
    (hs : ∀ i d M, ds[i]? = some d → Pv i M → g (.tup [.int i, d]) (wipe2 σ vs) M fun σ2 M2 => t σ2 M2 (fun b M3 => if b = true then te σ2 M3 (fun y M4 => ∃ acc, M4 p = some (.lst acc) ∧ acc.length < sizeLine ∧ Pv (i + 1) (up M4 p (.lst (acc ++ [y])))) X0 else Pv (i + 1) M3) X0)
    (hd : ∀ M, Pv ds.length M → Qd M) :
    ∃ W : Nat → Nat → Ms → Prop, (∃ m, W 0 m (up M1 p (.lst []))) ∧ ∀ i m M, W i m M → ((itE ds ok).stop i M ∧ Qd M) ∨ ((itE ds ok).go i M ∧ ∃ N : Ms → Prop, (∀ M', N M' → ∃ m', m' < m ∧ W (i + 1) m' M') ∧ ∀ d, (itE ds ok).yld i M d →
      g d (wipe2 σ vs) M fun σ2 M2 => t σ2 M2 (fun b M3 => if b = true then te σ2 M3 (fun y M4 => ∃ acc, M4 p = some (.lst acc) ∧ acc.length < sizeLine ∧ N (up M4 p (.lst (acc ++ [y])))) X0 else N M3) X0) := by
  refine ⟨fun i m M => m = ds.length - i ∧ i ≤ ds.length ∧ Pv i M, ⟨ds.length, by simp, Nat.zero_le _, h0⟩, ?_⟩
  rintro i m M ⟨rfl, hi, q⟩
  by_cases lt : i < ds.length
  · refine .inr ⟨⟨hok i M hi q, lt⟩, Pv (i + 1), fun M' q' => ⟨ds.length - (i + 1), by omega, rfl, lt, q'⟩, fun d y => ?_⟩
    obtain ⟨e, e1, e2⟩ := y
    subst e2
    exact hs i e M e1 q
  · have e : i = ds.length := by omega
    subst e
    exact .inl ⟨⟨hok _ M hi q, Nat.le_refl _⟩, hd M q⟩
theorem lc_itR {g : TG2} {t : TT2} {vs : List Nat} {lo : Int} {n : Nat} {σ : St2} {M1 : Ms} {p : Addr} {Qd : Ms → Prop} (Pv : Nat → Ms → Prop) (h0 : Pv 0 (up M1 p (.lst [])))
    (hs : ∀ (i : Nat) M, i < n → Pv i M → g (.int (lo + i)) (wipe2 σ vs) M fun σ2 M2 => t σ2 M2 (fun b M3 => if b = true then te σ2 M3 (fun y M4 => ∃ acc, M4 p = some (.lst acc) ∧ acc.length < sizeLine ∧ Pv (i + 1) (up M4 p (.lst (acc ++ [y])))) X0 else Pv (i + 1) M3) X0)
    (hd : ∀ M, Pv n M → Qd M) :
    ∃ W : Nat → Nat → Ms → Prop, (∃ m, W 0 m (up M1 p (.lst []))) ∧ ∀ i m M, W i m M → ((itR lo n).stop i M ∧ Qd M) ∨ ((itR lo n).go i M ∧ ∃ N : Ms → Prop, (∀ M', N M' → ∃ m', m' < m ∧ W (i + 1) m' M') ∧ ∀ d, (itR lo n).yld i M d →
      g d (wipe2 σ vs) M fun σ2 M2 => t σ2 M2 (fun b M3 => if b = true then te σ2 M3 (fun y M4 => ∃ acc, M4 p = some (.lst acc) ∧ acc.length < sizeLine ∧ N (up M4 p (.lst (acc ++ [y])))) X0 else N M3) X0) := by
  refine ⟨fun i m M => m = n - i ∧ i ≤ n ∧ Pv i M, ⟨n, by simp, Nat.zero_le _, h0⟩, ?_⟩
  rintro i m M ⟨rfl, hi, q⟩
  by_cases lt : i < n
  · refine .inr ⟨lt, Pv (i + 1), fun M' q' => ⟨n - (i + 1), by omega, rfl, lt, q'⟩, fun d y => ?_⟩
    have y' : d = .int (lo + i) := y
    subst y'
    exact hs i M lt q
  · have e : i = n := by omega
    subst e
    exact .inl ⟨Nat.le_refl _, hd M q⟩
end
section
variable {M : Ms} {b : Bool} {i : Int} {x : Str} {ds : List Tr} {kvs : List (Key × Tr)} {a : Addr} {n : String}
@[simp] theorem tyT_non' : tyT .non M = some "NoneType" := rfl
@[simp] theorem tyT_bl' : tyT (.bl b) M = some "bool" := rfl
@[simp] theorem tyT_int' : tyT (.int i) M = some "int" := rfl
@[simp] theorem tyT_str' : tyT (.str x) M = some "str" := rfl
@[simp] theorem tyT_tup' : tyT (.tup ds) M = some "tuple" := rfl
@[simp] theorem tyT_fro' : tyT (.fro ds) M = some "list" := rfl
theorem tyT_lst {a : Addr} (h : M a = some (.lst ds)) : tyT (.loc a) M = some "list" := by simp only [tyT, h]
theorem tyT_dic {a : Addr} (h : M a = some (.dic kvs)) : tyT (.loc a) M = some "dict" := by simp only [tyT, h]
@[simp] theorem lenT_tup' : lenT (.tup ds) M = some ds.length := rfl
@[simp] theorem lenT_fro' : lenT (.fro ds) M = some ds.length := rfl
theorem lenT_str' (h : x.length ≤ sizeLine) : lenT (.str x) M = some x.length := by simp only [lenT, if_pos h]
theorem lenT_lst (h : M a = some (.lst ds)) : lenT (.loc a) M = some ds.length := by simp only [lenT, h]
theorem lenT_dic (h : M a = some (.dic kvs)) : lenT (.loc a) M = some kvs.length := by simp only [lenT, h]
@[simp] theorem seqT_tup' : seqT (.tup ds) M = some ds := rfl
@[simp] theorem seqT_fro' : seqT (.fro ds) M = some ds := rfl
theorem seqT_lst (h : M a = some (.lst ds)) : seqT (.loc a) M = some ds := by simp only [seqT, h]
@[simp] theorem seqS_tup' : seqS (.tup ds) M = some ds := rfl
@[simp] theorem seqS_fro' : seqS (.fro ds) M = some ds := rfl
@[simp] theorem seqS_loc' : seqS (.loc a) M = seqT (.loc a) M := rfl
@[simp] theorem seqS_str' : seqS (.str x) M = some (x.cps.toList.map fun k => .str ⟨#[k]⟩) := rfl
@[simp] theorem truT_non' : truT .non M = some false := rfl
@[simp] theorem truT_bl' : truT (.bl b) M = some b := rfl
@[simp] theorem truT_int' : truT (.int i) M = some (i != 0) := rfl
@[simp] theorem truT_tup' : truT (.tup ds) M = some (!ds.isEmpty) := rfl
@[simp] theorem truT_fro' : truT (.fro ds) M = some (!ds.isEmpty) := rfl
theorem truT_lst (h : M a = some (.lst ds)) : truT (.loc a) M = some (!ds.isEmpty) := by simp only [truT, h]
@[simp] theorem isT_str' : isT n (.str x) M = (n = "str") := rfl
@[simp] theorem isT_int' : isT n (.int i) M = (n = "int") := rfl
@[simp] theorem isT_fro' : isT n (.fro ds) M = (n = "list") := rfl
theorem isT_lst (h : M a = some (.lst ds)) : isT "list" (.loc a) M := .inl ⟨rfl, ds, h⟩
theorem isT_dic (h : M a = some (.dic kvs)) : isT "dict" (.loc a) M := .inr ⟨rfl, kvs, h⟩
@[simp] theorem flatT_non' : flatT .non = true := rfl
@[simp] theorem flatT_bl' : flatT (.bl b) = true := rfl
@[simp] theorem flatT_int' : flatT (.int i) = true := rfl
@[simp] theorem flatT_str' : flatT (.str x) = true := rfl
@[simp] theorem keyT_int' : keyT (.int i) = some (.inl i) := rfl
@[simp] theorem keyT_str' : keyT (.str x) = some (.inr x) := rfl
@[simp] theorem up_at {o : MO} : up M a o a = some o := up_same
@[simp] theorem up_up' {o u : MO} : up (up M a o) a u = up M a u := up_up
end
end T

/-! T, seventh part: calls, defs, errors, the law's end. -/
namespace T
open PySem PySem.Spec PyProof.Rows L2

abbrev Sp2 := List Tr → Ms → Q2 → X2 → Prop
/-- what a caller sees of a value, of an error -/
def seeQ (K : PySem.W.Frag) (Q : Q2) : VK := fun v H' => ∃ d M', Rep K H' d v ∧ SimM K H' M' ∧ Q d M'
def seeX (K : PySem.W.Frag) (H : Hp) (E : X2) : XK := fun c dd H' => ∃ M', Tx K H H' ∧ SimM K H' M' ∧ E c dd M'
/-- the store may know more than one says -/
def Le (M M' : Ms) : Prop := ∀ a o, M a = some o → M' a = some o
theorem Le.refl {M : Ms} : Le M M := fun _ _ h => h
theorem Le.trans {M M1 M2 : Ms} (a : Le M M1) (b : Le M1 M2) : Le M M2 := fun x o h => b x o (a x o h)
theorem Le.new {M : Ms} {p : Addr} {o : MO} (h : M p = none) : Le M (up M p o) := fun a u e => by rw [up_ne (m_ne e h)]; exact e
theorem Le.none {M M' : Ms} {p : Addr} (l : Le M M') (h : M' p = none) : M p = none := by
  cases q : M p with
  | none => rfl
  | some o => rw [l p o q] at h; cases h
theorem Le.up {M M' : Ms} {p : Addr} {o : MO} (l : Le M M') : Le (T.up M p o) (T.up M' p o) := fun a u e => by
  by_cases c : a = p
  · subst c; rw [up_same] at e ⊢; exact e
  · rw [up_ne c] at e ⊢; exact l a u e
theorem SimM.le {K : PySem.W.Frag} {H : Hp} {M M' : Ms} (h : SimM K H M') (l : Le M M') : SimM K H M := fun a o e => h a o (l a o e)
def Fg (Q : Q2) : Q2 := fun d M => ∃ M0, Le M0 M ∧ Q d M0
def FgX (E : X2) : X2 := fun c dd M => ∃ M0, Le M0 M ∧ E c dd M0
theorem Fg.same {Q : Q2} {d : Tr} {M : Ms} (h : Q d M) : Fg Q d M := ⟨M, Le.refl, h⟩
theorem FgX.same {E : X2} {c : Value} {dd : Option Addr} {M : Ms} (h : E c dd M) : FgX E c dd M := ⟨M, Le.refl, h⟩
theorem Fg.le {Q : Q2} {d : Tr} {M M' : Ms} (l : Le M M') (h : Q d M) : Fg Q d M' := ⟨M, l, h⟩
theorem FgX.le {E : X2} {c : Value} {dd : Option Addr} {M M' : Ms} (l : Le M M') (h : E c dd M) : FgX E c dd M' := ⟨M, l, h⟩
/-- the ends of a def's body -/
def fEnds (Q : Q2) (E : X2) : Ends2 := { nx := fun _ M' => Fg Q .non M', rt := Fg Q, bk := fun _ _ => False, ct := fun _ _ => False, ex := fun c dd _ M' => FgX E c dd M' }
/-- the def at f keeps the promise sp, by at most level k -/
structure FnT (P : Program) (w : World) (K : PySem.W.Frag) (mg : Str → Option Value) (base : Heap) (k : Nat) (f : Addr) (fd : FuncData) (ps : List Str) (sp : Sp2) : Prop where
  len : ∀ ds M Q E, sp ds M Q E → ds.length = ps.length
  run : ∀ (A : Around) (outer : List Env) (s : Shared) (H : Hp) (args : Args) (us : List Value) (vs : List V) (ds : List Tr) (M : Ms) (Q : Q2) (E : X2), Room k A → A.guards = some [] → Env0 P w K mg base A outer s H → BindsTo s fd args (ps.zip us) → Vals vs us →
    RepL K H ds vs → SimM K H M → sp ds M Q E → codeAny (model P w) A (.call (.ref f) args) (CR (L2.CX P w) outer P w H s (seeQ K Q) (seeX K H E)) s
theorem FnT.mono {P : Program} {w : World} {K : PySem.W.Frag} {mg : Str → Option Value} {base : Heap} {j k : Nat} {f : Addr} {fd : FuncData} {ps : List Str} {sp : Sp2} (F : FnT P w K mg base j f fd ps sp) (h : j ≤ k) : FnT P w K mg base k f fd ps sp :=
  ⟨F.len, fun A outer s H args us vs ds M Q E hr => F.run A outer s H args us vs ds M Q E (hr.mono h)⟩
theorem FnT.imp {P : Program} {w : World} {K : PySem.W.Frag} {mg : Str → Option Value} {base : Heap} {k : Nat} {f : Addr} {fd : FuncData} {ps : List Str} {sp sp' : Sp2} (F : FnT P w K mg base k f fd ps sp) (h : ∀ ds M Q E, sp' ds M Q E → sp ds M Q E) : FnT P w K mg base k f fd ps sp' :=
  ⟨fun ds M Q E q => F.len ds M Q E (h _ _ _ _ q), fun A outer s H args us vs ds M Q E hr hg he hb hv rd sm q => F.run A outer s H args us vs ds M Q E hr hg he hb hv rd sm (h _ _ _ _ q)⟩
theorem cx_imp {P : Program} {w : World} {outer : List Env} {H : Hp} {s s' : Shared} {E E' : XK} {u : Value} (h : ∀ c d H', E c d H' → E' c d H') (x : L2.CX P w outer H s E u s') : L2.CX P w outer H s E' u s' := by
  obtain ⟨a, B, H', cls, d, e1, e2, e3, e4, e5, e6, e7, e8⟩ := x
  exact ⟨a, B, H', cls, d, e1, e2, e3, e4, e5, e6, e7, h _ _ _ e8⟩
section
variable {X : Cx} {W : L2.WX} {k : Nat} {f C : Addr} {fd : FuncData} {ps : List Str} {sp : Sp2} {dvs : List Tr} {dus : List V} {ds : List Value} {x m : Str} {p pos apos : Pos} {e o : Expr} {es : List Expr} {t : TA2} {ta : TE2}
/-- errors of a callee are wished for here -/
abbrev Lets (X : Cx) (W : L2.WX) : Prop := ∀ σ, PassesAt (L2.CX X.prog X.w) X σ (WE W σ)
theorem lets0 {s : Shared} {H : Hp} {sc : Scope} {ce : Env} {fp : List Addr} : Lets (X.blk s H sc ce fp) W0 := fun σ pins H s e s' I h => by
  obtain ⟨_, _, _, _, _, _, _, _, _, _, _, _, z⟩ := h
  exact z
theorem lets_never {X : Cx} : Lets X W0 := fun σ pins H s e s' I h => by
  obtain ⟨_, _, _, _, _, _, _, _, _, _, _, _, z⟩ := h
  exact z.elim
theorem run_fnT {pins : List (Addr × Obj)} {σ : L2.St} {H0 H : Hp} {s : Shared} {Q : VK} {us : List Value} {vs : List V} {trs : List Tr} {M : Ms} {Q' : Q2} {E' : X2} (F : FnT X.prog X.w X.K X.mg X.base k f fd ps sp) (hr : Room k X.A) (hgd : X.A.guards = some []) (hb : Binds X.K fd ps ds) (hd : Vals dus ds) (hdr : ∀ H, RepL X.K H dvs dus)
    (hl : Lets X W) (I : Inv X pins σ H s) (r : Vals vs us) (rt : RepL X.K H trs vs) (sm : SimM X.K H M) (t0 : Tx X.K H0 H) (h : sp (trs ++ dvs) M Q' E') (hq : LkQ X.K H0 Q' Q) (hx : LkX X.K H0 E' W σ) :
    wpAny (model X.prog X.w) X.A (call (.ref f) us) (EP X pins σ Q) X.xe s := by
  have r2 : Vals (vs ++ dus) (us ++ ds) := r.append hd
  have rt2 : RepL X.K H (trs ++ dvs) (vs ++ dus) := rt.app (hdr H)
  have hlen : (us ++ ds).length = ps.length := by rw [← r2.length, ← rt2.len]; exact F.len _ _ _ _ h
  refine wpAny_call (codeAny_mono (F.run X.A X.stack s H ⟨us, []⟩ (us ++ ds) (vs ++ dus) (trs ++ dvs) M Q' E' hr hgd I.env0 (hb s us I.kIn hlen) r2 rt2 sm h) fun r s' hq' => ?_)
  cases r with
  | error e => exact hl σ pins H s e s' I (cx_imp (fun c d H' ⟨M', tx, sm', q⟩ => hx c d M' H' (t0.trans tx) sm' q) hq')
  | ok fl =>
    cases fl with
    | ret u =>
      obtain ⟨v, H', os, bare, un, hok, rv, d, M', rd, sm', q⟩ := hq'
      exact I.after ⟨v, H', os, bare, un, hok, rv, hq d M' v H' (t0.trans (Tx.un un)) rd sm' q⟩
    | next => exact False.elim hq'
    | brk => exact False.elim hq'
    | cont => exact False.elim hq'
def eCall (sp : Sp2) (dvs : List Tr) (t : TA2) : TE2 := fun σ M Q E => t σ M (fun ds M1 => sp (ds ++ dvs) M1 Q E) E
theorem qe_call (F : FnT X.prog X.w X.K X.mg X.base k f fd ps sp) (hr : Room k X.A) (hgd : X.A.guards = some []) (hm : X.mg x = some (.ref f)) (hk : PySem.W.keepIn X.K (.ref f) = true) (hb : Binds X.K fd ps ds) (hd : Vals dus ds) (hdr : ∀ H, RepL X.K H dvs dus) (hl : Lets X W)
    (ha : QA X W (e :: es) t) (hg : Gl X x := by rfl) (hdb : (x == ("__debug__" : Str)) = false := by decide) (he : starEach (e :: es) X.env = (false, eval e X.env) :: starEach es X.env := by rfl) (hpl : (backTo pos (starEach es X.env)).any (·.1) = false := by rfl) :
    QE X W (.Call (.Name x p) (e :: es) [] pos) (eCall sp dvs t) := by
  refine ⟨fun pins s σ H Q I ⟨σ', M, Q', E', hs, hm', q, hq, hx⟩ => ?_⟩
  refine wpAny_Call_Name_kw (ld_glob I hg hm ?_ hdb)
  refine PySem.W.callWith_K (h₀ := X.base) I.ok.mod.kin hk (thn (ha.run pos pins s σ H (fun vs H1 => ∃ trs M1, Tx X.K H H1 ∧ RepL X.K H1 trs vs ∧ SimM X.K H1 M1 ∧ sp (trs ++ dvs) M1 Q' E') I
    ⟨σ', M, _, E', hs, hm', q, fun trs M1 vs H1 t1 r1 s1 q1 => ⟨trs, M1, t1, r1, s1, q1⟩, hx⟩) fun us s1 ⟨vs, H1, I1, r, trs, M1, t1, r1, sm1, q1⟩ => ⟨I1.kIn, ?_⟩) he hpl
  exact run_fnT F hr hgd hb hd hdr hl I1 r r1 sm1 t1 q1 hq hx
theorem qe_call0 (F : FnT X.prog X.w X.K X.mg X.base k f fd ps sp) (hr : Room k X.A) (hgd : X.A.guards = some []) (hm : X.mg x = some (.ref f)) (hk : PySem.W.keepIn X.K (.ref f) = true) (hb : Binds X.K fd ps ds) (hd : Vals dus ds) (hdr : ∀ H, RepL X.K H dvs dus) (hl : Lets X W)
    (hg : Gl X x := by rfl) (hdb : (x == ("__debug__" : Str)) = false := by decide) : QE X W (.Call (.Name x p) [] [] pos) (eCall sp dvs aNil) := by
  refine ⟨fun pins s σ H Q I ⟨σ', M, Q', E', hs, hm', q, hq, hx⟩ => ?_⟩
  refine wpAny_Call_Name_kw (ld_glob I hg hm ?_ hdb)
  exact PySem.W.callWith_K0 I.kIn hk (run_fnT (us := []) (trs := []) F hr hgd hb hd hdr hl I .nil RepL.nil hm' Tx.refl q hq hx)
/-! ### a def by its body -/
theorem guards_deeper {A : Around} {env : Env} (h : A.guards = some []) : (A.deeper env).guards = some [] := h
/-- the wish of a def's body -/
abbrev WF (K : PySem.W.Frag) (H : Hp) (E : X2) : L2.WX := fun c dd _ H' => seeX K H E c dd H'
/-- THE RULE for a def: its reading t, derived in every context, and what the reading asks -/
theorem fnT_of {P : Program} {w : World} {K : PySem.W.Frag} {mg : Str → Option Value} {base : Heap} {k : Nat} {f : Addr} {fd : FuncData} {x qual : Str} {params : Arguments} {body : List Stmt} {scope : Scope} {dfs : List V} {kws : List (Str × V)} {N ps : List Str} {sp : Sp2} {t : TS2}
    (F : FunD K x qual params body scope dfs kws f fd) (S : FnScope N ps scope) (len : ∀ ds M Q E, sp ds M Q E → ds.length = ps.length)
    (der : ∀ (cdv : Value) (A : Around) (outer : List Env) (s : Shared) (H : Hp) (E : XK), Room k (A.deeper (envOfC qual scope s.heap.objs.size f cdv)) → (A.deeper (envOfC qual scope s.heap.objs.size f cdv)).guards = some [] →
      QSs (cxOf (L2.CX P w) P w K mg base N qual scope f cdv A outer s H E) (fun c dd _ H' => E c dd H') body t)
    (sem : ∀ ds M Q E, sp ds M Q E → t (fEnds Q E) (start2 N ds) M) : FnT P w K mg base (k + 1) f fd ps sp := by
  obtain ⟨oc, od, dV, kV, doc, pm, an, cdv, ct, osl, rfl, lk, hcd, _, _⟩ := F.ex
  refine ⟨len, fun A outer s H args us vs ds M Q E hr hgd e0 hb rv rd sm hsp => ?_⟩
  have hl : vs.length = ps.length := by rw [← rd.len]; exact len _ _ _ _ hsp
  have KX : K.In s.heap := e0.mod.kin.keeps fun b o e => (e0.bs b o e).1
  have lim : s.heap.NoLimit := e0.mod.nolimit.keeps fun b o e => (e0.bs b o e).1
  have hkind : ∀ y ∈ ps.zip us, scope.names.lookup y.1 = some .local ∨ (scope.names.lookup y.1 = some .cell ∧ ((cellsFrom (s.heap.objs.size + 1) scope.names []).lookup y.1).isSome = true) := fun ⟨n, v⟩ hy => by
    rcases S.par n (List.of_mem_zip hy).1 with q | q
    · exact .inl q
    · exact .inr ⟨q, PySem.W.cellsFrom_some _ _ _ (.inl q)⟩
  refine codeAny_call_function hr.depth (KX _ _ lk) rfl S.co S.gen rfl (PySem.W.codeRec_of KX hcd) (hb _ _ _ _ ?_)
  refine wpAny_newFunctionEnv_cells S.kind hkind fun env he s1 xx => ?_
  subst he
  refine ⟨lim.keeps xx.toInCall.keep, codeAny_func ?_⟩
  have I : Inv (cxOf (L2.CX P w) P w K mg base N qual scope f cdv A outer s H (seeX K H E)) [] (L2.start N vs) H s1 := inv_start S hr.hd e0 hl rv xx
  refine wpAny_mono ((der cdv A outer s H (seeX K H E) (hr.deeper _) (guards_deeper hgd)).run [] s1 (L2.start N vs) H { nx := fun _ H' => seeQ K Q .non H', rt := seeQ K Q } I
    ⟨start2 N ds, M, _, SimS.start rd, sm, sem ds M Q E hsp, fun _ M1 _ H1 _ _ m1 ⟨M2, l2, q1⟩ => ⟨.non, M2, rfl, m1.le l2, q1⟩, fun d M1 v H1 _ r1 m1 ⟨M2, l2, q1⟩ => ⟨d, M2, r1, m1.le l2, q1⟩, fun _ _ _ _ _ _ _ z => z, fun _ _ _ _ _ _ _ z => z,
      fun c dd _ M1 _ H1 t1 _ m1 ⟨M2, l2, q1⟩ => ⟨M2, t1, m1.le l2, q1⟩⟩) (fun fl s' hs => ?_) fun e s' hs => hs
  have fin : ∀ {σ' : L2.St} {H' : Hp} {v : V} {u : Value}, Inv (cxOf (L2.CX P w) P w K mg base N qual scope f cdv A outer s H (seeX K H E)) [] σ' H' s' → RelV v u → seeQ K Q v H' → CE outer P w H s (seeQ K Q) u s' :=
    fun {σ' H' v u} J r q => ⟨v, H', J.os, J.bare, J.base, J.hok, r, q⟩
  cases fl with
  | ret u =>
    obtain ⟨v, σ', H', J, r, q⟩ := hs
    exact fin J r q
  | next =>
    obtain ⟨σ', H', J, q⟩ := hs
    exact fin (v := V.non) (u := Value.none) J rfl q
  | brk =>
    obtain ⟨_, _, _, q⟩ := hs
    exact False.elim q
  | cont =>
    obtain ⟨_, _, _, q⟩ := hs
    exact False.elim q
/-- no def: nothing is promised -/
theorem fnT_none {P : Program} {w : World} {K : PySem.W.Frag} {mg : Str → Option Value} {base : Heap} {k : Nat} {f : Addr} {fd : FuncData} {ps : List Str} {sp : Sp2} (h : ∀ ds M Q E, ¬ sp ds M Q E) : FnT P w K mg base k f fd ps sp :=
  ⟨fun ds M Q E q => absurd q (h _ _ _ _), fun A outer s H args us vs ds M Q E _ _ _ _ _ _ _ q => absurd q (h _ _ _ _)⟩

/-! ### errors -/
def sRaise (C : Value) : TS2 := fun D σ M => D.ex C none σ M
theorem qs_raise {m : Str} {j : Nat} {p2 pos2 : Pos} (hc : X.calm = true) (tk : Takes X W) (q : PySem.W.excIn X.K C He.veBase "ValueError.__new__" = true ∧ PySem.W.keepIn X.K (.ref C) = true ∧ PySem.W.subIn X.K (.ref C) (.type "BaseException") = some true ∧ PySem.W.typeIn X.K (.ref C) = some (.type "type"))
    (gC : X.mg x = some (.ref C)) (hg : Gl X x := by rfl) (hdb : (x == ("__debug__" : Str)) = false := by decide) : QS X W (.Raise (some (.Call (.Name x p) [.Constant (.str m) j p2] [] pos)) none pos2) (sRaise (.ref C)) :=
  ps_weak (ps_raise hc tk (pmk_own PySem.F.excBase_ValueError q.1 gC q.2.1 (raises_own q.2.2.1 q.2.2.2) hg hdb)) fun D σ H ⟨σ', M, D', hs, hm, h, L⟩ => L.ex _ _ σ' M σ H Tx.refl hs hm h
/-- try: body, except x: suite -/
def sTry (ex : Value → Option Bool) (tb ts : TS2) : TS2 := fun D σ M => tb { D with ex := fun c dd σ1 M1 => ∃ b, ex c = some b ∧ (b = true → ts { D with ex := fun _ _ _ _ => False } σ1 M1) ∧ (b = false → D.ex c dd σ1 M1) } σ M
theorem qs_try {c : Value} {body suite : List Stmt} {b0 : Stmt} {np pos' : Pos} {tb ts : TS2} (hs : X.stack = X.env :: X.outer) (hf : X.env.frame = some X.env.locals) (hc : Names X x c) (tk : Takes X W)
    (hb : ∀ (W' : L2.WX) (pn : List (Addr × Obj)) (xe : Value → Shared → Prop), Takes (X.tr pn xe) W' → PassesOwn (model X.prog X.w) X.A X.env xe → QSs (X.tr pn xe) W' body tb)
    (hsu : ∀ (a : Addr) (pn : List (Addr × Obj)), QSs (X.suite a pn) W0 (b0 :: suite) ts) :
    QS X W (.Try body [.ExceptHandler (some (.Name x np)) none (b0 :: suite) pos'] [] [] pos) (sTry (fun cls => PySem.W.exmOne X.K cls c) tb ts) :=
  ps_weak (ps_try_only (tb := fun W' => lfS X.K W' tb) (ts := fun _ _ _ => lfS X.K W0 ts) hs hf hc tk hb (fun a oe cls d pn _ _ => hsu a _)) fun D σ H ⟨σ', M, D', hs, hm, h, L⟩ =>
    ⟨σ', M, _, hs, hm, h, L.nx, L.rt, L.bk, L.ct, fun cls dd σ1' M1 σ1 H1 t1 s1 m1 ⟨b, eb, h1, h2⟩ => ⟨b, eb, fun e a _ => ⟨σ1', M1, _, s1, m1, h1 e, (L.mono t1).nx, (L.mono t1).rt, (L.mono t1).bk, (L.mono t1).ct, fun _ _ _ _ _ _ _ _ _ z => z⟩,
      fun e => L.ex cls dd σ1' M1 σ1 H1 t1 s1 m1 (h2 e)⟩⟩
end

/-! ### the law's end -/
/-- nothing is known to the store -/
def M0 : Ms := fun _ => none
/-- the promise of a law's def -/
def spLaw : Sp2 := fun ds _ Q _ => ∃ ns : List Int, ds = [.fro (ns.map Tr.int)] ∧ ns.length ≤ 63 ∧ (∀ z ∈ ns, Builtin.Int.intBits z ≤ 1048576) ∧ ∀ M, Q (.bl true) M
theorem law_callT {P : Program} {w : World} {K : PySem.W.Frag} {mg mb : Str → Option Value} {k : Nat} {fa a : Addr} {fd : FuncData} {x : Str} {s₁ : Shared} {vs : List Value} {ns : List Int}
    (KX : K.In s₁.heap) (hns : s₁.heap.Ns mainGlobals mg) (hb : s₁.heap.Ns builtinsNs mb) (hbb : ∀ x : Str, x ≠ "__name__" → mb x = bootBuiltins x) (hlim : s₁.heap.NoLimit) (hg : s₁.gens = #[])
    (ha : s₁.heap.get? a = some { cls := .type "list", data := .seq vs.toArray }) (hi : PyProof.Rows.IntsAre vs ns) (hl : ns.length ≤ 63) (hbits : ∀ z ∈ ns, Builtin.Int.intBits z ≤ 1048576) (hr : Room k callerA)
    (F : ∀ base : Heap, K.In base → base.Ns mainGlobals mg → FnT P w K mg base k fa fd [x] spLaw) (hbind : ∀ (s : Shared) (u : Value), BindsTo s fd ⟨[u], []⟩ [(x, u)]) :
    codeAny (model P w) callerA (.call (.ref fa) ⟨[.ref a], []⟩) (fun r s' => r = .ok (.ret (.bool true)) ∧ OldK s₁.heap s'.heap ∧ s'.os = s₁.os ∧ AllBare s'.gens) s₁ := by
  have rv := L2.vals_ints hi
  have lenV := hi.length
  have hz : ns.length ≤ sizeLine := Nat.le_trans hl (by decide)
  -- H: the script alone, or nothing; every object that H does not name is the base's
  have main : ∀ H : Hp, (∀ b u, H b = some u → b = a ∧ u = .frz { cls := .type "list", data := .seq vs.toArray } (.lst (ns.map V.int))) → FrL K H a (ns.map V.int) → HOk P w H s₁.heap → (H a ≠ none → K.lookup a = none) →
      codeAny (model P w) callerA (.call (.ref fa) ⟨[.ref a], []⟩) (fun r s' => r = .ok (.ret (.bool true)) ∧ OldK s₁.heap s'.heap ∧ s'.os = s₁.os ∧ AllBare s'.gens) s₁ := by
    intro H hA hS hok hK
    have noD : ∀ {b : Addr} {ob : Obj} {es : Array DictEntry} {ep : Nat}, s₁.heap.get? b = some ob → ob.data = .dict es ep → H b = none := fun {b ob es ep} e d => by
      cases q : H b with
      | none => rfl
      | some u =>
        obtain ⟨rfl, _⟩ := hA b u q
        rw [ha] at e; cases e
        have d' : Data.seq vs.toArray _ = Data.dict es ep := d
        cases d'
    have nsB : ∀ {b : Addr} {m : Str → Option Value}, s₁.heap.Ns b m → (hidT s₁.heap H).Ns b m := fun {b m} ⟨ob, es, ep, e, d, r⟩ => ⟨ob, es, ep, hidT_get e (noD e d), d, r⟩
    have kB : K.In (hidT s₁.heap H) := fun b ob e => hidT_get (KX b ob e) (by
      cases q : H b with
      | none => rfl
      | some u =>
        obtain ⟨rfl, _⟩ := hA b u q
        rw [hK (by rw [q]; simp)] at e; cases e)
    have hM : Mod K mg (hidT s₁.heap H) := ⟨kB, nsB hns, ⟨mb, nsB hb, hbb⟩, by obtain ⟨mc, h1, h2⟩ := hlim; exact ⟨mc, nsB h1, h2⟩⟩
    have e0 : Env0 P w K mg (hidT s₁.heap H) callerA [] s₁ H := ⟨rfl, hM, fun b ob e => of_hidT e, Nat.le_of_eq (hidT_size _ _), trivial, fun b hb => absurd (show b ∈ ([] : List Addr) from hb) (by simp), hok, .of_eq hg⟩
    refine codeAny_mono ((F _ kB (nsB hns)).run callerA [] s₁ H ⟨[.ref a], []⟩ [.ref a] [.ref a] [.fro (ns.map Tr.int)] M0 (fun d _ => d = .bl true) X0 hr rfl e0 (hbind s₁ (.ref a)) (.cons rfl .nil)
      (.one ⟨a, ns.map V.int, rfl, hS, RepL.ints⟩) (fun _ _ e => nomatch e) ⟨ns, rfl, hl, hbits, fun _ => rfl⟩) fun r s' h => ?_
    cases r with
    | error e =>
      obtain ⟨_, _, _, _, _, _, _, _, _, _, _, _, M', _, _, z⟩ := h
      exact z.elim
    | ok fl =>
      cases fl with
      | next => exact False.elim h
      | brk => exact False.elim h
      | cont => exact False.elim h
      | ret u =>
        obtain ⟨v, H', os, bare, un, hok', r', d, M', rd, _, ed⟩ := h
        subst ed
        cases rd
        obtain rfl : u = Value.bool true := r'
        refine ⟨rfl, OldK.of_keep fun b ob e => ?_, os, bare⟩
        cases q : H b with
        | none => exact un.keep b ob e q (fun z => absurd (show b ∈ ([] : List Addr) from z) (by simp)) (by simp)
        | some u =>
          obtain ⟨rfl, rfl⟩ := hA b u q
          have z2 := un.frzs b _ _ q
          obtain ⟨e2, _⟩ := hok' b _ z2
          rw [ha] at e; cases e
          exact e2
  cases hk : K.lookup a with
  | some ob =>
    have e := KX a ob hk
    rw [ha] at e; cases e
    exact main (fun _ => none) (fun b u z => nomatch (show (none : Option HO) = some u from z)) (.inr ⟨_, vs.toArray, _, hk, rfl, rfl, rfl, by rw [List.size_toArray, lenV]; exact hz, by simpa using rv⟩) (fun b u z => nomatch (show (none : Option HO) = some u from z)) fun z => absurd rfl z
  | none =>
    refine main (upd (fun _ => none) a (.frz { cls := .type "list", data := .seq vs.toArray } (.lst (ns.map V.int)))) (fun b u z => ?_) (.inl ⟨_, upd_same⟩) (fun b u z => ?_) fun _ => hk
    · by_cases c : b = a
      · subst c
        rw [upd_same] at z; cases z
        exact ⟨rfl, rfl⟩
      · rw [upd_ne c] at z; cases z
    · by_cases c : b = a
      · subst c
        rw [upd_same] at z; cases z
        exact ⟨ha, by rw [List.length_map]; exact hz, vs, _, rv, ha⟩
      · rw [upd_ne c] at z; cases z
/-- a law over a head by facts -/
theorem walkT {l : PySem.W.OpenLaw} {k : Nat} {q : Program} {loose : List Str} {XP : (Str → Option Value) → Heap → Prop} {YP : World → Heap → Prop} {d : DefRec} {x : Str}
    (hn : l.most = some 63) (hdf : d.params.defaults = []) (hr : Room k callerA)
    (F : ∀ (w : World) (mg : Str → Option Value) (fa : Addr) (h : Heap), YP w h → h.Ns mainGlobals mg → mg d.name = some (.ref fa) →
      ∃ (K : PySem.W.Frag) (fd : FuncData), K.In h ∧ (∀ (s : Shared) (u : Value), BindsTo s fd ⟨[u], []⟩ [(x, u)]) ∧ ∀ base : Heap, K.In base → base.Ns mainGlobals mg → FnT l.prog w K mg base k fa fd [x] spLaw) :
    PySem.W.WalkO q loose XP YP l.row.toRowW d [] (fun f vs => PySem.call f vs) := by
  refine Att.attach_callB hn hdf fun w s₀ s₁ mg mb fa o pm cd doc a vs ns G Y ho hd hcd hmg hobj hints hlen hbits hg => ?_
  obtain ⟨K, fd, KX, hb, hF⟩ := F w mg fa _ Y G.T.g hmg
  exact law_callT KX G.T.g G.T.b G.T.builtins G.T.nolimit hg hobj hints hlen hbits hr hF hb
end T

/-! T, eighth part: more rules. -/
namespace T
open PySem PySem.Spec PyProof.Rows L2
theorem bt_len : bootBuiltins "len" = some (.builtin "len") := by decide +kernel
theorem bt_sum : bootBuiltins "sum" = some (.builtin "sum") := by decide +kernel
theorem bt_max : bootBuiltins "max" = some (.builtin "max") := by decide +kernel
theorem bt_min : bootBuiltins "min" = some (.builtin "min") := by decide +kernel
theorem bt_abs : bootBuiltins "abs" = some (.builtin "abs") := by decide +kernel
theorem bt_repr : bootBuiltins "repr" = some (.builtin "repr") := by decide +kernel
theorem bt_sorted : bootBuiltins "sorted" = some (.builtin "sorted") := by decide +kernel
theorem bt_isinstance : bootBuiltins "isinstance" = some (.builtin "isinstance") := by decide +kernel
theorem bt_int : bootBuiltins "int" = some (.type "int") := by decide +kernel
theorem bt_str : bootBuiltins "str" = some (.type "str") := by decide +kernel
theorem bt_bool : bootBuiltins "bool" = some (.type "bool") := by decide +kernel
theorem bt_tuple : bootBuiltins "tuple" = some (.type "tuple") := by decide +kernel
theorem bt_list : bootBuiltins "list" = some (.type "list") := by decide +kernel
theorem bt_dict : bootBuiltins "dict" = some (.type "dict") := by decide +kernel
section
variable {X : Cx} {W : L2.WX} {a b c e o : Expr} {es : List Expr} {pos p cpos apos : Pos} {ta tb tc te to : TE2} {t tk : TA2} {Ty : String} {r : RM2} {u v : TE}
theorem q_bm (h : PE X e (tBM X.K Ty (lfM X.K r) (lfE X.K W to) (lfA X.K W t))) : QE X W e (eM Ty r to t) := pe_weak h fun _ _ _ h => m_low h
theorem q_bm0 (h : PE X e (tBM0 X.K Ty (lfM X.K r) (lfE X.K W to))) : QE X W e (eM0 Ty r to) := pe_weak h fun _ _ _ h => m0_low h
theorem q_chain {rr rr' : R22} (h : PE X e (tChain (lfR X.K rr) (lfR X.K rr') (lfE X.K W ta) (lfE X.K W tb) (lfE X.K W tc))) : QE X W e (eChain rr rr' ta tb tc) := pe_weak h fun _ _ _ h => chain_low h
theorem qt_ch {rr rr' : R22} (h : PT X e (tTest (tChain (lfR X.K rr) (lfR X.K rr') (lfE X.K W ta) (lfE X.K W tb) (lfE X.K W tc)))) : QT X W e (tCm (eChain rr rr' ta tb tc)) :=
  pt_weak h fun σ H Q ⟨σ', M, Q', E', hs, hm, q, hq, hx⟩ => chain_low ⟨σ', M, _, E', hs, hm, q, cm_link hq, hx⟩
theorem q_sub {i : Expr} {ti : TE2} (ha : PG X (.Subscript o i pos) (gSub (lfE X.K W0 to) (lfE X.K W0 ti) (lfPut X.K rPut2))) : QG X (.Subscript o i pos) (gSb rPut2 to ti) [] :=
  pg_weak ha fun v σ H Q ⟨d, σ', M, Q', r, hs, hm, q, hq⟩ => ⟨σ', M, _, X0, hs, hm, q, fun o M1 x H1 t1 r1 s1 q1 => ⟨σ', M1, _, X0, hs.mono t1, s1, q1, fun i M2 y H2 t2 r2 s2 q2 =>
    ⟨o, i, d, M2, _, r1.mono t2, r2, (r.mono t1).mono t2, s2, q2, fun M3 H3 t3 s3 q3 => hq σ' M3 σ H3 ((t1.trans t2).trans t3) (((hs.mono t1).mono t2).mono t3) s3 Agr.refl q3⟩, fun _ _ _ _ _ _ z => False.elim z⟩, fun _ _ _ _ _ _ z => False.elim z⟩
/-- comparisons of ints alone -/
def rCmpI (f : Int → Int → Bool) : R22 := fun d e M Q => match d, e with
  | .int i, .int j => Q (.bl (f i j)) M
  | _, _ => False
theorem o_cmpI {op : CmpOp} {f : Int → Int → Bool} (h : OpR X (compareOp op) (rI0 fun i j => .bl (f i j))) : OpR X (compareOp op) (lfR X.K (rCmpI f)) := by
  intro pins s σ H x y v u Q I rx ry ⟨d, e, M, Q', rd, re, sm, q, hq⟩
  cases d with
  | int i =>
    cases e with
    | int j =>
      cases rd; cases re
      exact h pins s σ H _ _ v u Q I rx ry ⟨i, j, rfl, rfl, hq (.bl _) M _ H Tx.refl rfl sm q⟩
    | _ => exact q.elim
  | _ => cases e <;> exact q.elim
abbrev rLeI : R22 := rCmpI fun i j => decide (i ≤ j)
abbrev rLtI : R22 := rCmpI fun i j => decide (i < j)
abbrev rGtI : R22 := rCmpI fun i j => decide (j < i)
abbrev rGeI : R22 := rCmpI fun i j => decide (j ≤ i)
theorem o_leI : OpR X (compareOp .LtE) (lfR X.K rLeI) := o_cmpI op_le
theorem o_ltI : OpR X (compareOp .Lt) (lfR X.K rLtI) := o_cmpI op_lt
theorem o_gtI : OpR X (compareOp .Gt) (lfR X.K rGtI) := o_cmpI op_gt
theorem o_geI : OpR X (compareOp .GtE) (lfR X.K rGeI) := o_cmpI op_ge
/-! in place -/
abbrev rIpA : R22 := rII (fun _ _ => True) (fun i j => i + j)
abbrev rIpS : R22 := rII (fun _ _ => True) (fun i j => i - j)
theorem ipII {op : Operator} {f : Int → Int → Int} (h : PIp X op (ipI f)) : PIp X op (lfR X.K (rII (fun _ _ => True) f)) := by
  intro pins s σ H x y v u Q I rx ry ⟨d, e, M, Q', rd, re, sm, q, hq⟩
  cases d with
  | int i =>
    cases e with
    | int j =>
      cases rd; cases re
      exact h pins s σ H _ _ v u Q I rx ry ⟨i, j, rfl, rfl, hq (.int _) M _ H Tx.refl rfl sm q.2⟩
    | _ => exact q.elim
  | _ => cases e <;> exact q.elim
theorem i_add : PIp X .Add (lfR X.K rIpA) := ipII ip_add
theorem i_sub : PIp X .Sub (lfR X.K rIpS) := ipII ip_sub
/-! keywords of built-ins -/
abbrev QK (X : Cx) (W : L2.WX) (kws : List Keyword) (t : TA2) : Prop := PK X kws (lfA X.K W t)
theorem pk_weak {kws : List Keyword} {t t' : TA} (h : PK X kws t) (w : ∀ σ H Q, t' σ H Q → t σ H Q) : PK X kws t' := ⟨fun pos pins s σ H Q I q => h.run pos pins s σ H Q I (w σ H Q q)⟩
theorem qk_nil : QK X W [] aNil := pk_weak pk_nil fun σ H Q ⟨σ', M, Q', E', hs, hm, q, hq, hx⟩ => hq [] M [] H Tx.refl RepL.nil hm q
theorem qk_cons {nm : Option Str} {kpos : Pos} {kws : List Keyword} (ha : QE X W e ta) (hr : QK X W kws t) : QK X W (⟨nm, e, kpos⟩ :: kws) (aCons ta t) :=
  pk_weak (pk_cons ha hr) fun σ H Q ⟨σ', M, Q', E', hs, hm, q, hq, hx⟩ => ⟨σ', M, _, E', hs, hm, q, fun d M1 x H1 t1 r1 s1 q1 => ⟨σ', M1, _, E', hs.mono t1, s1, q1, fun ds M2 xs H2 t2 r2 s2 q2 =>
    hq (d :: ds) M2 (x :: xs) H2 (t1.trans t2) (.cons (r1.mono t2) r2) s2 q2, hx.mono t1⟩, hx⟩
abbrev RCK2 := List Tr → List Tr → Ms → Q2 → Prop
def lfCK (K : PySem.W.Frag) (r : RCK2) : List V → List V → Hp → VK → Prop := fun xs zs H Q => ∃ ds es M Q', RepL K H ds xs ∧ RepL K H es zs ∧ SimM K H M ∧ r ds es M Q' ∧ LkQ K H Q' Q
def eBK (r : RCK2) (t tk : TA2) : TE2 := fun σ M Q E => t σ M (fun ds M1 => tk σ M1 (fun es M2 => r ds es M2 Q) E) E
theorem qe_callBK {x : Str} {id : String} {ks : List Str} {kws : List Keyword} {rk : RCK2} (hc : CallRK X (.builtin id) ks (lfCK X.K rk)) (hm : X.mg x = none) (hv : bootBuiltins x = some (.builtin id)) (ha : QA X W (e :: es) t) (hk : QK X W kws tk) (hg : Gl X x := by rfl) (hn : x ≠ "__name__" := by decide) (hdb : (x == ("__debug__" : Str)) = false := by decide)
    (he : backTo pos (starEach (e :: es) X.env) = (false, eval e X.env) :: backTo pos (starEach es X.env) := by rfl) (hpl : (backTo pos (starEach (e :: es) X.env)).any (·.1) = false := by rfl)
    (hall : (backToKw pos (keywordEach kws X.env)).all (·.1.isSome) = true := by rfl) (hnone : (backToKw pos (keywordEach kws X.env)).any (·.1.isNone) = false := by rfl) (hks : (backToKw pos (keywordEach kws X.env)).filterMap (·.1) = ks := by rfl) :
    QE X W (.Call (.Name x p) (e :: es) kws pos) (eBK rk t tk) := pe_weak (pe_callBK hc hg hm hv ha hk hn hdb he hpl hall hnone hks) fun σ H Q ⟨σ', M, Q', E', hs, hm, q, hq, hx⟩ =>
  ⟨σ', M, _, E', hs, hm, q, fun ds M1 xs H1 t1 r1 s1 q1 => ⟨σ', M1, _, E', hs.mono t1, s1, q1, fun es M2 zs H2 t2 r2 s2 q2 => ⟨ds, es, M2, Q', r1.mono t2, r2, s2, q2, hq.mono (t1.trans t2)⟩, hx.mono t1⟩, hx⟩
/-- max([..], default=d) of ints -/
def mxD (ns : List Int) (d : Int) : Int := match ns with
  | [] => d
  | n :: r => r.foldl max n
def rMaxD : RCK2 := fun ds es M Q => ∃ d ns k, ds = [d] ∧ es = [.int k] ∧ seqT d M = some (ns.map Tr.int) ∧ (∀ us, d ≠ .tup us) ∧ Q (.int (mxD ns k)) M
theorem dpAll_ints {K : PySem.W.Frag} {H : Hp} : ∀ ns : List Int, DpAll K H (ns.map V.int) (ns.map PyData.int)
  | [] => .nil
  | n :: r => .cons (.int n) (dpAll_ints r)
theorem depthAll_ints : ∀ ns : List Int, PyData.depthAll (ns.map PyData.int) = 0
  | [] => rfl
  | n :: r => by
    show max (PyData.depth (.int n)) (PyData.depthAll (r.map PyData.int)) = 0
    rw [depthAll_ints r]; rfl
theorem alike_ints (ns : List Int) : PySem.W.AlikeAll (ns.map PyData.int) := by
  refine ⟨fun x hx y hy => ?_, fun x hx => ?_⟩
  · obtain ⟨i, _, rfl⟩ := List.mem_map.mp hx
    obtain ⟨j, _, rfl⟩ := List.mem_map.mp hy
    rfl
  · obtain ⟨i, _, rfl⟩ := List.mem_map.mp hx
    intro z; cases z
theorem k_maxD (hc : X.calm = true) (hu : X.A.units + 64 < cLine) : CallRK X (.builtin "max") ["default"] (lfCK X.K rMaxD) := by
  intro pins s σ H xs zs us ws Q I rx rz ⟨ds, es, M, Q', rd, re, sm, ⟨d, ns, k, e1, e2, es1, nt, q⟩, hq⟩
  subst e1 e2
  obtain ⟨x, rfl, r1⟩ := one_of rd
  obtain ⟨y, rfl, r2⟩ := one_of re
  cases r2
  obtain ⟨w, rfl, rw'⟩ := vals1 rz
  obtain ⟨tk, rfl⟩ := rw'
  have fin : Q (.int (mxD ns k)) H := hq (.int _) M _ H Tx.refl rfl sm q
  have go : ∀ a, x = .ref a → SqL X.K H a (ns.map V.int) → wpAny (model X.prog X.w) X.A (call (.builtin "max") us ((["default"] : List Str).zip [Value.int k tk])) (EP X pins σ Q) X.xe s := fun a ex sq => by
    subst ex
    obtain ⟨its, rv, hl, _⟩ := I.list sq
    rw [Vals.ref1 rx]
    obtain ⟨as, hr⟩ := Dp.readsAll I _ _ _ (dpAll_ints ns) rv
    refine PySem.W.max_list_default (xs := ns.map PyData.int) (I.ok.hd hc) hl.isList hr (alike_ints ns) (by rw [depthAll_ints]; omega) (fun e0 h' tk' hk => ?_) (fun y ys i v h' tk' bs e0 hv rdv hk => ?_)
    · have : ns = [] := List.map_eq_nil_iff.mp e0
      subst this
      exact ⟨.int k, H, I.kept hk, ⟨_, rfl⟩, fin⟩
    · match ns, e0 with
      | n :: r, e0 =>
        injection e0 with e3 e4
        subst e3 e4
        rw [PySem.W.maxD_ints] at rdv
        cases rdv
        exact ⟨.int (r.foldl max n), H, I.kept hk, ⟨_, rfl⟩, fin⟩
  cases d with
  | tup us => exact absurd rfl (nt us)
  | fro ds =>
    obtain ⟨a, xs, rfl, sq, rl⟩ := r1
    cases es1
    have := ints_back rl
    subst this
    exact go a rfl sq.sq
  | loc a =>
    cases r1
    obtain ⟨xs, hx, rl⟩ := sm a _ (seqT_loc es1)
    have := ints_back rl
    subst this
    exact go a rfl (SqL.of hx)
  | _ => cases es1
/-! list(range(..)) -/
def rgT (i j : Int) : List Tr := (List.range (j - i).toNat).map fun (n : Nat) => Tr.int (i + (n : Int))
theorem rgT_ok {K : PySem.W.Frag} {H : Hp} {i j : Int} : RepL K H (rgT i j) (rgV i j) := by
  unfold rgT rgV
  induction List.range (j - i).toNat with
  | nil => rfl
  | cons n r ih => exact ⟨_, _, rfl, rfl, ih⟩
def eLR1 (ta : TE2) : TE2 := fun σ M Q E => ta σ M (fun d M1 => ∃ n, d = .int n ∧ RgOk 0 n ∧ ∀ p, M1 p = none → Q (.loc p) (up M1 p (.lst (rgT 0 n)))) E
theorem qe_listRg1 {p2 pos2 : Pos} (hc : X.calm = true) (hm : X.mg "list" = none) (hm2 : X.mg "range" = none) (ha : QE X W a ta) (hg : Gl X "list" := by rfl) (hg2 : Gl X "range" := by rfl)
    (na : starEach [Expr.Call (.Name "range" p2) [a] [] pos2] X.env = (false, eval (Expr.Call (.Name "range" p2) [a] [] pos2) X.env) :: starEach [] X.env := by rfl) (nb : starEach [a] X.env = (false, eval a X.env) :: starEach [] X.env := by rfl) : QE X W (.Call (.Name "list" p) [.Call (.Name "range" p2) [a] [] pos2] [] pos) (eLR1 ta) :=
  pe_weak (pe_listRg hc hg hm (prg_1 hg2 hm2 ha nb) na) fun σ H Q ⟨σ', M, Q', E', hs, hm, q, hq, hx⟩ => by
    refine ⟨σ', M, _, E', hs, hm, q, fun d M1 x H1 t1 r1 s1 ⟨n, e, rg, q1⟩ => ?_, hx⟩
    subst e
    exact ⟨n, r1, rg, fun l hl => new_lst (hq.mono t1) rgT_ok s1 hl q1⟩
def eLR2 (ta tb : TE2) : TE2 := fun σ M Q E => ta σ M (fun d M1 => tb σ M1 (fun e M2 => ∃ i j, d = .int i ∧ e = .int j ∧ RgOk i j ∧ ∀ p, M2 p = none → Q (.loc p) (up M2 p (.lst (rgT i j)))) E) E
theorem qe_listRg2 {p2 pos2 : Pos} (hc : X.calm = true) (hm : X.mg "list" = none) (hm2 : X.mg "range" = none) (ha : QE X W a ta) (hb : QE X W b tb) (hg : Gl X "list" := by rfl) (hg2 : Gl X "range" := by rfl)
    (na : starEach [Expr.Call (.Name "range" p2) [a, b] [] pos2] X.env = (false, eval (Expr.Call (.Name "range" p2) [a, b] [] pos2) X.env) :: starEach [] X.env := by rfl)
    (n1 : starEach [a, b] X.env = (false, eval a X.env) :: starEach [b] X.env := by rfl) (n2 : starEach [b] X.env = (false, eval b X.env) :: starEach [] X.env := by rfl) (hp : (backTo pos2 (starEach [b] X.env)).any (·.1) = false := by rfl) : QE X W (.Call (.Name "list" p) [.Call (.Name "range" p2) [a, b] [] pos2] [] pos) (eLR2 ta tb) :=
  pe_weak (pe_listRg hc hg hm (prg_2 hg2 hm2 ha hb n1 n2 hp) na) fun σ H Q ⟨σ', M, Q', E', hs, hm, q, hq, hx⟩ => by
    refine ⟨σ', M, _, E', hs, hm, q, fun d M1 x H1 t1 r1 s1 q1 => ⟨σ', M1, _, E', hs.mono t1, s1, q1, fun e M2 y H2 t2 r2 s2 ⟨i, j, e1, e2, rg, q2⟩ => ?_, hx.mono t1⟩, hx⟩
    subst e1 e2
    exact ⟨i, j, r1, r2, rg, fun l hl => new_lst (hq.mono (t1.trans t2)) rgT_ok s2 hl q2⟩
end

/-! ### a def by its name -/
structure OkF (P : Program) (w : World) (K : PySem.W.Frag) (mg : Str → Option Value) (base : Heap) (k : Nat) (x : Str) (ps : List Str) (dvs : List Tr) (sp : Sp2) : Prop where
  ex : ∃ (f : Addr) (fd : FuncData) (dus : List V) (ds : List Value), FnT P w K mg base k f fd ps sp ∧ mg x = some (.ref f) ∧ PySem.W.keepIn K (.ref f) = true ∧ Binds K fd ps ds ∧ Vals dus ds ∧ ∀ H, RepL K H dvs dus
theorem OkF.mono {P : Program} {w : World} {K : PySem.W.Frag} {mg : Str → Option Value} {base : Heap} {j k : Nat} {x : Str} {ps : List Str} {dvs : List Tr} {sp : Sp2} (F : OkF P w K mg base j x ps dvs sp) (h : j ≤ k) : OkF P w K mg base k x ps dvs sp := by
  obtain ⟨f, fd, dus, ds, a, r⟩ := F.ex
  exact ⟨f, fd, dus, ds, a.mono h, r⟩
theorem q_call {X : Cx} {W : L2.WX} {k : Nat} {x : Str} {ps : List Str} {dvs : List Tr} {sp : Sp2} {p pos : Pos} {e : Expr} {es : List Expr} {t : TA2} (F : OkF X.prog X.w X.K X.mg X.base k x ps dvs sp) (hr : Room k X.A) (hgd : X.A.guards = some []) (hl : Lets X W)
    (ha : QA X W (e :: es) t) (hg : Gl X x := by rfl) (hdb : (x == ("__debug__" : Str)) = false := by decide) (he : starEach (e :: es) X.env = (false, eval e X.env) :: starEach es X.env := by rfl) (hpl : (backTo pos (starEach es X.env)).any (·.1) = false := by rfl) :
    QE X W (.Call (.Name x p) (e :: es) [] pos) (eCall sp dvs t) := by
  obtain ⟨f, fd, dus, ds, F, hm, hk, hb, hd, hdr⟩ := F.ex
  exact qe_call F hr hgd hm hk hb hd hdr hl ha hg hdb he hpl
theorem q_call0 {X : Cx} {W : L2.WX} {k : Nat} {x : Str} {ps : List Str} {dvs : List Tr} {sp : Sp2} {p pos : Pos} (F : OkF X.prog X.w X.K X.mg X.base k x ps dvs sp) (hr : Room k X.A) (hgd : X.A.guards = some []) (hl : Lets X W)
    (hg : Gl X x := by rfl) (hdb : (x == ("__debug__" : Str)) = false := by decide) : QE X W (.Call (.Name x p) [] [] pos) (eCall sp dvs aNil) := by
  obtain ⟨f, fd, dus, ds, F, hm, hk, hb, hd, hdr⟩ := F.ex
  exact qe_call0 F hr hgd hm hk hb hd hdr hl hg hdb
/-- the body's derivation, with what a body may lean on -/
abbrev Der (P : Program) (w : World) (K : PySem.W.Frag) (mg : Str → Option Value) (base : Heap) (k : Nat) (f : Addr) (qual : Str) (scope : Scope) (N : List Str) (body : List Stmt) (t : TS2) : Prop :=
  ∀ (cdv : Value) (A : Around) (outer : List Env) (s : Shared) (H : Hp) (E : XK), Room k (cxOf (L2.CX P w) P w K mg base N qual scope f cdv A outer s H E).A → (cxOf (L2.CX P w) P w K mg base N qual scope f cdv A outer s H E).A.guards = some [] →
    Takes (cxOf (L2.CX P w) P w K mg base N qual scope f cdv A outer s H E) (fun c dd _ H' => E c dd H') → Lets (cxOf (L2.CX P w) P w K mg base N qual scope f cdv A outer s H E) (fun c dd _ H' => E c dd H') →
    PassesOwn (model P w) (cxOf (L2.CX P w) P w K mg base N qual scope f cdv A outer s H E).A (cxOf (L2.CX P w) P w K mg base N qual scope f cdv A outer s H E).env (cxOf (L2.CX P w) P w K mg base N qual scope f cdv A outer s H E).xe →
    QSs (cxOf (L2.CX P w) P w K mg base N qual scope f cdv A outer s H E) (fun c dd _ H' => E c dd H') body t
theorem fnT_by {P : Program} {w : World} {K : PySem.W.Frag} {mg : Str → Option Value} {base : Heap} {k : Nat} {f : Addr} {fd : FuncData} {x qual : Str} {params : Arguments} {body : List Stmt} {scope : Scope} {dfs : List V} {kws : List (Str × V)} {N ps : List Str} {sp : Sp2} {t : TS2}
    (F : FunD K x qual params body scope dfs kws f fd) (S : FnScope N ps scope) (len : ∀ ds M Q E, sp ds M Q E → ds.length = ps.length)
    (sem : ∀ ds M Q E, sp ds M Q E → t (fEnds Q E) (start2 N ds) M) (der : Der P w K mg base k f qual scope N body t) : FnT P w K mg base (k + 1) f fd ps sp :=
  fnT_of F S len (fun cdv A outer s H E hr hgd => der cdv A outer s H E hr hgd (takes_of rfl rfl rfl rfl) (passAt (takes_of rfl rfl rfl rfl)) (passes_of rfl)) sem
theorem okF_of {P : Program} {w : World} {K : PySem.W.Frag} {mg : Str → Option Value} {base : Heap} {k : Nat} {f : Addr} {fd : FuncData} {x qual : Str} {params : Arguments} {body : List Stmt} {scope : Scope} {N ps : List Str} {sp : Sp2} {t : TS2}
    (F : FunD K x qual params body scope [] [] f fd) (hm : mg x = some (.ref f)) (hb : Binds K fd ps []) (S : FnScope N ps scope) (len : ∀ ds M Q E, sp ds M Q E → ds.length = ps.length)
    (sem : ∀ ds M Q E, sp ds M Q E → t (fEnds Q E) (start2 N ds) M) (der : Der P w K mg base k f qual scope N body t) : OkF P w K mg base (k + 1) x ps [] sp :=
  ⟨f, fd, [], [], fnT_by F S len sem der, hm, F.kp, hb, .nil, fun _ => RepL.nil⟩
/-! promises by the number of arguments -/
abbrev A1 (p : Tr → Ms → Q2 → X2 → Prop) : Sp2 := fun ds M Q E => ∃ a, ds = [a] ∧ p a M Q E
abbrev A2 (p : Tr → Tr → Ms → Q2 → X2 → Prop) : Sp2 := fun ds M Q E => ∃ a b, ds = [a, b] ∧ p a b M Q E
abbrev A3 (p : Tr → Tr → Tr → Ms → Q2 → X2 → Prop) : Sp2 := fun ds M Q E => ∃ a b c, ds = [a, b, c] ∧ p a b c M Q E
abbrev A4 (p : Tr → Tr → Tr → Tr → Ms → Q2 → X2 → Prop) : Sp2 := fun ds M Q E => ∃ a b c d, ds = [a, b, c, d] ∧ p a b c d M Q E
abbrev A5 (p : Tr → Tr → Tr → Tr → Tr → Ms → Q2 → X2 → Prop) : Sp2 := fun ds M Q E => ∃ a b c d e, ds = [a, b, c, d, e] ∧ p a b c d e M Q E
theorem len1 {p : Tr → Ms → Q2 → X2 → Prop} : ∀ ds M Q E, A1 p ds M Q E → ds.length = 1 := fun _ _ _ _ ⟨_, e, _⟩ => by rw [e]; rfl
theorem len2 {p : Tr → Tr → Ms → Q2 → X2 → Prop} : ∀ ds M Q E, A2 p ds M Q E → ds.length = 2 := fun _ _ _ _ ⟨_, _, e, _⟩ => by rw [e]; rfl
theorem len3 {p : Tr → Tr → Tr → Ms → Q2 → X2 → Prop} : ∀ ds M Q E, A3 p ds M Q E → ds.length = 3 := fun _ _ _ _ ⟨_, _, _, e, _⟩ => by rw [e]; rfl
theorem len4 {p : Tr → Tr → Tr → Tr → Ms → Q2 → X2 → Prop} : ∀ ds M Q E, A4 p ds M Q E → ds.length = 4 := fun _ _ _ _ ⟨_, _, _, _, e, _⟩ => by rw [e]; rfl
theorem len5 {p : Tr → Tr → Tr → Tr → Tr → Ms → Q2 → X2 → Prop} : ∀ ds M Q E, A5 p ds M Q E → ds.length = 5 := fun _ _ _ _ ⟨_, _, _, _, _, e, _⟩ => by rw [e]; rfl
theorem room_hu64 {k : Nat} {A : Around} (hr : Room k A) : A.units + 64 < cLine := by have := hr.un; omega
theorem sq_step {t u : TS2} {D : Ends2} {σ : St2} {M : Ms} : sSq t u D σ M = t { D with nx := u D } σ M := rfl
end T

/-! T, ninth part: readings walked by simp. -/
namespace T
open PySem PySem.Spec PyProof.Rows L2
/-- holds a term fixed where it stands -/
inductive Fx {α : Sort u} (a : α) : Type | mk
section
variable {M : Ms} {Q : Q2} {E : X2} {σ : St2} {D : Ends2}

@[simp ↓] theorem eVar_0  {d : Tr} {r : St2} : eVar 0 (some d :: r) M Q E = Q d M := propext ⟨fun ⟨_, e, q⟩ => by have e2 : some (some d) = _ := e; cases e2; exact q, fun q => ⟨d, rfl, q⟩⟩
@[simp ↓] theorem gN_0 {y : Option Tr} {d : Tr} {r : St2} {N : St2 → Ms → Prop} : gN 0 d (y :: r) M N = N (some d :: r) M := rfl
@[simp ↓] theorem eVar_1 {x0 : Option Tr} {d : Tr} {r : St2} : eVar 1 (x0 :: some d :: r) M Q E = Q d M := propext ⟨fun ⟨_, e, q⟩ => by have e2 : some (some d) = _ := e; cases e2; exact q, fun q => ⟨d, rfl, q⟩⟩
@[simp ↓] theorem gN_1 {x0 y : Option Tr} {d : Tr} {r : St2} {N : St2 → Ms → Prop} : gN 1 d (x0 :: y :: r) M N = N (x0 :: some d :: r) M := rfl
@[simp ↓] theorem eVar_2 {x0 x1 : Option Tr} {d : Tr} {r : St2} : eVar 2 (x0 :: x1 :: some d :: r) M Q E = Q d M := propext ⟨fun ⟨_, e, q⟩ => by have e2 : some (some d) = _ := e; cases e2; exact q, fun q => ⟨d, rfl, q⟩⟩
@[simp ↓] theorem gN_2 {x0 x1 y : Option Tr} {d : Tr} {r : St2} {N : St2 → Ms → Prop} : gN 2 d (x0 :: x1 :: y :: r) M N = N (x0 :: x1 :: some d :: r) M := rfl
@[simp ↓] theorem eVar_3 {x0 x1 x2 : Option Tr} {d : Tr} {r : St2} : eVar 3 (x0 :: x1 :: x2 :: some d :: r) M Q E = Q d M := propext ⟨fun ⟨_, e, q⟩ => by have e2 : some (some d) = _ := e; cases e2; exact q, fun q => ⟨d, rfl, q⟩⟩
@[simp ↓] theorem gN_3 {x0 x1 x2 y : Option Tr} {d : Tr} {r : St2} {N : St2 → Ms → Prop} : gN 3 d (x0 :: x1 :: x2 :: y :: r) M N = N (x0 :: x1 :: x2 :: some d :: r) M := rfl
@[simp ↓] theorem eVar_4 {x0 x1 x2 x3 : Option Tr} {d : Tr} {r : St2} : eVar 4 (x0 :: x1 :: x2 :: x3 :: some d :: r) M Q E = Q d M := propext ⟨fun ⟨_, e, q⟩ => by have e2 : some (some d) = _ := e; cases e2; exact q, fun q => ⟨d, rfl, q⟩⟩
@[simp ↓] theorem gN_4 {x0 x1 x2 x3 y : Option Tr} {d : Tr} {r : St2} {N : St2 → Ms → Prop} : gN 4 d (x0 :: x1 :: x2 :: x3 :: y :: r) M N = N (x0 :: x1 :: x2 :: x3 :: some d :: r) M := rfl
@[simp ↓] theorem eVar_5 {x0 x1 x2 x3 x4 : Option Tr} {d : Tr} {r : St2} : eVar 5 (x0 :: x1 :: x2 :: x3 :: x4 :: some d :: r) M Q E = Q d M := propext ⟨fun ⟨_, e, q⟩ => by have e2 : some (some d) = _ := e; cases e2; exact q, fun q => ⟨d, rfl, q⟩⟩
@[simp ↓] theorem gN_5 {x0 x1 x2 x3 x4 y : Option Tr} {d : Tr} {r : St2} {N : St2 → Ms → Prop} : gN 5 d (x0 :: x1 :: x2 :: x3 :: x4 :: y :: r) M N = N (x0 :: x1 :: x2 :: x3 :: x4 :: some d :: r) M := rfl
@[simp ↓] theorem eVar_6 {x0 x1 x2 x3 x4 x5 : Option Tr} {d : Tr} {r : St2} : eVar 6 (x0 :: x1 :: x2 :: x3 :: x4 :: x5 :: some d :: r) M Q E = Q d M := propext ⟨fun ⟨_, e, q⟩ => by have e2 : some (some d) = _ := e; cases e2; exact q, fun q => ⟨d, rfl, q⟩⟩
@[simp ↓] theorem gN_6 {x0 x1 x2 x3 x4 x5 y : Option Tr} {d : Tr} {r : St2} {N : St2 → Ms → Prop} : gN 6 d (x0 :: x1 :: x2 :: x3 :: x4 :: x5 :: y :: r) M N = N (x0 :: x1 :: x2 :: x3 :: x4 :: x5 :: some d :: r) M := rfl
@[simp ↓] theorem eVar_7 {x0 x1 x2 x3 x4 x5 x6 : Option Tr} {d : Tr} {r : St2} : eVar 7 (x0 :: x1 :: x2 :: x3 :: x4 :: x5 :: x6 :: some d :: r) M Q E = Q d M := propext ⟨fun ⟨_, e, q⟩ => by have e2 : some (some d) = _ := e; cases e2; exact q, fun q => ⟨d, rfl, q⟩⟩
@[simp ↓] theorem gN_7 {x0 x1 x2 x3 x4 x5 x6 y : Option Tr} {d : Tr} {r : St2} {N : St2 → Ms → Prop} : gN 7 d (x0 :: x1 :: x2 :: x3 :: x4 :: x5 :: x6 :: y :: r) M N = N (x0 :: x1 :: x2 :: x3 :: x4 :: x5 :: x6 :: some d :: r) M := rfl
@[simp ↓] theorem eVar_8 {x0 x1 x2 x3 x4 x5 x6 x7 : Option Tr} {d : Tr} {r : St2} : eVar 8 (x0 :: x1 :: x2 :: x3 :: x4 :: x5 :: x6 :: x7 :: some d :: r) M Q E = Q d M := propext ⟨fun ⟨_, e, q⟩ => by have e2 : some (some d) = _ := e; cases e2; exact q, fun q => ⟨d, rfl, q⟩⟩
@[simp ↓] theorem gN_8 {x0 x1 x2 x3 x4 x5 x6 x7 y : Option Tr} {d : Tr} {r : St2} {N : St2 → Ms → Prop} : gN 8 d (x0 :: x1 :: x2 :: x3 :: x4 :: x5 :: x6 :: x7 :: y :: r) M N = N (x0 :: x1 :: x2 :: x3 :: x4 :: x5 :: x6 :: x7 :: some d :: r) M := rfl
@[simp ↓] theorem eVar_9 {x0 x1 x2 x3 x4 x5 x6 x7 x8 : Option Tr} {d : Tr} {r : St2} : eVar 9 (x0 :: x1 :: x2 :: x3 :: x4 :: x5 :: x6 :: x7 :: x8 :: some d :: r) M Q E = Q d M := propext ⟨fun ⟨_, e, q⟩ => by have e2 : some (some d) = _ := e; cases e2; exact q, fun q => ⟨d, rfl, q⟩⟩
@[simp ↓] theorem gN_9 {x0 x1 x2 x3 x4 x5 x6 x7 x8 y : Option Tr} {d : Tr} {r : St2} {N : St2 → Ms → Prop} : gN 9 d (x0 :: x1 :: x2 :: x3 :: x4 :: x5 :: x6 :: x7 :: x8 :: y :: r) M N = N (x0 :: x1 :: x2 :: x3 :: x4 :: x5 :: x6 :: x7 :: x8 :: some d :: r) M := rfl
@[simp ↓] theorem eVar_10 {x0 x1 x2 x3 x4 x5 x6 x7 x8 x9 : Option Tr} {d : Tr} {r : St2} : eVar 10 (x0 :: x1 :: x2 :: x3 :: x4 :: x5 :: x6 :: x7 :: x8 :: x9 :: some d :: r) M Q E = Q d M := propext ⟨fun ⟨_, e, q⟩ => by have e2 : some (some d) = _ := e; cases e2; exact q, fun q => ⟨d, rfl, q⟩⟩
@[simp ↓] theorem gN_10 {x0 x1 x2 x3 x4 x5 x6 x7 x8 x9 y : Option Tr} {d : Tr} {r : St2} {N : St2 → Ms → Prop} : gN 10 d (x0 :: x1 :: x2 :: x3 :: x4 :: x5 :: x6 :: x7 :: x8 :: x9 :: y :: r) M N = N (x0 :: x1 :: x2 :: x3 :: x4 :: x5 :: x6 :: x7 :: x8 :: x9 :: some d :: r) M := rfl
@[simp ↓] theorem eVar_11 {x0 x1 x2 x3 x4 x5 x6 x7 x8 x9 x10 : Option Tr} {d : Tr} {r : St2} : eVar 11 (x0 :: x1 :: x2 :: x3 :: x4 :: x5 :: x6 :: x7 :: x8 :: x9 :: x10 :: some d :: r) M Q E = Q d M := propext ⟨fun ⟨_, e, q⟩ => by have e2 : some (some d) = _ := e; cases e2; exact q, fun q => ⟨d, rfl, q⟩⟩
@[simp ↓] theorem gN_11 {x0 x1 x2 x3 x4 x5 x6 x7 x8 x9 x10 y : Option Tr} {d : Tr} {r : St2} {N : St2 → Ms → Prop} : gN 11 d (x0 :: x1 :: x2 :: x3 :: x4 :: x5 :: x6 :: x7 :: x8 :: x9 :: x10 :: y :: r) M N = N (x0 :: x1 :: x2 :: x3 :: x4 :: x5 :: x6 :: x7 :: x8 :: x9 :: x10 :: some d :: r) M := rfl
@[simp ↓] theorem eVar_12 {x0 x1 x2 x3 x4 x5 x6 x7 x8 x9 x10 x11 : Option Tr} {d : Tr} {r : St2} : eVar 12 (x0 :: x1 :: x2 :: x3 :: x4 :: x5 :: x6 :: x7 :: x8 :: x9 :: x10 :: x11 :: some d :: r) M Q E = Q d M := propext ⟨fun ⟨_, e, q⟩ => by have e2 : some (some d) = _ := e; cases e2; exact q, fun q => ⟨d, rfl, q⟩⟩
@[simp ↓] theorem gN_12 {x0 x1 x2 x3 x4 x5 x6 x7 x8 x9 x10 x11 y : Option Tr} {d : Tr} {r : St2} {N : St2 → Ms → Prop} : gN 12 d (x0 :: x1 :: x2 :: x3 :: x4 :: x5 :: x6 :: x7 :: x8 :: x9 :: x10 :: x11 :: y :: r) M N = N (x0 :: x1 :: x2 :: x3 :: x4 :: x5 :: x6 :: x7 :: x8 :: x9 :: x10 :: x11 :: some d :: r) M := rfl
@[simp ↓] theorem eVar_13 {x0 x1 x2 x3 x4 x5 x6 x7 x8 x9 x10 x11 x12 : Option Tr} {d : Tr} {r : St2} : eVar 13 (x0 :: x1 :: x2 :: x3 :: x4 :: x5 :: x6 :: x7 :: x8 :: x9 :: x10 :: x11 :: x12 :: some d :: r) M Q E = Q d M := propext ⟨fun ⟨_, e, q⟩ => by have e2 : some (some d) = _ := e; cases e2; exact q, fun q => ⟨d, rfl, q⟩⟩
@[simp ↓] theorem gN_13 {x0 x1 x2 x3 x4 x5 x6 x7 x8 x9 x10 x11 x12 y : Option Tr} {d : Tr} {r : St2} {N : St2 → Ms → Prop} : gN 13 d (x0 :: x1 :: x2 :: x3 :: x4 :: x5 :: x6 :: x7 :: x8 :: x9 :: x10 :: x11 :: x12 :: y :: r) M N = N (x0 :: x1 :: x2 :: x3 :: x4 :: x5 :: x6 :: x7 :: x8 :: x9 :: x10 :: x11 :: x12 :: some d :: r) M := rfl
@[simp ↓] theorem eVar_14 {x0 x1 x2 x3 x4 x5 x6 x7 x8 x9 x10 x11 x12 x13 : Option Tr} {d : Tr} {r : St2} : eVar 14 (x0 :: x1 :: x2 :: x3 :: x4 :: x5 :: x6 :: x7 :: x8 :: x9 :: x10 :: x11 :: x12 :: x13 :: some d :: r) M Q E = Q d M := propext ⟨fun ⟨_, e, q⟩ => by have e2 : some (some d) = _ := e; cases e2; exact q, fun q => ⟨d, rfl, q⟩⟩
@[simp ↓] theorem gN_14 {x0 x1 x2 x3 x4 x5 x6 x7 x8 x9 x10 x11 x12 x13 y : Option Tr} {d : Tr} {r : St2} {N : St2 → Ms → Prop} : gN 14 d (x0 :: x1 :: x2 :: x3 :: x4 :: x5 :: x6 :: x7 :: x8 :: x9 :: x10 :: x11 :: x12 :: x13 :: y :: r) M N = N (x0 :: x1 :: x2 :: x3 :: x4 :: x5 :: x6 :: x7 :: x8 :: x9 :: x10 :: x11 :: x12 :: x13 :: some d :: r) M := rfl
@[simp ↓] theorem eVar_15 {x0 x1 x2 x3 x4 x5 x6 x7 x8 x9 x10 x11 x12 x13 x14 : Option Tr} {d : Tr} {r : St2} : eVar 15 (x0 :: x1 :: x2 :: x3 :: x4 :: x5 :: x6 :: x7 :: x8 :: x9 :: x10 :: x11 :: x12 :: x13 :: x14 :: some d :: r) M Q E = Q d M := propext ⟨fun ⟨_, e, q⟩ => by have e2 : some (some d) = _ := e; cases e2; exact q, fun q => ⟨d, rfl, q⟩⟩
@[simp ↓] theorem gN_15 {x0 x1 x2 x3 x4 x5 x6 x7 x8 x9 x10 x11 x12 x13 x14 y : Option Tr} {d : Tr} {r : St2} {N : St2 → Ms → Prop} : gN 15 d (x0 :: x1 :: x2 :: x3 :: x4 :: x5 :: x6 :: x7 :: x8 :: x9 :: x10 :: x11 :: x12 :: x13 :: x14 :: y :: r) M N = N (x0 :: x1 :: x2 :: x3 :: x4 :: x5 :: x6 :: x7 :: x8 :: x9 :: x10 :: x11 :: x12 :: x13 :: x14 :: some d :: r) M := rfl
@[simp ↓] theorem eVar_16 {x0 x1 x2 x3 x4 x5 x6 x7 x8 x9 x10 x11 x12 x13 x14 x15 : Option Tr} {d : Tr} {r : St2} : eVar 16 (x0 :: x1 :: x2 :: x3 :: x4 :: x5 :: x6 :: x7 :: x8 :: x9 :: x10 :: x11 :: x12 :: x13 :: x14 :: x15 :: some d :: r) M Q E = Q d M := propext ⟨fun ⟨_, e, q⟩ => by have e2 : some (some d) = _ := e; cases e2; exact q, fun q => ⟨d, rfl, q⟩⟩
@[simp ↓] theorem gN_16 {x0 x1 x2 x3 x4 x5 x6 x7 x8 x9 x10 x11 x12 x13 x14 x15 y : Option Tr} {d : Tr} {r : St2} {N : St2 → Ms → Prop} : gN 16 d (x0 :: x1 :: x2 :: x3 :: x4 :: x5 :: x6 :: x7 :: x8 :: x9 :: x10 :: x11 :: x12 :: x13 :: x14 :: x15 :: y :: r) M N = N (x0 :: x1 :: x2 :: x3 :: x4 :: x5 :: x6 :: x7 :: x8 :: x9 :: x10 :: x11 :: x12 :: x13 :: x14 :: x15 :: some d :: r) M := rfl
@[simp ↓] theorem eVar_17 {x0 x1 x2 x3 x4 x5 x6 x7 x8 x9 x10 x11 x12 x13 x14 x15 x16 : Option Tr} {d : Tr} {r : St2} : eVar 17 (x0 :: x1 :: x2 :: x3 :: x4 :: x5 :: x6 :: x7 :: x8 :: x9 :: x10 :: x11 :: x12 :: x13 :: x14 :: x15 :: x16 :: some d :: r) M Q E = Q d M := propext ⟨fun ⟨_, e, q⟩ => by have e2 : some (some d) = _ := e; cases e2; exact q, fun q => ⟨d, rfl, q⟩⟩
@[simp ↓] theorem gN_17 {x0 x1 x2 x3 x4 x5 x6 x7 x8 x9 x10 x11 x12 x13 x14 x15 x16 y : Option Tr} {d : Tr} {r : St2} {N : St2 → Ms → Prop} : gN 17 d (x0 :: x1 :: x2 :: x3 :: x4 :: x5 :: x6 :: x7 :: x8 :: x9 :: x10 :: x11 :: x12 :: x13 :: x14 :: x15 :: x16 :: y :: r) M N = N (x0 :: x1 :: x2 :: x3 :: x4 :: x5 :: x6 :: x7 :: x8 :: x9 :: x10 :: x11 :: x12 :: x13 :: x14 :: x15 :: x16 :: some d :: r) M := rfl
@[simp ↓] theorem eVar_18 {x0 x1 x2 x3 x4 x5 x6 x7 x8 x9 x10 x11 x12 x13 x14 x15 x16 x17 : Option Tr} {d : Tr} {r : St2} : eVar 18 (x0 :: x1 :: x2 :: x3 :: x4 :: x5 :: x6 :: x7 :: x8 :: x9 :: x10 :: x11 :: x12 :: x13 :: x14 :: x15 :: x16 :: x17 :: some d :: r) M Q E = Q d M := propext ⟨fun ⟨_, e, q⟩ => by have e2 : some (some d) = _ := e; cases e2; exact q, fun q => ⟨d, rfl, q⟩⟩
@[simp ↓] theorem gN_18 {x0 x1 x2 x3 x4 x5 x6 x7 x8 x9 x10 x11 x12 x13 x14 x15 x16 x17 y : Option Tr} {d : Tr} {r : St2} {N : St2 → Ms → Prop} : gN 18 d (x0 :: x1 :: x2 :: x3 :: x4 :: x5 :: x6 :: x7 :: x8 :: x9 :: x10 :: x11 :: x12 :: x13 :: x14 :: x15 :: x16 :: x17 :: y :: r) M N = N (x0 :: x1 :: x2 :: x3 :: x4 :: x5 :: x6 :: x7 :: x8 :: x9 :: x10 :: x11 :: x12 :: x13 :: x14 :: x15 :: x16 :: x17 :: some d :: r) M := rfl
@[simp ↓] theorem eVar_19 {x0 x1 x2 x3 x4 x5 x6 x7 x8 x9 x10 x11 x12 x13 x14 x15 x16 x17 x18 : Option Tr} {d : Tr} {r : St2} : eVar 19 (x0 :: x1 :: x2 :: x3 :: x4 :: x5 :: x6 :: x7 :: x8 :: x9 :: x10 :: x11 :: x12 :: x13 :: x14 :: x15 :: x16 :: x17 :: x18 :: some d :: r) M Q E = Q d M := propext ⟨fun ⟨_, e, q⟩ => by have e2 : some (some d) = _ := e; cases e2; exact q, fun q => ⟨d, rfl, q⟩⟩
@[simp ↓] theorem gN_19 {x0 x1 x2 x3 x4 x5 x6 x7 x8 x9 x10 x11 x12 x13 x14 x15 x16 x17 x18 y : Option Tr} {d : Tr} {r : St2} {N : St2 → Ms → Prop} : gN 19 d (x0 :: x1 :: x2 :: x3 :: x4 :: x5 :: x6 :: x7 :: x8 :: x9 :: x10 :: x11 :: x12 :: x13 :: x14 :: x15 :: x16 :: x17 :: x18 :: y :: r) M N = N (x0 :: x1 :: x2 :: x3 :: x4 :: x5 :: x6 :: x7 :: x8 :: x9 :: x10 :: x11 :: x12 :: x13 :: x14 :: x15 :: x16 :: x17 :: x18 :: some d :: r) M := rfl

@[simp ↓] theorem eC_ap {d : Tr} : eC d σ M Q E = Q d M := rfl
variable {r r' : R22} {ta tb tc te to : TE2} {t : TA2} {tA tB : TT2} {u v : TS2}
@[simp ↓] theorem eOp_ap : eOp r ta tb σ M Q E = ta σ M (fun d M1 => tb σ M1 (fun e M2 => r d e M2 Q) E) E := rfl
@[simp ↓] theorem eUn_ap {f : Tr → Ms → Q2 → Prop} : eUn f ta σ M Q E = ta σ M (fun d M1 => f d M1 Q) E := rfl
/-- what a truth is -/
def kB (d : Tr) (P : Bool → Prop) : Prop := match d with
  | .bl b => P b
  | _ => False
@[simp ↓] theorem kB_bl {b : Bool} {P : Bool → Prop} : kB (.bl b) P = P b := rfl
theorem kB_of {d : Tr} {P : Bool → Prop} : (∃ b, d = .bl b ∧ P b) = kB d P := propext ⟨fun ⟨b, e, q⟩ => by subst e; exact q, fun h => by
  cases d with
  | bl b => exact ⟨b, rfl, h⟩
  | _ => exact h.elim⟩
@[simp ↓] theorem eChain_ap : eChain r r' ta tb tc σ M Q E = ta σ M (fun d M1 => tb σ M1 (fun e M2 => r d e M2 fun z M3 => kB z fun k => if k = true then tc σ M3 (fun f M4 => r' e f M4 Q) E else Q (.bl false) M3) E) E := by
  unfold eChain
  simp only [kB_of]
@[simp ↓] theorem tCm_ap {P : Bool → Ms → Prop} : tCm ta σ M P E = ta σ M (fun d M1 => kB d fun b => P b M1) E := by
  unfold tCm
  simp only [kB_of]
def kT (d : Tr) (M : Ms) (P : Bool → Prop) : Prop := match truT d M with
  | some k => P k
  | none => False
theorem opt_of {α : Type} {o : Option α} {P : α → Prop} : (∃ k, o = some k ∧ P k) = match o with | some k => P k | none => False := by
  cases o with
  | none => simp
  | some a => simp
theorem kT_of {d : Tr} {P : Bool → Prop} : (∃ k, truT d M = some k ∧ P k) = kT d M P := by
  unfold kT
  cases truT d M <;> simp
variable {P : Bool → Prop}
@[simp ↓] theorem kT_bl {b : Bool} : kT (.bl b) M P = P b := rfl
@[simp ↓] theorem kT_int {i : Int} : kT (.int i) M P = P (i != 0) := rfl
@[simp ↓] theorem kT_non : kT .non M P = P false := rfl
@[simp ↓] theorem kT_tup {ds : List Tr} : kT (.tup ds) M P = P (!ds.isEmpty) := rfl
@[simp ↓] theorem kT_fro {ds : List Tr} : kT (.fro ds) M P = P (!ds.isEmpty) := rfl
@[simp ↓] theorem kT_loc {a : Addr} : kT (.loc a) M P = match M a with
  | some (.lst ds) => P (!ds.isEmpty)
  | some (.dic kvs) => P (!kvs.isEmpty)
  | _ => False := by
  simp only [kT, truT]
  generalize M a = o
  cases o with
  | none => rfl
  | some o => cases o <;> rfl
theorem kT_str {x : Str} (h : x.length ≤ sizeLine) : kT (.str x) M P = P ((x.length : Int) != 0) := by simp only [kT, truT, if_pos h]
@[simp ↓] theorem tTr_ap {P : Bool → Ms → Prop} : tTr ta σ M P E = ta σ M (fun d M1 => kT d M1 fun k => P k M1) E := by
  unfold tTr
  simp only [kT_of]
@[simp ↓] theorem tAn_ap {P : Bool → Ms → Prop} : tAn tA tB σ M P E = tA σ M (fun c M1 => if c = true then tB σ M1 P E else P false M1) E := rfl
@[simp ↓] theorem tOrr_ap {P : Bool → Ms → Prop} : tOrr tA tB σ M P E = tA σ M (fun c M1 => if c = true then P true M1 else tB σ M1 P E) E := rfl
@[simp ↓] theorem tNo_ap {P : Bool → Ms → Prop} : tNo tA σ M P E = tA σ M (fun c M1 => P (!c) M1) E := rfl
@[simp ↓] theorem tYes2_ap {P : Bool → Ms → Prop} : tYes2 σ M P E = P true M := rfl
@[simp ↓] theorem eAn_ap : eAn ta tb σ M Q E = ta σ M (fun d M1 => kT d M1 fun k => if k = true then tb σ M1 Q E else Q d M1) E := by
  unfold eAn
  simp only [kT_of]
@[simp ↓] theorem eOrr_ap : eOrr ta tb σ M Q E = ta σ M (fun d M1 => kT d M1 fun k => if k = true then Q d M1 else tb σ M1 Q E) E := by
  unfold eOrr
  simp only [kT_of]
@[simp ↓] theorem eNo_ap : eNo ta σ M Q E = ta σ M (fun d M1 => kT d M1 fun k => Q (.bl (!k)) M1) E := by
  unfold eNo
  simp only [kT_of]
@[simp ↓] theorem eIf_ap : eIf tA ta tb σ M Q E = tA σ M (fun c M1 => if c = true then ta σ M1 Q E else tb σ M1 Q E) E := rfl
@[simp ↓] theorem aNil_ap {P : List Tr → Ms → Prop} : aNil σ M P E = P [] M := rfl
@[simp ↓] theorem aCons_ap {P : List Tr → Ms → Prop} : aCons ta t σ M P E = ta σ M (fun d M1 => t σ M1 (fun ds M2 => P (d :: ds) M2) E) E := rfl
@[simp ↓] theorem eTup_ap : eTup t σ M Q E = t σ M (fun ds M1 => ds.length ≤ sizeLine ∧ Q (.tup ds) M1) E := rfl
/-- a new list is made: one stops here -/
def NewL (M : Ms) (ds : List Tr) (Q : Q2) (_ : Fx Q) : Prop := ∀ p, M p = none → Q (.loc p) (up M p (.lst ds))
@[simp ↓] theorem eLst_ap : eLst t σ M Q E = t σ M (fun ds M1 => ds.length ≤ sizeLine ∧ NewL M1 ds Q .mk) E := rfl
/-! subscripts -/
def kS (d : Tr) (M : Ms) (P : List Tr → Prop) : Prop := match seqT d M with
  | some l => P l
  | none => False
variable {PL : List Tr → Prop} {l : List Tr}
@[simp ↓] theorem kS_tup : kS (.tup l) M PL = PL l := rfl
@[simp ↓] theorem kS_fro : kS (.fro l) M PL = PL l := rfl
@[simp ↓] theorem kS_loc {a : Addr} : kS (.loc a) M PL = match M a with
  | some (.lst ds) => PL ds
  | _ => False := by
  simp only [kS, seqT]
  generalize M a = o
  cases o with
  | none => rfl
  | some o => cases o <;> rfl
theorem kS_of {d : Tr} : (∃ k, seqT d M = some k ∧ PL k) = kS d M PL := by
  unfold kS
  cases seqT d M <;> simp
def kAt (l : List Tr) (i : Int) (P : Tr → Prop) : Prop := match atI l i with
  | some f => P f
  | none => False
theorem kAt_of {i : Int} {P : Tr → Prop} : (∃ k, atI l i = some k ∧ P k) = kAt l i P := by
  unfold kAt
  cases atI l i <;> simp
theorem atI_nat {α : Type} (xs : List α) (i : Nat) : atI xs (i : Int) = xs[i]? := by
  unfold atI ixN
  rw [if_pos (by omega)]
  by_cases h : i < xs.length
  · rw [if_pos (by omega)]
    simp
  · rw [if_neg (by omega)]
    simp; omega
theorem atI_last {α : Type} (xs : List α) : atI xs (-1) = xs[xs.length - 1]? := by
  unfold atI ixN
  rw [if_neg (by omega)]
  by_cases h : xs.length = 0
  · rw [if_neg (by omega)]
    simp; omega
  · rw [if_pos (by omega)]
    have e : (-1 + (xs.length : Int)).toNat = xs.length - 1 := by omega
    simp [e]

@[simp ↓] theorem kAt_0 {d : Tr} {s : List Tr} {P : Tr → Prop} : kAt (d :: s) 0 P = P d := by
  have e : atI (d :: s) ((0 : Nat) : Int) = some d := by rw [atI_nat]; rfl
  have e2 : kAt (d :: s) ((0 : Nat) : Int) P = P d := by unfold kAt; rw [e]
  exact e2
@[simp ↓] theorem kAt_1 {z0 d : Tr} {s : List Tr} {P : Tr → Prop} : kAt (z0 :: d :: s) 1 P = P d := by
  have e : atI (z0 :: d :: s) ((1 : Nat) : Int) = some d := by rw [atI_nat]; rfl
  have e2 : kAt (z0 :: d :: s) ((1 : Nat) : Int) P = P d := by unfold kAt; rw [e]
  exact e2
@[simp ↓] theorem kAt_2 {z0 z1 d : Tr} {s : List Tr} {P : Tr → Prop} : kAt (z0 :: z1 :: d :: s) 2 P = P d := by
  have e : atI (z0 :: z1 :: d :: s) ((2 : Nat) : Int) = some d := by rw [atI_nat]; rfl
  have e2 : kAt (z0 :: z1 :: d :: s) ((2 : Nat) : Int) P = P d := by unfold kAt; rw [e]
  exact e2
@[simp ↓] theorem kAt_3 {z0 z1 z2 d : Tr} {s : List Tr} {P : Tr → Prop} : kAt (z0 :: z1 :: z2 :: d :: s) 3 P = P d := by
  have e : atI (z0 :: z1 :: z2 :: d :: s) ((3 : Nat) : Int) = some d := by rw [atI_nat]; rfl
  have e2 : kAt (z0 :: z1 :: z2 :: d :: s) ((3 : Nat) : Int) P = P d := by unfold kAt; rw [e]
  exact e2
@[simp ↓] theorem kAt_4 {z0 z1 z2 z3 d : Tr} {s : List Tr} {P : Tr → Prop} : kAt (z0 :: z1 :: z2 :: z3 :: d :: s) 4 P = P d := by
  have e : atI (z0 :: z1 :: z2 :: z3 :: d :: s) ((4 : Nat) : Int) = some d := by rw [atI_nat]; rfl
  have e2 : kAt (z0 :: z1 :: z2 :: z3 :: d :: s) ((4 : Nat) : Int) P = P d := by unfold kAt; rw [e]
  exact e2
@[simp ↓] theorem kAt_5 {z0 z1 z2 z3 z4 d : Tr} {s : List Tr} {P : Tr → Prop} : kAt (z0 :: z1 :: z2 :: z3 :: z4 :: d :: s) 5 P = P d := by
  have e : atI (z0 :: z1 :: z2 :: z3 :: z4 :: d :: s) ((5 : Nat) : Int) = some d := by rw [atI_nat]; rfl
  have e2 : kAt (z0 :: z1 :: z2 :: z3 :: z4 :: d :: s) ((5 : Nat) : Int) P = P d := by unfold kAt; rw [e]
  exact e2

theorem kAt_get {P : Tr → Prop} {i : Nat} {d : Tr} (h : l[i]? = some d) : kAt l (i : Int) P = P d := by unfold kAt; rw [atI_nat, h]
theorem kAt_last {P : Tr → Prop} {d : Tr} (h : l[l.length - 1]? = some d) : kAt l (-1) P = P d := by unfold kAt; rw [atI_last, h]
/-- a sign of a text -/
def kChr (z : Str) (i : Int) (P : Tr → Prop) : Prop := match atI z.cps.toList i with
  | some c => P (.str ⟨#[c]⟩)
  | none => False
@[simp ↓] theorem rIx2_str {z : Str} {i : Int} : rIx2 (.str z) (.int i) M Q = (z.length ≤ sizeLine ∧ kChr z i fun d => Q d M) := by
  have e : rIx2 (.str z) (.int i) M Q = (z.length ≤ sizeLine ∧ ∃ c, atI z.cps.toList i = some c ∧ Q (.str ⟨#[c]⟩) M) := rfl
  rw [e]
  unfold kChr
  cases atI z.cps.toList i <;> simp
@[simp ↓] theorem rIx2_tup {i : Int} : rIx2 (.tup l) (.int i) M Q = kAt l i fun d => Q d M := by
  unfold rIx2
  simp [kAt_of, seqT]
@[simp ↓] theorem rIx2_fro {i : Int} : rIx2 (.fro l) (.int i) M Q = kAt l i fun d => Q d M := by
  unfold rIx2
  simp [kAt_of, seqT]
@[simp ↓] theorem rIx2_loc {a : Addr} {i : Int} : rIx2 (.loc a) (.int i) M Q = kS (.loc a) M fun l => kAt l i fun d => Q d M := by
  have e : rIx2 (.loc a) (.int i) M Q = ∃ ds f, seqT (.loc a) M = some ds ∧ atI ds i = some f ∧ Q f M := rfl
  rw [e]
  simp only [exists_and_left, kAt_of, kS_of]
def kI (d : Tr) (P : Int → Prop) : Prop := match d with
  | .int i => P i
  | _ => False
@[simp ↓] theorem kI_int {i : Int} {P : Int → Prop} : kI (.int i) P = P i := rfl
theorem kI_of {d : Tr} {P : Int → Prop} : (∃ b, d = .int b ∧ P b) = kI d P := propext ⟨fun ⟨b, e, q⟩ => by subst e; exact q, fun h => by
  cases d with
  | int b => exact ⟨b, rfl, h⟩
  | _ => exact h.elim⟩
variable {PO : Option Int → Ms → Prop} {lo hi : Option Int} {tl th : TO2}
@[simp ↓] theorem oNo_ap : oNo σ M PO E = PO none M := rfl
@[simp ↓] theorem oPart_ap : oPart ta σ M PO E = ta σ M (fun d M1 => kI d fun i => PO (some i) M1) E := by
  unfold oPart
  simp only [kI_of]
@[simp ↓] theorem eSl_ap {f : Tr → Option Int → Option Int → Ms → Q2 → Prop} : eSl f ta tl th σ M Q E = ta σ M (fun d M1 => tl σ M1 (fun lo M2 => th σ M2 (fun hi M3 => f d lo hi M3 Q) E) E) E := rfl
@[simp ↓] theorem rSl2_tup : rSl2 (.tup l) lo hi M Q = Q (.tup (cutT l lo hi)) M := rfl
@[simp ↓] theorem rSl2_str {z : Str} : rSl2 (.str z) lo hi M Q = (z.length ≤ sizeLine ∧ Q (.str (cutS z lo hi)) M) := rfl
@[simp ↓] theorem rSl2_fro : rSl2 (.fro l) lo hi M Q = NewL M (cutT l lo hi) Q .mk := by
  unfold rSl2 NewL
  simp [seqT]
@[simp ↓] theorem rSl2_loc {a : Addr} : rSl2 (.loc a) lo hi M Q = kS (.loc a) M fun l => NewL M (cutT l lo hi) Q .mk := by
  have e : rSl2 (.loc a) lo hi M Q = ∃ ds, seqT (.loc a) M = some ds ∧ NewL M (cutT ds lo hi) Q .mk := rfl
  rw [e, kS_of]
theorem cutT_hi (ds : List Tr) (k : Nat) : cutT ds none (some (k : Int)) = ds.take k := by
  unfold cutT
  rw [HT.sIx_none, HT.sIx_nat, List.drop_zero, Nat.sub_zero]
  by_cases h : k ≤ ds.length
  · rw [Nat.min_eq_left h]
  · rw [Nat.min_eq_right (by omega), List.take_length, List.take_of_length_le (by omega)]
theorem cutT_lo (ds : List Tr) (k : Nat) : cutT ds (some (k : Int)) none = ds.drop k := by
  unfold cutT
  rw [HT.sIx_none, HT.sIx_nat]
  by_cases h : k ≤ ds.length
  · rw [Nat.min_eq_left h, List.take_of_length_le (by simp)]
  · rw [Nat.min_eq_right (by omega), List.drop_length, List.drop_of_length_le (by omega)]; simp
theorem cutT_both (ds : List Tr) (k l : Nat) : cutT ds (some (k : Int)) (some (l : Int)) = (ds.drop k).take (l - k) := by
  unfold cutT
  rw [HT.sIx_nat, HT.sIx_nat]
  by_cases h : k ≤ ds.length
  · rw [Nat.min_eq_left h]
    by_cases h2 : l ≤ ds.length
    · rw [Nat.min_eq_left h2]
    · rw [Nat.min_eq_right (show ds.length ≤ l by omega), List.take_of_length_le (by simp), List.take_of_length_le (by simp; omega)]
  · rw [Nat.min_eq_right (show ds.length ≤ k by omega), List.drop_length, List.drop_of_length_le (by omega)]; simp
/-! operators -/
variable {i j : Int} {a b : Addr}
@[simp ↓] theorem rII_ap {C : Int → Int → Prop} {g : Int → Int → Int} : rII C g (.int i) (.int j) M Q = (C i j ∧ Q (.int (g i j)) M) := rfl
@[simp ↓] theorem rII_t {g : Int → Int → Int} : rII (fun _ _ => True) g (.int i) (.int j) M Q = Q (.int (g i j)) M := propext ⟨fun h => h.2, fun h => ⟨trivial, h⟩⟩
@[simp ↓] theorem rAdd2_int : rAdd2 (.int i) (.int j) M Q = Q (.int (i + j)) M := rfl
@[simp ↓] theorem rAdd2_str {x y : Str} : rAdd2 (.str x) (.str y) M Q = (x.length + y.length ≤ sizeLine ∧ Q (.str (x ++ y)) M) := rfl
@[simp ↓] theorem rAdd2_tup {k : List Tr} : rAdd2 (.tup l) (.tup k) M Q = (l.length + k.length ≤ sizeLine ∧ Q (.tup (l ++ k)) M) := rfl
@[simp ↓] theorem rAdd2_loc : rAdd2 (.loc a) (.loc b) M Q = kS (.loc a) M fun l => kS (.loc b) M fun k => l.length + k.length ≤ sizeLine ∧ NewL M (l ++ k) Q .mk := by
  have e : rAdd2 (.loc a) (.loc b) M Q = ∃ la lb, M a = some (.lst la) ∧ M b = some (.lst lb) ∧ la.length + lb.length ≤ sizeLine ∧ NewL M (la ++ lb) Q .mk := rfl
  rw [e]
  apply propext
  constructor
  · rintro ⟨la, lb, h1, h2, h3⟩
    simp only [kS_loc, h1, h2]
    exact h3
  · intro h
    rw [← kS_of] at h
    obtain ⟨la, h1, h⟩ := h
    rw [← kS_of] at h
    obtain ⟨lb, h2, h⟩ := h
    exact ⟨la, lb, seqT_loc h1, seqT_loc h2, h⟩
@[simp ↓] theorem rMul2_int : rMul2 (.int i) (.int j) M Q = (CMulX i j ∧ Q (.int (i * j)) M) := rfl
@[simp ↓] theorem rMul2_loc : rMul2 (.loc a) (.int i) M Q = kS (.loc a) M fun la => -(2 ^ 63) ≤ i ∧ i < 2 ^ 63 ∧ la.length * i.toNat ≤ sizeLine ∧ NewL M (List.replicate i.toNat la).flatten Q .mk := by
  have e : rMul2 (.loc a) (.int i) M Q = ∃ la, M a = some (.lst la) ∧ -(2 ^ 63) ≤ i ∧ i < 2 ^ 63 ∧ la.length * i.toNat ≤ sizeLine ∧ NewL M (List.replicate i.toNat la).flatten Q .mk := rfl
  rw [e]
  apply propext
  constructor
  · rintro ⟨la, h1, h3⟩
    simp only [kS_loc, h1]
    exact h3
  · intro h
    rw [← kS_of] at h
    obtain ⟨la, h1, h⟩ := h
    exact ⟨la, seqT_loc h1, h⟩
@[simp ↓] theorem rCmpI_ap {f : Int → Int → Bool} : rCmpI f (.int i) (.int j) M Q = Q (.bl (f i j)) M := rfl
@[simp ↓] theorem rNeg2_ap : rNeg2 (.int i) M Q = Q (.int (-i)) M := rfl
variable {f : Bool → Bool} {x y : Str} {p q : Bool} {kk : List Tr}
@[simp ↓] theorem rEqG_ii : rEqG f (.int i) (.int j) M Q = Q (.bl (f (decide (i = j)))) M := rfl
@[simp ↓] theorem rEqG_ss : rEqG f (.str x) (.str y) M Q = Q (.bl (f (decide (x = y)))) M := rfl
@[simp ↓] theorem rEqG_bb : rEqG f (.bl p) (.bl q) M Q = Q (.bl (f (decide (p = q)))) M := rfl
@[simp ↓] theorem rEqG_nn : rEqG f .non .non M Q = Q (.bl (f true)) M := rfl
@[simp ↓] theorem rEqG_ni : rEqG f .non (.int j) M Q = Q (.bl (f false)) M := rfl
@[simp ↓] theorem rEqG_in : rEqG f (.int j) .non M Q = Q (.bl (f false)) M := rfl
@[simp ↓] theorem rEqG_ns : rEqG f .non (.str x) M Q = Q (.bl (f false)) M := rfl
@[simp ↓] theorem rEqG_sn : rEqG f (.str x) .non M Q = Q (.bl (f false)) M := rfl
@[simp ↓] theorem rEqG_is : rEqG f (.int i) (.str x) M Q = Q (.bl (f false)) M := rfl
@[simp ↓] theorem rEqG_si : rEqG f (.str x) (.int i) M Q = Q (.bl (f false)) M := rfl
/-- data compared: one stops here -/
def EqS (f : Bool → Bool) (d e : Tr) (M : Ms) (Q : Q2) (_ : Fx Q) : Prop := ∃ p q, Dat M p d ∧ Dat M q e ∧ SeqAt.shaped p = true ∧ SeqAt.shaped q = true ∧ Q (.bl (f (PyData.eqv p q))) M
@[simp ↓] theorem rEqG_tt : rEqG f (.tup l) (.tup kk) M Q = EqS f (.tup l) (.tup kk) M Q .mk := rfl
@[simp ↓] theorem rEqG_ll : rEqG f (.loc a) (.loc b) M Q = EqS f (.loc a) (.loc b) M Q .mk := rfl
@[simp ↓] theorem rIsG_n {d : Tr} : rIsG f d .non M Q = Q (.bl (f (isNon d))) M := rfl
@[simp ↓] theorem rIsG_b : rIsG f (.bl p) (.bl q) M Q = Q (.bl (f (decide (p = q)))) M := by
  have e : rIsG f (.bl p) (.bl q) M Q = ∃ a, Tr.bl p = .bl a ∧ Q (.bl (f (decide (a = q)))) M := rfl
  rw [e, kB_of]
  rfl
@[simp] theorem isNon_n : isNon .non = true := rfl
@[simp] theorem isNon_i : isNon (.int i) = false := rfl
@[simp] theorem isNon_s : isNon (.str x) = false := rfl
@[simp] theorem isNon_t : isNon (.tup l) = false := rfl
@[simp] theorem isNon_l : isNon (.loc a) = false := rfl
@[simp] theorem isNon_b : isNon (.bl p) = false := rfl
@[simp ↓] theorem rInG_ss : rInG f (.str x) (.str y) M Q = Q (.bl (f (strIn x y))) M := rfl
theorem rInG_seq {d e : Tr} (h : seqT e M = some l) (h1 : flatT d = true) (h2 : l.all flatT = true) (hq : Q (.bl (f (inT d l))) M) : rInG f d e M Q := by
  cases d <;> cases e <;> first
    | (cases h; done)
    | exact Or.inl ⟨l, h, h1, h2, hq⟩
/-! built-ins -/
@[simp ↓] theorem eB_ap {rc : RC2} : eB rc t σ M Q E = t σ M (fun ds M1 => rc ds M1 Q) E := rfl
@[simp ↓] theorem eBK_ap {rc : RCK2} {tk : TA2} : eBK rc t tk σ M Q E = t σ M (fun ds M1 => tk σ M1 (fun es M2 => rc ds es M2 Q) E) E := rfl
def kL (d : Tr) (M : Ms) (P : Nat → Prop) : Prop := match lenT d M with
  | some n => P n
  | none => False
variable {PN : Nat → Prop} {d e : Tr}
@[simp ↓] theorem kL_tup : kL (.tup l) M PN = PN l.length := rfl
@[simp ↓] theorem kL_fro : kL (.fro l) M PN = PN l.length := rfl
@[simp ↓] theorem kL_loc : kL (.loc a) M PN = match M a with
  | some (.lst ds) => PN ds.length
  | some (.dic kvs) => PN kvs.length
  | _ => False := by
  simp only [kL, lenT]
  generalize M a = o
  cases o with
  | none => rfl
  | some o => cases o <;> rfl
theorem kL_str (h : x.length ≤ sizeLine) : kL (.str x) M PN = PN x.length := by simp only [kL, lenT, if_pos h]
@[simp ↓] theorem rLen2_ap : rLen2 [d] M Q = kL d M fun n => Q (.int n) M := by
  have e : rLen2 [d] M Q = ∃ n, lenT d M = some n ∧ Q (.int n) M := rfl
  rw [e]
  unfold kL
  cases lenT d M <;> simp
@[simp ↓] theorem rTuple2_ap : rTuple2 [d] M Q = kS d M fun l => Q (.tup l) M := kS_of
@[simp ↓] theorem rList2_ap : rList2 [d] M Q = kS d M fun l => NewL M l Q .mk := kS_of (PL := fun l => NewL M l Q .mk)
@[simp ↓] theorem rInt2_int : rInt2 [.int i] M Q = Q (.int i) M := rfl
@[simp ↓] theorem rAbs2_int : rAbs2 [.int i] M Q = Q (.int (if i < 0 then -i else i)) M := rfl
@[simp ↓] theorem rMax2_int : rMax2 [.int i, .int j] M Q = Q (.int (if j > i then j else i)) M := rfl
@[simp ↓] theorem rMin2_int : rMin2 [.int i, .int j] M Q = Q (.int (if j < i then j else i)) M := rfl
/-- sum of a list: one stops here -/
def SumS (d : Tr) (M : Ms) (Q : Q2) (_ : Fx Q) : Prop := ∃ ns : List Int, seqT d M = some (ns.map Tr.int) ∧ (∀ es, d ≠ .tup es) ∧ Q (.int ns.sum) M
@[simp ↓] theorem rSum2_ap : rSum2 [d] M Q = SumS d M Q .mk := rfl
def MaxS (le : Int → Int → Prop) (d : Tr) (M : Ms) (Q : Q2) (_ : Fx Q) : Prop := ∃ ns : List Int, seqT d M = some (ns.map Tr.int) ∧ (∀ es, d ≠ .tup es) ∧ 0 < ns.length ∧ ∀ m, m ∈ ns → (∀ y, y ∈ ns → le y m) → Q (.int m) M
@[simp ↓] theorem rMaxL_ap {le : Int → Int → Prop} : rMaxL le [d] M Q = MaxS le d M Q .mk := rfl
def MaxDS (d : Tr) (i : Int) (M : Ms) (Q : Q2) (_ : Fx Q) : Prop := ∃ ns : List Int, seqT d M = some (ns.map Tr.int) ∧ (∀ es, d ≠ .tup es) ∧ Q (.int (mxD ns i)) M
@[simp ↓] theorem rMaxD_ap : rMaxD [d] [.int i] M Q = MaxDS d i M Q .mk := propext ⟨fun ⟨d', ns, k, e1, e2, h⟩ => by cases e1; cases e2; exact ⟨ns, h⟩, fun ⟨ns, h⟩ => ⟨d, ns, i, rfl, rfl, h⟩⟩
def kY (d : Tr) (M : Ms) (c : String) (P : Bool → Prop) : Prop := ∃ t b, tyT d M = some t ∧ kitB t c = some b ∧ P b
@[simp ↓] theorem rIsi2_ap {c : String} : rIsi2 [d, .ty c] M Q = kY d M c fun b => Q (.bl b) M := propext ⟨fun ⟨t, c', b, h1, h2, h3, h4⟩ => by cases h2; exact ⟨t, b, h1, h3, h4⟩, fun ⟨t, b, h1, h3, h4⟩ => ⟨t, c, b, h1, rfl, h3, h4⟩⟩
theorem kY_of {c t : String} {b : Bool} (h : tyT d M = some t) (h2 : kitB t c = some b) : kY d M c P = P b := propext ⟨fun ⟨t', b', h3, h4, h5⟩ => by
  rw [h] at h3; cases h3
  rw [h2] at h4; cases h4
  exact h5, fun h3 => ⟨t, b, h, h2, h3⟩⟩
/-- repr: one stops here -/
def ReprS (d : Tr) (M : Ms) (Q : Q2) (_ : Fx Q) : Prop := ∃ p : PyData, Dat M p d ∧ p.showable = true ∧ p.hasDict = false ∧ p.depth ≤ 50 ∧ p.shown.length ≤ sizeLine ∧ Q (.str p.shown) M
@[simp ↓] theorem rRepr2_ap : rRepr2 [d] M Q = ReprS d M Q .mk := rfl
@[simp ↓] theorem eLR1_ap : eLR1 ta σ M Q E = ta σ M (fun d M1 => kI d fun n => RgOk 0 n ∧ NewL M1 (rgT 0 n) Q .mk) E := by
  unfold eLR1 NewL
  simp only [kI_of]
@[simp ↓] theorem eLR2_ap : eLR2 ta tb σ M Q E = ta σ M (fun d M1 => tb σ M1 (fun e M2 => kI d fun i => kI e fun j => RgOk i j ∧ NewL M2 (rgT i j) Q .mk) E) E := by
  unfold eLR2 NewL
  simp only [← kI_of]
  congr 1
  funext d M1
  congr 1
  funext e M2
  apply propext
  constructor
  · rintro ⟨i, j, h1, h2, h3⟩
    exact ⟨i, h1, j, h2, h3⟩
  · rintro ⟨i, h1, j, h2, h3⟩
    exact ⟨i, j, h1, h2, h3⟩
/-! methods -/
@[simp ↓] theorem eM0_ap {T : String} {rm : RM2} : eM0 T rm to σ M Q E = to σ M (fun d M1 => isT T d M1 ∧ rm d [] M1 Q) E := rfl
@[simp ↓] theorem eM_ap {T : String} {rm : RM2} : eM T rm to t σ M Q E = to σ M (fun d M1 => isT T d M1 ∧ t σ M1 (fun ds M2 => rm d ds M2 Q) E) E := rfl
@[simp] theorem isT_loc_lst : isT "list" (.loc a) M = match M a with
  | some (.lst _) => True
  | _ => False := by
  unfold isT
  apply propext
  constructor
  · rintro (⟨_, ds, h⟩ | ⟨e, _⟩)
    · rw [h]; trivial
    · exact absurd e (by decide)
  · intro h
    split at h
    · exact .inl ⟨rfl, _, by assumption⟩
    · exact h.elim
@[simp ↓] theorem rApp2_ap : rApp2 (.loc a) [d] M Q = kS (.loc a) M fun l => l.length < sizeLine ∧ Q .non (up M a (.lst (l ++ [d]))) := by
  have e : rApp2 (.loc a) [d] M Q = ∃ l, M a = some (.lst l) ∧ l.length < sizeLine ∧ Q .non (up M a (.lst (l ++ [d]))) := rfl
  rw [e, ← kS_of]
  apply propext
  constructor
  · rintro ⟨l, h, r⟩; exact ⟨l, seqT_lst h, r⟩
  · rintro ⟨l, h, r⟩; exact ⟨l, seqT_loc h, r⟩
def kLast (l : List Tr) (P : Tr → Prop) : Prop := match l[l.length - 1]? with
  | some d => P d
  | none => False
@[simp ↓] theorem kLast_app {P : Tr → Prop} : kLast (l ++ [d]) P = P d := by
  unfold kLast
  simp
@[simp ↓] theorem rPop2_ap : rPop2 (.loc a) [] M Q = kS (.loc a) M fun l => kLast l fun e => Q e (up M a (.lst l.dropLast)) := by
  have e : rPop2 (.loc a) [] M Q = ∃ l e, M a = some (.lst l) ∧ l[l.length - 1]? = some e ∧ Q e (up M a (.lst l.dropLast)) := rfl
  rw [e, ← kS_of]
  apply propext
  constructor
  · rintro ⟨l, e, h, h2, r⟩; exact ⟨l, seqT_lst h, by unfold kLast; rw [h2]; exact r⟩
  · rintro ⟨l, h, r⟩
    unfold kLast at r
    split at r
    · exact ⟨l, _, seqT_loc h, by assumption, r⟩
    · exact r.elim
@[simp ↓] theorem rExt2_ap : rExt2 (.loc a) [.loc b] M Q = kS (.loc a) M fun l => kS (.loc b) M fun k => l.length + k.length ≤ sizeLine ∧ Q .non (up M a (.lst (l ++ k))) := by
  have e : rExt2 (.loc a) [.loc b] M Q = ∃ l r, M a = some (.lst l) ∧ M b = some (.lst r) ∧ l.length + r.length ≤ sizeLine ∧ Q .non (up M a (.lst (l ++ r))) := rfl
  rw [e]
  simp only [← kS_of]
  apply propext
  constructor
  · rintro ⟨l, k, h, h2, r⟩; exact ⟨l, seqT_lst h, k, seqT_lst h2, r⟩
  · rintro ⟨l, h, k, h2, r⟩; exact ⟨l, k, seqT_loc h, seqT_loc h2, r⟩
/-! calls -/
/-- a call: one stops here -/
def CallS (sp : Sp2) (ds : List Tr) (M : Ms) (Q : Q2) (E : X2) (_ : Fx (Q, E)) : Prop := sp ds M Q E
@[simp ↓] theorem eCall_ap {sp : Sp2} : eCall sp [] t σ M Q E = t σ M (fun ds M1 => CallS sp ds M1 Q E .mk) E := by
  unfold eCall CallS
  simp only [List.append_nil]
/-! statements -/
@[simp ↓] theorem sSq_ap : sSq u v D σ M = u { D with nx := v D } σ M := rfl
@[simp ↓] theorem sNx_ap : sNx D σ M = D.nx σ M := rfl
@[simp ↓] theorem sBk_ap : sBk D σ M = D.bk σ M := rfl
@[simp ↓] theorem sCt_ap : sCt D σ M = D.ct σ M := rfl
@[simp ↓] theorem sDr_ap : sDr te D σ M = te σ M (fun _ M1 => D.nx σ M1) (D.xx σ) := rfl
@[simp ↓] theorem sRt_ap : sRt te D σ M = te σ M D.rt (D.xx σ) := rfl
@[simp ↓] theorem sRtN_ap : sRtN D σ M = D.rt .non M := rfl
@[simp ↓] theorem sIf_ap : sIf tA u v D σ M = tA σ M (fun b M1 => if b = true then u D σ M1 else v D σ M1) (D.xx σ) := rfl
@[simp ↓] theorem sNv_ap : sNv D σ M = False := rfl
@[simp ↓] theorem sAs_ap {g : TG2} : sAs te g D σ M = te σ M (fun d M1 => g d σ M1 D.nx) (D.xx σ) := rfl
def k2 (ds : List Tr) (P : Tr → Tr → Prop) : Prop := match ds with
  | [d, e] => P d e
  | _ => False
@[simp ↓] theorem k2_ap {P : Tr → Tr → Prop} : k2 [d, e] P = P d e := rfl
def k3 (ds : List Tr) (P : Tr → Tr → Tr → Prop) : Prop := match ds with
  | [d, e, f] => P d e f
  | _ => False
@[simp ↓] theorem k3_ap {c : Tr} {P : Tr → Tr → Tr → Prop} : k3 [d, e, c] P = P d e c := rfl
@[simp ↓] theorem sPr_ap {i j : Nat} : sPr i j t D σ M = t σ M (fun ds M1 => k2 ds fun d e => gN i d σ M1 fun σ1 M2 => gN j e σ1 M2 D.nx) (D.xx σ) := by
  unfold sPr
  congr 1
  funext ds M1
  apply propext
  constructor
  · rintro ⟨d, e, rfl, h⟩; exact h
  · intro h
    match ds, h with
    | [d, e], h => exact ⟨d, e, rfl, h⟩
@[simp ↓] theorem sPr3_ap {i j l : Nat} : sPr3 i j l t D σ M = t σ M (fun ds M1 => k3 ds fun d e f => gN i d σ M1 fun σ1 M2 => gN j e σ1 M2 fun σ2 M3 => gN l f σ2 M3 D.nx) (D.xx σ) := by
  unfold sPr3
  congr 1
  funext ds M1
  apply propext
  constructor
  · rintro ⟨d, e, f, rfl, h⟩; exact h
  · intro h
    match ds, h with
    | [d, e, f], h => exact ⟨d, e, f, rfl, h⟩
@[simp ↓] theorem sAu_ap {i : Nat} : sAu i r te D σ M = eVar i σ M (fun d _ => te σ M (fun e M1 => r d e M1 fun z M2 => gN i z σ M2 D.nx) (D.xx σ)) X0 := rfl
/-! targets -/
variable {N : St2 → Ms → Prop} {g : TG2} {gs : TGs2} {ds : List Tr}
@[simp ↓] theorem gNil2_ap : gNil2 [] σ M N = N σ M := propext ⟨fun h => h.2, fun h => ⟨rfl, h⟩⟩
@[simp ↓] theorem gCo_ap : gCo g gs (d :: ds) σ M N = g d σ M fun σ' M' => gs ds σ' M' N := propext ⟨fun ⟨d', r, e, h⟩ => by cases e; exact h, fun h => ⟨d, ds, rfl, h⟩⟩
@[simp ↓] theorem gT_ap {n : Nat} : gT n gs (.tup ds) σ M N = (ds.length = n ∧ gs ds σ M N) := propext ⟨fun ⟨d', e, h⟩ => by cases e; exact h, fun h => ⟨ds, rfl, h⟩⟩
@[simp ↓] theorem gSb_ap {ti : TE2} : gSb rPut2 to ti d σ M N = to σ M (fun o M1 => ti σ M1 (fun i M2 => rPut2 o i d M2 fun M3 => N σ M3) X0) X0 := rfl
def kIx (n : Nat) (i : Int) (P : Nat → Prop) : Prop := match ixN n i with
  | some j => P j
  | none => False
theorem ixN_nat {n k : Nat} (h : k < n) : ixN n (k : Int) = some k := by
  unfold ixN
  rw [if_pos (by omega), if_pos (by omega)]
  simp
theorem kIx_nat {n k : Nat} (h : k < n) : kIx n (k : Int) PN = PN k := by unfold kIx; rw [ixN_nat h]
@[simp ↓] theorem rPut2_ap {PM : Ms → Prop} : rPut2 (.loc a) (.int i) d M PM = match M a with
  | some (.lst l) => kIx l.length i fun j => PM (up M a (.lst (l.set j d)))
  | some (.dic kvs) => kvs.length < sizeLine ∧ PM (up M a (.dic (putT kvs (.inl i) d)))
  | _ => False := by
  have e : rPut2 (.loc a) (.int i) d M PM = ((∃ a' l k j, Tr.loc a = .loc a' ∧ Tr.int i = .int k ∧ M a' = some (.lst l) ∧ ixN l.length k = some j ∧ PM (up M a' (.lst (l.set j d)))) ∨
    ∃ a' kvs k, Tr.loc a = .loc a' ∧ keyT (.int i) = some k ∧ M a' = some (.dic kvs) ∧ kvs.length < sizeLine ∧ PM (up M a' (.dic (putT kvs k d)))) := rfl
  rw [e]
  apply propext
  constructor
  · rintro (⟨a', l, k, j, h1, h2, h3, h4, h5⟩ | ⟨a', kvs, k, h1, h2, h3, h4⟩)
    · cases h1; cases h2
      rw [h3]
      show kIx _ _ _
      unfold kIx
      rw [h4]; exact h5
    · cases h1; cases h2
      rw [h3]; exact h4
  · intro h
    split at h
    · rename_i l hl
      unfold kIx at h
      split at h
      · exact .inl ⟨a, l, i, _, rfl, rfl, hl, by assumption, h⟩
      · exact h.elim
    · exact .inr ⟨a, _, _, rfl, rfl, by assumption, h⟩
    · exact h.elim
@[simp ↓] theorem kIx_0 {n : Nat} (h : 0 < n) : kIx n 0 PN = PN 0 := kIx_nat (k := 0) h
@[simp ↓] theorem kIx_1 {n : Nat} (h : 1 < n) : kIx n 1 PN = PN 1 := kIx_nat (k := 1) h
@[simp ↓] theorem kIx_2 {n : Nat} (h : 2 < n) : kIx n 2 PN = PN 2 := kIx_nat (k := 2) h
/-- what holds between two statements -/
theorem seq_cut (R : St2 → Ms → Prop) (h1 : ∀ NX : St2 → Ms → Prop, (∀ σ M, R σ M → NX σ M) → u { D with nx := NX } σ M) (h2 : ∀ σ M, R σ M → v D σ M) : sSq u v D σ M := h1 (v D) h2
/-! walks: one stops at the loop -/
def kSS (d : Tr) (M : Ms) (P : List Tr → Prop) : Prop := match seqS d M with
  | some l => P l
  | none => False
@[simp ↓] theorem kSS_tup : kSS (.tup l) M PL = PL l := rfl
@[simp ↓] theorem kSS_fro : kSS (.fro l) M PL = PL l := rfl
@[simp ↓] theorem kSS_str {x : Str} : kSS (.str x) M PL = PL (x.cps.toList.map fun k => .str ⟨#[k]⟩) := rfl
@[simp ↓] theorem kSS_loc {a : Addr} : kSS (.loc a) M PL = match M a with
  | some (.lst ds) => PL ds
  | _ => False := kS_loc
theorem kSS_some {d : Tr} (h : seqS d M = some l) : kSS d M PL = PL l := by unfold kSS; rw [h]
theorem kSS_of {d : Tr} : (∃ k, seqS d M = some k ∧ PL k) = kSS d M PL := by
  unfold kSS
  cases seqS d M <;> simp
def k1 (ds : List Tr) (P : Tr → Prop) : Prop := match ds with
  | [d] => P d
  | _ => False
@[simp ↓] theorem k1_ap {P : Tr → Prop} : k1 [d] P = P d := rfl
variable {R : It2 → Ms → Prop}
@[simp ↓] theorem iSq_ap : iSq te σ M R E = te σ M (fun d M1 => kSS d M1 fun ds => R (itL ds fun M => seqS d M = some ds) M1) E := by
  unfold iSq
  congr 1
  funext d M1
  exact kSS_of (PL := fun ds => R (itL ds fun M => seqS d M = some ds) M1)
@[simp ↓] theorem iEn_ap : iEn t σ M R E = t σ M (fun es M1 => k1 es fun d => kS d M1 fun ds => R (itE ds fun M => seqT d M = some ds) M1) E := by
  unfold iEn
  congr 1
  funext es M1
  apply propext
  constructor
  · rintro ⟨d, ds, rfl, h, r⟩
    show kS d M1 _
    rw [← kS_of]; exact ⟨ds, h, r⟩
  · intro h
    match es, h with
    | [d], h =>
      have h' : kS d M1 fun ds => R (itE ds fun M => seqT d M = some ds) M1 := h
      rw [← kS_of] at h'
      obtain ⟨ds, h1, h2⟩ := h'
      exact ⟨d, ds, rfl, h1, h2⟩
@[simp ↓] theorem iRg1_ap : iRg1 t σ M R E = t σ M (fun es M1 => k1 es fun d => kI d fun j => Rg j ∧ R (itR 0 j.toNat) M1) E := by
  unfold iRg1
  congr 1
  funext es M1
  apply propext
  constructor
  · rintro ⟨j, rfl, h⟩; exact h
  · intro h
    match es, h with
    | [d], h =>
      have h' : kI d fun j => Rg j ∧ R (itR 0 j.toNat) M1 := h
      rw [← kI_of] at h'
      obtain ⟨j, rfl, h2⟩ := h'
      exact ⟨j, rfl, h2⟩
@[simp ↓] theorem iRg2_ap : iRg2 t σ M R E = t σ M (fun es M1 => k2 es fun d e => kI d fun i => kI e fun j => Rg i ∧ Rg j ∧ R (itR i (j - i).toNat) M1) E := by
  unfold iRg2
  congr 1
  funext es M1
  apply propext
  constructor
  · rintro ⟨i, j, rfl, h⟩; exact h
  · intro h
    match es, h with
    | [d, e], h =>
      have h' : kI d fun i => kI e fun j => Rg i ∧ Rg j ∧ R (itR i (j - i).toNat) M1 := h
      rw [← kI_of] at h'
      obtain ⟨i, rfl, h2⟩ := h'
      rw [← kI_of] at h2
      obtain ⟨j, rfl, h3⟩ := h2
      exact ⟨i, j, rfl, h3⟩
variable {wi : TI2} {vs : List Nat}
def FoS (J : It2) (g : TG2) (v : TS2) (D : Ends2) (σ : St2) (M1 : Ms) (_ : Fx (J, g, v, D)) : Prop := ∃ W : Nat → Nat → St2 → Ms → Prop, (∃ m, W 0 m σ M1) ∧ ∀ i m σ M, W i m σ M →
  (J.stop i M ∧ D.nx σ M) ∨ (J.go i M ∧ ∃ N : St2 → Ms → Prop, (∀ σ' M', N σ' M' → ∃ m', m' < m ∧ W (i + 1) m' σ' M') ∧ ∀ d, J.yld i M d → g d σ M fun σ2 M2 => v { D with nx := N, ct := N, bk := D.nx } σ2 M2)
@[simp ↓] theorem sFo_ap : sFo wi g v D σ M = wi σ M (fun J M1 => FoS J g v D σ M1 .mk) (D.xx σ) := rfl
def LcS (J : It2) (g : TG2) (tt : TT2) (te : TE2) (vs : List Nat) (σ : St2) (M1 : Ms) (Q : Q2) (_ : Fx (J, g, tt, te, σ, Q)) : Prop := ∀ p, M1 p = none → ∃ W : Nat → Nat → Ms → Prop, (∃ m, W 0 m (up M1 p (.lst []))) ∧ ∀ i m M, W i m M →
  (J.stop i M ∧ Q (.loc p) M) ∨ (J.go i M ∧ ∃ N : Ms → Prop, (∀ M', N M' → ∃ m', m' < m ∧ W (i + 1) m' M') ∧ ∀ d, J.yld i M d → g d (wipe2 σ vs) M fun σ2 M2 => tt σ2 M2 (fun b M3 =>
    if b = true then te σ2 M3 (fun y M4 => ∃ acc, M4 p = some (.lst acc) ∧ acc.length < sizeLine ∧ N (up M4 p (.lst (acc ++ [y])))) X0 else N M3) X0)
@[simp ↓] theorem eLc_ap : eLc wi g tA te vs σ M Q E = wi σ M (fun J M1 => LcS J g tA te vs σ M1 Q .mk) E := rfl
theorem nx_cut (h : ∀ NX : St2 → Ms → Prop, (∀ σ M, D.nx σ M → NX σ M) → u { D with nx := NX } σ M) : u D σ M := h D.nx fun _ _ h => h
/-- a turn of a while: one stops here -/
def WhT (v : TS2) (W : Nat → St2 → Ms → Prop) (m : Nat) (D : Ends2) (σ : St2) (M1 : Ms) (_ : Fx (W, D)) : Prop := ∃ N : St2 → Ms → Prop, (∀ σ' M', N σ' M' → ∃ m', m' < m ∧ W m' σ' M') ∧ v { D with nx := N, ct := N, bk := D.nx } σ M1
theorem WhT.of {W : Nat → St2 → Ms → Prop} {m : Nat} {fx : Fx (W, D)} (h : ∀ NX : St2 → Ms → Prop, (∀ m' σ M, m' < m → W m' σ M → NX σ M) → v { D with nx := NX, ct := NX, bk := D.nx } σ M) : WhT v W m D σ M fx :=
  ⟨fun σ' M' => ∃ m', m' < m ∧ W m' σ' M', fun _ _ h => h, h _ fun m' σ M lt w => ⟨m', lt, w⟩⟩
theorem sWh_of (W : Nat → St2 → Ms → Prop) (m0 : Nat) (h0 : W m0 σ M) (h : ∀ m σ M, W m σ M → tA σ M (fun b M1 => if b = true then WhT v W m D σ M1 .mk else D.nx σ M1) (D.xx σ)) : sWh tA v D σ M := ⟨W, ⟨m0, h0⟩, h⟩
@[simp] theorem fEnds_nx : (fEnds Q E).nx σ M = Fg Q .non M := rfl
@[simp] theorem fEnds_rt : (fEnds Q E).rt = Fg Q := rfl
@[simp] theorem fEnds_bk : (fEnds Q E).bk σ M = False := rfl
@[simp] theorem fEnds_ct : (fEnds Q E).ct σ M = False := rfl
@[simp] theorem fEnds_ex {c : Value} {dd : Option Addr} : (fEnds Q E).ex c dd σ M = FgX E c dd M := rfl
/-! comprehensions whose items are made without a change of the store -/
theorem up_eta {M M1 : Ms} {p : Addr} {o : MO} (h : M p = some o) (fr : ∀ a, a ≠ p → M a = M1 a) : M = up M1 p o := by
  funext a
  by_cases c : a = p
  · subst c; rw [up_same]; exact h
  · rw [up_ne c]; exact fr a c
theorem fm_succ {f : Nat → Option Tr} {n : Nat} : (List.range (n + 1)).filterMap f = (List.range n).filterMap f ++ (match f n with | some y => [y] | none => []) := by
  rw [List.range_succ, List.filterMap_append]
  congr 1
  cases h : f n <;> simp [h]
theorem fm_len {f : Nat → Option Tr} {n : Nat} : ((List.range n).filterMap f).length ≤ n := by
  have := List.length_filterMap_le f (List.range n)
  simpa using this
section
variable {te : TE2} {g : TG2} {t : TT2} {vs : List Nat} {σ : St2} {M1 : Ms} {p : Addr} {Qd : Ms → Prop} (f : Nat → Option Tr)
theorem fm_put {i : Nat} {Pv : Nat → Ms → Prop} (hP : ∀ i M, M p = some (.lst ((List.range i).filterMap f)) → (∀ a, a ≠ p → M a = M1 a) → Pv i M) (hz : i < 100000) {M : Ms} (hp : M p = some (.lst ((List.range i).filterMap f))) (fr : ∀ a, a ≠ p → M a = M1 a) {x : Tr} {σ' : St2}
    (hs : ∀ (KY : Tr → Ms → Prop) (KN : Ms → Prop), (∀ y, f i = some y → KY y M) → (f i = none → KN M) → g x σ' M fun σ2 M2 => t σ2 M2 (fun b M3 => if b = true then te σ2 M3 KY X0 else KN M3) X0) :
    g x σ' M fun σ2 M2 => t σ2 M2 (fun b M3 => if b = true then te σ2 M3 (fun y M4 => ∃ acc, M4 p = some (.lst acc) ∧ acc.length < sizeLine ∧ Pv (i + 1) (up M4 p (.lst (acc ++ [y])))) X0 else Pv (i + 1) M3) X0 := by
  refine hs _ _ (fun y hy => ?_) fun hn => ?_
  · have := @fm_len f i
    refine ⟨_, hp, by rw [sizeLine_eq]; omega, hP _ _ ?_ fun a ha => ?_⟩
    · rw [up_same, fm_succ, hy]
    · rw [up_ne ha]; exact fr a ha
  · refine hP _ _ ?_ fr
    rw [fm_succ, hn, List.append_nil]; exact hp
theorem lc_fmR {lo : Int} {n : Nat} (hn : n ≤ 100000) (hd : Qd (up M1 p (.lst ((List.range n).filterMap f))))
    (hs : ∀ (i : Nat) M, i < n → (∀ a, a ≠ p → M a = M1 a) → ∀ (KY : Tr → Ms → Prop) (KN : Ms → Prop), (∀ y, f i = some y → KY y M) → (f i = none → KN M) → g (.int (lo + i)) (wipe2 σ vs) M fun σ2 M2 => t σ2 M2 (fun b M3 => if b = true then te σ2 M3 KY X0 else KN M3) X0) :
    ∃ W : Nat → Nat → Ms → Prop, (∃ m, W 0 m (up M1 p (.lst []))) ∧ ∀ i m M, W i m M → ((itR lo n).stop i M ∧ Qd M) ∨ ((itR lo n).go i M ∧ ∃ N : Ms → Prop, (∀ M', N M' → ∃ m', m' < m ∧ W (i + 1) m' M') ∧ ∀ d, (itR lo n).yld i M d →
      g d (wipe2 σ vs) M fun σ2 M2 => t σ2 M2 (fun b M3 => if b = true then te σ2 M3 (fun y M4 => ∃ acc, M4 p = some (.lst acc) ∧ acc.length < sizeLine ∧ N (up M4 p (.lst (acc ++ [y])))) X0 else N M3) X0) :=
  lc_itR (fun i M => M p = some (.lst ((List.range i).filterMap f)) ∧ ∀ a, a ≠ p → M a = M1 a) ⟨up_same, fun a h => up_ne h⟩
    (fun i M hi ⟨h1, h2⟩ => fm_put (Pv := fun i M => M p = some (.lst ((List.range i).filterMap f)) ∧ ∀ a, a ≠ p → M a = M1 a) f (fun i M a b => ⟨a, b⟩) (by omega) h1 h2 (hs i M hi h2)) fun M ⟨h1, h2⟩ => by rw [up_eta h1 h2]; exact hd
theorem lc_fmE {ds : List Tr} {ok : Ms → Prop} (hn : ds.length ≤ 100000) (hok : ∀ M, (∀ a, a ≠ p → M a = M1 a) → ok M) (hd : Qd (up M1 p (.lst ((List.range ds.length).filterMap f))))
    (hs : ∀ (i : Nat) d M, ds[i]? = some d → (∀ a, a ≠ p → M a = M1 a) → ∀ (KY : Tr → Ms → Prop) (KN : Ms → Prop), (∀ y, f i = some y → KY y M) → (f i = none → KN M) → g (.tup [.int i, d]) (wipe2 σ vs) M fun σ2 M2 => t σ2 M2 (fun b M3 => if b = true then te σ2 M3 KY X0 else KN M3) X0) :
    ∃ W : Nat → Nat → Ms → Prop, (∃ m, W 0 m (up M1 p (.lst []))) ∧ ∀ i m M, W i m M → ((itE ds ok).stop i M ∧ Qd M) ∨ ((itE ds ok).go i M ∧ ∃ N : Ms → Prop, (∀ M', N M' → ∃ m', m' < m ∧ W (i + 1) m' M') ∧ ∀ d, (itE ds ok).yld i M d →
      g d (wipe2 σ vs) M fun σ2 M2 => t σ2 M2 (fun b M3 => if b = true then te σ2 M3 (fun y M4 => ∃ acc, M4 p = some (.lst acc) ∧ acc.length < sizeLine ∧ N (up M4 p (.lst (acc ++ [y])))) X0 else N M3) X0) :=
  lc_itE (fun i M => M p = some (.lst ((List.range i).filterMap f)) ∧ ∀ a, a ≠ p → M a = M1 a) ⟨up_same, fun a h => up_ne h⟩ (fun i M _ ⟨_, h⟩ => hok M h)
    (fun i d M hi ⟨h1, h2⟩ => fm_put (Pv := fun i M => M p = some (.lst ((List.range i).filterMap f)) ∧ ∀ a, a ≠ p → M a = M1 a) f (fun i M a b => ⟨a, b⟩) (by have := (List.getElem?_eq_some_iff.mp hi).1; omega) h1 h2 (hs i d M hi h2)) fun M ⟨h1, h2⟩ => by rw [up_eta h1 h2]; exact hd
theorem lc_fmL {ds : List Tr} {ok : Ms → Prop} (hn : ds.length ≤ 100000) (hok : ∀ M, (∀ a, a ≠ p → M a = M1 a) → ok M) (hd : Qd (up M1 p (.lst ((List.range ds.length).filterMap f))))
    (hs : ∀ (i : Nat) d M, ds[i]? = some d → (∀ a, a ≠ p → M a = M1 a) → ∀ (KY : Tr → Ms → Prop) (KN : Ms → Prop), (∀ y, f i = some y → KY y M) → (f i = none → KN M) → g d (wipe2 σ vs) M fun σ2 M2 => t σ2 M2 (fun b M3 => if b = true then te σ2 M3 KY X0 else KN M3) X0) :
    ∃ W : Nat → Nat → Ms → Prop, (∃ m, W 0 m (up M1 p (.lst []))) ∧ ∀ i m M, W i m M → ((itL ds ok).stop i M ∧ Qd M) ∨ ((itL ds ok).go i M ∧ ∃ N : Ms → Prop, (∀ M', N M' → ∃ m', m' < m ∧ W (i + 1) m' M') ∧ ∀ d, (itL ds ok).yld i M d →
      g d (wipe2 σ vs) M fun σ2 M2 => t σ2 M2 (fun b M3 => if b = true then te σ2 M3 (fun y M4 => ∃ acc, M4 p = some (.lst acc) ∧ acc.length < sizeLine ∧ N (up M4 p (.lst (acc ++ [y])))) X0 else N M3) X0) :=
  lc_itL (fun i M => M p = some (.lst ((List.range i).filterMap f)) ∧ ∀ a, a ≠ p → M a = M1 a) ⟨up_same, fun a h => up_ne h⟩ (fun i M _ ⟨_, h⟩ => hok M h)
    (fun i d M hi ⟨h1, h2⟩ => fm_put (Pv := fun i M => M p = some (.lst ((List.range i).filterMap f)) ∧ ∀ a, a ≠ p → M a = M1 a) f (fun i M a b => ⟨a, b⟩) (by have := (List.getElem?_eq_some_iff.mp hi).1; omega) h1 h2 (hs i d M hi h2)) fun M ⟨h1, h2⟩ => by rw [up_eta h1 h2]; exact hd
end
theorem fm_if {q : Nat → Bool} {h : Nat → Tr} {l : List Nat} : l.filterMap (fun i => if q i = true then some (h i) else none) = (l.filter q).map h := by
  induction l with
  | nil => rfl
  | cons x r ih =>
    by_cases c : q x = true
    · simp only [List.filterMap_cons, List.filter_cons, c, if_true, List.map_cons, ih]
    · simp [List.filterMap_cons, List.filter_cons, c, ih]
theorem fm_all {h : Nat → Tr} {l : List Nat} : l.filterMap (fun i => some (h i)) = l.map h := by
  induction l with
  | nil => rfl
  | cons x r ih => simp only [List.filterMap_cons, List.map_cons, ih]
end
end T

/-! T, tenth part: texts joined and repeated, places in lists, sorted data. -/
namespace T
open PySem PySem.Spec PyProof.Rows L2
section
variable {X : Cx} {W : L2.WX} {e o : Expr} {to te : TE2} {pos apos p : Pos} {M : Ms} {Q : Q2} {E : X2} {σ : St2}
/-! a text's method of one argument -/
def eM1 (rm : RM2) (to te : TE2) : TE2 := fun σ M Q E => to σ M (fun d M1 => (∃ z, d = .str z) ∧ te σ M1 (fun e M2 => rm d [e] M2 Q) E) E
theorem m1_low {K : PySem.W.Frag} {rm : RM2} {σ : L2.St} {H : Hp} {Q : VK} (h : lfE K W (eM1 rm to te) σ H Q) : tM1 (lfM K rm) (lfE K W to) (lfE K W te) σ H Q := by
  obtain ⟨σ', M, Q', E', hs, hm, q, hq, hx⟩ := h
  exact ⟨σ', M, _, E', hs, hm, q, fun d M1 x H1 t1 r1 s1 ⟨⟨z, ez⟩, q1⟩ => ⟨⟨z, by subst ez; exact r1⟩, σ', M1, _, E', hs.mono t1, s1, q1, fun e M2 y H2 t2 r2 s2 q2 =>
    ⟨d, [e], M2, _, r1.mono t2, .one r2, s2, q2, hq.mono (t1.trans t2)⟩, hx.mono t1⟩, hx⟩
theorem q_m1 {rm : RM2} (h : PE X e (tM1 (lfM X.K rm) (lfE X.K W to) (lfE X.K W te))) : QE X W e (eM1 rm to te) := pe_weak h fun _ _ _ h => m1_low h
@[simp ↓] theorem eM1_ap {rm : RM2} : eM1 rm to te σ M Q E = to σ M (fun d M1 => (∃ z, d = .str z) ∧ te σ M1 (fun e M2 => rm d [e] M2 Q) E) E := rfl
/-- sep.join(list of texts) -/
def rJoin2 : RM2 := fun d ds M Q => ∃ a e, ∃ ys : List Str, d = .str a ∧ ds = [e] ∧ seqT e M = some (ys.map Tr.str) ∧ (ys.map (·.length)).sum + ys.length * a.length ≤ 16777216 ∧ Q (.str (Txt.join a ys)) M
theorem strs_back {K : PySem.W.Frag} {H : Hp} {ns : List Str} {xs : List V} (r : RepL K H (ns.map Tr.str) xs) : xs = ns.map V.str := by
  induction ns generalizing xs with
  | nil => exact r
  | cons n t ih =>
    obtain ⟨x, y, rfl, r1, r2⟩ := r
    cases r1
    rw [ih r2]; rfl
theorem m_join : MtR X "str.join" (lfM X.K rJoin2) := by
  intro pins s σ H x xs v us Q I rx rs ⟨d, ds, M, Q', rd, rds, sm, ⟨a, e, ys, ed0, ed, es, hz, q⟩, hq⟩
  subst ed ed0
  cases rd
  obtain ⟨y, rfl, r1⟩ := one_of rds
  obtain ⟨l, zs, rfl, sq, rl⟩ := seqT_ok es r1 sm
  have := strs_back rl
  subst this
  exact mt_join pins s σ H _ _ v us Q I rx rs ⟨a, l, ys, rfl, rfl, sq, hz, hq (.str _) M _ H Tx.refl rfl sm q⟩
/-- join: one stops here -/
def JoinS (a : Str) (e : Tr) (M : Ms) (Q : Q2) (_ : Fx Q) : Prop := ∃ ys : List Str, seqT e M = some (ys.map Tr.str) ∧ (ys.map (·.length)).sum + ys.length * a.length ≤ 16777216 ∧ Q (.str (Txt.join a ys)) M
@[simp ↓] theorem rJoin2_ap {a : Str} {d : Tr} : rJoin2 (.str a) [d] M Q = JoinS a d M Q .mk := propext ⟨fun ⟨a', e, ys, h1, h2, h⟩ => by
  injection h1 with h1
  injection h2 with h2
  subst h1 h2
  exact ⟨ys, h⟩, fun ⟨ys, h⟩ => ⟨a, d, ys, rfl, rfl, h⟩⟩
/-! x * y, a text too -/
def repS (z : Str) (n : Nat) : Str := ⟨(List.replicate n z.cps).foldl (· ++ ·) #[]⟩
theorem rep_size (a : Array Nat) : ∀ (n : Nat) (acc : Array Nat), ((List.replicate n a).foldl (· ++ ·) acc).size = acc.size + n * a.size
  | 0, acc => by simp
  | n + 1, acc => by
    rw [List.replicate_succ, List.foldl_cons, rep_size a n]
    simp [Nat.add_mul]; omega
theorem repS_len {z : Str} {n : Nat} : (repS z n).length = n * z.length := by
  show ((List.replicate n z.cps).foldl (· ++ ·) #[]).size = _
  rw [rep_size]
  show #[].size + n * z.cps.size = n * z.cps.size
  simp
def rMul3 : R22 := fun d e M Q => match d, e with
  | .str z, .int k => z.length ≤ 8 ∧ -1000000 ≤ k ∧ k ≤ 1000000 ∧ Q (.str (repS z k.toNat)) M
  | d, e => rMul2 d e M Q
theorem o_mul3 : OpR X (binaryOp .Mult) (lfR X.K rMul3) := by
  intro pins s σ H x y v u Q I rx ry ⟨d, e, M, Q', rd, re, sm, q, hq⟩
  have gen : rMul2 d e M Q' → wpAny (model X.prog X.w) X.A (binaryOp .Mult v u) (EP X pins σ Q) X.xe s := fun q => o_mul pins s σ H x y v u Q I rx ry ⟨d, e, M, Q', rd, re, sm, q, hq⟩
  cases d with
  | str z =>
    cases e with
    | int k =>
      cases rd; cases re
      obtain ⟨t, rfl⟩ := rx
      obtain ⟨t', rfl⟩ := ry
      obtain ⟨hz, k1, k2, q⟩ := q
      have fin : Q (.str (repS z k.toNat)) H := hq (.str _) M _ H Tx.refl rfl sm q
      refine PySem.P.mul_str ?_ (fun h1 h2 => ?_) (fun h1 h2 => ?_) ?_
      · have a1 : ¬ k < -(2 ^ 63 : Int) := by omega
        have a2 : ¬ k ≥ 2 ^ 63 := by omega
        rw [decide_eq_false a1, decide_eq_false a2]; rfl
      · have hk : 0 < k := by omega
        have : (8 : Int) ≤ (2 ^ 63 - 1) / k := by
          rw [Int.le_ediv_iff_mul_le hk]; omega
        omega
      · unfold Builtin.Str.tooLong
        have : z.length * k.toNat ≤ 8 * 1000000 := Nat.mul_le_mul hz (by omega)
        simp only [decide_eq_false_iff_not, gt_iff_lt, Nat.not_lt]
        rw [sizeLine_eq]; omega
      · by_cases c : k < 1
        · rw [if_pos c]
          have e0 : k.toNat = 0 := by omega
          rw [e0] at fin
          exact ⟨by decide, .str Str.empty, H, I.tok _, ⟨_, rfl⟩, fin⟩
        · rw [if_neg c]
          by_cases c2 : (k == 1 || z.length == 0) = true
          · rw [if_pos c2]
            have e1 : repS z k.toNat = z := by
              rcases Bool.or_eq_true_iff.mp c2 with h | h
              · have : k = 1 := by simpa using h
                subst this
                obtain ⟨c⟩ := z
                simp [repS]
              · have hz0 : z.length = 0 := by simpa using h
                obtain ⟨c⟩ := z
                have : c = #[] := Array.eq_empty_of_size_eq_zero hz0
                subst this
                have : ∀ n : Nat, (List.replicate n (#[] : Array Nat)).foldl (· ++ ·) #[] = #[] := fun n => by
                  induction n with
                  | zero => rfl
                  | succ n ih => rw [List.replicate_succ, List.foldl_cons]; simpa using ih
                simp [repS, this]
            rw [e1] at fin
            exact ⟨.str z, H, I, ⟨t, rfl⟩, fin⟩
          · rw [if_neg c2]
            refine ⟨?_, .str _, H, I.tok _, ⟨_, rfl⟩, fin⟩
            have e := @repS_len z k.toNat
            have : k.toNat * z.length ≤ 1000000 * 8 := Nat.mul_le_mul (by omega) hz
            show (repS z k.toNat).length ≤ _
            rw [e, sizeLine_eq]; omega
    | _ => exact gen q
  | _ => cases e <;> exact gen q
@[simp ↓] theorem rMul3_str {z : Str} {k : Int} : rMul3 (.str z) (.int k) M Q = (z.length ≤ 8 ∧ -1000000 ≤ k ∧ k ≤ 1000000 ∧ Q (.str (repS z k.toNat)) M) := rfl
@[simp ↓] theorem rMul3_int {i k : Int} : rMul3 (.int i) (.int k) M Q = rMul2 (.int i) (.int k) M Q := rfl
@[simp ↓] theorem rMul3_loc {a : Addr} {k : Int} : rMul3 (.loc a) (.int k) M Q = rMul2 (.loc a) (.int k) M Q := rfl
/-! list.index over flat items -/
def rIdx2 : RM2 := fun d ds M Q => ∃ a e l j z, d = .loc a ∧ ds = [e] ∧ M a = some (.lst l) ∧ flatT e = true ∧ l.all flatT = true ∧ l[j]? = some z ∧ eqT z e = true ∧ (∀ (m : Nat) (z' : Tr), m < j → l[m]? = some z' → eqT z' e = false) ∧ Q (.int (j : Nat)) M
theorem m_index : MtR X "list.index" (lfM X.K rIdx2) := by
  intro pins s σ H x xs v us Q I rx rs ⟨d, ds, M, Q', rd, rds, sm, ⟨a, e, l, j, z, e0, e1, el, fe, fl, hz, hj, hno, q⟩, hq⟩
  subst e0 e1
  cases rd
  obtain ⟨y, rfl, r1⟩ := one_of rds
  obtain ⟨ys, hy, ry⟩ := sm a _ el
  obtain ⟨w, hw, rw'⟩ := ry.get hz
  have fz : flatT z = true := List.all_eq_true.mp fl z (List.mem_of_getElem? hz)
  refine mt_index pins s σ H _ _ v us Q I rx rs ⟨a, ys, y, j, w, rfl, rfl, SqL.of hy, flatT_ok fe r1, flatL_ok fl ry, hw, by rw [eqT_ok fz fe rw' r1]; exact hj, fun m z' hm hz' => ?_, hq (.int _) M _ H Tx.refl rfl sm q⟩
  obtain ⟨t, ht, rt⟩ := ry.back hz'
  rw [eqT_ok (List.all_eq_true.mp fl t (List.mem_of_getElem? ht)) fe rt r1]
  exact hno m t hm ht
def IdxS (a : Addr) (e : Tr) (M : Ms) (Q : Q2) (_ : Fx Q) : Prop := ∃ l j z, M a = some (.lst l) ∧ flatT e = true ∧ l.all flatT = true ∧ l[j]? = some z ∧ eqT z e = true ∧ (∀ (m : Nat) (z' : Tr), m < j → l[m]? = some z' → eqT z' e = false) ∧ Q (.int (j : Nat)) M
@[simp ↓] theorem rIdx2_ap {a : Addr} {d : Tr} : rIdx2 (.loc a) [d] M Q = IdxS a d M Q .mk := propext ⟨fun ⟨a', e, l, j, z, h1, h2, h⟩ => by
  injection h1 with h1
  injection h2 with h2
  subst h1 h2
  exact ⟨l, j, z, h⟩, fun ⟨l, j, z, h⟩ => ⟨a, d, l, j, z, rfl, rfl, h⟩⟩
/-! sorted data -/
theorem each_of {K : PySem.W.Frag} {H : Hp} : ∀ {ds : List Tr} {xs : List V} {us : List Value}, RepL K H ds xs → Vals xs us → PySem.W.EachIs (fun u d => ∃ x, RelV x u ∧ Rep K H d x) us ds
  | [], xs, us, r, v => by
    have e : xs = [] := r
    subst e
    cases v
    exact .nil
  | d :: ds, xs, us, r, v => by
    obtain ⟨x, r', e, h1, h2⟩ := r
    subst e
    cases v with
    | cons a b => exact .cons ⟨x, a, h1⟩ (each_of h2 b)
theorem each_back {K : PySem.W.Frag} {H : Hp} : ∀ {us : List Value} {ds : List Tr}, PySem.W.EachIs (fun u d => ∃ x, RelV x u ∧ Rep K H d x) us ds → ∃ xs, RepL K H ds xs ∧ Vals xs us
  | _, _, .nil => ⟨[], rfl, .nil⟩
  | _, _, .cons ⟨x, a, b⟩ t => by
    obtain ⟨xs, h1, h2⟩ := each_back t
    exact ⟨x :: xs, ⟨x, xs, rfl, b, h1⟩, .cons a h2⟩
def rSort2 : RC2 := c1 fun d M Q => ∃ ds, seqT d M = some ds ∧ (∀ es, d ≠ .tup es) ∧ (∀ e ∈ ds, pureT e = true) ∧ PySem.W.AllAlike (ds.map toP) ∧ PySem.W.Sortable (ds.map toP) ∧ (∀ e ∈ ds, (toP e).depth ≤ 50) ∧ ds.length ≤ sizeLine ∧
  ∀ p, M p = none → Q (.loc p) (up M p (.lst (ds.mergeSort (PySem.W.dataLe false toP))))
theorem pureReads {X : Cx} {pins : List (Addr × Obj)} {σ : L2.St} {H : Hp} {s : Shared} {M : Ms} (I : L2.Inv X pins σ H s) (sm : SimM X.K H M) {ds : List Tr} (hp : ∀ e ∈ ds, pureT e = true) : ∀ {us : List Value}, PySem.W.EachIs (fun u d => ∃ x, RelV x u ∧ Rep X.K H d x) us ds → PySem.W.EachIs (fun u d => ∃ as, Reads s.heap u (toP d) as) us ds := by
  induction ds with
  | nil => intro us e; cases e; exact .nil
  | cons d r ih =>
    intro us e
    cases e with
    | cons a b =>
      obtain ⟨x, h1, h2⟩ := a
      exact .cons (Dp.reads I _ _ _ ((dat_pure (M := M) (hp d List.mem_cons_self)).dp sm h2) h1) (ih (fun z hz => hp z (List.mem_cons_of_mem _ hz)) b)
theorem b_sorted (hu : X.A.units + 64 < cLine) : CallR X (.builtin "sorted") (lfC X.K rSort2) := c1_of fun pins s σ H x u Q d M Q' I rx rd sm ⟨ds, e1, nt, hp, hal, hk, hd, hL, q⟩ hq => by
  have go : ∀ a xs, x = .ref a → SqL X.K H a xs → RepL X.K H ds xs → wpAny (model X.prog X.w) X.A (call (.builtin "sorted") [u]) (EP X pins σ Q) X.xe s := fun a xs ex sq rl => by
    subst ex
    obtain ⟨its, rv, hl, _⟩ := I.list sq
    cases rx
    have er := each_of rl rv
    refine PySem.W.sorted_data hl.isList er (pureReads I sm hp er) hal hk hL (fun b hb => by have := hd b hb; omega) fun out ho eo => ?_
    obtain ⟨ys, h1, h2⟩ := each_back eo
    obtain ⟨ep, he'⟩ := PyProof.Rows.sortedAll_at s.heap its out.toArray
    have hlen : ys.length ≤ sizeLine := by rw [← h1.len, List.length_mergeSort]; exact hL
    have fr : H (s.heap.objs.size + 1) = none := I.hok.fresh (Nat.le_succ _)
    exact ⟨.ref _, upd H (s.heap.objs.size + 1) (.lst ys), I.laid (t' := s.toks) (fun _ _ => PyProof.Rows.sortedAll_old) (Nat.le_succ _) ⟨hlen, out, ep, h2, by simpa using he'⟩, rfl, new_lst hq h1 sm fr q⟩
  cases d with
  | tup es => exact absurd rfl (nt es)
  | fro es =>
    obtain ⟨a, xs, ex, sq, rl⟩ := rd
    cases e1
    exact go a xs ex sq.sq rl
  | loc a =>
    cases rd
    obtain ⟨xs, hx, rl⟩ := sm a _ (seqT_loc e1)
    exact go a xs rfl (SqL.of hx) rl
  | _ => cases e1
/-- sorted: one stops here -/
def SortS (d : Tr) (M : Ms) (Q : Q2) (_ : Fx Q) : Prop := ∃ ds, seqT d M = some ds ∧ (∀ es, d ≠ .tup es) ∧ (∀ e ∈ ds, pureT e = true) ∧ PySem.W.AllAlike (ds.map toP) ∧ PySem.W.Sortable (ds.map toP) ∧ (∀ e ∈ ds, (toP e).depth ≤ 50) ∧ ds.length ≤ sizeLine ∧
  ∀ p, M p = none → Q (.loc p) (up M p (.lst (ds.mergeSort (PySem.W.dataLe false toP))))
@[simp ↓] theorem rSort2_ap {d : Tr} : rSort2 [d] M Q = SortS d M Q .mk := rfl
end
end T

/-! T, eleventh part: enumerate over a text. -/
namespace T
open PySem PySem.Spec PyProof.Rows L2
/-- the signs of z, each in a new pair -/
def IteS (z : Str) : It where
  go := fun i _ => i < z.cps.size
  yld := fun i H v H' => ∃ (T : Addr) (c : Nat), v = .ref T ∧ H T = none ∧ H' = upd H T (.tup [.int (i : Nat), .str ⟨#[c]⟩]) ∧ z.cps[i]? = some c
  stop := fun i _ => z.cps.size ≤ i
theorem turn_enumS {P : Program} {w : World} {K : PySem.W.Frag} {elts : List Expr} {kk : Nat} {tpos : Pos} (z : Str) (t : Tok) (e it : Addr) :
    Turn P w K (.Tuple elts kk tpos) (IteS z) [e, it] e (fun i h => (∃ old, IsEnum h e it ((i : Nat) : Int) old) ∧ h.IsStrIter it (strIterType z) z t i ∧ e ≠ it) where
  mem := by simp
  obj := by
    rintro i h ⟨⟨old, he⟩, ⟨o, ho, hc, hd⟩, _⟩ b hb
    have c : b = e ∨ b = it := by simpa using hb
    rcases c with rfl | rfl
    · exact ⟨_, he, fun v q => nomatch q⟩
    · exact ⟨o, ho, fun v q => by rw [hd] at q; cases q⟩
  keep := by
    rintro i h h' ⟨⟨old, he⟩, ⟨o, ho, r⟩, hne⟩ k
    exact ⟨⟨old, k e (by simp) _ he⟩, ⟨o, k it (by simp) _ ho, r⟩, hne⟩
  item := by
    intro X hP hw hK hc i pins s σ H E I hf st hg
    subst hP hw hK
    obtain ⟨⟨old, he⟩, hit, hne⟩ := st
    have hel : e < s.heap.objs.size := Heap.lt_size he
    have hil : it < s.heap.objs.size := by obtain ⟨_, q, _⟩ := hit; exact Heap.lt_size q
    refine wpAny_pyNext_enum_itemD (Draws.text (A := X.A.in1) (show X.A.in1.handled = none from I.ok.hd hc) it z t) he hit hg hne (by simp [hne]) fun y h' tk hy ho st' hT hsz hk => ?_
    obtain ⟨c, u, hcx, rfl⟩ := hy
    refine ⟨_, rfl, wpAny_letOwnedTupleGo_enum (s := { s with heap := h', toks := tk + 1 }) ho fun h'' he' sb => ?_⟩
    have hT2 : h''.get? s.heap.objs.size = some { cls := .type "tuple", data := .seq #[.int i tk, .str ⟨#[c]⟩ u] } := (sb.2 _ (Nat.ne_of_gt hel)).trans hT
    have new : ObjOk X.prog X.w (upd H s.heap.objs.size (.tup [.int (i : Nat), .str ⟨#[c]⟩])) h'' s.heap.objs.size (.tup [.int (i : Nat), .str ⟨#[c]⟩]) :=
      ⟨by show 2 ≤ sizeLine; decide, [.int i tk, .str ⟨#[c]⟩ u], .cons ⟨_, rfl⟩ (.cons ⟨u, rfl⟩ .nil), ⟨_, hT2, rfl, _, rfl⟩⟩
    have I1 : Inv X pins σ (upd H s.heap.objs.size (.tup [.int (i : Nat), .str ⟨#[c]⟩])) { s with heap := h'', toks := tk + 1 } :=
      I.turnedNew (ch := [e, it]) (fun b ob hb q => (sb.2 b (fun z => hb (by simp [z]))).trans (hk b ob (fun z => hb (by simp [z])) (fun z => hb (by simp [z])) q)) hf (Nat.le_refl _) new
    refine ⟨.ref s.heap.objs.size, _, I1, rfl, ⟨_, c, rfl, I.hok.fresh (Nat.le_refl _), rfl, hcx⟩, ⟨⟨.str ⟨#[c]⟩ u, ?_⟩, ?_, hne⟩, fun b hb => ?_⟩
    · have e1 : ((i + 1 : Nat) : Int) = (i : Int) + 1 := by omega
      rw [e1]; exact he'
    · obtain ⟨o, q, r⟩ := st'
      exact ⟨o, (sb.2 it (Ne.symm hne)).trans q, r⟩
    · have hb' : b < s.heap.objs.size := by
        have c : b = e ∨ b = it := by simpa using hb
        rcases c with rfl | rfl
        · exact hel
        · exact hil
      rw [upd_ne (Nat.ne_of_lt hb')]
      exact (hf b hb).1
  done := by
    intro X hP hw hK hc i pins s σ H E I hf st hg
    subst hP hw hK
    obtain ⟨⟨old, he⟩, hit, hne⟩ := st
    obtain ⟨f0, f1, f2, f3, f4, f5⟩ := hf it (by simp)
    have hx : z.cps[i]? = none := Array.getElem?_eq_none hg
    have hT : s.TypeIs (.ref e) "enumerate" := ⟨_, he, rfl⟩
    unfold pyNext
    refine wpAny_bind (wpAny_attempt (wpAny_callSpecial?_slot (name := Str.ofString "__next__") hT F.slot_enumerate_next
      (wpAny_call_entry F.slot_enumerate_next hT F.entry_enumerate_next ?_ (F.args_enumerate_next_1 _))))
    show wpAny _ _ (field (.ref e) 2 >>= _) _ _ _
    refine wpAny_bind (wpAny_field he rfl (x := .ref it) rfl ?_)
    have hh : X.A.in1.handled = none := I.ok.hd hc
    have go : ∀ {Q : Value → Shared → Prop} {E : Value → Shared → Prop}, (∀ h' e, Heap.ExtBut it s.heap h' → (∃ o, h'.get? e = some o ∧ o.cls = .type "StopIteration") → E (.ref e) { s with heap := h' }) → wpAny (model X.prog X.w) X.A.in1 (Builtin.SmallTypes.nextOf (.ref it)) Q E s := fun {Q E} hE => by
      unfold strIterType at hit
      split at hit
      · exact wpAny_nextOf_ascii_end hh hit hx hE
      · exact wpAny_nextOf_wide_end hh hit hx hE
    refine wpAny_bind (go fun h' x eb hx' => ?_)
    obtain ⟨o, ho, hcl⟩ := hx'
    refine wpAny_bind (wpAny_isInstance (T := "StopIteration") (b := true) ⟨o, ho, hcl⟩ isSubtype_stop ?_)
    exact wpAny_pure ⟨rfl, I.turned (t' := s.toks) (fun b ob hb q => eb b ob hb q) f0 f1 f3 f4 f5⟩
  self := by
    rintro A i s Q E ⟨⟨_, he⟩, _⟩ h
    exact wpAny_pyIter_enum he h
section
variable {X : Cx}
def iEnumS (ta : TA) : TI := fun σ H R => ta σ H fun vs H1 => ∃ z, vs = [.str z] ∧ R (IteS z) H1
theorem pi_enumS {e : Expr} {ta : TA} {p pos tpos : Pos} {elts : List Expr} {kk : Nat} (hg : Gl X "enumerate") (hm : X.mg "enumerate" = none) (ha : PA X [e] ta) (hs : starEach [e] X.env = [(false, eval e X.env)] := by rfl) :
    PI X (.Tuple elts kk tpos) (.Call (.Name "enumerate" p) [e] [] pos) (iEnumS ta) := by
  refine ⟨fun pins s σ H R I h => ?_⟩
  refine PyProof.Rows.Call_ (ld_blt I hg hm PyProof.Rows.boot_enumerate (PyProof.Rows.callWith_type1 (thn (ha.run pos pins s σ H _ I h) fun us s1 ⟨vs, H1, I1, r1, q1⟩ => ?_) hs rfl))
  obtain ⟨z, ex, q⟩ := q1
  subst ex
  cases r1 with
  | cons r rr =>
    cases rr
    obtain ⟨t, rfl⟩ := r
    have fp2 : ∀ b ∈ [s1.heap.objs.size + 1, s1.heap.objs.size], FpOk X pins H1 b := fun b hb => by
      have c : b = s1.heap.objs.size + 1 ∨ b = s1.heap.objs.size := by simpa using hb
      have hle : s1.heap.objs.size ≤ b := by
        rcases c with z | z
        · rw [z]; exact Nat.le_add_right _ _
        · rw [z]; exact Nat.le_refl _
      exact I1.fpOk hle (I1.hok.fresh hle)
    refine enum1_call (begins_text z t) trivial fun h' he ho hk => wpAny_pyIter_enum he ?_
    exact ⟨s1.heap.objs.size + 1, [s1.heap.objs.size + 1, s1.heap.objs.size], _, _, H1, rfl, I1.kept (t' := s1.toks) hk, turn_enumS z t (s1.heap.objs.size + 1) s1.heap.objs.size, ⟨⟨.none, he⟩, ⟨_, ho, rfl, rfl⟩, Nat.succ_ne_self _⟩, fp2, q⟩
variable {W : L2.WX} {e : Expr} {tt : TA2} {p pos tpos : Pos} {elts : List Expr} {kk : Nat}
/-- the signs of a text as trees -/
def chrs (z : Str) : List Tr := z.cps.toList.map fun k => .str ⟨#[k]⟩
def iEnS (ta : TA2) : TI2 := fun σ M R E => ta σ M (fun es M1 => ∃ z, es = [.str z] ∧ R (itE (chrs z) fun _ => True) M1) E
theorem ites_ok {K : PySem.W.Frag} {H : Hp} {z : Str} : ItOk K H (IteS z) (itE (chrs z) fun _ => True) := fun H1 M t sm => by
  refine ⟨fun i ⟨_, hi⟩ => ?_, fun i ⟨_, hi⟩ => ?_, fun i x H2 ⟨_, hi⟩ ⟨T, c, ex, hT, e, hy⟩ => ?_⟩
  · show z.cps.size ≤ i
    simpa [chrs] using hi
  · show i < z.cps.size
    simpa [chrs] using hi
  · subst e
    subst ex
    obtain ⟨p1, p2, p3⟩ := pair_rep (K := K) (i := i) (x := .str ⟨#[c]⟩) (d := .str ⟨#[c]⟩) hT rfl sm
    refine ⟨p1, p2, _, p3, .str ⟨#[c]⟩, ?_, rfl⟩
    have : z.cps.toList[i]? = some c := by simpa using hy
    unfold chrs
    rw [List.getElem?_map, this]; rfl
theorem qi_enumS (hm : X.mg "enumerate" = none) (ha : QA X W [e] tt) (hg : Gl X "enumerate" := by rfl) (hs : starEach [e] X.env = [(false, eval e X.env)] := by rfl) :
    QI X W (.Tuple elts kk tpos) (.Call (.Name "enumerate" p) [e] [] pos) (iEnS tt) := pi_weak (pi_enumS hg hm ha hs) fun σ H R ⟨σ', M, R', E', hs, hm, q, hq, hx⟩ =>
  ⟨σ', M, _, E', hs, hm, q, fun es M1 xs H1 t1 r1 s1 ⟨z, ee, q1⟩ => by
    subst ee
    obtain ⟨x, rfl, r2⟩ := one_of r1
    cases r2
    exact ⟨z, rfl, hq _ M1 _ H1 t1 s1 ites_ok q1⟩, hx⟩
def kStr (d : Tr) (P : Str → Prop) : Prop := match d with
  | .str z => P z
  | _ => False
@[simp ↓] theorem kStr_ap {z : Str} {P : Str → Prop} : kStr (.str z) P = P z := rfl
@[simp ↓] theorem iEnS_ap {σ : St2} {M : Ms} {R : It2 → Ms → Prop} {E : X2} : iEnS tt σ M R E = tt σ M (fun es M1 => k1 es fun d => kStr d fun z => R (itE (chrs z) fun _ => True) M1) E := by
  unfold iEnS
  congr 1
  funext es M1
  apply propext
  constructor
  · rintro ⟨z, rfl, r⟩; exact r
  · intro h
    match es with
    | [] => exact h.elim
    | [d] => cases d <;> first | exact ⟨_, rfl, h⟩ | exact h.elim
    | _ :: _ :: _ => exact h.elim
end
end T

/-! T, twelfth part: all, any of lists of truths; classes of errors; defs with defaults, defs that call themselves. -/
namespace T
open PySem PySem.Spec PyProof.Rows L2
theorem bt_all : bootBuiltins "all" = some (.builtin "all") := by decide +kernel
theorem bt_any : bootBuiltins "any" = some (.builtin "any") := by decide +kernel
section
variable {X : Cx}
theorem bls_back {K : PySem.W.Frag} {H : Hp} {bs : List Bool} {xs : List V} (r : RepL K H (bs.map Tr.bl) xs) : xs = bs.map V.bl := by
  induction bs generalizing xs with
  | nil => exact r
  | cons n t ih =>
    obtain ⟨x, y, rfl, r1, r2⟩ := r
    cases r1
    rw [ih r2]; rfl
theorem dpAll_bls {K : PySem.W.Frag} {H : Hp} : ∀ bs : List Bool, DpAll K H (bs.map V.bl) (bs.map PyData.bool)
  | [] => .nil
  | b :: r => .cons (.bl b) (dpAll_bls r)
theorem plain_bls : ∀ bs : List Bool, PyData.plainAll (bs.map PyData.bool) = true
  | [] => rfl
  | b :: r => by
    show (true && PyData.plainAll (r.map PyData.bool)) = true
    rw [plain_bls r]; rfl
def rAllG (f : List Bool → Bool) : RC2 := c1 fun d M Q => ∃ bs : List Bool, seqT d M = some (bs.map Tr.bl) ∧ (∀ es, d ≠ .tup es) ∧ Q (.bl (f bs)) M
theorem b_allG {id : String} {f : List Bool → Bool} (h : ∀ {prog : Program} {w : World} {A : Around} {E : Value → Shared → Prop} {s : Shared} {l : Addr} {vs : Array Value} {xs : List PyData} {as : List Addr} {Q : Value → Shared → Prop}, A.handled = none → s.heap.IsList l vs → ReadsAll s.heap vs.toList xs as → PyData.plainAll xs = true → (∀ x ∈ xs, x.fits63) →
    (∀ bs : List Bool, xs = bs.map PyData.bool → ∀ h' tk, (∀ b o, s.heap.get? b = some o → h'.get? b = some o) → Q (.bool (f bs)) { s with heap := h', toks := tk }) → (∃ bs : List Bool, xs = bs.map PyData.bool) → wpAny (model prog w) A (call (.builtin id) [.ref l]) Q E s) (hc : X.calm = true) : CallR X (.builtin id) (lfC X.K (rAllG f)) :=
  c1_of fun pins s σ H x u Q d M Q' I rx rd sm ⟨bs, e, nt, q⟩ hq => by
  have go : ∀ a, x = .ref a → SqL X.K H a (bs.map V.bl) → wpAny (model X.prog X.w) X.A (call (.builtin id) [u]) (EP X pins σ Q) X.xe s := fun a ex sq => by
    subst ex
    obtain ⟨its, rv, hl, _⟩ := I.list sq
    cases rx
    obtain ⟨as, hr⟩ := Dp.readsAll I _ _ _ (dpAll_bls bs) rv
    refine h (I.ok.hd hc) hl.isList (by simpa using hr) (plain_bls bs) (fun z hz => ?_) (fun bs' e' h' tk hk => ?_) ⟨bs, rfl⟩
    · obtain ⟨b, _, rfl⟩ := List.mem_map.mp hz
      trivial
    · have : bs' = bs := by
        have inj : ∀ a b : Bool, PyData.bool a = PyData.bool b → a = b := fun a b h => by cases h; rfl
        exact ((List.map_inj_right (fun a b h => inj a b h)).mp e').symm
      subst this
      exact ⟨.bl _, H, I.kept hk, rfl, hq (.bl _) M _ H Tx.refl rfl sm q⟩
  cases d with
  | tup ds => exact absurd rfl (nt ds)
  | fro ds =>
    obtain ⟨a, xs, rfl, sq, rl⟩ := rd
    cases e
    have := bls_back rl
    subst this
    exact go a rfl sq.sq
  | loc a =>
    cases rd
    obtain ⟨xs, hx, rl⟩ := sm a _ (seqT_loc e)
    have := bls_back rl
    subst this
    exact go a rfl (SqL.of hx)
  | _ => cases e
theorem all_bls (bs : List Bool) : (bs.map PyData.bool).all PyData.truthy = bs.all id := by
  induction bs with
  | nil => rfl
  | cons b r ih => rw [List.map_cons, List.all_cons, List.all_cons, ih]; rfl
theorem any_bls (bs : List Bool) : (bs.map PyData.bool).any PyData.truthy = bs.any id := by
  induction bs with
  | nil => rfl
  | cons b r ih => rw [List.map_cons, List.any_cons, List.any_cons, ih]; rfl
abbrev rAll2 : RC2 := rAllG fun bs => bs.all id
abbrev rAny2 : RC2 := rAllG fun bs => bs.any id
theorem b_all (hc : X.calm = true) : CallR X (.builtin "all") (lfC X.K rAll2) := b_allG (fun hh hl hr hp hf h ⟨bs, e⟩ => PySem.W.all_list_data hh hl hr hp hf fun h' tk hk => by
  subst e
  rw [all_bls]
  exact h bs rfl h' tk hk) hc
theorem b_any (hc : X.calm = true) : CallR X (.builtin "any") (lfC X.K rAny2) := b_allG (fun hh hl hr hp hf h ⟨bs, e⟩ => PySem.W.any_list_data hh hl hr hp hf fun h' tk hk => by
  subst e
  rw [any_bls]
  exact h bs rfl h' tk hk) hc
def AllS (f : List Bool → Bool) (d : Tr) (M : Ms) (Q : Q2) (_ : Fx Q) : Prop := ∃ bs : List Bool, seqT d M = some (bs.map Tr.bl) ∧ (∀ es, d ≠ .tup es) ∧ Q (.bl (f bs)) M
@[simp ↓] theorem rAllG_ap {f : List Bool → Bool} {d : Tr} {M : Ms} {Q : Q2} : rAllG f [d] M Q = AllS f d M Q .mk := rfl
end
/-! errors by their classes' names -/
structure Cn where
  cl : Str → Value
  ex : Value → Value → Option Bool
abbrev cnOf (K : PySem.W.Frag) : Cn := ⟨fun x => .ref (He.ga K x), PySem.W.exmOne K⟩
@[simp ↓] theorem sRaise_ap {c : Value} {D : Ends2} {σ : St2} {M : Ms} : sRaise c D σ M = D.ex c none σ M := rfl
@[simp ↓] theorem sTry_ap {ex : Value → Option Bool} {tb ts : TS2} {D : Ends2} {σ : St2} {M : Ms} :
    sTry ex tb ts D σ M = tb { D with ex := fun c dd σ1 M1 => ∃ b, ex c = some b ∧ (b = true → ts { D with ex := fun _ _ _ _ => False } σ1 M1) ∧ (b = false → D.ex c dd σ1 M1) } σ M := rfl
/-! defs that call themselves; defaults -/
theorem okF_zero {P : Program} {w : World} {K : PySem.W.Frag} {mg : Str → Option Value} {base : Heap} {k : Nat} {f : Addr} {fd : FuncData} {x qual : Str} {params : Arguments} {body : List Stmt} {scope : Scope} {ps : List Str} {sp : Sp2}
    (F : FunD K x qual params body scope [] [] f fd) (hm : mg x = some (.ref f)) (hb : Binds K fd ps []) (h : ∀ ds M Q E, ¬ sp ds M Q E) : OkF P w K mg base k x ps [] sp :=
  ⟨f, fd, [], [], fnT_none h, hm, F.kp, hb, .nil, fun _ => RepL.nil⟩
theorem okF_dfl {P : Program} {w : World} {K : PySem.W.Frag} {mg : Str → Option Value} {base : Heap} {k : Nat} {f : Addr} {fd : FuncData} {x qual : Str} {params : Arguments} {body : List Stmt} {scope : Scope} {ps : List Str} {sp : Sp2} {dfs dus : List V} {kws : List (Str × V)} {dvs : List Tr}
    (F : FunD K x qual params body scope dfs kws f fd) (T : FnT P w K mg base k f fd ps sp) (hm : mg x = some (.ref f)) (hb : ∃ ds, Vals dus ds ∧ Binds K fd ps ds) (hr : ∀ H, RepL K H dvs dus) : OkF P w K mg base k x ps dvs sp := by
  obtain ⟨ds, h1, h2⟩ := hb
  exact ⟨f, fd, dus, ds, T, hm, F.kp, h2, h1, hr⟩
end T

/-! T, thirteenth part: dicts. -/
namespace T
open PySem PySem.Spec PyProof.Rows L2
section
variable {X : Cx} {W : L2.WX} {a b e : Expr} {pos : Pos} {ta tb : TE2} {M : Ms} {Q : Q2} {E : X2} {σ : St2}
/-- {} -/
def eD0 : TE2 := fun _ M Q _ => ∀ p, M p = none → Q (.loc p) (up M p (.dic []))
theorem qe_d0 : QE X W (.Dict [] [] pos) eD0 := pe_weak pe_dnewK fun σ H Q ⟨σ', M, Q', E', hs, hm, q, hq, hx⟩ p hp =>
  hq (.loc p) _ (.ref p) _ (Tx.new hp) rfl (hm.put (m := .dic []) (Tx.new hp) ⟨[], upd_same, rfl, rfl⟩) (q p (hm.free hp))
def NewD (M : Ms) (kvs : List (Key × Tr)) (Q : Q2) (_ : Fx Q) : Prop := ∀ p, M p = none → Q (.loc p) (up M p (.dic kvs))
@[simp ↓] theorem eD0_ap : eD0 σ M Q E = NewD M [] Q .mk := rfl
/-- {k: v}, k an int or a text, no store changed by them -/
def eD1 (ta tb : TE2) : TE2 := fun σ M Q E => ∀ p, M p = none → ta σ (up M p (.dic [])) (fun d M1 => tb σ M1 (fun e M2 => ∃ k, keyT d = some k ∧ M2 p = some (.dic []) ∧ Q (.loc p) (up M2 p (.dic [(k, e)]))) X0) X0
theorem qe_d1 (ha : QE X W0 a ta) (hb : QE X W0 b tb) : QE X W (.Dict [some a] [b] pos) (eD1 ta tb) :=
  pe_weak (pe_disp (pps_cons ha hb pps_nil) rfl rfl (by simp) (by simp)) fun σ H Q ⟨σ', M, Q', E', hs, hm, q, hq, hx⟩ p hp => by
    refine ⟨σ', up M p (.dic []), _, X0, hs.mono (Tx.new hp), hm.put (m := .dic []) (Tx.new hp) ⟨[], upd_same, rfl, rfl⟩, q p (hm.free hp), fun d M1 x H1 t1 r1 s1 q1 => ⟨σ', M1, _, X0, (hs.mono (Tx.new hp)).mono t1, s1, q1, fun e M2 y H2 t2 r2 s2 ⟨k, ek, e0, q2⟩ => ?_, fun _ _ _ _ _ _ z => False.elim z⟩, fun _ _ _ _ _ _ z => False.elim z⟩
    obtain ⟨xs, e1, e2, e3⟩ := s2 p _ e0
    have xs0 : xs = [] := List.map_eq_nil_iff.mp e2
    subst xs0
    have ex : x = kV k := keyT_ok ek (r1.mono t2)
    refine ⟨e1, [(k, y)], by rw [ex]; rfl, by simp, ?_⟩
    have T3 : Tx X.K H2 (upd H2 p (.dK (mergeK [] [(k, y)]))) := Tx.dic e1
    exact hq (.loc p) _ (.ref p) _ (((Tx.new hp).trans t1).trans (t2.trans T3)) rfl (s2.put (m := .dic [(k, e)]) T3 ⟨[(k, y)], upd_same, rfl, (RepL.one r2).mono T3⟩) q2
@[simp ↓] theorem eD1_ap : eD1 ta tb σ M Q E = ∀ p, M p = none → ta σ (up M p (.dic [])) (fun d M1 => tb σ M1 (fun e M2 => ∃ k, keyT d = some k ∧ M2 p = some (.dic []) ∧ Q (.loc p) (up M2 p (.dic [(k, e)]))) X0) X0 := rfl
/-- d[k] -/
def rIxD2 : R22 := fun d e M Q => ∃ a kvs k v, d = .loc a ∧ M a = some (.dic kvs) ∧ keyT e = some k ∧ valT kvs k = some v ∧ Q v M
theorem ixD (hu : X.A.units + 1 < cLine) : IxR X (lfR X.K rIxD2) := by
  intro value slice pins s σ H x y v u Q I rx ry ⟨d, e, M, Q', rd, re, sm, ⟨a, kvs, k, z, e0, ea, ek, ez, q⟩, hq⟩ hs
  subst e0
  cases rd
  obtain ⟨xs, hx, ke, rl⟩ := sm a _ ea
  have ey : y = kV k := keyT_ok ek re
  obtain ⟨w, hw, rw'⟩ := (valT_ok (k := k) ke rl).2 z ez
  have g : DGet H a y (some w) := by
    rw [ey, ← hw]; exact DGet.k hx
  cases rx
  exact tail_any (dict_typeIs I g) PySem.F.slot_dict_getitem.lookup (d_getItem hu I g ry fun w' s' I' r' => ⟨w, H, I', r', hq z M w H Tx.refl rw' sm q⟩) hs
theorem qe_ixD (hu : X.A.units + 1 < cLine) (ha : QE X W a ta) (hb : QE X W b tb) (hs : PlainIx b := by exact fun _ _ => rfl) : QE X W (.Subscript a b pos) (eOp rIxD2 ta tb) := pe_weak (pe_ix (ixD hu) ha hb hs) fun _ _ _ h => op_low h
def GetS (a : Addr) (e : Tr) (M : Ms) (Q : Q2) (_ : Fx Q) : Prop := ∃ kvs k v, M a = some (.dic kvs) ∧ keyT e = some k ∧ valT kvs k = some v ∧ Q v M
@[simp ↓] theorem rIxD2_ap {a : Addr} {e : Tr} : rIxD2 (.loc a) e M Q = GetS a e M Q .mk := propext ⟨fun ⟨a', kvs, k, v, h0, h⟩ => by
  injection h0 with h0
  subst h0
  exact ⟨kvs, k, v, h⟩, fun ⟨kvs, k, v, h⟩ => ⟨a, kvs, k, v, rfl, h⟩⟩
end
end T

/-! T: sorted of tuples that their first entries part. -/
namespace T
open PySem PySem.Spec PyProof.Rows L2
/-- comparable: alike data, or tuples whose first entries are alike and differ -/
def AlikeP (d d' : PyData) : Prop := PySem.W.alike d d' = true ∨ ∃ x r x' r', d = .tuple (x :: r) ∧ d' = .tuple (x' :: r') ∧ PySem.W.alike x x' = true ∧ PyData.eqv x x' = false
def AllAlikeP (ds : List PyData) : Prop := ∀ d, d ∈ ds → ∀ d', d' ∈ ds → AlikeP d d'
theorem alikeP_unique {h : Heap} {d d' : PyData} {v : Value} {as as' : List Addr} (hal : AlikeP d d') (r : Reads h v d as) (r' : Reads h v d' as') : d = d' := by
  rcases hal with hal | ⟨x, l, x', l', rfl, rfl, ha, he⟩
  · exact PySem.W.alike_unique _ _ _ _ _ hal r r'
  · cases r with
    | tuple h1 h2 h3 h4 =>
      cases r' with
      | tuple k1 k2 k3 k4 =>
        rw [h1] at k1; cases k1
        rw [h3] at k3; cases k3
        generalize hv : Array.toList _ = vs at h4 k4
        cases h4 with
        | cons a b =>
          cases k4 with
          | cons a' b' =>
            have e := PySem.W.alike_unique _ _ _ _ _ ha a a'
            subst e
            rw [PySem.W.eqv_refl_alike _ ha] at he
            cases he
theorem kindP_some {h : Heap} {ds : List PyData} (hal : AllAlikeP ds) {v : Value} {d : PyData} {as : List Addr} (hd : d ∈ ds) (r : Reads h v d as) : (PySem.W.dataKind h ds).keyOf v = some (PySem.W.keyToks d) := by
  have q : ∃ d, d ∈ ds ∧ ∃ as, Reads h v d as := ⟨d, hd, as, r⟩
  have e : (PySem.W.dataKind h ds).keyOf v = some (PySem.W.keyToks q.choose) := by
    show (open Classical in if q : ∃ d, d ∈ ds ∧ ∃ as, Reads h v d as then some (PySem.W.keyToks q.choose) else none) = _
    rw [dif_pos q]
  obtain ⟨h1, as', h2⟩ := q.choose_spec
  rw [e, alikeP_unique (hal _ h1 _ hd) h2 r]
theorem AlikeP.head {x x' : PyData} {r r' : List PyData} (h : AlikeP (.tuple (x :: r)) (.tuple (x' :: r'))) : PySem.W.alike x x' = true := by
  rcases h with h | ⟨_, _, _, _, e, e', h, _⟩
  · exact (PySem.W.alike_all_cons (by simpa [PySem.W.alike] using h)).1
  · cases e; cases e'; exact h
section
variable {prog : Program} {w : World} {A : Around} {s : Shared}
theorem sortsAtP {vs : List Value} {ds : List PyData} (e : PySem.W.EachIs (fun v d => ∃ as, Reads s.heap v d as) vs ds) (hal : AllAlikeP ds) (ht : ∀ d, d ∈ ds → ∃ x r, d = .tuple (x :: r)) (hu : ∀ d, d ∈ ds → A.units + d.depth < cLine) : PySem.W.SortsAt prog w A s (PySem.W.dataKind s.heap ds) vs := by
  have room : ∀ {d d' : PyData}, d ∈ ds → A.units + min d.depth d'.depth < cLine := fun {d d'} hd => Nat.lt_of_le_of_lt (Nat.add_le_add_left (Nat.min_le_left _ _) _) (hu d hd)
  refine ⟨fun v hv => ?_, ?_⟩
  · obtain ⟨d, hd, as, r⟩ := e.left v hv
    exact ⟨_, kindP_some hal hd r⟩
  · cases ds with
    | nil =>
      cases e
      exact ⟨general', fun E x y a b Q ha _ _ => (by
        obtain ⟨d, _, hd, _⟩ := PySem.W.dataKind_inv ha
        exact absurd hd (by simp)), fun h2 => absurd h2 (by simp)⟩
    | cons d₀ ds₀ =>
      obtain ⟨x₀, r₀, e₀⟩ := ht d₀ (List.mem_cons_self ..)
      have hfirst : ∀ x r, PyData.tuple (x :: r) ∈ d₀ :: ds₀ → PySem.W.alike x x₀ = true := by
        intro x r hm
        have q := hal _ hm d₀ (List.mem_cons_self ..)
        rw [e₀] at q
        exact q.head
      refine ⟨tuples' (PySem.W.dataType x₀ != Value.type "tuple"), ?_, fun h2 E Q hq => ?_⟩
      · intro E x y a b Q ha hb hq
        obtain ⟨d, as, hd, ra, rfl⟩ := PySem.W.dataKind_inv ha
        obtain ⟨d', as', hd', rb, rfl⟩ := PySem.W.dataKind_inv hb
        have hdd := hal d hd d' hd'
        have hroom := room (d' := d') hd
        obtain ⟨x1, r1, rfl⟩ := ht d hd
        obtain ⟨x2, r2, rfl⟩ := ht d' hd'
        have hq' : Q (PySem.W.dataLt (.tuple (x1 :: r1)) (.tuple (x2 :: r2))) s := hq
        rw [PySem.W.dataLt_tuple] at hq'
        cases ra with
        | @tuple l o xs n _ _ h1 h2 h3 h4 =>
          cases rb with
          | @tuple l' o' xs' n' _ _ k1 k2 k3 k4 =>
            have n1 : xs.size = (x1 :: r1).length := by simpa using SeqAt.ReadsAll.length _ _ _ h4
            have n2 : xs'.size = (x2 :: r2).length := by simpa using SeqAt.ReadsAll.length _ _ _ k4
            refine PySem.W.kat_lt h1 h3 k1 k3 ?_
            have hb0 : ∀ b : Bool, b = (PySem.W.dataType x₀ != Value.type "tuple") → b = true → ∀ t, x1 ≠ .tuple t := by
              intro b e hb t
              subst e
              have q := PySem.W.dataType_alike (hfirst _ _ hd)
              rw [← q] at hb
              exact PySem.W.dataType_tuple hb t
            rcases hdd with hdd | ⟨_, _, _, _, e1, e2, ha, he⟩
            · refine PySem.W.katLex_alike (x1 :: r1) (x2 :: r2) 0 _ _ _ _ h4 k4 (by simpa [PySem.W.alike] using hdd) (by have q := SeqAt.room_in hroom; omega) (fun hb _ x r t ex => ?_) (by rw [n1, n2]) hq'
              obtain ⟨rfl, rfl⟩ := List.cons.inj ex
              exact hb0 _ rfl hb t
            · cases e1; cases e2
              rw [PySem.W.dataLt_all_no ha he] at hq'
              have hr : A.units + min x1.depth x2.depth < cLine := by
                have q := SeqAt.room_in hroom
                have q2 : A.units + min (max x1.depth (PyData.depthAll r1)) (max x2.depth (PyData.depthAll r2)) < cLine := by
                  have e1 : PyData.depthAll (x1 :: r1) = max x1.depth (PyData.depthAll r1) := by rw [PyData.depthAll]
                  have e2 : PyData.depthAll (x2 :: r2) = max x2.depth (PyData.depthAll r2) := by rw [PyData.depthAll]
                  rw [← e1, ← e2]
                  omega
                exact SeqAt.room_head q2

              generalize hv : Array.toList xs = us at h4
              generalize hv' : Array.toList xs' = us' at k4
              cases h4 with
              | cons a b =>
                cases k4 with
                | cons a' b' =>
                  rw [List.zip_cons_cons]
                  refine PySem.W.kat_cons (PySem.W.eqAt_alike x1 x2 A s _ _ _ _ a a' ha hr prog w _ _ ?_)
                  rw [he]
                  refine PySem.W.kat_no (PySem.W.oneLt_alike (fun hbi t => ?_) a a' ha (PySem.W.ne_none_of ha he) hr hq')
                  rw [Bool.and_eq_true] at hbi
                  exact hb0 _ rfl hbi.1 t
      · obtain ⟨fs, t1, t2, t3⟩ := PySem.W.each_katTups e ht
        refine PySem.W.kat_kind (T := PySem.W.dataType x₀) t1 (by omega) (fun f hf => ?_) (beq_self_eq_true _) hq
        obtain ⟨x, r, as, m1, m2⟩ := t3 f hf
        rw [← PySem.W.dataType_alike (hfirst x r m1)]
        exact PySem.W.looks_reads m2
end

section
variable {X : Cx} {W : L2.WX} {pos : Pos} {M : Ms} {Q : Q2}
/-- .. of tuples that are pairwise alike, or differ at their first entries -/
def SortP (d : Tr) (M : Ms) (Q : Q2) (_ : Fx Q) : Prop := ∃ ds, seqT d M = some ds ∧ (∀ es, d ≠ .tup es) ∧ (∀ e ∈ ds, pureT e = true) ∧ AllAlikeP (ds.map toP) ∧ (∀ d, d ∈ ds.map toP → ∃ x r, d = .tuple (x :: r)) ∧ (∀ e ∈ ds, (toP e).depth ≤ 50) ∧ ds.length ≤ sizeLine ∧
  ∀ p, M p = none → Q (.loc p) (up M p (.lst (ds.mergeSort (PySem.W.dataLe false toP))))
def rSort3 : RC2 := c1 fun d M Q => SortP d M Q .mk
theorem each_keysP {h' : Heap} {ds : List PyData} (hal : AllAlikeP ds) {vs : List Value} (er : PySem.W.EachIs (fun v d => ∃ as, Reads h' v d as) vs ds) : PySem.W.EachIs (fun v d => (PySem.W.dataKind h' ds).keyOf v = some (PySem.W.keyToks d)) vs ds :=
  (PySem.W.each_mem er).mono fun v d ⟨⟨as, r⟩, hd⟩ => kindP_some hal hd r
theorem b_sorted3 (hu : X.A.units + 64 < cLine) : CallR X (.builtin "sorted") (lfC X.K rSort3) := c1_of fun pins s σ H x u Q d M Q' I rx rd sm ⟨ds, e1, nt, hp, hal, hk, hd, hL, q⟩ hq => by
  have go : ∀ a xs, x = .ref a → SqL X.K H a xs → RepL X.K H ds xs → wpAny (model X.prog X.w) X.A (call (.builtin "sorted") [u]) (EP X pins σ Q) X.xe s := fun a xs ex sq rl => by
    subst ex
    obtain ⟨its, rv, hl, _⟩ := I.list sq
    cases rx
    have er := each_of rl rv
    have er0 := pureReads I sm hp er
    have er' : PySem.W.EachIs (fun v b => ∃ as, Reads (PySem.W.sortingHeap (PySem.W.copyHeap s.heap its) (s.heap.objs.size + 1) its) v (toP b) as) its ds := er0.mono fun _ _ ⟨as, r⟩ => ⟨as, PyProof.Rows.Reads.keeps (fun _ _ => PySem.W.sorting_copy_old) r⟩
    have er2 := PySem.W.each_map (R := fun v d => ∃ as, Reads (PySem.W.sortingHeap (PySem.W.copyHeap s.heap its) (s.heap.objs.size + 1) its) v d as) toP er'
    have fin : ∀ out, out.length = ds.length → PySem.W.EachIs (fun u d => ∃ x, RelV x u ∧ Rep X.K H d x) out (ds.mergeSort (PySem.W.dataLe false toP)) → EP X pins σ Q (.ref (s.heap.objs.size + 1)) { s with heap := PyProof.Rows.sortedAll s.heap its (List.toArray out) } := fun out ho eo => by
      obtain ⟨ys, h1, h2⟩ := each_back eo
      obtain ⟨ep, he'⟩ := PyProof.Rows.sortedAll_at s.heap its out.toArray
      have hlen : ys.length ≤ sizeLine := by rw [← h1.len, List.length_mergeSort]; exact hL
      have fr : H (s.heap.objs.size + 1) = none := I.hok.fresh (Nat.le_succ _)
      exact ⟨.ref _, upd H (s.heap.objs.size + 1) (.lst ys), I.laid (t' := s.toks) (fun _ _ => PyProof.Rows.sortedAll_old) (Nat.le_succ _) ⟨hlen, out, ep, h2, by simpa using he'⟩, rfl, new_lst hq h1 sm fr q⟩
    refine PySem.W.sorted_vals hl.isList (sortsAtP (s := { s with heap := PySem.W.sortingHeap (PySem.W.copyHeap s.heap its) (s.heap.objs.size + 1) its }) er2 hal hk (fun d hd' => ?_)) (by rw [er.length]; exact hL) (fin _ (by rw [PySem.W.sortVals_length false rfl]; exact er.length) ?_)
    · obtain ⟨b, hb, rfl⟩ := List.mem_map.mp hd'
      have := hd b hb
      show X.A.in1.in1.units + _ < _
      have e : X.A.in1.in1.units = X.A.units + 2 := rfl
      omega
    · exact PySem.W.sortVals_each (κ := PySem.W.dataKind _ (ds.map toP)) (fun b => PySem.W.keyToks (toP b)) er (PySem.W.each_of_map toP (each_keysP hal er2))
  cases d with
  | tup es => exact absurd rfl (nt es)
  | fro es =>
    obtain ⟨a, xs, ex, sq, rl⟩ := rd
    cases e1
    exact go a xs ex sq.sq rl
  | loc a =>
    cases rd
    obtain ⟨xs, hx, rl⟩ := sm a _ (seqT_loc e1)
    exact go a xs rfl (SqL.of hx) rl
  | _ => cases e1
@[simp ↓] theorem rSort3_ap {d : Tr} : rSort3 [d] M Q = SortP d M Q .mk := rfl
end
end T

/-! T: data compared that is made of None, ints, texts, tuples. -/
namespace T
open PySem PySem.Spec PyProof.Rows L2
mutual
def nbT : Tr → Bool
  | .non => true
  | .int _ => true
  | .str x => (PyData.str x).canLay0
  | .tup ds => nbL ds
  | _ => false
def nbL : List Tr → Bool
  | [] => true
  | d :: r => nbT d && nbL r
end
mutual
theorem nb_pure : ∀ {t : Tr}, nbT t = true → pureT t = true ∧ (toP t).canLay0 = true
  | .non, _ => ⟨rfl, rfl⟩
  | .int _, _ => ⟨rfl, rfl⟩
  | .str _, h => ⟨rfl, h⟩
  | .tup ds, h => by
    have := nbL_pure (ds := ds) h
    exact ⟨this.1, by show PyData.canLay0 (.tuple (toPs ds)) = true; simp only [PyData.canLay0]; exact this.2⟩
  | .bl _, h => nomatch h
  | .fro _, h => nomatch h
  | .loc _, h => nomatch h
  | .ty _, h => nomatch h
theorem nbL_pure : ∀ {ds : List Tr}, nbL ds = true → pureL ds = true ∧ PyData.canLayAll0 (toPs ds) = true
  | [], _ => ⟨rfl, rfl⟩
  | d :: r, h => by
    have h' : (nbT d && nbL r) = true := h
    rw [Bool.and_eq_true] at h'
    have a := nb_pure h'.1
    have b := nbL_pure h'.2
    exact ⟨by show (pureT d && pureL r) = true; rw [a.1, b.1]; rfl, by show PyData.canLayAll0 (toP d :: toPs r) = true; simp only [PyData.canLayAll0, a.2, b.2]; rfl⟩
end
mutual
theorem eqv_iff : ∀ {a b : Tr}, nbT a = true → nbT b = true → (PyData.eqv (toP a) (toP b) = true ↔ a = b)
  | .non, b, _, hb => by cases b <;> first | (simp [toP, PyData.eqv]; done) | (simp [nbT] at hb; done) | (simp [toP, PyData.eqv])
  | .int i, b, _, hb => by cases b <;> first | (simp [toP, PyData.eqv]; done) | (simp [nbT] at hb; done) | (simp [toP, PyData.eqv])
  | .str i, b, _, hb => by cases b <;> first | (simp [toP, PyData.eqv]; done) | (simp [nbT] at hb; done) | (simp [toP, PyData.eqv])
  | .tup ds, b, ha, hb => by
    cases b with
    | tup es =>
      have := eqvL_iff (as := ds) (bs := es) ha hb
      simp only [toP, PyData.eqv]
      rw [this]
      exact ⟨fun e => by rw [e], fun e => by injection e⟩
    | non => simp [toP, PyData.eqv]
    | int _ => simp [toP, PyData.eqv]
    | str _ => simp [toP, PyData.eqv]
    | _ => exact absurd hb (by simp [nbT])
  | .bl _, _, h, _ => nomatch h
  | .fro _, _, h, _ => nomatch h
  | .loc _, _, h, _ => nomatch h
  | .ty _, _, h, _ => nomatch h
theorem eqvL_iff : ∀ {as bs : List Tr}, nbL as = true → nbL bs = true → (PyData.eqvAll (toPs as) (toPs bs) = true ↔ as = bs)
  | [], [], _, _ => ⟨fun _ => rfl, fun _ => rfl⟩
  | [], _ :: _, _, _ => ⟨(fun h => nomatch h), (fun h => nomatch h)⟩
  | _ :: _, [], _, _ => ⟨(fun h => nomatch h), (fun h => nomatch h)⟩
  | a :: as, b :: bs, ha, hb => by
    have ha' : (nbT a && nbL as) = true := ha
    have hb' : (nbT b && nbL bs) = true := hb
    rw [Bool.and_eq_true] at ha' hb'
    show (PyData.eqvAll (toP a :: toPs as) (toP b :: toPs bs) = true) ↔ _
    simp only [PyData.eqvAll, Bool.and_eq_true]
    rw [eqv_iff ha'.1 hb'.1, eqvL_iff ha'.2 hb'.2]
    exact ⟨fun ⟨x, y⟩ => by rw [x, y], fun e => by injection e with x y; exact ⟨x, y⟩⟩
end
theorem shaped_of {t : Tr} (h : nbT t = true) (hd : (toP t).depth ≤ 64) : SeqAt.shaped (toP t) = true := by
  show ((toP t).canLay0 && decide ((toP t).depth ≤ 64)) = true
  rw [(nb_pure h).2]
  simpa using hd
section
variable {M : Ms} {Q : Q2} {f : Bool → Bool}
theorem eqS_pure {a b : Tr} {fx : Fx Q} (k : Bool) (ha : nbT a = true) (hb : nbT b = true) (da : (toP a).depth ≤ 64) (db : (toP b).depth ≤ 64) (hk : k = true ↔ a = b) (hq : Q (.bl (f k)) M) : EqS f a b M Q fx := by
  refine ⟨toP a, toP b, dat_pure (nb_pure ha).1, dat_pure (nb_pure hb).1, shaped_of ha da, shaped_of hb db, ?_⟩
  have e : PyData.eqv (toP a) (toP b) = k := by
    rw [Bool.eq_iff_iff, eqv_iff ha hb, hk]
  rw [e]; exact hq
theorem rEq_tup {a b : Tr} (l l' : List Tr) (k : Bool) (ea : a = .tup l) (eb : b = .tup l') (ha : nbT a = true) (hb : nbT b = true) (da : (toP a).depth ≤ 64) (db : (toP b).depth ≤ 64) (hk : k = true ↔ a = b) (hq : Q (.bl (f k)) M) : rEqG f a b M Q := by
  subst ea eb
  exact eqS_pure (fx := .mk) k ha hb da db hk hq
theorem eqS_lists {a b : Addr} {la lb : List Tr} {fx : Fx Q} (k : Bool) (ea : M a = some (.lst la)) (eb : M b = some (.lst lb)) (ha : nbL la = true) (hb : nbL lb = true) (da : PyData.depthAll (toPs la) ≤ 63) (db : PyData.depthAll (toPs lb) ≤ 63) (hk : k = true ↔ la = lb) (hq : Q (.bl (f k)) M) : EqS f (.loc a) (.loc b) M Q fx := by
  refine ⟨.list (toPs la), .list (toPs lb), ⟨_, seqT_lst ea, (fun _ e => nomatch e), datL_pure (nbL_pure ha).1⟩, ⟨_, seqT_lst eb, (fun _ e => nomatch e), datL_pure (nbL_pure hb).1⟩, ?_, ?_, ?_⟩
  · show (PyData.canLay0 (.list (toPs la)) && decide (PyData.depth (.list (toPs la)) ≤ 64)) = true
    simp only [PyData.canLay0, PyData.depth, (nbL_pure ha).2]
    simp; omega
  · show (PyData.canLay0 (.list (toPs lb)) && decide (PyData.depth (.list (toPs lb)) ≤ 64)) = true
    simp only [PyData.canLay0, PyData.depth, (nbL_pure hb).2]
    simp; omega
  · have e : PyData.eqv (.list (toPs la)) (.list (toPs lb)) = k := by
      simp only [PyData.eqv]
      rw [Bool.eq_iff_iff, eqvL_iff ha hb, hk]
    rw [e]; exact hq
end
mutual
/-- how deep tuples stand in one another -/
def hT : Tr → Nat
  | .tup ds => hL ds + 1
  | .fro ds => hL ds + 1
  | _ => 0
def hL : List Tr → Nat
  | [] => 0
  | d :: r => max (hT d) (hL r)
end
mutual
theorem hT_ok : ∀ {t : Tr}, (toP t).depth = hT t
  | .non => rfl
  | .int _ => rfl
  | .str _ => rfl
  | .bl _ => rfl
  | .loc _ => rfl
  | .ty _ => rfl
  | .tup ds => by
    show PyData.depth (.tuple (toPs ds)) = hL ds + 1
    simp only [PyData.depth, hL_ok]
  | .fro ds => by
    show PyData.depth (.list (toPs ds)) = hL ds + 1
    simp only [PyData.depth, hL_ok]
theorem hL_ok : ∀ {ds : List Tr}, PyData.depthAll (toPs ds) = hL ds
  | [] => rfl
  | d :: r => by
    show PyData.depthAll (toP d :: toPs r) = max (hT d) (hL r)
    simp only [PyData.depthAll, hT_ok, hL_ok]
end
theorem hL_le {k : Nat} : ∀ {ds : List Tr}, (∀ d ∈ ds, hT d ≤ k) → hL ds ≤ k
  | [], _ => Nat.zero_le _
  | d :: r, h => by
    show max (hT d) (hL r) ≤ k
    have := h d List.mem_cons_self
    have := hL_le (ds := r) fun x hx => h x (List.mem_cons_of_mem _ hx)
    omega
theorem nbL_of : ∀ {ds : List Tr}, (∀ d ∈ ds, nbT d = true) → nbL ds = true
  | [], _ => rfl
  | d :: r, h => by
    show (nbT d && nbL r) = true
    rw [h d List.mem_cons_self, nbL_of fun x hx => h x (List.mem_cons_of_mem _ hx)]; rfl
end T

/-! T: zip, reversed, ranges by steps; more methods of lists. -/
namespace T
open PySem PySem.Spec PyProof.Rows L2
section
variable {X : Cx} {W : L2.WX} {pos p p2 pos2 : Pos} {tg e a b c : Expr} {ta tb te to : TE2} {tt : TA2} {M : Ms} {Q : Q2} {σ : St2} {E : X2} {R : It2 → Ms → Prop}
/-! ### zip -/
def zipT (ls rs : List Tr) : List Tr := (ls.zip rs).map fun p => Tr.tup [p.1, p.2]
theorem zipT_len {ls rs : List Tr} : (zipT ls rs).length = min ls.length rs.length := by simp [zipT]
theorem zipT_at {ls rs : List Tr} {i : Nat} {x y : Tr} (h : ls[i]? = some x) (h' : rs[i]? = some y) : (zipT ls rs)[i]? = some (.tup [x, y]) := by
  unfold zipT
  rw [List.getElem?_map]
  have : (ls.zip rs)[i]? = some (x, y) := by rw [List.getElem?_zip_eq_some]; exact ⟨h, h'⟩
  rw [this]; rfl
theorem zipT_get {ls rs : List Tr} {i : Nat} {d : Tr} (h : (zipT ls rs)[i]? = some d) : ∃ x y, ls[i]? = some x ∧ rs[i]? = some y ∧ d = .tup [x, y] := by
  unfold zipT at h
  rw [List.getElem?_map] at h
  cases q : (ls.zip rs)[i]? with
  | none => rw [q] at h; cases h
  | some z =>
    rw [q] at h
    cases h
    have := List.getElem?_zip_eq_some.mp q
    exact ⟨_, _, this.1, this.2, rfl⟩
theorem pair2_rep {K : PySem.W.Frag} {H : Hp} {M : Ms} {x y : V} {d e : Tr} {T : Addr} (hT : H T = none) (r : Rep K H d x) (r' : Rep K H e y) (sm : SimM K H M) :
    Tx K H (upd H T (.tup [x, y])) ∧ SimM K (upd H T (.tup [x, y])) M ∧ Rep K (upd H T (.tup [x, y])) (.tup [d, e]) (.ref T) :=
  ⟨Tx.new hT, sm.hid hT, T, _, rfl, SqT.of upd_same, x, [y], rfl, r.mono (Tx.new hT), y, [], rfl, r'.mono (Tx.new hT), rfl⟩
def isTup : Tr → Bool
  | .tup _ => true
  | _ => false
def iZp (ta : TA2) : TI2 := fun σ M R E => ta σ M (fun es M1 => ∃ d e ls rs, es = [d, e] ∧ seqT d M1 = some ls ∧ seqT e M1 = some rs ∧ isTup d = isTup e ∧ R (itL (zipT ls rs) fun M => seqT d M = some ls ∧ seqT e M = some rs) M1) E
theorem seqT_lk {K : PySem.W.Frag} {H : Hp} {M : Ms} {d : Tr} {ds : List Tr} {x : V} (e : seqT d M = some ds) (r : Rep K H d x) (sm : SimM K H M) : ∃ a, x = .ref a ∧
    ((isTup d = true ∧ ∃ xs, SqT K H a xs ∧ RepL K H ds xs) ∨ (isTup d = false ∧ (∃ xs, SqL K H a xs) ∧ ∀ H1 M1, Tx K H H1 → SimM K H1 M1 → seqT d M1 = some ds → ∃ xs, SqL K H1 a xs ∧ RepL K H1 ds xs)) := by
  cases d with
  | tup es =>
    obtain ⟨a, xs, rfl, q, rl⟩ := r
    cases e
    exact ⟨a, rfl, .inl ⟨rfl, xs, q, rl⟩⟩
  | fro es =>
    obtain ⟨a, xs, rfl, q, rl⟩ := r
    cases e
    exact ⟨a, rfl, .inr ⟨rfl, ⟨xs, q.sq⟩, fun H1 M1 t _ _ => ⟨xs, (t.fro _ _ q).sq, rl.mono t⟩⟩⟩
  | loc a =>
    cases r
    obtain ⟨xs, hx, rl⟩ := sm a _ (seqT_loc e)
    refine ⟨a, rfl, .inr ⟨rfl, ⟨xs, SqL.of hx⟩, fun H1 M1 t sm1 e1 => ?_⟩⟩
    obtain ⟨ys, hy, rl'⟩ := sm1 a _ (seqT_loc e1)
    exact ⟨ys, SqL.of hy, rl'⟩
  | _ => cases e
theorem itz_ok {K : PySem.W.Frag} {H : Hp} {a b : Addr} {d e : Tr} {ls rs : List Tr} (h : ∀ H1 M, Tx K H H1 → SimM K H1 M → seqT d M = some ls → ∃ xs, SqL K H1 a xs ∧ RepL K H1 ls xs) (h' : ∀ H1 M, Tx K H H1 → SimM K H1 M → seqT e M = some rs → ∃ xs, SqL K H1 b xs ∧ RepL K H1 rs xs) :
    ItOk K H (Itz K a b) (itL (zipT ls rs) fun M => seqT d M = some ls ∧ seqT e M = some rs) := fun H1 M t sm => by
  refine ⟨fun i ⟨o, hi⟩ => ?_, fun i ⟨o, hi⟩ => ?_, fun i x H2 ⟨o, hi⟩ ⟨T, x', y', ex, hT, e1, hx, hy⟩ => ?_⟩
  · obtain ⟨xs, sq, rl⟩ := h H1 M t sm o.1
    obtain ⟨ys, sq', rl'⟩ := h' H1 M t sm o.2
    rw [zipT_len] at hi
    exact ⟨xs, ys, sq, sq', by rw [← rl.len, ← rl'.len]; omega⟩
  · obtain ⟨xs, sq, rl⟩ := h H1 M t sm o.1
    obtain ⟨ys, sq', rl'⟩ := h' H1 M t sm o.2
    rw [zipT_len] at hi
    have i1 : i < ls.length := by omega
    have i2 : i < rs.length := by omega
    obtain ⟨x, e1, _⟩ := rl.get (i := i) (d := ls[i]) (by simp [i1])
    obtain ⟨y, e2, _⟩ := rl'.get (i := i) (d := rs[i]) (by simp [i2])
    exact ⟨xs, ys, x, y, sq, sq', e1, e2⟩
  · subst e1
    subst ex
    obtain ⟨xs, sq, rl⟩ := h _ M t sm o.1
    obtain ⟨ys, sq', rl'⟩ := h' _ M t sm o.2
    obtain ⟨d1, e1, r1⟩ := rl.back (hx xs sq)
    obtain ⟨d2, e2, r2⟩ := rl'.back (hy ys sq')
    obtain ⟨p1, p2, p3⟩ := pair2_rep hT r1 r2 sm
    exact ⟨p1, p2, _, p3, zipT_at e1 e2⟩
theorem itzt_ok {K : PySem.W.Frag} {H : Hp} {a b : Addr} {ls rs : List Tr} {ok : Ms → Prop} {xs ys : List V} (q : SqT K H a xs) (q' : SqT K H b ys) (rl : RepL K H ls xs) (rl' : RepL K H rs ys) : ItOk K H (RZ.ItzT K a b) (itL (zipT ls rs) ok) := fun H1 M t sm => by
  have s1 := t.tup _ _ q
  have s2 := t.tup _ _ q'
  have r1 := rl.mono t
  have r2 := rl'.mono t
  refine ⟨fun i ⟨o, hi⟩ => ?_, fun i ⟨o, hi⟩ => ?_, fun i x H2 ⟨o, hi⟩ ⟨T, x', y', ex, hT, e1, hx, hy⟩ => ?_⟩
  · rw [zipT_len] at hi
    exact ⟨xs, ys, s1, s2, by rw [← rl.len, ← rl'.len]; omega⟩
  · rw [zipT_len] at hi
    have i1 : i < ls.length := by omega
    have i2 : i < rs.length := by omega
    obtain ⟨x, e1, _⟩ := rl.get (i := i) (d := ls[i]) (by simp [i1])
    obtain ⟨y, e2, _⟩ := rl'.get (i := i) (d := rs[i]) (by simp [i2])
    exact ⟨xs, ys, x, y, s1, s2, e1, e2⟩
  · subst e1
    subst ex
    obtain ⟨d1, e1, q1⟩ := r1.back (hx xs s1)
    obtain ⟨d2, e2, q2⟩ := r2.back (hy ys s2)
    obtain ⟨p1, p2, p3⟩ := pair2_rep hT q1 q2 sm
    exact ⟨p1, p2, _, p3, zipT_at e1 e2⟩
theorem qi_zip {elts : List Expr} {kk : Nat} {tpos : Pos} (hm : X.mg "zip" = none) (ha : QA X W [a, b] tt) (hg : Gl X "zip" := by rfl)
    (hs : starEach [a, b] X.env = (false, eval a X.env) :: starEach [b] X.env := by rfl) (hpl : (backTo pos (starEach [b] X.env)).any (·.1) = false := by rfl) :
    QI X W (.Tuple elts kk tpos) (.Call (.Name "zip" p) [a, b] [] pos) (iZp tt) := pi_weak (RZ.pi_zipA hg hm ha hs hpl) fun σ H R ⟨σ', M, R', E', hs, hm, q, hq, hx⟩ =>
  ⟨σ', M, _, E', hs, hm, q, fun es M1 xs H1 t1 r1 s1 ⟨d, e, ls, rs, ee, e1, e2, ek, q1⟩ => by
    subst ee
    obtain ⟨x, y, rfl, r2, r3⟩ := two_of r1
    obtain ⟨a1, rfl, c1⟩ := seqT_lk e1 r2 s1
    obtain ⟨a2, rfl, c2⟩ := seqT_lk e2 r3 s1
    rcases c1 with ⟨k1, xs, sq, rl⟩ | ⟨k1, ⟨xs, sq⟩, f1⟩
    · rcases c2 with ⟨k2, ys, sq', rl'⟩ | ⟨k2, _, _⟩
      · exact ⟨a1, a2, xs, ys, rfl, .inr ⟨sq, sq', hq _ M1 _ H1 t1 s1 (itzt_ok sq sq' rl rl') q1⟩⟩
      · rw [k1, k2] at ek; cases ek
    · rcases c2 with ⟨k2, _, _⟩ | ⟨k2, ⟨ys, sq'⟩, f2⟩
      · rw [k1, k2] at ek; cases ek
      · exact ⟨a1, a2, xs, ys, rfl, .inl ⟨sq, sq', hq _ M1 _ H1 t1 s1 (itz_ok f1 f2) q1⟩⟩, hx⟩
@[simp ↓] theorem iZp_ap : iZp tt σ M R E = tt σ M (fun es M1 => k2 es fun d e => kS d M1 fun ls => kS e M1 fun rs => isTup d = isTup e ∧ R (itL (zipT ls rs) fun M => seqT d M = some ls ∧ seqT e M = some rs) M1) E := by
  unfold iZp
  congr 1
  funext es M1
  apply propext
  constructor
  · rintro ⟨d, e, ls, rs, rfl, h1, h2, h3⟩
    show kS d M1 _
    rw [← kS_of]
    refine ⟨ls, h1, ?_⟩
    rw [← kS_of]
    exact ⟨rs, h2, h3⟩
  · intro h
    match es, h with
    | [d, e], h =>
      have h' : kS d M1 fun ls => kS e M1 fun rs => isTup d = isTup e ∧ R (itL (zipT ls rs) fun M => seqT d M = some ls ∧ seqT e M = some rs) M1 := h
      rw [← kS_of] at h'
      obtain ⟨ls, h1, h2⟩ := h'
      rw [← kS_of] at h2
      obtain ⟨rs, h2, h3⟩ := h2
      exact ⟨d, e, ls, rs, rfl, h1, h2, h3⟩
@[simp] theorem isTup_t {l : List Tr} : isTup (.tup l) = true := rfl
@[simp] theorem isTup_f {l : List Tr} : isTup (.fro l) = false := rfl
@[simp] theorem isTup_l {a : Addr} : isTup (.loc a) = false := rfl
/-! ### reversed -/
def iRv (ta : TA2) : TI2 := fun σ M R E => ta σ M (fun es M1 => ∃ d ls, es = [d] ∧ seqT d M1 = some ls ∧ isTup d = false ∧ R (itL ls.reverse fun M => seqT d M = some ls) M1) E
theorem itv_ok {K : PySem.W.Frag} {H : Hp} {a : Addr} {d : Tr} {ds : List Tr} (h : ∀ H1 M, Tx K H H1 → SimM K H1 M → seqT d M = some ds → ∃ xs, SqL K H1 a xs ∧ RepL K H1 ds xs) : ItOk K H (Itv K a ds.length) (itL ds.reverse fun M => seqT d M = some ds) := fun H1 M t sm => by
  refine ⟨fun i ⟨o, hi⟩ => ?_, fun i ⟨o, hi⟩ => ?_, fun i x H2 ⟨o, hi⟩ ⟨e, y⟩ => ?_⟩
  · rw [List.length_reverse] at hi; exact hi
  · rw [List.length_reverse] at hi
    obtain ⟨xs, sq, rl⟩ := h H1 M t sm o
    have i1 : ds.length - 1 - i < ds.length := by omega
    obtain ⟨x, e, _⟩ := rl.get (i := ds.length - 1 - i) (d := ds[ds.length - 1 - i]) (by simp [i1])
    exact ⟨hi, xs, x, sq, e⟩
  · subst e
    rw [List.length_reverse] at hi
    obtain ⟨xs, sq, rl⟩ := h _ M t sm o
    obtain ⟨d', e', r⟩ := rl.back (y xs sq)
    exact ⟨Tx.refl, sm, d', r, by show ds.reverse[i]? = some d'; rw [List.getElem?_reverse hi]; exact e'⟩
theorem qi_reversed (hm : X.mg "reversed" = none) (ha : QA X W [e] tt) (hg : Gl X "reversed" := by rfl) (hs : starEach [e] X.env = [(false, eval e X.env)] := by rfl) :
    QI X W tg (.Call (.Name "reversed" p) [e] [] pos) (iRv tt) := pi_weak (pi_reversed hg hm ha hs) fun σ H R ⟨σ', M, R', E', hs, hm, q, hq, hx⟩ =>
  ⟨σ', M, _, E', hs, hm, q, fun es M1 xs H1 t1 r1 s1 ⟨d, ls, ee, e1, ek, q1⟩ => by
    subst ee
    obtain ⟨x, rfl, r2⟩ := one_of r1
    obtain ⟨a1, rfl, c1⟩ := seqT_lk e1 r2 s1
    rcases c1 with ⟨k1, _⟩ | ⟨k1, ⟨xs, sq⟩, f1⟩
    · rw [k1] at ek; cases ek
    · obtain ⟨ys, sq', rl⟩ := f1 H1 M1 Tx.refl s1 e1
      exact ⟨a1, ys, rfl, sq', by rw [← rl.len]; exact hq _ M1 _ H1 t1 s1 (itv_ok f1) q1⟩, hx⟩
@[simp ↓] theorem iRv_ap : iRv tt σ M R E = tt σ M (fun es M1 => k1 es fun d => kS d M1 fun ls => isTup d = false ∧ R (itL ls.reverse fun M => seqT d M = some ls) M1) E := by
  unfold iRv
  congr 1
  funext es M1
  apply propext
  constructor
  · rintro ⟨d, ls, rfl, h1, h2⟩
    show kS d M1 _
    rw [← kS_of]
    exact ⟨ls, h1, h2⟩
  · intro h
    match es, h with
    | [d], h =>
      have h' : kS d M1 fun ls => isTup d = false ∧ R (itL ls.reverse fun M => seqT d M = some ls) M1 := h
      rw [← kS_of] at h'
      obtain ⟨ls, h1, h2⟩ := h'
      exact ⟨d, ls, rfl, h1, h2⟩
/-! ### ranges by steps -/
def rgC (i c : Int) (n : Nat) : List Tr := (List.range n).map fun k => Tr.int (i + (k : Nat) * c)
def iRg3 (ta : TA2) : TI2 := fun σ M R E => ta σ M (fun es M1 => ∃ (i j c : Int) (n : Nat), es = [.int i, .int j, .int c] ∧ RgC i j c n ∧ R (itL (rgC i c n) fun _ => True) M1) E
theorem itc_ok {K : PySem.W.Frag} {H : Hp} {i c : Int} {n : Nat} {ok : Ms → Prop} : ItOk K H (Itc i c n) (itL (rgC i c n) ok) := fun H1 M t sm => by
  refine ⟨fun k ⟨_, hi⟩ => ?_, fun k ⟨_, hi⟩ => ?_, fun k x H2 ⟨_, hi⟩ ⟨e, y⟩ => ?_⟩
  · show n ≤ k
    simpa [rgC] using hi
  · show k < n
    simpa [rgC] using hi
  · subst e
    subst y
    have hk : k < n := by simpa [rgC] using hi
    refine ⟨Tx.refl, sm, .int (i + (k : Nat) * c), rfl, ?_⟩
    show (rgC i c n)[k]? = some (.int (i + (k : Nat) * c))
    unfold rgC
    rw [List.getElem?_map, List.getElem?_range hk]; rfl
theorem three_of {K : PySem.W.Frag} {H : Hp} {d e f : Tr} {xs : List V} (r : RepL K H [d, e, f] xs) : ∃ x y z, xs = [x, y, z] ∧ Rep K H d x ∧ Rep K H e y ∧ Rep K H f z := by
  obtain ⟨x, r1, rfl, h1, y, r2, rfl, h2, z, r3, rfl, h3, rfl⟩ := r
  exact ⟨x, y, z, rfl, h1, h2, h3⟩
theorem qi_range3 (hm : X.mg "range" = none) (ha : QA X W [a, b, c] tt) (hg : Gl X "range" := by rfl) (hs : starEach [a, b, c] X.env = (false, eval a X.env) :: starEach [b, c] X.env := by rfl) (hpl : (backTo pos (starEach [b, c] X.env)).any (·.1) = false := by rfl) :
    QI X W tg (.Call (.Name "range" p) [a, b, c] [] pos) (iRg3 tt) := pi_weak (pi_range3 hg hm ha hs hpl) fun σ H R ⟨σ', M, R', E', hs, hm, q, hq, hx⟩ =>
  ⟨σ', M, _, E', hs, hm, q, fun es M1 xs H1 t1 r1 s1 ⟨i, j, c, n, ee, hc, q1⟩ => by
    subst ee
    obtain ⟨x, y, z, rfl, r2, r3, r4⟩ := three_of r1
    cases r2; cases r3; cases r4
    exact ⟨i, j, c, n, rfl, hc, hq _ M1 _ H1 t1 s1 itc_ok q1⟩, hx⟩
/-- a range down by ones -/
def RgDown (i j : Int) : Prop := -(2 ^ 62) ≤ i ∧ i < 2 ^ 62 ∧ -(2 ^ 62) ≤ j ∧ j < 2 ^ 62
def k3i (ds : List Tr) (P : Int → Int → Int → Prop) : Prop := match ds with
  | [.int i, .int j, .int c] => P i j c
  | _ => False
@[simp ↓] theorem k3i_ap {i j c : Int} {P : Int → Int → Int → Prop} : k3i [.int i, .int j, .int c] P = P i j c := rfl
@[simp ↓] theorem iRg3_ap : iRg3 tt σ M R E = tt σ M (fun es M1 => k3i es fun i j c => ∃ n, RgC i j c n ∧ R (itL (rgC i c n) fun _ => True) M1) E := by
  unfold iRg3
  congr 1
  funext es M1
  apply propext
  constructor
  · rintro ⟨i, j, c, n, rfl, h⟩; exact ⟨n, h⟩
  · intro h
    unfold k3i at h
    split at h
    · obtain ⟨n, h⟩ := h
      exact ⟨_, _, _, n, rfl, h⟩
    · exact h.elim
/-! ### more methods of lists -/
def rRev2 : RM2 := fun d ds M Q => match d, ds with
  | .loc a, [] => ∃ l, M a = some (.lst l) ∧ Q .non (up M a (.lst l.reverse))
  | _, _ => False
theorem m_reverse : MtR X "list.reverse" (lfM X.K rRev2) := by
  intro pins s σ H x xs v us Q I rx rv ⟨d, ds, M, Q', rd, rl, sm, q, hq⟩
  match d, ds, q with
  | .loc a, [], ⟨l, el, q⟩ =>
    have ex : xs = [] := rl
    subst ex
    cases rd
    obtain ⟨ys, hy, ry⟩ := sm a _ el
    exact mt_reverse pins s σ H _ _ v us Q I rx rv ⟨a, ys, rfl, rfl, hy, hq .non _ _ _ (Tx.lst hy) rfl (sm.setL hy ry.rev) q⟩
@[simp ↓] theorem rRev2_ap {a : Addr} : rRev2 (.loc a) [] M Q = kS (.loc a) M fun l => Q .non (up M a (.lst l.reverse)) := by
  have e : rRev2 (.loc a) [] M Q = ∃ l, M a = some (.lst l) ∧ Q .non (up M a (.lst l.reverse)) := rfl
  rw [e, ← kS_of]
  apply propext
  constructor
  · rintro ⟨l, h, r⟩; exact ⟨l, seqT_lst h, r⟩
  · rintro ⟨l, h, r⟩; exact ⟨l, seqT_loc h, r⟩
def rPopI : RM2 := fun d ds M Q => match d, ds with
  | .loc a, [.int i] => ∃ l k e, M a = some (.lst l) ∧ -(2 ^ 63) ≤ i ∧ i < 2 ^ 63 ∧ seqIndex? i l.length = some k ∧ l[k]? = some e ∧ Q e (up M a (.lst (l.eraseIdx k)))
  | _, _ => False
theorem m_popI : MtR X "list.pop" (lfM X.K rPopI) := by
  intro pins s σ H x xs v us Q I rx rv ⟨d, ds, M, Q', rd, rl, sm, q, hq⟩
  match d, ds, q with
  | .loc a, [.int i], ⟨l, k, e, el, h1, h2, hk, he, q⟩ =>
    obtain ⟨y, rfl, r1⟩ := one_of rl
    cases r1
    cases rd
    obtain ⟨ys, hy, ry⟩ := sm a _ el
    obtain ⟨w', e1, rw'⟩ := ry.get he
    exact mt_popAt pins s σ H _ _ v us Q I rx rv ⟨a, ys, i, k, w', rfl, rfl, hy, h1, h2, by rw [← ry.len]; exact hk, e1, hq e _ _ _ (Tx.lst hy) (rw'.mono (Tx.lst hy)) (sm.setL hy (ry.erase k)) q⟩
/-- an item popped at a place -/
def PopS (a : Addr) (i : Int) (M : Ms) (Q : Q2) (_ : Fx Q) : Prop := ∃ (l : List Tr) (k : Nat) (e : Tr), M a = some (.lst l) ∧ i = (k : Int) ∧ l.length ≤ sizeLine ∧ l[k]? = some e ∧ Q e (up M a (.lst (l.eraseIdx k)))
theorem popI_of {a : Addr} {i : Int} {fx : Fx Q} (h : PopS a i M Q fx) : rPopI (.loc a) [.int i] M Q := by
  obtain ⟨l, k, e, h1, rfl, h2, h3, h4⟩ := h
  have hk := (List.getElem?_eq_some_iff.mp h3).1
  have : sizeLine < 2 ^ 62 := by rw [sizeLine_eq]; decide
  refine ⟨l, k, e, h1, by omega, by omega, ?_, h3, h4⟩
  unfold seqIndex?
  simp
  omega
end
end T

/-! T: x in a list, a tuple of data. -/
namespace T
open PySem PySem.Spec PyProof.Rows L2
section
variable {X : Cx}
def rInX (f : Bool → Bool) : R22 := fun d e M Q => rInG f d e M Q ∨ ∃ p ds, Dat M p d ∧ SeqAt.shaped p = true ∧ ((Dat M (.list ds) e ∧ SeqAt.shaped (.list ds) = true) ∨ (Dat M (.tuple ds) e ∧ SeqAt.shaped (.tuple ds) = true)) ∧ Q (.bl (f (ds.any fun z => PyData.eqv z p))) M
theorem o_inX (hu : X.A.units + 65 < cLine) : OpR X (compareOp .In) (lfR X.K (rInX id)) := by
  intro pins s σ H x y v u Q I rx ry ⟨d, e, M, Q', rd, re, sm, q, hq⟩
  rcases q with q | ⟨p, ds, hp, sp, he, q⟩
  · exact o_in (by omega) pins s σ H x y v u Q I rx ry ⟨d, e, M, Q', rd, re, sm, q, hq⟩
  · obtain ⟨as, r1⟩ := Dp.reads I p x v (hp.dp sm rd) rx
    rcases he with ⟨he, se⟩ | ⟨he, se⟩
    · obtain ⟨bs, r2⟩ := Dp.reads I (.list ds) y u (he.dp sm re) ry
      exact SeqAt.in_list_reads r2 r1 (SeqAt.canLay_of_shaped se) (SeqAt.canLay_of_shaped sp) (room_in_shaped sp hu) ⟨.bl _, H, I, rfl, hq (.bl _) M _ H Tx.refl rfl sm q⟩
    · obtain ⟨bs, r2⟩ := Dp.reads I (.tuple ds) y u (he.dp sm re) ry
      exact SeqAt.in_tuple_reads r2 r1 (SeqAt.canLay_of_shaped se) (SeqAt.canLay_of_shaped sp) (room_in_shaped sp hu) ⟨.bl _, H, I, rfl, hq (.bl _) M _ H Tx.refl rfl sm q⟩
theorem o_notinX (hu : X.A.units + 65 < cLine) : OpR X (compareOp .NotIn) (lfR X.K (rInX not)) := by
  intro pins s σ H x y v u Q I rx ry ⟨d, e, M, Q', rd, re, sm, q, hq⟩
  rcases q with q | ⟨p, ds, hp, sp, he, q⟩
  · exact o_notin (by omega) pins s σ H x y v u Q I rx ry ⟨d, e, M, Q', rd, re, sm, q, hq⟩
  · obtain ⟨as, r1⟩ := Dp.reads I p x v (hp.dp sm rd) rx
    rcases he with ⟨he, se⟩ | ⟨he, se⟩
    · obtain ⟨bs, r2⟩ := Dp.reads I (.list ds) y u (he.dp sm re) ry
      exact SeqAt.notIn_list_reads r2 r1 (SeqAt.canLay_of_shaped se) (SeqAt.canLay_of_shaped sp) (room_in_shaped sp hu) ⟨.bl _, H, I, rfl, hq (.bl _) M _ H Tx.refl rfl sm q⟩
    · obtain ⟨bs, r2⟩ := Dp.reads I (.tuple ds) y u (he.dp sm re) ry
      exact SeqAt.notIn_tuple_reads r2 r1 (SeqAt.canLay_of_shaped se) (SeqAt.canLay_of_shaped sp) (room_in_shaped sp hu) ⟨.bl _, H, I, rfl, hq (.bl _) M _ H Tx.refl rfl sm q⟩
theorem room_hu65 {k : Nat} {A : Around} (hr : Room k A) : A.units + 65 < cLine := by have := hr.un; omega
variable {M : Ms} {Q : Q2} {f : Bool → Bool} {d e : Tr}
@[simp ↓] theorem rInX_ss {x y : Str} : rInX f (.str x) (.str y) M Q = Q (.bl (f (strIn x y))) M := by
  refine propext ⟨fun h => ?_, fun h => .inl h⟩
  rcases h with h | ⟨p, ds, _, _, h, _⟩
  · exact h
  · rcases h with ⟨h, _⟩ | ⟨h, _⟩
    · obtain ⟨_, e, _⟩ := h
      cases e
    · obtain ⟨_, e, _⟩ := h
      cases e
theorem rInX_seq {l : List Tr} (h : seqT e M = some l) (h1 : flatT d = true) (h2 : l.all flatT = true) (hq : Q (.bl (f (inT d l))) M) : rInX f d e M Q := .inl (rInG_seq h h1 h2 hq)
theorem rInX_dic {a : Addr} {kvs : List (Key × Tr)} {k : Key} (h : M a = some (.dic kvs)) (hk : keyT d = some k) (hq : Q (.bl (f (valT kvs k).isSome)) M) : rInX f d (.loc a) M Q := .inl (by
  have g : (∃ ds, seqT (.loc a) M = some ds ∧ flatT d = true ∧ ds.all flatT = true ∧ Q (.bl (f (inT d ds))) M) ∨ ∃ a' kvs k, Tr.loc a = .loc a' ∧ M a' = some (.dic kvs) ∧ keyT d = some k ∧ Q (.bl (f (valT kvs k).isSome)) M := .inr ⟨a, kvs, k, rfl, h, hk, hq⟩
  cases d with
  | _ => exact g)
/-- None is not among lists -/
theorem rInX_non {a : Addr} {l : List Tr} {ps : List PyData} (h : M a = some (.lst l)) (hd : DatL M ps l) (hs : SeqAt.shaped (.list ps) = true) (hn : ∀ p ∈ ps, PyData.eqv p .none = false) (hq : Q (.bl (f false)) M) : rInX f .non (.loc a) M Q := by
  refine .inr ⟨.none, ps, rfl, rfl, .inl ⟨⟨l, seqT_lst h, (fun _ e => nomatch e), hd⟩, hs⟩, ?_⟩
  have : (ps.any fun z => PyData.eqv z .none) = false := by
    rw [List.any_eq_false]
    intro p hp
    simp [hn p hp]
  rw [this]; exact hq
/-- data in a tuple of data -/
theorem rInX_tup {l : List Tr} (k : Bool) (hd : nbT d = true) (hl : nbL l = true) (d1 : hT d ≤ 60) (d2 : hL l ≤ 60) (hk : k = true ↔ d ∈ l) (hq : Q (.bl (f k)) M) : rInX f d (.tup l) M Q := by
  refine .inr ⟨toP d, toPs l, dat_pure (nb_pure hd).1, shaped_of hd (by rw [hT_ok]; omega), .inr ⟨⟨l, rfl, datL_pure (nbL_pure hl).1⟩, ?_⟩, ?_⟩
  · exact shaped_of (t := .tup l) hl (by rw [hT_ok]; show hL l + 1 ≤ 64; omega)
  · have key : ∀ l : List Tr, nbL l = true → (((toPs l).any fun z => PyData.eqv z (toP d)) = true ↔ d ∈ l) := by
      intro l
      induction l with
      | nil => intro _; simp [toPs]
      | cons x r ih =>
        intro h
        have h' : (nbT x && nbL r) = true := h
        rw [Bool.and_eq_true] at h'
        show ((toP x :: toPs r).any fun z => PyData.eqv z (toP d)) = true ↔ _
        rw [List.any_cons, Bool.or_eq_true, ih h'.2, eqv_iff h'.1 hd, List.mem_cons]
        constructor
        · rintro (e | e)
          · exact .inl e.symm
          · exact .inr e
        · rintro (e | e)
          · exact .inl e.symm
          · exact .inr e
    have e : ((toPs l).any fun z => PyData.eqv z (toP d)) = k := by
      rw [Bool.eq_iff_iff, key l hl, hk]
    rw [e]; exact hq
end
end T

/-! T: o[i] += e; ranges from their end. -/
namespace T
open PySem PySem.Spec PyProof.Rows L2
section
variable {X : Cx} {W : L2.WX}
/-- x[i], x a list -/
def rGet2 : R22 := fun d e M Q => match d, e with
  | .loc a, .int i => ∃ l f, M a = some (.lst l) ∧ atI l i = some f ∧ Q f M
  | _, _ => False
theorem p_get : PGet X (lfR X.K rGet2) := by
  intro pins s σ H o i ov iv Q I ro ri ⟨d, e, M, Q', rd, re, sm, h, hq⟩
  cases d with
  | loc a =>
    cases e with
    | int k =>
      cases rd; cases re
      obtain ⟨l, f, e1, e2, q⟩ := h
      cases ro
      obtain ⟨t, rfl⟩ := ri
      obtain ⟨ys, hy, ry⟩ := sm a _ e1
      obtain ⟨z, e3, rz⟩ := atI_rep ry e2
      obtain ⟨its, r, pl, hz⟩ := I.list (.inl (.inl hy))
      obtain ⟨j, h1, h2, h3, h4, h5⟩ := atI_get e3
      obtain ⟨w, ew, rw'⟩ := r.get h2
      have hl := r.length
      have hn := line63
      have fin : EP X pins σ Q w s := ⟨z, H, I, rw', hq f M z H Tx.refl rz sm q⟩
      by_cases h0 : 0 ≤ k
      · have hj : k.toNat = j := by
          rw [seqIndex_of h0 h5] at h1
          exact Option.some.inj h1
        exact wpAny_getItem_list pl.isList h0 (by omega) (by rw [hj]; simpa using ew) fin
      · have hj : (k + (its.toArray.size : Int)).toNat = j := by
          rw [seqIndex_neg (by omega) h4] at h1
          rw [List.size_toArray, ← hl]
          exact Option.some.inj h1
        exact wpAny_getItem_list_neg pl.isList (by omega) (by rw [List.size_toArray] <;> omega) (by omega) (by rw [hj]; simpa using ew) fin
    | _ => exact h.elim
  | _ => cases e <;> exact h.elim

/-- o[i] op= e, o a list -/
def sAuS (r : R22) (to ti te : TE2) : TS2 := fun D σ M => to σ M (fun o M1 => ti σ M1 (fun i M2 => rGet2 o i M2 fun x M3 => te σ M3 (fun y M4 => r x y M4 fun z M5 => rPut2 o i z M5 fun M6 => D.nx σ M6) (D.xx σ)) (D.xx σ)) (D.xx σ)
variable {o i e : Expr} {to ti te : TE2} {op : Operator} {r : R22} {tpos pos : Pos}
theorem qs_augS (hu : X.A.units + 1 < cLine) (ho : QE X W o to) (hi : QE X W i ti) (he : QE X W e te) (hp : PIp X op (lfR X.K r))
    (ha : ∀ ov iv new, augStore i ov iv new = (do holding [new, ov, iv] (setItem ov iv new); release [new, ov, iv] []; pure .next) := by intros; rfl) : QS X W (.AugAssign (.Subscript o i tpos) op e pos) (sAuS r to ti te) :=
  ps_weak (ps_augS ho hi p_get he hp (p_set hu) ha) fun D σ H ⟨σ', M, D', hs, hm, q, L⟩ =>
  ⟨σ', M, _, _, hs, hm, q, fun d M1 x H1 t1 r1 s1 q1 => ⟨σ', M1, _, _, hs.mono t1, s1, q1, fun f M2 y H2 t2 r2 s2 q2 =>
    ⟨d, f, M2, _, r1.mono t2, r2, s2, q2, fun g M3 z H3 t3 r3 s3 q3 => ⟨σ', M3, _, _, ((hs.mono t1).mono t2).mono t3, s3, q3, fun u M4 w H4 t4 r4 s4 q4 =>
      ⟨g, u, M4, _, r3.mono t4, r4, s4, q4, fun k M5 v H5 t5 r5 s5 q5 =>
        ⟨d, f, k, M5, _, (((r1.mono t2).mono t3).mono t4).mono t5, ((r2.mono t3).mono t4).mono t5, r5, s5, q5, fun M6 H6 t6 s6 q6 =>
          L.nx σ' M6 σ H6 (((((t1.trans t2).trans t3).trans t4).trans t5).trans t6) ((((((hs.mono t1).mono t2).mono t3).mono t4).mono t5).mono t6) s6 q6⟩⟩,
      ((L.mono (t1.trans (t2.trans t3))).x (((hs.mono t1).mono t2).mono t3))⟩⟩, (L.mono t1).x (hs.mono t1)⟩, L.x hs⟩
/-- the numbers below n, from the last to the first -/
def downT (n : Nat) : List Tr := (List.range n).map fun k => Tr.int ((n - 1 - k : Nat) : Int)
theorem downT_len {n : Nat} : (downT n).length = n := by simp [downT]
theorem downT_at {n k : Nat} (h : k < n) : (downT n)[k]? = some (.int ((n - 1 - k : Nat) : Int)) := by
  unfold downT
  rw [List.getElem?_map, List.getElem?_range h]; rfl
theorem down_rgC {j : Int} : rgC (0 + (((j - 0).toNat : Nat) : Int) - 1) (-1) (j - 0).toNat = downT j.toNat := by
  unfold rgC downT
  rw [Int.sub_zero]
  refine List.map_congr_left fun k hk => ?_
  have : k < j.toNat := by simpa using hk
  congr 1
  omega
def iRr (te : TE2) : TI2 := fun σ M R E => te σ M (fun d M1 => ∃ j, d = .int j ∧ Rg j ∧ R (itL (downT j.toNat) fun _ => True) M1) E
variable {tg : Expr} {p p2 pos2 : Pos}
theorem qi_revR (hm2 : X.mg "range" = none) (hm : X.mg "reversed" = none) (he : QE X W e te) (hg2 : Gl X "range" := by rfl) (hg : Gl X "reversed" := by rfl) (na : starEach [e] X.env = (false, eval e X.env) :: starEach [] X.env := by rfl)
    (hs : starEach [.Call (.Name "range" p2) [e] [] pos2] X.env = (false, eval (.Call (.Name "range" p2) [e] [] pos2) X.env) :: starEach [] X.env := by rfl) :
    QI X W tg (.Call (.Name "reversed" p) [.Call (.Name "range" p2) [e] [] pos2] [] pos) (iRr te) :=
  pi_weak (pi_revR hg hm (prg_1 hg2 hm2 he na) hs) fun σ H R ⟨σ', M, R', E', hs, hm, q, hq, hx⟩ =>
  ⟨σ', M, _, E', hs, hm, q, fun d M1 x H1 t1 r1 s1 ⟨j, ed, hj, q1⟩ => by
    subst ed
    cases r1
    exact ⟨j, rfl, by decide, by decide, hj.1, hj.2, hq (itL (rgC (0 + (((j - 0).toNat : Nat) : Int) - 1) (-1) (j - 0).toNat) fun _ => True) M1 _ H1 t1 s1 itc_ok (by rw [down_rgC]; exact q1)⟩, hx⟩
@[simp ↓] theorem iRr_ap {σ : St2} {M : Ms} {R : It2 → Ms → Prop} {E : X2} : iRr te σ M R E = te σ M (fun d M1 => kI d fun j => Rg j ∧ R (itL (downT j.toNat) fun _ => True) M1) E := by
  unfold iRr
  congr 1
  funext d M1
  apply propext
  constructor
  · rintro ⟨j, rfl, h⟩; exact h
  · intro h
    cases d with
    | int j => exact ⟨j, rfl, h⟩
    | _ => exact h.elim
@[simp ↓] theorem rGet2_ap {a : Addr} {k : Int} {M : Ms} {Q : Q2} : rGet2 (.loc a) (.int k) M Q = kS (.loc a) M fun l => kAt l k fun f => Q f M := by
  rw [← rIx2_loc]
  apply propext
  constructor
  · rintro ⟨l, f, h1, h2, h3⟩
    exact ⟨l, f, seqT_lst h1, h2, h3⟩
  · rintro ⟨l, f, h1, h2, h3⟩
    exact ⟨l, f, seqT_loc h1, h2, h3⟩
@[simp ↓] theorem sAuS_ap {D : Ends2} {σ : St2} {M : Ms} : sAuS r to ti te D σ M = to σ M (fun o M1 => ti σ M1 (fun i M2 => rGet2 o i M2 fun x M3 => te σ M3 (fun y M4 => r x y M4 fun z M5 => rPut2 o i z M5 fun M6 => D.nx σ M6) (D.xx σ)) (D.xx σ)) (D.xx σ) := rfl
/-! texts: find, index, count -/
def rFind2 : RM2 := fun d ds M Q => match d, ds with
  | .str a, [.str b] => Q (.int (Txt.find a b)) M
  | _, _ => False
def rCnt2 : RM2 := fun d ds M Q => match d, ds with
  | .str a, [.str b] => Q (.int (Txt.count a b)) M
  | _, _ => False
def rSIdx2 : RM2 := fun d ds M Q => match d, ds with
  | .str a, [.str b] => ∃ i rest, Builtin.Str.occurrences a b 0 a.length 1 = i :: rest ∧ Q (.int (i : Nat)) M
  | _, _ => False
theorem strs2 {K : PySem.W.Frag} {H : Hp} {d : Tr} {ds : List Tr} {x : V} {xs : List V} {P : Str → Str → Prop} (h : match d, ds with | .str a, [.str b] => P a b | _, _ => False) (rd : Rep K H d x) (rds : RepL K H ds xs) : ∃ a b, x = .str a ∧ xs = [.str b] ∧ P a b := by
  cases d with
  | str a =>
    match ds, h, rds with
    | [.str b], h, rds =>
      cases rd
      obtain ⟨y, rfl, r1⟩ := one_of rds
      cases r1
      exact ⟨a, b, rfl, rfl, h⟩
  | _ => exact h.elim
theorem m_find : MtR X "str.find" (lfM X.K rFind2) := by
  intro pins s σ H x xs v us Q I rx rs ⟨d, ds, M, Q', rd, rds, sm, h, hq⟩
  obtain ⟨a, b, rfl, rfl, q⟩ := strs2 (P := fun a b => Q' (.int (Txt.find a b)) M) h rd rds
  exact mt_find pins s σ H _ _ v us Q I rx rs ⟨a, b, rfl, rfl, hq (.int _) M _ H Tx.refl rfl sm q⟩
theorem m_count : MtR X "str.count" (lfM X.K rCnt2) := by
  intro pins s σ H x xs v us Q I rx rs ⟨d, ds, M, Q', rd, rds, sm, h, hq⟩
  obtain ⟨a, b, rfl, rfl, q⟩ := strs2 (P := fun a b => Q' (.int (Txt.count a b)) M) h rd rds
  exact mt_count pins s σ H _ _ v us Q I rx rs ⟨a, b, rfl, rfl, hq (.int _) M _ H Tx.refl rfl sm q⟩
theorem m_sindex : MtR X "str.index" (lfM X.K rSIdx2) := by
  intro pins s σ H x xs v us Q I rx rs ⟨d, ds, M, Q', rd, rds, sm, h, hq⟩
  obtain ⟨a, b, rfl, rfl, i, rest, e, q⟩ := strs2 (P := fun a b => ∃ i rest, Builtin.Str.occurrences a b 0 a.length 1 = i :: rest ∧ Q' (.int (i : Nat)) M) h rd rds
  exact mt_sindex pins s σ H _ _ v us Q I rx rs ⟨a, b, i, rest, rfl, rfl, e, hq (.int _) M _ H Tx.refl rfl sm q⟩
@[simp ↓] theorem rFind2_ap {a b : Str} {M : Ms} {Q : Q2} : rFind2 (.str a) [.str b] M Q = Q (.int (Txt.find a b)) M := rfl
@[simp ↓] theorem rCnt2_ap {a b : Str} {M : Ms} {Q : Q2} : rCnt2 (.str a) [.str b] M Q = Q (.int (Txt.count a b)) M := rfl
@[simp ↓] theorem rSIdx2_ap {a b : Str} {M : Ms} {Q : Q2} : rSIdx2 (.str a) [.str b] M Q = ∃ i rest, Builtin.Str.occurrences a b 0 a.length 1 = i :: rest ∧ Q (.int (i : Nat)) M := rfl
/-! less, of numbers or of texts -/
def rLtX : R22 := fun d e M Q => match d, e with
  | .int i, .int j => Q (.bl (decide (i < j))) M
  | .str a, .str b => Q (.bl (decide (a.cps.toList < b.cps.toList))) M
  | _, _ => False
theorem o_ltX : OpR X (compareOp .Lt) (lfR X.K rLtX) := by
  intro pins s σ H x y v u Q I rx ry ⟨d, e, M, Q', rd, re, sm, q, hq⟩
  cases d with
  | int i =>
    cases e with
    | int j =>
      cases rd; cases re
      exact op_lt pins s σ H _ _ v u Q I rx ry ⟨i, j, rfl, rfl, hq (.bl _) M _ H Tx.refl rfl sm q⟩
    | _ => exact q.elim
  | str i =>
    cases e with
    | str j =>
      cases rd; cases re
      exact op_lt_str pins s σ H _ _ v u Q I rx ry ⟨i, j, rfl, rfl, hq (.bl _) M _ H Tx.refl rfl sm q⟩
    | _ => exact q.elim
  | _ => cases e <;> exact q.elim
@[simp ↓] theorem rLtX_int {i j : Int} {M : Ms} {Q : Q2} : rLtX (.int i) (.int j) M Q = Q (.bl (decide (i < j))) M := rfl
@[simp ↓] theorem rLtX_str {a b : Str} {M : Ms} {Q : Q2} : rLtX (.str a) (.str b) M Q = Q (.bl (decide (a.cps.toList < b.cps.toList))) M := rfl
end
end T

/-! T: list(text). -/
namespace PySem.TStr
open PySem PySem.Spec PySem.Calls PyProof.Rows
section
variable {prog : Program} {w : World} {A : Around} {E : Value → Shared → Prop} {s : Shared}
theorem hint_str {x : Str} {t : Tok} {Q : Bool → Shared → Prop} (h : Q false s) : wpAny (model prog w) A (Builtin.List.listLengthHint (.str x t)) Q E s := by
  unfold Builtin.List.listLengthHint
  refine wpAny_bind (wpAny_specialOf (T := "str") (v := .str x t) rfl F.str_len ?_)
  wp_delta
  refine wpAny_bind (wpAny_isInstance (T := "str") (v := .str x t) (b := true) rfl (by rw [isSubtype_type]; kernel_rfl) ?_)
  show wpAny _ A (typeOf (Value.str x t) >>= _) _ _ _
  refine wpAny_bind (wpAny_typeOf (T := "str") (v := .str x t) rfl ?_)
  exact wpAny_pure h
theorem extend_str {R : Result → Shared → Prop} (hh : A.handled = none) (x : Str) (t : Tok) (S : Addr) (res : Value) (c₀ : Nat) (hS : s.heap.get? S = some { cls := .type "list", data := .seq #[] c₀ })
    (hR : ∀ h' tk acc' c', (∀ b o, b ≠ S → s.heap.get? b = some o → h'.get? b = some o) → h'.get? S = some { cls := .type "list", dict := none, data := .seq acc' c', slots := #[] } →
      ItemsOf (SignAt x) acc' x.cps.size → R (.ok (.ret res)) { s with heap := h', toks := tk }) (hn : x.cps.size ≤ sizeLine) :
    wpAny (model prog w) A.in1 (Builtin.List.listExtendWith (.ref S) (.str x t) res)
      (fun fin s' => match fin with | .done f => R (.ok f) s' | .again c' => c'.quiet = true ∧ codeAny (model prog w) A c' R s') (fun e s' => R (.error e) s') s := by
  have hSI : S ≠ s.heap.objs.size := Nat.ne_of_lt (Heap.lt_size hS)
  have hSf : S ∉ [s.heap.objs.size] := fun hm => hSI (List.mem_singleton.mp hm)
  unfold Builtin.List.listExtendWith
  refine wpAny_bind (wpAny_typeOf (T := "str") (v := .str x t) rfl ?_)
  have h1 : Builtin.List.listSameRef (.ref S) (.str x t) = false := rfl
  have h2 : (Value.type "str" == Value.type "list") = false := by decide
  have h3 : (Value.type "str" == Value.type "tuple") = false := by decide
  simp only [h1, h2, h3, Bool.or_false, Bool.false_eq_true, if_false]
  refine wpAny_bind (wpAny_pyIter_str fun o St W hst => ?_)
  refine wpAny_bind (wpAny_holding (hint_str ?_))
  rw [if_neg (by decide)]
  refine wpAny_pure ⟨plainId_quiet F.plain_extend_loop _, codeAny_extend_loopS (W A.in1 hh).toS hn _ hSf _ x.cps.size 0 _ _ _ rfl (Nat.zero_le _) hst (Heap.get?_push_of_some _ hS) (ItemsOf.nil _) fun s' acc' c' hm hS' hacc => ?_⟩
  rw [Moved.eq_with hm]
  refine hR s'.heap s'.toks acc' c' (fun b ob hb e => hm.heap b ob (fun hmem => ?_) (Heap.get?_push_of_some _ e)) hS' hacc
  rcases List.mem_cons.mp hmem with e' | hmem
  · exact hb e'
  · exact absurd (Heap.lt_size e) (by rw [List.mem_singleton.mp hmem]; exact Nat.lt_irrefl _)
theorem list_init_str {R : Result → Shared → Prop} (hh : A.handled = none) (x : Str) (t : Tok) (S : Addr) (hS : s.heap.get? S = some { cls := .type "list", data := .seq #[] })
    (hR : ∀ h' tk acc' c', (∀ b o, b ≠ S → s.heap.get? b = some o → h'.get? b = some o) → h'.get? S = some { cls := .type "list", dict := none, data := .seq acc' c', slots := #[] } →
      ItemsOf (SignAt x) acc' x.cps.size → R (.ok (.ret .none)) { s with heap := h', toks := tk }) (hn : x.cps.size ≤ sizeLine) :
    wpAny (model prog w) A.in1 (Builtin.«list.__init__» ⟨[.ref S, .str x t], []⟩)
      (fun fin s' => match fin with | .done f => R (.ok f) s' | .again c' => c'.quiet = true ∧ codeAny (model prog w) A c' R s') (fun e s' => R (.error e) s') s := by
  show wpAny _ _ (do let old ← Builtin.List.listItems (.ref S); Builtin.List.listUpdate (.ref S) (fun _ => #[]); letGo old.toList.reverse; Builtin.List.listExtendWith (.ref S) (.str x t) .none) _ _ s
  refine wpAny_bind ?_
  unfold Builtin.List.listItems
  refine wpAny_bind (wpAny_seqItems hS rfl (wpAny_pure ?_))
  show wpAny _ _ (updateSeq S (fun _ => #[]) >>= fun _ => letGo (#[] : Array Value).toList.reverse >>= fun _ => Builtin.List.listExtendWith (.ref S) (.str x t) .none) _ _ s
  refine wpAny_bind (wpAny_updateSeq hS rfl ?_)
  have hS₂ := Heap.get?_update_self (Obj.mapSeq (fun _ => (#[] : Array Value))) hS rfl
  have oth : ∀ b o, b ≠ S → s.heap.get? b = some o → (s.heap.update S (Obj.mapSeq (fun _ => (#[] : Array Value)))).get? b = some o :=
    fun b o hb e => (Heap.get?_update_other _ _ (Ne.symm hb)).trans e
  refine wpAny_bind (wpAny_letGo ?_)
  refine extend_str hh x t S .none _ hS₂ (fun h' tk acc' c' hk hS' hacc => ?_) hn
  exact hR h' tk acc' c' (fun b o hb e => hk b o hb (oth b o hb e)) hS' hacc
theorem call_list_str {x : Str} {t : Tok} {Q : Value → Shared → Prop} (hh : A.handled = none) (hn : x.cps.size ≤ sizeLine)
    (hQ : ∀ h' tk acc' c', (∀ b o, s.heap.get? b = some o → h'.get? b = some o) →
      h'.get? s.heap.objs.size = some { cls := .type "list", dict := none, data := .seq acc' c', slots := #[] } → ItemsOf (SignAt x) acc' x.cps.size → Q (.ref s.heap.objs.size) { s with heap := h', toks := tk }) :
    wpAny (model prog w) A (call (.type "list") [.str x t]) Q E s := by
  refine callType_codes (Q₁ := fun obj s₁ => obj = .ref s.heap.objs.size ∧ s₁ = { s with heap := s.heap.push { cls := .type "list", data := .seq #[] } }) PySem.F.called_list (PySem.F.typeCall_list_1 _) PySem.F.entry_list_init
    (code_list_new _ ⟨rfl, rfl⟩) fun obj s₁ h₁ => ?_
  obtain ⟨rfl, rfl⟩ := h₁
  have hS : (s.heap.push { cls := .type "list", data := .seq #[] }).get? s.heap.objs.size = some { cls := .type "list", data := .seq #[] } := Heap.get?_push_size _ rfl
  refine ⟨⟨_, hS, rfl⟩, PySem.F.args_list_init_2 _ _, list_init_str (A := A.in1) hh x t _ hS (fun h' tk acc' c' hk hS' hacc => ?_) hn⟩
  exact ⟨rfl, hQ h' tk acc' c' (fun b o e => hk b o (Nat.ne_of_lt (Heap.lt_size e)) (Heap.get?_push_of_some _ e)) hS' hacc⟩
end
end PySem.TStr
namespace T
open PySem PySem.Spec PyProof.Rows L2
section
variable {X : Cx}
def chrsT (z : Str) : List Tr := z.cps.toList.map fun c => Tr.str ⟨#[c]⟩
/-- list(x), x a list, a tuple or a text -/
def rList3 : RC2 := c1 fun d M Q => match d with
  | .str z => z.length ≤ sizeLine ∧ ∀ p, M p = none → Q (.loc p) (up M p (.lst (chrsT z)))
  | d => ∃ ds, seqT d M = some ds ∧ ∀ p, M p = none → Q (.loc p) (up M p (.lst ds))
theorem chrs_rep {K : PySem.W.Frag} {H : Hp} : ∀ l : List Nat, RepL K H (l.map fun c => Tr.str ⟨#[c]⟩) (l.map fun c => V.str ⟨#[c]⟩)
  | [] => rfl
  | _ :: r => ⟨_, _, rfl, rfl, chrs_rep r⟩
theorem b_list3 (hc : X.calm = true) : CallR X (.type "list") (lfC X.K rList3) := c1_of fun pins s σ H x u Q d M Q' I rx rd sm q hq => by
  cases d with
  | str z =>
    obtain ⟨hz, q⟩ := q
    cases rd
    obtain ⟨t, rfl⟩ := rx
    have fr : H s.heap.objs.size = none := I.hok.fresh (Nat.le_refl _)
    refine PySem.TStr.call_list_str (I.ok.hd hc) hz fun h' tk acc c' hk e hi => ?_
    have hl : (z.cps.toList.map fun c => V.str ⟨#[c]⟩).length = z.cps.size := by simp
    refine ⟨.ref s.heap.objs.size, upd H s.heap.objs.size (.lst (z.cps.toList.map fun c => V.str ⟨#[c]⟩)), I.laid hk (Nat.le_refl _) ⟨by rw [hl]; exact hz, acc.toList, c', ?_, by rw [Array.toArray_toList]; exact e⟩, rfl, new_lst hq (chrs_rep _) sm fr (q)⟩
    refine vals_of_idx _ _ (by rw [hl, Array.length_toList]; exact hi.1) fun j u hj => ?_
    obtain ⟨c, t', hc, rfl⟩ := hi.2 j u (by rw [← Array.getElem?_toList]; exact hj)
    refine ⟨.str ⟨#[c]⟩, ?_, ⟨_, rfl⟩⟩
    rw [List.getElem?_map, Array.getElem?_toList, hc]; rfl
  | _ =>
    obtain ⟨ds, e, q⟩ := q
    obtain ⟨a, xs, rfl, sq, rl⟩ := seqT_ok e rd sm
    exact call_list_of pins s σ H [.ref a] [u] Q I (.cons rx .nil) ⟨a, xs, rfl, sq, fun l hl => new_lst hq rl sm hl q⟩
@[simp ↓] theorem rList3_str {z : Str} {M : Ms} {Q : Q2} : rList3 [.str z] M Q = (z.length ≤ sizeLine ∧ NewL M (chrsT z) Q .mk) := rfl
/-! a tuple's repetition, up to a million -/
def rRepW (K : PySem.W.Frag) : R2 := fun x y H Q => ∃ l k xs, x = .ref l ∧ y = .int k ∧ SqT K H l xs ∧ 0 < xs.length ∧ xs.length ≤ 8 ∧ 2 ≤ k ∧ k ≤ 1000000 ∧ ∀ p, H p = none → Q (.ref p) (upd H p (.tup (List.replicate k.toNat xs).flatten))
theorem op_repW : OpR X (binaryOp .Mult) (rRepW X.K) := by
  rintro pins s σ H x y v u Q I rx ry ⟨l, k, xs, rfl, rfl, hT, hx0, hx8, hk2, hkm, q⟩
  cases rx
  obtain ⟨t, rfl⟩ := ry
  obtain ⟨its, r, ⟨⟨cls, dd, data, sl⟩, ho, hc, n, hd⟩, hs⟩ := I.tuple hT
  dsimp only at hc hd
  subst hc hd
  have hl : its.length = xs.length := r.length.symm
  obtain ⟨v0, its', rfl⟩ : ∃ v0 its', its = v0 :: its' := by
    cases its with
    | nil => simp at hl; omega
    | cons a b => exact ⟨a, b, rfl⟩
  have hsz : (v0 :: its').toArray.size = xs.length := by rw [List.size_toArray, hl]
  have hbig : (List.replicate k.toNat (v0 :: its')).flatten.length ≤ sizeLine := by
    rw [PyProof.Rows.lm_len_rep_flat, hl, sizeLine_eq]
    have : k.toNat * xs.length ≤ 1000000 * 8 := Nat.mul_le_mul (by omega) hx8
    omega
  have hprod : ((xs.length : Nat) : Int) * k ≤ 8000000 := by
    have : ((xs.length : Nat) : Int) * k ≤ 8 * k := Int.mul_le_mul_of_nonneg_right (by omega) (by omega)
    omega
  have M := tuple_mulW l (v0 :: its').toArray n dd sl k t (by simp; omega) (by simp; omega) (by simp; omega) (by rw [hsz]; omega) (by unfold Builtin.Tuple.tupleTooMany; rw [hsz, sizeLine_eq]; exact decide_eq_false (by omega)) (by rw [size_rep, List.size_toArray]; exact hbig)
  refine wpAny_binaryOp_repeat_ref (T := "tuple") (U := "int") (by decide) ⟨_, ho, rfl⟩ (fun s' => typeIs_int s' k t) noFill_tuple_mul PySem.F.fills_int_mul PySem.F.slot_int_rmul repeat_tuple PySem.F.slot_int_index.lookup ?_
  refine call_meets PySem.F.slot_int_rmul (typeIs_int s k t) PySem.F.entry_int_rmul (PySem.F.args_int_rmul_2 _ _) (int_rmul_tuple k t l _ n dd sl) ⟨ho, rfl, ⟨_, ho, rfl⟩, ?_⟩
  refine call_meets PySem.F.slot_tuple_mul ⟨_, ho, rfl⟩ PySem.F.entry_tuple_mul (PySem.F.args_tuple_mul_2 _ _) M ⟨ho, ?_⟩
  rw [size_rep]
  refine ⟨.ref s.heap.objs.size, _, I.laid (t' := s.toks) (o := .tup (List.replicate k.toNat xs).flatten) (fun b ob q => Heap.get?_push_of_some _ q) (Nat.le_refl _) ⟨?_, _, r.rep k.toNat, IsTup.new _ _⟩, rfl, q _ (I.hok.fresh (Nat.le_refl _))⟩
  have e1 := PyProof.Rows.lm_len_rep_flat (v0 :: its') k.toNat
  have e2 := PyProof.Rows.lm_len_rep_flat xs k.toNat
  rw [e2, ← hl, ← e1]; exact hbig
def rMulT : R22 := fun d e M Q => match d, e with
  | .tup la, .int k => 0 < la.length ∧ la.length ≤ 8 ∧ 2 ≤ k ∧ k ≤ 1000000 ∧ Q (.tup (List.replicate k.toNat la).flatten) M
  | _, _ => False
theorem o_mulT : OpR X (binaryOp .Mult) (lfR X.K rMulT) := by
  rintro pins s σ H x y v u Q I rx ry ⟨d, e, M, Q', rd, re, sm, q, hq⟩
  cases d with
  | tup la =>
    cases e with
    | int k =>
      obtain ⟨a, xs, rfl, sq, rl⟩ := rd
      cases re
      obtain ⟨h1, h2, h3, h4, q⟩ := q
      exact op_repW pins s σ H _ _ v u Q I rx ry ⟨a, k, xs, rfl, rfl, sq, by rw [← rl.len]; exact h1, by rw [← rl.len]; exact h2, h3, h4, fun p hp => new_tup hq (rl.rep _) sm hp q⟩
    | _ => exact q.elim
  | _ => cases e <;> exact q.elim
@[simp ↓] theorem rMulT_ap {la : List Tr} {k : Int} {M : Ms} {Q : Q2} : rMulT (.tup la) (.int k) M Q = (0 < la.length ∧ la.length ≤ 8 ∧ 2 ≤ k ∧ k ≤ 1000000 ∧ Q (.tup (List.replicate k.toNat la).flatten) M) := rfl
end
end T

/-! S: what the shared defs do. -/
namespace T
open PySem PySem.Spec PyProof.Rows L2
theorem tyT_mem {d : Tr} {M : Ms} {t : String} (h : tyT d M = some t) : t = "NoneType" ∨ t = "bool" ∨ t = "int" ∨ t = "str" ∨ t = "tuple" ∨ t = "list" ∨ t = "dict" := by
  cases d with
  | loc a =>
    simp only [tyT] at h
    split at h
    · cases h; simp
    · cases h; simp
    · cases h
  | ty n => cases h
  | _ => cases h; simp
theorem tyT_int {d : Tr} {M : Ms} (h : tyT d M = some "int") : ∃ i, d = .int i := by
  cases d with
  | loc a =>
    simp only [tyT] at h
    split at h <;> simp at h
  | int i => exact ⟨i, rfl⟩
  | _ => simp [tyT] at h
theorem tyT_str {d : Tr} {M : Ms} (h : tyT d M = some "str") : ∃ i, d = .str i := by
  cases d with
  | loc a =>
    simp only [tyT] at h
    split at h <;> simp at h
  | str i => exact ⟨i, rfl⟩
  | _ => simp [tyT] at h
/-! ### is_integer, is_below, is_mark -/
def sp_is_integer : Sp2 := A1 fun a M Q _ => ∃ t, tyT a M = some t ∧ Q (.bl (decide (t = "int"))) M
def n_is_integer : List Str := "thing" :: []
def b_is_integer : TS2 := (sRt (eAn (eB rIsi2 (aCons (eVar 0) (aCons (eC (.ty "int")) aNil))) (eNo (eB rIsi2 (aCons (eVar 0) (aCons (eC (.ty "bool")) aNil))))))
theorem sem_is_integer : ∀ ds M Q E, sp_is_integer ds M Q E → b_is_integer (fEnds Q E) (start2 n_is_integer ds) M := by
  rintro ds M Q E ⟨a, rfl, t, ht, hq⟩
  have hk : ∃ b, kitB t "int" = some b ∧ (b = true → ∃ b2, kitB t "bool" = some b2 ∧ (!b2) = decide (t = "int")) ∧ (b = false → decide (t = "int") = false) := by
    rcases tyT_mem ht with h | h | h | h | h | h | h <;> subst h
    · exact ⟨false, rfl, by simp, by decide⟩
    · exact ⟨true, rfl, fun _ => ⟨true, rfl, by decide⟩, by simp⟩
    · exact ⟨true, rfl, fun _ => ⟨false, rfl, by decide⟩, by simp⟩
    · exact ⟨false, rfl, by simp, by decide⟩
    · exact ⟨false, rfl, by simp, by decide⟩
    · exact ⟨false, rfl, by simp, by decide⟩
    · exact ⟨false, rfl, by simp, by decide⟩
  obtain ⟨b, hb, h1, h2⟩ := hk
  simp only [b_is_integer, start2, n_is_integer]
  cases b with
  | true =>
    obtain ⟨b2, hb2, e⟩ := h1 rfl
    simp [↓kY_of ht hb, ↓kY_of ht hb2, e]
    exact Fg.same hq
  | false =>
    have e := h2 rfl
    rw [e] at hq
    simp [↓kY_of ht hb]
    exact Fg.same hq
def blw (a : Tr) (j : Int) : Bool := match a with
  | .int i => decide (0 ≤ i ∧ i < j)
  | _ => false
@[simp] theorem blw_int {i j : Int} : blw (.int i) j = decide (0 ≤ i ∧ i < j) := rfl
theorem blw_no {a : Tr} {j : Int} {M : Ms} {t : String} (h : tyT a M = some t) (n : t ≠ "int") : blw a j = false := by
  cases a <;> first | rfl | (exfalso; apply n; cases h; rfl)
def sp_is_below : Sp2 := A2 fun a b M Q _ => ∃ t j, tyT a M = some t ∧ b = .int j ∧ Q (.bl (blw a j)) M
def n_is_below : List Str := "thing" :: "bound" :: []
def b_is_below : TS2 := (sRt (eAn (eCall sp_is_integer [] (aCons (eVar 0) aNil)) (eChain rLeI rLtI (eC (.int 0)) (eVar 0) (eVar 1))))
theorem sem_is_below : ∀ ds M Q E, sp_is_below ds M Q E → b_is_below (fEnds Q E) (start2 n_is_below ds) M := by
  rintro ds M Q E ⟨a, b, rfl, t, j, ht, rfl, hq⟩
  simp only [b_is_below, start2, n_is_below]
  simp
  refine ⟨_, rfl, t, ht, ?_⟩
  by_cases c : t = "int"
  · subst c
    obtain ⟨i, rfl⟩ := tyT_int ht
    simp
    by_cases h0 : 0 ≤ i
    · simp [h0] at hq ⊢
      exact Fg.same hq
    · simp [h0] at hq ⊢
      exact Fg.same hq
  · rw [blw_no ht c] at hq
    simp [c]
    exact Fg.same hq
/-- a mark -/
def isMk (a : Tr) : Bool := match a with
  | .str z => decide (z.length = 1) && strIn z "abcdefgh"
  | _ => false
def sp_is_mark : Sp2 := A1 fun a M Q _ => ∃ t, tyT a M = some t ∧ (∀ z, a = .str z → z.length ≤ sizeLine) ∧ Q (.bl (isMk a)) M
def n_is_mark : List Str := "thing" :: []
def b_is_mark : TS2 := (sRt (eAn (eB rIsi2 (aCons (eVar 0) (aCons (eC (.ty "str")) aNil))) (eAn (eOp (rEqG id) (eB rLen2 (aCons (eVar 0) aNil)) (eC (.int 1))) (eOp (rInX id) (eVar 0) (eC (.str "abcdefgh"))))))
theorem sem_is_mark : ∀ ds M Q E, sp_is_mark ds M Q E → b_is_mark (fEnds Q E) (start2 n_is_mark ds) M := by
  rintro ds M Q E ⟨a, rfl, t, ht, hz, hq⟩
  simp only [b_is_mark, start2, n_is_mark]
  by_cases c : t = "str"
  · subst c
    obtain ⟨z, rfl⟩ := tyT_str ht
    have kb : kitB "str" "str" = some true := rfl
    simp [↓kY_of ht kb, ↓kL_str (hz z rfl)]
    by_cases h1 : z.length = 1
    · simp [isMk, h1] at hq
      simp [h1]
      exact Fg.same hq
    · simp [isMk, h1] at hq
      have h2 : ¬ ((z.length : Int) = 1) := by omega
      simp [h2]
      exact Fg.same hq
  · have e : isMk a = false := by
      cases a <;> first | rfl | (exfalso; apply c; cases ht; rfl)
    have kb : kitB t "str" = some false := by
      rcases tyT_mem ht with h | h | h | h | h | h | h <;> subst h <;> first | rfl | exact absurd rfl c
    rw [e] at hq
    simp [↓kY_of ht kb]
    exact Fg.same hq
/-! ### documents -/
abbrev Doc := List (Str × Nat)
def entT (e : Str × Nat) : Tr := .tup [.str e.1, .int e.2]
def docT (d : Doc) : Tr := .tup (d.map entT)
def Vd : Nat → Doc → Prop
  | _, [] => True
  | m, e :: r => isMk (.str e.1) = true ∧ e.2 ≤ m ∧ Vd (e.2 + 1) r
def Val (d : Doc) : Prop := Vd 0 d ∧ d.length ≤ 20000
theorem isMk_len {z : Str} (h : isMk (.str z) = true) : z.length ≤ sizeLine := by
  simp only [isMk, Bool.and_eq_true, decide_eq_true_eq] at h
  rw [sizeLine_eq]; omega
theorem small_line {n : Nat} (h : n ≤ 100000) : n ≤ sizeLine := by rw [sizeLine_eq]; omega
theorem small_lt {n : Nat} (h : n ≤ 100000) : n < sizeLine := by rw [sizeLine_eq]; omega
def sp_is_forest : Sp2 := A1 fun a M Q _ => ∃ d, a = docT d ∧ Val d ∧ Q (.bl true) M
def n_is_forest : List Str := "thing" :: "most" :: "entry" :: []
def b_is_forest : TS2 := (sSq (sIf (tOrr (tNo (tTr (eB rIsi2 (aCons (eVar 0) (aCons (eC (.ty "tuple")) aNil))))) (tCm (eOp rGtI (eB rLen2 (aCons (eVar 0) aNil)) (eC (.int 20000))))) (sRt (eC (.bl false))) sNx)
  (sSq (sAs (eC (.int 0)) (gN 1))
  (sSq (sFo (iSq (eVar 0)) (gN 2) (sSq (sIf (tOrr (tNo (tTr (eB rIsi2 (aCons (eVar 2) (aCons (eC (.ty "tuple")) aNil))))) (tCm (eOp (rEqG not) (eB rLen2 (aCons (eVar 2) aNil)) (eC (.int 2))))) (sRt (eC (.bl false))) sNx)
  (sSq (sIf (tOrr (tNo (tTr (eCall sp_is_mark [] (aCons (eOp rIx2 (eVar 2) (eC (.int 0))) aNil)))) (tNo (tTr (eCall sp_is_below [] (aCons (eOp rIx2 (eVar 2) (eC (.int 1))) (aCons (eOp rAdd2 (eVar 1) (eC (.int 1))) aNil)))))) (sRt (eC (.bl false))) sNx)
  (sAs (eOp rAdd2 (eOp rIx2 (eVar 2) (eC (.int 1))) (eC (.int 1))) (gN 1)))))
  (sRt (eC (.bl true))))))
theorem kY_tup {l : List Tr} {M : Ms} {P : Bool → Prop} : kY (.tup l) M "tuple" P = P true := kY_of rfl rfl
theorem sem_is_forest : ∀ ds M Q E, sp_is_forest ds M Q E → b_is_forest (fEnds Q E) (start2 n_is_forest ds) M := by
  rintro ds M Q E ⟨a, rfl, d, rfl, ⟨hv, hl⟩, hq⟩
  have hn : ¬ ((20000 : Int) < d.length) := by omega
  simp only [b_is_forest, start2, n_is_forest]
  simp [docT, ↓kY_tup, hn]
  refine for_itL (fun i σ M' => M' = M ∧ ∃ (m : Nat) (x : Option Tr), σ = [some (docT d), some (.int m), x] ∧ Vd m (d.drop i)) ⟨rfl, 0, none, rfl, hv⟩ ?_ ?_ ?_
  · rintro i σ M' _ ⟨rfl, _⟩
    rfl
  · rintro i e σ M' he ⟨rfl, m, x, rfl, hd⟩
    rw [List.getElem?_map] at he
    cases hc : d[i]? with
    | none => rw [hc] at he; cases he
    | some en =>
      rw [hc] at he
      cases he
      have hi := (List.getElem?_eq_some_iff.mp hc)
      obtain ⟨hi, he⟩ := hi
      rw [List.drop_eq_getElem_cons hi, he] at hd
      obtain ⟨h1, h2, h3⟩ := hd
      have hb : blw (.int en.2) ((m : Int) + 1) = true := by
        simp; omega
      simp [entT, ↓kY_tup]
      refine ⟨_, rfl, "str", rfl, fun z e => by cases e; exact isMk_len h1, ?_⟩
      simp [h1]
      refine ⟨_, _, rfl, "int", _, rfl, rfl, ?_⟩
      rw [hb]
      simp
      exact ⟨en.2 + 1, by simp, h3⟩
  · rintro σ M' ⟨rfl, m, x, rfl, _⟩
    simp
    exact Fg.same hq
def sp_need_document : Sp2 := A1 fun a M Q _ => ∃ d, a = docT d ∧ Val d ∧ Q .non M
def n_need_document : List Str := "document" :: []
def b_need_document : TS2 := (sIf (tNo (tTr (eCall sp_is_forest [] (aCons (eVar 0) aNil)))) sNv sNx)
theorem sem_need_document : ∀ ds M Q E, sp_need_document ds M Q E → b_need_document (fEnds Q E) (start2 n_need_document ds) M := by
  rintro ds M Q E ⟨a, rfl, d, rfl, hv, hq⟩
  simp only [b_need_document, start2, n_need_document]
  simp
  refine ⟨_, rfl, d, rfl, hv, ?_⟩
  simp
  exact Fg.same hq
/-! ### the size of ints -/
def Bd (n : Nat) (z : Int) : Prop := z.natAbs < 2 ^ n
theorem bits_le {n : Nat} {z : Int} (h : Bd n z) : Builtin.Int.intBits z ≤ n := by
  unfold Builtin.Int.intBits
  by_cases c : z = 0
  · subst c; simp
  · have h0 : z.natAbs ≠ 0 := by omega
    have := (Nat.log2_lt h0).mpr h
    simp [c]; omega
theorem Bd.of_bits {n : Nat} {z : Int} (h : Builtin.Int.intBits z ≤ n) : Bd n z := by
  unfold Builtin.Int.intBits at h
  by_cases c : z = 0
  · subst c; unfold Bd; simp; exact Nat.pow_pos (by decide)
  · have h0 : z.natAbs ≠ 0 := by omega
    simp [c] at h
    exact (Nat.log2_lt h0).mp (by omega)
theorem Bd.mono {n m : Nat} {z : Int} (h : Bd n z) (l : n ≤ m) : Bd m z := Nat.lt_of_lt_of_le h (Nat.pow_le_pow_right (by decide) l)
theorem Bd.add {n : Nat} {y z : Int} (h : Bd n y) (h' : Bd n z) : Bd (n + 1) (y + z) := by
  unfold Bd at *
  rw [Nat.pow_succ]
  have := Int.natAbs_add_le y z
  omega
theorem Bd.mul {n m : Nat} {y z : Int} (h : Bd n y) (h' : Bd m z) : Bd (n + m) (y * z) := by
  unfold Bd at *
  rw [Int.natAbs_mul, Nat.pow_add]
  exact Nat.mul_lt_mul'' h h'
theorem Bd.le {n : Nat} {y z : Int} (h : Bd n z) (h0 : 0 ≤ y) (l : y ≤ z) : Bd n y := by
  unfold Bd at *
  omega
theorem Bd.lt64 {y : Int} (h0 : 0 ≤ y) (l : y < 18446744073709551616) : Bd 64 y := by
  unfold Bd
  have : (2 : Nat) ^ 64 = 18446744073709551616 := by decide
  omega
theorem CMulX.of {n m : Nat} {y z : Int} (h : Bd n y) (h' : Bd m z) (l : n + m ≤ 134217728) : CMulX y z := by
  have a := bits_le h
  have b := bits_le h'
  unfold CMulX
  omega
/-! ### what a feed is -/
/-- the feed's list: n draws at most, since it was made -/
def FeedO (n : Nat) (o : MO) : Prop := ∃ a b c : Int, o = .lst [.int a, .int b, .int c] ∧ 0 ≤ a ∧ Bd 2000000 a ∧ 0 ≤ b ∧ b < 1000000000000000000000000000000000000023 ∧ 0 ≤ c ∧ c ≤ n
theorem FeedO.mono {n m : Nat} {o : MO} (h : FeedO n o) (l : n ≤ m) : FeedO m o := by
  obtain ⟨a, b, c, h1, h2, h3, h4, h5, h6, h7⟩ := h
  exact ⟨a, b, c, h1, h2, h3, h4, h5, h6, by omega⟩
def Script (ns : List Int) : Prop := ns.length ≤ 63 ∧ ∀ z ∈ ns, Builtin.Int.intBits z ≤ 1048576
abbrev scT (ns : List Int) : Tr := .fro (ns.map Tr.int)
end T

/-! S: draws. -/
namespace T
open PySem PySem.Spec PyProof.Rows L2
@[simp] theorem cpow18 : CPow 10 18 := by unfold CPow; decide
@[simp] theorem cpow39 : CPow 10 39 := by unfold CPow; decide
@[simp] theorem cpow43 : CPow 10 43 := by unfold CPow; decide
@[simp] theorem cpow38 : CPow 10 38 := by unfold CPow; decide
@[simp] theorem cpow9 : CPow 10 9 := by unfold CPow; decide
@[simp] theorem sl2' : 2 ≤ sizeLine := small_line (by decide)
@[simp] theorem sl3' : 3 ≤ sizeLine := small_line (by decide)
@[simp] theorem sl4' : 4 ≤ sizeLine := small_line (by decide)
@[simp] theorem sl5' : 5 ≤ sizeLine := small_line (by decide)
@[simp] theorem sl6' : 6 ≤ sizeLine := small_line (by decide)
@[simp] theorem sl7' : 7 ≤ sizeLine := small_line (by decide)
theorem feed_fin {cell : Int} {k : Nat} (h : Bd 1048577 cell) : FeedO 0 (.lst [.int (if 1000000000000000000 < cell then cell - 1000000000000000000 else 0), .int ((cell * 19 + 7 * (k : Int)) % 1000000000000000000000000000000000000023), .int 0]) := by
  refine ⟨_, _, _, rfl, ?_, ?_, Int.emod_nonneg _ (by decide), Int.emod_lt_of_pos _ (by decide), Int.le_refl 0, Int.le_refl _⟩
  · split <;> omega
  · split
    · exact (Bd.le (h.mono (by decide : 1048577 ≤ 2000000)) (by omega) (by omega))
    · exact (Bd.lt64 (by decide) (by decide)).mono (by decide)
theorem bd_take {ns : List Int} (hs : ∀ z ∈ ns, Builtin.Int.intBits z ≤ 1048576) : Bd 1048576 (ns.take 1).sum := by
  cases ns with
  | nil => exact (Bd.lt64 (y := 0) (by decide) (by decide)).mono (by decide)
  | cons n r =>
    have : ((n :: r).take 1).sum = n := by simp
    rw [this]
    exact .of_bits (hs n List.mem_cons_self)
def sp__law_feed : Sp2 := A2 fun a b M Q _ => ∃ (ns : List Int) (k : Nat), a = scT ns ∧ b = .int k ∧ Script ns ∧ k ≤ 1000000 ∧ ∀ p o, M p = none → FeedO 0 o → Q (.loc p) (up M p o)
def n__law_feed : List Str := "script" :: "k" :: "cell" :: []
def b__law_feed : TS2 := (sSq (sAs (eOp rAdd2 (eOp rMul2 (eC (.int 977)) (eVar 1)) (eB rSum2 (aCons (eSl rSl2 (eVar 0) oNo (oPart (eC (.int 1)))) aNil))) (gN 2))
  (sSq (sIf (tCm (eOp rLtI (eVar 1) (eB rLen2 (aCons (eVar 0) aNil)))) (sAs (eOp rIx2 (eVar 0) (eVar 1)) (gN 2)) sNx)
  (sRt (eLst (aCons (eB rMax2 (aCons (eC (.int 0)) (aCons (eOp rSub2 (eVar 2) (eOp rPow2 (eC (.int 10)) (eC (.int 18)))) aNil))) (aCons (eOp rMod2 (eB rInt2 (aCons (eOp rAdd2 (eOp rMul2 (eVar 2) (eC (.int 19))) (eOp rMul2 (eC (.int 7)) (eVar 1))) aNil)) (eOp rAdd2 (eOp rPow2 (eC (.int 10)) (eC (.int 39))) (eC (.int 23)))) (aCons (eC (.int 0)) aNil)))))))
theorem sem__law_feed : ∀ ds M Q E, sp__law_feed ds M Q E → b__law_feed (fEnds Q E) (start2 n__law_feed ds) M := by
  rintro ds M Q E ⟨a, b, rfl, ns, k, rfl, rfl, ⟨hl, hs⟩, h1, hq⟩
  have hk : Bd 64 (k : Int) := Bd.lt64 (by omega) (by omega)
  have l977 : Bd 64 977 := Bd.lt64 (y := 977) (by decide) (by decide)
  have l7 : Bd 64 7 := Bd.lt64 (y := 7) (by decide) (by decide)
  have l19 : Bd 64 19 := Bd.lt64 (y := 19) (by decide) (by decide)
  have c1 : CMulX 977 (k : Int) := CMulX.of l977 hk (by decide)
  have c7 : CMulX 7 (k : Int) := CMulX.of l7 hk (by decide)
  have fin : ∀ (M' : Ms) (cell : Int), Le M M' → Bd 1048577 cell → ∀ p, M' p = none → Fg Q (Tr.loc p) (up M' p (.lst [.int (if 1000000000000000000 < cell then cell - 1000000000000000000 else 0), .int ((cell * 19 + 7 * (k : Int)) % 1000000000000000000000000000000000000023), .int 0])) :=
    fun M' cell l b p hp => Fg.le l.up (hq p _ (l.none hp) (feed_fin b))
  simp only [b__law_feed, start2, n__law_feed]
  simp [c1]
  intro p hp
  have hc : cutT (ns.map Tr.int) none (some 1) = (ns.take 1).map Tr.int := by
    rw [show (some (1 : Int)) = some ((1 : Nat) : Int) from rfl, cutT_hi, List.map_take]
  rw [hc]
  have hb0 := bd_take hs
  have hs2 : Bd 1048577 (977 * (k : Int) + (ns.take 1).sum) := ((l977.mul hk).mono (by decide)).add hb0
  have cx0 : CMulX (977 * (k : Int) + (ns.take 1).sum) 19 := CMulX.of hs2 l19 (by decide)
  refine ⟨ns.take 1, seqT_lst up_same, (fun _ e => nomatch e), ?_⟩
  simp
  split
  · rename_i hk2
    have hk3 : k < ns.length := by omega
    have hb : Bd 1048576 ns[k] := .of_bits (hs _ (List.getElem_mem hk3))
    have cx : CMulX ns[k] 19 := CMulX.of hb l19 (by decide)
    have ea : (ns.map Tr.int)[k]? = some (.int ns[k]) := by simp [hk3]
    simp [↓kAt_get ea, cx, c7]
    intro p2 hp2
    exact fin _ _ (Le.new hp) (hb.mono (by decide)) p2 hp2
  · simp [cx0, c7]
    intro p2 hp2
    exact fin _ _ (Le.new hp) hs2 p2 hp2
def sp__law_draw : Sp2 := A2 fun a b M Q _ => ∃ (f : Addr) (m : Int) (n : Nat) (o : MO), a = .loc f ∧ b = .int m ∧ 1 ≤ m ∧ m ≤ 1000000000 ∧ n ≤ 1000000000 ∧ M f = some o ∧ FeedO n o ∧ ∀ r o', 0 ≤ r → r < m → FeedO (n + 1) o' → Q (.int r) (up M f o')
def n__law_draw : List Str := "feed" :: "many" :: "rest" :: "got" :: "stir" :: []
def b__law_draw : TS2 := (sSq (sIf (tCm (eOp rGtI (eOp rIx2 (eVar 0) (eC (.int 0))) (eC (.int 0)))) (sSq (sAs (eOp rDiv2 (eOp rIx2 (eVar 0) (eC (.int 0))) (eVar 1)) (gN 2))
  (sSq (sAs (eOp rSub2 (eOp rIx2 (eVar 0) (eC (.int 0))) (eOp rMul2 (eVar 2) (eVar 1))) (gN 3))
  (sSq (sAs (eVar 2) (gSb rPut2 (eVar 0) (eC (.int 0))))
  (sRt (eVar 3))))) sNx)
  (sSq (sAs (eOp rAdd2 (eOp rIx2 (eVar 0) (eC (.int 2))) (eC (.int 1))) (gSb rPut2 (eVar 0) (eC (.int 2))))
  (sSq (sAs (eOp rAdd2 (eOp rIx2 (eVar 0) (eC (.int 1))) (eOp rMul2 (eC (.int 6700417)) (eOp rIx2 (eVar 0) (eC (.int 2))))) (gN 4))
  (sSq (sAs (eOp rMod2 (eB rInt2 (aCons (eOp rAdd2 (eOp rMul2 (eOp rMul2 (eVar 4) (eVar 4)) (eVar 4)) (eOp rMul2 (eC (.int 15485863)) (eOp rIx2 (eVar 0) (eC (.int 2))))) aNil)) (eOp rAdd2 (eOp rPow2 (eC (.int 10)) (eC (.int 43))) (eC (.int 57)))) (gN 4))
  (sSq (sAs (eOp rMod2 (eB rInt2 (aCons (eOp rAdd2 (eOp rMul2 (eVar 4) (eVar 4)) (eC (.int 32452843))) aNil)) (eOp rAdd2 (eOp rPow2 (eC (.int 10)) (eC (.int 38))) (eC (.int 133)))) (gN 4))
  (sRt (eOp rMod2 (eB rInt2 (aCons (eOp rDiv2 (eVar 4) (eOp rPow2 (eC (.int 10)) (eC (.int 9)))) aNil)) (eVar 1))))))))
theorem sem__law_draw : ∀ ds M Q E, sp__law_draw ds M Q E → b__law_draw (fEnds Q E) (start2 n__law_draw ds) M := by
  rintro ds M Q E ⟨a0, b0, rfl, f, m, n, o, rfl, rfl, m1, m2, hn, hf, ⟨a, b, c, rfl, ha, hab, hb, hb2, hc, hcn⟩, hq⟩
  have hs : ∀ M : Ms, ∀ l, M f = some (.lst l) → seqT (.loc f) M = some l := fun M l h => seqT_lst h
  have hm : CDv a m := ⟨by omega, by
    have : m.natAbs < 2 ^ 64 := by
      have : (2 : Nat) ^ 64 = 18446744073709551616 := by decide
      omega
    have h0 : m.natAbs ≠ 0 := by omega
    have := (Nat.log2_lt h0).mpr this
    omega⟩
  have bm : Bd 64 m := Bd.lt64 (by omega) (by omega)
  have e1 := Int.mul_ediv_add_emod a m
  have p1 := Int.emod_nonneg a (show m ≠ 0 by omega)
  have p2 := Int.emod_lt_of_pos a (show 0 < m by omega)
  have p3 : 0 ≤ a / m := Int.ediv_nonneg ha (by omega)
  have p4 : a / m ≤ a := Int.ediv_le_self m ha
  have cm : CMulX (a / m) m := CMulX.of (hab.le p3 p4) bm (by decide)
  simp only [b__law_draw, start2, n__law_draw]
  simp [hf]
  by_cases h0 : 0 < a
  · simp [h0, hm, cm]
    have e2 : a - a / m * m = a % m := by
      have : a / m * m = m * (a / m) := Int.mul_comm _ _
      omega
    rw [e2]
    exact Fg.same (hq _ _ p1 p2 ⟨_, _, _, rfl, p3, hab.le p3 p4, hb, hb2, hc, by omega⟩)
  · have l1 : Bd 64 6700417 := Bd.lt64 (y := 6700417) (by decide) (by decide)
    have l2 : Bd 64 15485863 := Bd.lt64 (y := 15485863) (by decide) (by decide)
    have l3 : Bd 64 (c + 1) := Bd.lt64 (by omega) (by omega)
    have bb : Bd 180 b := by
      unfold Bd
      have : (2 : Nat) ^ 180 = 1532495540865888858358347027150309183618739122183602176 := by decide
      omega
    have bS : Bd 190 (b + 6700417 * (c + 1)) := (bb.add ((l1.mul l3).mono (by decide))).mono (by decide)
    have c1 : CMulX 6700417 (c + 1) := CMulX.of l1 l3 (by decide)
    have c2 : CMulX (b + 6700417 * (c + 1)) (b + 6700417 * (c + 1)) := CMulX.of bS bS (by decide)
    have c3 : CMulX ((b + 6700417 * (c + 1)) * (b + 6700417 * (c + 1))) (b + 6700417 * (c + 1)) := CMulX.of (bS.mul bS) bS (by decide)
    have c4 : CMulX 15485863 (c + 1) := CMulX.of l2 l3 (by decide)
    have t1 := Int.emod_nonneg ((b + 6700417 * (c + 1)) * (b + 6700417 * (c + 1)) * (b + 6700417 * (c + 1)) + 15485863 * (c + 1)) (show (10000000000000000000000000000000000000000057 : Int) ≠ 0 by decide)
    have t2 := Int.emod_lt_of_pos ((b + 6700417 * (c + 1)) * (b + 6700417 * (c + 1)) * (b + 6700417 * (c + 1)) + 15485863 * (c + 1)) (show (0 : Int) < 10000000000000000000000000000000000000000057 by decide)
    have tb : Bd 180 (((b + 6700417 * (c + 1)) * (b + 6700417 * (c + 1)) * (b + 6700417 * (c + 1)) + 15485863 * (c + 1)) % 10000000000000000000000000000000000000000057) := by
      unfold Bd
      generalize ((b + 6700417 * (c + 1)) * (b + 6700417 * (c + 1)) * (b + 6700417 * (c + 1)) + 15485863 * (c + 1)) % 10000000000000000000000000000000000000000057 = T at t1 t2
      have : (2 : Nat) ^ 180 = 1532495540865888858358347027150309183618739122183602176 := by decide
      omega
    have c5 := CMulX.of tb tb (by decide)
    have c6 : ∀ z, CDv z 1000000000 := fun z => ⟨by decide, by decide⟩
    have hm0 : 0 < m := by omega
    simp [h0, c1, c2, c3, c4, c5, c6, hm0]
    exact Fg.same (hq _ _ (Int.emod_nonneg _ (by omega)) (Int.emod_lt_of_pos _ hm0) ⟨_, _, _, rfl, ha, hab, hb, hb2, by omega, by omega⟩)
def sp__law_one : Sp2 := A2 fun a b M Q _ => ∃ (f : Addr) (l : List Tr) (n : Nat) (o : MO), a = .loc f ∧ lenT b M = some l.length ∧ seqS b M = some l ∧ b ≠ .loc f ∧ 0 < l.length ∧ l.length ≤ 1000000 ∧ n ≤ 1000000000 ∧ M f = some o ∧ FeedO n o ∧ ∀ r o', r ∈ l → FeedO (n + 1) o' → Q r (up M f o')
theorem kChr_get {z : Str} {i : Nat} {c : Nat} {P : Tr → Prop} (h : z.cps.toList[i]? = some c) : kChr z (i : Int) P = P (.str ⟨#[c]⟩) := by
  unfold kChr
  rw [atI_nat, h]
def n__law_one : List Str := "feed" :: "things" :: []
def b__law_one : TS2 := (sRt (eOp rIx2 (eVar 1) (eCall sp__law_draw [] (aCons (eVar 0) (aCons (eB rLen2 (aCons (eVar 1) aNil)) aNil)))))
theorem sem__law_one : ∀ ds M Q E, sp__law_one ds M Q E → b__law_one (fEnds Q E) (start2 n__law_one ds) M := by
  rintro ds M Q E ⟨a, b, rfl, f, l, n, o, rfl, hl, hs, hne, h0, h6, hn, hf, hF, hq⟩
  simp only [b__law_one, start2, n__law_one]
  simp
  unfold kL
  rw [hl]
  simp
  refine ⟨_, _, rfl, f, _, n, o, rfl, rfl, by omega, by omega, hn, hf, hF, fun r o' r0 r1 ho => ?_⟩
  obtain ⟨k, rfl⟩ : ∃ k : Nat, r = (k : Int) := ⟨r.toNat, by omega⟩
  have hk : k < l.length := by omega
  have go := Fg.same (hq l[k] o' (List.getElem_mem hk) ho)
  have hlk : l[k]? = some l[k] := by simp [hk]
  generalize l[k] = xk at go hlk
  cases b with
  | str z =>
    have e : (z.cps.toList.map fun k => Tr.str ⟨#[k]⟩) = l := Option.some.inj hs
    have hz : z.length ≤ sizeLine := by
      simp only [lenT] at hl
      split at hl
      · assumption
      · cases hl
    rw [← e, List.getElem?_map] at hlk
    cases hc : z.cps.toList[k]? with
    | none => rw [hc] at hlk; cases hlk
    | some ch =>
      rw [hc] at hlk
      have e3 : Tr.str ⟨#[ch]⟩ = xk := Option.some.inj hlk
      simp [hz]
      rw [kChr_get hc, e3]
      exact go
  | tup ds =>
    have e : ds = l := Option.some.inj hs
    subst e
    simp
    rw [kAt_get hlk]
    exact go
  | fro ds =>
    have e : ds = l := Option.some.inj hs
    subst e
    simp
    rw [kAt_get hlk]
    exact go
  | loc g =>
    have hg : g ≠ f := fun e => hne (by rw [e])
    have e : M g = some (.lst l) := seqT_loc hs
    simp [up_ne hg, e]
    rw [kAt_get hlk]
    exact go
  | _ => cases hs
/-! ### documents drawn -/
theorem atI_mem {α : Type} {l : List α} {i : Nat} {x : α} (h : l[i]? = some x) : x ∈ l := List.mem_of_getElem? h
def mkW (z : Str) : Prop := z = "a" ∨ z = "ab" ∨ z = "abc" ∨ z = "abcdefgh"
theorem mkW_len {z : Str} (h : mkW z) : z.length ≤ 8 ∧ 0 < z.length ∧ z.cps.toList.length = z.length := by
  rcases h with h | h | h | h <;> subst h <;> decide
theorem mkW_mem {z : Str} (h : mkW z) : ∀ r ∈ z.cps.toList.map (fun k => Tr.str ⟨#[k]⟩), ∃ m, r = .str m ∧ isMk (.str m) = true := by
  have key : ∀ k ∈ ("abcdefgh" : Str).cps.toList, isMk (.str ⟨#[k]⟩) = true := by decide +kernel
  have sub : ∀ k ∈ z.cps.toList, k ∈ ("abcdefgh" : Str).cps.toList := by
    rcases h with h | h | h | h <;> subst h <;> decide +kernel
  intro r hr
  obtain ⟨k, hk, rfl⟩ := List.mem_map.mp hr
  exact ⟨_, rfl, key k (sub k hk)⟩
theorem Vd.snoc {d : Doc} {m : Nat} {e : Str × Nat} (h : Vd m d) (h1 : isMk (.str e.1) = true) (h2 : e.2 ≤ ((d.map fun e => e.2 + 1).getLast?.getD m)) : Vd m (d ++ [e]) := by
  induction d generalizing m with
  | nil => exact ⟨h1, h2, trivial⟩
  | cons x r ih =>
    refine ⟨h.1, h.2.1, ih h.2.2 ?_⟩
    cases r with
    | nil => simpa using h2
    | cons y r =>
      simp only [List.map_cons, List.getLast?_cons, Option.getD_some] at h2 ⊢
      exact h2
theorem Vd.last {d : Doc} {m : Nat} (h : Vd m d) : ((d.map fun e => e.2 + 1).getLast?.getD m) ≤ m + d.length := by
  induction d generalizing m with
  | nil => simp
  | cons x r ih =>
    have := ih h.2.2
    have h2 := h.2.1
    cases r with
    | nil => simp; omega
    | cons y r =>
      simp only [List.map_cons, List.getLast?_cons, Option.getD_some, List.length_cons] at this ⊢
      omega
theorem CDv.of {z j : Int} (h : 0 < j) (l : j ≤ 1000000000) : CDv z j := ⟨h, by
  have : j.natAbs < 2 ^ 64 := by
    have : (2 : Nat) ^ 64 = 18446744073709551616 := by decide
    omega
  have h0 : j.natAbs ≠ 0 := by omega
  have := (Nat.log2_lt h0).mpr this
  omega⟩
def nextD (d : Doc) : Nat := ((d.map fun e => e.2 + 1).getLast?.getD 0)
theorem nextD_le {d : Doc} (h : Vd 0 d) : nextD d ≤ d.length := by have := h.last; unfold nextD; omega
theorem mark8 (k : Nat) (h : k < 8) : ∃ c, ("abcdefgh" : Str).cps.toList[k]? = some c ∧ isMk (.str ⟨#[c]⟩) = true := by
  have e : ("abcdefgh" : Str).cps.toList.length = 8 := by decide +kernel
  have hk : k < ("abcdefgh" : Str).cps.toList.length := by omega
  obtain ⟨m, e1, e2⟩ := mkW_mem (z := "abcdefgh") (.inr (.inr (.inr rfl))) (.str ⟨#[("abcdefgh" : Str).cps.toList[k]]⟩) (List.mem_map.mpr ⟨_, List.getElem_mem hk, rfl⟩)
  cases e1
  exact ⟨_, by simp [hk], e2⟩
theorem nextD_snoc {d : Doc} {e : Str × Nat} : nextD (d ++ [e]) = e.2 + 1 := by unfold nextD; simp
theorem Val.snoc {d : Doc} {e : Str × Nat} (h : Vd 0 d) (h1 : isMk (.str e.1) = true) (h2 : e.2 ≤ nextD d) : Vd 0 (d ++ [e]) := Vd.snoc h h1 h2
def sp__law_grown : Sp2 := A1 fun a M Q _ => ∃ ns : List Int, seqS a M = some (ns.map Tr.int) ∧ ns.length ≤ 100 ∧ ∀ d : Doc, Val d → d.length = ns.length → Q (docT d) M
def n__law_grown : List Str := "cells" :: "got" :: "most" :: "cell" :: "depth" :: []
def b__law_grown : TS2 := (sSq (sPr 1 2 (aCons (eLst aNil) (aCons (eC (.int 0)) aNil)))
  (sSq (sFo (iSq (eVar 0)) (gN 3) (sSq (sAs (eOp rMod2 (eB rInt2 (aCons (eVar 3) aNil)) (eOp rAdd2 (eVar 2) (eC (.int 1)))) (gN 4))
  (sSq (sDr (eM "list" rApp2 (eVar 1) (aCons (eTup (aCons (eOp rIx2 (eC (.str "abcdefgh")) (eOp rMod2 (eB rInt2 (aCons (eOp rDiv2 (eVar 3) (eOp rAdd2 (eVar 2) (eC (.int 1)))) aNil)) (eC (.int 8)))) (aCons (eVar 4) aNil))) aNil)))
  (sAs (eOp rAdd2 (eVar 4) (eC (.int 1))) (gN 2)))))
  (sRt (eB rTuple2 (aCons (eVar 1) aNil)))))
theorem sem__law_grown : ∀ ds M Q E, sp__law_grown ds M Q E → b__law_grown (fEnds Q E) (start2 n__law_grown ds) M := by
  rintro ds M Q E ⟨a, rfl, ns, hs, hl, hq⟩
  simp only [b__law_grown, start2, n__law_grown]
  simp
  intro p hp
  simp
  have hs1 : seqS a (up M p (.lst [])) = some (ns.map Tr.int) := by
    cases a with
    | loc g =>
      have e := seqT_loc hs
      exact seqT_lst (by rw [up_ne (m_ne e hp)]; exact e)
    | _ => exact hs
  rw [kSS_some hs1]
  refine for_itL (fun i σ M' => ∃ (d : Doc) (x y : Option Tr), σ = [some a, some (.loc p), some (.int (nextD d)), x, y] ∧ M' = up M p (.lst (d.map entT)) ∧ Vd 0 d ∧ d.length = i) ?_ ?_ ?_ ?_
  · exact ⟨[], none, none, rfl, rfl, trivial, rfl⟩
  · rintro i σ M' _ ⟨d, x, y, rfl, rfl, _⟩
    cases a with
    | loc g =>
      have e := seqT_loc hs
      exact seqT_lst (by rw [up_ne (m_ne e hp)]; exact e)
    | _ => exact hs
  · rintro i e σ M' he ⟨d, x, y, rfl, rfl, hv, hd⟩
    rw [List.getElem?_map] at he
    cases hc : ns[i]? with
    | none => rw [hc] at he; cases he
    | some n =>
      rw [hc] at he
      cases he
      simp
      have hn := nextD_le hv
      have hi := (List.getElem?_eq_some_iff.mp hc).1
      have g0 := Int.emod_nonneg (n / ((nextD d : Int) + 1)) (show (8 : Int) ≠ 0 by decide)
      have g1 := Int.emod_lt_of_pos (n / ((nextD d : Int) + 1)) (show (0 : Int) < 8 by decide)
      obtain ⟨k, hk⟩ : ∃ k : Nat, n / ((nextD d : Int) + 1) % 8 = (k : Int) := ⟨(n / ((nextD d : Int) + 1) % 8).toNat, by omega⟩
      obtain ⟨c, hc1, hc2⟩ := mark8 k (by omega)
      rw [hk]
      have f0 := Int.emod_nonneg n (show (nextD d : Int) + 1 ≠ 0 by omega)
      have f1 := Int.emod_lt_of_pos n (show (0 : Int) < (nextD d : Int) + 1 by omega)
      obtain ⟨j, hj⟩ : ∃ j : Nat, n % ((nextD d : Int) + 1) = (j : Int) := ⟨(n % ((nextD d : Int) + 1)).toNat, by omega⟩
      rw [hj]
      refine ⟨CDv.of (by omega) (by omega), small_line (by decide), ?_⟩
      rw [kChr_get hc1]
      refine ⟨small_lt (by omega), d ++ [(⟨#[c]⟩, j)], ?_, ?_, Val.snoc hv hc2 (by show j ≤ nextD d; omega), by simp [hd]⟩
      · rw [nextD_snoc]; simp
      · simp [entT]
  · rintro σ M' ⟨d, x, y, rfl, rfl, hv, hd⟩
    simp
    refine Fg.le (Le.new hp) (hq d ⟨hv, ?_⟩ ?_)
    · rw [hd]; simp; omega
    · rw [hd]; simp
end T

/-! S: documents drawn; their ways. -/
namespace T
open PySem PySem.Spec PyProof.Rows L2
/-! ### parents -/
/-- the last place below n where p holds -/
def lastI (p : Nat → Bool) : Nat → Option Nat
  | 0 => none
  | n + 1 => if p n then some n else lastI p n
def depA (d : Doc) (i : Nat) : Nat := (d[i]?.map (·.2)).getD 0
def parA (d : Doc) (i : Nat) : Option Nat := lastI (fun j => decide (depA d j + 1 = depA d i)) i
def optT : Option Nat → Tr
  | none => .non
  | some n => .int n
def parsT (d : Doc) (n : Nat) : List Tr := (List.range n).map fun i => optT (parA d i)
theorem lastI_some {p : Nat → Bool} : ∀ {n k : Nat}, k < n → p k = true → (∀ j, k < j → j < n → p j = false) → lastI p n = some k
  | 0, _, h, _, _ => absurd h (Nat.not_lt_zero _)
  | n + 1, k, h, hp, hj => by
    unfold lastI
    by_cases c : k = n
    · subst c; rw [hp]; rfl
    · rw [hj n (by omega) (by omega)]
      exact lastI_some (by omega) hp fun j a b => hj j a (by omega)
theorem lastI_none {p : Nat → Bool} : ∀ {n : Nat}, (∀ j, j < n → p j = false) → lastI p n = none
  | 0, _ => rfl
  | n + 1, h => by
    unfold lastI
    rw [h n (by omega)]
    exact lastI_none fun j a => h j (by omega)
theorem lastI_spec {p : Nat → Bool} : ∀ {n k : Nat}, lastI p n = some k → k < n ∧ p k = true ∧ ∀ j, k < j → j < n → p j = false
  | 0, _, h => nomatch h
  | n + 1, k, h => by
    unfold lastI at h
    split at h
    · rename_i c
      cases h
      exact ⟨by omega, c, fun j a b => by omega⟩
    · rename_i c
      obtain ⟨h1, h2, h3⟩ := lastI_spec h
      refine ⟨by omega, h2, fun j a b => ?_⟩
      by_cases e : j = n
      · subst e; simpa using c
      · exact h3 j a (by omega)
/-- the path: what stands open before node n; the last of each depth -/
structure Path (d : Doc) (n : Nat) (st : List Nat) : Prop where
  at_ : ∀ i k, st[i]? = some k → k < n ∧ depA d k = i ∧ ∀ j, k < j → j < n → i < depA d j
theorem Vd.dep {m : Nat} {d : Doc} (h : Vd m d) : ∀ i e, d[i]? = some e → isMk (.str e.1) = true ∧ e.2 ≤ (if i = 0 then m else (depA d (i - 1)) + 1) := by
  induction d generalizing m with
  | nil => intro i e h; simp at h
  | cons x r ih =>
    intro i e he
    cases i with
    | zero => simp at he; subst he; exact ⟨h.1, by simpa using h.2.1⟩
    | succ i =>
      have he' : r[i]? = some e := by simpa using he
      have := ih h.2.2 i e he'
      refine ⟨this.1, ?_⟩
      have h2 := this.2
      cases i with
      | zero => simpa [depA] using h2
      | succ i => simpa [depA] using h2
/-- the path's length: one more than the depth before -/
def pathN (d : Doc) (n : Nat) : Nat := if n = 0 then 0 else depA d (n - 1) + 1
theorem Path.pop {d : Doc} {n : Nat} {st : List Nat} (h : Path d n st) (m : Nat) : Path d n (st.take m) := ⟨fun i k e => by
  rw [List.getElem?_take] at e
  split at e
  · exact h.at_ i k e
  · cases e⟩
theorem Path.push {d : Doc} {n : Nat} {st : List Nat} (h : Path d n st) (hl : st.length = depA d n) : Path d (n + 1) (st ++ [n]) := ⟨fun i k e => by
  by_cases c : i < st.length
  · rw [List.getElem?_append_left c] at e
    obtain ⟨h1, h2, h3⟩ := h.at_ i k e
    refine ⟨by omega, h2, fun j a b => ?_⟩
    by_cases q : j = n
    · subst q; omega
    · exact h3 j a (by omega)
  · rw [List.getElem?_append_right (by omega)] at e
    have : i - st.length = 0 := by
      cases q : i - st.length with
      | zero => rfl
      | succ z => rw [q] at e; simp at e
    rw [this] at e
    cases e
    exact ⟨by omega, by omega, fun j a b => by omega⟩⟩
/-- the parent of the next node, by the path cut at its depth -/
theorem Path.par {d : Doc} {n : Nat} {st : List Nat} (h : Path d n st) (hl : st.length = depA d n) : parA d n = if depA d n = 0 then none else st[st.length - 1]? := by
  unfold parA
  by_cases c : depA d n = 0
  · rw [if_pos c]
    exact lastI_none fun j hj => by simp; omega
  · rw [if_neg c]
    have hk : st.length - 1 < st.length := by omega
    have e : st[st.length - 1]? = some st[st.length - 1] := by simp [hk]
    rw [e]
    obtain ⟨h1, h2, h3⟩ := h.at_ _ _ e
    refine lastI_some h1 (by simp; omega) fun j a b => ?_
    have := h3 j a b
    simp; omega
end T

/-! S: the ways of documents. -/
namespace T
open PySem PySem.Spec PyProof.Rows L2
theorem depA_at {d : Doc} {i : Nat} {e : Str × Nat} (h : d[i]? = some e) : depA d i = e.2 := by unfold depA; rw [h]; rfl
theorem Val.dep_le {d : Doc} (h : Vd 0 d) {i : Nat} (hi : i < d.length) : depA d i ≤ pathN d i := by
  have e : d[i]? = some d[i] := by simp [hi]
  have := (h.dep i _ e).2
  unfold pathN
  rw [depA_at e]
  split at this <;> rename_i c
  · rw [if_pos c]; exact this
  · rw [if_neg c]; exact this
theorem Val.path_le {d : Doc} (h : Vd 0 d) : ∀ {i : Nat}, i ≤ d.length → pathN d i ≤ i
  | 0, _ => Nat.le_refl _
  | i + 1, hi => by
    have h1 := Val.dep_le h (i := i) (by omega)
    have h2 := Val.path_le h (i := i) (by omega)
    have : pathN d (i + 1) = depA d i + 1 := by simp [pathN]
    omega
theorem Val.dep_lt {d : Doc} (h : Vd 0 d) {i : Nat} (hi : i < d.length) : depA d i ≤ i := Nat.le_trans (Val.dep_le h hi) (Val.path_le h (by omega))
theorem ent_at {d : Doc} {i : Nat} {x : Tr} (h : (d.map entT)[i]? = some x) : ∃ e, d[i]? = some e ∧ x = .tup [.str e.1, .int (depA d i)] := by
  rw [List.getElem?_map] at h
  cases hc : d[i]? with
  | none => rw [hc] at h; cases h
  | some e =>
    rw [hc] at h
    cases h
    exact ⟨e, rfl, by rw [depA_at hc]; rfl⟩
theorem take_pop {α : Type} {l : List α} {m : Nat} (h : m ≤ l.length) : (l.take m).dropLast = l.take (m - 1) := by
  rw [List.dropLast_eq_take, List.length_take, Nat.min_eq_left h, List.take_take, Nat.min_eq_left (by omega)]
theorem kLast_of {l : List Tr} {x : Tr} {P : Tr → Prop} (h : l[l.length - 1]? = some x) : kLast l P = P x := by unfold kLast; rw [h]
abbrev natT (k : Nat) : Tr := .int k
def sp_parents_of : Sp2 := A1 fun a M Q _ => ∃ d, a = docT d ∧ Val d ∧ ∀ p, M p = none → Q (.loc p) (up M p (.lst (parsT d d.length)))
def n_parents_of : List Str := "document" :: "parents" :: "above" :: "node" :: "mark" :: "depth" :: []
def b_parents_of : TS2 := (sSq (sAs (eLst aNil) (gN 1))
  (sSq (sAs (eLst aNil) (gN 2))
  (sSq (sFo (iEn (aCons (eVar 0) aNil)) (gT 2 (gCo (gN 3) (gCo (gT 2 (gCo (gN 4) (gCo (gN 5) gNil2))) gNil2))) (sSq (sWh (tCm (eOp rGtI (eB rLen2 (aCons (eVar 2) aNil)) (eVar 5))) (sDr (eM0 "list" rPop2 (eVar 2))))
  (sSq (sDr (eM "list" rApp2 (eVar 1) (aCons (eIf (tCm (eOp rGtI (eVar 5) (eC (.int 0)))) (eOp rIx2 (eVar 2) (eUn rNeg2 (eC (.int 1)))) (eC .non)) aNil)))
  (sDr (eM "list" rApp2 (eVar 2) (aCons (eVar 3) aNil))))))
  (sRt (eVar 1)))))
theorem sem_parents_of : ∀ ds M Q E, sp_parents_of ds M Q E → b_parents_of (fEnds Q E) (start2 n_parents_of ds) M := by
  rintro ds M Q E ⟨a, rfl, d, rfl, ⟨hv, hl⟩, hq⟩
  simp only [b_parents_of, start2, n_parents_of]
  simp
  intro p hp
  simp
  intro g hg
  have gp : g ≠ p := by intro e; subst e; rw [up_same] at hg; cases hg
  have hg2 : M g = none := by rw [up_ne gp] at hg; exact hg
  have pg : p ≠ g := fun e => gp e.symm
  simp [docT]
  refine for_itE (fun i σ M' => ∃ (st : List Nat) (x y z : Option Tr), σ = [some (docT d), some (.loc p), some (.loc g), x, y, z] ∧ M' p = some (.lst (parsT d i)) ∧ M' g = some (.lst (st.map natT)) ∧ (∀ a, a ≠ p → a ≠ g → M' a = M a) ∧ Path d i st ∧ st.length = pathN d i) ?_ ?_ ?_ ?_
  · exact ⟨[], none, none, none, rfl, by rw [up_ne pg, up_same]; rfl, up_same, fun a h1 h2 => by rw [up_ne h2, up_ne h1], ⟨fun i k e => by simp at e⟩, rfl⟩
  · rintro i σ M' _ ⟨st, x, y, z, rfl, _⟩
    rfl
  · rintro i e σ M' he ⟨st, x, y, z, rfl, ep, eg, fr, hP, hst⟩
    obtain ⟨en, hen, rfl⟩ := ent_at he
    have hi : i < d.length := (List.getElem?_eq_some_iff.mp hen).1
    have hdl := Val.dep_le hv hi
    rw [← hst] at hdl
    have hdi := Val.dep_lt hv hi
    simp only [gT_ap, gCo_ap, gN_3, gN_4, gN_5, gNil2_ap, List.length_cons, List.length_nil, true_and]
    refine seq_cut (fun σ1 M1 => σ1 = [some (docT d), some (.loc p), some (.loc g), some (.int i), some (.str en.1), some (.int (depA d i))] ∧ M1 p = some (.lst (parsT d i)) ∧ M1 g = some (.lst ((st.take (depA d i)).map natT)) ∧ ∀ a, a ≠ p → a ≠ g → M1 a = M a) (fun NX hN => ?_) ?_
    · refine sWh_of (fun m σ1 M1 => m ≤ st.length ∧ depA d i ≤ m ∧ σ1 = [some (docT d), some (.loc p), some (.loc g), some (.int i), some (.str en.1), some (.int (depA d i))] ∧ M1 p = some (.lst (parsT d i)) ∧ M1 g = some (.lst ((st.take m).map natT)) ∧ ∀ a, a ≠ p → a ≠ g → M1 a = M a) st.length ⟨Nat.le_refl _, hdl, rfl, ep, by rw [List.take_length]; exact eg, fr⟩ ?_
      rintro m σ1 M1 ⟨h1, h2, rfl, ep1, eg1, fr1⟩
      simp [-List.map_take, eg1]
      by_cases c : depA d i < m
      · rw [if_pos (by omega)]
        refine WhT.of fun N2 hN2 => ?_
        have hk : m - 1 < st.length := by omega
        have e2 : ((st.take m).map natT)[((st.take m).map natT).length - 1]? = some (natT st[m - 1]) := by
          rw [List.length_map, List.length_take, Nat.min_eq_left h1, List.getElem?_map, List.getElem?_take, if_pos (by omega)]
          simp [hk]
        simp [-List.map_take, eg1, ↓kLast_of e2]
        exact hN2 (m - 1) _ _ (by omega) ⟨by omega, by omega, rfl, by rw [up_ne pg]; exact ep1, by rw [up_same, ← List.map_dropLast, take_pop h1], fun a h3 h4 => by rw [up_ne h4]; exact fr1 a h3 h4⟩
      · rw [if_neg (by omega)]
        have : m = depA d i := by omega
        subst this
        exact hN _ _ ⟨rfl, ep1, eg1, fr1⟩
    · rintro σ1 M1 ⟨rfl, ep1, eg1, fr1⟩
      have hP2 := hP.pop (depA d i)
      have hl2 : (st.take (depA d i)).length = depA d i := by rw [List.length_take]; omega
      have hpar := hP2.par hl2
      have hps : (parsT d i).length = i := by simp [parsT]
      have e1 : parsT d (i + 1) = parsT d i ++ [optT (parA d i)] := by simp [parsT, List.range_succ]
      have e3 : pathN d (i + 1) = depA d i + 1 := by simp [pathN]
      have fin : ∀ M2 : Ms, M2 p = some (.lst (parsT d i ++ [optT (parA d i)])) → M2 g = some (.lst ((st.take (depA d i)).map natT ++ [natT i])) → (∀ a, a ≠ p → a ≠ g → M2 a = M a) → ∃ (st' : List Nat) (x y z : Option Tr), [some (docT d), some (.loc p), some (.loc g), some (Tr.int i), some (.str en.1), some (.int (depA d i))] = [some (docT d), some (.loc p), some (.loc g), x, y, z] ∧
          M2 p = some (.lst (parsT d (i + 1))) ∧ M2 g = some (.lst (st'.map natT)) ∧ (∀ a, a ≠ p → a ≠ g → M2 a = M a) ∧ Path d (i + 1) st' ∧ st'.length = pathN d (i + 1) := fun M2 q1 q2 q3 =>
        ⟨st.take (depA d i) ++ [i], _, _, _, rfl, by rw [e1]; exact q1, by rw [List.map_append]; exact q2, q3, hP2.push hl2, by rw [List.length_append, hl2, e3]; rfl⟩
      refine nx_cut fun NX hN => ?_
      by_cases c0 : depA d i = 0
      · rw [if_pos c0] at hpar
        simp [-List.map_take, up_ne pg, up_ne gp, ep1, eg1, hps, c0]
        rw [c0] at fin eg1
        refine ⟨small_lt (by omega), small_lt (by omega), hN _ _ (fin _ ?_ ?_ fun a h3 h4 => ?_)⟩
        · rw [up_ne pg, up_same, hpar]; rfl
        · rw [up_same]; rfl
        · rw [up_ne h4, up_ne h3]; exact fr1 a h3 h4
      · rw [if_neg c0, hl2] at hpar
        have hk : depA d i - 1 < (st.take (depA d i)).length := by omega
        have e2 : (st.take (depA d i))[depA d i - 1]? = some (st.take (depA d i))[depA d i - 1] := by simp only [List.getElem?_eq_getElem hk]
        rw [e2] at hpar
        have e4 : ((st.take (depA d i)).map natT)[((st.take (depA d i)).map natT).length - 1]? = some (natT (st.take (depA d i))[depA d i - 1]) := by
          rw [List.length_map, hl2, List.getElem?_map, e2]; rfl
        have c1 : 0 < depA d i := by omega
        simp [-List.map_take, up_ne pg, up_ne gp, ep1, eg1, hps, c1, ↓kAt_last e4, Nat.min_eq_left hdl]
        refine ⟨small_lt (by omega), small_lt (by omega), hN _ _ (fin _ ?_ ?_ fun a h3 h4 => ?_)⟩
        · rw [up_ne pg, up_same, hpar]; simp [optT]
        · rw [up_same]
        · rw [up_ne h4, up_ne h3]; exact fr1 a h3 h4
  · rintro σ M' ⟨st, x, y, z, rfl, ep, eg, fr, _⟩
    simp
    refine Fg.le (M := up M p (.lst (parsT d d.length))) (fun a u e => ?_) (hq p hp)
    by_cases c : a = p
    · subst c; rw [up_same] at e; rw [← e]; simpa using ep
    · rw [up_ne c] at e
      rw [fr a c (fun h => by subst h; rw [hg2] at e; cases e)]; exact e
/-! ### ends -/
structure IsEnd (d : Doc) (k e : Nat) : Prop where
  lt : k < e
  le : e ≤ d.length
  deep : ∀ j, k < j → j < e → depA d k < depA d j
  stop : e < d.length → depA d e ≤ depA d k
theorem IsEnd.uniq {d : Doc} {k e f : Nat} (h : IsEnd d k e) (g : IsEnd d k f) : e = f := by
  rcases Nat.lt_trichotomy e f with c | c | c
  · have := h.stop (by have := g.le; omega)
    have := g.deep e h.lt c
    omega
  · exact c
  · have := g.stop (by have := h.le; omega)
    have := h.deep f g.lt c
    omega
def endF (d : Doc) (k : Nat) : Nat → Nat → Nat
  | 0, e => e
  | f + 1, e => if e < d.length ∧ depA d k < depA d e then endF d k f (e + 1) else e
def endA (d : Doc) (k : Nat) : Nat := endF d k d.length (k + 1)
theorem endF_ok {d : Doc} {k : Nat} : ∀ {f e : Nat}, k < e → e ≤ d.length → d.length ≤ f + e → (∀ j, k < j → j < e → depA d k < depA d j) → IsEnd d k (endF d k f e)
  | 0, e, h1, h2, h3, h4 => ⟨h1, h2, h4, fun h => absurd h (by show ¬ e < _; omega)⟩
  | f + 1, e, h1, h2, h3, h4 => by
    unfold endF
    split
    · rename_i c
      refine endF_ok (by omega) (by omega) (by omega) fun j a b => ?_
      by_cases q : j = e
      · subst q; exact c.2
      · exact h4 j a (by omega)
    · rename_i c
      exact ⟨h1, h2, h4, fun h => by omega⟩
theorem endA_ok {d : Doc} {k : Nat} (h : k < d.length) : IsEnd d k (endA d k) := endF_ok (by omega) (by omega) (by omega) fun j a b => by omega
theorem IsEnd.eq {d : Doc} {k e : Nat} (h : IsEnd d k e) : e = endA d k := h.uniq (endA_ok (by have := h.lt; have := h.le; omega))
theorem doc_at {d : Doc} {i : Nat} (h : i < d.length) : (d.map entT)[i]? = some (.tup [.str d[i].1, .int (depA d i)]) := by
  have e : d[i]? = some d[i] := by simp [h]
  rw [List.getElem?_map, e]
  show some (entT d[i]) = _
  rw [depA_at e]; rfl
theorem kAt_doc {d : Doc} {i : Nat} {P : Tr → Prop} (h : i < d.length) : kAt (d.map entT) (i : Int) P = P (.tup [.str d[i].1, .int (depA d i)]) := kAt_get (doc_at h)
def sp_end_of : Sp2 := A2 fun a b M Q _ => ∃ (d : Doc) (k : Nat), a = docT d ∧ b = .int k ∧ k < d.length ∧ Q (.int (endA d k)) M
def n_end_of : List Str := "document" :: "node" :: "end" :: []
def b_end_of : TS2 := (sSq (sAs (eOp rAdd2 (eVar 1) (eC (.int 1))) (gN 2))
  (sSq (sWh (tAn (tCm (eOp rLtI (eVar 2) (eB rLen2 (aCons (eVar 0) aNil)))) (tCm (eOp rGtI (eOp rIx2 (eOp rIx2 (eVar 0) (eVar 2)) (eC (.int 1))) (eOp rIx2 (eOp rIx2 (eVar 0) (eVar 1)) (eC (.int 1)))))) (sAu 2 rIpA (eC (.int 1))))
  (sRt (eVar 2))))
theorem sem_end_of : ∀ ds M Q E, sp_end_of ds M Q E → b_end_of (fEnds Q E) (start2 n_end_of ds) M := by
  rintro ds M Q E ⟨a, b, rfl, d, k, rfl, rfl, hk, hq⟩
  simp only [b_end_of, start2, n_end_of]
  simp
  refine sWh_of (fun m σ1 M1 => ∃ e : Nat, e + m = d.length ∧ k < e ∧ σ1 = [some (docT d), some (.int k), some (.int e)] ∧ M1 = M ∧ ∀ j, k < j → j < e → depA d k < depA d j) (d.length - (k + 1)) ⟨k + 1, by omega, by omega, rfl, rfl, fun j a b => by omega⟩ ?_
  rintro m σ1 M1 ⟨e, h1, h2, rfl, rfl, h3⟩
  simp [docT]
  by_cases c : e < d.length
  · rw [if_pos (by omega)]
    simp [↓kAt_doc c, ↓kAt_doc hk]
    by_cases c2 : depA d k < depA d e
    · rw [if_pos (by omega)]
      refine WhT.of fun N hN => ?_
      simp
      exact hN (m - 1) _ _ (by omega) ⟨e + 1, by omega, by omega, rfl, rfl, fun j a b => by
        by_cases q : j = e
        · subst q; exact c2
        · exact h3 j a (by omega)⟩
    · rw [if_neg (by omega)]
      rw [(show IsEnd d k e from ⟨h2, by omega, h3, fun _ => by omega⟩).eq]
      exact Fg.same hq
  · rw [if_neg (by omega)]
    rw [(show IsEnd d k e from ⟨h2, by omega, h3, fun _ => by omega⟩).eq]
    exact Fg.same hq
/-! ### children -/
def chA (d : Doc) (o : Option Nat) : List Nat := (List.range d.length).filter fun c => decide (parA d c = o)
theorem par_none {d : Doc} (h : Vd 0 d) {c : Nat} (hc : c < d.length) : parA d c = none ↔ depA d c = 0 := by
  constructor
  · intro e
    by_cases z : depA d c = 0
    · exact z
    · exfalso
      -- the path has a place of that depth
      have key : ∀ (n : Nat), n ≤ d.length → ∀ i, i < pathN d n → ∃ k, k < n ∧ depA d k = i ∧ ∀ j, k < j → j < n → i < depA d j := by
        intro n
        induction n with
        | zero => intro _ i hi; simp [pathN] at hi
        | succ n ih =>
          intro hn i hi
          have e1 : pathN d (n + 1) = depA d n + 1 := by simp [pathN]
          by_cases q : i = depA d n
          · exact ⟨n, by omega, q.symm, fun j a b => by omega⟩
          · have hd := Val.dep_le h (i := n) (by omega)
            obtain ⟨k, h1, h2, h3⟩ := ih (by omega) i (by omega)
            refine ⟨k, by omega, h2, fun j a b => ?_⟩
            by_cases q2 : j = n
            · subst q2; omega
            · exact h3 j a (by omega)
      obtain ⟨k, h1, h2, h3⟩ := key c (by omega) (depA d c - 1) (by have := Val.dep_le h hc; omega)
      have : parA d c = some k := by
        unfold parA
        refine lastI_some h1 (by simp; omega) fun j a b => ?_
        have := h3 j a b
        simp; omega
      rw [e] at this; cases this
  · intro e
    unfold parA
    exact lastI_none fun j hj => by simp; omega
theorem par_some {d : Doc} (h : Vd 0 d) {c k : Nat} (hc : c < d.length) (hk : k < d.length) : parA d c = some k ↔ k < c ∧ c < endA d k ∧ depA d c = depA d k + 1 := by
  have E := endA_ok hk
  constructor
  · intro e
    obtain ⟨h1, h2, h3⟩ := lastI_spec e
    have h2' : depA d k + 1 = depA d c := by simpa using h2
    refine ⟨h1, ?_, h2'.symm⟩
    by_cases q : c < endA d k
    · exact q
    · exfalso
      have s := E.stop (by omega)
      have l := E.lt
      -- from endA on down to c some node has the depth of k
      have key : ∀ n, endA d k ≤ n → n < c → (∃ j, endA d k ≤ j ∧ j ≤ n ∧ depA d j = depA d k) ∨ depA d n < depA d k := by
        intro n
        induction n with
        | zero => intro h1 h2; omega
        | succ n ih =>
          intro h1 h2
          by_cases q1 : endA d k = n + 1
          · rw [← q1]
            by_cases q2 : depA d (endA d k) = depA d k
            · exact .inl ⟨endA d k, by omega, by omega, q2⟩
            · exact .inr (by omega)
          · rcases ih (by omega) (by omega) with ⟨j, a, b, e⟩ | r
            · exact .inl ⟨j, a, by omega, e⟩
            · have := Val.dep_le h (i := n + 1) (by omega)
              have e1 : pathN d (n + 1) = depA d n + 1 := by simp [pathN]
              by_cases q2 : depA d (n + 1) = depA d k
              · exact .inl ⟨n + 1, by omega, by omega, q2⟩
              · exact .inr (by omega)
      by_cases q3 : endA d k = c
      · rw [q3] at s; omega
      · rcases key (c - 1) (by omega) (by omega) with ⟨j, a, b, e⟩ | r
        · have := h3 j (by omega) (by omega)
          simp at this; omega
        · have := Val.dep_le h hc
          have e1 : pathN d c = depA d (c - 1) + 1 := by unfold pathN; rw [if_neg (by omega)]
          omega
  · rintro ⟨h1, h2, h3⟩
    unfold parA
    refine lastI_some h1 (by simp; omega) fun j a b => ?_
    have := E.deep j a (by omega)
    simp; omega
theorem filter_range {n a b : Nat} {p q : Nat → Bool} (h1 : a ≤ b) (h2 : b ≤ n) (h : ∀ c, c < n → q c = (decide (a ≤ c) && decide (c < b) && p c)) : (List.range n).filter q = (List.range' a (b - a)).filter p := by
  have e : List.range n = List.range' 0 a ++ (List.range' a (b - a) ++ List.range' b (n - b)) := by
    rw [List.range_eq_range']
    have e1 := List.range'_append_1 (s := a) (m := b - a) (n := n - b)
    rw [show a + (b - a) = b by omega, show b - a + (n - b) = n - a by omega] at e1
    rw [e1]
    have e2 := List.range'_append_1 (s := 0) (m := a) (n := n - a)
    rw [show 0 + a = a by omega, show a + (n - a) = n by omega] at e2
    rw [e2]
  rw [e, List.filter_append, List.filter_append]
  have z1 : (List.range' 0 a).filter q = [] := List.filter_eq_nil_iff.mpr fun c hc => by
    simp at hc
    rw [h c (by omega)]; simp; omega
  have z2 : (List.range' b (n - b)).filter q = [] := List.filter_eq_nil_iff.mpr fun c hc => by
    simp at hc
    rw [h c (by omega)]; simp; omega
  rw [z1, z2, List.nil_append, List.append_nil]
  refine List.filter_congr fun c hc => ?_
  simp at hc
  rw [h c (by omega)]
  have : decide (a ≤ c) = true ∧ decide (c < b) = true := by simp; omega
  rw [this.1, this.2]; rfl
end T

/-! S: rows, ends. -/
namespace T
open PySem PySem.Spec PyProof.Rows L2
def chT (d : Doc) (o : Option Nat) : List Tr := (chA d o).map natT
theorem rg_doc {d : Doc} (h : d.length ≤ 20000) {j : Int} (h0 : 0 ≤ j) (h1 : j ≤ 20001) : Rg j := ⟨by omega, by omega⟩
def sp_row_of : Sp2 := A2 fun a b M Q _ => ∃ (d : Doc) (o : Option Nat), a = docT d ∧ b = optT o ∧ Val d ∧ (∀ k, o = some k → k < d.length) ∧ ∀ p, M p = none → Q (.loc p) (up M p (.lst (chT d o)))
def n_row_of : List Str := "document" :: "node" :: "below" :: "child" :: "mark" :: "depth" :: []
def b_row_of : TS2 := (sSq (sIf (tCm (eOp (rIsG id) (eVar 1) (eC .non))) (sRt (eLc (iEn (aCons (eVar 0) aNil)) (gT 2 (gCo (gN 3) (gCo (gT 2 (gCo (gN 4) (gCo (gN 5) gNil2))) gNil2))) (tCm (eOp (rEqG id) (eVar 5) (eC (.int 0)))) (eVar 3) [3, 4, 5])) sNx)
  (sSq (sAs (eOp rAdd2 (eOp rIx2 (eOp rIx2 (eVar 0) (eVar 1)) (eC (.int 1))) (eC (.int 1))) (gN 2))
  (sRt (eLc (iRg2 (aCons (eOp rAdd2 (eVar 1) (eC (.int 1))) (aCons (eCall sp_end_of [] (aCons (eVar 0) (aCons (eVar 1) aNil))) aNil))) (gN 3) (tCm (eOp (rEqG id) (eOp rIx2 (eOp rIx2 (eVar 0) (eVar 3)) (eC (.int 1))) (eVar 2))) (eVar 3) [3]))))
theorem sem_row_of : ∀ ds M Q E, sp_row_of ds M Q E → b_row_of (fEnds Q E) (start2 n_row_of ds) M := by
  rintro ds M Q E ⟨a, b, rfl, d, o, rfl, rfl, ⟨hv, hl⟩, ho, hq⟩
  simp only [b_row_of, start2, n_row_of]
  cases o with
  | none =>
    simp [optT]
    simp [docT]
    refine fun p hp => lc_fmE (fun i => if decide (depA d i = 0) = true then some (natT i) else none) (by simp; omega) (fun M' _ => rfl) (Fg.same ?_) ?_
    · rw [List.length_map, fm_if]
      have e : (List.range d.length).filter (fun i => decide (depA d i = 0)) = chA d none := List.filter_congr fun c hc => by
        have := par_none hv (c := c) (by simpa using hc)
        simp [this]
      rw [e]
      exact hq p hp
    · intro i e M' he fr KY KN h1 h2
      obtain ⟨en, hen, rfl⟩ := ent_at he
      simp [wipe2]
      by_cases c : depA d i = 0
      · simp [c]
        exact h1 _ (by simp [c])
      · simp [c]
        exact h2 (by simp [c])
  | some k =>
    have hk := ho k rfl
    have E1 := endA_ok hk
    have hle := E1.le
    have hlt := E1.lt
    simp [optT, docT, ↓kAt_doc hk]
    refine ⟨_, _, rfl, d, k, rfl, rfl, hk, ?_⟩
    simp
    refine ⟨ rg_doc hl (by omega) (by omega), rg_doc hl (by omega) (by omega), fun p hp => lc_fmR (fun i => if decide (depA d (k + 1 + i) = depA d k + 1) = true then some (natT (k + 1 + i)) else none) (by omega) (Fg.same ?_) ?_⟩
    · have e : ((endA d k : Int) - ((k : Int) + 1)).toNat = endA d k - (k + 1) := by omega
      rw [e, fm_if (h := fun i => natT (k + 1 + i))]
      have e2 : ((List.range (endA d k - (k + 1))).filter fun i => decide (depA d (k + 1 + i) = depA d k + 1)).map (fun i => natT (k + 1 + i)) = chT d (some k) := by
        unfold chT chA
        have e3 := filter_range (n := d.length) (a := k + 1) (b := endA d k) (p := fun c => decide (depA d c = depA d k + 1)) (q := fun c => decide (parA d c = some k)) (by omega) (by omega) (fun c hc => by
          have := par_some hv hc hk
          rw [Bool.eq_iff_iff]
          simp [this]
          omega)
        rw [e3, List.range'_eq_map_range, List.filter_map, List.map_map]
        rfl
      rw [e2]
      exact hq p hp
    · intro i M' hi fr KY KN h1 h2
      have hi2 : k + 1 + i < d.length := by omega
      have e3 : ((k : Int) + 1 + (i : Int)) = ((k + 1 + i : Nat) : Int) := by omega
      rw [e3]
      simp only [wipe2, List.set_cons_succ, List.set_cons_zero]
      simp [↓kAt_doc hi2]
      by_cases c : depA d (k + 1 + i) = depA d k + 1
      · rw [if_pos (by omega), e3]
        exact h1 _ (if_pos (by simp [c]))
      · rw [if_neg (by omega)]
        exact h2 (if_neg (by simp [c]))
/-! ### ends -/
def endsT (d : Doc) : List Tr := (List.range d.length).map fun k => natT (endA d k)
theorem Path.mem {d : Doc} {n k : Nat} {st : List Nat} (h : Path d n st) (hk : k ∈ st) : st[depA d k]? = some k := by
  obtain ⟨i, hi, rfl⟩ := List.getElem_of_mem hk
  have e : st[i]? = some st[i] := by simp [hi]
  obtain ⟨_, h2, _⟩ := h.at_ i _ e
  rw [h2]; exact e
def sp_ends_of : Sp2 := A1 fun a M Q _ => ∃ d, a = docT d ∧ Val d ∧ ∀ p, M p = none → Q (.loc p) (up M p (.lst (endsT d)))
def n_ends_of : List Str := "document" :: "ends" :: "open_nodes" :: "node" :: "mark" :: "depth" :: []
def b_ends_of : TS2 := (sSq (sAs (eOp rMul2 (eLst (aCons (eB rLen2 (aCons (eVar 0) aNil)) aNil)) (eB rLen2 (aCons (eVar 0) aNil))) (gN 1))
  (sSq (sAs (eLst aNil) (gN 2))
  (sSq (sFo (iEn (aCons (eVar 0) aNil)) (gT 2 (gCo (gN 3) (gCo (gT 2 (gCo (gN 4) (gCo (gN 5) gNil2))) gNil2))) (sSq (sWh (tCm (eOp rGtI (eB rLen2 (aCons (eVar 2) aNil)) (eVar 5))) (sAs (eVar 3) (gSb rPut2 (eVar 1) (eM0 "list" rPop2 (eVar 2)))))
  (sDr (eM "list" rApp2 (eVar 2) (aCons (eVar 3) aNil)))))
  (sRt (eVar 1)))))
theorem sem_ends_of : ∀ ds M Q E, sp_ends_of ds M Q E → b_ends_of (fEnds Q E) (start2 n_ends_of ds) M := by
  rintro ds M Q E ⟨a, rfl, d, rfl, ⟨hv, hl⟩, hq⟩
  simp only [b_ends_of, start2, n_ends_of]
  simp [docT]
  refine ⟨small_line (by decide), fun p0 hp0 => ?_⟩
  simp
  refine ⟨by omega, small_line (by omega), fun p hp => ?_⟩
  simp
  intro g hg
  have hp2 : M p = none := Le.none (Le.new hp0) hp
  have gp : g ≠ p := by intro e; subst e; rw [up_same] at hg; cases hg
  have pg : p ≠ g := fun e => gp e.symm
  simp
  have g0 : g ≠ p0 := by intro e; subst e; rw [up_ne gp, up_same] at hg; cases hg
  have p00 : p ≠ p0 := by intro e; subst e; rw [up_same] at hp; cases hp
  have hg2 : M g = none := by rw [up_ne gp, up_ne g0] at hg; exact hg
  refine for_itE (fun i σ M' => ∃ (st E : List Nat) (x y z : Option Tr), σ = [some (docT d), some (.loc p), some (.loc g), x, y, z] ∧ M' p = some (.lst (E.map natT)) ∧ M' g = some (.lst (st.map natT)) ∧ (∀ a o, a ≠ p → a ≠ g → M a = some o → M' a = some o) ∧ Path d i st ∧ st.length = pathN d i ∧
    E.length = d.length ∧ (∀ k, k < d.length → k ∈ st ∨ i ≤ k → E[k]? = some d.length) ∧ ∀ k, k < i → k ∉ st → ∃ e, E[k]? = some e ∧ IsEnd d k e) ?_ ?_ ?_ ?_
  · refine ⟨[], List.replicate d.length d.length, none, none, none, rfl, ?_, up_same, fun a o h1 h2 h3 => ?_, ⟨fun i k e => by simp at e⟩, rfl, by simp, fun k hk _ => by simp [hk], fun k hk => by omega⟩
    · rw [up_ne pg, up_same]
      congr 2
      rw [List.map_replicate]
    · rw [up_ne h2, up_ne h1, up_ne (m_ne h3 hp0)]; exact h3
  · rintro i σ M' _ ⟨st, E, x, y, z, rfl, _⟩
    rfl
  · rintro i e σ M' he ⟨st, E, x, y, z, rfl, ep, eg, fr, hP, hst, hE, hE1, hE2⟩
    obtain ⟨en, hen, rfl⟩ := ent_at he
    have hi : i < d.length := (List.getElem?_eq_some_iff.mp hen).1
    have hdl := Val.dep_le hv hi
    rw [← hst] at hdl
    have hdi := Val.dep_lt hv hi
    simp only [gT_ap, gCo_ap, gN_3, gN_4, gN_5, gNil2_ap, List.length_cons, List.length_nil, true_and]
    refine seq_cut (fun σ1 M1 => ∃ E : List Nat, σ1 = [some (docT d), some (.loc p), some (.loc g), some (.int i), some (.str en.1), some (.int (depA d i))] ∧ M1 p = some (.lst (E.map natT)) ∧ M1 g = some (.lst ((st.take (depA d i)).map natT)) ∧ (∀ a o, a ≠ p → a ≠ g → M a = some o → M1 a = some o) ∧
      E.length = d.length ∧ (∀ k, k < d.length → k ∈ st.take (depA d i) ∨ i ≤ k → E[k]? = some d.length) ∧ ∀ k, k < i → k ∉ st.take (depA d i) → ∃ e, E[k]? = some e ∧ IsEnd d k e) (fun NX hN => ?_) ?_
    · refine sWh_of (fun m σ1 M1 => ∃ E : List Nat, m ≤ st.length ∧ depA d i ≤ m ∧ σ1 = [some (docT d), some (.loc p), some (.loc g), some (.int i), some (.str en.1), some (.int (depA d i))] ∧ M1 p = some (.lst (E.map natT)) ∧ M1 g = some (.lst ((st.take m).map natT)) ∧ (∀ a o, a ≠ p → a ≠ g → M a = some o → M1 a = some o) ∧
        E.length = d.length ∧ (∀ k, k < d.length → k ∈ st.take m ∨ i ≤ k → E[k]? = some d.length) ∧ ∀ k, k < i → k ∉ st.take m → ∃ e, E[k]? = some e ∧ IsEnd d k e) st.length ⟨E, Nat.le_refl _, hdl, rfl, ep, by rw [List.take_length]; exact eg, fr, hE, by rw [List.take_length]; exact hE1, by rw [List.take_length]; exact hE2⟩ ?_
      rintro m σ1 M1 ⟨E, h1, h2, rfl, ep1, eg1, fr1, hE, hE1, hE2⟩
      simp [-List.map_take, eg1]
      by_cases c : depA d i < m
      · rw [if_pos (by omega)]
        refine WhT.of fun N2 hN2 => ?_
        have hk : m - 1 < st.length := by omega
        have ek : st[m - 1]? = some st[m - 1] := by simp [hk]
        obtain ⟨q1, q2, q3⟩ := hP.at_ _ _ ek
        have e2 : ((st.take m).map natT)[((st.take m).map natT).length - 1]? = some (natT st[m - 1]) := by
          rw [List.length_map, List.length_take, Nat.min_eq_left h1, List.getElem?_map, List.getElem?_take, if_pos (by omega)]
          simp [hk]
        have hkE : st[m - 1] < (E.map natT).length := by rw [List.length_map, hE]; omega
        simp [-List.map_take, eg1, ↓kLast_of e2, up_ne pg, ep1, ↓kIx_nat hkE]
        have tk : st.take m = st.take (m - 1) ++ [st[m - 1]] := by
          have := List.take_concat_get (l := st) (i := m - 1) hk
          rw [List.concat_eq_append] at this
          rw [this, show m - 1 + 1 = m by omega]
        have notin : ∀ k, k ∈ st.take (m - 1) → k ≠ st[m - 1] := by
          rintro k hk2 rfl
          have := (hP.pop (m - 1)).mem hk2
          rw [q2] at this
          have := (List.getElem?_eq_some_iff.mp this).1
          simp at this; omega
        refine hN2 (m - 1) _ _ (by omega) ⟨E.set st[m - 1] i, by omega, by omega, rfl, ?_, ?_, fun a o h3 h4 h5 => ?_, by simp [hE], fun k hk2 hk3 => ?_, fun k hk2 hk3 => ?_⟩
        · rw [up_same, List.map_set]
        · rw [up_ne gp, up_same, ← List.map_dropLast, take_pop h1]
        · rw [up_ne h3, up_ne h4]; exact fr1 a o h3 h4 h5
        · have ne : st[m - 1] ≠ k := by
            rcases hk3 with h | h
            · exact fun e => notin k h e.symm
            · omega
          rw [List.getElem?_set_ne ne]
          refine hE1 k hk2 ?_
          rcases hk3 with h | h
          · exact .inl (by rw [tk]; exact List.mem_append_left _ h)
          · exact .inr h
        · by_cases ne : st[m - 1] = k
          · subst ne
            refine ⟨i, by rw [List.getElem?_set_self (by omega)], q1, by omega, fun j a b => by have := q3 j a b; omega, fun _ => by omega⟩
          · rw [List.getElem?_set_ne ne]
            refine hE2 k hk2 fun h => hk3 ?_
            rw [tk] at h
            rcases List.mem_append.mp h with h | h
            · exact h
            · exact absurd (List.mem_singleton.mp h).symm ne
      · rw [if_neg (by omega)]
        have : m = depA d i := by omega
        subst this
        exact hN _ _ ⟨E, rfl, ep1, eg1, fr1, hE, hE1, hE2⟩
    · rintro σ1 M1 ⟨E, rfl, ep1, eg1, fr1, hE, hE1, hE2⟩
      have hP2 := hP.pop (depA d i)
      have hl2 : (st.take (depA d i)).length = depA d i := by rw [List.length_take]; omega
      have e3 : pathN d (i + 1) = depA d i + 1 := by simp [pathN]
      refine nx_cut fun NX hN => ?_
      simp [-List.map_take, eg1, Nat.min_eq_left hdl]
      refine ⟨small_lt (by omega), hN _ _ ⟨st.take (depA d i) ++ [i], E, _, _, _, rfl, by rw [up_ne pg]; exact ep1, by rw [up_same, List.map_append]; rfl, fun a o h3 h4 h5 => by rw [up_ne h4]; exact fr1 a o h3 h4 h5, hP2.push hl2, by rw [List.length_append, hl2, e3]; rfl, hE, fun k hk h => ?_, fun k hk h => ?_⟩⟩
      · refine hE1 k hk ?_
        rcases h with h | h
        · rcases List.mem_append.mp h with h | h
          · exact .inl h
          · exact .inr (by have := List.mem_singleton.mp h; omega)
        · exact .inr (by omega)
      · have h1 : k ∉ st.take (depA d i) := fun z => h (List.mem_append_left _ z)
        have h2 : k ≠ i := fun z => h (List.mem_append_right _ (List.mem_singleton.mpr z))
        exact hE2 k (by omega) h1
  · rintro σ M' ⟨st, E, x, y, z, rfl, ep, eg, fr, hP, hst, hE, hE1, hE2⟩
    simp at hP hE1 hE2 ⊢
    have ee : E.map natT = endsT d := by
      unfold endsT
      apply List.ext_getElem?
      intro k
      rw [List.getElem?_map, List.getElem?_map]
      by_cases hk : k < d.length
      · rw [List.getElem?_range hk]
        by_cases hm : k ∈ st
        · rw [hE1 k hk (.inl hm)]
          have e := hP.mem hm
          obtain ⟨_, _, q3⟩ := hP.at_ _ _ e
          have : IsEnd d k d.length := ⟨hk, Nat.le_refl _, fun j a b => q3 j a b, fun h => absurd h (Nat.lt_irrefl _)⟩
          simp [← this.eq]
        · obtain ⟨e, h1, h2⟩ := hE2 k hk hm
          rw [h1]
          simp [h2.eq]
      · rw [List.getElem?_eq_none (by omega), List.getElem?_eq_none (by simp; omega)]; rfl
    rw [ee] at ep
    refine Fg.le (M := up M p (.lst (endsT d))) (fun a u e => ?_) (hq p hp2)
    by_cases c : a = p
    · subst c; rw [up_same] at e; rw [← e]; exact ep
    · rw [up_ne c] at e
      exact fr a u c (m_ne e hg2) e
/-! ### rows -/
/-- whose row a node stands in: its parent's, or the last for the roots -/
def slotA (d : Doc) (c : Nat) : Nat := (parA d c).getD d.length
def rowI (d : Doc) (k i : Nat) : List Tr := ((List.range i).filter fun c => decide (slotA d c = k)).map natT
theorem slot_le {d : Doc} {c : Nat} (hc : c < d.length) : slotA d c ≤ d.length := by
  unfold slotA
  cases h : parA d c with
  | none => exact Nat.le_refl _
  | some k =>
    obtain ⟨h1, _⟩ := lastI_spec h
    show k ≤ _
    omega
theorem rowI_succ {d : Doc} {k i : Nat} : rowI d k (i + 1) = if slotA d i = k then rowI d k i ++ [natT i] else rowI d k i := by
  unfold rowI
  rw [List.range_succ, List.filter_append, List.map_append]
  by_cases c : slotA d i = k <;> simp [c]
theorem rowI_len {d : Doc} {k i : Nat} : (rowI d k i).length ≤ i := by
  unfold rowI
  rw [List.length_map]
  have := List.length_filter_le (fun c => decide (slotA d c = k)) (List.range i)
  simpa using this
def sp_rows_of : Sp2 := A1 fun a M Q _ => ∃ d, a = docT d ∧ Val d ∧ ∀ M' p (qs : List Addr), M p = none → qs.length = d.length + 1 → qs.Nodup → (∀ q ∈ qs, M q = none ∧ q ≠ p) → M' p = some (.lst (qs.map .loc)) → (∀ k q, qs[k]? = some q → M' q = some (.lst (rowI d k d.length))) → Le M M' → Q (.loc p) M'
def n_rows_of : List Str := "document" :: "rows" :: "node" :: "parent" :: "row" :: "k" :: []
def b_rows_of : TS2 := (sSq (sAs (eLc (iRg1 (aCons (eOp rAdd2 (eB rLen2 (aCons (eVar 0) aNil)) (eC (.int 1))) aNil)) (gN 5) tYes2 (eLst aNil) [5]) (gN 1))
  (sSq (sFo (iEn (aCons (eCall sp_parents_of [] (aCons (eVar 0) aNil)) aNil)) (gT 2 (gCo (gN 2) (gCo (gN 3) gNil2))) (sSq (sAs (eOp rIx2 (eVar 1) (eIf (tCm (eOp (rIsG id) (eVar 3) (eC .non))) (eB rLen2 (aCons (eVar 0) aNil)) (eVar 3))) (gN 4))
  (sDr (eM "list" rApp2 (eVar 4) (aCons (eVar 2) aNil)))))
  (sRt (eVar 1))))
theorem sem_rows_of : ∀ ds M Q E, sp_rows_of ds M Q E → b_rows_of (fEnds Q E) (start2 n_rows_of ds) M := by
  rintro ds M Q E ⟨a, rfl, d, rfl, hval, hq⟩
  have ⟨hv, hl⟩ := hval
  simp only [b_rows_of, start2, n_rows_of]
  simp [docT]
  refine ⟨⟨by omega, by omega⟩, fun p hp => lc_itR (fun i M' => ∃ qs : List Addr, qs.length = i ∧ qs.Nodup ∧ (∀ q ∈ qs, M q = none ∧ q ≠ p ∧ M' q = some (.lst [])) ∧ M' p = some (.lst (qs.map .loc)) ∧ ∀ a o, M a = some o → M' a = some o) ?_ ?_ ?_⟩
  · exact ⟨[], rfl, by simp, fun q hq => by simp at hq, up_same, fun a o h => by rw [up_ne (m_ne h hp)]; exact h⟩
  · rintro i M' hi ⟨qs, h1, h2, h3, h4, h5⟩
    rw [List.length_map] at hi
    simp [wipe2]
    intro q hq1
    have qp : q ≠ p := by intro e; subst e; rw [h4] at hq1; cases hq1
    have qn : q ∉ qs := fun h => by rw [(h3 q h).2.2] at hq1; cases hq1
    have mq : M q = none := Le.none h5 hq1
    refine ⟨qs.map .loc, by rw [up_ne (fun e => qp e.symm)]; exact h4, by rw [List.length_map, h1]; exact small_lt (by omega), qs ++ [q], by simp [h1], ?_, ?_, by rw [up_same, List.map_append]; rfl, ?_⟩
    · rw [List.nodup_append]
      exact ⟨h2, by simp, fun a ha b hb e => by rw [List.mem_singleton] at hb; subst hb; subst e; exact qn ha⟩
    · intro z hz
      rcases List.mem_append.mp hz with hz | hz
      · obtain ⟨a1, a2, a3⟩ := h3 z hz
        exact ⟨a1, a2, by rw [up_ne a2, up_ne (fun e : z = q => qn (by rw [← e]; exact hz))]; exact a3⟩
      · have e := List.mem_singleton.mp hz
        subst e
        exact ⟨mq, qp, by rw [up_ne qp, up_same]⟩
    · intro a o ha
      rw [up_ne (m_ne ha hp), up_ne (m_ne ha mq)]; exact h5 a o ha
  · rintro M1 ⟨qs, h1, h2, h3, h4, h5⟩
    have h1' : qs.length = d.length + 1 := by rw [h1, List.length_map]
    simp
    refine ⟨_, rfl, d, rfl, hval, fun pl hpl => ?_⟩
    have pp : p ≠ pl := m_ne h4 hpl
    have ql : ∀ q ∈ qs, q ≠ pl := fun q hq1 => m_ne (h3 q hq1).2.2 hpl
    have ml : M pl = none := Le.none h5 hpl
    simp
    refine for_itE (fun i σ M' => ∃ (x y z w : Option Tr), σ = [some (docT d), some (.loc p), x, y, z, w] ∧ M' pl = some (.lst (parsT d d.length)) ∧ M' p = some (.lst (qs.map .loc)) ∧ (∀ k q, qs[k]? = some q → M' q = some (.lst (rowI d k i))) ∧ Le M M') ?_ ?_ ?_ ?_
    · refine ⟨_, _, _, _, rfl, up_same, by rw [up_ne pp]; exact h4, fun k q hk => ?_, fun a o h => by rw [up_ne (m_ne h ml)]; exact h5 a o h⟩
      have hm := List.mem_of_getElem? hk
      rw [up_ne (ql q hm)]
      exact (h3 q hm).2.2
    · rintro i σ M' _ ⟨x, y, z, w, rfl, e1, _⟩
      exact seqT_lst e1
    · rintro i e σ M' he ⟨x, y, z, w, rfl, e1, e2, e3, e4⟩
      have hi : i < d.length := by
        have := (List.getElem?_eq_some_iff.mp he).1
        simpa [parsT] using this
      have ee : e = optT (parA d i) := by
        have : (parsT d d.length)[i]? = some (optT (parA d i)) := by simp [parsT, hi]
        rw [this] at he
        exact (Option.some.inj he).symm
      subst ee
      have hs := slot_le hi
      have hsq : slotA d i < qs.length := by omega
      have eq0 : (qs.map Tr.loc)[slotA d i]? = some (.loc qs[slotA d i]) := by simp [hsq]
      have eqs : qs[slotA d i]? = some qs[slotA d i] := by simp [hsq]
      have eq1 := e3 _ _ eqs
      have hm := List.getElem_mem hsq
      have qp := (h3 _ hm).2.1
      have rl := @rowI_len d (slotA d i) i
      simp only [gT_ap, gCo_ap, gN_2, gN_3, gNil2_ap, List.length_cons, List.length_nil, true_and]
      refine nx_cut fun NX hN => ?_
      have fin : ∀ (x y z w : Option Tr), NX [some (docT d), some (.loc p), x, y, z, w] (up M' qs[slotA d i] (.lst (rowI d (slotA d i) i ++ [natT i]))) := fun x y z w => by
        refine hN _ _ ⟨x, y, z, w, rfl, by rw [up_ne (fun e => ql _ hm e.symm)]; exact e1, by rw [up_ne (fun e => qp e.symm)]; exact e2, fun k q hk => ?_, fun a o h => by rw [up_ne (m_ne h (h3 _ hm).1)]; exact e4 a o h⟩
        rw [rowI_succ]
        by_cases c : slotA d i = k
        · subst c
          have : q = qs[slotA d i] := by rw [eqs] at hk; exact (Option.some.inj hk).symm
          subst this
          rw [if_pos rfl, up_same]
        · rw [if_neg c]
          have ne : q ≠ qs[slotA d i] := by
            intro e
            subst e
            have hk' := (List.getElem?_eq_some_iff.mp hk)
            obtain ⟨hk1, hk2⟩ := hk'
            exact c ((List.getElem_inj h2).mp hk2).symm
          rw [up_ne ne]
          exact e3 k q hk
      have ks : kAt (qs.map Tr.loc) ((slotA d i : Nat) : Int) = fun P => P (.loc qs[slotA d i]) := by funext P; exact kAt_get eq0
      cases hp0 : parA d i with
      | none =>
        have es : ((d.length : Nat) : Int) = ((slotA d i : Nat) : Int) := by simp [slotA, hp0]
        simp [optT, docT, e2]
        rw [es, ks]
        simp [eq1]
        exact ⟨small_lt (by omega), fin _ _ _ _⟩
      | some k =>
        have es : ((k : Nat) : Int) = ((slotA d i : Nat) : Int) := by simp [slotA, hp0]
        simp [optT, docT, e2]
        rw [es, ks]
        simp [eq1]
        exact ⟨small_lt (by omega), fin _ _ _ _⟩
    · rintro σ M' ⟨x, y, z, w, rfl, e1, e2, e3, e4⟩
      simp [parsT] at e3
      simp
      exact Fg.same (hq M' p qs hp h1' h2 (fun q hq1 => ⟨(h3 q hq1).1, (h3 q hq1).2.1⟩) e2 e3 e4)
end T

/-! S: texts of data; the package's own answers. -/
namespace T
open PySem PySem.Spec PyProof.Rows L2
theorem shownAll_eq : ∀ l : List Tr, PyData.shownAll (toPs l) = l.map fun t => (toP t).shown
  | [] => rfl
  | t :: r => by
    show (toP t).shown :: PyData.shownAll (toPs r) = _
    rw [shownAll_eq r]; rfl
theorem piled_le {k : Nat} : ∀ {ts : List Str}, (∀ t ∈ ts, t.length ≤ k) → piled ts ≤ ts.length * (k + 2)
  | [], _ => by simp [piled]
  | t :: r, h => by
    have h1 := h t List.mem_cons_self
    have h2 := piled_le (ts := r) fun x hx => h x (List.mem_cons_of_mem _ hx)
    rw [piled_cons, List.length_cons, Nat.add_mul]
    omega
theorem tupleText_le {k : Nat} {ts : List Str} (h : ∀ t ∈ ts, t.length ≤ k) : (tupleText ts).length ≤ ts.length * (k + 2) + 3 := by
  have hp := piled_le h
  have hj : (Str.join ", " ts).length ≤ piled ts := by
    cases ts with
    | nil => exact Nat.zero_le _
    | cons t r => have := join_length_add (t :: r) (by simp); omega
  unfold tupleText
  rw [strLen_append, strLen_append]
  have e1 : (("(" : String) : Str).length = 1 := rfl
  have e2 : ((if (ts.length == 1) = true then ",)" else ")" : String) : Str).length ≤ 2 := by split <;> decide
  omega
/-- what a text of data may hold here -/
def smallT (t : Tr) : Prop := (∃ i, t = .int i ∧ i.natAbs.log2 < 1920) ∨ t = .non
theorem smallT_sh {t : Tr} (h : smallT t) : (toP t).showable = true ∧ (toP t).hasDict = false ∧ (toP t).depth = 0 ∧ (toP t).shown.length ≤ 1921 ∧ pureT t = true := by
  rcases h with ⟨i, rfl, h⟩ | rfl
  · exact ⟨decide_eq_true h, rfl, rfl, int_text_len_1921 h, rfl⟩
  · exact ⟨rfl, rfl, rfl, by decide, rfl⟩
theorem smallL {l : List Tr} (h : ∀ t ∈ l, smallT t) : PyData.showableAll (toPs l) = true ∧ PyData.hasDictAll (toPs l) = false ∧ PyData.depthAll (toPs l) = 0 ∧ pureL l = true := by
  induction l with
  | nil => exact ⟨rfl, rfl, rfl, rfl⟩
  | cons t r ih =>
    obtain ⟨a, b, c, d, e⟩ := smallT_sh (h t List.mem_cons_self)
    obtain ⟨a', b', c', e'⟩ := ih fun x hx => h x (List.mem_cons_of_mem _ hx)
    refine ⟨?_, ?_, ?_, ?_⟩
    · show ((toP t).showable && PyData.showableAll (toPs r)) = true
      rw [a, a']; rfl
    · show ((toP t).hasDict || PyData.hasDictAll (toPs r)) = false
      rw [b, b']; rfl
    · show max (toP t).depth (PyData.depthAll (toPs r)) = 0
      rw [c, c']; rfl
    · show (pureT t && pureL r) = true
      rw [e, e']; rfl
theorem reprS_tup {l : List Tr} {M : Ms} {Q : Q2} {fx : Fx Q} (h : ∀ t ∈ l, smallT t) (hl : l.length ≤ 1000) (hq : Q (.str (toP (.tup l)).shown) M) : ReprS (.tup l) M Q fx := by
  obtain ⟨a, b, c, e⟩ := smallL h
  refine ⟨toP (.tup l), dat_pure e, a, b, ?_, ?_, hq⟩
  · show PyData.depthAll (toPs l) + 1 ≤ 50
    rw [c]; decide
  · show (tupleText (PyData.shownAll (toPs l))).length ≤ _
    rw [shownAll_eq]
    have := tupleText_le (k := 1921) (ts := l.map fun t => (toP t).shown) fun t ht => by
      obtain ⟨x, hx, rfl⟩ := List.mem_map.mp ht
      exact (smallT_sh (h x hx)).2.2.2.1
    rw [List.length_map] at this
    rw [sizeLine_eq]
    omega
theorem reprS_int {i : Int} {M : Ms} {Q : Q2} {fx : Fx Q} (h : i.natAbs.log2 < 1920) (hq : Q (.str (toP (.int i)).shown) M) : ReprS (.int i) M Q fx :=
  ⟨.int i, rfl, decide_eq_true h, rfl, Nat.zero_le 50, by have := int_text_len_1921 h; rw [sizeLine_eq]; exact Nat.le_trans this (by decide), hq⟩
theorem log_small {i : Int} (h0 : -1000000 ≤ i) (h : i ≤ 1000000) : i.natAbs.log2 < 1920 := by
  by_cases c : i.natAbs = 0
  · rw [c]; decide
  · have : i.natAbs < 2 ^ 20 := by omega
    have := (Nat.log2_lt c).mpr this
    omega
theorem small_nat {k : Nat} (h : k ≤ 1000000) : smallT (natT k) := .inl ⟨k, rfl, log_small (by omega) (by omega)⟩
theorem small_opt {o : Option Nat} (h : ∀ k, o = some k → k ≤ 1000000) : smallT (optT o) := by
  cases o with
  | none => exact .inr rfl
  | some k => exact small_nat (h k rfl)
theorem par_lt {d : Doc} {c k : Nat} (h : parA d c = some k) : k < c := (lastI_spec h).1
theorem small_pars {d : Doc} (h : d.length ≤ 1000) : ∀ t ∈ parsT d d.length, smallT t := by
  intro t ht
  obtain ⟨i, hi, rfl⟩ := List.mem_map.mp ht
  exact small_opt fun k hk => by have := par_lt hk; simp at hi; omega
/-! ### the package's answers -/
def sp_parents : Sp2 := A1 fun a M Q _ => ∃ d, a = docT d ∧ Val d ∧ Q (.tup (parsT d d.length)) M
def n_parents : List Str := "document" :: []
def b_parents : TS2 := (sSq (sDr (eCall sp_need_document [] (aCons (eVar 0) aNil)))
  (sRt (eB rTuple2 (aCons (eCall sp_parents_of [] (aCons (eVar 0) aNil)) aNil))))
theorem sem_parents : ∀ ds M Q E, sp_parents ds M Q E → b_parents (fEnds Q E) (start2 n_parents ds) M := by
  rintro ds M Q E ⟨a, rfl, d, rfl, hv, hq⟩
  simp only [b_parents, start2, n_parents]
  simp
  refine ⟨_, rfl, d, rfl, hv, ?_⟩
  simp
  refine ⟨_, rfl, d, rfl, hv, fun p hp => ?_⟩
  simp
  exact Fg.le (Le.new hp) hq
def sp_children : Sp2 := A2 fun a b M Q _ => ∃ (d : Doc) (o : Option Nat), a = docT d ∧ b = optT o ∧ Val d ∧ (∀ k, o = some k → k < d.length) ∧ Q (.tup (chT d o)) M
def n_children : List Str := "document" :: "node" :: []
def b_children : TS2 := (sSq (sDr (eCall sp_need_document [] (aCons (eVar 0) aNil)))
  (sSq (sIf (tAn (tCm (eOp (rIsG not) (eVar 1) (eC .non))) (tNo (tTr (eCall sp_is_below [] (aCons (eVar 1) (aCons (eB rLen2 (aCons (eVar 0) aNil)) aNil)))))) sNv sNx)
  (sRt (eB rTuple2 (aCons (eCall sp_row_of [] (aCons (eVar 0) (aCons (eVar 1) aNil))) aNil)))))
theorem sem_children : ∀ ds M Q E, sp_children ds M Q E → b_children (fEnds Q E) (start2 n_children ds) M := by
  rintro ds M Q E ⟨a, b, rfl, d, o, rfl, rfl, hv, ho, hq⟩
  simp only [b_children, start2, n_children]
  simp
  refine ⟨_, rfl, d, rfl, hv, ?_⟩
  cases o with
  | none =>
    simp [optT]
    exact ⟨_, _, rfl, d, none, rfl, rfl, hv, ho, fun p hp => by simp; exact Fg.le (Le.new hp) hq⟩
  | some k =>
    have hk := ho k rfl
    simp [optT, docT]
    refine ⟨_, _, rfl, "int", d.length, rfl, rfl, ?_⟩
    have e : blw (.int k) (d.length : Int) = true := by simp; omega
    rw [e]
    simp
    exact ⟨_, _, rfl, d, some k, rfl, rfl, hv, ho, fun p hp => by simp; exact Fg.le (Le.new hp) hq⟩
def sizT (d : Doc) : List Tr := (List.range d.length).map fun k => .int ((endA d k : Int) - k)
def sp_sizes : Sp2 := A1 fun a M Q _ => ∃ d, a = docT d ∧ Val d ∧ Q (.tup (sizT d)) M
def n_sizes : List Str := "document" :: "node" :: "end" :: []
def b_sizes : TS2 := (sSq (sDr (eCall sp_need_document [] (aCons (eVar 0) aNil)))
  (sRt (eB rTuple2 (aCons (eLc (iEn (aCons (eCall sp_ends_of [] (aCons (eVar 0) aNil)) aNil)) (gT 2 (gCo (gN 1) (gCo (gN 2) gNil2))) tYes2 (eOp rSub2 (eVar 2) (eVar 1)) [1, 2]) aNil))))
theorem sem_sizes : ∀ ds M Q E, sp_sizes ds M Q E → b_sizes (fEnds Q E) (start2 n_sizes ds) M := by
  rintro ds M Q E ⟨a, rfl, d, rfl, hv, hq⟩
  simp only [b_sizes, start2, n_sizes]
  simp
  refine ⟨_, rfl, d, rfl, hv, ?_⟩
  simp
  refine ⟨_, rfl, d, rfl, hv, fun g hg => ?_⟩
  simp
  have hl := hv.2
  have el : (endsT d).length = d.length := by simp [endsT]
  refine fun p hp => lc_fmE (fun k => some (.int ((endA d k : Int) - k))) (by rw [el]; omega) (fun M' fr => seqT_lst (by rw [fr g (by intro e; subst e; rw [up_same] at hp; cases hp)]; exact up_same)) ?_ ?_
  · rw [fm_all, el]
    simp
    exact Fg.le ((Le.new hg).trans (Le.new hp)) hq
  · intro i e M' he fr KY KN h1 h2
    have hi : i < d.length := by have := (List.getElem?_eq_some_iff.mp he).1; omega
    have : (endsT d)[i]? = some (natT (endA d i)) := by simp [endsT, hi]
    rw [this] at he
    cases he
    simp [wipe2]
    exact h1 _ rfl
def depL (d : Doc) : List Int := d.map fun e => ((e.2 : Int) + 1)
def sp_depth_of : Sp2 := A1 fun a M Q _ => ∃ d, a = docT d ∧ Val d ∧ Q (.int (mxD (depL d) 0)) M
def n_depth_of : List Str := "document" :: "mark" :: "depth" :: []
def b_depth_of : TS2 := (sSq (sDr (eCall sp_need_document [] (aCons (eVar 0) aNil)))
  (sRt (eBK rMaxD (aCons (eLc (iSq (eVar 0)) (gT 2 (gCo (gN 1) (gCo (gN 2) gNil2))) tYes2 (eOp rAdd2 (eVar 2) (eC (.int 1))) [1, 2]) aNil) (aCons (eC (.int 0)) aNil))))
theorem sem_depth_of : ∀ ds M Q E, sp_depth_of ds M Q E → b_depth_of (fEnds Q E) (start2 n_depth_of ds) M := by
  rintro ds M Q E ⟨a, rfl, d, rfl, hv, hq⟩
  have hl := hv.2
  simp only [b_depth_of, start2, n_depth_of]
  simp
  refine ⟨_, rfl, d, rfl, hv, ?_⟩
  simp [docT]
  refine fun p hp => lc_fmL (fun k => some (.int ((depA d k : Int) + 1))) (by rw [List.length_map]; omega) (fun M' fr => rfl) ?_ ?_
  · simp only [aNil_ap, eC_ap, aCons_ap]
    rw [fm_all, List.length_map]
    simp
    refine ⟨depL d, seqT_lst ?_, (fun _ e => nomatch e), Fg.le (Le.new hp) hq⟩
    rw [up_same]
    congr 2
    apply List.ext_getElem?
    intro k
    rw [List.getElem?_map, List.getElem?_map]
    unfold depL
    rw [List.getElem?_map]
    by_cases hk : k < d.length
    · rw [List.getElem?_range hk]
      have : d[k]? = some d[k] := by simp [hk]
      rw [this, Option.map_some, Option.map_some, Option.map_some, depA_at this]
    · rw [List.getElem?_eq_none (by simp; omega), List.getElem?_eq_none (by omega)]; rfl
  · intro i e M' he fr KY KN h1 h2
    obtain ⟨en, hen, rfl⟩ := ent_at he
    simp [wipe2]
    exact h1 _ rfl
/-- the widest row -/
def IsMx (ns : List Int) (m : Int) : Prop := m ∈ ns ∧ ∀ y ∈ ns, y ≤ m
def rowsL (d : Doc) : List Int := (List.range (d.length + 1)).map fun k => ((rowI d k d.length).length : Int)
def sp_breadth_of : Sp2 := A1 fun a M Q _ => ∃ d, a = docT d ∧ Val d ∧ ∀ m, IsMx (rowsL d) m → Q (.int m) M
def n_breadth_of : List Str := "document" :: "row" :: []
def b_breadth_of : TS2 := (sSq (sDr (eCall sp_need_document [] (aCons (eVar 0) aNil)))
  (sRt (eB (rMaxL fun y m => y ≤ m) (aCons (eLc (iSq (eCall sp_rows_of [] (aCons (eVar 0) aNil))) (gN 1) tYes2 (eB rLen2 (aCons (eVar 1) aNil)) [1]) aNil))))
theorem sem_breadth_of : ∀ ds M Q E, sp_breadth_of ds M Q E → b_breadth_of (fEnds Q E) (start2 n_breadth_of ds) M := by
  rintro ds M Q E ⟨a, rfl, d, rfl, hv, hq⟩
  have hl := hv.2
  simp only [b_breadth_of, start2, n_breadth_of]
  simp
  refine ⟨_, rfl, d, rfl, hv, ?_⟩
  simp
  refine ⟨_, rfl, d, rfl, hv, fun M' p qs hp h1 h2 h3 h4 h5 h6 => ?_⟩
  simp [h4]
  refine fun g hg => lc_fmL (fun k => some (.int ((rowI d k d.length).length : Int))) (by rw [List.length_map]; omega) (fun M2 fr => seqT_lst (by rw [fr p (m_ne h4 hg)]; exact h4)) ?_ ?_
  · rw [fm_all, List.length_map, h1]
    simp
    refine ⟨rowsL d, seqT_lst ?_, (fun _ e => nomatch e), ?_, fun m m1 m2 => Fg.le (h6.trans (Le.new hg)) (hq m ⟨m1, m2⟩)⟩
    · rw [up_same]; simp [rowsL]
    · simp [rowsL]
  · intro i e M2 he fr KY KN h7 h8
    rw [List.getElem?_map] at he
    cases hc : qs[i]? with
    | none => rw [hc] at he; cases he
    | some q =>
      rw [hc] at he
      cases he
      have e5 := h5 i q hc
      have : M2 q = some (.lst (rowI d i d.length)) := by rw [fr q (m_ne e5 hg)]; exact e5
      simp [wipe2, this]
      exact h7 _ rfl
end T

/-! S: the laws' own parents. -/
namespace T
open PySem PySem.Spec PyProof.Rows L2
theorem datL_ints {M : Ms} : ∀ xs : List Int, DatL M (xs.map PyData.int) (xs.map Tr.int)
  | [] => rfl
  | x :: r => ⟨_, _, rfl, rfl, datL_ints r⟩
theorem lay_ints : ∀ xs : List Int, PyData.canLayAll0 (xs.map PyData.int) = true
  | [] => rfl
  | x :: r => by
    show (true && PyData.canLayAll0 (r.map PyData.int)) = true
    rw [lay_ints r]; rfl
theorem eqv_ints : ∀ xs ys : List Int, PyData.eqvAll (xs.map PyData.int) (ys.map PyData.int) = decide (xs = ys)
  | [], [] => rfl
  | [], _ :: _ => rfl
  | _ :: _, [] => rfl
  | x :: r, y :: s => by
    show ((x == y) && PyData.eqvAll (r.map PyData.int) (s.map PyData.int)) = _
    rw [eqv_ints r s]
    by_cases c : x = y
    · subst c; simp
    · simp [c]
theorem eqS_ints {f : Bool → Bool} {a b : Addr} {M : Ms} {Q : Q2} {fx : Fx Q} (xs ys : List Int) (ha : M a = some (.lst (xs.map Tr.int))) (hb : M b = some (.lst (ys.map Tr.int))) (hq : Q (.bl (f (decide (xs = ys)))) M) : EqS f (.loc a) (.loc b) M Q fx := by
  refine ⟨.list (xs.map PyData.int), .list (ys.map PyData.int), ⟨_, seqT_lst ha, (fun _ e => nomatch e), datL_ints xs⟩, ⟨_, seqT_lst hb, (fun _ e => nomatch e), datL_ints ys⟩, ?_, ?_, ?_⟩
  · show (PyData.canLayAll0 (xs.map PyData.int) && decide (PyData.depthAll (xs.map PyData.int) + 1 ≤ 64)) = true
    rw [lay_ints, depthAll_ints]; rfl
  · show (PyData.canLayAll0 (ys.map PyData.int) && decide (PyData.depthAll (ys.map PyData.int) + 1 ≤ 64)) = true
    rw [lay_ints, depthAll_ints]; rfl
  · show Q (.bl (f (PyData.eqvAll (xs.map PyData.int) (ys.map PyData.int)))) M
    rw [eqv_ints]; exact hq
def sp__law_parents : Sp2 := A1 fun a M Q _ => ∃ d, a = docT d ∧ Val d ∧ ∀ p, M p = none → Q (.loc p) (up M p (.lst (parsT d d.length)))
def n__law_parents : List Str := "document" :: "got" :: "open_nodes" :: "node" :: "mark" :: "depth" :: []
def b__law_parents : TS2 := (sSq (sPr 1 2 (aCons (eLst aNil) (aCons (eLst aNil) aNil)))
  (sSq (sFo (iEn (aCons (eVar 0) aNil)) (gT 2 (gCo (gN 3) (gCo (gT 2 (gCo (gN 4) (gCo (gN 5) gNil2))) gNil2))) (sSq (sAs (eSl rSl2 (eVar 2) oNo (oPart (eVar 5))) (gN 2))
  (sSq (sDr (eM "list" rApp2 (eVar 1) (aCons (eIf (tCm (eOp (rEqG not) (eVar 2) (eLst aNil))) (eOp rIx2 (eVar 2) (eUn rNeg2 (eC (.int 1)))) (eC .non)) aNil)))
  (sDr (eM "list" rApp2 (eVar 2) (aCons (eVar 3) aNil))))))
  (sRt (eVar 1))))
theorem sem__law_parents : ∀ ds M Q E, sp__law_parents ds M Q E → b__law_parents (fEnds Q E) (start2 n__law_parents ds) M := by
  rintro ds M Q E ⟨a, rfl, d, rfl, ⟨hv, hl⟩, hq⟩
  simp only [b__law_parents, start2, n__law_parents]
  simp
  intro p hp
  simp
  intro g hg
  have gp : g ≠ p := by intro e; subst e; rw [up_same] at hg; cases hg
  have pg : p ≠ g := fun e => gp e.symm
  have hg2 : M g = none := by rw [up_ne gp] at hg; exact hg
  simp [docT]
  refine for_itE (fun i σ M' => ∃ (g : Addr) (st : List Nat) (x y z : Option Tr), σ = [some (docT d), some (.loc p), some (.loc g), x, y, z] ∧ p ≠ g ∧ M g = none ∧ M' p = some (.lst (parsT d i)) ∧ M' g = some (.lst (st.map natT)) ∧ (∀ a o, a ≠ p → M a = some o → M' a = some o) ∧ Path d i st ∧ st.length = pathN d i) ?_ ?_ ?_ ?_
  · exact ⟨g, [], none, none, none, rfl, pg, hg2, by rw [up_ne pg, up_same]; rfl, up_same, fun a o h1 h2 => by rw [up_ne (m_ne h2 hg2), up_ne h1]; exact h2, ⟨fun i k e => by simp at e⟩, rfl⟩
  · rintro i σ M' _ ⟨g, st, x, y, z, rfl, _⟩
    rfl
  · rintro i e σ M' he ⟨g, st, x, y, z, rfl, pg, mg, ep, eg, fr, hP, hst⟩
    obtain ⟨en, hen, rfl⟩ := ent_at he
    have hi : i < d.length := (List.getElem?_eq_some_iff.mp hen).1
    have hdl := Val.dep_le hv hi
    rw [← hst] at hdl
    have hdi := Val.dep_lt hv hi
    have hP2 := hP.pop (depA d i)
    have hl2 : (st.take (depA d i)).length = depA d i := by rw [List.length_take]; omega
    have hpar := hP2.par hl2
    have hps : (parsT d i).length = i := by simp [parsT]
    have e1 : parsT d (i + 1) = parsT d i ++ [optT (parA d i)] := by simp [parsT, List.range_succ]
    have e3 : pathN d (i + 1) = depA d i + 1 := by simp [pathN]
    simp only [gT_ap, gCo_ap, gN_3, gN_4, gN_5, gNil2_ap, List.length_cons, List.length_nil, true_and]
    refine nx_cut fun NX hN => ?_
    simp [eg, cutT_hi, -List.map_take]
    intro h hh
    have mh : M h = none := by
      cases q : M h with
      | none => rfl
      | some o =>
        by_cases c : h = p
        · subst c; rw [hp] at q; cases q
        · rw [fr h o c q] at hh; cases hh
    have ph : p ≠ h := m_ne ep hh
    have ml : (st.map natT).take (depA d i) = (st.take (depA d i)).map natT := by rw [List.map_take]
    rw [ml]
    simp [-List.map_take, up_ne ph, ep]
    intro q hq1
    have hq2 : h ≠ q := m_ne up_same hq1
    have mq : M q = none := by
      cases z : M q with
      | none => rfl
      | some o =>
        by_cases c : q = p
        · subst c; rw [hp] at z; cases z
        · rw [up_ne (fun e => hq2 e.symm), fr q o c z] at hq1; cases hq1
    have pq : p ≠ q := m_ne (o := .lst (parsT d i)) (by rw [up_ne ph]; exact ep) hq1
    have fin : ∀ M2 : Ms, M2 p = some (.lst (parsT d i ++ [optT (parA d i)])) → M2 h = some (.lst ((st.take (depA d i)).map natT ++ [natT i])) → (∀ a o, a ≠ p → M a = some o → M2 a = some o) → NX [some (docT d), some (.loc p), some (.loc h), some (Tr.int i), some (.str en.1), some (.int (depA d i))] M2 := fun M2 q1 q2 q3 =>
      hN _ _ ⟨h, st.take (depA d i) ++ [i], _, _, _, rfl, ph, mh, by rw [e1]; exact q1, by rw [List.map_append]; exact q2, q3, hP2.push hl2, by rw [List.length_append, hl2, e3]; rfl⟩
    have ei : (st.take (depA d i)).map natT = ((st.take (depA d i)).map fun (k : Nat) => (k : Int)).map Tr.int := by rw [List.map_map]; rfl
    simp only [rEqG_ll]
    refine eqS_ints ((st.take (depA d i)).map fun (k : Nat) => (k : Int)) [] (by rw [up_ne hq2, up_same, ei]) up_same ?_
    have frm : ∀ (A B : MO), ∀ a o, a ≠ p → M a = some o → up (up (up (up M' h (.lst ((st.take (depA d i)).map natT))) q (.lst [])) p A) h B a = some o := fun A B a o h1 h2 => by
      rw [up_ne (m_ne h2 mh), up_ne h1, up_ne (m_ne h2 mq), up_ne (m_ne h2 mh)]; exact fr a o h1 h2
    by_cases c0 : depA d i = 0
    · rw [if_pos c0] at hpar
      have et : st.take (depA d i) = [] := by rw [c0]; rfl
      rw [et] at fin frm ⊢
      simp [up_ne ph, up_ne pq, up_ne (fun e => ph e.symm : h ≠ p), up_ne hq2, ep, hps]
      refine ⟨small_lt (by omega), small_lt (by omega), fin _ ?_ ?_ (frm _ _)⟩
      · rw [up_ne ph, up_same, hpar]; rfl
      · rw [up_same]; rfl
    · rw [if_neg c0, hl2] at hpar
      have hk : depA d i - 1 < (st.take (depA d i)).length := by omega
      have e2 : (st.take (depA d i))[depA d i - 1]? = some (st.take (depA d i))[depA d i - 1] := by simp only [List.getElem?_eq_getElem hk]
      rw [e2] at hpar
      have e4 : ((st.take (depA d i)).map natT)[((st.take (depA d i)).map natT).length - 1]? = some (natT (st.take (depA d i))[depA d i - 1]) := by
        rw [List.length_map, hl2, List.getElem?_map, e2]; rfl
      have ne : ((st.take (depA d i)).map fun (k : Nat) => (k : Int)) ≠ [] := by
        intro e
        have := congrArg List.length e
        rw [List.length_map, hl2] at this
        exact c0 this
      simp [-List.map_take, -List.map_eq_nil_iff, ne, up_ne ph, up_ne pq, up_ne (fun e => ph e.symm : h ≠ p), up_ne hq2, ep, hps, ↓kAt_last e4, Nat.min_eq_left hdl]
      refine ⟨small_lt (by omega), small_lt (by omega), fin _ ?_ ?_ (frm _ _)⟩
      · rw [up_ne ph, up_same, hpar]; simp [optT]
      · rw [up_same]
  · rintro σ M' ⟨g, st, x, y, z, rfl, pg, mg, ep, eg, fr, _⟩
    simp
    refine Fg.le (M := up M p (.lst (parsT d d.length))) (fun a u e => ?_) (hq p hp)
    by_cases c : a = p
    · subst c; rw [up_same] at e; rw [← e]; simpa using ep
    · rw [up_ne c] at e
      exact fr a u c e
end T

/-! V: texts of documents, as lists of signs. -/
namespace T
open PySem PySem.Spec PyProof.Rows L2
abbrev Cps := List Nat
def mkL (e : Str × Nat) : Cps := e.1.cps.toList
def sepL (last h : Nat) : Cps := if last < h then [40] else List.replicate (last - h) 41 ++ [32]
/-- the text behind a node of depth last, of nodes not less deep than g -/
def bodyG (g last : Nat) : Doc → Cps
  | [] => List.replicate (last - g) 41
  | e :: r => sepL last e.2 ++ mkL e ++ bodyG g e.2 r
def textG (g : Nat) : Doc → Cps
  | [] => []
  | e :: r => mkL e ++ bodyG g e.2 r
theorem bodyG_in {g : Nat} {B : Doc} (hB : ∀ b ∈ B.head?, b.2 = g) : ∀ {A : Doc} {last : Nat}, g + 1 ≤ last → (∀ a ∈ A, g + 1 ≤ a.2) →
    bodyG g last (A ++ B) = bodyG (g + 1) last A ++ [41] ++ (if B = [] then [] else [32] ++ textG g B)
  | [], last, h, _ => by
    cases B with
    | nil =>
      simp only [List.append_nil, if_true, bodyG]
      have : last - g = (last - (g + 1)) + 1 := by omega
      rw [this, List.replicate_succ']
    | cons b r =>
      have hb := hB b (by simp)
      show sepL last b.2 ++ mkL b ++ bodyG g b.2 r = List.replicate (last - (g + 1)) 41 ++ [41] ++ (if (b :: r : Doc) = [] then [] else [32] ++ (mkL b ++ bodyG g b.2 r))
      rw [if_neg (by simp), hb]
      unfold sepL
      rw [if_neg (by omega)]
      have : last - g = (last - (g + 1)) + 1 := by omega
      rw [this, List.replicate_succ']
      simp only [List.append_assoc]
  | a :: r, last, h, hA => by
    have ha := hA a List.mem_cons_self
    have ih := bodyG_in hB (A := r) (last := a.2) ha fun x hx => hA x (List.mem_cons_of_mem _ hx)
    show sepL last a.2 ++ mkL a ++ bodyG g a.2 (r ++ B) = sepL last a.2 ++ mkL a ++ bodyG (g + 1) a.2 r ++ [41] ++ _
    rw [ih]
    simp only [List.append_assoc]
theorem textG_split {g : Nat} {e : Str × Nat} {A B : Doc} (he : e.2 = g) (hA : ∀ a ∈ A, g + 1 ≤ a.2) (hA1 : ∀ a ∈ A.head?, a.2 = g + 1) (hB : ∀ b ∈ B.head?, b.2 = g) :
    textG g (e :: (A ++ B)) = mkL e ++ (if A = [] then [] else [40] ++ textG (g + 1) A ++ [41]) ++ (if B = [] then [] else [32] ++ textG g B) := by
  cases A with
  | nil =>
    cases B with
    | nil => simp [textG, bodyG, he]
    | cons b r =>
      have hb := hB b (by simp)
      simp [textG, bodyG, he, hb, sepL]
  | cons a r =>
    have ha := hA1 a (by simp)
    show mkL e ++ (sepL e.2 a.2 ++ mkL a ++ bodyG g a.2 (r ++ B)) = mkL e ++ (if (a :: r : Doc) = [] then [] else [40] ++ (mkL a ++ bodyG (g + 1) a.2 r) ++ [41]) ++ _
    rw [if_neg (by simp), bodyG_in hB (by omega) (fun x hx => hA x (List.mem_cons_of_mem _ hx)), he]
    have : sepL g a.2 = [40] := by unfold sepL; rw [if_pos (by omega)]
    rw [this]
    simp only [List.append_assoc]
/-! segments -/
def seg (d : Doc) (i j : Nat) : Doc := (d.drop i).take (j - i)
theorem seg_nil {d : Doc} {i : Nat} : seg d i i = [] := by simp [seg]
theorem seg_cons {d : Doc} {i j : Nat} (h : i < j) (hi : i < d.length) : seg d i j = d[i] :: seg d (i + 1) j := by
  unfold seg
  rw [List.drop_eq_getElem_cons hi, show j - i = (j - (i + 1)) + 1 by omega, List.take_succ_cons]
theorem seg_app {d : Doc} {i j k : Nat} (h1 : i ≤ j) (h2 : j ≤ k) : seg d i k = seg d i j ++ seg d j k := by
  unfold seg
  have : k - i = (j - i) + (k - j) := by omega
  rw [this, List.take_add, List.drop_drop, show i + (j - i) = j by omega]
theorem seg_mem {d : Doc} {i j : Nat} {x : Str × Nat} (h : x ∈ seg d i j) : ∃ c, i ≤ c ∧ c < j ∧ c < d.length ∧ d[c]? = some x := by
  unfold seg at h
  obtain ⟨k, hk, rfl⟩ := List.getElem_of_mem h
  simp at hk
  refine ⟨i + k, by omega, by omega, by omega, ?_⟩
  simp
theorem seg_head {d : Doc} {i j : Nat} (h : i < j) (hi : i < d.length) : (seg d i j).head? = some d[i] := by rw [seg_cons h hi]; rfl
theorem seg_empty {d : Doc} {i j : Nat} (h : i ≤ j) (hj : j ≤ d.length) : seg d i j = [] ↔ i = j := by
  constructor
  · intro e
    have := congrArg List.length e
    simp [seg] at this
    omega
  · intro e; subst e; exact seg_nil
def segT (d : Doc) (g i j : Nat) : Cps := textG g (seg d i j)
/-- the text of the node k with all below it -/
def TT (d : Doc) (k : Nat) : Cps := segT d (depA d k) k (endA d k)
theorem segT_step {d : Doc} (hv : Vd 0 d) {g i j : Nat} (h : i < j) (hj : j ≤ d.length) (hi : depA d i = g) (hd : ∀ c, i < c → c < j → g ≤ depA d c) (hs : j < d.length → depA d j ≤ g) :
    endA d i ≤ j ∧ segT d g i j = TT d i ++ (if endA d i = j then [] else [32] ++ segT d g (endA d i) j) ∧ (endA d i < j → depA d (endA d i) = g) ∧
      TT d i = mkL (d[i]'(by omega)) ++ (if i + 1 = endA d i then [] else [40] ++ segT d (g + 1) (i + 1) (endA d i) ++ [41]) := by
  have hi2 : i < d.length := by omega
  have E := endA_ok hi2
  have l1 := E.lt
  have l2 := E.le
  have le : endA d i ≤ j := by
    by_cases c : endA d i ≤ j
    · exact c
    · have := E.deep j h (by omega)
      have := hs (by omega)
      omega
  have hg : endA d i < j → depA d (endA d i) = g := fun c => by
    have h1 := E.stop (by omega)
    have h2 := hd _ l1 c
    omega
  have dA : ∀ a ∈ seg d (i + 1) (endA d i), g + 1 ≤ a.2 := fun a ha => by
    obtain ⟨c, c1, c2, c3, c4⟩ := seg_mem ha
    have := E.deep c (by omega) c2
    rw [depA_at c4] at this
    omega
  have dA1 : ∀ a ∈ (seg d (i + 1) (endA d i)).head?, a.2 = g + 1 := fun a ha => by
    by_cases c : i + 1 < endA d i
    · rw [seg_head c (by omega)] at ha
      have e : a = d[i + 1] := by simpa using ha.symm
      have e2 : d[i + 1]? = some a := by rw [e]; simp
      have h1 := E.deep (i + 1) (by omega) c
      have h2 := Val.dep_le hv (i := i + 1) (by omega)
      have h3 : pathN d (i + 1) = depA d i + 1 := by simp [pathN]
      rw [depA_at e2] at h1 h2
      omega
    · have : seg d (i + 1) (endA d i) = [] := by rw [show endA d i = i + 1 by omega]; exact seg_nil
      rw [this] at ha; simp at ha
  have dB : ∀ k, (k ≤ d.length) → (endA d i < k → depA d (endA d i) = g) → ∀ b ∈ (seg d (endA d i) k).head?, b.2 = g := fun k hk hgk b hb => by
    by_cases c : endA d i < k
    · rw [seg_head c (by omega)] at hb
      have e : b = d[endA d i] := by simpa using hb.symm
      have e2 : d[endA d i]? = some b := by rw [e]; simp
      have := hgk c
      rw [depA_at e2] at this
      exact this
    · have : seg d (endA d i) k = [] := by
        unfold seg
        rw [show k - endA d i = 0 by omega, List.take_zero]
      rw [this] at hb; simp at hb
  have hmk : (d[i]).2 = g := by
    have e2 : d[i]? = some d[i] := by simp [hi2]
    rw [← depA_at e2]; exact hi
  have sp : ∀ k, endA d i ≤ k → k ≤ d.length → (endA d i < k → depA d (endA d i) = g) → segT d g i k = mkL d[i] ++ (if i + 1 = endA d i then [] else [40] ++ segT d (g + 1) (i + 1) (endA d i) ++ [41]) ++ (if endA d i = k then [] else [32] ++ segT d g (endA d i) k) := fun k k1 k2 k3 => by
    unfold segT
    rw [seg_cons (by omega) hi2, seg_app (j := endA d i) (by omega) k1, textG_split hmk dA dA1 (dB k k2 k3)]
    have s1 := seg_empty (d := d) (i := i + 1) (j := endA d i) (by omega) l2
    have s2 := seg_empty (d := d) (i := endA d i) (j := k) k1 k2
    simp only [s1, s2]
  have t1 : TT d i = mkL d[i] ++ (if i + 1 = endA d i then [] else [40] ++ segT d (g + 1) (i + 1) (endA d i) ++ [41]) := by
    unfold TT
    rw [hi, sp _ (Nat.le_refl _) l2 (fun c => absurd c (Nat.lt_irrefl _)), if_pos rfl, List.append_nil]
  refine ⟨le, ?_, hg, t1⟩
  rw [t1]
  exact sp j le hj hg
/-! the nodes at the top of a segment -/
def jn : List Cps → Cps
  | [] => []
  | [x] => x
  | x :: y :: r => x ++ [32] ++ jn (y :: r)
def tops (d : Doc) (g i j : Nat) : List Nat := (List.range' i (j - i)).filter fun c => decide (depA d c = g)
theorem range_cut {i j k : Nat} (h1 : i ≤ j) (h2 : j ≤ k) : List.range' i (k - i) = List.range' i (j - i) ++ List.range' j (k - j) := by
  have e1 := List.range'_append_1 (s := i) (m := j - i) (n := k - j)
  rw [show i + (j - i) = j by omega, show j - i + (k - j) = k - i by omega] at e1
  exact e1.symm
theorem tops_step {d : Doc} {g i j : Nat} (h : i < j) (hi : depA d i = g) (le : endA d i ≤ j) (hi2 : i < d.length) : tops d g i j = i :: tops d g (endA d i) j := by
  have E := endA_ok hi2
  have l1 := E.lt
  unfold tops
  rw [range_cut (Nat.le_of_lt l1) le, List.filter_append]
  rw [show endA d i - i = (endA d i - (i + 1)) + 1 by omega, List.range'_succ, List.filter_cons_of_pos (by simpa using hi)]
  have z : (List.range' (i + 1) (endA d i - (i + 1))).filter (fun c => decide (depA d c = g)) = [] := ?_
  · rw [z]; rfl
  refine List.filter_eq_nil_iff.mpr fun c hc => ?_
  simp at hc
  have := E.deep c (by omega) (by omega)
  simp; omega
theorem tops_nil {d : Doc} {g i : Nat} : tops d g i i = [] := by simp [tops]
theorem segT_jn {d : Doc} (hv : Vd 0 d) {g j : Nat} (hj : j ≤ d.length) (hs : j < d.length → depA d j ≤ g) : ∀ (n i : Nat), n = j - i → i < j → depA d i = g → (∀ c, i < c → c < j → g ≤ depA d c) → segT d g i j = jn ((tops d g i j).map (TT d)) := by
  intro n
  induction n using Nat.strongRecOn with
  | ind n ih =>
    intro i hn h hi hd
    obtain ⟨le, e1, e2, _⟩ := segT_step hv h hj hi hd hs
    have l1 := (endA_ok (d := d) (k := i) (by omega)).lt
    rw [e1, tops_step h hi le (by omega)]
    by_cases c : endA d i = j
    · rw [if_pos c, c, tops_nil]
      simp [jn]
    · rw [if_neg c]
      have r := ih (j - endA d i) (by omega) (endA d i) rfl (by omega) (e2 (by omega)) fun c h1 h2 => hd c (by omega) h2
      rw [r]
      have t := tops_step (d := d) (g := g) (i := endA d i) (j := j) (by omega) (e2 (by omega)) (by
        exact (segT_step hv (by omega) hj (e2 (by omega)) (fun c h1 h2 => hd c (by omega) h2) hs).1) (by omega)
      rw [t]
      simp only [List.map_cons, jn, List.append_assoc]
/-- children by segments -/
theorem ch_tops {d : Doc} (hv : Vd 0 d) {k : Nat} (hk : k < d.length) : chA d (some k) = tops d (depA d k + 1) (k + 1) (endA d k) := by
  have E := endA_ok hk
  have hle := E.le
  have hlt := E.lt
  unfold chA tops
  exact filter_range (n := d.length) (a := k + 1) (b := endA d k) (p := fun c => decide (depA d c = depA d k + 1)) (q := fun c => decide (parA d c = some k)) (by omega) (by omega) (fun c hc => by
    have := par_some hv hc hk
    rw [Bool.eq_iff_iff]
    simp [this]
    omega)
theorem root_tops {d : Doc} (hv : Vd 0 d) : chA d none = tops d 0 0 d.length := by
  unfold chA tops
  rw [Nat.sub_zero, List.range_eq_range']
  refine List.filter_congr fun c hc => ?_
  have := par_none hv (c := c) (by simpa using hc)
  simp [this]
theorem TT_rec {d : Doc} (hv : Vd 0 d) {k : Nat} (hk : k < d.length) : TT d k = mkL d[k] ++ (if chA d (some k) = [] then [] else [40] ++ jn ((chA d (some k)).map (TT d)) ++ [41]) := by
  have E := endA_ok hk
  have hle := E.le
  have hlt := E.lt
  obtain ⟨_, _, _, e⟩ := segT_step hv (i := k) (j := endA d k) hlt hle rfl (fun c h1 h2 => Nat.le_of_lt (E.deep c h1 h2)) E.stop
  rw [e, ch_tops hv hk]
  by_cases c : k + 1 = endA d k
  · have z : tops d (depA d k + 1) (k + 1) (endA d k) = [] := by rw [c]; exact tops_nil
    rw [if_pos c, z, if_pos rfl]
  · rw [if_neg c]
    have d1 : depA d (k + 1) = depA d k + 1 := by
      have h1 := E.deep (k + 1) (by omega) (by omega)
      have h2 := Val.dep_le hv (i := k + 1) (by omega)
      have h3 : pathN d (k + 1) = depA d k + 1 := by simp [pathN]
      omega
    have le := (segT_step hv (g := depA d k + 1) (i := k + 1) (j := endA d k) (by omega) hle d1 (fun c h1 h2 => E.deep c (by omega) h2) (fun h => by have := E.stop h; omega)).1
    rw [if_neg (by rw [tops_step (by omega) d1 le (by omega)]; simp), segT_jn hv hle (fun h => by have := E.stop h; omega) _ (k + 1) rfl (by omega) d1 fun c h1 h2 => E.deep c (by omega) h2]
theorem doc_jn {d : Doc} (hv : Vd 0 d) : textG 0 d = jn ((chA d none).map (TT d)) := by
  have e : seg d 0 d.length = d := by simp [seg]
  cases hd : d with
  | nil => rfl
  | cons x r =>
    have hl : 0 < d.length := by rw [hd]; simp
    have h0 : depA d 0 = 0 := by have := Val.dep_lt hv hl; omega
    have := segT_jn hv (g := 0) (j := d.length) (Nat.le_refl _) (fun h => absurd h (Nat.lt_irrefl _)) _ 0 rfl hl h0 fun _ _ _ => Nat.zero_le _
    unfold segT at this
    rw [e] at this
    rw [← hd, root_tops hv, this]
end T

/-! V: text_of. -/
namespace T
open PySem PySem.Spec PyProof.Rows L2
def sOf (l : Cps) : Str := ⟨l.toArray⟩
theorem sOf_cps {l : Cps} : (sOf l).cps.toList = l := by simp [sOf]
theorem str_eq {x y : Str} (h : x.cps.toList = y.cps.toList) : x = y := by
  obtain ⟨a⟩ := x
  obtain ⟨b⟩ := y
  have : a = b := Array.toList_inj.mp h
  rw [this]
theorem cps_app {x y : Str} : (x ++ y).cps.toList = x.cps.toList ++ y.cps.toList := by
  show (x.cps ++ y.cps).toList = _
  simp
theorem len_cps {x : Str} : x.length = x.cps.toList.length := by
  show x.cps.size = _
  simp
theorem rep_list (a : Array Nat) : ∀ (n : Nat) (acc : Array Nat), ((List.replicate n a).foldl (· ++ ·) acc).toList = acc.toList ++ (List.replicate n a.toList).flatten
  | 0, acc => by simp
  | n + 1, acc => by
    rw [List.replicate_succ, List.foldl_cons, rep_list a n, List.replicate_succ, List.flatten_cons]
    simp
theorem rep1 {z : Str} {c n : Nat} (h : z.cps.toList = [c]) : (repS z n).cps.toList = List.replicate n c := by
  show ((List.replicate n z.cps).foldl (· ++ ·) #[]).toList = _
  rw [rep_list, h]
  have : ∀ n : Nat, (List.replicate n [c]).flatten = List.replicate n c := fun n => by
    induction n with
    | zero => rfl
    | succ n ih => rw [List.replicate_succ, List.replicate_succ, List.flatten_cons, ih]; rfl
  simp [this]
theorem join0 (ys : List Str) : (Txt.join "" ys).cps.toList = (ys.map fun y => y.cps.toList).flatten := by
  rw [TL.join_eq]
  induction ys with
  | nil => rfl
  | cons x r ih =>
    cases r with
    | nil => simp [Str.join]
    | cons y r =>
      show (x ++ "" ++ Str.join "" (y :: r)).cps.toList = _
      rw [cps_app, cps_app, ih]
      have : (("" : String) : Str).cps.toList = [] := rfl
      rw [this]
      simp
theorem isMk_cps {z : Str} (h : isMk (.str z) = true) : ∃ c, z.cps.toList = [c] := by
  simp only [isMk, Bool.and_eq_true, decide_eq_true_eq] at h
  have e := len_cps (x := z)
  rw [h.1] at e
  match z.cps.toList, e with
  | [c], _ => exact ⟨c, rfl⟩
theorem sum_le {k : Nat} : ∀ {ys : List Str}, (∀ y ∈ ys, y.length ≤ k) → (ys.map (·.length)).sum ≤ ys.length * k
  | [], _ => by simp
  | y :: r, h => by
    have h1 := h y List.mem_cons_self
    have h2 := sum_le (ys := r) fun x hx => h x (List.mem_cons_of_mem _ hx)
    rw [List.map_cons, List.sum_cons, List.length_cons, Nat.add_mul]
    omega
theorem flat_len {k : Nat} {ys : List Str} (h : ∀ y ∈ ys, y.length ≤ k) : ((ys.map fun y => y.cps.toList).flatten).length ≤ ys.length * k := by
  induction ys with
  | nil => simp
  | cons y r ih =>
    have h1 := h y List.mem_cons_self
    have h2 := ih fun x hx => h x (List.mem_cons_of_mem _ hx)
    rw [List.map_cons, List.flatten_cons, List.length_append, List.length_cons, Nat.add_mul, ← len_cps]
    omega
def sp_text_of : Sp2 := A1 fun a M Q _ => ∃ d, a = docT d ∧ Val d ∧ d.length ≤ 2000 ∧ Q (.str (sOf (textG 0 d))) M
def n_text_of : List Str := "document" :: "parts" :: "last" :: "mark" :: "depth" :: []
def b_text_of : TS2 := (sSq (sAs (eLst aNil) (gN 1))
  (sSq (sAs (eUn rNeg2 (eC (.int 1))) (gN 2))
  (sSq (sFo (iSq (eVar 0)) (gT 2 (gCo (gN 3) (gCo (gN 4) gNil2))) (sSq (sIf (tCm (eOp rGtI (eVar 4) (eVar 2))) (sDr (eM "list" rApp2 (eVar 1) (aCons (eIf (tCm (eOp rGeI (eVar 2) (eC (.int 0)))) (eOp rMul3 (eC (.str "(")) (eOp rSub2 (eVar 4) (eVar 2))) (eC (.str ""))) aNil))) (sDr (eM "list" rApp2 (eVar 1) (aCons (eOp rAdd2 (eOp rMul3 (eC (.str ")")) (eOp rSub2 (eVar 2) (eVar 4))) (eC (.str " "))) aNil))))
  (sSq (sDr (eM "list" rApp2 (eVar 1) (aCons (eVar 3) aNil)))
  (sAs (eVar 4) (gN 2)))))
  (sRt (eOp rAdd2 (eM1 rJoin2 (eC (.str "")) (eVar 1)) (eOp rMul3 (eC (.str ")")) (eB rMax2 (aCons (eC (.int 0)) (aCons (eVar 2) aNil)))))))))
theorem sem_text_of : ∀ ds M Q E, sp_text_of ds M Q E → b_text_of (fEnds Q E) (start2 n_text_of ds) M := by
  rintro ds M Q E ⟨a, rfl, d, rfl, ⟨hv, _⟩, hl, hq⟩
  have k40 : (("(" : String) : Str).cps.toList = [40] := by decide
  have k41 : ((")" : String) : Str).cps.toList = [41] := by decide
  have k32 : ((" " : String) : Str).cps.toList = [32] := by decide
  simp only [b_text_of, start2, n_text_of]
  simp
  intro p hp
  simp [docT]
  refine for_itL (fun i σ M' => ∃ (ys : List Str) (last : Int) (x y : Option Tr), σ = [some (docT d), some (.loc p), some (.int last), x, y] ∧ M' = up M p (.lst (ys.map Tr.str)) ∧ ys.length = 2 * i ∧ (∀ y ∈ ys, y.length ≤ 2002) ∧
    ((i = 0 ∧ last = -1 ∧ ys = []) ∨ (0 < i ∧ last = depA d (i - 1) ∧ (ys.map fun y => y.cps.toList).flatten ++ bodyG 0 (depA d (i - 1)) (d.drop i) = textG 0 d))) ?_ ?_ ?_ ?_
  · exact ⟨[], -1, none, none, rfl, rfl, rfl, (fun y h => by simp at h), .inl ⟨rfl, rfl, rfl⟩⟩
  · rintro i σ M' _ ⟨ys, last, x, y, rfl, rfl, _⟩
    rfl
  · rintro i e σ M' he ⟨ys, last, x, y, rfl, rfl, hn, hy, hc⟩
    obtain ⟨en, hen, rfl⟩ := ent_at he
    have hi : i < d.length := (List.getElem?_eq_some_iff.mp hen).1
    have hdi := Val.dep_lt hv hi
    have hmk := (hv.dep i en hen).1
    obtain ⟨ch, hch⟩ := isMk_cps hmk
    have hml : en.1.length ≤ 2002 := by rw [len_cps, hch]; simp
    have hdr : d.drop i = en :: d.drop (i + 1) := by
      rw [List.drop_eq_getElem_cons hi]
      have : d[i]? = some d[i] := by simp [hi]
      rw [this] at hen
      rw [Option.some.inj hen]
    have hed : en.2 = depA d i := (depA_at hen).symm
    simp only [gT_ap, gCo_ap, gN_3, gN_4, gNil2_ap, List.length_cons, List.length_nil, true_and]
    refine nx_cut fun NX hN => ?_
    -- what is written ahead of the mark
    have fin : ∀ (z : Str) (x y : Option Tr), z.length ≤ 2002 → ((ys = [] ∧ i = 0 ∧ z.cps.toList = []) ∨ (0 < i ∧ last = depA d (i - 1) ∧ (ys.map fun y => y.cps.toList).flatten ++ bodyG 0 (depA d (i - 1)) (d.drop i) = textG 0 d ∧ z.cps.toList = sepL (depA d (i - 1)) en.2)) →
        NX [some (docT d), some (.loc p), some (.int (depA d i)), x, y] (up M p (.lst (ys.map Tr.str ++ [Tr.str z] ++ [Tr.str en.1]))) := fun z x y hz hc => by
      refine hN _ _ ⟨ys ++ [z] ++ [en.1], depA d i, x, y, rfl, by simp, by simp [hn]; omega, fun w hw => ?_, .inr ⟨by omega, by simp, ?_⟩⟩
      · simp at hw
        rcases hw with hw | rfl | rfl
        · exact hy w hw
        · exact hz
        · exact hml
      · simp only [Nat.add_sub_cancel]
        rcases hc with ⟨h1, h2, h3⟩ | ⟨h1, h2, h3, h4⟩
        · subst h1 h2
          have : d = en :: d.drop 1 := by simpa using hdr
          rw [this]
          simp [textG, mkL, h3, depA]
        · rw [hdr] at h3
          rw [← h3]
          show _ = _ ++ (sepL (depA d (i - 1)) en.2 ++ mkL en ++ bodyG 0 en.2 (d.drop (i + 1)))
          simp [h4, mkL, hed]
    rcases hc with ⟨h1, h2, h3⟩ | ⟨h1, h2, h3⟩
    · subst h2
      have hd0 : depA d i = 0 := by omega
      rw [hd0]
      simp
      have z0 : ((("" : String) : Str)).cps.toList = [] := rfl
      have := fin "" (some (.str en.1)) (some (.int 0)) (by decide) (.inl ⟨h3, h1, z0⟩)
      rw [hd0] at this
      simp at this
      exact ⟨small_lt (by omega), small_lt (by omega), this⟩
    · subst h2
      have hpl : depA d i ≤ depA d (i - 1) + 1 := by
        have := Val.dep_le hv hi
        unfold pathN at this
        rw [if_neg (by omega)] at this
        exact this
      have hdp := Val.dep_lt hv (i := i - 1) (by omega)
      by_cases c : depA d (i - 1) < depA d i
      · simp [c]
        refine ⟨by decide, by omega, by omega, small_lt (by omega), small_lt (by omega), ?_⟩
        have e1 : depA d i - depA d (i - 1) = 1 := by omega
        rw [e1]
        have := fin (repS "(" 1) (some (.str en.1)) (some (.int (depA d i))) (by decide) (.inr ⟨h1, rfl, h3, by rw [rep1 k40, hed, sepL, if_pos c]; rfl⟩)
        simpa using this
      · simp [c]
        have lz : (repS ")" (depA d (i - 1) - depA d i)).length = depA d (i - 1) - depA d i := by
          rw [repS_len]
          have : ((")" : String) : Str).length = 1 := rfl
          rw [this]; omega
        refine ⟨by decide, by omega, by omega, ?_, small_lt (by omega), small_lt (by omega), ?_⟩
        · rw [lz]; exact small_line (by have : ((" " : String) : Str).length = 1 := rfl; omega)
        · have := fin (repS ")" (depA d (i - 1) - depA d i) ++ " ") (some (.str en.1)) (some (.int (depA d i))) (by
            rw [len_cps, cps_app, rep1 k41, k32]; simp; omega) (.inr ⟨h1, rfl, h3, by rw [cps_app, rep1 k41, k32, hed, sepL, if_neg c]⟩)
          simpa using this
  · rintro σ M' ⟨ys, last, x, y, rfl, rfl, hn, hy, hc⟩
    rw [List.length_map] at hn hc
    have hs := sum_le hy
    have hfl := flat_len hy
    rw [hn] at hs hfl
    have z0 : ((("" : String) : Str)).length = 0 := rfl
    simp
    refine ⟨ys, seqT_lst up_same, by rw [z0]; omega, ?_⟩
    have fin : ∀ k : Nat, k ≤ 2000 → (ys.map fun y => y.cps.toList).flatten ++ List.replicate k 41 = textG 0 d → (Txt.join "" ys).length + (repS ")" k).length ≤ sizeLine ∧ Fg Q (.str (Txt.join "" ys ++ repS ")" k)) (up M p (.lst (ys.map Tr.str))) := fun k hk e => by
      have e1 : Txt.join "" ys ++ repS ")" k = sOf (textG 0 d) := str_eq (by rw [cps_app, join0, rep1 k41, sOf_cps]; exact e)
      refine ⟨?_, by rw [e1]; exact Fg.le (Le.new hp) hq⟩
      rw [len_cps, join0, len_cps, rep1 k41, sizeLine_eq]
      simp only [List.length_replicate]
      omega
    rcases hc with ⟨h1, h2, h3⟩ | ⟨h1, h2, h3⟩
    · subst h2 h3
      have hd : d = [] := List.eq_nil_of_length_eq_zero h1
      simp
      refine ⟨by decide, fin 0 (by omega) ?_⟩
      rw [hd]; rfl
    · subst h2
      have hdp := Val.dep_lt hv (i := d.length - 1) (by omega)
      have hm : (if 0 < depA d (d.length - 1) then ((depA d (d.length - 1) : Nat) : Int) else 0) = ((depA d (d.length - 1) : Nat) : Int) := by split <;> omega
      have key := fin (depA d (d.length - 1)) (by omega) (by
        rw [List.drop_length] at h3
        exact h3)
      simp
      rw [hm, Int.toNat_natCast]
      exact ⟨by decide, by omega, by omega, key⟩
end T

/-! V: forest_in, read and written texts. -/
namespace T
open PySem PySem.Spec PyProof.Rows L2
def chS (c : Nat) : Str := ⟨#[c]⟩
abbrev PSt := Doc × Nat × Nat
def stepP (s : PSt) (c : Nat) : Option PSt :=
  if s.2.2 = 32 ∨ s.2.2 = 40 then (if isMk (.str (chS c)) = true then some (s.1 ++ [(chS c, s.2.1)], s.2.1, c) else none)
  else if c = 40 then (if s.2.2 ≠ 41 then some (s.1, s.2.1 + 1, 40) else none)
  else if c = 41 then (if 0 < s.2.1 then some (s.1, s.2.1 - 1, 41) else none)
  else if c = 32 then some (s.1, s.2.1, 32) else none
def runP (s : PSt) : Cps → Option PSt
  | [] => some s
  | c :: r => (stepP s c).bind fun s' => runP s' r
theorem chS_eq {a b : Nat} : chS a = chS b ↔ a = b := by
  constructor
  · intro h
    have := congrArg (fun z : Str => z.cps.toList) h
    simpa [chS] using this
  · intro h; rw [h]
theorem s32 : ((" " : String) : Str) = chS 32 := rfl
theorem s40 : (("(" : String) : Str) = chS 40 := rfl
theorem s41 : ((")" : String) : Str) = chS 41 := rfl
theorem isMk_in {c : Nat} (h : isMk (.str (chS c)) = true) : strIn (chS c) "abcdefgh" = true := by
  simp only [isMk, Bool.and_eq_true] at h
  exact h.2
def sp_forest_in : Sp2 := A1 fun a M Q _ => ∃ (z : Str) (F : PSt), a = .str z ∧ runP ([], 0, 32) z.cps.toList = some F ∧ (z.cps.toList ≠ [] → F.2.2 ≠ 32 ∧ F.2.1 = 0) ∧ F.1.length ≤ 20000 ∧ z.length ≤ 1000000 ∧ Q (docT F.1) M
def n_forest_in : List Str := "text" :: "nodes" :: "depth" :: "ahead" :: "place" :: "sign" :: "fits" :: []
def b_forest_in : TS2 := (sSq (sAs (eLst aNil) (gN 1))
  (sSq (sAs (eC (.int 0)) (gN 2))
  (sSq (sAs (eC (.str " ")) (gN 3))
  (sSq (sFo (iEnS (aCons (eVar 0) aNil)) (gT 2 (gCo (gN 4) (gCo (gN 5) gNil2))) (sSq (sIf (tOrr (tCm (eOp (rEqG id) (eVar 3) (eC (.str " ")))) (tCm (eOp (rEqG id) (eVar 3) (eC (.str "("))))) (sSq (sAs (eOp (rInX id) (eVar 5) (eC (.str "abcdefgh"))) (gN 6))
  (sDr (eM "list" rApp2 (eVar 1) (aCons (eTup (aCons (eVar 5) (aCons (eVar 2) aNil))) aNil)))) (sIf (tCm (eOp (rEqG id) (eVar 5) (eC (.str "(")))) (sSq (sAs (eOp (rEqG not) (eVar 3) (eC (.str ")"))) (gN 6))
  (sAu 2 rIpA (eC (.int 1)))) (sIf (tCm (eOp (rEqG id) (eVar 5) (eC (.str ")")))) (sSq (sAs (eOp rGtI (eVar 2) (eC (.int 0))) (gN 6))
  (sAu 2 rIpS (eC (.int 1)))) (sAs (eOp (rEqG id) (eVar 5) (eC (.str " "))) (gN 6)))))
  (sSq (sIf (tNo (tTr (eVar 6))) sNv sNx)
  (sAs (eVar 5) (gN 3)))))
  (sSq (sIf (tOrr (tAn (tCm (eOp (rEqG not) (eVar 0) (eC (.str "")))) (tOrr (tCm (eOp (rEqG id) (eVar 3) (eC (.str " ")))) (tCm (eOp rGtI (eVar 2) (eC (.int 0)))))) (tCm (eOp rGtI (eB rLen2 (aCons (eVar 1) aNil)) (eC (.int 20000))))) sNv sNx)
  (sRt (eB rTuple2 (aCons (eVar 1) aNil))))))))
theorem sem_forest_in : ∀ ds M Q E, sp_forest_in ds M Q E → b_forest_in (fEnds Q E) (start2 n_forest_in ds) M := by
  rintro ds M Q E ⟨a, rfl, z, F, rfl, hr, hf, hl, hz, hq⟩
  simp only [b_forest_in, start2, n_forest_in]
  simp
  intro p hp
  simp
  have len : (chrs z).length = z.cps.toList.length := by simp [chrs]
  refine for_itE (fun i σ M' => ∃ (s : PSt) (x y w : Option Tr), σ = [some (.str z), some (.loc p), some (.int s.2.1), some (.str (chS s.2.2)), x, y, w] ∧ M' = up M p (.lst (s.1.map entT)) ∧ runP s (z.cps.toList.drop i) = some F ∧ s.1.length ≤ i) ?_ ?_ ?_ ?_
  · exact ⟨([], 0, 32), none, none, none, rfl, rfl, hr, Nat.le_refl _⟩
  · rintro i σ M' _ _
    trivial
  · rintro i e σ M' he ⟨⟨N, h, a⟩, x, y, w, rfl, rfl, hrun, hN⟩
    have hi : i < z.cps.toList.length := by rw [← len]; exact (List.getElem?_eq_some_iff.mp he).1
    have hiz : i < 1000000 := by rw [len_cps] at hz; omega
    obtain ⟨c, hc⟩ : ∃ c, z.cps.toList[i]? = some c := ⟨z.cps.toList[i], List.getElem?_eq_getElem hi⟩
    have ee : e = .str (chS c) := by
      unfold chrs at he
      rw [List.getElem?_map, hc] at he
      exact (Option.some.inj he).symm
    subst ee
    have hdr : z.cps.toList.drop i = c :: z.cps.toList.drop (i + 1) := by
      rw [List.drop_eq_getElem_cons hi]
      have := List.getElem?_eq_getElem hi
      rw [this] at hc
      rw [Option.some.inj hc]
    rw [hdr] at hrun
    simp only at hrun hN
    have hrun2 : (stepP (N, h, a) c).bind (fun s' => runP s' (z.cps.toList.drop (i + 1))) = some F := hrun
    simp only [gT_ap, gCo_ap, gN_4, gN_5, gNil2_ap, List.length_cons, List.length_nil, true_and]
    refine nx_cut fun NX hN2 => ?_
    refine seq_cut (fun σ1 M1 => ∃ s, stepP (N, h, a) c = some s ∧ σ1 = [some (.str z), some (.loc p), some (.int s.2.1), some (.str (chS a)), some (.int i), some (.str (chS c)), some (.bl true)] ∧ M1 = up M p (.lst (s.1.map entT)) ∧ s.1.length ≤ i + 1 ∧ s.2.2 = c) (fun NY hY => ?_) ?_
    · by_cases c1 : a = 32 ∨ a = 40
      · have hs : stepP (N, h, a) c = if isMk (.str (chS c)) = true then some (N ++ [(chS c, h)], h, c) else none := by unfold stepP; rw [if_pos c1]
        by_cases c2 : isMk (.str (chS c)) = true
        · rw [if_pos c2] at hs
          have cont : NY [some (.str z), some (.loc p), some (.int h), some (.str (chS a)), some (.int i), some (.str (chS c)), some (.bl true)] (up M p (.lst (N.map entT ++ [.tup [.str (chS c), .int h]]))) :=
            hY _ _ ⟨_, hs, rfl, by simp [entT], by simp; omega, rfl⟩
          rcases c1 with c1 | c1
          · subst c1
            simp [s32, s40, s41, chS_eq, isMk_in c2]
            exact ⟨by rw [sizeLine_eq]; omega, cont⟩
          · subst c1
            simp [s32, s40, s41, chS_eq, isMk_in c2]
            exact ⟨by rw [sizeLine_eq]; omega, cont⟩
        · rw [if_neg c2] at hs
          rw [hs] at hrun2; cases hrun2
      · have n1 : ¬ a = 32 := fun e => c1 (.inl e)
        have n2 : ¬ a = 40 := fun e => c1 (.inr e)
        by_cases d1 : c = 40
        · subst d1
          have hs : stepP (N, h, a) 40 = if a ≠ 41 then some (N, h + 1, 40) else none := by unfold stepP; rw [if_neg c1, if_pos rfl]
          by_cases d2 : a = 41
          · rw [if_neg (by simpa using d2)] at hs
            rw [hs] at hrun2; cases hrun2
          · rw [if_pos d2] at hs
            simp [s32, s40, s41, chS_eq, n1, n2, d2]
            exact hY _ _ ⟨_, hs, by simp, rfl, by simp; omega, rfl⟩
        · by_cases d2 : c = 41
          · subst d2
            have hs : stepP (N, h, a) 41 = if 0 < h then some (N, h - 1, 41) else none := by unfold stepP; rw [if_neg c1, if_neg (by decide), if_pos rfl]
            by_cases d3 : 0 < h
            · rw [if_pos d3] at hs
              have e1 : ((h - 1 : Nat) : Int) = (h : Int) - 1 := by omega
              simp [s32, s40, s41, chS_eq, n1, n2, d3]
              exact hY _ _ ⟨_, hs, by simp [e1], rfl, by simp; omega, rfl⟩
            · rw [if_neg d3] at hs
              rw [hs] at hrun2; cases hrun2
          · by_cases d3 : c = 32
            · subst d3
              have hs : stepP (N, h, a) 32 = some (N, h, 32) := by unfold stepP; rw [if_neg c1, if_neg (by decide), if_neg (by decide), if_pos rfl]
              simp [s32, s40, s41, chS_eq, n1, n2]
              exact hY _ _ ⟨_, hs, rfl, rfl, by simp; omega, rfl⟩
            · have hs : stepP (N, h, a) c = none := by unfold stepP; rw [if_neg c1, if_neg d1, if_neg d2, if_neg d3]
              rw [hs] at hrun2; cases hrun2
    · rintro σ1 M1 ⟨s, hs, rfl, rfl, hl1, hc1⟩
      rw [hs] at hrun2
      simp
      exact hN2 _ _ ⟨s, _, _, _, by rw [hc1], rfl, hrun2, hl1⟩
  · rintro σ M' ⟨⟨N, h, a⟩, x, y, w, rfl, rfl, hrun, hN⟩
    rw [len, List.drop_length] at hrun
    have eF : (N, h, a) = F := Option.some.inj hrun
    subst eF
    simp only at hf hl hq
    have hl2 : ¬ ((20000 : Int) < N.length) := by omega
    simp only [sSq_ap]
    by_cases z0 : z = ""
    · simp [z0, hl2]
      exact Fg.le (Le.new hp) hq
    · have hne : z.cps.toList ≠ [] := fun e => z0 (str_eq (by rw [e]; rfl))
      obtain ⟨f1, f2⟩ := hf hne
      simp [z0, hl2, s32, chS_eq, f1, f2]
      exact Fg.le (Le.new hp) hq
end T

/-! V: written texts are read back. -/
namespace T
open PySem PySem.Spec PyProof.Rows L2
def plainC (c : Nat) : Prop := c ≠ 32 ∧ c ≠ 40 ∧ c ≠ 41
theorem mk_plain {c : Nat} (h : isMk (.str (chS c)) = true) : plainC c := by
  refine ⟨?_, ?_, ?_⟩ <;> (intro e; subst e; revert h; decide +kernel)
theorem step_close {N : Doc} {d a : Nat} (h1 : a ≠ 32) (h2 : a ≠ 40) (hd : 0 < d) : stepP (N, d, a) 41 = some (N, d - 1, 41) := by
  unfold stepP
  rw [if_neg (by simp [h1, h2]), if_neg (by decide), if_pos rfl, if_pos hd]
theorem run_close {N : Doc} {rest : Cps} : ∀ {k d a : Nat}, a ≠ 32 → a ≠ 40 → k ≤ d → ∃ a', a' ≠ 32 ∧ a' ≠ 40 ∧ runP (N, d, a) (List.replicate k 41 ++ rest) = runP (N, d - k, a') rest
  | 0, d, a, h1, h2, _ => ⟨a, h1, h2, by simp⟩
  | k + 1, d, a, h1, h2, hk => by
    obtain ⟨a', e1, e2, e3⟩ := run_close (N := N) (rest := rest) (k := k) (d := d - 1) (a := 41) (by decide) (by decide) (by omega)
    refine ⟨a', e1, e2, ?_⟩
    rw [List.replicate_succ, List.cons_append]
    show (stepP (N, d, a) 41).bind _ = _
    rw [step_close h1 h2 (by omega)]
    show runP (N, d - 1, 41) _ = _
    rw [e3, show d - 1 - k = d - (k + 1) by omega]
theorem run_mark {N : Doc} {d a c : Nat} {rest : Cps} (ha : a = 32 ∨ a = 40) (hc : isMk (.str (chS c)) = true) : runP (N, d, a) (c :: rest) = runP (N ++ [(chS c, d)], d, c) rest := by
  show (stepP (N, d, a) c).bind _ = _
  have : stepP (N, d, a) c = some (N ++ [(chS c, d)], d, c) := by
    unfold stepP
    rw [if_pos ha, if_pos hc]
  rw [this]; rfl
theorem run_sep {N : Doc} {last h m c : Nat} {rest : Cps} (hm : plainC m) (hc : isMk (.str (chS c)) = true) (hl : h ≤ last + 1) : runP (N, last, m) (sepL last h ++ (c :: rest)) = runP (N ++ [(chS c, h)], h, c) rest := by
  unfold sepL
  by_cases q : last < h
  · rw [if_pos q]
    have : h = last + 1 := by omega
    subst this
    show (stepP (N, last, m) 40).bind _ = _
    have e : stepP (N, last, m) 40 = some (N, last + 1, 40) := by
      unfold stepP
      rw [if_neg (by simp [hm.1, hm.2.1]), if_pos rfl, if_pos hm.2.2]
    rw [e]
    exact run_mark (.inr rfl) hc
  · rw [if_neg q]
    obtain ⟨a', e1, e2, e3⟩ := run_close (N := N) (rest := [32] ++ (c :: rest)) (k := last - h) (d := last) (a := m) hm.1 hm.2.1 (by omega)
    rw [List.append_assoc, e3]
    show (stepP (N, last - (last - h), a') 32).bind _ = _
    have e : stepP (N, last - (last - h), a') 32 = some (N, last - (last - h), 32) := by
      unfold stepP
      rw [if_neg (by simp [e1, e2]), if_neg (by decide), if_neg (by decide), if_pos rfl]
    rw [e, show last - (last - h) = h by omega]
    exact run_mark (.inl rfl) hc
theorem mk_chS {z : Str} (h : isMk (.str z) = true) : ∃ c, z = chS c ∧ z.cps.toList = [c] := by
  obtain ⟨c, e⟩ := isMk_cps h
  exact ⟨c, str_eq (by rw [e]; rfl), e⟩
theorem run_body : ∀ {r N : Doc} {last m : Nat}, plainC m → Vd (last + 1) r → ∃ a, a ≠ 32 ∧ runP (N, last, m) (bodyG 0 last r) = some (N ++ r, 0, a)
  | [], N, last, m, hm, _ => by
    obtain ⟨a', e1, e2, e3⟩ := run_close (N := N) (rest := []) (k := last) (d := last) (a := m) hm.1 hm.2.1 (Nat.le_refl _)
    refine ⟨a', e1, ?_⟩
    rw [List.append_nil] at e3
    show runP (N, last, m) (List.replicate (last - 0) 41) = _
    rw [Nat.sub_zero, e3, Nat.sub_self, List.append_nil]
    rfl
  | e :: r, N, last, m, hm, hv => by
    obtain ⟨h1, h2, h3⟩ := hv
    obtain ⟨c, ez, ec⟩ := mk_chS h1
    have hc : isMk (.str (chS c)) = true := by rw [← ez]; exact h1
    obtain ⟨a, q1, q2⟩ := run_body (r := r) (N := N ++ [(chS c, e.2)]) (last := e.2) (m := c) (mk_plain hc) h3
    refine ⟨a, q1, ?_⟩
    show runP (N, last, m) (sepL last e.2 ++ mkL e ++ bodyG 0 e.2 r) = _
    have : mkL e = [c] := ec
    rw [this, List.append_assoc]
    show runP (N, last, m) (sepL last e.2 ++ (c :: bodyG 0 e.2 r)) = _
    rw [run_sep hm hc h2, q2]
    have : e = (chS c, e.2) := by rw [← ez]
    rw [List.append_assoc, ← this]; rfl
/-- THE READ-BACK -/
theorem read_back {x : Doc} (hv : Vd 0 x) : ∃ a, runP ([], 0, 32) (textG 0 x) = some (x, 0, a) ∧ (x ≠ [] → a ≠ 32) := by
  cases x with
  | nil => exact ⟨32, rfl, fun h => absurd rfl h⟩
  | cons e r =>
    obtain ⟨h1, h2, h3⟩ := hv
    have h0 : e.2 = 0 := by omega
    obtain ⟨c, ez, ec⟩ := mk_chS h1
    have hc : isMk (.str (chS c)) = true := by rw [← ez]; exact h1
    obtain ⟨a, q1, q2⟩ := run_body (r := r) (N := [(chS c, 0)]) (last := 0) (m := c) (mk_plain hc) (by rw [h0] at h3; exact h3)
    refine ⟨a, ?_, fun _ => q1⟩
    show runP ([], 0, 32) (mkL e ++ bodyG 0 e.2 r) = _
    have : mkL e = [c] := ec
    rw [this, h0]
    show runP ([], 0, 32) (c :: bodyG 0 0 r) = _
    rw [run_mark (.inl rfl) hc]
    show runP ([(chS c, 0)], 0, c) _ = _
    rw [q2]
    have : e = (chS c, 0) := by rw [← ez, ← h0]
    rw [← this]; rfl
/-! pieces -/
def lowBy (g : Nat) (x : Doc) : Doc := x.map fun e => (e.1, e.2 - g)
theorem sep_low {g a b : Nat} (ha : g ≤ a) (hb : g ≤ b) : sepL (a - g) (b - g) = sepL a b := by
  unfold sepL
  by_cases c : a < b
  · rw [if_pos c, if_pos (by omega)]
  · rw [if_neg c, if_neg (by omega), show a - g - (b - g) = a - b by omega]
theorem body_low {g : Nat} : ∀ {x : Doc} {last : Nat}, g ≤ last → (∀ e ∈ x, g ≤ e.2) → bodyG 0 (last - g) (lowBy g x) = bodyG g last x
  | [], last, h, _ => by
    show List.replicate (last - g - 0) 41 = List.replicate (last - g) 41
    rw [Nat.sub_zero]
  | e :: r, last, h, hx => by
    have he := hx e List.mem_cons_self
    show sepL (last - g) (e.2 - g) ++ mkL e ++ bodyG 0 (e.2 - g) (lowBy g r) = sepL last e.2 ++ mkL e ++ bodyG g e.2 r
    rw [sep_low h he, body_low he fun y hy => hx y (List.mem_cons_of_mem _ hy)]
theorem text_low {g : Nat} {x : Doc} (hx : ∀ e ∈ x, g ≤ e.2) : textG 0 (lowBy g x) = textG g x := by
  cases x with
  | nil => rfl
  | cons e r =>
    show mkL e ++ bodyG 0 (e.2 - g) (lowBy g r) = mkL e ++ bodyG g e.2 r
    rw [body_low (hx e List.mem_cons_self) fun y hy => hx y (List.mem_cons_of_mem _ hy)]
theorem Vd.lowBy {g : Nat} : ∀ {x : Doc} {m : Nat}, Vd m x → g ≤ m → (∀ e ∈ x, g ≤ e.2) → Vd (m - g) (T.lowBy g x)
  | [], _, _, _, _ => trivial
  | e :: r, m, h, hg, hx => by
    have he := hx e List.mem_cons_self
    refine ⟨h.1, by have := h.2.1; show e.2 - g ≤ m - g; omega, ?_⟩
    have q := Vd.lowBy (g := g) h.2.2 (by omega) fun y hy => hx y (List.mem_cons_of_mem _ hy)
    rw [show e.2 + 1 - g = e.2 - g + 1 by omega] at q
    exact q
theorem Vd.take {n : Nat} : ∀ {x : Doc} {m : Nat}, Vd m x → Vd m (x.take n) := by
  induction n with
  | zero => intro x m _; rw [List.take_zero]; trivial
  | succ n ih =>
    intro x m h
    cases x with
    | nil => trivial
    | cons e r => exact ⟨h.1, h.2.1, ih h.2.2⟩
theorem Vd.dropd : ∀ {k : Nat} {x : Doc} {m : Nat}, Vd m x → (hk : k < x.length) → Vd (x[k]).2 (x.drop k)
  | 0, e :: r, m, h, _ => ⟨h.1, Nat.le_refl _, h.2.2⟩
  | k + 1, e :: r, m, h, hk => by
    have := Vd.dropd (k := k) h.2.2 (by simpa using hk)
    simpa using this
/-- the piece of the node k, as a document -/
def subD (d : Doc) (k : Nat) : Doc := T.lowBy (depA d k) (seg d k (endA d k))
theorem sub_ge {d : Doc} {k : Nat} (hk : k < d.length) : ∀ e ∈ seg d k (endA d k), depA d k ≤ e.2 := by
  intro e he
  obtain ⟨c, c1, c2, c3, c4⟩ := seg_mem he
  rw [← depA_at c4]
  by_cases q : c = k
  · subst q; exact Nat.le_refl _
  · exact Nat.le_of_lt ((endA_ok hk).deep c (by omega) c2)
theorem sub_text {d : Doc} {k : Nat} (hk : k < d.length) : textG 0 (subD d k) = TT d k := text_low (sub_ge hk)
theorem sub_vd {d : Doc} (hv : Vd 0 d) {k : Nat} (hk : k < d.length) : Vd 0 (subD d k) := by
  have h1 := Vd.dropd hv hk
  have e : d[k]? = some d[k] := by simp [hk]
  rw [← depA_at e] at h1
  have h2 := Vd.take (n := endA d k - k) h1
  have h3 := Vd.lowBy (g := depA d k) h2 (Nat.le_refl _) (sub_ge hk)
  rw [Nat.sub_self] at h3
  exact h3
theorem sub_len {d : Doc} {k : Nat} (hk : k < d.length) : (subD d k).length = endA d k - k := by
  have := (endA_ok hk).le
  unfold subD T.lowBy seg
  simp; omega
end T

/-! V: rows, segments -/
namespace T
open PySem PySem.Spec PyProof.Rows L2
theorem fm_get2 : ∀ l : List Tr, (List.range l.length).filterMap (fun k => l[k]?) = l
  | [] => rfl
  | x :: r => by
    rw [List.length_cons, List.range_succ_eq_map, List.filterMap_cons]
    simp only [List.getElem?_cons_zero, List.filterMap_map]
    have := fm_get2 r
    congr 1
theorem rg_small {j : Int} (h0 : 0 ≤ j) (h1 : j ≤ 1000000) : Rg j := ⟨by omega, by omega⟩
theorem ch_len {d : Doc} {o : Option Nat} : (chT d o).length ≤ d.length := by
  unfold chT chA
  rw [List.length_map]
  have := List.length_filter_le (fun c => decide (parA d c = o)) (List.range d.length)
  simpa using this
theorem rowI_ch {d : Doc} {k : Nat} (hk : k < d.length) : rowI d k d.length = (chA d (some k)).map natT := by
  unfold rowI chA
  congr 1
  refine List.filter_congr fun c hc => ?_
  have : slotA d c = k ↔ parA d c = some k := by
    unfold slotA
    cases h : parA d c with
    | none => simp; omega
    | some j => simp
  simp [this]
theorem rowI_root {d : Doc} : rowI d d.length d.length = (chA d none).map natT := by
  unfold rowI chA
  congr 1
  refine List.filter_congr fun c hc => ?_
  have hc2 : c < d.length := by simpa using hc
  have : slotA d c = d.length ↔ parA d c = none := by
    unfold slotA
    cases h : parA d c with
    | none => simp
    | some j => have := par_lt h; simp; omega
  simp [this]
theorem seg_snoc {d : Doc} {k j : Nat} (h : k ≤ j) (hj : j < d.length) : seg d k (j + 1) = seg d k j ++ [d[j]] := by
  rw [seg_app (j := j) h (by omega), seg_cons (by omega) hj, seg_nil]
/-- nodes from i to j, the first one as deep as g -/
def reD (d : Doc) (i j g : Nat) : Doc := (seg d i j).map fun e => (e.1, e.2 + g - depA d i)
theorem reD_sub {d : Doc} {k : Nat} : reD d k (endA d k) 0 = subD d k := rfl
theorem seg_len {d : Doc} {i j : Nat} (h : j ≤ d.length) : (seg d i j).length = j - i := by
  unfold seg
  rw [List.length_take, List.length_drop]; omega
theorem reD_len {d : Doc} {i j g : Nat} (h : j ≤ d.length) : (reD d i j g).length = j - i := by
  unfold reD; rw [List.length_map, seg_len h]
theorem isMk_mem {c : Nat} (h : isMk (.str (chS c)) = true) : c ∈ [97, 98, 99, 100, 101, 102, 103, 104] := by
  have h1 := isMk_in h
  unfold strIn at h1
  have e := PySem.StrLaws.found_one "abcdefgh" c
  have e2 : ("abcdefgh" : Str).cps.toList = [97, 98, 99, 100, 101, 102, 103, 104] := by decide
  rw [e2] at e
  have h2 : decide (c ∈ [97, 98, 99, 100, 101, 102, 103, 104]) = true := by rw [← e]; exact h1
  exact of_decide_eq_true h2
theorem mk_nb {z : Str} (h : isMk (.str z) = true) : nbT (.str z) = true := by
  obtain ⟨c, rfl, _⟩ := mk_chS h
  have := isMk_mem h
  simp at this
  rcases this with h | h | h | h | h | h | h | h <;> subst h <;> simp [nbT, PyData.canLay0, PyData.strOk, chS]
theorem Vd.marks : ∀ {d : Doc} {m : Nat}, Vd m d → ∀ e ∈ d, isMk (.str e.1) = true
  | _ :: _, _, h, e, he => by
    rcases List.mem_cons.mp he with rfl | he
    · exact h.1
    · exact Vd.marks h.2.2 e he
theorem doc_nb {d : Doc} {m : Nat} (h : Vd m d) : nbT (docT d) = true ∧ hT (docT d) ≤ 2 := by
  constructor
  · refine nbL_of fun t ht => ?_
    obtain ⟨e, he, rfl⟩ := List.mem_map.mp ht
    show (nbT (.str e.1) && (nbT (.int e.2) && true)) = true
    rw [mk_nb (h.marks e he)]; rfl
  · show hL (d.map entT) + 1 ≤ 2
    have := hL_le (k := 1) (ds := d.map entT) fun t ht => by
      obtain ⟨e, he, rfl⟩ := List.mem_map.mp ht
      exact Nat.le_refl _
    omega
theorem docT_inj {d e : Doc} : docT d = docT e ↔ d = e := by
  refine ⟨fun h => ?_, fun h => by rw [h]⟩
  have h1 : d.map entT = e.map entT := by unfold docT at h; injection h
  refine (List.map_inj_right fun x y hxy => ?_).mp h1
  unfold entT at hxy
  injection hxy with h2
  injection h2 with a b
  injection b with b _
  injection a with a
  injection b with b
  exact Prod.ext a (by omega)
end T

/-! V: nodes lowered -/
namespace T
open PySem PySem.Spec PyProof.Rows L2
def sp_lowered : Sp2 := A4 fun a b c e M Q _ => ∃ (d : Doc) (i j g : Nat), a = docT d ∧ b = .int i ∧ c = .int j ∧ e = .int g ∧ i ≤ j ∧ j ≤ d.length ∧ d.length ≤ 20000 ∧ (∀ x ∈ seg d i j, depA d i ≤ x.2 + g) ∧ Q (docT (reD d i j g)) M
def n_lowered : List Str := "document" :: "begin" :: "end" :: "depth" :: "less" :: "mark" :: "below" :: []
def b_lowered : TS2 := (sSq (sIf (tCm (eOp (rEqG id) (eVar 1) (eVar 2))) (sRt (eTup aNil)) sNx)
  (sSq (sAs (eOp rSub2 (eOp rIx2 (eOp rIx2 (eVar 0) (eVar 1)) (eC (.int 1))) (eVar 3)) (gN 4))
  (sRt (eB rTuple2 (aCons (eLc (iSq (eSl rSl2 (eVar 0) (oPart (eVar 1)) (oPart (eVar 2)))) (gT 2 (gCo (gN 5) (gCo (gN 6) gNil2))) tYes2 (eTup (aCons (eVar 5) (aCons (eOp rSub2 (eVar 6) (eVar 4)) aNil))) [5, 6]) aNil)))))
theorem sem_lowered : ∀ ds M Q E, sp_lowered ds M Q E → b_lowered (fEnds Q E) (start2 n_lowered ds) M := by
  rintro ds M Q E ⟨a, b, c, e, rfl, d, i, j, g, rfl, rfl, rfl, rfl, hij, hj, hl, hx, hq⟩
  simp only [b_lowered, start2, n_lowered]
  by_cases c : i = j
  · subst c
    have e0 : reD d i i g = [] := by unfold reD; rw [seg_nil]; rfl
    rw [e0] at hq
    simp
    exact Fg.same hq
  have ne : ¬ ((i : Int) = (j : Int)) := by omega
  have es : cutT (d.map entT) (some (i : Int)) (some (j : Int)) = (seg d i j).map entT := by
    rw [cutT_both]; simp [seg]
  have hi : i < d.length := by omega
  have sl := seg_len (d := d) (i := i) hj
  have ls : ((seg d i j).map entT).length = (reD d i j g).length := by simp [reD]
  simp [ne, docT, ↓kAt_doc hi]
  rw [es]
  refine fun p hp => lc_fmL (fun k => ((reD d i j g).map entT)[k]?) (by simp; omega) (fun M' _ => by rw [← es]) ?_ ?_
  · have e2 := fm_get2 ((reD d i j g).map entT)
    rw [List.length_map] at e2
    rw [ls, e2]
    simp
    exact Fg.le (Le.new hp) hq
  · intro k e M' he fr KY KN q1 q2
    rw [List.getElem?_map] at he
    cases hc : (seg d i j)[k]? with
    | none => rw [hc] at he; cases he
    | some en =>
      rw [hc] at he
      cases he
      have hge := hx en (List.mem_of_getElem? hc)
      simp [entT, wipe2]
      refine q1 _ ?_
      unfold reD
      rw [List.getElem?_map, List.getElem?_map, hc]
      simp [entT]
      omega
end T

/-! V: the law's rows -/
namespace T
open PySem PySem.Spec PyProof.Rows L2
def sp__law_children : Sp2 := A1 fun a M Q _ => ∃ d, a = docT d ∧ Val d ∧ ∀ M' p (qs : List Addr), M p = none → qs.length = d.length + 1 → qs.Nodup → (∀ q ∈ qs, M q = none ∧ q ≠ p) → M' p = some (.lst (qs.map .loc)) → (∀ k q, qs[k]? = some q → M' q = some (.lst (rowI d k d.length))) → Le M M' → Q (.loc p) M'
def n__law_children : List Str := "document" :: "got" :: "node" :: "parent" :: "row" :: []
def b__law_children : TS2 := (sSq (sAs (eLc (iRg1 (aCons (eOp rAdd2 (eB rLen2 (aCons (eVar 0) aNil)) (eC (.int 1))) aNil)) (gN 2) tYes2 (eLst aNil) [2]) (gN 1))
  (sSq (sFo (iEn (aCons (eCall sp__law_parents [] (aCons (eVar 0) aNil)) aNil)) (gT 2 (gCo (gN 2) (gCo (gN 3) gNil2))) (sSq (sAs (eOp rIx2 (eVar 1) (eIf (tCm (eOp (rIsG id) (eVar 3) (eC .non))) (eB rLen2 (aCons (eVar 0) aNil)) (eVar 3))) (gN 4))
  (sDr (eM "list" rApp2 (eVar 4) (aCons (eVar 2) aNil)))))
  (sRt (eVar 1))))
theorem sem__law_children : ∀ ds M Q E, sp__law_children ds M Q E → b__law_children (fEnds Q E) (start2 n__law_children ds) M := by
  rintro ds M Q E ⟨a, rfl, d, rfl, hval, hq⟩
  have ⟨hv, hl⟩ := hval
  simp only [b__law_children, start2, n__law_children]
  simp [docT]
  refine ⟨⟨by omega, by omega⟩, fun p hp => lc_itR (fun i M' => ∃ qs : List Addr, qs.length = i ∧ qs.Nodup ∧ (∀ q ∈ qs, M q = none ∧ q ≠ p ∧ M' q = some (.lst [])) ∧ M' p = some (.lst (qs.map .loc)) ∧ ∀ a o, M a = some o → M' a = some o) ?_ ?_ ?_⟩
  · exact ⟨[], rfl, by simp, fun q hq => by simp at hq, up_same, fun a o h => by rw [up_ne (m_ne h hp)]; exact h⟩
  · rintro i M' hi ⟨qs, h1, h2, h3, h4, h5⟩
    rw [List.length_map] at hi
    simp [wipe2]
    intro q hq1
    have qp : q ≠ p := by intro e; subst e; rw [h4] at hq1; cases hq1
    have qn : q ∉ qs := fun h => by rw [(h3 q h).2.2] at hq1; cases hq1
    have mq : M q = none := Le.none h5 hq1
    refine ⟨qs.map .loc, by rw [up_ne (fun e => qp e.symm)]; exact h4, by rw [List.length_map, h1]; exact small_lt (by omega), qs ++ [q], by simp [h1], ?_, ?_, by rw [up_same, List.map_append]; rfl, ?_⟩
    · rw [List.nodup_append]
      exact ⟨h2, by simp, fun a ha b hb e => by rw [List.mem_singleton] at hb; subst hb; subst e; exact qn ha⟩
    · intro z hz
      rcases List.mem_append.mp hz with hz | hz
      · obtain ⟨a1, a2, a3⟩ := h3 z hz
        exact ⟨a1, a2, by rw [up_ne a2, up_ne (fun e : z = q => qn (by rw [← e]; exact hz))]; exact a3⟩
      · have e := List.mem_singleton.mp hz
        subst e
        exact ⟨mq, qp, by rw [up_ne qp, up_same]⟩
    · intro a o ha
      rw [up_ne (m_ne ha hp), up_ne (m_ne ha mq)]; exact h5 a o ha
  · rintro M1 ⟨qs, h1, h2, h3, h4, h5⟩
    have h1' : qs.length = d.length + 1 := by rw [h1, List.length_map]
    simp
    refine ⟨_, rfl, d, rfl, hval, fun pl hpl => ?_⟩
    have pp : p ≠ pl := m_ne h4 hpl
    have ql : ∀ q ∈ qs, q ≠ pl := fun q hq1 => m_ne (h3 q hq1).2.2 hpl
    have ml : M pl = none := Le.none h5 hpl
    simp
    refine for_itE (fun i σ M' => ∃ (x y z : Option Tr), σ = [some (docT d), some (.loc p), x, y, z] ∧ M' pl = some (.lst (parsT d d.length)) ∧ M' p = some (.lst (qs.map .loc)) ∧ (∀ k q, qs[k]? = some q → M' q = some (.lst (rowI d k i))) ∧ Le M M') ?_ ?_ ?_ ?_
    · refine ⟨_, _, _, rfl, up_same, by rw [up_ne pp]; exact h4, fun k q hk => ?_, fun a o h => by rw [up_ne (m_ne h ml)]; exact h5 a o h⟩
      have hm := List.mem_of_getElem? hk
      rw [up_ne (ql q hm)]
      exact (h3 q hm).2.2
    · rintro i σ M' _ ⟨x, y, z, rfl, e1, _⟩
      exact seqT_lst e1
    · rintro i e σ M' he ⟨x, y, z, rfl, e1, e2, e3, e4⟩
      have hi : i < d.length := by
        have := (List.getElem?_eq_some_iff.mp he).1
        simpa [parsT] using this
      have ee : e = optT (parA d i) := by
        have : (parsT d d.length)[i]? = some (optT (parA d i)) := by simp [parsT, hi]
        rw [this] at he
        exact (Option.some.inj he).symm
      subst ee
      have hs := slot_le hi
      have hsq : slotA d i < qs.length := by omega
      have eq0 : (qs.map Tr.loc)[slotA d i]? = some (.loc qs[slotA d i]) := by simp [hsq]
      have eqs : qs[slotA d i]? = some qs[slotA d i] := by simp [hsq]
      have eq1 := e3 _ _ eqs
      have hm := List.getElem_mem hsq
      have qp := (h3 _ hm).2.1
      have rl := @rowI_len d (slotA d i) i
      simp only [gT_ap, gCo_ap, gN_2, gN_3, gNil2_ap, List.length_cons, List.length_nil, true_and]
      refine nx_cut fun NX hN => ?_
      have fin : ∀ (x y z : Option Tr), NX [some (docT d), some (.loc p), x, y, z] (up M' qs[slotA d i] (.lst (rowI d (slotA d i) i ++ [natT i]))) := fun x y z => by
        refine hN _ _ ⟨x, y, z, rfl, by rw [up_ne (fun e => ql _ hm e.symm)]; exact e1, by rw [up_ne (fun e => qp e.symm)]; exact e2, fun k q hk => ?_, fun a o h => by rw [up_ne (m_ne h (h3 _ hm).1)]; exact e4 a o h⟩
        rw [rowI_succ]
        by_cases c : slotA d i = k
        · subst c
          have : q = qs[slotA d i] := by rw [eqs] at hk; exact (Option.some.inj hk).symm
          subst this
          rw [if_pos rfl, up_same]
        · rw [if_neg c]
          have ne : q ≠ qs[slotA d i] := by
            intro e
            subst e
            have hk' := (List.getElem?_eq_some_iff.mp hk)
            obtain ⟨hk1, hk2⟩ := hk'
            exact c ((List.getElem_inj h2).mp hk2).symm
          rw [up_ne ne]
          exact e3 k q hk
      have ks : kAt (qs.map Tr.loc) ((slotA d i : Nat) : Int) = fun P => P (.loc qs[slotA d i]) := by funext P; exact kAt_get eq0
      cases hp0 : parA d i with
      | none =>
        have es : ((d.length : Nat) : Int) = ((slotA d i : Nat) : Int) := by simp [slotA, hp0]
        simp [optT, docT, e2]
        rw [es, ks]
        simp [eq1]
        exact ⟨small_lt (by omega), fin _ _ _⟩
      | some k =>
        have es : ((k : Nat) : Int) = ((slotA d i : Nat) : Int) := by simp [slotA, hp0]
        simp [optT, docT, e2]
        rw [es, ks]
        simp [eq1]
        exact ⟨small_lt (by omega), fin _ _ _⟩
    · rintro σ M' ⟨x, y, z, rfl, e1, e2, e3, e4⟩
      simp [parsT] at e3
      simp
      exact Fg.same (hq M' p qs hp h1' h2 (fun q hq1 => ⟨(h3 q hq1).1, (h3 q hq1).2.1⟩) e2 e3 e4)

end T

/-! V: pieces, written and read documents. -/
namespace T
open PySem PySem.Spec PyProof.Rows L2
def sp_need_node : Sp2 := A2 fun a b M Q _ => ∃ (d : Doc) (k : Nat), a = docT d ∧ b = .int k ∧ k < d.length ∧ Q .non M
def n_need_node : List Str := "document" :: "node" :: []
def b_need_node : TS2 := (sIf (tNo (tTr (eCall sp_is_below [] (aCons (eVar 1) (aCons (eB rLen2 (aCons (eVar 0) aNil)) aNil))))) sNv sNx)
theorem sem_need_node : ∀ ds M Q E, sp_need_node ds M Q E → b_need_node (fEnds Q E) (start2 n_need_node ds) M := by
  rintro ds M Q E ⟨a, b, rfl, d, k, rfl, rfl, hk, hq⟩
  simp only [b_need_node, start2, n_need_node]
  simp [docT]
  refine ⟨_, _, rfl, "int", d.length, rfl, rfl, ?_⟩
  have e : blw (.int k) (d.length : Int) = true := by simp; omega
  rw [e]
  simp
  exact Fg.same hq
def sp_is_document : Sp2 := A1 fun a M Q _ => ∃ d, a = docT d ∧ Val d ∧ Q (.bl true) M
def n_is_document : List Str := "thing" :: []
def b_is_document : TS2 := (sRt (eCall sp_is_forest [] (aCons (eVar 0) aNil)))
theorem sem_is_document : ∀ ds M Q E, sp_is_document ds M Q E → b_is_document (fEnds Q E) (start2 n_is_document ds) M := by
  rintro ds M Q E ⟨a, rfl, d, rfl, hv, hq⟩
  simp only [b_is_document, start2, n_is_document]
  simp
  exact ⟨_, rfl, d, rfl, hv, Fg.same hq⟩
def sp_write_document : Sp2 := A1 fun a M Q _ => ∃ d, a = docT d ∧ Val d ∧ d.length ≤ 2000 ∧ Q (.str (sOf (textG 0 d))) M
def n_write_document : List Str := "document" :: []
def b_write_document : TS2 := (sSq (sDr (eCall sp_need_document [] (aCons (eVar 0) aNil)))
  (sRt (eCall sp_text_of [] (aCons (eVar 0) aNil))))
theorem sem_write_document : ∀ ds M Q E, sp_write_document ds M Q E → b_write_document (fEnds Q E) (start2 n_write_document ds) M := by
  rintro ds M Q E ⟨a, rfl, d, rfl, hv, hl, hq⟩
  simp only [b_write_document, start2, n_write_document]
  simp
  refine ⟨_, rfl, d, rfl, hv, ?_⟩
  simp
  exact ⟨_, rfl, d, rfl, hv, hl, Fg.same hq⟩
/-- a text that a document wrote is read -/
def sp_read_document : Sp2 := A1 fun a M Q _ => ∃ d, a = .str (sOf (textG 0 d)) ∧ Val d ∧ (textG 0 d).length ≤ 1000000 ∧ Q (docT d) M
def n_read_document : List Str := "text" :: []
def b_read_document : TS2 := (sSq (sIf (tNo (tTr (eB rIsi2 (aCons (eVar 0) (aCons (eC (.ty "str")) aNil))))) sNv sNx)
  (sRt (eCall sp_forest_in [] (aCons (eVar 0) aNil))))
theorem sem_read_document : ∀ ds M Q E, sp_read_document ds M Q E → b_read_document (fEnds Q E) (start2 n_read_document ds) M := by
  rintro ds M Q E ⟨a, rfl, d, rfl, ⟨hv, hl⟩, ht, hq⟩
  have kb : kitB "str" "str" = some true := rfl
  obtain ⟨a, h1, h2⟩ := read_back hv
  simp only [b_read_document, start2, n_read_document]
  simp [↓kY_of (d := .str (sOf (textG 0 d))) (M := M) rfl kb]
  refine ⟨_, rfl, sOf (textG 0 d), (d, 0, a), rfl, by rw [sOf_cps]; exact h1, fun h => ⟨h2 fun e => h (by rw [e, sOf_cps]; rfl), rfl⟩, hl, by rw [len_cps, sOf_cps]; exact ht, Fg.same hq⟩
def sp_piece_of : Sp2 := A2 fun a b M Q _ => ∃ (d : Doc) (k : Nat), a = docT d ∧ b = .int k ∧ Val d ∧ k < d.length ∧ Q (docT (subD d k)) M
def n_piece_of : List Str := "document" :: "node" :: []
def b_piece_of : TS2 := (sSq (sDr (eCall sp_need_document [] (aCons (eVar 0) aNil)))
  (sSq (sDr (eCall sp_need_node [] (aCons (eVar 0) (aCons (eVar 1) aNil))))
  (sRt (eCall sp_lowered [] (aCons (eVar 0) (aCons (eVar 1) (aCons (eCall sp_end_of [] (aCons (eVar 0) (aCons (eVar 1) aNil))) (aCons (eC (.int 0)) aNil))))))))
theorem sem_piece_of : ∀ ds M Q E, sp_piece_of ds M Q E → b_piece_of (fEnds Q E) (start2 n_piece_of ds) M := by
  rintro ds M Q E ⟨a, b, rfl, d, k, rfl, rfl, hv, hk, hq⟩
  simp only [b_piece_of, start2, n_piece_of]
  simp
  refine ⟨_, rfl, d, rfl, hv, ?_⟩
  simp
  refine ⟨_, _, rfl, d, k, rfl, rfl, hk, ?_⟩
  simp
  refine ⟨_, _, rfl, d, k, rfl, rfl, hk, ?_⟩
  simp
  have E1 := endA_ok hk
  exact ⟨_, _, _, _, rfl, d, k, endA d k, 0, rfl, rfl, rfl, rfl, Nat.le_of_lt E1.lt, E1.le, hv.2, fun x hx => sub_ge hk x hx, Fg.same (by rw [reD_sub]; exact hq)⟩
end T


/-! V: the law's own texts. -/
namespace T
open PySem PySem.Spec PyProof.Rows L2
theorem body_len {g B : Nat} : ∀ {x : Doc} {last : Nat}, last ≤ B → (∀ e ∈ x, e.2 ≤ B ∧ (mkL e).length ≤ 1) → (bodyG g last x).length ≤ (x.length + 1) * (B + 2)
  | [], last, h, _ => by
    show (List.replicate (last - g) 41).length ≤ _
    rw [List.length_replicate]
    simp; omega
  | e :: r, last, h, hx => by
    obtain ⟨h1, h2⟩ := hx e List.mem_cons_self
    have ih := body_len (g := g) (x := r) (last := e.2) h1 fun y hy => hx y (List.mem_cons_of_mem _ hy)
    have hs : (sepL last e.2).length ≤ B + 1 := by
      unfold sepL
      split
      · simp
      · simp; omega
    show (sepL last e.2 ++ mkL e ++ bodyG g e.2 r).length ≤ _
    rw [List.length_append, List.length_append, List.length_cons, Nat.add_mul (r.length + 1)]
    omega
theorem mkL_len {d : Doc} (hv : Vd 0 d) {i : Nat} {e : Str × Nat} (h : d[i]? = some e) : (mkL e).length ≤ 1 := by
  obtain ⟨c, hc⟩ := isMk_cps (hv.dep i e h).1
  unfold mkL
  rw [hc]; simp
theorem TT_len {d : Doc} (hv : Vd 0 d) (hl : d.length ≤ 200) {k : Nat} (hk : k < d.length) : (TT d k).length ≤ 50000 := by
  have hx : ∀ e ∈ seg d k (endA d k), e.2 ≤ 200 ∧ (mkL e).length ≤ 1 := fun e he => by
    obtain ⟨c, c1, c2, c3, c4⟩ := seg_mem he
    refine ⟨?_, mkL_len hv c4⟩
    have := Val.dep_lt hv c3
    rw [depA_at c4] at this
    omega
  have E := endA_ok hk
  have h1 := E.lt
  have h2 := E.le
  have hsl : (seg d k (endA d k)).length ≤ 200 := by unfold seg; simp; omega
  unfold TT segT
  cases hsg : seg d k (endA d k) with
  | nil => exact Nat.zero_le _
  | cons e r =>
    rw [hsg] at hx hsl
    obtain ⟨a, b⟩ := hx e List.mem_cons_self
    have := body_len (g := depA d k) (x := r) (last := e.2) a fun y hy => hx y (List.mem_cons_of_mem _ hy)
    show (mkL e ++ bodyG _ e.2 r).length ≤ _
    rw [List.length_append]
    rw [List.length_cons] at hsl
    have h3 : (r.length + 1) * (200 + 2) ≤ 200 * 202 := Nat.mul_le_mul (by omega) (by omega)
    omega
theorem join32 : ∀ ys : List Str, (Txt.join " " ys).cps.toList = jn (ys.map fun y => y.cps.toList) := by
  have k32 : ((" " : String) : Str).cps.toList = [32] := by decide
  intro ys
  rw [TL.join_eq]
  induction ys with
  | nil => rfl
  | cons x r ih =>
    cases r with
    | nil => rfl
    | cons y r =>
      show (x ++ " " ++ Str.join " " (y :: r)).cps.toList = _
      rw [cps_app, cps_app, ih, k32]
      rfl
def txtT (d : Doc) (i : Nat) : List Tr := (List.range d.length).map fun k => .str (if d.length - i ≤ k then sOf (TT d k) else "")
def sp__law_texts : Sp2 := A2 fun a b M Q _ => ∃ (d : Doc) (p : Addr) (qs : List Addr), a = docT d ∧ b = .loc p ∧ Val d ∧ d.length ≤ 200 ∧ M p = some (.lst (qs.map .loc)) ∧ qs.length = d.length + 1 ∧ (∀ k q, qs[k]? = some q → M q = some (.lst (rowI d k d.length))) ∧
  ∀ g, M g = none → Q (.loc g) (up M g (.lst (txtT d d.length)))
def n__law_texts : List Str := "document" :: "rows" :: "got" :: "back" :: "node" :: "inner" :: "child" :: []
def b__law_texts : TS2 := (sSq (sAs (eLc (iSq (eVar 0)) (gN 4) tYes2 (eC (.str "")) [4]) (gN 2))
  (sSq (sFo (iRg1 (aCons (eB rLen2 (aCons (eVar 0) aNil)) aNil)) (gN 3) (sSq (sAs (eOp rSub2 (eOp rSub2 (eB rLen2 (aCons (eVar 0) aNil)) (eC (.int 1))) (eVar 3)) (gN 4))
  (sSq (sAs (eM1 rJoin2 (eC (.str " ")) (eLc (iSq (eOp rIx2 (eVar 1) (eVar 4))) (gN 6) tYes2 (eOp rIx2 (eVar 2) (eVar 6)) [6])) (gN 5))
  (sAs (eOp rAdd2 (eOp rIx2 (eOp rIx2 (eVar 0) (eVar 4)) (eC (.int 0))) (eIf (tCm (eOp (rEqG not) (eOp rIx2 (eVar 1) (eVar 4)) (eLst aNil))) (eOp rAdd2 (eOp rAdd2 (eC (.str "(")) (eVar 5)) (eC (.str ")"))) (eC (.str "")))) (gSb rPut2 (eVar 2) (eVar 4))))))
  (sRt (eVar 2))))
theorem sem__law_texts : ∀ ds M Q E, sp__law_texts ds M Q E → b__law_texts (fEnds Q E) (start2 n__law_texts ds) M := by
  rintro ds M Q E ⟨a, b, rfl, d, p, qs, rfl, rfl, ⟨hv, _⟩, hl, hp, hqs, hrow, hq⟩
  have k40 : (("(" : String) : Str).cps.toList = [40] := by decide
  have k41 : ((")" : String) : Str).cps.toList = [41] := by decide
  simp only [b__law_texts, start2, n__law_texts]
  have lm : (d.map entT).length = d.length := List.length_map ..
  simp [docT]
  refine fun g hg => lc_fmL (fun k => some (.str "")) (by omega) (fun M' _ => rfl) ?_ ?_
  rotate_left
  · intro i e M' he fr KY KN h1 h2
    obtain ⟨en, hen, rfl⟩ := ent_at he
    simp [wipe2, entT]
    exact h1 _ rfl
  have e0 : ∀ n, n = d.length → (List.range n).filterMap (fun k => some (Tr.str "")) = txtT d 0 := fun n hn => by
    rw [fm_all, hn]
    unfold txtT
    refine List.map_congr_left fun k hk => ?_
    have : k < d.length := by simpa using hk
    rw [if_neg (by omega)]
  rw [e0 _ lm]
  simp
  refine ⟨rg_small (by omega) (by omega), for_itR (fun i σ M' => ∃ (x y z w : Option Tr), σ = [some (docT d), some (.loc p), some (.loc g), x, y, z, w] ∧ M' g = some (.lst (txtT d i)) ∧ ∀ a o, M a = some o → M' a = some o) ⟨none, none, none, none, rfl, up_same, fun a o h => by rw [up_ne (m_ne h hg)]; exact h⟩ ?_ ?_⟩
  · rintro i σ M' hi ⟨x, y, z, w, rfl, eg, fr⟩
    rw [lm] at hi
    have hk : d.length - 1 - i < d.length := by omega
    have ek : ((d.length : Int) - 1 - (i : Int)) = ((d.length - 1 - i : Nat) : Int) := by omega
    generalize hkk : d.length - 1 - i = k at hk ek
    have hqk : k < qs.length := by omega
    have eqk : qs[k]? = some qs[k] := by simp [hqk]
    have hr := fr _ _ (hrow k _ eqk)
    have eloc : (qs.map Tr.loc)[k]? = some (.loc qs[k]) := by simp [hqk]
    have hp' := fr _ _ hp
    rw [rowI_ch hk] at hr
    have chlt : ∀ c ∈ chA d (some k), k < c ∧ c < d.length := fun c hc => by
      unfold chA at hc
      rw [List.mem_filter] at hc
      have h1 : c < d.length := by simpa using hc.1
      have h2 : parA d c = some k := by simpa using hc.2
      exact ⟨par_lt h2, h1⟩
    have tat : ∀ c, c < d.length → (txtT d i)[c]? = some (.str (if d.length - i ≤ c then sOf (TT d c) else "")) := fun c hc => by unfold txtT; simp [hc]
    simp only [gN_3]
    refine nx_cut fun NX hN => ?_
    refine seq_cut (fun σ1 M1 => M1 = M' ∧ σ1 = [some (docT d), some (.loc p), some (.loc g), some (.int i), some (.int k), z, w]) (fun N1 h1 => ?_) ?_
    · simp [docT, lm, ek]
      exact h1 _ _ ⟨rfl, rfl⟩
    rintro σ1 M1 ⟨rfl, rfl⟩
    have gp2 : ∀ q, M1 q = none → M q = none := fun q hq1 => by
      cases z : M q with
      | none => rfl
      | some o => rw [fr q o z] at hq1; cases hq1
    refine seq_cut (fun σ1 M2 => (∀ a o, M1 a = some o → M2 a = some o) ∧ σ1 = [some (docT d), some (.loc p), some (.loc g), some (.int i), some (.int k), some (.str (sOf (jn ((chA d (some k)).map (TT d))))), w]) (fun N1 h1 => ?_) ?_
    · simp [hp', ↓kAt_get eloc, hr]
      refine fun q hq1 => lc_fmL (fun j => ((chA d (some k)).map fun c => Tr.str (sOf (TT d c)))[j]?) ?_ (fun M2 fr2 => seqT_lst (by rw [fr2 _ (m_ne hr hq1)]; exact hr)) ?_ ?_
      · rw [List.length_map]
        have := @ch_len d (some k)
        unfold chT at this
        rw [List.length_map] at this
        omega
      · have e2 := fm_get2 ((chA d (some k)).map fun c => Tr.str (sOf (TT d c)))
        rw [List.length_map] at e2
        rw [List.length_map, e2]
        simp
        refine ⟨(chA d (some k)).map fun c => sOf (TT d c), seqT_lst (by rw [up_same, List.map_map]; rfl), ?_, ?_⟩
        · have hs := sum_le (k := 50000) (ys := (chA d (some k)).map fun c => sOf (TT d c)) fun y hy => by
            obtain ⟨c, hc, rfl⟩ := List.mem_map.mp hy
            rw [len_cps, sOf_cps]
            exact TT_len hv hl (chlt c hc).2
          have := @ch_len d (some k)
          unfold chT at this
          rw [List.length_map] at this hs
          have l1 : ((" " : String) : Str).length = 1 := rfl
          rw [List.length_map, l1]
          have h3 : (chA d (some k)).length * 50000 ≤ 200 * 50000 := Nat.mul_le_mul (by omega) (Nat.le_refl _)
          omega
        · have ej : Txt.join " " ((chA d (some k)).map fun c => sOf (TT d c)) = sOf (jn ((chA d (some k)).map (TT d))) := str_eq (by
            have e3 : ((chA d (some k)).map fun c => sOf (TT d c)).map (fun y => y.cps.toList) = (chA d (some k)).map (TT d) := by
              rw [List.map_map]
              exact List.map_congr_left fun c _ => sOf_cps
            rw [join32, sOf_cps, e3])
          rw [ej]
          exact h1 _ _ ⟨fun a o h => by rw [up_ne (m_ne h hq1)]; exact h, rfl⟩
      · intro j e M2 he fr2 KY KN q1 q2
        rw [List.getElem?_map] at he
        cases hc : (chA d (some k))[j]? with
        | none => rw [hc] at he; cases he
        | some c =>
          rw [hc] at he
          cases he
          have hcm := chlt c (List.mem_of_getElem? hc)
          have eg2 : M2 g = some (.lst (txtT d i)) := by rw [fr2 _ (m_ne eg hq1)]; exact eg
          have et := tat c hcm.2
          rw [if_pos (by omega)] at et
          simp [wipe2, eg2, ↓kAt_get et]
          refine q1 _ ?_
          rw [List.getElem?_map, hc]; rfl
    rintro σ1 M2 ⟨fr2, rfl⟩
    have hp2 := fr2 _ _ hp'
    have hr2 := fr2 _ _ hr
    have eg2 := fr2 _ _ eg
    have mkc : ∀ (z : Str) (M3 : Ms), z = sOf (TT d k) → (∀ a o, M a = some o → M3 a = some o) → NX [some (docT d), some (.loc p), some (.loc g), some (.int i), some (.int k), some (.str (sOf (jn ((chA d (some k)).map (TT d))))), w] (up M3 g (.lst ((txtT d i).set k (.str z)))) := fun z M3 hz fr3 => by
      refine hN _ _ ⟨_, _, _, _, rfl, ?_, fun a o h => ?_⟩
      · rw [up_same, hz]
        congr 2
        apply List.ext_getElem?
        intro j
        rw [List.getElem?_set]
        unfold txtT
        by_cases hj : j < d.length
        · by_cases ekj : k = j
          · subst ekj
            rw [if_pos rfl, if_pos (by simpa using hk), List.getElem?_map, List.getElem?_range hk]
            simp only [Option.map_some]
            rw [if_pos (by omega)]
          · rw [if_neg ekj, List.getElem?_map, List.getElem?_map, List.getElem?_range hj]
            simp only [Option.map_some]
            by_cases cj : d.length - i ≤ j
            · rw [if_pos cj, if_pos (by omega)]
            · rw [if_neg cj, if_neg (by omega)]
        · rw [if_neg (by omega), List.getElem?_eq_none (by simp; omega), List.getElem?_eq_none (by simp; omega)]
      · rw [up_ne (m_ne h hg)]; exact fr3 a o h
    have hmk := (hv.dep k d[k] (by simp [hk])).1
    obtain ⟨ch, hch⟩ := isMk_cps hmk
    have l1 : d[k].1.length = 1 := by rw [len_cps, hch]; rfl
    have l40 : (("(" : String) : Str).length = 1 := rfl
    have l41 : ((")" : String) : Str).length = 1 := rfl
    have tre := TT_rec hv hk
    have tl := TT_len hv hl hk
    have txl : (txtT d i).length = d.length := by simp [txtT]
    simp [docT, ↓kAt_doc hk, hp2, ↓kAt_get eloc, hr2]
    intro q hq2
    have mq : M q = none := gp2 q (by
      cases z : M1 q with
      | none => rfl
      | some o => rw [fr2 q o z] at hq2; cases hq2)
    have nq : ∀ a o, M2 a = some o → up M2 q (.lst []) a = some o := fun a o h => by rw [up_ne (m_ne h hq2)]; exact h
    have fr3 : ∀ a o, M a = some o → up M2 q (.lst []) a = some o := fun a o h => nq a o (fr2 a o (fr a o h))
    have eg3 := nq _ _ eg2
    simp only [rEqG_ll]
    refine eqS_ints ((chA d (some k)).map fun (c : Nat) => (c : Int)) [] (by rw [nq _ _ hr2, List.map_map]; rfl) up_same ?_
    by_cases hc : chA d (some k) = []
    · have ez : d[k].1 ++ "" = sOf (TT d k) := str_eq (by
        rw [cps_app, sOf_cps, tre, if_pos hc]
        have : (("" : String) : Str).cps.toList = [] := rfl
        rw [this]; rfl)
      simp [hc, eg3, txl, ↓kIx_nat hk]
      refine ⟨by rw [l1]; exact small_line (by decide), ?_⟩
      have := mkc _ _ ez fr3
      rw [hc] at this
      exact this
    · rw [if_neg hc] at tre
      have jl : (jn ((chA d (some k)).map (TT d))).length ≤ 50000 := by
        rw [tre] at tl
        simp at tl
        omega
      have jl2 : (sOf (jn ((chA d (some k)).map (TT d)))).length ≤ 50000 := by rw [len_cps, sOf_cps]; exact jl
      have ez : d[k].1 ++ ("(" ++ sOf (jn ((chA d (some k)).map (TT d))) ++ ")") = sOf (TT d k) := str_eq (by
        rw [cps_app, cps_app, cps_app, sOf_cps, sOf_cps, tre, k40, k41]; rfl)
      have e1 : ("(" ++ sOf (jn ((chA d (some k)).map (TT d))) : Str).length = 1 + (sOf (jn ((chA d (some k)).map (TT d)))).length := by
        rw [len_cps, cps_app, k40, len_cps]; simp; omega
      have e2 : ("(" ++ sOf (jn ((chA d (some k)).map (TT d))) ++ ")" : Str).length = 2 + (sOf (jn ((chA d (some k)).map (TT d)))).length := by
        rw [len_cps, cps_app, cps_app, k40, k41, len_cps]; simp; omega
      simp [hc, eg3, txl, ↓kIx_nat hk]
      have sz : ∀ n : Nat, n ≤ 50010 → n ≤ sizeLine := fun n hn => by rw [sizeLine_eq]; omega
      exact ⟨sz _ (by rw [l40]; omega), sz _ (by rw [e1, l41]; omega), sz _ (by rw [l1, e2]; omega), mkc _ _ ez fr3⟩
  · rintro σ M' ⟨x, y, z, w, rfl, eg, fr⟩
    rw [lm] at eg
    simp
    refine Fg.le (M := up M g (.lst (txtT d d.length))) (fun a u e => ?_) (hq g hg)
    by_cases c : a = g
    · subst c; rw [up_same] at e; rw [← e]; exact eg
    · rw [up_ne c] at e; exact fr a u e
end T

/-! V: the law's own piece. -/
namespace T
open PySem PySem.Spec PyProof.Rows L2
def sp__law_piece : Sp2 := A2 fun a b M Q _ => ∃ (d : Doc) (k : Nat), a = docT d ∧ b = .int k ∧ d.length ≤ 20000 ∧ k < d.length ∧ Q (docT (subD d k)) M
def n__law_piece : List Str := "document" :: "node" :: "less" :: "got" :: "mark" :: "depth" :: []
def b__law_piece : TS2 := (sSq (sAs (eOp rIx2 (eOp rIx2 (eVar 0) (eVar 1)) (eC (.int 1))) (gN 2))
  (sSq (sAs (eLst (aCons (eTup (aCons (eOp rIx2 (eOp rIx2 (eVar 0) (eVar 1)) (eC (.int 0))) (aCons (eC (.int 0)) aNil))) aNil)) (gN 3))
  (sSq (sFo (iSq (eSl rSl2 (eVar 0) (oPart (eOp rAdd2 (eVar 1) (eC (.int 1)))) oNo)) (gT 2 (gCo (gN 4) (gCo (gN 5) gNil2))) (sSq (sIf (tCm (eOp rLeI (eVar 5) (eVar 2))) sBk sNx)
  (sDr (eM "list" rApp2 (eVar 3) (aCons (eTup (aCons (eVar 4) (aCons (eOp rSub2 (eVar 5) (eVar 2)) aNil))) aNil)))))
  (sRt (eB rTuple2 (aCons (eVar 3) aNil))))))
theorem sem__law_piece : ∀ ds M Q E, sp__law_piece ds M Q E → b__law_piece (fEnds Q E) (start2 n__law_piece ds) M := by
  rintro ds M Q E ⟨a, b, rfl, d, k, rfl, rfl, hl, hk, hq⟩
  have ec : cutT (d.map entT) (some ((k : Int) + 1)) none = (d.map entT).drop (k + 1) := by rw [← cutT_lo]; rfl
  have l1 : 1 ≤ sizeLine := small_line (by decide)
  have l2 : 2 ≤ sizeLine := small_line (by decide)
  have hdk : (d[k]).2 = depA d k := (depA_at (by simp [hk])).symm
  simp only [b__law_piece, start2, n__law_piece]
  simp [docT, ↓kAt_doc hk, l1, l2]
  intro p hp
  have s0 : [Tr.tup [.str d[k].1, .int 0]] = (lowBy (depA d k) (seg d k (k + 1))).map entT := by
    rw [seg_snoc (Nat.le_refl _) hk, seg_nil]
    simp [lowBy, entT, hdk]
  rw [s0]
  have fin : ∀ (x y : Option Tr) (M1 : Ms), (∀ a o, M a = some o → M1 a = some o) → M1 p = some (.lst ((subD d k).map entT)) → sRt (eB rTuple2 (aCons (eVar 3) aNil)) (fEnds Q E) [some (docT d), some (.int k), some (.int (depA d k)), some (.loc p), x, y] M1 := fun x y M1 fr ep => by
    simp [ep]
    exact Fg.le fr hq
  simp [docT]
  rw [ec]
  refine for_itL (fun i σ M' => k + 1 + i ≤ d.length ∧ (∀ j, k < j → j < k + 1 + i → depA d k < depA d j) ∧ ∃ x y, σ = [some (docT d), some (.int k), some (.int (depA d k)), some (.loc p), x, y] ∧ (∀ a o, M a = some o → M' a = some o) ∧ M' p = some (.lst ((lowBy (depA d k) (seg d k (k + 1 + i))).map entT))) ?_ ?_ ?_ ?_
  · exact ⟨by omega, fun j a b => by omega, none, none, rfl, fun a o h => by rw [up_ne (m_ne h hp)]; exact h, up_same⟩
  · rintro i σ M' _ _
    rfl
  · rintro i e σ M' he ⟨h1, h2, x, y, rfl, fr, ep⟩
    rw [List.getElem?_drop] at he
    obtain ⟨en, hen, rfl⟩ := ent_at he
    have hi : k + 1 + i < d.length := (List.getElem?_eq_some_iff.mp hen).1
    have hden : d[k + 1 + i] = en := by
      have : d[k + 1 + i]? = some d[k + 1 + i] := by simp [hi]
      rw [this] at hen; exact Option.some.inj hen
    have hz : (lowBy (depA d k) (seg d k (k + 1 + i))).length < sizeLine := small_lt (by unfold lowBy seg; simp; omega)
    by_cases c : depA d (k + 1 + i) ≤ depA d k
    · have e := (show IsEnd d k (k + 1 + i) from ⟨by omega, by omega, h2, fun _ => c⟩).eq
      have ep2 : M' p = some (.lst ((subD d k).map entT)) := by unfold subD; rw [← e]; exact ep
      have := fin (some (.str en.1)) (some (.int (depA d (k + 1 + i)))) M' fr ep2
      simp [docT, ep2] at this
      simp [docT, c, ep2]
      exact this
    · simp only [gT_ap, gCo_ap, gN_4, gN_5, gNil2_ap, List.length_cons, List.length_nil, true_and]
      refine nx_cut fun NX hN => ?_
      simp [docT, c, ep, l2, hz]
      refine hN _ _ ⟨by omega, fun j a b => ?_, _, _, rfl, fun a o h => by rw [up_ne (m_ne h hp)]; exact fr a o h, ?_⟩
      · by_cases q : j = k + 1 + i
        · subst q; omega
        · exact h2 j a (by omega)
      · rw [up_same]
        have e1 : k + 1 + (i + 1) = (k + 1 + i) + 1 := by omega
        rw [e1, seg_snoc (by omega) hi, hden]
        have e2 : ((en.2 - depA d k : Nat) : Int) = (depA d (k + 1 + i) : Int) - (depA d k : Int) := by
          rw [depA_at hen]
          rw [depA_at hen] at c
          omega
        simp [lowBy, entT, e2]
  · rintro σ M' ⟨h1, h2, x, y, rfl, fr, ep⟩
    simp at h1 h2 ep
    have e := (show IsEnd d k d.length from ⟨by omega, by omega, fun j a b => h2 j a (by omega), fun h => absurd h (Nat.lt_irrefl _)⟩).eq
    refine fin x y M' fr ?_
    unfold subD
    rw [← e, ep]
    have : k + 1 + (d.length - (k + 1)) = d.length := by omega
    simp [this]
end T

/-! V: texts of documents as data. -/
namespace T
open PySem PySem.Spec PyProof.Rows L2
/-- an entry of a document as data -/
def entOk (t : Tr) : Prop := ∃ (z : Str) (k : Nat), t = .tup [.str z, .int k] ∧ isMk (.str z) = true ∧ k ≤ 1000000
theorem entOk_sh {t : Tr} (h : entOk t) : (toP t).showable = true ∧ (toP t).hasDict = false ∧ (toP t).depth = 1 ∧ (toP t).shown.length ≤ 4000 ∧ pureT t = true := by
  obtain ⟨z, k, rfl, hz, hk⟩ := h
  obtain ⟨c, rfl, _⟩ := mk_chS hz
  have hc := isMk_mem hz
  have hsm := log_small (i := (k : Int)) (by omega) (by omega)
  refine ⟨?_, rfl, rfl, ?_, rfl⟩
  · show (true && (decide ((k : Int).natAbs.log2 < 1920) && true)) = true
    rw [decide_eq_true hsm]; rfl
  · show (tupleText [reprText (chS c), Str.ofString (toString (k : Int))]).length ≤ _
    have h1 : (reprText (chS c)).length ≤ 12 := by
      have := PySem.StrLaws.reprText_len (chS c) (fun x hx => by
        have : x = c := by simpa [chS] using hx
        subst this
        simp at hc
        omega)
      have l : (chS c).length = 1 := rfl
      omega
    have h2 := int_text_len_1921 hsm
    have := tupleText_le (k := 1921) (ts := [reprText (chS c), Str.ofString (toString (k : Int))]) fun t ht => by
      simp at ht
      rcases ht with rfl | rfl
      · omega
      · exact h2
    simp only [List.length_cons, List.length_nil] at this
    omega
theorem entL {l : List Tr} (h : ∀ t ∈ l, entOk t) : PyData.showableAll (toPs l) = true ∧ PyData.hasDictAll (toPs l) = false ∧ PyData.depthAll (toPs l) ≤ 1 ∧ pureL l = true := by
  induction l with
  | nil => exact ⟨rfl, rfl, Nat.zero_le _, rfl⟩
  | cons t r ih =>
    obtain ⟨a, b, c, d, e⟩ := entOk_sh (h t List.mem_cons_self)
    obtain ⟨a', b', c', e'⟩ := ih fun x hx => h x (List.mem_cons_of_mem _ hx)
    refine ⟨?_, ?_, ?_, ?_⟩
    · show ((toP t).showable && PyData.showableAll (toPs r)) = true
      rw [a, a']; rfl
    · show ((toP t).hasDict || PyData.hasDictAll (toPs r)) = false
      rw [b, b']; rfl
    · show max (toP t).depth (PyData.depthAll (toPs r)) ≤ 1
      rw [c]; omega
    · show (pureT t && pureL r) = true
      rw [e, e']; rfl
theorem doc_ents {d : Doc} (hv : Vd 0 d) (hl : d.length ≤ 1000000) : ∀ t ∈ d.map entT, entOk t := by
  intro t ht
  obtain ⟨e, he, rfl⟩ := List.mem_map.mp ht
  obtain ⟨i, hi, rfl⟩ := List.getElem_of_mem he
  have e1 : d[i]? = some d[i] := by simp [hi]
  have := Val.dep_lt hv hi
  rw [depA_at e1] at this
  exact ⟨_, _, rfl, (hv.dep i _ e1).1, by omega⟩
theorem reprS_doc {d : Doc} {M : Ms} {Q : Q2} {fx : Fx Q} (hv : Vd 0 d) (hl : d.length ≤ 1000) (hq : Q (.str (toP (docT d)).shown) M) : ReprS (docT d) M Q fx := by
  obtain ⟨a, b, c, e⟩ := entL (doc_ents hv (by omega))
  refine ⟨toP (docT d), dat_pure e, a, b, ?_, ?_, hq⟩
  · show PyData.depthAll (toPs (d.map entT)) + 1 ≤ 50
    omega
  · show (tupleText (PyData.shownAll (toPs (d.map entT)))).length ≤ _
    rw [shownAll_eq]
    have := tupleText_le (k := 4000) (ts := (d.map entT).map fun t => (toP t).shown) fun t ht => by
      obtain ⟨x, hx, rfl⟩ := List.mem_map.mp ht
      exact (entOk_sh (doc_ents hv (by omega) x hx)).2.2.2.1
    rw [List.length_map, List.length_map] at this
    have h3 : d.length * (4000 + 2) ≤ 1000 * 4002 := Nat.mul_le_mul hl (Nat.le_refl _)
    rw [sizeLine_eq]
    omega
end T

/-! V: documents told the other way round: the order of the nodes. -/
namespace T
open PySem PySem.Spec PyProof.Rows L2
theorem ch_lt {d : Doc} {k c : Nat} (h : c ∈ chA d (some k)) : k < c ∧ c < d.length := by
  unfold chA at h
  rw [List.mem_filter] at h
  have h1 : c < d.length := by simpa using h.1
  have h2 : parA d c = some k := by simpa using h.2
  exact ⟨par_lt h2, h1⟩
/-- the nodes of a piece, each ahead of its children, the last child first -/
def FLf (d : Doc) : Nat → Nat → List Nat
  | 0, r => [r]
  | f + 1, r => r :: (chA d (some r)).reverse.flatMap (FLf d f)
theorem flatMap_eq {l : List Nat} {f g : Nat → List Nat} (h : ∀ x ∈ l, f x = g x) : l.flatMap f = l.flatMap g := by
  induction l with
  | nil => rfl
  | cons x r ih =>
    rw [List.flatMap_cons, List.flatMap_cons, h x List.mem_cons_self, ih fun y hy => h y (List.mem_cons_of_mem _ hy)]
theorem ch_nil {d : Doc} {r : Nat} (h : d.length ≤ r + 1) : chA d (some r) = [] := by
  cases e : chA d (some r) with
  | nil => rfl
  | cons c l =>
    have := ch_lt (d := d) (k := r) (c := c) (by rw [e]; exact List.mem_cons_self)
    omega
theorem FLf_stable {d : Doc} : ∀ {f f' r : Nat}, d.length ≤ f + r + 1 → d.length ≤ f' + r + 1 → FLf d f r = FLf d f' r
  | 0, 0, r, _, _ => rfl
  | 0, f' + 1, r, h, _ => by
    show [r] = r :: _
    rw [ch_nil (by omega)]; rfl
  | f + 1, 0, r, _, h => by
    show r :: _ = [r]
    rw [ch_nil (by omega)]; rfl
  | f + 1, f' + 1, r, h, h' => by
    show r :: _ = r :: _
    congr 1
    refine flatMap_eq fun c hc => ?_
    have := ch_lt (List.mem_reverse.mp hc)
    exact FLf_stable (by omega) (by omega)
def FL (d : Doc) (r : Nat) : List Nat := FLf d d.length r
theorem FL_eq {d : Doc} {r : Nat} : FL d r = r :: (chA d (some r)).reverse.flatMap (FL d) := by
  unfold FL
  rw [FLf_stable (f := d.length) (f' := d.length + 1) (by omega) (by omega)]
  rfl
/-- all nodes, told the other way round -/
def FO (d : Doc) : List Nat := (chA d none).reverse.flatMap (FL d)
def flipD (d : Doc) : Doc := (FO d).filterMap fun k => d[k]?
end T

/-! W: the paths of a forest's nodes, told along the sequence of depths; plain lists alone. -/
namespace T
/-- the path of the next node, of depth g, behind the path s -/
def stP (s : List Nat) (g : Nat) : List Nat := if g < s.length then s.take g ++ [s[g]?.getD 0 + 1] else s ++ [0]
variable {α : Type}
/-- each entry with its path -/
def pthF (s : List Nat) : List (α × Nat) → List (List Nat × α)
  | [] => []
  | e :: r => (stP s e.2, e.1) :: pthF (stP s e.2) r
/-- the path behind all -/
def stF (s : List Nat) : List (α × Nat) → List Nat
  | [] => s
  | e :: r => stF (stP s e.2) r
/-- depths fit: none is more than the path's length -/
def Fit (m : Nat) : List (α × Nat) → Prop
  | [] => True
  | e :: r => e.2 ≤ m ∧ Fit (e.2 + 1) r
theorem stP_len {s : List Nat} {g : Nat} (h : g ≤ s.length) : (stP s g).length = g + 1 := by
  unfold stP
  split
  · rw [List.length_append, List.length_take]; simp; omega
  · rw [List.length_append]; simp; omega
theorem stP_take {s : List Nat} {g h : Nat} (hg : g ≤ s.length) (hh : h ≤ g) : (stP s g).take h = s.take h := by
  unfold stP
  split
  · rw [List.take_append_of_le_length (by rw [List.length_take]; omega), List.take_take, Nat.min_eq_left hh]
  · rw [List.take_append_of_le_length (by omega)]
theorem stP_lt {s : List Nat} {g : Nat} (h : g < s.length) : stP s g = s.take g ++ [s[g] + 1] := by
  unfold stP; rw [if_pos h]; simp [h]
theorem stP_eq {s : List Nat} {g : Nat} (h : g = s.length) : stP s g = s ++ [0] := by
  unfold stP; rw [if_neg (by omega)]
theorem pthF_app {s : List Nat} {x y : List (α × Nat)} : pthF s (x ++ y) = pthF s x ++ pthF (stF s x) y := by
  induction x generalizing s with
  | nil => rfl
  | cons e r ih => simp only [List.cons_append, pthF, stF, ih]
theorem stF_app {s : List Nat} {x y : List (α × Nat)} : stF s (x ++ y) = stF (stF s x) y := by
  induction x generalizing s with
  | nil => rfl
  | cons e r ih => simp only [List.cons_append, stF, ih]
theorem pthF_len {s : List Nat} {x : List (α × Nat)} : (pthF s x).length = x.length := by
  induction x generalizing s with
  | nil => rfl
  | cons e r ih => simp [pthF, ih]
theorem Fit.app {m : Nat} {x y : List (α × Nat)} (h : Fit m (x ++ y)) : Fit m x ∧ ∀ s : List Nat, s.length = m → Fit (stF s x).length y := by
  induction x generalizing m with
  | nil => exact ⟨trivial, fun s e => by subst e; exact h⟩
  | cons e r ih =>
    obtain ⟨h1, h2⟩ := h
    obtain ⟨a, b⟩ := ih h2
    exact ⟨⟨h1, a⟩, fun s es => b (stP s e.2) (stP_len (by omega))⟩
theorem Fit.glue {m : Nat} {x y : List (α × Nat)} (h : Fit m x) (h2 : ∀ s : List Nat, s.length = m → Fit (stF s x).length y) : Fit m (x ++ y) := by
  induction x generalizing m with
  | nil => have := h2 (List.replicate m 0) (by simp); simpa [stF] using this
  | cons e r ih =>
    obtain ⟨h1, h3⟩ := h
    exact ⟨h1, ih h3 fun s es => by
      have := h2 (List.replicate m 0) (by simp)
      have e1 : (stF s r).length = (stF (stP (List.replicate m 0) e.2) r).length := by
        have key : ∀ (r : List (α × Nat)) (s s' : List Nat), s.length = s'.length → (Fit s.length r) → (stF s r).length = (stF s' r).length := by
          intro r
          induction r with
          | nil => intro s s' h _; exact h
          | cons e r ih2 =>
            intro s s' h hf
            obtain ⟨f1, f2⟩ := hf
            have q1 := stP_len (s := s) (g := e.2) f1
            have q2 := stP_len (s := s') (g := e.2) (by omega)
            exact ih2 _ _ (by omega) (by rw [q1]; exact f2)
        exact key r _ _ (by rw [es, stP_len (by simpa using h1)]) (by rw [es]; exact h3)
      rw [e1]; exact this⟩
theorem Fit.mono {m n : Nat} {x : List (α × Nat)} (h : Fit m x) (l : m ≤ n) : Fit n x := by
  cases x with
  | nil => trivial
  | cons e r => exact ⟨by have := h.1; omega, h.2⟩
/-! the sequence of paths -/
/-- ahead of it, by the first place that differs -/
def PLt (a b : List Nat) : Prop := ∃ p, (∃ x t, a = p ∧ b = p ++ x :: t) ∨ ∃ x y t u, x < y ∧ a = p ++ x :: t ∧ b = p ++ y :: u
theorem stP_gt {s : List Nat} {g : Nat} (h : g ≤ s.length) : PLt s (stP s g) := by
  by_cases c : g < s.length
  · rw [stP_lt c]
    refine ⟨s.take g, .inr ⟨s[g], s[g] + 1, s.drop (g + 1), [], by omega, ?_, rfl⟩⟩
    rw [← List.drop_eq_getElem_cons c, List.take_append_drop]
  · rw [stP_eq (by omega)]
    exact ⟨s, .inl ⟨0, [], rfl, rfl⟩⟩
theorem plt_iff {a b : List Nat} : PLt a b ↔ a < b := by
  constructor
  · rintro ⟨p, h⟩
    induction p generalizing a b with
    | nil =>
      rcases h with ⟨x, t, rfl, rfl⟩ | ⟨x, y, t, u, l, rfl, rfl⟩
      · exact List.Lex.nil
      · exact List.Lex.rel l
    | cons q p ih =>
      rcases h with ⟨x, t, rfl, rfl⟩ | ⟨x, y, t, u, l, rfl, rfl⟩
      · exact List.Lex.cons (ih (.inl ⟨x, t, rfl, rfl⟩))
      · exact List.Lex.cons (ih (.inr ⟨x, y, t, u, l, rfl, rfl⟩))
  · intro h
    induction h with
    | nil => exact ⟨[], .inl ⟨_, _, rfl, rfl⟩⟩
    | rel l => exact ⟨[], .inr ⟨_, _, _, _, l, rfl, rfl⟩⟩
    | @cons c l1 l2 _ ih =>
      obtain ⟨p, h⟩ := ih
      rcases h with ⟨x, t, rfl, rfl⟩ | ⟨x, y, t, u, l, rfl, rfl⟩
      · exact ⟨c :: l1, .inl ⟨x, t, rfl, rfl⟩⟩
      · exact ⟨c :: p, .inr ⟨x, y, t, u, l, rfl, rfl⟩⟩
theorem PLt.trans {a b c : List Nat} (h : PLt a b) (g : PLt b c) : PLt a c := plt_iff.mpr (List.lt_trans (plt_iff.mp h) (plt_iff.mp g))
theorem PLt.irrefl {a : List Nat} (h : PLt a a) : False := List.lt_irrefl a (plt_iff.mp h)
theorem pthF_gt {s : List Nat} {x : List (α × Nat)} (hf : Fit s.length x) : ∀ p ∈ pthF s x, PLt s p.1 := by
  induction x generalizing s with
  | nil => intro p hp; cases hp
  | cons e r ih =>
    intro p hp
    have g := stP_gt hf.1
    rcases List.mem_cons.mp hp with rfl | hp
    · exact g
    · exact g.trans (ih (by rw [stP_len hf.1]; exact hf.2) p hp)
theorem pthF_inc {s : List Nat} {x : List (α × Nat)} (hf : Fit s.length x) : (pthF s x).Pairwise fun p q => PLt p.1 q.1 := by
  induction x generalizing s with
  | nil => exact .nil
  | cons e r ih =>
    have f2 : Fit (stP s e.2).length r := by rw [stP_len hf.1]; exact hf.2
    exact .cons (fun q hq => pthF_gt f2 q hq) (ih f2)
theorem stF_mem {s : List Nat} {x : List (α × Nat)} (hf : Fit s.length x) : ∀ p ∈ pthF s x, p.1 = stF s x ∨ PLt p.1 (stF s x) := by
  induction x generalizing s with
  | nil => intro p hp; cases hp
  | cons e r ih =>
    intro p hp
    have f2 : Fit (stP s e.2).length r := by rw [stP_len hf.1]; exact hf.2
    rcases List.mem_cons.mp hp with rfl | hp
    · have key : ∀ (r : List (α × Nat)) (s : List Nat), Fit s.length r → s = stF s r ∨ PLt s (stF s r) := by
        intro r
        induction r with
        | nil => intro s _; exact .inl rfl
        | cons e r ih2 =>
          intro s hf
          refine .inr ?_
          have g := stP_gt hf.1
          rcases ih2 (stP s e.2) (by rw [stP_len hf.1]; exact hf.2) with c | c
          · show PLt s (stF (stP s e.2) r)
            rw [← c]; exact g
          · exact g.trans c
      exact key r _ f2
    · exact ih f2 p hp
/-! a path ahead of others -/
theorem stP_pre {q s : List Nat} {g : Nat} : stP (q ++ s) (q.length + g) = q ++ stP s g := by
  unfold stP
  by_cases c : g < s.length
  · rw [if_pos (by rw [List.length_append]; omega), if_pos c, List.take_length_add_append, List.append_assoc]
    congr 2
    rw [List.getElem?_append_right (by omega)]
    simp
  · rw [if_neg (by rw [List.length_append]; omega), if_neg c, List.append_assoc]
def lowE (g : Nat) (x : List (α × Nat)) : List (α × Nat) := x.map fun e => (e.1, e.2 - g)
theorem pthF_pre {q : List Nat} : ∀ {x : List (α × Nat)} {s : List Nat}, (∀ e ∈ x, q.length ≤ e.2) → pthF (q ++ s) x = (pthF s (lowE q.length x)).map fun p => (q ++ p.1, p.2)
  | [], s, _ => rfl
  | e :: r, s, h => by
    have h1 := h e List.mem_cons_self
    have e1 : stP (q ++ s) e.2 = q ++ stP s (e.2 - q.length) := by
      rw [← stP_pre]; congr 1; omega
    show (stP (q ++ s) e.2, e.1) :: pthF (stP (q ++ s) e.2) r = _
    rw [e1, pthF_pre fun x hx => h x (List.mem_cons_of_mem _ hx)]
    rfl
theorem stF_pre {q : List Nat} : ∀ {x : List (α × Nat)} {s : List Nat}, (∀ e ∈ x, q.length ≤ e.2) → stF (q ++ s) x = q ++ stF s (lowE q.length x)
  | [], s, _ => rfl
  | e :: r, s, h => by
    have h1 := h e List.mem_cons_self
    have e1 : stP (q ++ s) e.2 = q ++ stP s (e.2 - q.length) := by
      rw [← stP_pre]; congr 1; omega
    show stF (stP (q ++ s) e.2) r = _
    rw [e1, stF_pre fun x hx => h x (List.mem_cons_of_mem _ hx)]
    rfl
/-! the shifts -/
/-- the children of above, from which on, one further on -/
def shU (above : List Nat) (which : Nat) (p : List Nat) : List Nat := if above.length < p.length ∧ p.take above.length = above ∧ which ≤ p[above.length]?.getD 0 then above ++ (p[above.length]?.getD 0 + 1) :: p.drop (above.length + 1) else p
/-- .. one back -/
def shD (above : List Nat) (which : Nat) (p : List Nat) : List Nat := if above.length < p.length ∧ p.take above.length = above ∧ which ≤ p[above.length]?.getD 0 then above ++ (p[above.length]?.getD 0 - 1) :: p.drop (above.length + 1) else p
/-- behind it: differs within above, greater there -/
def Aft (above p : List Nat) : Prop := ∃ j, j < above.length ∧ j < p.length ∧ p.take j = above.take j ∧ above[j]?.getD 0 < p[j]?.getD 0
theorem Aft.no {above p : List Nat} (h : Aft above p) : p.take above.length ≠ above := by
  obtain ⟨j, h1, h2, h3, h4⟩ := h
  intro e
  have : p[j]? = above[j]? := by
    rw [← e, List.getElem?_take, if_pos h1]
  rw [this] at h4; omega
theorem Aft.step {above p : List Nat} {h : Nat} (a : Aft above p) (hh : h ≤ p.length) : Aft above (stP p h) := by
  obtain ⟨j, h1, h2, h3, h4⟩ := a
  by_cases c : j < h
  · refine ⟨j, h1, by rw [stP_len hh]; omega, by rw [stP_take hh (by omega)]; exact h3, ?_⟩
    have e : (stP p h)[j]? = p[j]? := by
      have := congrArg (fun l => l[j]?) (stP_take hh (Nat.le_refl h))
      simp only [List.getElem?_take, if_pos c] at this
      exact this
    rw [e]; exact h4
  · by_cases c2 : h = j
    · subst c2
      refine ⟨h, h1, by rw [stP_len hh]; omega, by rw [stP_take hh (Nat.le_refl _)]; exact h3, ?_⟩
      rw [stP_lt h2]
      have : (p.take h ++ [p[h] + 1])[h]? = some (p[h] + 1) := by
        rw [List.getElem?_append_right (by rw [List.length_take]; omega), List.length_take, Nat.min_eq_left (by omega)]
        simp
      rw [this]
      have e2 : p[h]? = some p[h] := by simp [h2]
      rw [e2] at h4
      simp at h4 ⊢
      omega
    · have hj : h < j := by omega
      refine ⟨h, by omega, by rw [stP_len hh]; omega, ?_, ?_⟩
      · rw [stP_take hh (Nat.le_refl _)]
        have := congrArg (List.take h) h3
        rw [List.take_take, List.take_take, Nat.min_eq_left (by omega)] at this
        exact this
      · rw [stP_lt (by omega)]
        have e1 : (p.take h ++ [p[h] + 1])[h]? = some (p[h] + 1) := by
          rw [List.getElem?_append_right (by rw [List.length_take]; omega), List.length_take, Nat.min_eq_left (by omega)]
          simp
        have e2 : p[h]? = above[h]? := by
          have := congrArg (fun l => l[h]?) h3
          simpa only [List.getElem?_take, if_pos hj] using this
        have e3 : p[h]? = some p[h] := by simp
        rw [e1, ← e2, e3]
        simp
/-- two paths beside one another: one told with a piece, one without -/
def Bes (above : List Nat) (which : Nat) (t s : List Nat) : Prop := (∃ w u, which ≤ w ∧ t = above ++ (w + 1) :: u ∧ s = above ++ w :: u) ∨ (t = s ∧ Aft above s)
theorem Bes.step {above : List Nat} {which : Nat} {t s : List Nat} {h : Nat} (b : Bes above which t s) (hh : h ≤ s.length) : Bes above which (stP t h) (stP s h) := by
  rcases b with ⟨w, u, hw, rfl, rfl⟩ | ⟨rfl, a⟩
  · by_cases c : above.length < h
    · refine .inl ⟨w, stP u (h - above.length - 1), hw, ?_, ?_⟩
      · have := stP_pre (q := above ++ [w + 1]) (s := u) (g := h - above.length - 1)
        simp only [List.length_append, List.length_cons, List.length_nil, List.append_assoc, List.cons_append, List.nil_append] at this
        rw [← this]; congr 1; omega
      · have := stP_pre (q := above ++ [w]) (s := u) (g := h - above.length - 1)
        simp only [List.length_append, List.length_cons, List.length_nil, List.append_assoc, List.cons_append, List.nil_append] at this
        rw [← this]; congr 1; omega
    · by_cases c2 : h = above.length
      · subst c2
        refine .inl ⟨w + 1, [], by omega, ?_, ?_⟩
        · rw [stP_lt (by simp)]; simp
        · rw [stP_lt (by simp)]; simp
      · have hlt : h < above.length := by omega
        refine .inr ⟨?_, ?_⟩
        · rw [stP_lt (by simp; omega), stP_lt (by simp; omega)]
          rw [List.take_append_of_le_length (by omega), List.take_append_of_le_length (by omega)]
          simp [List.getElem_append_left hlt]
        · refine ⟨h, hlt, by rw [stP_len (by simp; omega)]; omega, ?_, ?_⟩
          · rw [stP_take (by simp; omega) (Nat.le_refl _), List.take_append_of_le_length (by omega)]
          · rw [stP_lt (by simp; omega)]
            rw [List.take_append_of_le_length (by omega), List.getElem?_append_right (by rw [List.length_take]; omega), List.length_take, Nat.min_eq_left (by omega)]
            simp [List.getElem_append_left hlt, hlt]
  · exact .inr ⟨rfl, a.step hh⟩
theorem Bes.len {above : List Nat} {which : Nat} {t s : List Nat} (b : Bes above which t s) : t.length = s.length := by
  rcases b with ⟨w, u, hw, rfl, rfl⟩ | ⟨rfl, _⟩
  · simp
  · rfl
theorem Bes.up {above : List Nat} {which : Nat} {t s : List Nat} (b : Bes above which t s) : t = shU above which s := by
  unfold shU
  rcases b with ⟨w, u, hw, rfl, rfl⟩ | ⟨rfl, a⟩
  · rw [if_pos ⟨by simp, by simp, by simpa using hw⟩]
    simp
  · rw [if_neg fun ⟨_, e, _⟩ => a.no e]
theorem Bes.down {above : List Nat} {which : Nat} {t s : List Nat} (b : Bes above which t s) : s = shD above which t := by
  unfold shD
  rcases b with ⟨w, u, hw, rfl, rfl⟩ | ⟨rfl, a⟩
  · rw [if_pos ⟨by simp, by simp, by simp; omega⟩]
    simp
  · rw [if_neg fun ⟨_, e, _⟩ => a.no e]
theorem bes_all {above : List Nat} {which : Nat} : ∀ {B : List (α × Nat)} {t s : List Nat}, Bes above which t s → Fit s.length B → pthF t B = (pthF s B).map (fun p => (shU above which p.1, p.2)) ∧ pthF s B = (pthF t B).map fun p => (shD above which p.1, p.2)
  | [], _, _, _, _ => ⟨rfl, rfl⟩
  | e :: r, t, s, b, f => by
    have b2 := b.step f.1
    obtain ⟨h1, h2⟩ := bes_all b2 (by rw [stP_len f.1]; exact f.2)
    constructor
    · show (stP t e.2, e.1) :: pthF (stP t e.2) r = _
      rw [h1, b2.up]; rfl
    · show (stP s e.2, e.1) :: pthF (stP s e.2) r = _
      rw [h2, b2.down]; rfl
/-- the first step behind a piece -/
theorem bes_first {above s t : List Nat} {which h : Nat} (hq : stP s above.length = above ++ [which]) (hs : above.length ≤ s.length) (ht : t.take (above.length + 1) = above ++ [which]) (hh : h ≤ above.length) : Bes above which (stP t h) (stP s h) := by
  have hl : above.length < t.length := by
    have := congrArg List.length ht
    rw [List.length_take] at this
    simp at this
    omega
  have hta : t.take above.length = above := by
    have := congrArg (List.take above.length) ht
    rw [List.take_take, Nat.min_eq_left (by omega)] at this
    rw [this]; simp
  have htw : t[above.length]? = some which := by
    have := congrArg (fun l => l[above.length]?) ht
    simp only [List.getElem?_take, if_pos (Nat.lt_succ_self _)] at this
    rw [this]; simp
  have hsa : s.take above.length = above := by
    have := stP_take hs (Nat.le_refl above.length)
    rw [← this, hq]; simp
  by_cases c : h = above.length
  · subst c
    refine .inl ⟨which, [], Nat.le_refl _, ?_, hq⟩
    rw [stP_lt hl, hta]
    have : t[above.length] = which := by
      have e : t[above.length]? = some t[above.length] := by simp [hl]
      rw [e] at htw; exact Option.some.inj htw
    rw [this]
  · have hlt : h < above.length := by omega
    have e1 : t[h]? = above[h]? := by
      have := congrArg (fun l => l[h]?) hta
      simpa only [List.getElem?_take, if_pos hlt] using this
    have e2 : s[h]? = above[h]? := by
      have := congrArg (fun l => l[h]?) hsa
      simpa only [List.getElem?_take, if_pos hlt] using this
    have t1 : t.take h = above.take h := by
      have := congrArg (List.take h) hta
      rwa [List.take_take, Nat.min_eq_left (by omega)] at this
    have t2 : s.take h = above.take h := by
      have := congrArg (List.take h) hsa
      rwa [List.take_take, Nat.min_eq_left (by omega)] at this
    have g1 : t[h] = above[h] := by
      have e : t[h]? = some t[h] := by simp
      rw [e, List.getElem?_eq_getElem hlt] at e1; exact Option.some.inj e1
    have g2 : s[h]'(by omega) = above[h] := by
      have e : s[h]? = some (s[h]'(by omega)) := by simp
      rw [e, List.getElem?_eq_getElem hlt] at e2; exact Option.some.inj e2
    refine .inr ⟨?_, ⟨h, hlt, by rw [stP_len (by omega)]; omega, by rw [stP_take (by omega) (Nat.le_refl _)]; exact t2, ?_⟩⟩
    · rw [stP_lt (by omega), stP_lt (by omega), t1, t2, g1, g2]
    · rw [stP_lt (by omega), t2, List.getElem?_append_right (by rw [List.length_take]; omega), List.length_take, Nat.min_eq_left (by omega), g2]
      simp [hlt]
end T

/-! W: a piece put, a piece taken, told by paths. -/
namespace T
variable {α : Type}
theorem bes_B {above s t : List Nat} {which : Nat} {B : List (α × Nat)} (hq : stP s above.length = above ++ [which]) (hs : above.length ≤ s.length) (ht : t.take (above.length + 1) = above ++ [which]) (hB : ∀ e ∈ B.head?, e.2 ≤ above.length) (f : Fit s.length B) :
    pthF t B = (pthF s B).map (fun p => (shU above which p.1, p.2)) ∧ pthF s B = ((pthF t B).map fun p => (shD above which p.1, p.2)) ∧ ∀ p ∈ pthF t B, ∃ s', Bes above which p.1 s' := by
  cases B with
  | nil => exact ⟨rfl, rfl, fun p hp => by cases hp⟩
  | cons e r =>
    have b := bes_first hq hs ht (hB e rfl)
    have f2 : Fit (stP s e.2).length r := by rw [stP_len f.1]; exact f.2
    obtain ⟨h1, h2⟩ := bes_all b f2
    refine ⟨?_, ?_, ?_⟩
    · show (stP t e.2, e.1) :: pthF (stP t e.2) r = _
      rw [h1, b.up]; rfl
    · show (stP s e.2, e.1) :: pthF (stP s e.2) r = _
      rw [h2, b.down]; rfl
    · have key : ∀ (r : List (α × Nat)) (t s : List Nat), Bes above which t s → Fit s.length r → ∀ p ∈ pthF t r, ∃ s', Bes above which p.1 s' := by
        intro r
        induction r with
        | nil => intro t s _ _ p hp; cases hp
        | cons e r ih =>
          intro t s b f p hp
          have b2 := b.step f.1
          rcases List.mem_cons.mp hp with rfl | hp
          · exact ⟨_, b2⟩
          · exact ih _ _ b2 (by rw [stP_len f.1]; exact f.2) p hp
      intro p hp
      rcases List.mem_cons.mp hp with rfl | hp
      · exact ⟨_, b⟩
      · exact key r _ _ b f2 p hp
theorem not_lt {which y : Nat} (hy : which ≤ y) : ∀ (a u : List Nat), ¬ (a ++ y :: u < a ++ [which])
  | [], u, h => by
    cases h with
    | rel l => omega
    | cons l => cases l
  | x :: a, u, h => by
    cases h with
    | rel l => exact Nat.lt_irrefl _ l
    | cons l => exact not_lt hy a u l
theorem shU_lt {above p : List Nat} {which : Nat} (h : PLt p (above ++ [which])) : shU above which p = p := by
  unfold shU
  rw [if_neg]
  rintro ⟨h1, h2, h3⟩
  have e : p = above ++ p[above.length] :: p.drop (above.length + 1) := by
    conv => lhs; rw [← List.take_append_drop above.length p, h2, List.drop_eq_getElem_cons h1]
  have e3 : p[above.length]? = some p[above.length] := by simp [h1]
  rw [e3] at h3
  have l := plt_iff.mp h
  rw [e] at l
  exact not_lt h3 _ _ l
theorem shD_lt {above p : List Nat} {which : Nat} (h : PLt p (above ++ [which])) : shD above which p = p := by
  have := shU_lt h
  unfold shU at this
  unfold shD
  by_cases c : above.length < p.length ∧ p.take above.length = above ∧ which ≤ p[above.length]?.getD 0
  · rw [if_pos c] at this
    exfalso
    have e := congrArg (fun l => l[above.length]?) this
    simp only [List.getElem?_append_right (Nat.le_refl _), Nat.sub_self, List.getElem?_cons_zero] at e
    rw [List.getElem?_eq_getElem c.1] at e
    simp at e
  · rw [if_neg c]
theorem pre_lt {q p : List Nat} (h : PLt p q) : p.take q.length ≠ q := by
  intro e
  have : p = q ++ p.drop q.length := by
    conv => lhs; rw [← List.take_append_drop q.length p, e]
  rw [this] at h
  have l := plt_iff.mp h
  have key : ∀ (a u : List Nat), ¬ (a ++ u < a) := by
    intro a
    induction a with
    | nil => intro u h; cases h
    | cons x a ih => intro u h; cases h with
      | rel l => exact Nat.lt_irrefl _ l
      | cons l => exact ih u l
  exact key _ _ l
theorem bes_pre {above t s : List Nat} {which : Nat} (b : Bes above which t s) : t.take (above.length + 1) ≠ above ++ [which] := by
  rcases b with ⟨w, u, hw, rfl, rfl⟩ | ⟨rfl, a⟩
  · intro e
    have : (above ++ (w + 1) :: u).take (above.length + 1) = above ++ [w + 1] := by rw [List.take_length_add_append]; rfl
    rw [this] at e
    have := List.append_cancel_left e
    simp at this
    omega
  · intro e
    have := congrArg (List.take above.length) e
    rw [List.take_take, Nat.min_eq_left (by omega)] at this
    exact a.no (by rw [this]; simp)
theorem pthF_le {A : List (α × Nat)} {above : List Nat} {which : Nat} (hf : Fit 0 A) (hs : above.length ≤ (stF [] A).length) (hq : stP (stF [] A) above.length = above ++ [which]) : ∀ p ∈ pthF [] A, PLt p.1 (above ++ [which]) := by
  intro p hp
  have g := stP_gt hs
  rw [hq] at g
  rcases stF_mem (s := []) hf p hp with e | e
  · rw [e]; exact g
  · exact e.trans g
def liftE (g : Nat) (x : List (α × Nat)) : List (α × Nat) := x.map fun e => (e.1, e.2 + g)
theorem low_lift {g h : Nat} {x : List (α × Nat)} (hx : ∀ e ∈ x, h ≤ e.2) : lowE (g + h) (liftE g x) = lowE h x := by
  unfold lowE liftE
  rw [List.map_map]
  refine List.map_congr_left fun e he => ?_
  show (e.1, e.2 + g - (g + h)) = (e.1, e.2 - h)
  have := hx e he
  congr 1
  omega
/-- a piece put -/
theorem pth_put {A B R : List (α × Nat)} {a : α} {above : List Nat} {which : Nat} (hf : Fit 0 (A ++ B)) (hs : above.length ≤ (stF [] A).length) (hq : stP (stF [] A) above.length = above ++ [which]) (hB : ∀ e ∈ B.head?, e.2 ≤ above.length) (hR : ∀ e ∈ R, 1 ≤ e.2) :
    pthF [] (A ++ liftE above.length ((a, 0) :: R) ++ B) = (pthF [] A).map (fun p => (shU above which p.1, p.2)) ++ (above ++ [which], a) :: ((pthF [] (lowE 1 R)).map fun p => (above ++ [which] ++ p.1, p.2)) ++ (pthF (stF [] A) B).map fun p => (shU above which p.1, p.2) := by
  have fA := hf.app.1
  have fB := hf.app.2 [] rfl
  have eA : (pthF [] A).map (fun p => (shU above which p.1, p.2)) = pthF [] A := by
    conv => rhs; rw [← List.map_id (pthF [] A)]
    refine List.map_congr_left fun p hp => ?_
    rw [shU_lt (pthF_le fA hs hq p hp)]; rfl
  have hl : (above ++ [which]).length = above.length + 1 := by simp
  have hR2 : ∀ e ∈ liftE above.length R, (above ++ [which]).length ≤ e.2 := by
    intro e he
    unfold liftE at he
    obtain ⟨e', h1, rfl⟩ := List.mem_map.mp he
    have := hR e' h1
    simp; omega
  have e1 : liftE above.length ((a, 0) :: R) = (a, above.length) :: liftE above.length R := by simp [liftE]
  have low : lowE (above ++ [which]).length (liftE above.length R) = lowE 1 R := by rw [hl]; exact low_lift hR
  have p1 := pthF_pre (q := above ++ [which]) (s := []) hR2
  have s1 := stF_pre (q := above ++ [which]) (s := []) hR2
  rw [List.append_nil] at p1 s1
  rw [low] at p1 s1
  rw [List.append_assoc, pthF_app, eA, e1]
  show _ ++ (stP (stF [] A) above.length, a) :: pthF (stP (stF [] A) above.length) (liftE above.length R ++ B) = _
  rw [hq, pthF_app, p1, s1]
  have tt : (above ++ [which] ++ stF [] (lowE 1 R)).take (above.length + 1) = above ++ [which] := by
    rw [List.take_append_of_le_length (by simp), List.take_of_length_le (by simp)]
  rw [(bes_B hq hs tt hB fB).1]
  simp
/-- a piece taken -/
theorem pth_take {A B R : List (α × Nat)} {a : α} {g : Nat} {above : List Nat} {which : Nat} (hf : Fit 0 (A ++ (a, g) :: R ++ B)) (hg : g = above.length) (hq : stP (stF [] A) g = above ++ [which]) (hB : ∀ e ∈ B.head?, e.2 ≤ g) (hR : ∀ e ∈ R, g + 1 ≤ e.2) :
    ((pthF [] (A ++ (a, g) :: R ++ B)).filter fun p => decide (p.1.take (g + 1) = above ++ [which])) = (above ++ [which], a) :: ((pthF [] (lowE (g + 1) R)).map fun p => (above ++ [which] ++ p.1, p.2)) ∧
    (((pthF [] (A ++ (a, g) :: R ++ B)).filter fun p => decide (p.1.take (g + 1) ≠ above ++ [which])).map fun p => (shD above which p.1, p.2)) = pthF [] (A ++ B) := by
  subst hg
  have f1 : Fit 0 (A ++ ((a, above.length) :: R ++ B)) := by simpa using hf
  have fA := f1.app.1
  have f2 := f1.app.2 [] rfl
  have hs : above.length ≤ (stF [] A).length := f2.1
  have hl : (above ++ [which]).length = above.length + 1 := by simp
  have hR2 : ∀ e ∈ R, (above ++ [which]).length ≤ e.2 := by rw [hl]; exact hR
  have p1 := pthF_pre (q := above ++ [which]) (s := []) hR2
  have s1 := stF_pre (q := above ++ [which]) (s := []) hR2
  rw [List.append_nil, hl] at p1 s1
  have tt : (above ++ [which] ++ stF [] (lowE (above.length + 1) R)).take (above.length + 1) = above ++ [which] := by
    rw [List.take_append_of_le_length (by simp), List.take_of_length_le (by simp)]
  have fB : Fit (stF [] A).length B := by
    have f3 : Fit (above.length + 1) (R ++ B) := f2.2
    have := f3.app.2 (List.replicate (above.length + 1) 0) (by simp)
    cases B with
    | nil => trivial
    | cons e r => exact ⟨by have := hB e rfl; omega, this.2⟩
  obtain ⟨b1, b2, b3⟩ := bes_B hq hs tt hB fB
  have whole : pthF [] (A ++ (a, above.length) :: R ++ B) = pthF [] A ++ ((above ++ [which], a) :: ((pthF [] (lowE (above.length + 1) R)).map fun p => (above ++ [which] ++ p.1, p.2)) ++ pthF (above ++ [which] ++ stF [] (lowE (above.length + 1) R)) B) := by
    rw [List.append_assoc, pthF_app]
    show _ ++ (stP (stF [] A) above.length, a) :: pthF (stP (stF [] A) above.length) (R ++ B) = _
    rw [hq, pthF_app, p1, s1]
    simp
  have nA : ∀ p ∈ pthF [] A, p.1.take (above.length + 1) ≠ above ++ [which] := fun p hp => by
    have := pre_lt (pthF_le fA hs hq p hp)
    rwa [hl] at this
  have yP : ∀ p ∈ (above ++ [which], a) :: ((pthF [] (lowE (above.length + 1) R)).map fun p => (above ++ [which] ++ p.1, p.2)), p.1.take (above.length + 1) = above ++ [which] := by
    intro p hp
    rcases List.mem_cons.mp hp with rfl | hp
    · exact List.take_of_length_le (by simp)
    · obtain ⟨p', _, rfl⟩ := List.mem_map.mp hp
      show (above ++ [which] ++ p'.1).take _ = _
      rw [List.take_append_of_le_length (by simp), List.take_of_length_le (by simp)]
  have nB : ∀ p ∈ pthF (above ++ [which] ++ stF [] (lowE (above.length + 1) R)) B, p.1.take (above.length + 1) ≠ above ++ [which] := fun p hp => by
    obtain ⟨s', b⟩ := b3 p hp
    exact bes_pre b
  rw [whole]
  constructor
  · rw [List.filter_append, List.filter_append, List.filter_eq_nil_iff.mpr fun p hp => by simpa using nA p hp, List.filter_eq_self.mpr fun p hp => by simpa using yP p hp, List.filter_eq_nil_iff.mpr fun p hp => by simpa using nB p hp]
    simp
  · rw [List.filter_append, List.filter_append, List.filter_eq_self.mpr fun p hp => by simpa using nA p hp, List.filter_eq_nil_iff.mpr fun p hp => by simpa using yP p hp, List.filter_eq_self.mpr fun p hp => by simpa using nB p hp]
    rw [List.nil_append, List.map_append, ← b2, pthF_app]
    congr 1
    conv => rhs; rw [← List.map_id (pthF [] A)]
    refine List.map_congr_left fun p hp => ?_
    rw [shD_lt (pthF_le fA hs hq p hp)]; rfl
end T

/-! W: paths and places of nodes. -/
namespace T
open PySem PySem.Spec PyProof.Rows L2
theorem Vd.fit : ∀ {d : Doc} {m : Nat}, Vd m d → Fit m d
  | [], _, _ => trivial
  | _ :: _, _, h => ⟨h.2.1, Vd.fit h.2.2⟩
/-- the path of what stands at o, [] for the top -/
def ptO (d : Doc) : Option Nat → List Nat
  | none => []
  | some p => stF [] (d.take (p + 1))
/-- how many of the first n nodes are children of o -/
def cntB (d : Doc) (n : Nat) (o : Option Nat) : Nat := ((List.range n).filter fun c => decide (parA d c = o)).length
theorem cntB_succ {d : Doc} {n : Nat} {o : Option Nat} : cntB d (n + 1) o = cntB d n o + if parA d n = o then 1 else 0 := by
  unfold cntB
  rw [List.range_succ, List.filter_append, List.length_append]
  congr 1
  by_cases c : parA d n = o <;> simp [c]
theorem cntB_self {d : Doc} {n : Nat} : ∀ m, m ≤ n + 1 → cntB d m (some n) = 0 := by
  intro m hm
  unfold cntB
  rw [List.length_eq_zero_iff, List.filter_eq_nil_iff]
  intro c hc
  have hc : c < m := by simpa using hc
  simp
  intro e
  have := par_lt e
  omega
def parO (st : List Nat) (g : Nat) : Option Nat := if g = 0 then none else st[g - 1]?
/-- what stands open ahead of node n, beside the path there -/
structure OpenP (d : Doc) (n : Nat) (st s : List Nat) : Prop where
  path : Path d n st
  len : st.length = s.length
  pre : ∀ i, i < s.length → s.take i = ptO d (parO st i)
  cnt : ∀ i (h : i < s.length), s[i] + 1 = cntB d n (parO st i)
  last : 0 < n → st[st.length - 1]? = some (n - 1) ∧ 0 < st.length
  nil : n = 0 → st = []
  eq : s = stF [] (d.take n)
theorem take_succ' {d : Doc} {n : Nat} (h : n < d.length) : d.take (n + 1) = d.take n ++ [d[n]] := by
  rw [List.take_succ_eq_append_getElem h]
theorem OpenP.pos {d : Doc} {n : Nat} {st s : List Nat} (P : OpenP d n st s) : s.length = 0 → n = 0 := by
  intro h
  rcases Nat.eq_zero_or_pos n with c | c
  · exact c
  · have := (P.last c).2
    have := P.len
    omega
/-- the next path -/
theorem OpenP.next {d : Doc} {n : Nat} {st s : List Nat} (P : OpenP d n st s) (hn : n ≤ d.length) {g : Nat} (hg : g ≤ s.length) : stP s g = ptO d (parO st g) ++ [cntB d n (parO st g)] := by
  by_cases c : g < s.length
  · rw [stP_lt c, P.pre g c, P.cnt g c]
  · have e : g = s.length := by omega
    subst e
    rw [stP_eq rfl]
    by_cases c0 : s.length = 0
    · have n0 := P.pos c0
      have : s = [] := List.eq_nil_of_length_eq_zero c0
      subst this
      subst n0
      rfl
    · have hn0 : 0 < n := by
        rcases Nat.eq_zero_or_pos n with z | z
        · have := P.nil z
          rw [this] at P
          have := P.len
          simp at this
          omega
        · exact z
      have l := (P.last hn0).1
      have e1 : parO st s.length = some (n - 1) := by
        unfold parO
        rw [if_neg c0, ← P.len]; exact l
      rw [e1, cntB_self n (by omega)]
      show s ++ [0] = stF [] (d.take (n - 1 + 1)) ++ [0]
      rw [show n - 1 + 1 = n by omega, ← P.eq]
theorem OpenP.inj {d : Doc} {n : Nat} {st s : List Nat} (P : OpenP d n st s) {i j : Nat} (hi : i < s.length + 1) (hj : j < s.length + 1) (h : parO st i = parO st j) : i = j := by
  have hl := P.len
  unfold parO at h
  by_cases a : i = 0
  · by_cases b : j = 0
    · omega
    · rw [if_pos a, if_neg b] at h
      have : j - 1 < st.length := by omega
      rw [List.getElem?_eq_getElem this] at h; cases h
  · by_cases b : j = 0
    · rw [if_neg a, if_pos b] at h
      have : i - 1 < st.length := by omega
      rw [List.getElem?_eq_getElem this] at h; cases h
    · rw [if_neg a, if_neg b] at h
      have h1 : i - 1 < st.length := by omega
      have h2 : j - 1 < st.length := by omega
      have e1 : st[i - 1]? = some st[i - 1] := by simp [h1]
      have e2 : st[j - 1]? = some st[j - 1] := by simp [h2]
      have q1 := (P.path.at_ _ _ e1).2.1
      rw [h] at e1
      have q2 := (P.path.at_ _ _ e1).2.1
      have q3 := (P.path.at_ _ _ e2).2.1
      rw [e2] at e1
      have e3 := Option.some.inj e1
      rw [e3] at q3
      omega
theorem parO_cut {st : List Nat} {i h n : Nat} (hi : i ≤ h) (hh : h ≤ st.length) : parO (st.take h ++ [n]) i = parO st i := by
  unfold parO
  split
  · rfl
  · rw [List.getElem?_append_left (by rw [List.length_take]; omega), List.getElem?_take, if_pos (by omega)]
theorem open_all {d : Doc} (hv : Vd 0 d) : ∀ n, n ≤ d.length → ∃ st, OpenP d n st (stF [] (d.take n))
  | 0, _ => ⟨[], ⟨⟨fun i k e => by simp at e⟩, rfl, fun i h => absurd h (Nat.not_lt_zero _), fun i h => absurd h (Nat.not_lt_zero _), fun h => absurd h (Nat.lt_irrefl _), fun _ => rfl, rfl⟩⟩
  | n + 1, hn => by
    obtain ⟨st, P⟩ := open_all hv n (by omega)
    have hlt : n < d.length := by omega
    have es : stF [] (d.take (n + 1)) = stP (stF [] (d.take n)) d[n].2 := by rw [take_succ' hlt, stF_app]; rfl
    have hfit := (Fit.app (m := 0) (x := d.take n) (y := d.drop n) (by rw [List.take_append_drop]; exact hv.fit)).2 [] rfl
    rw [List.drop_eq_getElem_cons hlt] at hfit
    have hh := hfit.1
    have hd : depA d n = d[n].2 := depA_at (by simp [hlt])
    generalize hs : stF [] (d.take n) = s at P es hh
    generalize hgg : d[n].2 = h at es hh hd
    have hl := P.len
    have tl : (st.take h).length = h := by rw [List.length_take]; omega
    have hpar : parA d n = parO st h := by
      have := (P.path.pop h).par (n := n) (by rw [tl, hd])
      rw [this, hd]
      unfold parO
      split
      · rfl
      · rw [tl, List.getElem?_take, if_pos (by omega)]
    have nx := P.next (by omega) hh
    refine ⟨st.take h ++ [n], ⟨?_, ?_, ?_, ?_, ?_, ?_, rfl⟩⟩
    · exact (P.path.pop h).push (by rw [tl, hd])
    · rw [es, stP_len hh]; simp [tl]
    · rw [es]
      intro i hi
      rw [stP_len hh] at hi
      rw [parO_cut (by omega) (by omega)]
      rcases Nat.lt_or_ge i h with c | c
      · rw [stP_take hh (by omega)]
        exact P.pre i (by omega)
      · have : i = h := by omega
        subst this
        rw [nx, List.take_append_of_le_length]
        · have := congrArg List.length nx
          rw [stP_len hh] at this
          simp at this
          rw [List.take_of_length_le (by omega)]
        · have := congrArg List.length nx
          rw [stP_len hh] at this
          simp at this
          omega
    · rw [es]
      intro i hi
      rw [stP_len hh] at hi
      rw [parO_cut (by omega) (by omega), cntB_succ, hpar]
      rcases Nat.lt_or_ge i h with c | c
      · rw [if_neg fun e => by have := P.inj (by omega) (by omega) e; omega, Nat.add_zero, ← P.cnt i (by omega)]
        have e := congrArg (fun l => l[i]?) (stP_take hh (Nat.le_refl h))
        simp only [List.getElem?_take, if_pos c] at e
        rw [List.getElem?_eq_getElem (by rw [stP_len hh]; omega), List.getElem?_eq_getElem (by omega)] at e
        rw [Option.some.inj e]
      · have : i = h := by omega
        subst this
        rw [if_pos rfl]
        congr 1
        have len := congrArg List.length nx
        rw [stP_len hh] at len
        simp at len
        have e := congrArg (fun l => l[i]?) nx
        simp only [List.getElem?_append_right (Nat.le_of_eq len.symm)] at e
        rw [List.getElem?_eq_getElem (by rw [stP_len hh]; omega), show i - (ptO d (parO st i)).length = 0 by omega] at e
        exact Option.some.inj e
    · intro _
      simp
    · intro h; omega
/-- the path of a node -/
theorem pt_node {d : Doc} (hv : Vd 0 d) {k : Nat} (hk : k < d.length) : stP (stF [] (d.take k)) (depA d k) = ptO d (parA d k) ++ [cntB d k (parA d k)] ∧ depA d k ≤ (stF [] (d.take k)).length ∧ ptO d (some k) = stP (stF [] (d.take k)) (depA d k) := by
  obtain ⟨st, P⟩ := open_all hv k (by omega)
  have hfit := (Fit.app (m := 0) (x := d.take k) (y := d.drop k) (by rw [List.take_append_drop]; exact hv.fit)).2 [] rfl
  rw [List.drop_eq_getElem_cons hk] at hfit
  have hh := hfit.1
  have hd : depA d k = d[k].2 := depA_at (by simp [hk])
  rw [← hd] at hh
  have hl := P.len
  have tl : (st.take (depA d k)).length = depA d k := by rw [List.length_take]; omega
  have hpar : parA d k = parO st (depA d k) := by
    have := (P.path.pop (depA d k)).par (n := k) tl
    rw [this]
    unfold parO
    split
    · rfl
    · rw [tl, List.getElem?_take, if_pos (by omega)]
  refine ⟨?_, hh, ?_⟩
  · rw [hpar]; exact P.next (by omega) hh
  · show stF [] (d.take (k + 1)) = _
    rw [take_succ' hk, stF_app, hd]; rfl
theorem ptO_len {d : Doc} (hv : Vd 0 d) {k : Nat} (hk : k < d.length) : (ptO d (some k)).length = depA d k + 1 := by
  obtain ⟨_, h2, h3⟩ := pt_node hv hk
  rw [h3, stP_len h2]
/-- where a piece is put -/
def depO (d : Doc) : Option Nat → Nat
  | none => 0
  | some k => depA d k + 1
def endO (d : Doc) : Option Nat → Nat
  | none => d.length
  | some k => endA d k
def spotN (d : Doc) (o : Option Nat) (w : Nat) : Nat := ((chA d o)[w]?).getD (endO d o)
theorem cnt_at {d : Doc} {o : Option Nat} {w c : Nat} (h : (chA d o)[w]? = some c) : cntB d c o = w ∧ parA d c = o ∧ c < d.length := by
  have hm := List.mem_of_getElem? h
  have hm2 := hm
  unfold chA at hm2
  rw [List.mem_filter] at hm2
  have hc : c < d.length := by simpa using hm2.1
  have hp : parA d c = o := by simpa using hm2.2
  refine ⟨?_, hp, hc⟩
  have sp : chA d o = ((List.range c).filter fun c => decide (parA d c = o)) ++ c :: ((List.range' (c + 1) (d.length - (c + 1))).filter fun c => decide (parA d c = o)) := by
    unfold chA
    have : List.range d.length = List.range c ++ c :: List.range' (c + 1) (d.length - (c + 1)) := by
      rw [List.range_eq_range', List.range_eq_range']
      have := range_cut (i := 0) (j := c) (k := d.length) (by omega) (by omega)
      simp only [Nat.sub_zero] at this
      rw [this]
      congr 1
      rw [show d.length - c = (d.length - (c + 1)) + 1 by omega, List.range'_succ]
    rw [this, List.filter_append, List.filter_cons, if_pos (by simpa using hp)]
  have nd : (chA d o).Nodup := List.nodup_range.sublist (List.filter_sublist ..)
  obtain ⟨hw, ew⟩ := List.getElem?_eq_some_iff.mp h
  have e2 : (chA d o)[cntB d c o]? = some c := by
    rw [sp]
    unfold cntB
    rw [List.getElem?_append_right (Nat.le_refl _)]
    simp
  obtain ⟨hw2, ew2⟩ := List.getElem?_eq_some_iff.mp e2
  have q1 := nd.idxOf_getElem w hw
  have q2 := nd.idxOf_getElem _ hw2
  rw [ew] at q1
  rw [ew2] at q2
  exact q2.symm.trans q1
theorem spot_ok {d : Doc} (hv : Vd 0 d) {o : Option Nat} {w : Nat} (ho : ∀ k, o = some k → k < d.length) (hw : w ≤ (chA d o).length) :
    spotN d o w ≤ d.length ∧ (ptO d o).length = depO d o ∧ depO d o ≤ (stF [] (d.take (spotN d o w))).length ∧ stP (stF [] (d.take (spotN d o w))) (depO d o) = ptO d o ++ [w] ∧ ∀ e ∈ (d.drop (spotN d o w)).head?, e.2 ≤ depO d o := by
  have hpl : (ptO d o).length = depO d o := by
    cases o with
    | none => rfl
    | some k => exact ptO_len hv (ho k rfl)
  rcases Nat.lt_or_ge w (chA d o).length with c | c
  · have e1 : (chA d o)[w]? = some (chA d o)[w] := by simp [c]
    have en : spotN d o w = (chA d o)[w] := by unfold spotN; rw [e1]; rfl
    obtain ⟨h1, h2, h3⟩ := cnt_at e1
    rw [en]
    generalize (chA d o)[w] = n at h1 h2 h3
    obtain ⟨p1, p2, p3⟩ := pt_node hv h3
    have hd : depA d n = depO d o := by
      cases o with
      | none => exact (par_none hv h3).mp h2
      | some k => exact ((par_some hv h3 (ho k rfl)).mp h2).2.2
    rw [h2, h1, hd] at p1
    rw [hd] at p2
    refine ⟨by omega, hpl, p2, p1, fun e he => ?_⟩
    rw [List.drop_eq_getElem_cons h3] at he
    cases he
    have : depA d n = d[n].2 := depA_at (by simp [h3])
    omega
  · have e0 : w = (chA d o).length := by omega
    have en : spotN d o w = endO d o := by unfold spotN; rw [List.getElem?_eq_none c]; rfl
    rw [en]
    have hle : endO d o ≤ d.length := by
      cases o with
      | none => exact Nat.le_refl _
      | some k => exact (endA_ok (ho k rfl)).le
    obtain ⟨st, P⟩ := open_all hv (endO d o) hle
    have hl := P.len
    have hcnt : cntB d (endO d o) o = w := by
      rw [e0]
      unfold cntB chA
      cases o with
      | none => rfl
      | some k =>
        have hk := ho k rfl
        have E := endA_ok hk
        congr 1
        have h0 : List.range d.length = List.range (endA d k) ++ List.range' (endA d k) (d.length - endA d k) := by
          rw [List.range_eq_range', List.range_eq_range']
          have := range_cut (i := 0) (j := endA d k) (k := d.length) (by omega) E.le
          simpa only [Nat.sub_zero] using this
        show (List.range (endA d k)).filter _ = _
        rw [h0, List.filter_append]
        conv => lhs; rw [← List.append_nil ((List.range (endA d k)).filter fun c => decide (parA d c = some k))]
        congr 1
        symm
        rw [List.filter_eq_nil_iff]
        intro x hx
        have := List.mem_range'.mp hx
        obtain ⟨i, hi, rfl⟩ := this
        simp
        intro e
        have := ((par_some hv (by omega) hk).mp e).2.1
        omega
    have hsl : depO d o ≤ (stF [] (d.take (endO d o))).length ∧ parO st (depO d o) = o := by
      cases o with
      | none => exact ⟨Nat.zero_le _, rfl⟩
      | some k =>
        have hk := ho k rfl
        have E := endA_ok hk
        have lt := E.lt
        have l := (P.last (show 0 < endA d k by omega))
        have q := P.path.at_ _ _ l.1
        have dl : depA d k ≤ depA d (endA d k - 1) := by
          rcases Nat.lt_or_ge k (endA d k - 1) with c2 | c2
          · exact Nat.le_of_lt (E.deep _ c2 (by omega))
          · have : k = endA d k - 1 := by omega
            rw [← this]; exact Nat.le_refl _
        have hge : depA d k < st.length := by
          have := q.2.1
          simp only [endO] at this l
          omega
        refine ⟨by show depA d k + 1 ≤ _; omega, ?_⟩
        show (if depA d k + 1 = 0 then none else st[depA d k + 1 - 1]?) = some k
        rw [if_neg (by omega), Nat.add_sub_cancel]
        have e1 : st[depA d k]? = some st[depA d k] := by simp [hge]
        rw [e1]
        obtain ⟨q1, q2, q3⟩ := P.path.at_ _ _ e1
        congr 1
        generalize st[depA d k] = j at q1 q2 q3
        rcases Nat.lt_trichotomy j k with c2 | c2 | c2
        · have := q3 k c2 lt; omega
        · exact c2
        · have := E.deep j c2 q1; omega
    refine ⟨hle, hpl, hsl.1, ?_, fun e he => ?_⟩
    · rw [P.next hle hsl.1, hsl.2, hcnt]
    · cases o with
      | none =>
        have : d.drop d.length = [] := List.drop_length
        simp only [endO, this] at he
        cases he
      | some k =>
        have E := endA_ok (ho k rfl)
        simp only [endO] at he
        by_cases c2 : endA d k < d.length
        · rw [List.drop_eq_getElem_cons c2] at he
          cases he
          have := E.stop c2
          have hd : depA d (endA d k) = d[endA d k].2 := depA_at (by simp [c2])
          show _ ≤ depA d k + 1
          omega
        · rw [List.drop_of_length_le (by omega)] at he
          cases he
end T

/-! Z: machines. -/
namespace T
open PySem PySem.Spec PyProof.Rows L2
@[simp ↓] theorem kL_doc {d : Doc} {M : Ms} {PN : Nat → Prop} : kL (docT d) M PN = PN d.length := by unfold docT; simp
theorem blw_nat {k n : Nat} (h : k < n) : blw (.int k) (n : Int) = true := by simp; omega
structure Mac where
  nm : List Nat
  be : List (List Nat)
  top : Nat
  st : List (List Nat)
  go : List Nat
def rowT (l : List Nat) : Tr := .tup (l.map natT)
def chT1 (c : Nat) : Tr := .str (chS c)
def nmT (l : List Nat) : Tr := .tup (l.map chT1)
def macT (m : Mac) : Tr := .tup [nmT m.nm, .tup (m.be.map rowT), natT m.top, .tup (m.st.map rowT), rowT m.go]
def nmC : List Nat := [112, 113, 114, 115, 116, 117, 118, 119, 120, 121, 122]
structure NmOk (l : List Nat) : Prop where
  len : l.length ≤ 5
  asc : l.Pairwise (· < ·)
  mem : ∀ c ∈ l, c ∈ nmC
def RowOk (l : List Nat) (n b : Nat) : Prop := l.length = n ∧ ∀ x ∈ l, x < b
structure MacOk (m : Mac) : Prop where
  nm : NmOk m.nm
  bl : m.be.length = 8
  br : ∀ r ∈ m.be, RowOk r (2 ^ m.nm.length) m.st.length
  s1 : 1 ≤ m.st.length
  s2 : m.st.length ≤ 300
  sr : ∀ r ∈ m.st, RowOk r m.st.length m.st.length
  tp : m.top < m.st.length
  ga : m.go.Pairwise (· < ·)
  gm : ∀ x ∈ m.go, x < m.st.length
def sp_is_name : Sp2 := A1 fun a M Q _ => ∃ c, a = chT1 c ∧ c ∈ nmC ∧ Q (.bl true) M
def n_is_name : List Str := "thing" :: []
def b_is_name : TS2 := (sRt (eAn (eB rIsi2 (aCons (eVar 0) (aCons (eC (.ty "str")) aNil))) (eAn (eOp (rEqG id) (eB rLen2 (aCons (eVar 0) aNil)) (eC (.int 1))) (eOp (rInX id) (eVar 0) (eC (.str "pqrstuvwxyz"))))))
theorem nm_in {c : Nat} (h : c ∈ nmC) : strIn (chS c) "pqrstuvwxyz" = true := by
  have e := PySem.StrLaws.found_one "pqrstuvwxyz" c
  have e2 : ("pqrstuvwxyz" : Str).cps.toList = nmC := by decide
  rw [e2] at e
  have : strIn (chS c) "pqrstuvwxyz" = decide (c ∈ nmC) := e
  rw [this]; simpa using h
theorem sem_is_name : ∀ ds M Q E, sp_is_name ds M Q E → b_is_name (fEnds Q E) (start2 n_is_name ds) M := by
  rintro ds M Q E ⟨a, rfl, c, rfl, hc, hq⟩
  have kb : kitB "str" "str" = some true := rfl
  have l1 : (chS c).length = 1 := rfl
  simp only [b_is_name, start2, n_is_name, chT1]
  have hs : (chS c).length ≤ sizeLine := by rw [l1]; exact small_line (by decide)
  simp [↓kY_of (d := .str (chS c)) (M := M) rfl kb, ↓kL_str hs, l1, nm_in hc]
  exact Fg.same hq
def ltT (a b : Tr) : Bool := match a, b with
  | .int i, .int j => decide (i < j)
  | .str x, .str y => decide (x.cps.toList < y.cps.toList)
  | _, _ => false
theorem rLtX_of {a b : Tr} {M : Ms} {Q : Q2} (h : ltT a b = true) (hq : Q (.bl true) M) : rLtX a b M Q := by
  cases a with
  | int i =>
    cases b with
    | int j => have h : decide (i < j) = true := h; rw [rLtX_int, h]; exact hq
    | _ => cases h
  | str x =>
    cases b with
    | str y => have h : decide (x.cps.toList < y.cps.toList) = true := h; rw [rLtX_str, h]; exact hq
    | _ => cases h
  | _ => cases b <;> cases h
def sp_is_rising : Sp2 := A1 fun a M Q _ => ∃ l : List Tr, a = .tup l ∧ l.length ≤ 20000 ∧ (∀ i x y, l[i]? = some x → l[i + 1]? = some y → ltT x y = true) ∧ Q (.bl true) M
def n_is_rising : List Str := "things" :: "one" :: "other" :: []
def b_is_rising : TS2 := (sRt (eB rAll2 (aCons (eLc (iZp (aCons (eVar 0) (aCons (eSl rSl2 (eVar 0) (oPart (eC (.int 1))) oNo) aNil))) (gT 2 (gCo (gN 1) (gCo (gN 2) gNil2))) tYes2 (eOp rLtX (eVar 1) (eVar 2)) [1, 2]) aNil)))
theorem allS_true {M : Ms} {Q : Q2} {p : Addr} {n : Nat} {fx : Fx Q} (e : M p = some (.lst ((List.replicate n true).map Tr.bl))) (hq : Q (.bl true) M) : AllS (fun bs => bs.all id) (.loc p) M Q fx := by
  refine ⟨List.replicate n true, seqT_lst e, (fun _ e => nomatch e), ?_⟩
  have et : (List.replicate n true).all id = true := by simp
  dsimp only
  rw [et]; exact hq
theorem fm_true {n : Nat} : (List.range n).filterMap (fun _ => some (Tr.bl true)) = (List.replicate n true).map Tr.bl := by
  rw [fm_all (h := fun _ => Tr.bl true)]
  simp [List.map_const']
theorem sem_is_rising : ∀ ds M Q E, sp_is_rising ds M Q E → b_is_rising (fEnds Q E) (start2 n_is_rising ds) M := by
  rintro ds M Q E ⟨a, rfl, l, rfl, hl, hr, hq⟩
  have ec : cutT l (some 1) none = l.drop 1 := cutT_lo l 1
  simp only [b_is_rising, start2, n_is_rising]
  simp
  rw [ec]
  refine fun p hp => lc_fmL (fun _ => some (.bl true)) (by rw [zipT_len]; simp; omega) (fun M' _ => ⟨rfl, rfl⟩) ?_ ?_
  · rw [fm_true]
    exact allS_true up_same (Fg.le (Le.new hp) hq)
  · intro i e M' he fr KY KN q1 q2
    obtain ⟨x, y, h1, h2, rfl⟩ := zipT_get he
    rw [List.getElem?_drop, Nat.add_comm] at h2
    simp [wipe2]
    exact rLtX_of (hr i x y h1 h2) (q1 _ rfl)
def sp_is_names : Sp2 := A2 fun a b M Q _ => ∃ l, a = nmT l ∧ b = .int 5 ∧ NmOk l ∧ Q (.bl true) M
def n_is_names : List Str := "thing" :: "most" :: "part" :: []
def b_is_names_1 : TS2 := (sRt (eAn (eB rAll2 (aCons (eLc (iSq (eVar 0)) (gN 2) tYes2 (eCall sp_is_name [] (aCons (eVar 2) aNil)) [2]) aNil)) (eCall sp_is_rising [] (aCons (eVar 0) aNil))))
def b_is_names : TS2 := (sSq (sIf (tOrr (tNo (tTr (eB rIsi2 (aCons (eVar 0) (aCons (eC (.ty "tuple")) aNil))))) (tCm (eOp rGtI (eB rLen2 (aCons (eVar 0) aNil)) (eVar 1)))) (sRt (eC (.bl false))) sNx)
  b_is_names_1)
theorem pw_get {l : List Nat} (h : l.Pairwise (· < ·)) {i x y : Nat} (h1 : l[i]? = some x) (h2 : l[i + 1]? = some y) : x < y := by
  obtain ⟨a, rfl⟩ := List.getElem?_eq_some_iff.mp h1
  obtain ⟨b, rfl⟩ := List.getElem?_eq_some_iff.mp h2
  exact List.pairwise_iff_getElem.mp h i (i + 1) a b (by omega)
theorem nm_rising {l : List Nat} (h : NmOk l) : ∀ i x y, (l.map chT1)[i]? = some x → (l.map chT1)[i + 1]? = some y → ltT x y = true := by
  intro i x y h1 h2
  rw [List.getElem?_map] at h1 h2
  cases e1 : l[i]? with
  | none => rw [e1] at h1; cases h1
  | some c =>
    cases e2 : l[i + 1]? with
    | none => rw [e2] at h2; cases h2
    | some d =>
      rw [e1] at h1; rw [e2] at h2
      cases h1; cases h2
      have := pw_get h.asc e1 e2
      show decide ([c] < [d]) = true
      rw [decide_eq_true_eq]
      exact List.Lex.rel this
theorem sem_is_names : ∀ ds M Q E, sp_is_names ds M Q E → b_is_names (fEnds Q E) (start2 n_is_names ds) M := by
  rintro ds M Q E ⟨a, b, rfl, l, rfl, rfl, h, hq⟩
  have kb : kitB "tuple" "tuple" = some true := rfl
  have hl := h.len
  have hl2 : ¬ (5 < (l.length : Int)) := by omega
  simp only [b_is_names, start2, n_is_names, nmT]
  simp [↓kY_tup, hl2]
  simp only [b_is_names_1]
  simp
  refine fun p hp => lc_fmL (fun _ => some (.bl true)) (by simp; omega) (fun M' _ => rfl) ?_ ?_
  · rw [fm_true]
    refine allS_true up_same ?_
    simp
    refine ⟨_, rfl, _, rfl, by simp; omega, nm_rising h, ?_⟩
    exact Fg.le (Le.new hp) hq
  · intro i e M' he fr KY KN q1 q2
    rw [List.getElem?_map] at he
    cases e1 : l[i]? with
    | none => rw [e1] at he; cases he
    | some c =>
      rw [e1] at he
      cases he
      simp [wipe2]
      exact ⟨_, rfl, c, rfl, h.mem c (List.mem_of_getElem? e1), q1 _ rfl⟩
def sp_is_names_form : Sp2 := A1 fun a M Q _ => ∃ l, a = nmT l ∧ NmOk l ∧ Q (.bl true) M
def n_is_names_form : List Str := "thing" :: []
def b_is_names_form : TS2 := (sRt (eCall sp_is_names [] (aCons (eVar 0) (aCons (eC (.int 5)) aNil))))
theorem sem_is_names_form : ∀ ds M Q E, sp_is_names_form ds M Q E → b_is_names_form (fEnds Q E) (start2 n_is_names_form ds) M := by
  rintro ds M Q E ⟨a, rfl, l, rfl, h, hq⟩
  simp only [b_is_names_form, start2, n_is_names_form]
  simp
  exact ⟨_, _, rfl, l, rfl, rfl, h, Fg.same hq⟩
def sp_lays_of : Sp2 := A1 fun a M Q _ => ∃ l, a = nmT l ∧ l.length ≤ 5 ∧ Q (.int ((2 ^ l.length : Nat) : Int)) M
def n_lays_of : List Str := "names" :: []
def b_lays_of : TS2 := (sRt (eOp rShl2 (eC (.int 1)) (eB rLen2 (aCons (eVar 0) aNil))))
theorem sem_lays_of : ∀ ds M Q E, sp_lays_of ds M Q E → b_lays_of (fEnds Q E) (start2 n_lays_of ds) M := by
  rintro ds M Q E ⟨a, rfl, l, rfl, h, hq⟩
  simp only [b_lays_of, start2, n_lays_of, nmT]
  simp
  refine ⟨L2.shl_ok (i := 1) (n := 1) (by decide) (by omega), ?_⟩
  have e : ((2 ^ l.length : Nat) : Int) = 2 ^ l.length := by simp
  rw [← e]
  exact Fg.same hq
def sp_is_row : Sp2 := A3 fun a b c M Q _ => ∃ (l : List Nat) (n k : Nat), a = rowT l ∧ b = .int n ∧ c = .int k ∧ RowOk l n k ∧ l.length ≤ 20000 ∧ Q (.bl true) M
def n_is_row : List Str := "thing" :: "length" :: "bound" :: "part" :: []
def b_is_row_1 : TS2 := (sRt (eB rAll2 (aCons (eLc (iSq (eVar 0)) (gN 3) tYes2 (eCall sp_is_below [] (aCons (eVar 3) (aCons (eVar 2) aNil))) [3]) aNil)))
def b_is_row : TS2 := (sSq (sIf (tOrr (tNo (tTr (eB rIsi2 (aCons (eVar 0) (aCons (eC (.ty "tuple")) aNil))))) (tCm (eOp (rEqG not) (eB rLen2 (aCons (eVar 0) aNil)) (eVar 1)))) (sRt (eC (.bl false))) sNx)
  b_is_row_1)
theorem lc_below {l : List Nat} {k : Nat} {M : Ms} {p : Addr} (hl : ∀ x ∈ l, x < k) (i : Nat) (e : Tr) (he : (l.map natT)[i]? = some e) : ∃ x : Nat, e = .int x ∧ blw (.int x) (k : Int) = true := by
  rw [List.getElem?_map] at he
  cases e1 : l[i]? with
  | none => rw [e1] at he; cases he
  | some c =>
    rw [e1] at he
    cases he
    exact ⟨c, rfl, blw_nat (hl c (List.mem_of_getElem? e1))⟩
theorem sem_is_row : ∀ ds M Q E, sp_is_row ds M Q E → b_is_row (fEnds Q E) (start2 n_is_row ds) M := by
  rintro ds M Q E ⟨a, b, c, rfl, l, n, k, rfl, rfl, rfl, ⟨h1, h2⟩, hl, hq⟩
  simp only [b_is_row, start2, n_is_row, rowT]
  simp [↓kY_tup, h1]
  simp only [b_is_row_1]
  simp
  refine fun p hp => lc_fmL (fun _ => some (.bl true)) (by simp; omega) (fun M' _ => rfl) ?_ ?_
  · rw [fm_true]
    exact allS_true up_same (Fg.le (Le.new hp) hq)
  · intro i e M' he fr KY KN q1 q2
    obtain ⟨x, rfl, hb⟩ := lc_below (M := M) (p := p) h2 i e he
    simp [wipe2]
    refine ⟨_, _, rfl, "int", k, rfl, rfl, ?_⟩
    rw [hb]
    exact q1 _ rfl
def sp_is_good_row : Sp2 := A2 fun a b M Q _ => ∃ (l : List Nat) (k : Nat), a = rowT l ∧ b = .int k ∧ l.Pairwise (· < ·) ∧ (∀ x ∈ l, x < k) ∧ k ≤ 300 ∧ Q (.bl true) M
def n_is_good_row : List Str := "thing" :: "bound" :: "part" :: []
def b_is_good_row_1 : TS2 := (sRt (eAn (eB rAll2 (aCons (eLc (iSq (eVar 0)) (gN 2) tYes2 (eCall sp_is_below [] (aCons (eVar 2) (aCons (eVar 1) aNil))) [2]) aNil)) (eCall sp_is_rising [] (aCons (eVar 0) aNil))))
def b_is_good_row : TS2 := (sSq (sIf (tNo (tTr (eB rIsi2 (aCons (eVar 0) (aCons (eC (.ty "tuple")) aNil))))) (sRt (eC (.bl false))) sNx)
  b_is_good_row_1)
theorem pw_len0 {k : Nat} : ∀ {l : List Nat} {b : Nat}, l.Pairwise (· < ·) → (∀ x ∈ l, b ≤ x ∧ x < k) → l.length ≤ k - b
  | [], b, _, _ => Nat.zero_le _
  | x :: r, b, h, h2 => by
    obtain ⟨h3, h4⟩ := List.pairwise_cons.mp h
    have hx := h2 x (by simp)
    have := pw_len0 (l := r) (b := x + 1) h4 fun y hy => ⟨h3 y hy, (h2 y (by simp [hy])).2⟩
    rw [List.length_cons]; omega
theorem pw_len {l : List Nat} {k : Nat} (h : l.Pairwise (· < ·)) (h2 : ∀ x ∈ l, x < k) : l.length ≤ k := by
  have := pw_len0 (b := 0) h fun x hx => ⟨Nat.zero_le _, h2 x hx⟩
  omega
theorem sem_is_good_row : ∀ ds M Q E, sp_is_good_row ds M Q E → b_is_good_row (fEnds Q E) (start2 n_is_good_row ds) M := by
  rintro ds M Q E ⟨a, b, rfl, l, k, rfl, rfl, h1, h2, hk, hq⟩
  have hl := pw_len h1 h2
  simp only [b_is_good_row, start2, n_is_good_row, rowT]
  simp [↓kY_tup]
  simp only [b_is_good_row_1]
  simp
  refine fun p hp => lc_fmL (fun _ => some (.bl true)) (by simp; omega) (fun M' _ => rfl) ?_ ?_
  · rw [fm_true]
    refine allS_true up_same ?_
    simp
    refine ⟨_, rfl, _, rfl, by simp; omega, fun i x y e1 e2 => ?_, Fg.le (Le.new hp) hq⟩
    rw [List.getElem?_map] at e1 e2
    cases g1 : l[i]? with
    | none => rw [g1] at e1; cases e1
    | some c =>
      cases g2 : l[i + 1]? with
      | none => rw [g2] at e2; cases e2
      | some d =>
        rw [g1] at e1; rw [g2] at e2
        cases e1; cases e2
        have := pw_get h1 g1 g2
        show decide ((c : Int) < (d : Int)) = true
        rw [decide_eq_true_eq]; omega
  · intro i e M' he fr KY KN q1 q2
    obtain ⟨x, rfl, hb⟩ := lc_below (M := M) (p := p) h2 i e he
    simp [wipe2]
    refine ⟨_, _, rfl, "int", k, rfl, rfl, ?_⟩
    rw [hb]
    exact q1 _ rfl
def sp_is_machine_form : Sp2 := A1 fun a M Q _ => ∃ m, a = macT m ∧ MacOk m ∧ Q (.bl true) M
def n_is_machine_form : List Str := "thing" :: "names" :: "begin" :: "top" :: "step" :: "good" :: "many" :: "row" :: []
def b_is_machine_form_1 : TS2 := (sRt (eAn (eCall sp_is_below [] (aCons (eVar 3) (aCons (eVar 6) aNil))) (eCall sp_is_good_row [] (aCons (eVar 5) (aCons (eVar 6) aNil)))))
def b_is_machine_form_2 : TS2 := (sSq (sIf (tNo (tTr (eB rAll2 (aCons (eLc (iSq (eVar 2)) (gN 7) tYes2 (eCall sp_is_row [] (aCons (eVar 7) (aCons (eCall sp_lays_of [] (aCons (eVar 1) aNil)) (aCons (eVar 6) aNil)))) [7]) aNil)))) (sRt (eC (.bl false))) sNx)
  b_is_machine_form_1)
def b_is_machine_form_3 : TS2 := (sSq (sIf (tNo (tTr (eB rAll2 (aCons (eLc (iSq (eVar 4)) (gN 7) tYes2 (eCall sp_is_row [] (aCons (eVar 7) (aCons (eVar 6) (aCons (eVar 6) aNil)))) [7]) aNil)))) (sRt (eC (.bl false))) sNx)
  b_is_machine_form_2)
def b_is_machine_form_4 : TS2 := (sSq (sIf (tOrr (tNo (tCm (eChain rLeI rLeI (eC (.int 1)) (eVar 6) (eC (.int 300))))) (tCm (eOp (rEqG not) (eB rLen2 (aCons (eVar 2) aNil)) (eB rLen2 (aCons (eC (.str "abcdefgh")) aNil))))) (sRt (eC (.bl false))) sNx)
  b_is_machine_form_3)
def b_is_machine_form_5 : TS2 := (sSq (sAs (eB rLen2 (aCons (eVar 4) aNil)) (gN 6))
  b_is_machine_form_4)
def b_is_machine_form_6 : TS2 := (sSq (sIf (tOrr (tNo (tTr (eCall sp_is_names_form [] (aCons (eVar 1) aNil)))) (tOrr (tNo (tTr (eB rIsi2 (aCons (eVar 2) (aCons (eC (.ty "tuple")) aNil))))) (tNo (tTr (eB rIsi2 (aCons (eVar 4) (aCons (eC (.ty "tuple")) aNil))))))) (sRt (eC (.bl false))) sNx)
  b_is_machine_form_5)
def b_is_machine_form_7 : TS2 := (sSq (sAs (eVar 0) (gT 5 (gCo (gN 1) (gCo (gN 2) (gCo (gN 3) (gCo (gN 4) (gCo (gN 5) gNil2)))))))
  b_is_machine_form_6)
def b_is_machine_form : TS2 := (sSq (sIf (tOrr (tNo (tTr (eB rIsi2 (aCons (eVar 0) (aCons (eC (.ty "tuple")) aNil))))) (tCm (eOp (rEqG not) (eB rLen2 (aCons (eVar 0) aNil)) (eC (.int 5))))) (sRt (eC (.bl false))) sNx)
  b_is_machine_form_7)
theorem sem_is_machine_form : ∀ ds M Q E, sp_is_machine_form ds M Q E → b_is_machine_form (fEnds Q E) (start2 n_is_machine_form ds) M := by
  rintro ds M Q E ⟨a, rfl, m, rfl, h, hq⟩
  have s1 := h.s1
  have s2 := h.s2
  have b8 := h.bl
  have lm : ("abcdefgh" : Str).length = 8 := by decide
  have lz : ("abcdefgh" : Str).length ≤ sizeLine := by rw [lm]; exact small_line (by decide)
  simp only [b_is_machine_form, start2, n_is_machine_form, macT]
  simp [↓kY_tup]
  simp only [b_is_machine_form_7]
  simp
  simp only [b_is_machine_form_6]
  simp
  refine ⟨_, rfl, _, rfl, h.nm, ?_⟩
  simp [↓kY_tup]
  simp only [b_is_machine_form_5]
  simp
  have c1 : (1 : Int) ≤ (m.st.length : Int) := by omega
  have c2 : (m.st.length : Int) ≤ 300 := by omega
  simp only [b_is_machine_form_4]
  simp [c1, c2, ↓kL_str lz, lm, b8]
  have rows : ∀ (ls : List (List Nat)) (n : Nat), (∀ r ∈ ls, RowOk r n m.st.length) → ∀ (i : Nat) (e : Tr), (ls.map rowT)[i]? = some e → ∃ r, e = rowT r ∧ RowOk r n m.st.length := by
    intro ls n hr i e he
    rw [List.getElem?_map] at he
    cases g : ls[i]? with
    | none => rw [g] at he; cases he
    | some r => rw [g] at he; cases he; exact ⟨r, rfl, hr r (List.mem_of_getElem? g)⟩
  simp only [b_is_machine_form_3]
  simp
  refine fun p hp => lc_fmL (fun _ => some (.bl true)) (by simp; omega) (fun M' _ => rfl) ?_ ?_
  rotate_left
  · intro i e M' he fr KY KN q1 q2
    obtain ⟨r, rfl, hr⟩ := rows _ _ h.sr i e he
    simp [wipe2]
    exact ⟨_, _, _, rfl, r, _, _, rfl, rfl, rfl, hr, by have := hr.1; omega, q1 _ rfl⟩
  rw [fm_true]
  have L1 := Le.new (o := .lst ((List.replicate (m.st.map rowT).length true).map Tr.bl)) hp
  refine allS_true up_same ?_
  generalize up M p (.lst ((List.replicate (m.st.map rowT).length true).map Tr.bl)) = M1 at L1
  simp
  simp only [b_is_machine_form_2]
  simp
  refine fun p hp => lc_fmL (fun _ => some (.bl true)) (by simp; omega) (fun M' _ => rfl) ?_ ?_
  rotate_left
  · intro i e M' he fr KY KN q1 q2
    obtain ⟨r, rfl, hr⟩ := rows _ _ h.br i e he
    simp [wipe2]
    refine ⟨_, rfl, _, rfl, h.nm.len, ?_⟩
    simp
    refine ⟨_, _, _, rfl, r, _, _, rfl, rfl, rfl, hr, ?_, q1 _ rfl⟩
    rw [hr.1]
    have := Nat.pow_le_pow_right (n := 2) (by decide) h.nm.len
    omega
  rw [fm_true]
  have L2 := Le.new (o := .lst ((List.replicate (m.be.map rowT).length true).map Tr.bl)) hp
  refine allS_true up_same ?_
  generalize up M1 p (.lst ((List.replicate (m.be.map rowT).length true).map Tr.bl)) = M2 at L2
  simp
  simp only [b_is_machine_form_1]
  simp
  refine ⟨_, _, rfl, "int", _, rfl, rfl, ?_⟩
  rw [blw_nat h.tp]
  simp
  exact ⟨_, _, rfl, m.go, _, rfl, rfl, h.ga, h.gm, h.s2, Fg.le (L1.trans L2) hq⟩
def sp_need_machine : Sp2 := A1 fun a M Q _ => ∃ m, a = macT m ∧ MacOk m ∧ Q .non M
def n_need_machine : List Str := "machine" :: []
def b_need_machine : TS2 := (sIf (tNo (tTr (eCall sp_is_machine_form [] (aCons (eVar 0) aNil)))) sNv sNx)
theorem sem_need_machine : ∀ ds M Q E, sp_need_machine ds M Q E → b_need_machine (fEnds Q E) (start2 n_need_machine ds) M := by
  rintro ds M Q E ⟨a, rfl, m, rfl, h, hq⟩
  simp only [b_need_machine, start2, n_need_machine]
  simp
  refine ⟨_, rfl, m, rfl, h, ?_⟩
  simp
  exact Fg.same hq
def sp_need_laying : Sp2 := A3 fun a b c M Q _ => ∃ (m : Mac) (d : Doc) (l : List Nat), a = macT m ∧ b = docT d ∧ c = rowT l ∧ m.nm.length ≤ 5 ∧ d.length ≤ 20000 ∧ RowOk l d.length (2 ^ m.nm.length) ∧ Q .non M
def n_need_laying : List Str := "machine" :: "document" :: "laying" :: []
def b_need_laying : TS2 := (sIf (tNo (tTr (eCall sp_is_row [] (aCons (eVar 2) (aCons (eB rLen2 (aCons (eVar 1) aNil)) (aCons (eCall sp_lays_of [] (aCons (eOp rIx2 (eVar 0) (eC (.int 0))) aNil)) aNil)))))) sNv sNx)
theorem sem_need_laying : ∀ ds M Q E, sp_need_laying ds M Q E → b_need_laying (fEnds Q E) (start2 n_need_laying ds) M := by
  rintro ds M Q E ⟨a, b, c, rfl, m, d, l, rfl, rfl, rfl, h5, hd, h, hq⟩
  simp only [b_need_laying, start2, n_need_laying, macT, docT]
  simp
  refine ⟨_, rfl, _, rfl, h5, ?_⟩
  simp
  refine ⟨_, _, _, rfl, l, d.length, _, rfl, rfl, rfl, h, by rw [h.1]; omega, ?_⟩
  simp
  exact Fg.same hq
def sp_need_spots : Sp2 := A3 fun a b c M Q _ => ∃ (m : Mac) (d : Doc) (l : List Nat), a = macT m ∧ b = docT d ∧ c = rowT l ∧ m.nm.length ≤ 5 ∧ d.length ≤ 20000 ∧ RowOk l m.nm.length d.length ∧ Q .non M
def n_need_spots : List Str := "machine" :: "document" :: "nodes" :: []
def b_need_spots : TS2 := (sIf (tNo (tTr (eCall sp_is_row [] (aCons (eVar 2) (aCons (eB rLen2 (aCons (eOp rIx2 (eVar 0) (eC (.int 0))) aNil)) (aCons (eB rLen2 (aCons (eVar 1) aNil)) aNil)))))) sNv sNx)
theorem sem_need_spots : ∀ ds M Q E, sp_need_spots ds M Q E → b_need_spots (fEnds Q E) (start2 n_need_spots ds) M := by
  rintro ds M Q E ⟨a, b, c, rfl, m, d, l, rfl, rfl, rfl, h5, hd, h, hq⟩
  simp only [b_need_spots, start2, n_need_spots, macT, docT, nmT]
  simp
  refine ⟨_, _, _, rfl, l, m.nm.length, d.length, rfl, rfl, rfl, h, by rw [h.1]; omega, ?_⟩
  simp
  exact Fg.same hq
end T

/-! Z: runs of machines, plain: from the last node to the first, and along the open nodes. -/
namespace T
open PySem PySem.Spec PyProof.Rows L2
theorem foldl_eq {f g : Nat → Nat → Nat} : ∀ {l : List Nat} {a : Nat}, (∀ c ∈ l, ∀ s, f s c = g s c) → l.foldl f a = l.foldl g a
  | [], _, _ => rfl
  | x :: r, a, h => by
    rw [List.foldl_cons, List.foldl_cons, h x (by simp)]
    exact foldl_eq fun c hc s => h c (by simp [hc]) s
def stp (m : Mac) (s c : Nat) : Nat := ((m.st[s]?).bind (·[c]?)).getD 0
/-- the mark's place -/
def mkI (d : Doc) (k : Nat) : Nat := (((d[k]?).map fun e => e.1.cps.toList.headD 0).getD 0) - 97
def bgS (m : Mac) (d : Doc) (L : List Nat) (k : Nat) : Nat := ((m.be[mkI d k]?).bind (·[(L[k]?).getD 0]?)).getD 0
def stAf (m : Mac) (d : Doc) (L : List Nat) : Nat → Nat → Nat
  | 0, k => bgS m d L k
  | f + 1, k => (chA d (some k)).foldl (fun s c => stp m s (stAf m d L f c)) (bgS m d L k)
theorem stAf_stable {m : Mac} {d : Doc} {L : List Nat} : ∀ {f f' r : Nat}, d.length ≤ f + r + 1 → d.length ≤ f' + r + 1 → stAf m d L f r = stAf m d L f' r
  | 0, 0, r, _, _ => rfl
  | 0, f' + 1, r, h, h' => by
    show bgS m d L r = (chA d (some r)).foldl _ _
    rw [ch_nil (by omega)]; rfl
  | f + 1, 0, r, h, h' => by
    show (chA d (some r)).foldl _ _ = bgS m d L r
    rw [ch_nil (by omega)]; rfl
  | f + 1, f' + 1, r, h, h' => by
    show (chA d (some r)).foldl _ _ = (chA d (some r)).foldl _ _
    refine foldl_eq fun c hc s => ?_
    obtain ⟨c1, c2⟩ := ch_lt hc
    rw [stAf_stable (f := f) (f' := f') (by omega) (by omega)]
def stA (m : Mac) (d : Doc) (L : List Nat) (k : Nat) : Nat := stAf m d L d.length k
theorem stA_eq {m : Mac} {d : Doc} {L : List Nat} {k : Nat} : stA m d L k = (chA d (some k)).foldl (fun s c => stp m s (stA m d L c)) (bgS m d L k) := by
  have e : stA m d L k = stAf m d L (d.length + 1) k := stAf_stable (by omega) (by omega)
  rw [e]
  rfl
def initV (m : Mac) (d : Doc) (L : List Nat) : Option Nat → Nat
  | none => m.top
  | some k => bgS m d L k
def stTop (m : Mac) (d : Doc) (L : List Nat) : Nat := (chA d none).foldl (fun s c => stp m s (stA m d L c)) m.top
def opn (d : Doc) (i mm x : Nat) : Bool := decide (x < i) && !(decide (i ≤ endA d x) && decide (depA d x < mm))
def VV (m : Mac) (d : Doc) (L : List Nat) (i mm : Nat) (o : Option Nat) : Nat := ((chA d o).filter (opn d i mm)).foldl (fun s c => stp m s (stA m d L c)) (initV m d L o)
theorem filter_snoc {p p' : Nat → Bool} {c : Nat} : ∀ {l : List Nat}, l.Pairwise (· < ·) → c ∈ l → (∀ x ∈ l, p' x = (p x || x == c)) → (∀ x ∈ l, p x = true → x < c) → l.filter p' = l.filter p ++ [c]
  | [], _, h, _, _ => by simp at h
  | y :: r, hw, hc, h1, h2 => by
    obtain ⟨hy, hr⟩ := List.pairwise_cons.mp hw
    by_cases e : y = c
    · subst e
      have py : p y = false := by
        cases h : p y with
        | false => rfl
        | true => have := h2 y (by simp) h; omega
      have py' : p' y = true := by rw [h1 y (by simp), py]; simp
      have n1 : r.filter p = [] := by
        rw [List.filter_eq_nil_iff]
        intro x hx hp
        have := h2 x (by simp [hx]) hp
        have := hy x hx
        omega
      have n2 : r.filter p' = [] := by
        rw [List.filter_eq_nil_iff]
        intro x hx hp
        rw [h1 x (by simp [hx]), Bool.or_eq_true] at hp
        have := hy x hx
        rcases hp with hp | hp
        · have := h2 x (by simp [hx]) hp; omega
        · have : x = y := by simpa using hp
          omega
      rw [List.filter_cons, List.filter_cons, py, py', n1, n2]; simp
    · have hcr : c ∈ r := by
        rcases List.mem_cons.mp hc with h | h
        · exact absurd h.symm e
        · exact h
      have ih := filter_snoc hr hcr (fun x hx => h1 x (by simp [hx])) (fun x hx => h2 x (by simp [hx]))
      have : p' y = p y := by
        rw [h1 y (by simp)]
        have : (y == c) = false := by simpa using e
        rw [this, Bool.or_false]
      rw [List.filter_cons, List.filter_cons, this, ih]
      split <;> rfl
theorem ch_pw {d : Doc} {o : Option Nat} : (chA d o).Pairwise (· < ·) := List.pairwise_lt_range.sublist (List.filter_sublist ..)
theorem mem_ch {d : Doc} {o : Option Nat} {c : Nat} : c ∈ chA d o ↔ c < d.length ∧ parA d c = o := by
  unfold chA
  rw [List.mem_filter]
  simp
/-- c is the last open node, of depth mm, and ends at i -/
structure PopOk (d : Doc) (i mm c : Nat) : Prop where
  lt : c < i
  le : i ≤ d.length
  dep : depA d c = mm
  deep : ∀ x, c < x → x < i → mm < depA d x
  stop : i < d.length → depA d i ≤ mm
theorem PopOk.end_ {d : Doc} {i mm c : Nat} (P : PopOk d i mm c) : endA d c = i := by
  symm
  apply IsEnd.eq
  exact ⟨P.lt, P.le, fun j a b => by rw [P.dep]; exact P.deep j a b, fun h => by rw [P.dep]; exact P.stop h⟩
theorem opn_pop {d : Doc} {i mm c : Nat} (P : PopOk d i mm c) {x : Nat} (hx : x < d.length) : opn d i mm x = (opn d i (mm + 1) x || x == c) := by
  unfold opn
  have lt := P.lt
  have le := P.le
  by_cases h1 : x < i
  · by_cases h2 : i ≤ endA d x
    · by_cases h3 : depA d x < mm
      · have : x ≠ c := fun e => by subst e; have := P.dep; omega
        have h4 : depA d x < mm + 1 := by omega
        simp [h1, h2, h3, h4, this]
      · by_cases h4 : depA d x = mm
        · have : x = c := by
            rcases Nat.lt_trichotomy x c with g | g | g
            · have := (endA_ok hx).deep c g (by omega)
              have := P.dep
              omega
            · exact g
            · have := P.deep x g h1
              omega
          have h5 : depA d x < mm + 1 := by omega
          have h6 : mm ≤ depA d c := by have := P.dep; omega
          simp [h1, h2, h3, h5, this, lt, h6]
        · have h5 : ¬ depA d x < mm + 1 := by omega
          simp [h1, h2, h3, h5]
    · simp [h1, h2]
  · have : x ≠ c := by omega
    simp [h1, this]
theorem VV_pop {m : Mac} {d : Doc} {L : List Nat} (hv : Vd 0 d) {i mm c : Nat} (P : PopOk d i mm c) {o : Option Nat} : VV m d L i mm o = if parA d c = o then stp m (VV m d L i (mm + 1) o) (stA m d L c) else VV m d L i (mm + 1) o := by
  have lt := P.lt
  have le := P.le
  have hcn : c < d.length := by omega
  unfold VV
  by_cases e : parA d c = o
  · rw [if_pos e]
    have hmem : c ∈ chA d o := mem_ch.mpr ⟨hcn, e⟩
    have := filter_snoc (p := opn d i (mm + 1)) (p' := opn d i mm) (c := c) ch_pw hmem (fun x hx => opn_pop P (mem_ch.mp hx).1) (fun x hx hp => by
      obtain ⟨x1, x2⟩ := mem_ch.mp hx
      have hdep : depA d x = depA d c := by
        cases o with
        | none => rw [(par_none hv x1).mp x2, (par_none hv hcn).mp e]
        | some k =>
          have hk : k < d.length := Nat.lt_trans (par_lt e) hcn
          rw [((par_some hv x1 hk).mp x2).2.2, ((par_some hv hcn hk).mp e).2.2]
      unfold opn at hp
      simp only [Bool.and_eq_true, decide_eq_true_eq] at hp
      rcases Nat.lt_trichotomy x c with g | g | g
      · exact g
      · subst g
        have h2 : i ≤ endA d x := by rw [P.end_]; exact Nat.le_refl _
        have h3 : depA d x < mm + 1 := by have := P.dep; omega
        simp [h2, h3] at hp
      · have := P.deep x g hp.1
        have := P.dep
        omega)
    rw [this, List.foldl_append]; rfl
  · rw [if_neg e]
    congr 1
    refine List.filter_congr fun x hx => ?_
    obtain ⟨x1, x2⟩ := mem_ch.mp hx
    have : x ≠ c := fun h => e (by rw [← h]; exact x2)
    rw [opn_pop P x1]
    have : (x == c) = false := by simpa using this
    rw [this, Bool.or_false]
theorem VV_closed {m : Mac} {d : Doc} {L : List Nat} (hv : Vd 0 d) {i mm c : Nat} (P : PopOk d i mm c) : VV m d L i (mm + 1) (some c) = stA m d L c := by
  have lt := P.lt
  have le := P.le
  have hcn : c < d.length := by omega
  unfold VV
  rw [stA_eq]
  have : (chA d (some c)).filter (opn d i (mm + 1)) = chA d (some c) := by
    rw [List.filter_eq_self]
    intro x hx
    obtain ⟨x1, x2⟩ := mem_ch.mp hx
    obtain ⟨p1, p2, p3⟩ := (par_some hv x1 hcn).mp x2
    have := P.end_
    have := P.dep
    unfold opn
    have h1 : x < i := by omega
    have h2 : ¬ depA d x < mm + 1 := by omega
    simp [h1, h2]
  rw [this]; rfl
theorem opn_next {d : Doc} {i x : Nat} (hi : i < d.length) (hx : x < d.length) : opn d (i + 1) (depA d i + 1) x = opn d i (depA d i) x := by
  unfold opn
  have E := endA_ok hx
  rcases Nat.lt_trichotomy x i with g | g | g
  · have h1 : x < i + 1 := by omega
    by_cases h2 : i + 1 ≤ endA d x
    · have := E.deep i g h2
      have h3 : depA d x < depA d i + 1 := by omega
      have h4 : i ≤ endA d x := by omega
      simp [h1, h2, h3, h4, this, g]
    · by_cases h4 : i ≤ endA d x
      · have e : endA d x = i := by omega
        have := E.stop (by omega)
        rw [e] at this
        have h5 : ¬ depA d x < depA d i := by omega
        simp [h1, h2, h4, h5, g]
      · simp [h1, h2, h4, g]
  · subst g
    have h2 : x + 1 ≤ endA d x := E.lt
    have h3 : depA d x < depA d x + 1 := Nat.lt_succ_self _
    simp [h2, h3]
  · have h1 : ¬ x < i + 1 := by omega
    have h2 : ¬ x < i := by omega
    simp [h1, h2]
theorem VV_next {m : Mac} {d : Doc} {L : List Nat} {i : Nat} (hi : i < d.length) {o : Option Nat} : VV m d L (i + 1) (depA d i + 1) o = VV m d L i (depA d i) o := by
  unfold VV
  congr 1
  exact List.filter_congr fun x hx => opn_next hi (mem_ch.mp hx).1
theorem VV_new {m : Mac} {d : Doc} {L : List Nat} {i : Nat} (hi : i < d.length) {mm : Nat} : VV m d L i mm (some i) = bgS m d L i := by
  unfold VV
  have : (chA d (some i)).filter (opn d i mm) = [] := by
    rw [List.filter_eq_nil_iff]
    intro x hx
    have := par_lt (mem_ch.mp hx).2
    unfold opn
    have h1 : ¬ x < i := by omega
    simp [h1]
  rw [this]; rfl
theorem VV_zero {m : Mac} {d : Doc} {L : List Nat} {mm : Nat} {o : Option Nat} : VV m d L 0 mm o = initV m d L o := by
  unfold VV
  have : (chA d o).filter (opn d 0 mm) = [] := by
    rw [List.filter_eq_nil_iff]
    intro x hx
    simp [opn]
  rw [this]; rfl
theorem VV_end {m : Mac} {d : Doc} {L : List Nat} {o : Option Nat} : VV m d L d.length 0 o = match o with
    | none => stTop m d L
    | some k => stA m d L k := by
  unfold VV
  have : (chA d o).filter (opn d d.length 0) = chA d o := by
    rw [List.filter_eq_self]
    intro x hx
    simp [opn, (mem_ch.mp hx).1]
  rw [this]
  cases o with
  | none => rfl
  | some k => exact stA_eq.symm
/-! all are states -/
theorem stp_at {m : Mac} (h : MacOk m) {s c : Nat} (hs : s < m.st.length) (hc : c < m.st.length) : ∃ r, m.st[s]? = some r ∧ r[c]? = some (stp m s c) ∧ stp m s c < m.st.length := by
  have e : m.st[s]? = some m.st[s] := by simp [hs]
  obtain ⟨h1, h2⟩ := h.sr _ (List.getElem_mem hs)
  have hc2 : c < m.st[s].length := by rw [h1]; exact hc
  have e2 : m.st[s][c]? = some m.st[s][c] := by simp [hc2]
  have e3 : stp m s c = m.st[s][c] := by
    unfold stp
    rw [e]
    show (m.st[s][c]?).getD 0 = _
    rw [e2]; rfl
  exact ⟨_, e, by rw [e2, e3], by rw [e3]; exact h2 _ (List.getElem_mem hc2)⟩
theorem mk_code {d : Doc} (hv : Vd 0 d) {k : Nat} (hk : k < d.length) : ∃ c, d[k].1 = chS c ∧ c = 97 + mkI d k ∧ mkI d k < 8 := by
  have hmk := (hv.dep k d[k] (by simp [hk])).1
  obtain ⟨c, hc, _⟩ := mk_chS hmk
  rw [hc] at hmk
  have hm := isMk_mem hmk
  have e : mkI d k = c - 97 := by
    unfold mkI
    have : d[k]? = some d[k] := by simp [hk]
    rw [this]
    show ((d[k].1.cps.toList.headD 0)) - 97 = _
    rw [hc]; rfl
  simp at hm
  exact ⟨c, hc, by omega, by omega⟩
theorem bgS_at {m : Mac} (h : MacOk m) {d : Doc} (hv : Vd 0 d) {L : List Nat} (hL : RowOk L d.length (2 ^ m.nm.length)) {k : Nat} (hk : k < d.length) : ∃ r l, m.be[mkI d k]? = some r ∧ L[k]? = some l ∧ r[l]? = some (bgS m d L k) ∧ bgS m d L k < m.st.length := by
  obtain ⟨c, hc, c1, c2⟩ := mk_code hv hk
  have hb : mkI d k < m.be.length := by rw [h.bl]; exact c2
  have e : m.be[mkI d k]? = some m.be[mkI d k] := by simp [hb]
  obtain ⟨h1, h2⟩ := h.br _ (List.getElem_mem hb)
  have hkl : k < L.length := by rw [hL.1]; exact hk
  have el : L[k]? = some L[k] := by simp [hkl]
  have hl2 : L[k] < m.be[mkI d k].length := by rw [h1]; exact hL.2 _ (List.getElem_mem hkl)
  have er : m.be[mkI d k][L[k]]? = some m.be[mkI d k][L[k]] := by simp [hl2]
  have e3 : bgS m d L k = m.be[mkI d k][L[k]] := by
    unfold bgS
    rw [e, el]
    show (m.be[mkI d k][L[k]]?).getD 0 = _
    rw [er]; rfl
  exact ⟨_, _, e, el, by rw [er, e3], by rw [e3]; exact h2 _ (List.getElem_mem hl2)⟩
theorem fold_lt {m : Mac} (h : MacOk m) {g : Nat → Nat} : ∀ {l : List Nat} {a : Nat}, a < m.st.length → (∀ c ∈ l, g c < m.st.length) → l.foldl (fun s c => stp m s (g c)) a < m.st.length
  | [], _, ha, _ => ha
  | x :: r, a, ha, hg => by
    rw [List.foldl_cons]
    obtain ⟨_, _, _, h3⟩ := stp_at h ha (hg x (by simp))
    exact fold_lt h h3 fun c hc => hg c (by simp [hc])
theorem stA_lt {m : Mac} (h : MacOk m) {d : Doc} (hv : Vd 0 d) {L : List Nat} (hL : RowOk L d.length (2 ^ m.nm.length)) : ∀ (n k : Nat), d.length - k ≤ n → k < d.length → stA m d L k < m.st.length
  | 0, k, hn, hk => by omega
  | n + 1, k, hn, hk => by
    rw [stA_eq]
    obtain ⟨_, _, _, _, _, h4⟩ := bgS_at h hv hL hk
    refine fold_lt h h4 fun c hc => ?_
    obtain ⟨c1, c2⟩ := ch_lt hc
    exact stA_lt h hv hL n c (by omega) c2
theorem stA_bnd {m : Mac} (h : MacOk m) {d : Doc} (hv : Vd 0 d) {L : List Nat} (hL : RowOk L d.length (2 ^ m.nm.length)) {k : Nat} (hk : k < d.length) : stA m d L k < m.st.length := stA_lt h hv hL _ k (Nat.le_refl _) hk
theorem VV_bnd {m : Mac} (h : MacOk m) {d : Doc} (hv : Vd 0 d) {L : List Nat} (hL : RowOk L d.length (2 ^ m.nm.length)) {i mm : Nat} {o : Option Nat} (ho : ∀ k, o = some k → k < d.length) : VV m d L i mm o < m.st.length := by
  unfold VV
  refine fold_lt h ?_ fun c hc => stA_bnd h hv hL (mem_ch.mp (List.mem_filter.mp hc).1).1
  cases o with
  | none => exact h.tp
  | some k => obtain ⟨_, _, _, _, _, h4⟩ := bgS_at h hv hL (ho k rfl); exact h4
end T

/-! Z: the package's runs. -/
namespace T
open PySem PySem.Spec PyProof.Rows L2
def natsT (l : List Nat) : List Tr := l.map natT
def sp_step_closed : Sp2 := A4 fun a b c e M Q _ => ∃ (m : Mac) (S st' : List Nat) (k s sk : Nat) (sa ga : Addr), a = .tup (m.st.map rowT) ∧ b = .loc sa ∧ c = .loc ga ∧ e = .int s ∧ MacOk m ∧ sa ≠ ga ∧ M sa = some (.lst (natsT S)) ∧ M ga = some (.lst (natsT (st' ++ [k]))) ∧ S[k]? = some sk ∧ sk < m.st.length ∧
  (st' = [] → s < m.st.length ∧ Q (.int (stp m s sk)) (up M ga (.lst []))) ∧ (∀ st'' a', st' = st'' ++ [a'] → ∃ s', S[a']? = some s' ∧ s' < m.st.length ∧ Q (.int s) (up (up M ga (.lst (natsT st'))) sa (.lst (natsT (S.set a' (stp m s' sk))))))
def n_step_closed : List Str := "step" :: "states" :: "open_nodes" :: "state" :: "child" :: "above" :: []
def b_step_closed_1 : TS2 := (sSq (sAs (eOp rIx2 (eOp rIx2 (eVar 0) (eOp rIx2 (eVar 1) (eVar 5))) (eVar 4)) (gSb rPut2 (eVar 1) (eVar 5)))
  (sRt (eVar 3)))
def b_step_closed_2 : TS2 := (sSq (sAs (eOp rIx2 (eVar 2) (eUn rNeg2 (eC (.int 1)))) (gN 5))
  b_step_closed_1)
def b_step_closed_3 : TS2 := (sSq (sIf (tCm (eOp (rEqG id) (eB rLen2 (aCons (eVar 2) aNil)) (eC (.int 0)))) (sRt (eOp rIx2 (eOp rIx2 (eVar 0) (eVar 3)) (eVar 4))) sNx)
  b_step_closed_2)
def b_step_closed : TS2 := (sSq (sAs (eOp rIx2 (eVar 1) (eM0 "list" rPop2 (eVar 2))) (gN 4))
  b_step_closed_3)
theorem rows_at {ls : List (List Nat)} {i : Nat} {r : List Nat} (h : ls[i]? = some r) : (ls.map rowT)[i]? = some (rowT r) := by rw [List.getElem?_map, h]; rfl
theorem nats_at {l : List Nat} {i x : Nat} (h : l[i]? = some x) : (natsT l)[i]? = some (natT x) := by unfold natsT; rw [List.getElem?_map, h]; rfl
theorem natm_at {l : List Nat} {i x : Nat} (h : l[i]? = some x) : (l.map natT)[i]? = some (natT x) := nats_at h
theorem nats_app {l : List Nat} {k : Nat} : natsT (l ++ [k]) = natsT l ++ [natT k] := by simp [natsT]
theorem nats_len {l : List Nat} : (natsT l).length = l.length := by simp [natsT]
theorem nats_set {l : List Nat} {i x : Nat} : natsT (l.set i x) = (natsT l).set i (.int x) := by unfold natsT; rw [List.map_set]
theorem sem_step_closed : ∀ ds M Q E, sp_step_closed ds M Q E → b_step_closed (fEnds Q E) (start2 n_step_closed ds) M := by
  rintro ds M Q E ⟨a, b, c, e, rfl, m, S, st', k, s, sk, sa, ga, rfl, rfl, rfl, rfl, hm, hne, eS, eG, hk, hsk, h0, h1⟩
  simp only [b_step_closed, start2, n_step_closed]
  rw [nats_app] at eG
  simp [eG, up_ne hne, eS, ↓kAt_get (nats_at hk)]
  simp only [b_step_closed_3]
  simp [up_same, nats_len]
  rcases List.eq_nil_or_concat st' with e | ⟨st'', a', e⟩
  · subst e
    obtain ⟨hs, hq⟩ := h0 rfl
    obtain ⟨r, r1, r2, r3⟩ := stp_at hm hs hsk
    simp [↓kAt_get (rows_at r1), rowT, ↓kAt_get (natm_at r2)]
    exact Fg.same hq
  · rw [List.concat_eq_append] at e
    subst e
    obtain ⟨s', e1, e2, hq⟩ := h1 _ _ rfl
    obtain ⟨r, r1, r2, r3⟩ := stp_at hm e2 hsk
    have el : (natsT (st'' ++ [a']))[(natsT (st'' ++ [a'])).length - 1]? = some (natT a') := by rw [nats_app]; simp
    have hla : a' < S.length := (List.getElem?_eq_some_iff.mp e1).1
    have c : ¬ ((st''.length : Int) + 1 = 0) := by omega
    simp [c]
    simp only [b_step_closed_2]
    simp [up_same, ↓kAt_last el]
    simp only [b_step_closed_1]
    simp [up_ne hne, eS, ↓kAt_get (nats_at e1), ↓kAt_get (rows_at r1), rowT, ↓kAt_get (natm_at r2), nats_len, ↓kIx_nat hla]
    rw [← nats_set]
    exact Fg.same hq
/-! the states along the open nodes -/
def SS (m : Mac) (d : Doc) (L : List Nat) (i mm : Nat) : List Nat := (List.range i).map fun k => VV m d L i mm (some k)
theorem SS_len {m : Mac} {d : Doc} {L : List Nat} {i mm : Nat} : (SS m d L i mm).length = i := by simp [SS]
theorem SS_at {m : Mac} {d : Doc} {L : List Nat} {i mm k : Nat} (h : k < i) : (SS m d L i mm)[k]? = some (VV m d L i mm (some k)) := by
  unfold SS; rw [List.getElem?_map, List.getElem?_range h]; rfl
theorem path_pop {d : Doc} {i mm : Nat} {st : List Nat} (P : Path d i st) (hi : i ≤ d.length) (hm : mm < st.length) (hs : i < d.length → depA d i ≤ mm) : PopOk d i mm st[mm] := by
  obtain ⟨h1, h2, h3⟩ := P.at_ mm st[mm] (by simp [hm])
  exact ⟨h1, hi, h2, h3, hs⟩
theorem path_par {d : Doc} (hv : Vd 0 d) {i mm : Nat} {st : List Nat} (P : Path d i st) (hi : i ≤ d.length) (hm : mm + 1 < st.length) : parA d st[mm + 1] = some st[mm] := by
  obtain ⟨h1, h2, h3⟩ := P.at_ (mm + 1) st[mm + 1] (by simp [hm])
  obtain ⟨g1, g2, g3⟩ := P.at_ mm st[mm] (by rw [List.getElem?_eq_getElem (by omega)])
  have lt : st[mm] < st[mm + 1] := by
    rcases Nat.lt_trichotomy st[mm] st[mm + 1] with c | c | c
    · exact c
    · have h2' : depA d st[mm] = mm + 1 := by rw [c]; exact h2
      omega
    · have := h3 _ c g1
      omega
  refine (par_some hv (by omega) (by omega)).mpr ⟨lt, ?_, by omega⟩
  have E := endA_ok (d := d) (k := st[mm]) (by omega)
  rcases Nat.lt_or_ge st[mm + 1] (endA d st[mm]) with c | c
  · exact c
  · have e1 := E.stop (by omega)
    have e2 := g3 (endA d st[mm]) E.lt (by omega)
    omega
theorem path_root {d : Doc} (hv : Vd 0 d) {i : Nat} {st : List Nat} (P : Path d i st) (hi : i ≤ d.length) (hm : 0 < st.length) : parA d st[0] = none := by
  obtain ⟨h1, h2, h3⟩ := P.at_ 0 st[0] (by simp [hm])
  exact (par_none hv (by omega)).mpr h2
theorem SS_set {m : Mac} {d : Doc} {L : List Nat} (hv : Vd 0 d) {i mm c a : Nat} (P : PopOk d i mm c) (hp : parA d c = some a) : SS m d L i mm = (SS m d L i (mm + 1)).set a (stp m (VV m d L i (mm + 1) (some a)) (stA m d L c)) := by
  have ha := par_lt hp
  have hc := P.lt
  apply List.ext_getElem?
  intro k
  rw [List.getElem?_set]
  by_cases hk : k < i
  · rw [SS_at hk]
    by_cases e : a = k
    · subst e
      rw [if_pos rfl, if_pos (by rw [SS_len]; exact hk), VV_pop hv P, if_pos hp]
    · rw [if_neg e, SS_at hk, VV_pop hv P, if_neg (by rw [hp]; intro h; exact e (Option.some.inj h))]
  · have n1 : (SS m d L i mm)[k]? = none := List.getElem?_eq_none (by rw [SS_len]; omega)
    have n2 : (SS m d L i (mm + 1))[k]? = none := List.getElem?_eq_none (by rw [SS_len]; omega)
    rw [n1, n2, if_neg (by omega)]
theorem SS_same {m : Mac} {d : Doc} {L : List Nat} (hv : Vd 0 d) {i mm c : Nat} (P : PopOk d i mm c) (hp : parA d c = none) : SS m d L i mm = SS m d L i (mm + 1) := by
  unfold SS
  refine List.map_congr_left fun k hk => ?_
  rw [VV_pop hv P, if_neg (by rw [hp]; simp)]
theorem SS_next {m : Mac} {d : Doc} {L : List Nat} {i : Nat} (hi : i < d.length) : SS m d L (i + 1) (depA d i + 1) = SS m d L i (depA d i) ++ [bgS m d L i] := by
  unfold SS
  rw [List.range_succ, List.map_append, List.map_singleton]
  congr 1
  · exact List.map_congr_left fun k hk => VV_next hi
  · rw [VV_next hi, VV_new hi]
def sp_states_in : Sp2 := A3 fun a b c M Q _ => ∃ (m : Mac) (d : Doc) (L : List Nat), a = macT m ∧ b = docT d ∧ c = rowT L ∧ MacOk m ∧ Val d ∧ RowOk L d.length (2 ^ m.nm.length) ∧
  ∀ M' q, M q = none → Le M M' → M' q = some (.lst (natsT ((List.range d.length).map (stA m d L)))) → Q (.tup [.loc q, .int (stTop m d L)]) M'
def n_states_in : List Str := "machine" :: "document" :: "laying" :: "names" :: "begin" :: "top" :: "step" :: "good" :: "states" :: "open_nodes" :: "state" :: "node" :: "mark" :: "depth" :: "row" :: []
def b_states_in_1 : TS2 := (sAs (eCall sp_step_closed [] (aCons (eVar 6) (aCons (eVar 8) (aCons (eVar 9) (aCons (eVar 10) aNil))))) (gN 10))
def b_states_in_2 : TS2 := (sSq (sDr (eM "list" rApp2 (eVar 8) (aCons (eOp rIx2 (eVar 14) (eOp rIx2 (eVar 2) (eVar 11))) aNil)))
  (sDr (eM "list" rApp2 (eVar 9) (aCons (eVar 11) aNil))))
def b_states_in_3 : TS2 := (sSq (sAs (eOp rIx2 (eVar 4) (eM1 rSIdx2 (eC (.str "abcdefgh")) (eVar 12))) (gN 14))
  b_states_in_2)
def b_states_in_4 : TS2 := (sSq (sWh (tCm (eOp rGtI (eB rLen2 (aCons (eVar 9) aNil)) (eVar 13))) b_states_in_1)
  b_states_in_3)
def b_states_in_5 : TS2 := (sAs (eCall sp_step_closed [] (aCons (eVar 6) (aCons (eVar 8) (aCons (eVar 9) (aCons (eVar 10) aNil))))) (gN 10))
def b_states_in_6 : TS2 := (sSq (sWh (tCm (eOp rGtI (eB rLen2 (aCons (eVar 9) aNil)) (eC (.int 0)))) b_states_in_5)
  (sRt (eTup (aCons (eVar 8) (aCons (eVar 10) aNil)))))
def b_states_in_7 : TS2 := (sSq (sFo (iEn (aCons (eVar 1) aNil)) (gT 2 (gCo (gN 11) (gCo (gT 2 (gCo (gN 12) (gCo (gN 13) gNil2))) gNil2))) b_states_in_4)
  b_states_in_6)
def b_states_in_8 : TS2 := (sSq (sPr3 8 9 10 (aCons (eLst aNil) (aCons (eLst aNil) (aCons (eVar 5) aNil))))
  b_states_in_7)
def b_states_in : TS2 := (sSq (sAs (eVar 0) (gT 5 (gCo (gN 3) (gCo (gN 4) (gCo (gN 5) (gCo (gN 6) (gCo (gN 7) gNil2)))))))
  b_states_in_8)
/-- one closing, along the open nodes -/
theorem close_step {m : Mac} {d : Doc} {L : List Nat} (hm : MacOk m) (hv : Vd 0 d) (hL : RowOk L d.length (2 ^ m.nm.length)) {i mm : Nat} {st : List Nat} (P : Path d i st) (hi : i ≤ d.length) (hmm : mm < st.length) (hs : i < d.length → depA d i ≤ mm) {sa ga : Addr} (hne : sa ≠ ga) {M : Ms} {Q : Q2} {E : X2}
    (eS : M sa = some (.lst (natsT (SS m d L i (mm + 1))))) (eG : M ga = some (.lst (natsT (st.take (mm + 1))))) (hq : ∀ M', (∀ a, a ≠ sa → a ≠ ga → M' a = M a) → M' sa = some (.lst (natsT (SS m d L i mm))) → M' ga = some (.lst (natsT (st.take mm))) → Q (.int (VV m d L i mm none)) M') :
    sp_step_closed [.tup (m.st.map rowT), .loc sa, .loc ga, .int (VV m d L i (mm + 1) none)] M Q E := by
  have O := path_pop P hi hmm hs
  have hcn : st[mm] < d.length := Nat.lt_of_lt_of_le O.lt hi
  have ht : st.take (mm + 1) = st.take mm ++ [st[mm]] := List.take_succ_eq_append_getElem hmm
  rw [ht] at eG
  refine ⟨_, _, _, _, rfl, m, _, st.take mm, st[mm], _, stA m d L st[mm], sa, ga, rfl, rfl, rfl, rfl, hm, hne, eS, eG, ?_, stA_bnd hm hv hL hcn, ?_, ?_⟩
  · rw [SS_at O.lt, VV_closed hv O]
  · intro e0
    have hm0 : mm = 0 := by
      have := congrArg List.length e0
      rw [List.length_take, List.length_nil] at this
      omega
    subst hm0
    have hp := path_root hv P hi hmm
    refine ⟨VV_bnd hm hv hL (fun k e => by cases e), ?_⟩
    have e1 : stp m (VV m d L i (0 + 1) none) (stA m d L st[0]) = VV m d L i 0 none := by rw [VV_pop hv O (o := none), if_pos hp]
    rw [e1]
    refine hq _ (fun a h1 h2 => up_ne h2) ?_ ?_
    · rw [up_ne hne, eS, SS_same hv O hp]
    · rw [up_same]; rfl
  · intro st'' a' e
    obtain ⟨m', rfl⟩ : ∃ m', mm = m' + 1 := by
      cases mm with
      | zero => simp at e
      | succ m' => exact ⟨m', rfl⟩
    have ht2 : st.take (m' + 1) = st.take m' ++ [st[m']] := List.take_succ_eq_append_getElem (by omega)
    rw [ht2] at e
    obtain ⟨e1, e2⟩ := List.append_inj' e rfl
    have e2 : st[m'] = a' := by simpa using e2
    subst e2
    have hp := path_par hv P hi hmm
    have hai : st[m'] < i := Nat.lt_trans (par_lt hp) O.lt
    refine ⟨VV m d L i (m' + 1 + 1) (some st[m']), SS_at hai, VV_bnd hm hv hL (fun k e => by cases e; omega), ?_⟩
    have e3 : VV m d L i (m' + 1 + 1) none = VV m d L i (m' + 1) none := by rw [VV_pop hv O (o := none), if_neg (by rw [hp]; simp)]
    rw [e3]
    refine hq _ (fun a h1 h2 => by rw [up_ne h1, up_ne h2]) ?_ ?_
    · rw [up_same, SS_set hv O hp]
    · rw [up_ne hne.symm, up_same]
theorem code_idx {n : Nat} (h : n < 8) : ∃ rest, Builtin.Str.occurrences ("abcdefgh" : Str) (chS (97 + n)) 0 ("abcdefgh" : Str).length 1 = n :: rest := by
  have : ∀ n : Fin 8, Builtin.Str.occurrences ("abcdefgh" : Str) (chS (97 + n.val)) 0 ("abcdefgh" : Str).length 1 = [n.val] := by decide +kernel
  exact ⟨[], this ⟨n, h⟩⟩
theorem sem_states_in : ∀ ds M Q E, sp_states_in ds M Q E → b_states_in (fEnds Q E) (start2 n_states_in ds) M := by
  rintro ds M Q E ⟨a, b, c, rfl, m, d, L, rfl, rfl, rfl, hm, ⟨hv, hl⟩, hL, hq⟩
  simp only [b_states_in, start2, n_states_in, macT]
  simp
  simp only [b_states_in_8]
  simp
  refine fun sa hsa => ?_
  have esa : up M sa (.lst []) sa = some (.lst []) := up_same
  have L1 : Le M (up M sa (.lst [])) := Le.new hsa
  generalize up M sa (.lst []) = M1 at esa L1
  simp
  refine fun ga hga => ?_
  have hne : sa ≠ ga := m_ne esa hga
  have hMg : M ga = none := L1.none hga
  have esa2 : up M1 ga (.lst []) sa = some (.lst (natsT (SS m d L 0 0))) := by rw [up_ne hne]; exact esa
  have ega2 : up M1 ga (.lst []) ga = some (.lst (natsT [])) := up_same
  have L2 : Le M (up M1 ga (.lst [])) := L1.trans (Le.new hga)
  generalize up M1 ga (.lst []) = M2 at esa2 ega2 L2
  simp only [b_states_in_7]
  simp [docT]
  have tri : VV m d L 0 0 none = m.top := VV_zero
  refine for_itE (fun i σ M' => ∃ (st : List Nat) (x y z w : Option Tr), σ = [some (macT m), some (docT d), some (rowT L), some (nmT m.nm), some (.tup (m.be.map rowT)), some (natT m.top), some (.tup (m.st.map rowT)), some (rowT m.go), some (.loc sa), some (.loc ga), some (.int (VV m d L i st.length none)), x, y, z, w] ∧ Le M M' ∧ M' sa = some (.lst (natsT (SS m d L i st.length))) ∧ M' ga = some (.lst (natsT st)) ∧ Path d i st ∧ st.length = pathN d i) ?_ ?_ ?_ ?_
  · exact ⟨[], none, none, none, none, by rw [show ([] : List Nat).length = 0 from rfl, tri]; rfl, L2, esa2, ega2, ⟨fun i k e => by simp at e⟩, rfl⟩
  · rintro i σ M' _ _
    rfl
  · rintro i e σ M' he ⟨st, x, y, z, w, rfl, LM, eS, eG, hP, hst⟩
    obtain ⟨en, hen, rfl⟩ := ent_at he
    have hi : i < d.length := (List.getElem?_eq_some_iff.mp hen).1
    have hdl := Val.dep_le hv hi
    rw [← hst] at hdl
    have hdi := Val.dep_lt hv hi
    simp
    simp only [b_states_in_4]
    refine seq_cut (fun σ1 M1 => σ1 = [some (macT m), some (docT d), some (rowT L), some (nmT m.nm), some (.tup (m.be.map rowT)), some (natT m.top), some (.tup (m.st.map rowT)), some (rowT m.go), some (.loc sa), some (.loc ga), some (.int (VV m d L i (depA d i) none)), some (.int i), some (.str en.1), some (.int (depA d i)), w] ∧ Le M M1 ∧ M1 sa = some (.lst (natsT (SS m d L i (depA d i)))) ∧ M1 ga = some (.lst (natsT (st.take (depA d i))))) (fun NX hN => ?_) ?_
    · refine sWh_of (fun mm σ1 M1 => mm ≤ st.length ∧ depA d i ≤ mm ∧ σ1 = [some (macT m), some (docT d), some (rowT L), some (nmT m.nm), some (.tup (m.be.map rowT)), some (natT m.top), some (.tup (m.st.map rowT)), some (rowT m.go), some (.loc sa), some (.loc ga), some (.int (VV m d L i mm none)), some (.int i), some (.str en.1), some (.int (depA d i)), w] ∧ Le M M1 ∧ M1 sa = some (.lst (natsT (SS m d L i mm))) ∧ M1 ga = some (.lst (natsT (st.take mm)))) st.length ⟨Nat.le_refl _, hdl, rfl, LM, eS, by rw [List.take_length]; exact eG⟩ ?_
      rintro mm σ1 M1 ⟨h1, h2, rfl, LM1, eS1, eG1⟩
      simp [-List.map_take, eG1, nats_len]
      rw [Nat.min_eq_left h1]
      by_cases c : depA d i < mm
      · rw [if_pos c]
        refine WhT.of fun N2 hN2 => ?_
        obtain ⟨m', rfl⟩ : ∃ m', mm = m' + 1 := ⟨mm - 1, by omega⟩
        simp only [b_states_in_1]
        simp
        refine close_step hm hv hL hP (by omega) (by omega) (fun _ => by omega) hne eS1 eG1 fun M3 fr e1 e2 => ?_
        exact hN2 m' _ _ (Nat.lt_succ_self _) ⟨by omega, by omega, rfl, fun a o h => by rw [fr a (m_ne h hsa) (m_ne h hMg)]; exact LM1 a o h, e1, e2⟩
      · rw [if_neg c]
        have : mm = depA d i := by omega
        subst this
        exact hN _ _ ⟨rfl, LM1, eS1, eG1⟩
    · rintro σ1 M3 ⟨rfl, L3, eS3, eG3⟩
      obtain ⟨c, hc, c1, c2⟩ := mk_code hv hi
      obtain ⟨rest, hocc⟩ := code_idx c2
      obtain ⟨r, l, r1, r2, r3, r4⟩ := bgS_at hm hv hL hi
      have een : en.1 = chS c := by
        have e1 : d[i]? = some d[i] := by simp [hi]
        rw [e1] at hen
        rw [← Option.some.inj hen]; exact hc
      simp only [b_states_in_3]
      simp
      refine ⟨mkI d i, ⟨rest, by rw [een, c1]; exact hocc⟩, ?_⟩
      simp [↓kAt_get (rows_at r1)]
      simp only [b_states_in_2]
      have hl3 : (st.take (depA d i)).length = depA d i := by rw [List.length_take]; omega
      have eG4 : ∀ o, up M3 sa o ga = some (.lst (natsT (st.take (depA d i)))) := fun o => by rw [up_ne hne.symm]; exact eG3
      simp [rowT, ↓kAt_get (natm_at r2), ↓kAt_get (natm_at r3), eS3, nats_len, SS_len, eG4, -List.map_take, -List.length_take, hl3]
      refine ⟨small_lt (by omega), small_lt (by omega), st.take (depA d i) ++ [i], ?_, ?_, ?_, ?_, ?_, ?_⟩
      · rw [List.length_append, hl3, List.length_singleton, VV_next hi]
      · intro a o h
        rw [up_ne (m_ne h hMg), up_ne (m_ne h hsa)]; exact L3 a o h
      · rw [up_ne hne, up_same, List.length_append, hl3, List.length_singleton, SS_next hi, nats_app]
      · rw [nats_app]
      · exact (hP.pop _).push hl3
      · rw [List.length_append, hl3]; simp [pathN]
  · rintro σ M' ⟨st, x, y, z, w, rfl, LM, eS, eG, hP, hst⟩
    rw [show (d.map entT).length = d.length from List.length_map ..] at eS hP hst
    simp only [show (d.map entT).length = d.length from List.length_map ..]
    simp only [b_states_in_6]
    refine seq_cut (fun σ1 M1 => ∃ x y z w, σ1 = [some (macT m), some (docT d), some (rowT L), some (nmT m.nm), some (.tup (m.be.map rowT)), some (natT m.top), some (.tup (m.st.map rowT)), some (rowT m.go), some (.loc sa), some (.loc ga), some (.int (VV m d L d.length 0 none)), x, y, z, w] ∧ Le M M1 ∧ M1 sa = some (.lst (natsT (SS m d L d.length 0)))) (fun NX hN => ?_) ?_
    · refine sWh_of (fun mm σ1 M1 => mm ≤ st.length ∧ σ1 = [some (macT m), some (docT d), some (rowT L), some (nmT m.nm), some (.tup (m.be.map rowT)), some (natT m.top), some (.tup (m.st.map rowT)), some (rowT m.go), some (.loc sa), some (.loc ga), some (.int (VV m d L d.length mm none)), x, y, z, w] ∧ Le M M1 ∧ M1 sa = some (.lst (natsT (SS m d L d.length mm))) ∧ M1 ga = some (.lst (natsT (st.take mm)))) st.length ⟨Nat.le_refl _, rfl, LM, eS, by rw [List.take_length]; exact eG⟩ ?_
      rintro mm σ1 M1 ⟨h1, rfl, LM1, eS1, eG1⟩
      simp [-List.map_take, eG1, nats_len]
      rw [Nat.min_eq_left h1]
      by_cases c : 0 < mm
      · rw [if_pos c]
        refine WhT.of fun N2 hN2 => ?_
        obtain ⟨m', rfl⟩ : ∃ m', mm = m' + 1 := ⟨mm - 1, by omega⟩
        simp only [b_states_in_5]
        simp
        refine close_step hm hv hL hP (Nat.le_refl _) (by omega) (fun h => absurd h (Nat.lt_irrefl _)) hne eS1 eG1 fun M3 fr e1 e2 => ?_
        exact hN2 m' _ _ (Nat.lt_succ_self _) ⟨by omega, rfl, fun a o h => by rw [fr a (m_ne h hsa) (m_ne h hMg)]; exact LM1 a o h, e1, e2⟩
      · rw [if_neg c]
        have : mm = 0 := by omega
        subst this
        exact hN _ _ ⟨_, _, _, _, rfl, LM1, eS1⟩
    · rintro σ1 M1 ⟨x, y, z, w, rfl, L3, eS3⟩
      simp
      have e1 : VV m d L d.length 0 none = stTop m d L := VV_end
      rw [e1]
      refine Fg.same (hq M1 sa hsa L3 ?_)
      rw [eS3]
      congr 3
      unfold SS
      exact List.map_congr_left fun k _ => VV_end
/-- each name's bit at its node -/
def layF (n : Nat) : List Nat → Nat → List Nat → List Nat
  | [], _, acc => acc
  | v :: r, place, acc => layF n r (place + 1) (acc.set v ((acc[v]?).getD 0 + 2 ^ place))
def layL (n : Nat) (ns : List Nat) : List Nat := layF n ns 0 (List.replicate n 0)
theorem layF_len {n : Nat} : ∀ {ns : List Nat} {p : Nat} {acc : List Nat}, (layF n ns p acc).length = acc.length
  | [], _, _ => rfl
  | v :: r, p, acc => by
    show (layF n r (p + 1) _).length = _
    rw [layF_len]; simp
theorem layL_len {n : Nat} {ns : List Nat} : (layL n ns).length = n := by unfold layL; rw [layF_len]; simp
theorem layF_bnd {n : Nat} : ∀ {ns : List Nat} {p : Nat} {acc : List Nat}, (∀ x ∈ acc, x < 2 ^ p) → ∀ x ∈ layF n ns p acc, x < 2 ^ (p + ns.length)
  | [], p, acc, h => by simpa [layF] using h
  | v :: r, p, acc, h => by
    have h2 : ∀ x ∈ acc.set v ((acc[v]?).getD 0 + 2 ^ p), x < 2 ^ (p + 1) := by
      intro x hx
      have hp : 2 ^ (p + 1) = 2 ^ p + 2 ^ p := by rw [Nat.pow_succ]; omega
      rcases List.mem_or_eq_of_mem_set hx with hx | hx
      · have := h x hx; omega
      · have hv : (acc[v]?).getD 0 < 2 ^ p := by
          cases e : acc[v]? with
          | none => exact Nat.two_pow_pos p
          | some y => exact h y (List.mem_of_getElem? e)
        omega
    have := layF_bnd (n := n) (ns := r) h2
    rw [List.length_cons, show p + (r.length + 1) = p + 1 + r.length by omega]
    exact this
theorem layL_ok {n k : Nat} {ns : List Nat} (h : ns.length = k) : RowOk (layL n ns) n (2 ^ k) := by
  refine ⟨layL_len, ?_⟩
  have := layF_bnd (n := n) (ns := ns) (p := 0) (acc := List.replicate n 0) (fun x hx => by
    have := List.eq_of_mem_replicate hx
    omega)
  rw [Nat.zero_add, h] at this
  exact this
theorem layF_snoc {n v : Nat} : ∀ {l : List Nat} {p : Nat} {acc : List Nat}, layF n (l ++ [v]) p acc = (layF n l p acc).set v (((layF n l p acc)[v]?).getD 0 + 2 ^ (p + l.length))
  | [], p, acc => rfl
  | x :: r, p, acc => by
    show layF n (r ++ [v]) (p + 1) _ = (layF n r (p + 1) _).set v _
    rw [layF_snoc, List.length_cons, show p + (r.length + 1) = p + 1 + r.length by omega]
    rfl
theorem layL_next {n v j : Nat} {ns : List Nat} (h : ns[j]? = some v) : layL n (ns.take (j + 1)) = (layL n (ns.take j)).set v (((layL n (ns.take j))[v]?).getD 0 + 2 ^ j) := by
  obtain ⟨hj, rfl⟩ := List.getElem?_eq_some_iff.mp h
  unfold layL
  rw [List.take_succ_eq_append_getElem hj, layF_snoc, List.length_take, Nat.min_eq_left (by omega), Nat.zero_add]
def sp_laying_of : Sp2 := A2 fun a b M Q _ => ∃ (d : Doc) (ns : List Nat), a = docT d ∧ b = rowT ns ∧ d.length ≤ 20000 ∧ ns.length ≤ 5 ∧ (∀ x ∈ ns, x < d.length) ∧ Q (rowT (layL d.length ns)) M
def n_laying_of : List Str := "document" :: "nodes" :: "lays" :: "place" :: "node" :: []
def b_laying_of_1 : TS2 := (sSq (sFo (iEn (aCons (eVar 1) aNil)) (gT 2 (gCo (gN 3) (gCo (gN 4) gNil2))) (sAuS rIpA (eVar 2) (eVar 4) (eOp rShl2 (eC (.int 1)) (eVar 3))))
  (sRt (eB rTuple2 (aCons (eVar 2) aNil))))
def b_laying_of : TS2 := (sSq (sAs (eOp rMul2 (eLst (aCons (eC (.int 0)) aNil)) (eB rLen2 (aCons (eVar 0) aNil))) (gN 2))
  b_laying_of_1)
theorem sem_laying_of : ∀ ds M Q E, sp_laying_of ds M Q E → b_laying_of (fEnds Q E) (start2 n_laying_of ds) M := by
  rintro ds M Q E ⟨a, b, rfl, d, ns, rfl, rfl, hl, hn, hx, hq⟩
  simp only [b_laying_of, start2, n_laying_of]
  have l1 : 1 ≤ sizeLine := small_line (by decide)
  have lm : (d.map entT).length = d.length := List.length_map ..
  simp [docT, lm]
  refine ⟨l1, fun x hx1 => ?_⟩
  simp [up_same, lm]
  refine ⟨by omega, small_line (by omega), fun g hg => ?_⟩
  have L1 : Le M (up (up M x (.lst [.int 0])) g (.lst (List.replicate d.length (.int 0)))) := (Le.new hx1).trans (Le.new hg)
  have hMg : M g = none := (Le.new (o := .lst [.int 0]) hx1).none hg
  have eg : up (up M x (.lst [.int 0])) g (.lst (List.replicate d.length (.int 0))) g = some (.lst (natsT (layL d.length (ns.take 0)))) := by
    rw [up_same]; unfold layL natsT; simp [layF]
  generalize up (up M x (.lst [.int 0])) g (.lst (List.replicate d.length (.int 0))) = M1 at L1 eg
  simp only [b_laying_of_1]
  simp [rowT]
  refine for_itE (fun j σ M' => ∃ y z, σ = [some (docT d), some (rowT ns), some (.loc g), y, z] ∧ Le M M' ∧ M' g = some (.lst (natsT (layL d.length (ns.take j))))) ?_ ?_ ?_ ?_
  · exact ⟨_, _, rfl, L1, eg⟩
  · rintro j σ M' _ _
    rfl
  · rintro j e σ M' he ⟨y, z, rfl, LM, eg⟩
    rw [List.getElem?_map] at he
    cases ev : ns[j]? with
    | none => rw [ev] at he; cases he
    | some v =>
      rw [ev] at he
      cases he
      have hj : j < ns.length := (List.getElem?_eq_some_iff.mp ev).1
      have hvl := hx v (List.mem_of_getElem? ev)
      have hlen : (layL d.length (ns.take j)).length = d.length := layL_len
      obtain ⟨w, hw⟩ : ∃ w, (layL d.length (ns.take j))[v]? = some w := ⟨_, List.getElem?_eq_getElem (by rw [hlen]; exact hvl)⟩
      simp [-List.map_take, eg, ↓kAt_get (nats_at hw), nats_len, hlen, ↓kIx_nat hvl]
      refine ⟨L2.shl_ok (i := 1) (n := 1) (by decide) (by omega), fun a o h => by rw [up_ne (m_ne h hMg)]; exact LM a o h, ?_⟩
      rw [layL_next ev, hw, nats_set]
      congr 1
  · rintro σ M' ⟨y, z, rfl, LM, eg⟩
    rw [show (ns.map natT).length = ns.length from List.length_map .., List.take_length] at eg
    simp [eg]
    exact Fg.le LM hq
def sp_run : Sp2 := A3 fun a b c M Q _ => ∃ (m : Mac) (d : Doc) (L : List Nat), a = macT m ∧ b = docT d ∧ c = rowT L ∧ MacOk m ∧ Val d ∧ RowOk L d.length (2 ^ m.nm.length) ∧
  ∀ M' q, M q = none → Le M M' → M' q = some (.lst (natsT ((List.range d.length).map (stA m d L)))) → Q (.tup [.loc q, .int (stTop m d L)]) M'
def n_run : List Str := "machine" :: "document" :: "laying" :: []
def b_run_1 : TS2 := (sRt (eCall sp_states_in [] (aCons (eVar 0) (aCons (eVar 1) (aCons (eVar 2) aNil)))))
def b_run_2 : TS2 := (sSq (sDr (eCall sp_need_laying [] (aCons (eVar 0) (aCons (eVar 1) (aCons (eVar 2) aNil)))))
  b_run_1)
def b_run_3 : TS2 := (sSq (sDr (eCall sp_need_document [] (aCons (eVar 1) aNil)))
  b_run_2)
def b_run : TS2 := (sSq (sDr (eCall sp_need_machine [] (aCons (eVar 0) aNil)))
  b_run_3)
theorem sem_run : ∀ ds M Q E, sp_run ds M Q E → b_run (fEnds Q E) (start2 n_run ds) M := by
  rintro ds M Q E ⟨a, b, c, rfl, m, d, L, rfl, rfl, rfl, hm, hv, hL, hq⟩
  simp only [b_run, start2, n_run]
  simp
  refine ⟨_, rfl, m, rfl, hm, ?_⟩
  simp only [b_run_3]
  simp
  refine ⟨_, rfl, d, rfl, hv, ?_⟩
  simp only [b_run_2]
  simp
  refine ⟨_, _, _, rfl, m, d, L, rfl, rfl, rfl, hm.nm.len, hv.2, hL, ?_⟩
  simp only [b_run_1]
  simp
  refine ⟨_, _, _, rfl, m, d, L, rfl, rfl, rfl, hm, hv, hL, fun M' q h1 h2 h3 => ?_⟩
  exact Fg.same (hq M' q h1 h2 h3)
def sp_state_of : Sp2 := A3 fun a b c M Q _ => ∃ (m : Mac) (d : Doc) (L : List Nat), a = macT m ∧ b = docT d ∧ c = rowT L ∧ MacOk m ∧ Val d ∧ RowOk L d.length (2 ^ m.nm.length) ∧ Q (.int (stTop m d L)) M
def n_state_of : List Str := "machine" :: "document" :: "laying" :: []
def b_state_of : TS2 := (sRt (eOp rIx2 (eCall sp_run [] (aCons (eVar 0) (aCons (eVar 1) (aCons (eVar 2) aNil)))) (eC (.int 1))))
theorem sem_state_of : ∀ ds M Q E, sp_state_of ds M Q E → b_state_of (fEnds Q E) (start2 n_state_of ds) M := by
  rintro ds M Q E ⟨a, b, c, rfl, m, d, L, rfl, rfl, rfl, hm, hv, hL, hq⟩
  simp only [b_state_of, start2, n_state_of]
  simp
  refine ⟨_, _, _, rfl, m, d, L, rfl, rfl, rfl, hm, hv, hL, fun M' q h1 h2 h3 => ?_⟩
  simp
  exact Fg.le h2 hq
def sp_states_of : Sp2 := A3 fun a b c M Q _ => ∃ (m : Mac) (d : Doc) (L : List Nat), a = macT m ∧ b = docT d ∧ c = rowT L ∧ MacOk m ∧ Val d ∧ RowOk L d.length (2 ^ m.nm.length) ∧ Q (rowT ((List.range d.length).map (stA m d L))) M
def n_states_of : List Str := "machine" :: "document" :: "laying" :: []
def b_states_of : TS2 := (sRt (eB rTuple2 (aCons (eOp rIx2 (eCall sp_run [] (aCons (eVar 0) (aCons (eVar 1) (aCons (eVar 2) aNil)))) (eC (.int 0))) aNil)))
theorem sem_states_of : ∀ ds M Q E, sp_states_of ds M Q E → b_states_of (fEnds Q E) (start2 n_states_of ds) M := by
  rintro ds M Q E ⟨a, b, c, rfl, m, d, L, rfl, rfl, rfl, hm, hv, hL, hq⟩
  simp only [b_states_of, start2, n_states_of]
  simp
  refine ⟨_, _, _, rfl, m, d, L, rfl, rfl, rfl, hm, hv, hL, fun M' q h1 h2 h3 => ?_⟩
  simp [h3]
  exact Fg.le h2 hq
theorem inX_row {l : List Nat} {k : Nat} {M : Ms} {Q : Q2} {f : Bool → Bool} (hq : Q (.bl (f (decide (k ∈ l)))) M) : rInX f (.int k) (rowT l) M Q := by
  have h1 : nbL (l.map natT) = true := nbL_of fun t ht => by
    obtain ⟨x, _, rfl⟩ := List.mem_map.mp ht; rfl
  have h2 : hL (l.map natT) ≤ 60 := hL_le fun t ht => by
    obtain ⟨x, _, rfl⟩ := List.mem_map.mp ht; exact Nat.zero_le _
  refine rInX_tup (decide (k ∈ l)) rfl h1 (Nat.zero_le _) h2 ?_ hq
  rw [decide_eq_true_eq, List.mem_map]
  constructor
  · intro h; exact ⟨k, h, rfl⟩
  · rintro ⟨x, hx, e⟩
    have : (x : Int) = k := by injection e
    have : x = k := by omega
    rw [← this]; exact hx
def sp_lets : Sp2 := A3 fun a b c M Q _ => ∃ (m : Mac) (d : Doc) (L : List Nat), a = macT m ∧ b = docT d ∧ c = rowT L ∧ MacOk m ∧ Val d ∧ RowOk L d.length (2 ^ m.nm.length) ∧ Q (.bl (decide (stTop m d L ∈ m.go))) M
def n_lets : List Str := "machine" :: "document" :: "laying" :: []
def b_lets : TS2 := (sRt (eOp (rInX id) (eOp rIx2 (eCall sp_run [] (aCons (eVar 0) (aCons (eVar 1) (aCons (eVar 2) aNil)))) (eC (.int 1))) (eOp rIx2 (eVar 0) (eC (.int 4)))))
theorem sem_lets : ∀ ds M Q E, sp_lets ds M Q E → b_lets (fEnds Q E) (start2 n_lets ds) M := by
  rintro ds M Q E ⟨a, b, c, rfl, m, d, L, rfl, rfl, rfl, hm, hv, hL, hq⟩
  simp only [b_lets, start2, n_lets]
  simp
  refine ⟨_, _, _, rfl, m, d, L, rfl, rfl, rfl, hm, hv, hL, fun M' q h1 h2 h3 => ?_⟩
  simp [macT]
  refine inX_row ?_
  exact Fg.le h2 hq
def sp_takes : Sp2 := A3 fun a b c M Q _ => ∃ (m : Mac) (d : Doc) (ns : List Nat), a = macT m ∧ b = docT d ∧ c = rowT ns ∧ MacOk m ∧ Val d ∧ RowOk ns m.nm.length d.length ∧ Q (.bl (decide (stTop m d (layL d.length ns) ∈ m.go))) M
def n_takes : List Str := "machine" :: "document" :: "nodes" :: []
def b_takes_1 : TS2 := (sRt (eOp (rInX id) (eOp rIx2 (eCall sp_states_in [] (aCons (eVar 0) (aCons (eVar 1) (aCons (eCall sp_laying_of [] (aCons (eVar 1) (aCons (eVar 2) aNil))) aNil)))) (eC (.int 1))) (eOp rIx2 (eVar 0) (eC (.int 4)))))
def b_takes_2 : TS2 := (sSq (sDr (eCall sp_need_spots [] (aCons (eVar 0) (aCons (eVar 1) (aCons (eVar 2) aNil)))))
  b_takes_1)
def b_takes_3 : TS2 := (sSq (sDr (eCall sp_need_document [] (aCons (eVar 1) aNil)))
  b_takes_2)
def b_takes : TS2 := (sSq (sDr (eCall sp_need_machine [] (aCons (eVar 0) aNil)))
  b_takes_3)
theorem sem_takes : ∀ ds M Q E, sp_takes ds M Q E → b_takes (fEnds Q E) (start2 n_takes ds) M := by
  rintro ds M Q E ⟨a, b, c, rfl, m, d, ns, rfl, rfl, rfl, hm, hv, hn, hq⟩
  simp only [b_takes, start2, n_takes]
  simp
  refine ⟨_, rfl, m, rfl, hm, ?_⟩
  simp only [b_takes_3]
  simp
  refine ⟨_, rfl, d, rfl, hv, ?_⟩
  simp only [b_takes_2]
  simp
  refine ⟨_, _, _, rfl, m, d, ns, rfl, rfl, rfl, hm.nm.len, hv.2, hn, ?_⟩
  simp only [b_takes_1]
  simp
  refine ⟨_, _, rfl, d, ns, rfl, rfl, hv.2, by rw [hn.1]; exact hm.nm.len, hn.2, ?_⟩
  simp
  refine ⟨_, _, _, rfl, m, d, layL d.length ns, rfl, rfl, rfl, hm, hv, layL_ok hn.1, fun M' q h1 h2 h3 => ?_⟩
  simp [macT]
  refine inX_row ?_
  exact Fg.le h2 hq
end T

/-! Z: documents drawn, the second way (as XC). -/
namespace T
open PySem PySem.Spec PyProof.Rows L2
def sp__law_marks : Sp2 := A1 fun a M Q _ => ∃ (f : Addr) (n : Nat) (o : MO), a = .loc f ∧ n ≤ 100000000 ∧ M f = some o ∧ FeedO n o ∧ ∀ z o', mkW z → FeedO (n + 1) o' → Q (.str z) (up M f o')
def n__law_marks : List Str := "feed" :: []
def b__law_marks : TS2 := (sRt (eCall sp__law_one [] (aCons (eVar 0) (aCons (eLst (aCons (eC (.str "a")) (aCons (eC (.str "ab")) (aCons (eC (.str "ab")) (aCons (eC (.str "abc")) (aCons (eC (.str "abcdefgh")) aNil)))))) aNil))))
theorem sem__law_marks : ∀ ds M Q E, sp__law_marks ds M Q E → b__law_marks (fEnds Q E) (start2 n__law_marks ds) M := by
  rintro ds M Q E ⟨a, rfl, f, n, o, rfl, hn, hf, hF, hq⟩
  simp only [b__law_marks, start2, n__law_marks]
  simp
  intro p hp
  have fp : f ≠ p := m_ne hf hp
  refine ⟨_, _, rfl, f, [.str "a", .str "ab", .str "ab", .str "abc", .str "abcdefgh"], n, o, rfl, ?_, ?_, ?_, by decide, by decide, by omega, by rw [up_ne fp]; exact hf, hF, ?_⟩
  · exact lenT_lst up_same
  · exact seqT_lst up_same
  · intro e; cases e; exact fp rfl
  intro r o1 hr hF1
  have L : Le (up M f o1) (up (up M p (.lst [.str "a", .str "ab", .str "ab", .str "abc", .str "abcdefgh"])) f o1) := (Le.new hp).up
  simp at hr
  rcases hr with h | h | h | h <;> subst h
  · exact Fg.le L (hq _ _ (.inl rfl) hF1)
  · exact Fg.le L (hq _ _ (.inr (.inl rfl)) hF1)
  · exact Fg.le L (hq _ _ (.inr (.inr (.inl rfl))) hF1)
  · exact Fg.le L (hq _ _ (.inr (.inr (.inr rfl))) hF1)
/-- a document is drawn with as many nodes as most, at the most -/
def sp__law_document : Sp2 := A2 fun a b M Q _ => ∃ (f : Addr) (m n : Nat) (o : MO), a = .loc f ∧ b = .int m ∧ m ≤ 1000 ∧ n ≤ 100000000 ∧ M f = some o ∧ FeedO n o ∧ ∀ (d : Doc) o', Val d → d.length ≤ m → FeedO (n + 5000) o' → Q (docT d) (up M f o')
def n__law_document : List Str := "feed" :: "most" :: "marks" :: "many" :: "way" :: "got" :: "depth" :: "turn" :: []
def b__law_document : TS2 := (sSq (sPr3 2 3 4 (aCons (eCall sp__law_marks [] (aCons (eVar 0) aNil)) (aCons (eCall sp__law_draw [] (aCons (eVar 0) (aCons (eOp rAdd2 (eVar 1) (eC (.int 1))) aNil))) (aCons (eCall sp__law_draw [] (aCons (eVar 0) (aCons (eC (.int 6)) aNil))) aNil))))
  (sSq (sPr 5 6 (aCons (eLst aNil) (aCons (eUn rNeg2 (eC (.int 1))) aNil)))
  (sSq (sFo (iRg1 (aCons (eVar 3) aNil)) (gN 7) (sSq (sIf (tCm (eOp (rEqG id) (eVar 4) (eC (.int 0)))) (sAs (eIf (tCm (eOp (rEqG id) (eVar 7) (eC (.int 0)))) (eC (.int 0)) (eC (.int 1))) (gN 6)) (sIf (tCm (eOp (rEqG id) (eVar 4) (eC (.int 1)))) (sAs (eIf (tCm (eOp rGtI (eCall sp__law_draw [] (aCons (eVar 0) (aCons (eC (.int 9)) aNil))) (eC (.int 0)))) (eOp rAdd2 (eVar 6) (eC (.int 1))) (eCall sp__law_draw [] (aCons (eVar 0) (aCons (eOp rAdd2 (eVar 6) (eC (.int 2))) aNil)))) (gN 6)) (sAs (eB rMax2 (aCons (eC (.int 0)) (aCons (eB rMin2 (aCons (eOp rAdd2 (eVar 6) (eC (.int 1))) (aCons (eCall sp__law_one [] (aCons (eVar 0) (aCons (eLst (aCons (eOp rAdd2 (eVar 6) (eC (.int 1))) (aCons (eOp rAdd2 (eVar 6) (eC (.int 1))) (aCons (eVar 6) (aCons (eVar 6) (aCons (eOp rSub2 (eVar 6) (eC (.int 1))) (aCons (eC (.int 0)) (aCons (eCall sp__law_draw [] (aCons (eVar 0) (aCons (eOp rAdd2 (eVar 6) (eC (.int 2))) aNil))) aNil)))))))) aNil))) aNil))) aNil))) (gN 6))))
  (sDr (eM "list" rApp2 (eVar 5) (aCons (eTup (aCons (eCall sp__law_one [] (aCons (eVar 0) (aCons (eVar 2) aNil))) (aCons (eVar 6) aNil))) aNil)))))
  (sRt (eB rTuple2 (aCons (eVar 5) aNil))))))
theorem sem__law_document : ∀ ds M Q E, sp__law_document ds M Q E → b__law_document (fEnds Q E) (start2 n__law_document ds) M := by
  rintro ds M Q E ⟨a, b, rfl, f, m, n, o, rfl, rfl, hm, hn, hf, hF, hq⟩
  simp only [b__law_document, start2, n__law_document]
  simp
  refine ⟨_, rfl, f, n, o, rfl, hn, hf, hF, fun z o1 hz hF1 => ?_⟩
  simp
  refine ⟨_, _, rfl, f, _, n + 1, o1, rfl, rfl, by omega, by omega, by omega, up_same, hF1, fun k o2 k0 k1 hF2 => ?_⟩
  simp
  refine ⟨_, _, rfl, f, _, n + 1 + 1, o2, rfl, rfl, by omega, by omega, by omega, up_same, hF2, fun way o3 w0 w1 hF3 => ?_⟩
  simp
  intro g hg
  have fg : f ≠ g := by
    intro e; subst e
    rw [up_same] at hg; cases hg
  have hg2 : M g = none := by rw [up_ne (fun e => fg e.symm)] at hg; exact hg
  simp
  refine ⟨⟨by omega, by omega⟩, for_itR (fun i σ M' => ∃ (d : Doc) (x : Option Tr) (o : MO), σ = [some (.loc f), some (.int m), some (.str z), some (.int k), some (.int way), some (.loc g), some (.int ((nextD d : Int) - 1)), x] ∧
    M' f = some o ∧ FeedO (n + 3 + 3 * i) o ∧ M' g = some (.lst (d.map entT)) ∧ Vd 0 d ∧ d.length = i ∧ ∀ a o, a ≠ f → M a = some o → M' a = some o) ?_ ?_ ?_⟩
  · refine ⟨[], none, o3, rfl, ?_, hF3, up_same, trivial, rfl, fun a o ha h => ?_⟩
    · rw [up_ne fg]; exact up_same
    · have ag : a ≠ g := m_ne h hg2
      rw [up_ne ag, up_ne ha]; exact h
  · rintro i σ M' hi ⟨d, x, o, rfl, hf', hF', hg', hv, hd, hk⟩
    have hn' := nextD_le hv
    simp only [gN_7]
    have dn : 0 < i → 1 ≤ nextD d := by
      intro h
      have : d ≠ [] := by intro e; subst e; simp at hd; omega
      obtain ⟨d0, e, rfl⟩ : ∃ d0 e, d = d0 ++ [e] := ⟨d.dropLast, d.getLast this, (List.dropLast_concat_getLast this).symm⟩
      rw [nextD_snoc]; omega
    refine seq_cut (fun σ1 M1 => ∃ (j : Nat) (x : Option Tr) (o : MO), σ1 = [some (.loc f), some (.int m), some (.str z), some (.int k), some (.int way), some (.loc g), some (.int j), x] ∧ j ≤ nextD d ∧
      M1 f = some o ∧ FeedO (n + 3 + 3 * i + 2) o ∧ M1 g = some (.lst (d.map entT)) ∧ ∀ a o, a ≠ f → M a = some o → M1 a = some o) (fun NX hN => ?_) ?_
    · rcases Decidable.em (way = 0) with rfl | w0'
      · simp
        by_cases i0 : i = 0
        · simp [i0]
          exact hN _ _ ⟨0, _, o, rfl, by omega, hf', hF'.mono (by omega), hg', hk⟩
        · simp [i0]
          exact hN _ _ ⟨1, _, o, rfl, dn (by omega), hf', hF'.mono (by omega), hg', hk⟩
      · rcases Decidable.em (way = 1) with rfl | w1'
        · simp
          refine ⟨_, _, rfl, f, 9, _, o, rfl, rfl, by omega, by omega, by omega, hf', hF', fun r o1 r0 r1 hF1 => ?_⟩
          have fr : ∀ a o, a ≠ f → M a = some o → up M' f o1 a = some o := fun a o ha h => by rw [up_ne ha]; exact hk a o ha h
          have gg : up M' f o1 g = some (.lst (d.map entT)) := by rw [up_ne (fun e => fg e.symm)]; exact hg'
          by_cases r2 : 0 < r
          · simp [r2]
            exact hN _ _ ⟨nextD d, _, o1, rfl, by omega, up_same, hF1.mono (by omega), gg, fr⟩
          · simp [r2]
            refine ⟨_, _, rfl, f, _, _, o1, rfl, rfl, by omega, by omega, by omega, up_same, hF1, fun r' o2 r0' r1' hF2 => ?_⟩
            simp
            obtain ⟨j, rfl⟩ : ∃ j : Nat, r' = (j : Int) := ⟨r'.toNat, by omega⟩
            exact hN _ _ ⟨j, _, o2, rfl, by omega, up_same, hF2.mono (by omega), by rw [up_ne (fun e => fg e.symm)]; exact hg', fun a o ha h => by rw [up_ne ha]; exact hk a o ha h⟩
        · simp [w0', w1']
          refine ⟨_, _, rfl, f, _, _, o, rfl, rfl, by omega, by omega, by omega, hf', hF', fun r o1 r0 r1 hF1 => ?_⟩
          simp
          intro q hq1
          have fq : f ≠ q := m_ne up_same hq1
          have gq : g ≠ q := m_ne (o := .lst (d.map entT)) (by rw [up_ne (fun e => fg e.symm)]; exact hg') hq1
          refine ⟨_, _, rfl, f, _, _, o1, rfl, lenT_lst up_same, seqT_lst up_same, ?_, by simp, by simp, ?_, by rw [up_ne fq]; exact up_same, hF1, fun s o2 hs hF2 => ?_⟩
          · intro e; cases e; exact fq rfl
          · omega
          obtain ⟨v, rfl⟩ : ∃ v, s = .int v := by
            simp at hs
            rcases hs with h | h | h | h | h <;> exact ⟨_, h⟩
          simp
          obtain ⟨j, hj, hj2⟩ : ∃ j : Nat, (if 0 < (if v < (nextD d : Int) then v else (nextD d : Int)) then (if v < (nextD d : Int) then v else (nextD d : Int)) else 0) = (j : Int) ∧ j ≤ nextD d := by
            refine ⟨(if 0 < (if v < (nextD d : Int) then v else (nextD d : Int)) then (if v < (nextD d : Int) then v else (nextD d : Int)) else 0).toNat, ?_, ?_⟩
            · split <;> split <;> omega
            · split <;> split <;> omega
          rw [hj]
          refine hN _ _ ⟨j, _, o2, rfl, hj2, up_same, hF2.mono (by omega), ?_, fun a o ha h => ?_⟩
          · rw [up_ne (fun e => fg e.symm), up_ne gq, up_ne (fun e => fg e.symm)]; exact hg'
          · have aq : a ≠ q := m_ne (o := o) (by rw [up_ne ha]; exact hk a o ha h) hq1
            rw [up_ne ha, up_ne aq, up_ne ha]; exact hk a o ha h
    · rintro σ1 M1 ⟨j, x, o, rfl, hj, hf1, hF1, hg1, hk1⟩
      obtain ⟨z1, z2, z3⟩ := mkW_len hz
      simp [hg1]
      refine ⟨_, _, rfl, f, (z.cps.toList.map fun k => Tr.str ⟨#[k]⟩), _, o, rfl, ?_, rfl, (fun e => nomatch e), by rw [List.length_map]; omega, by rw [List.length_map]; omega, by omega, hf1, hF1, fun r o1 hr hF2 => ?_⟩
      · rw [lenT_str' (small_line (by omega)), List.length_map, z3]
      obtain ⟨mk, rfl, hmk⟩ := mkW_mem hz r hr
      simp [up_ne (fun e => fg e.symm : g ≠ f), hg1]
      refine ⟨small_lt (by omega), d ++ [(mk, j)], ?_, ?_⟩
      · rw [nextD_snoc]; simp
      · refine ⟨o1, by rw [up_ne fg]; exact up_same, hF2.mono (by omega), by simp [entT], Val.snoc hv hmk hj, by simp [hd], fun a o ha h => ?_⟩
        by_cases ag : a = g
        · subst ag
          rw [hg2] at h; cases h
        · rw [up_ne ag, up_ne ha]; exact hk1 a o ha h
  · rintro σ M' ⟨d, x, o, rfl, hf', hF', hg', hv, hd, hk⟩
    simp [hg']
    refine Fg.le (M := up M f o) (fun a u e => ?_) (hq d o ⟨hv, by omega⟩ (by omega) (hF'.mono (by omega)))
    by_cases c : a = f
    · subst c
      rw [up_same] at e
      rw [hf', ← e]
    · rw [up_ne c] at e
      exact hk a u c e
end T

/-! Z: machines drawn. -/
namespace T
open PySem PySem.Spec PyProof.Rows L2
def Kf (f : Addr) (M M' : Ms) : Prop := ∀ a u, a ≠ f → M a = some u → M' a = some u
theorem Kf.refl {f : Addr} {M : Ms} : Kf f M M := fun _ _ _ h => h
theorem Kf.trans {f : Addr} {M M1 M2 : Ms} (a : Kf f M M1) (b : Kf f M1 M2) : Kf f M M2 := fun x u hx h => b x u hx (a x u hx h)
theorem Le.kf {f : Addr} {M M' : Ms} (l : Le M M') : Kf f M M' := fun a u _ h => l a u h
theorem Kf.feed {f : Addr} {M : Ms} {o : MO} : Kf f M (up M f o) := fun a u ha h => by rw [up_ne ha]; exact h
theorem Kf.le {f : Addr} {M M' : Ms} {o : MO} (k : Kf f M M') (h : M' f = some o) : Le (up M f o) M' := fun a u e => by
  by_cases c : a = f
  · subst c; rw [up_same] at e; rw [h, ← e]
  · rw [up_ne c] at e; exact k a u c e
theorem erase_map {α β : Type} {f : α → β} : ∀ {l : List α} {k : Nat}, (l.map f).eraseIdx k = (l.eraseIdx k).map f
  | [], _ => rfl
  | _ :: _, 0 => rfl
  | x :: r, k + 1 => by
    show f x :: (r.map f).eraseIdx k = f x :: (r.eraseIdx k).map f
    rw [erase_map]
theorem erase_perm {α : Type} : ∀ {l : List α} {k : Nat} (h : k < l.length), (l[k] :: l.eraseIdx k).Perm l
  | _ :: _, 0, _ => List.Perm.refl _
  | x :: r, k + 1, h => by
    have hk : k < r.length := by simpa using h
    have := erase_perm (l := r) (k := k) hk
    show (r[k]'hk :: x :: r.eraseIdx k).Perm (x :: r)
    exact (List.Perm.swap x (r[k]'hk) _).trans (this.cons x)
def sp__law_mixed : Sp2 := A2 fun a b M Q _ => ∃ (f : Addr) (n : Nat) (o : MO), a = .loc f ∧ b = .str "pqrstuvwxyz" ∧ n ≤ 100000000 ∧ M f = some o ∧ FeedO n o ∧
  ∀ M' g o' (l : List Nat), Kf f M M' → M' f = some o' → FeedO (n + 11) o' → M g = none → M' g = some (.lst (l.map chT1)) → l.Perm nmC → Q (.loc g) M'
def n__law_mixed : List Str := "feed" :: "things" :: "pool" :: "got" :: "turn" :: []
def b__law_mixed_1 : TS2 := (sDr (eM "list" rApp2 (eVar 3) (aCons (eM "list" rPopI (eVar 2) (aCons (eCall sp__law_draw [] (aCons (eVar 0) (aCons (eB rLen2 (aCons (eVar 2) aNil)) aNil))) aNil)) aNil)))
def b__law_mixed_2 : TS2 := (sSq (sFo (iRg1 (aCons (eB rLen2 (aCons (eVar 1) aNil)) aNil)) (gN 4) b__law_mixed_1)
  (sRt (eVar 3)))
def b__law_mixed : TS2 := (sSq (sPr 2 3 (aCons (eB rList3 (aCons (eVar 1) aNil)) (aCons (eLst aNil) aNil)))
  b__law_mixed_2)
theorem sem__law_mixed : ∀ ds M Q E, sp__law_mixed ds M Q E → b__law_mixed (fEnds Q E) (start2 n__law_mixed ds) M := by
  rintro ds M Q E ⟨a, b, rfl, f, n, o, rfl, rfl, hn, hf, hF, hq⟩
  have lz : ("pqrstuvwxyz" : Str).length = 11 := by decide
  have hz : ("pqrstuvwxyz" : Str).length ≤ sizeLine := by rw [lz]; exact small_line (by decide)
  have ec : chrsT "pqrstuvwxyz" = nmC.map chT1 := by
    have e2 : ("pqrstuvwxyz" : Str).cps.toList = nmC := by decide
    unfold chrsT
    rw [e2]; rfl
  simp only [b__law_mixed, start2, n__law_mixed]
  simp [hz, ec]
  intro p hp
  have ep : up M p (.lst (nmC.map chT1)) p = some (.lst (nmC.map chT1)) := up_same
  have L1 : Le M (up M p (.lst (nmC.map chT1))) := Le.new hp
  have fp : f ≠ p := m_ne hf hp
  have hf1 := L1 _ _ hf
  generalize up M p (.lst (nmC.map chT1)) = M1 at ep L1 hf1
  intro g hg
  have gp : g ≠ p := m_ne' ep hg
  have hMg : M g = none := L1.none hg
  have fg : f ≠ g := m_ne hf1 hg
  simp only [b__law_mixed_2]
  simp [↓kL_str hz, lz]
  have ep2 : up M1 g (.lst []) p = some (.lst (nmC.map chT1)) := by rw [up_ne gp.symm]; exact ep
  have eg2 : up M1 g (.lst []) g = some (.lst (([] : List Nat).map chT1)) := up_same
  have hf2 : up M1 g (.lst []) f = some o := by rw [up_ne fg]; exact hf1
  have K2 : Kf f M (up M1 g (.lst [])) := (L1.trans (Le.new hg)).kf
  generalize up M1 g (.lst []) = M2 at ep2 eg2 hf2 K2
  refine ⟨rg_small (by decide) (by decide), for_itR (fun i σ M' => ∃ (pool got : List Nat) (o' : MO) (z : Option Tr), σ = [some (.loc f), some (.str "pqrstuvwxyz"), some (.loc p), some (.loc g), z] ∧ Kf f M M' ∧ M' f = some o' ∧ FeedO (n + i) o' ∧ M' p = some (.lst (pool.map chT1)) ∧ M' g = some (.lst (got.map chT1)) ∧ pool.length = 11 - i ∧ (got ++ pool).Perm nmC) ⟨nmC, [], o, none, rfl, K2, hf2, hF, ep2, eg2, rfl, List.Perm.refl _⟩ ?_ ?_⟩
  · rintro i σ M' hi ⟨pool, got, o1, z, rfl, K, hf1', hF1, ep1, eg1, hl, hperm⟩
    have hi : i < 11 := hi
    simp
    simp only [b__law_mixed_1]
    simp [ep1, eg1]
    refine ⟨_, _, rfl, f, pool.length, n + i, o1, rfl, rfl, by omega, by omega, by omega, hf1', hF1, fun r o2 h1 h2 hF2 => ?_⟩
    obtain ⟨k, rfl⟩ : ∃ k : Nat, r = k := ⟨r.toNat, by omega⟩
    have hk : k < pool.length := by omega
    have ep3 : up M' f o2 p = some (.lst (pool.map chT1)) := by rw [up_ne fp.symm]; exact ep1
    refine popI_of (fx := .mk) ⟨_, k, chT1 pool[k], ep3, rfl, by rw [List.length_map]; exact small_line (by omega), by simp [hk], ?_⟩
    have pg : g ≠ p := gp
    have eg4 : up (up M' f o2) p (.lst ((pool.map chT1).eraseIdx k)) g = some (.lst (got.map chT1)) := by rw [up_ne gp, up_ne fg.symm]; exact eg1
    have hgl : got.length = i := by
      have := hperm.length_eq
      rw [List.length_append, hl] at this
      have h11 : nmC.length = 11 := rfl
      omega
    have hlt : got.length < sizeLine := small_lt (by omega)
    simp [eg4, hlt]
    refine ⟨fun a u h1 h2 => ?_, pool.eraseIdx k, got ++ [pool[k]], o2, ?_, hF2, ?_, ?_, ?_, ?_⟩
    · rw [up_ne (m_ne h2 hMg), up_ne (m_ne h2 hp), up_ne h1]; exact K a u h1 h2
    · rw [up_ne fg, up_ne fp, up_same]
    · rw [up_ne gp.symm, up_same, erase_map]
    · simp
    · rw [List.length_eraseIdx, if_pos hk]; omega
    · refine List.Perm.trans ?_ hperm
      rw [List.append_assoc]
      refine List.Perm.append_left got ?_
      exact (erase_perm hk)
  · rintro σ M' ⟨pool, got, o1, z, rfl, K, hf1', hF1, ep1, eg1, hl, hperm⟩
    simp
    have e0 : pool = [] := List.eq_nil_of_length_eq_zero (by rw [hl]; rfl)
    subst e0
    rw [List.append_nil] at hperm
    exact Fg.same (hq M' g o1 got K hf1' hF1 hMg eg1 hperm)
def sp__law_names : Sp2 := A2 fun a b M Q _ => ∃ (f : Addr) (m n : Nat) (o : MO), a = .loc f ∧ b = .int m ∧ m ≤ 5 ∧ n ≤ 10000000 ∧ M f = some o ∧ FeedO n o ∧
  ∀ l o', NmOk l → l.length = m → FeedO (n + 11) o' → Q (nmT l) (up M f o')
def n__law_names : List Str := "feed" :: "many" :: []
def b__law_names : TS2 := (sRt (eB rTuple2 (aCons (eB rSort2 (aCons (eSl rSl2 (eCall sp__law_mixed [] (aCons (eVar 0) (aCons (eC (.str "pqrstuvwxyz")) aNil))) oNo (oPart (eVar 1))) aNil)) aNil)))
theorem key_str (c : Nat) : PySem.W.keyToks (toP (chT1 c)) = PySem.W.keyToks (PyData.str (chS c)) := rfl
theorem le_str {x y : Nat} : PySem.W.dataLe false toP (chT1 x) (chT1 y) = decide (x ≤ y) := by
  show (!(decide ([y] < [x]) || (!decide ([x] < [y]) && false))) = decide (x ≤ y)
  by_cases h : y < x
  · have h1 : [y] < [x] := List.Lex.rel h
    have h2 : ¬ x ≤ y := by omega
    simp [h1, h2]
  · have h1 : ¬ [y] < [x] := by
      intro h3
      cases h3 with
      | rel h3 => exact h h3
      | cons h3 => cases h3
    have h2 : x ≤ y := by omega
    simp [h1, h2]
theorem sem__law_names : ∀ ds M Q E, sp__law_names ds M Q E → b__law_names (fEnds Q E) (start2 n__law_names ds) M := by
  rintro ds M Q E ⟨a, b, rfl, f, m, n, o, rfl, rfl, hm, hn, hf, hF, hq⟩
  simp only [b__law_names, start2, n__law_names]
  simp
  refine ⟨_, _, rfl, f, n, o, rfl, rfl, by omega, hf, hF, fun M' g o1 l K hf1 hF1 hg eg hp => ?_⟩
  have e11 : l.length = 11 := by rw [hp.length_eq]; rfl
  simp [eg, cutT_hi]
  intro q hq1
  have hml : (l.take m).map chT1 = (l.map chT1).take m := by rw [List.map_take]
  have hpure : ∀ e ∈ (l.map chT1).take m, ∃ c, e = chT1 c ∧ c ∈ l.take m := by
    intro e he
    rw [← hml] at he
    obtain ⟨c, hc, rfl⟩ := List.mem_map.mp he
    exact ⟨c, rfl, hc⟩
  refine ⟨(l.map chT1).take m, seqT_lst up_same, (fun _ e => nomatch e), ?_, ?_, ?_, ?_, ?_, ?_⟩
  · intro e he
    obtain ⟨c, rfl, _⟩ := hpure e he
    rfl
  · intro d hd d' hd'
    obtain ⟨e, he, rfl⟩ := List.mem_map.mp hd
    obtain ⟨e', he', rfl⟩ := List.mem_map.mp hd'
    obtain ⟨c, rfl, _⟩ := hpure e he
    obtain ⟨c', rfl, _⟩ := hpure e' he'
    rfl
  · refine .inr fun d hd => ?_
    obtain ⟨e, he, rfl⟩ := List.mem_map.mp hd
    obtain ⟨c, rfl, _⟩ := hpure e he
    exact ⟨(fun e => nomatch e), fun xs e => nomatch e⟩
  · intro e he
    obtain ⟨c, rfl, _⟩ := hpure e he
    exact Nat.zero_le _
  · rw [List.length_take, List.length_map]; exact small_line (by omega)
  · intro t ht
    have es : ((l.map chT1).take m).mergeSort (PySem.W.dataLe false toP) = ((l.take m).mergeSort (fun x y => decide (x ≤ y))).map chT1 := by
      rw [← hml]
      symm
      exact List.map_mergeSort (fun a _ b _ => le_str.symm)
    rw [es]
    simp [up_same]
    have P := List.mergeSort_perm (l.take m) (fun x y => decide (x ≤ y))
    have hle : ((l.take m).mergeSort fun x y => decide (x ≤ y)).Pairwise fun x y => decide (x ≤ y) = true := List.pairwise_mergeSort (fun a b c h1 h2 => by simp at *; omega) (fun a b => by simp; omega) _
    have hnd : ((l.take m).mergeSort fun x y => decide (x ≤ y)).Nodup := P.nodup_iff.mpr ((hp.nodup_iff.mpr (by decide)).sublist (List.take_sublist m l))
    have hlt : ((l.take m).mergeSort fun x y => decide (x ≤ y)).Pairwise (· < ·) := by
      refine (hle.and hnd).imp fun {a b} h => ?_
      have h1 : a ≤ b := by simpa using h.1
      have h2 : a ≠ b := h.2
      show a < b
      omega
    have hlen : ((l.take m).mergeSort fun x y => decide (x ≤ y)).length = m := by rw [P.length_eq, List.length_take]; omega
    have ok : NmOk ((l.take m).mergeSort fun x y => decide (x ≤ y)) := ⟨by omega, hlt, fun c hc => hp.mem_iff.mp (List.mem_of_mem_take (P.mem_iff.mp hc))⟩
    refine Fg.le ?_ (hq _ o1 ok hlen hF1)
    exact (Kf.le K hf1).trans ((Le.new hq1).trans (Le.new ht))
def sp__law_lays : Sp2 := A1 fun a M Q _ => ∃ l, a = nmT l ∧ l.length ≤ 5 ∧ Q (.int ((2 ^ l.length : Nat) : Int)) M
def n__law_lays : List Str := "names" :: []
def b__law_lays : TS2 := (sRt (eOp rIx2 (eLst (aCons (eC (.int 1)) (aCons (eC (.int 2)) (aCons (eC (.int 4)) (aCons (eC (.int 8)) (aCons (eC (.int 16)) (aCons (eC (.int 32)) aNil))))))) (eB rLen2 (aCons (eVar 0) aNil))))
theorem sem__law_lays : ∀ ds M Q E, sp__law_lays ds M Q E → b__law_lays (fEnds Q E) (start2 n__law_lays ds) M := by
  rintro ds M Q E ⟨a, rfl, l, rfl, h, hq⟩
  have l6 : 6 ≤ sizeLine := small_line (by decide)
  simp only [b__law_lays, start2, n__law_lays, nmT]
  simp [l6]
  intro p hp
  have e : ∀ k, k ≤ 5 → [Tr.int 1, .int 2, .int 4, .int 8, .int 16, .int 32][k]? = some (.int ((2 ^ k : Nat) : Int)) := by
    intro k hk
    rcases k with _ | _ | _ | _ | _ | _ | k
    all_goals first | rfl | omega
  simp [up_same, ↓kAt_get (e _ h)]
  have := Fg.le (Le.new (o := .lst [.int 1, .int 2, .int 4, .int 8, .int 16, .int 32]) hp) hq
  exact this
end T

/-! Z: comprehensions that draw. -/
namespace T
open PySem PySem.Spec PyProof.Rows L2
section
variable {g : TG2} {t : TT2} {te : TE2} {vs : List Nat} {σ : St2} {M1 : Ms} {Q : Q2} {f : Addr} {o : MO} {N c : Nat} {P : Nat → Tr → Prop}
/-- what holds behind i turns -/
def FdV (P : Nat → Tr → Prop) (f p : Addr) (M1 : Ms) (N c i : Nat) (M : Ms) : Prop := ∃ ys o', M p = some (.lst ys) ∧ ys.length = i ∧ (∀ j y, ys[j]? = some y → P j y) ∧ Kf f M1 M ∧ M f = some o' ∧ FeedO (N + c * i) o'
theorem FdV.step {p : Addr} {i : Nat} {M M' : Ms} {o' : MO} {y : Tr} (hp : M1 p = none) (hf : M1 f = some o) (h : FdV P f p M1 N c i M) (hi : i < 100000) (hy : P i y) (k : Kf f M M') (hf' : M' f = some o') (hF : FeedO (N + c * (i + 1)) o') :
    ∃ acc, M' p = some (.lst acc) ∧ acc.length < sizeLine ∧ FdV P f p M1 N c (i + 1) (up M' p (.lst (acc ++ [y]))) := by
  obtain ⟨ys, o1, e1, e2, e3, e4, e5, e6⟩ := h
  have fp : f ≠ p := m_ne hf hp
  refine ⟨ys, k p _ fp.symm e1, by rw [sizeLine_eq]; omega, ys ++ [y], o', up_same, by simp [e2], ?_, ?_, by rw [up_ne fp]; exact hf', hF⟩
  · intro j z hz
    by_cases c : j < ys.length
    · rw [List.getElem?_append_left c] at hz; exact e3 j z hz
    · rw [List.getElem?_append_right (by omega)] at hz
      have : j - ys.length = 0 := by
        cases q : j - ys.length with
        | zero => rfl
        | succ n => rw [q] at hz; simp at hz
      rw [this] at hz
      have hz : y = z := by simpa using hz
      have : j = i := by omega
      rw [← hz, this]; exact hy
  · intro a u h1 h2
    rw [up_ne (m_ne h2 hp)]
    exact k a u h1 (e4 a u h1 h2)
theorem lc_fdL {ds : List Tr} {ok : Ms → Prop} {fx : Fx (itL ds ok, g, t, te, σ, Q)} (hf : M1 f = some o) (hF : FeedO N o) (hn : ds.length ≤ 100000) (hok : ∀ M, Kf f M1 M → ok M)
    (hs : ∀ (i : Nat) d M o1 (KY : Tr → Ms → Prop) (KN : Ms → Prop), ds[i]? = some d → Kf f M1 M → M f = some o1 → FeedO (N + c * i) o1 → (∀ y M' o', P i y → Kf f M M' → M' f = some o' → FeedO (N + c * (i + 1)) o' → KY y M') →
      g d (wipe2 σ vs) M fun σ2 M2 => t σ2 M2 (fun b M3 => if b = true then te σ2 M3 KY X0 else KN M3) X0)
    (hd : ∀ p M' o' ys, M1 p = none → Kf f M1 M' → M' f = some o' → FeedO (N + c * ds.length) o' → M' p = some (.lst ys) → ys.length = ds.length → (∀ j y, ys[j]? = some y → P j y) → Q (.loc p) M') :
    LcS (itL ds ok) g t te vs σ M1 Q fx := by
  intro p hp
  have fp : f ≠ p := m_ne hf hp
  refine lc_itL (FdV P f p M1 N c) ⟨[], o, up_same, rfl, (fun j y h => by simp at h), (Le.new hp).kf, by rw [up_ne fp]; exact hf, by simpa using hF⟩ (fun i M _ ⟨_, _, _, _, _, k, _⟩ => hok M k) (fun i d M hd h => ?_) (fun M ⟨ys, o', e1, e2, e3, e4, e5, e6⟩ => hd p M o' ys hp e4 e5 e6 e1 e2 e3)
  obtain ⟨ys, o1, e1, e2, e3, e4, e5, e6⟩ := id h
  have hi : i < ds.length := (List.getElem?_eq_some_iff.mp hd).1
  exact hs i d M o1 _ _ hd e4 e5 e6 fun y M' o' hy k hf' hF' => FdV.step hp hf h (by omega) hy k hf' hF'
theorem lc_fdR {lo : Int} {n : Nat} {fx : Fx (itR lo n, g, t, te, σ, Q)} (hf : M1 f = some o) (hF : FeedO N o) (hn : n ≤ 100000)
    (hs : ∀ (i : Nat) M o1 (KY : Tr → Ms → Prop) (KN : Ms → Prop), i < n → Kf f M1 M → M f = some o1 → FeedO (N + c * i) o1 → (∀ y M' o', P i y → Kf f M M' → M' f = some o' → FeedO (N + c * (i + 1)) o' → KY y M') →
      g (.int (lo + i)) (wipe2 σ vs) M fun σ2 M2 => t σ2 M2 (fun b M3 => if b = true then te σ2 M3 KY X0 else KN M3) X0)
    (hd : ∀ p M' o' ys, M1 p = none → Kf f M1 M' → M' f = some o' → FeedO (N + c * n) o' → M' p = some (.lst ys) → ys.length = n → (∀ j y, ys[j]? = some y → P j y) → Q (.loc p) M') :
    LcS (itR lo n) g t te vs σ M1 Q fx := by
  intro p hp
  have fp : f ≠ p := m_ne hf hp
  refine lc_itR (FdV P f p M1 N c) ⟨[], o, up_same, rfl, (fun j y h => by simp at h), (Le.new hp).kf, by rw [up_ne fp]; exact hf, by simpa using hF⟩ (fun i M hi h => ?_) (fun M ⟨ys, o', e1, e2, e3, e4, e5, e6⟩ => hd p M o' ys hp e4 e5 e6 e1 e2 e3)
  obtain ⟨ys, o1, e1, e2, e3, e4, e5, e6⟩ := id h
  exact hs i M o1 _ _ hi e4 e5 e6 fun y M' o' hy k hf' hF' => FdV.step hp hf h (by omega) hy k hf' hF'
/-- numbers of a range that a draw lets -/
theorem lc_fdF {n : Nat} {fx : Fx (itR 0 n, g, t, te, σ, Q)} (hf : M1 f = some o) (hF : FeedO N o) (hn : n ≤ 100000)
    (hs : ∀ (i : Nat) M o1 (KY : Tr → Ms → Prop) (KN : Ms → Prop), i < n → Kf f M1 M → M f = some o1 → FeedO (N + i) o1 → (∀ M' o', Kf f M M' → M' f = some o' → FeedO (N + (i + 1)) o' → KY (natT i) M') → (∀ M' o', Kf f M M' → M' f = some o' → FeedO (N + (i + 1)) o' → KN M') →
      g (.int (0 + (i : Int))) (wipe2 σ vs) M fun σ2 M2 => t σ2 M2 (fun b M3 => if b = true then te σ2 M3 KY X0 else KN M3) X0)
    (hd : ∀ p M' o' l, M1 p = none → Kf f M1 M' → M' f = some o' → FeedO (N + n) o' → M' p = some (.lst (natsT l)) → l.Pairwise (· < ·) → (∀ x ∈ l, x < n) → Q (.loc p) M') :
    LcS (itR 0 n) g t te vs σ M1 Q fx := by
  intro p hp
  have fp : f ≠ p := m_ne hf hp
  refine lc_itR (fun i M => ∃ l o', M p = some (.lst (natsT l)) ∧ l.Pairwise (· < ·) ∧ (∀ x ∈ l, x < i) ∧ l.length ≤ i ∧ Kf f M1 M ∧ M f = some o' ∧ FeedO (N + i) o') ⟨[], o, up_same, by simp, (fun x h => by cases h), Nat.le_refl _, (Le.new hp).kf, by rw [up_ne fp]; exact hf, hF⟩ ?_ (fun M ⟨l, o', e1, e2, e3, e7, e4, e5, e6⟩ => hd p M o' l hp e4 e5 e6 e1 e2 e3)
  rintro i M hi ⟨l, o1, e1, e2, e3, e7, e4, e5, e6⟩
  refine hs i M o1 _ _ hi e4 e5 e6 (fun M' o' k hf' hF' => ?_) fun M' o' k hf' hF' => ?_
  · refine ⟨natsT l, k p _ fp.symm e1, by rw [nats_len, sizeLine_eq]; omega, l ++ [i], o', ?_, ?_, ?_, ?_, ?_, by rw [up_ne fp]; exact hf', hF'⟩
    · rw [up_same, nats_app]
    · rw [List.pairwise_append]
      exact ⟨e2, by simp, fun x hx y hy => by simp at hy; subst hy; exact e3 x hx⟩
    · intro x hx
      rcases List.mem_append.mp hx with hx | hx
      · have := e3 x hx; omega
      · simp at hx; omega
    · simp; omega
    · intro a u h1 h2
      rw [up_ne (m_ne h2 hp)]
      exact k a u h1 (e4 a u h1 h2)
  · exact ⟨l, o', k p _ fp.symm e1, e2, fun x hx => by have := e3 x hx; omega, by omega, e4.trans k, hf', hF'⟩
end
end T

/-! Z: machines drawn. -/
namespace T
open PySem PySem.Spec PyProof.Rows L2
theorem row_of {ys : List Tr} {n b : Nat} (hl : ys.length = n) (h : ∀ (j : Nat) y, ys[j]? = some y → ∃ x : Nat, y = .int x ∧ x < b) : ∃ r : List Nat, ys = r.map natT ∧ RowOk r n b := by
  induction ys generalizing n with
  | nil => exact ⟨[], rfl, hl, fun x h => by cases h⟩
  | cons y r ih =>
    obtain ⟨x, rfl, hx⟩ := h 0 y rfl
    obtain ⟨l, rfl, h1, h2⟩ := ih (n := r.length) rfl fun j y hy => h (j + 1) y (by simpa using hy)
    refine ⟨x :: l, rfl, ?_, ?_⟩
    · rw [← hl]; simp
    · intro z hz
      rcases List.mem_cons.mp hz with rfl | hz
      · exact hx
      · exact h2 z hz
theorem rows_of {ys : List Tr} {n w b : Nat} (hl : ys.length = n) (h : ∀ (j : Nat) y, ys[j]? = some y → ∃ r, y = rowT r ∧ RowOk r w b) : ∃ ls : List (List Nat), ys = ls.map rowT ∧ ls.length = n ∧ ∀ r ∈ ls, RowOk r w b := by
  induction ys generalizing n with
  | nil => exact ⟨[], rfl, by simpa using hl, fun x h => by cases h⟩
  | cons y t ih =>
    obtain ⟨r, rfl, hr⟩ := h 0 y rfl
    obtain ⟨l, rfl, h1, h2⟩ := ih (n := t.length) rfl fun j y hy => h (j + 1) y (by simpa using hy)
    refine ⟨r :: l, rfl, ?_, ?_⟩
    · rw [← hl]; simp
    · intro z hz
      rcases List.mem_cons.mp hz with rfl | hz
      · exact hr
      · exact h2 z hz
def sp__law_machine : Sp2 := A3 fun a b c M Q _ => ∃ (f : Addr) (l : List Nat) (k n : Nat) (o : MO), a = .loc f ∧ b = nmT l ∧ c = .int k ∧ NmOk l ∧ 1 ≤ k ∧ k ≤ 8 ∧ n ≤ 10000000 ∧ M f = some o ∧ FeedO n o ∧
  ∀ m o', MacOk m → m.nm = l → FeedO (n + 2000) o' → Q (macT m) (up M f o')
def n__law_machine : List Str := "feed" :: "names" :: "most" :: "many" :: "way" :: "step" :: "goal" :: "first" :: "q" :: "begin" :: "good" :: "r" :: "mark" :: "lay" :: []
def b__law_machine_1 : TS2 := (sDr (eM "list" rApp2 (eVar 5) (aCons (eB rTuple2 (aCons (eLc (iRg1 (aCons (eVar 3) aNil)) (gN 11) tYes2 (eOp rMod2 (eB rInt2 (aCons (eOp rAdd2 (eVar 8) (eVar 11)) aNil)) (eVar 3)) [11]) aNil)) aNil)))
def b__law_machine_2 : TS2 := (sDr (eM "list" rApp2 (eVar 5) (aCons (eB rTuple2 (aCons (eLc (iRg1 (aCons (eVar 3) aNil)) (gN 11) tYes2 (eB rMax2 (aCons (eVar 8) (aCons (eVar 11) aNil))) [11]) aNil)) aNil)))
def b__law_machine_3 : TS2 := (sDr (eM "list" rApp2 (eVar 5) (aCons (eB rTuple2 (aCons (eLc (iRg1 (aCons (eVar 3) aNil)) (gN 11) tYes2 (eCall sp__law_draw [] (aCons (eVar 0) (aCons (eVar 6) aNil))) [11]) aNil)) aNil)))
def b__law_machine_4 : TS2 := (sIf (tCm (eOp (rEqG id) (eVar 4) (eC (.int 2)))) b__law_machine_2 b__law_machine_3)
def b__law_machine_5 : TS2 := (sIf (tCm (eOp (rEqG id) (eVar 4) (eC (.int 1)))) b__law_machine_1 b__law_machine_4)
def b__law_machine_6 : TS2 := (sRt (eTup (aCons (eVar 1) (aCons (eB rTuple2 (aCons (eVar 9) aNil)) (aCons (eCall sp__law_draw [] (aCons (eVar 0) (aCons (eVar 3) aNil))) (aCons (eB rTuple2 (aCons (eVar 5) aNil)) (aCons (eVar 10) aNil)))))))
def b__law_machine_7 : TS2 := (sSq (sAs (eB rTuple2 (aCons (eLc (iRg1 (aCons (eVar 3) aNil)) (gN 8) (tCm (eOp (rEqG id) (eCall sp__law_draw [] (aCons (eVar 0) (aCons (eC (.int 2)) aNil))) (eC (.int 0)))) (eVar 8) [8]) aNil)) (gN 10))
  b__law_machine_6)
def b__law_machine_8 : TS2 := (sSq (sAs (eLc (iSq (eC (.str "abcdefgh"))) (gN 12) tYes2 (eB rTuple2 (aCons (eLc (iRg1 (aCons (eCall sp__law_lays [] (aCons (eVar 1) aNil)) aNil)) (gN 13) tYes2 (eCall sp__law_draw [] (aCons (eVar 0) (aCons (eVar 7) aNil))) [13]) aNil)) [12]) (gN 9))
  b__law_machine_7)
def b__law_machine_9 : TS2 := (sSq (sFo (iRg1 (aCons (eVar 3) aNil)) (gN 8) b__law_machine_5)
  b__law_machine_8)
def b__law_machine_10 : TS2 := (sSq (sAs (eCall sp__law_one [] (aCons (eVar 0) (aCons (eLst (aCons (eVar 6) (aCons (eVar 6) (aCons (eB rMax2 (aCons (eC (.int 1)) (aCons (eOp rDiv2 (eVar 6) (eC (.int 2))) aNil))) (aCons (eC (.int 1)) aNil))))) aNil))) (gN 7))
  b__law_machine_9)
def b__law_machine_11 : TS2 := (sSq (sAs (eIf (tCm (eOp (rEqG id) (eVar 4) (eC (.int 0)))) (eB rMax2 (aCons (eC (.int 1)) (aCons (eOp rDiv2 (eVar 3) (eC (.int 2))) aNil))) (eVar 3)) (gN 6))
  b__law_machine_10)
def b__law_machine : TS2 := (sSq (sAs (eTup (aCons (eOp rAdd2 (eC (.int 1)) (eCall sp__law_draw [] (aCons (eVar 0) (aCons (eVar 2) aNil)))) (aCons (eCall sp__law_draw [] (aCons (eVar 0) (aCons (eC (.int 6)) aNil))) (aCons (eLst aNil) aNil)))) (gT 3 (gCo (gN 3) (gCo (gN 4) (gCo (gN 5) gNil2)))))
  b__law_machine_11)
theorem sem__law_machine : ∀ ds M Q E, sp__law_machine ds M Q E → b__law_machine (fEnds Q E) (start2 n__law_machine ds) M := by
  rintro ds M Q E ⟨a, b, c, rfl, f, l, k, n, o, rfl, rfl, rfl, hl, hk1, hk8, hn, hf, hF, hq0⟩
  have l3 : 3 ≤ sizeLine := small_line (by decide)
  have l4 : 4 ≤ sizeLine := small_line (by decide)
  have l5 : 5 ≤ sizeLine := small_line (by decide)
  have hn5 := hl.len
  simp only [b__law_machine, start2, n__law_machine]
  simp
  refine ⟨_, _, rfl, f, k, n, o, rfl, rfl, by omega, by omega, by omega, hf, hF, fun r o1 hr1 hr2 hF1 => ?_⟩
  obtain ⟨many', rfl⟩ : ∃ x : Nat, r = x := ⟨r.toNat, by omega⟩
  simp
  refine ⟨_, _, rfl, f, 6, n + 1, o1, rfl, rfl, by decide, by decide, by omega, up_same, hF1, fun way o2 hw1 hw2 hF2 => ?_⟩
  simp [up_up]
  intro p hp
  simp [l3]
  have hfp : f ≠ p := m_ne (M := up M f o2) up_same hp
  have hMp : M p = none := by rw [up_ne hfp.symm] at hp; exact hp
  have K1 : Kf f M (up (up M f o2) p (.lst [])) := Kf.feed.trans (Le.new hp).kf
  have hf1 : up (up M f o2) p (.lst []) f = some o2 := by rw [up_ne hfp]; exact up_same
  have ep1 : up (up M f o2) p (.lst []) p = some (.lst []) := up_same
  generalize up (up M f o2) p (.lst []) = M1 at K1 hf1 ep1
  obtain ⟨many, hmany⟩ : ∃ many : Nat, many = 1 + many' := ⟨_, rfl⟩
  have em : (1 : Int) + (many' : Int) = (many : Int) := by omega
  rw [em]
  simp only [b__law_machine_11]
  simp
  have key : ∀ goal : Nat, 1 ≤ goal → goal ≤ many → b__law_machine_10 (fEnds Q E) [some (.loc f), some (nmT l), some (.int k), some (.int many), some (.int way), some (.loc p), some (.int goal), none, none, none, none, none, none, none] M1 := by
    intro goal hg1 hg2
    simp only [b__law_machine_10]
    simp
    have hdg : (goal : Int) / 2 = ((goal / 2 : Nat) : Int) := by omega
    refine ⟨⟨by decide, by decide⟩, fun q1 hq1 => ?_⟩
    have eq1 : up M1 q1 (.lst [.int goal, .int goal, .int (if 1 < (goal : Int) / 2 then (goal : Int) / 2 else 1), .int 1]) q1 = some (.lst [.int goal, .int goal, .int (if 1 < (goal : Int) / 2 then (goal : Int) / 2 else 1), .int 1]) := up_same
    have K2 : Kf f M (up M1 q1 (.lst [.int goal, .int goal, .int (if 1 < (goal : Int) / 2 then (goal : Int) / 2 else 1), .int 1])) := K1.trans (Le.new hq1).kf
    have hf2 := Le.new (o := .lst [.int goal, .int goal, .int (if 1 < (goal : Int) / 2 then (goal : Int) / 2 else 1), .int 1]) hq1 _ _ hf1
    have ep2 := Le.new (o := .lst [.int goal, .int goal, .int (if 1 < (goal : Int) / 2 then (goal : Int) / 2 else 1), .int 1]) hq1 _ _ ep1
    have fq : f ≠ q1 := m_ne hf1 hq1
    generalize up M1 q1 (.lst [.int goal, .int goal, .int (if 1 < (goal : Int) / 2 then (goal : Int) / 2 else 1), .int 1]) = M2 at eq1 K2 hf2 ep2
    refine ⟨_, _, rfl, f, _, _, o2, rfl, lenT_lst eq1, seqT_lst eq1, (fun e => by cases e; exact fq rfl), by simp, by simp, by omega, hf2, hF2, fun r o3 hr hF3 => ?_⟩
    obtain ⟨first, rfl, hfi1, hfi2⟩ : ∃ first : Nat, r = .int first ∧ 1 ≤ first ∧ first ≤ goal := by
      simp at hr
      rcases hr with rfl | rfl | rfl
      · exact ⟨goal, rfl, hg1, Nat.le_refl _⟩
      · refine ⟨if 1 < goal / 2 then goal / 2 else 1, ?_, by split <;> omega, by split <;> omega⟩
        rw [hdg]
        congr 1
        split <;> split <;> omega
      · exact ⟨1, rfl, Nat.le_refl _, hg1⟩
    have K3 : Kf f M (up M2 f o3) := K2.trans Kf.feed
    have hf3 : up M2 f o3 f = some o3 := up_same
    have ep3 : up M2 f o3 p = some (.lst []) := by rw [up_ne hfp.symm]; exact ep2
    generalize up M2 f o3 = M3 at K3 hf3 ep3
    simp only [b__law_machine_9]
    simp
    refine ⟨rg_small (by omega) (by omega), ?_⟩
    refine for_itR (fun i σ M' => ∃ ls o' z8 z9 z10 z11 z12 z13, σ = [some (.loc f), some (nmT l), some (.int k), some (.int many), some (.int way), some (.loc p), some (.int goal), some (.int first), z8, z9, z10, z11, z12, z13] ∧ Kf f M M' ∧ M' f = some o' ∧ FeedO (n + 3 + many * i) o' ∧ M' p = some (.lst (List.map rowT ls)) ∧ ls.length = i ∧ ∀ r ∈ ls, RowOk r many many) ?_ ?_ ?_
    · exact ⟨[], o3, _, _, _, _, _, _, rfl, K3, hf3, hF3, ep3, rfl, fun r h => by cases h⟩
    · rintro i σ M4 hi ⟨ls, o4, z8, z9, z10, z11, z12, z13, rfl, K4, hf4, hF4, ep4, hls, hrows⟩
      simp
      simp only [b__law_machine_5]
      have fin : ∀ (M5 : Ms) (o5 : MO) (ys : List Tr) (z8 z9 z10 z11 z12 z13 : Option Tr) (nx : St2 → Ms → Prop), (∀ σ M', (∃ ls o' z8 z9 z10 z11 z12 z13, σ = [some (.loc f), some (nmT l), some (.int k), some (.int many), some (.int way), some (.loc p), some (.int goal), some (.int first), z8, z9, z10, z11, z12, z13] ∧ Kf f M M' ∧ M' f = some o' ∧ FeedO (n + 3 + many * (i + 1)) o' ∧ M' p = some (.lst (List.map rowT ls)) ∧ ls.length = i + 1 ∧ ∀ r ∈ ls, RowOk r many many) → nx σ M') → Kf f M4 M5 → M5 f = some o5 → FeedO (n + 3 + many * i + 1 * many) o5 → ys.length = many → (∀ (j : Nat) y, ys[j]? = some y → ∃ x : Nat, y = .int x ∧ x < many) →
          ∃ ds, M5 p = some (.lst ds) ∧ ds.length < sizeLine ∧ nx [some (.loc f), some (nmT l), some (.int k), some (.int many), some (.int way), some (.loc p), some (.int goal), some (.int first), z8, z9, z10, z11, z12, z13] (up M5 p (.lst (ds ++ [.tup ys]))) := by
        intro M5 o5 ys z8 z9 z10 z11 z12 z13 nx hx K5 hf5 hF5 hl5 hy5
        obtain ⟨r, rfl, hr⟩ := row_of hl5 hy5
        have ep5 : M5 p = some (.lst (List.map rowT ls)) := K5 p _ hfp.symm ep4
        have hlt : ls.length < sizeLine := small_lt (by omega)
        refine ⟨_, ep5, by rw [List.length_map]; exact hlt, ?_⟩
        refine hx _ _ ⟨ls ++ [r], o5, _, _, _, _, _, _, rfl, fun a u h1 h2 => ?_, by rw [up_ne hfp]; exact hf5, ?_, ?_, by simp [hls], ?_⟩
        · rw [up_ne (m_ne h2 hMp)]; exact K5 a u h1 (K4 a u h1 h2)
        · have : n + 3 + many * i + 1 * many = n + 3 + many * (i + 1) := by rw [Nat.mul_add]; omega
          rw [← this]; exact hF5
        · rw [up_same]; simp [rowT]
        · intro x hx
          rcases List.mem_append.mp hx with hx | hx
          · exact hrows x hx
          · simp at hx; subst hx; exact hr
      refine nx_cut fun NX hN => ?_
      have fin := fun M5 o5 ys z8 z9 z10 z11 z12 z13 => fin M5 o5 ys z8 z9 z10 z11 z12 z13 NX (fun σ M' ⟨ls, o', a8, a9, a10, a11, a12, a13, h1, h2, h3, h4, h5, h6, h7⟩ => hN _ _ ⟨⟨a8, a9, a10, a11, a12, a13, h1⟩, h2, ls, o', h3, h4, h5, h6, h7⟩)
      have hr11 : Rg (many : Int) := rg_small (by omega) (by omega)
      have hmi : (0 : Int) < (many : Int) := by omega
      by_cases c1 : way = 1
      · subst c1
        simp
        simp only [b__law_machine_1]
        simp [ep4]
        refine ⟨hr11, lc_fdR (P := fun _ y => ∃ x : Nat, y = .int x ∧ x < many) (c := 1) hf4 hF4 (by omega) ?_ ?_⟩
        · intro j M5 o5 KY KN hj K5 hf5 hF5 hKY
          simp [wipe2, hmi]
          obtain ⟨x, hx⟩ : ∃ x : Nat, ((i : Int) + (j : Int)) % (many : Int) = x := ⟨(i + j) % many, by simp⟩
          rw [hx]
          refine ⟨by omega, hKY _ _ o5 ⟨x, rfl, ?_⟩ Kf.refl hf5 (hF5.mono (by omega))⟩
          have := Int.emod_lt_of_pos ((i : Int) + (j : Int)) hmi
          omega
        · intro q M5 o5 ys hq K5 hf5 hF5 e5 hl5 hy5
          obtain ⟨ds, g1, g2, g3⟩ := fin M5 o5 ys (some (.int i)) z9 z10 z11 z12 z13 K5 hf5 hF5 hl5 hy5
          simp [e5, g1, g2]
          exact g3
      · simp [c1]
        simp only [b__law_machine_4]
        simp
        by_cases c2 : way = 2
        · subst c2
          simp
          simp only [b__law_machine_2]
          simp [ep4]
          refine ⟨hr11, lc_fdR (P := fun _ y => ∃ x : Nat, y = .int x ∧ x < many) (c := 1) hf4 hF4 (by omega) ?_ ?_⟩
          · intro j M5 o5 KY KN hj K5 hf5 hF5 hKY
            simp [wipe2]
            refine hKY _ _ o5 ⟨if i < j then j else i, ?_, by split <;> omega⟩ Kf.refl hf5 (hF5.mono (by omega))
            by_cases h : i < j <;> simp [h]
          · intro q M5 o5 ys hq K5 hf5 hF5 e5 hl5 hy5
            obtain ⟨ds, g1, g2, g3⟩ := fin M5 o5 ys (some (.int i)) z9 z10 z11 z12 z13 K5 hf5 hF5 hl5 hy5
            simp [e5, g1, g2]
            exact g3
        · simp [c2]
          simp only [b__law_machine_3]
          simp [ep4]
          refine ⟨hr11, lc_fdR (P := fun _ y => ∃ x : Nat, y = .int x ∧ x < many) (c := 1) hf4 hF4 (by omega) ?_ ?_⟩
          · intro j M5 o5 KY KN hj K5 hf5 hF5 hKY
            simp [wipe2]
            have hb : many * i ≤ many * many := Nat.mul_le_mul (Nat.le_refl _) (by omega)
            have hb2 : many * many ≤ 8 * 8 := Nat.mul_le_mul (by omega) (by omega)
            refine ⟨_, _, rfl, f, goal, _, o5, rfl, rfl, by omega, by omega, by omega, hf5, hF5, fun r o6 h1 h2 hF6 => ?_⟩
            refine hKY _ _ o6 ⟨r.toNat, ?_, by omega⟩ Kf.feed up_same (hF6.mono (by omega))
            congr 1; omega
          · intro q M5 o5 ys hq K5 hf5 hF5 e5 hl5 hy5
            obtain ⟨ds, g1, g2, g3⟩ := fin M5 o5 ys (some (.int i)) z9 z10 z11 z12 z13 K5 hf5 hF5 hl5 hy5
            simp [e5, g1, g2]
            exact g3
    · rintro σ M4 ⟨ls, o4, z8, z9, z10, z11, z12, z13, rfl, K4, hf4, hF4, ep4, hls, hrows⟩
      have hmm : many * many ≤ 8 * 8 := Nat.mul_le_mul (by omega) (by omega)
      have hf4n : FeedO (n + 67) o4 := hF4.mono (by omega)
      show b__law_machine_8 (fEnds Q E) _ _
      simp only [b__law_machine_8]
      simp
      have e8 : (chrs "abcdefgh").length = 8 := by decide
      have hpw0 : 2 ^ l.length ≤ 32 := Nat.pow_le_pow_right (n := 2) (by decide) hn5
      obtain ⟨w, hw⟩ : ∃ w : Nat, 2 ^ l.length = w := ⟨_, rfl⟩
      have hpw : w ≤ 32 := by rw [← hw]; exact hpw0
      have hpi : (2 : Int) ^ l.length = (w : Int) := by rw [← hw]; simp
      clear hpw0
      have e8' : (List.map (fun k => Tr.str { cps := #[k] }) (Str.ofString "abcdefgh").cps.toList).length = 8 := e8
      refine lc_fdL (P := fun _ y => ∃ r, y = rowT r ∧ RowOk r w many) (c := 32) hf4 hf4n (by rw [e8']; decide) (fun _ _ => rfl) ?_ ?_
      · intro j dd M5 o5 KY KN hj K5 hf5 hF5 hKY
        have hj8 : j < 8 := by have := (List.getElem?_eq_some_iff.mp hj).1; rwa [e8'] at this
        simp [wipe2]
        refine ⟨_, rfl, l, rfl, hn5, ?_⟩
        simp
        rw [hpi]
        refine ⟨rg_small (by omega) (by omega), ?_⟩
        rw [Int.toNat_natCast]
        refine lc_fdR (P := fun _ y => ∃ x : Nat, y = .int x ∧ x < many) (c := 1) hf5 hF5 (by omega) ?_ ?_
        · intro i M6 o6 KY2 KN2 hi K6 hf6 hF6 hKY2
          simp [wipe2]
          refine ⟨_, _, rfl, f, first, _, o6, rfl, rfl, by omega, by omega, by omega, hf6, hF6, fun r o7 h1 h2 hF7 => ?_⟩
          refine hKY2 _ _ o7 ⟨r.toNat, ?_, by omega⟩ Kf.feed up_same (hF7.mono (by omega))
          congr 1; omega
        · intro q M6 o6 ys hq K6 hf6 hF6 e6 hl6 hy6
          simp [e6]
          obtain ⟨r, rfl, hr⟩ := row_of hl6 hy6
          exact hKY _ M6 o6 ⟨r, rfl, hr⟩ K6 hf6 (hF6.mono (by omega))
      · intro q M5 o5 ys hq K5 hf5 hF5 e5 hl5 hy5
        rw [e8'] at hl5 hF5
        obtain ⟨bs, rfl, hb1, hb2⟩ := rows_of hl5 hy5
        have ep5 := K5 p _ hfp.symm ep4
        have K5' := K4.trans K5
        simp only [b__law_machine_7]
        simp
        refine ⟨rg_small (by omega) (by omega), lc_fdF hf5 hF5 (by omega) ?_ ?_⟩
        · intro j M6 o6 KY KN hj K6 hf6 hF6 hY hN
          simp [wipe2]
          refine ⟨_, _, rfl, f, 2, _, o6, rfl, rfl, by decide, by decide, by omega, hf6, hF6, fun r o7 h1 h2 hF7 => ?_⟩
          simp
          by_cases c : r = 0
          · simp [c]
            exact hY _ o7 Kf.feed up_same (hF7.mono (by omega))
          · simp [c]
            exact hN _ o7 Kf.feed up_same (hF7.mono (by omega))
        · intro q2 M6 o6 gl hq2 K6 hf6 hF6 e6 hg1 hg2
          have ep6 := K6 p _ hfp.symm ep5
          have eq6 := K6 q _ (by intro e; subst e; rw [hf4] at hq; cases hq) e5
          simp [e6]
          simp only [b__law_machine_6]
          simp [eq6]
          refine ⟨_, _, rfl, f, many, _, o6, rfl, rfl, by omega, by omega, by omega, hf6, hF6, fun r o7 h1 h2 hF7 => ?_⟩
          have ep7 : up M6 f o7 p = some (.lst (List.map rowT ls)) := by rw [up_ne hfp.symm]; exact ep6
          simp [ep7, l5]
          have hok : MacOk ⟨l, bs, r.toNat, ls, gl⟩ := ⟨hl, hb1, by show ∀ r ∈ bs, RowOk r (2 ^ l.length) ls.length; rw [hls, hw]; exact hb2, by show 1 ≤ ls.length; omega, by show ls.length ≤ 300; omega, by show ∀ r ∈ ls, RowOk r ls.length ls.length; rw [hls]; exact hrows, by show r.toNat < ls.length; omega, hg1, by show ∀ x ∈ gl, x < ls.length; rw [hls]; exact hg2⟩
          have res := hq0 ⟨l, bs, r.toNat, ls, gl⟩ o7 hok rfl (hF7.mono (by omega))
          have et : macT ⟨l, bs, r.toNat, ls, gl⟩ = .tup [nmT l, .tup (bs.map rowT), .int r, .tup (ls.map rowT), .tup (natsT gl)] := by
            unfold macT
            have : natT r.toNat = .int r := by show Tr.int _ = _; congr 1; omega
            rw [this]; rfl
          rw [et] at res
          refine Fg.le ?_ res
          exact Kf.le ((K5'.trans K6).trans Kf.feed) up_same
  have hd : (many : Int) / 2 = ((many / 2 : Nat) : Int) := by omega
  by_cases c : way = 0
  · rw [if_pos c]
    refine ⟨⟨by decide, by decide⟩, ?_⟩
    have := key (if 1 < many / 2 then many / 2 else 1) (by split <;> omega) (by split <;> omega)
    have e : (if (1 : Int) < (many : Int) / 2 then (many : Int) / 2 else 1) = (((if 1 < many / 2 then many / 2 else 1 : Nat)) : Int) := by
      rw [hd]; split <;> split <;> omega
    rw [e]
    exact this
  · rw [if_neg c]
    exact key many (by omega) (Nat.le_refl _)
end T

/-! Z: wide machines, layings, great documents. -/
namespace T
open PySem PySem.Spec PyProof.Rows L2
theorem cm_small {x y : Int} (h1 : 0 ≤ x) (h2 : x ≤ 1000000000) (h3 : 0 ≤ y) (h4 : y ≤ 1000000000) : CMulX x y := CMulX.of (Bd.lt64 h1 (by omega)) (Bd.lt64 h3 (by omega)) (by decide)
def sp__law_wide : Sp2 := A3 fun a b c M Q _ => ∃ (f : Addr) (l : List Nat) (k n : Nat) (o : MO), a = .loc f ∧ b = nmT l ∧ c = .int k ∧ NmOk l ∧ 1 ≤ k ∧ k ≤ 300 ∧ n ≤ 10000000 ∧ M f = some o ∧ FeedO n o ∧
  ∀ m o', MacOk m → m.nm = l → FeedO (n + 2000) o' → Q (macT m) (up M f o')
def n__law_wide : List Str := "feed" :: "names" :: "many" :: "a" :: "b" :: "c" :: "step" :: "begin" :: "mark" :: "q" :: "r" :: "lay" :: []
def b__law_wide_1 : TS2 := (sDr (eM "list" rApp2 (eVar 7) (aCons (eB rTuple2 (aCons (eLc (iRg1 (aCons (eCall sp__law_lays [] (aCons (eVar 1) aNil)) aNil)) (gN 11) tYes2 (eOp rMod2 (eB rInt2 (aCons (eOp rAdd2 (eOp rMul2 (eOp rAdd2 (eOp rMul2 (eVar 8) (eC (.int 32))) (eVar 11)) (eOp rAdd2 (eVar 3) (eVar 4))) (eVar 5)) aNil)) (eVar 2)) [11]) aNil)) aNil)))
def b__law_wide_2 : TS2 := (sRt (eTup (aCons (eVar 1) (aCons (eB rTuple2 (aCons (eVar 7) aNil)) (aCons (eCall sp__law_draw [] (aCons (eVar 0) (aCons (eVar 2) aNil))) (aCons (eVar 6) (aCons (eB rTuple2 (aCons (eLc (iRg1 (aCons (eVar 2) aNil)) (gN 9) (tCm (eOp (rEqG id) (eCall sp__law_draw [] (aCons (eVar 0) (aCons (eC (.int 3)) aNil))) (eC (.int 0)))) (eVar 9) [9]) aNil)) aNil)))))))
def b__law_wide_3 : TS2 := (sSq (sFo (iRg1 (aCons (eC (.int 8)) aNil)) (gN 8) b__law_wide_1)
  b__law_wide_2)
def b__law_wide_4 : TS2 := (sSq (sAs (eB rTuple2 (aCons (eLc (iRg1 (aCons (eVar 2) aNil)) (gN 9) tYes2 (eB rTuple2 (aCons (eLc (iRg1 (aCons (eVar 2) aNil)) (gN 10) tYes2 (eOp rMod2 (eB rInt2 (aCons (eOp rAdd2 (eOp rAdd2 (eOp rMul2 (eVar 9) (eVar 3)) (eOp rMul2 (eVar 10) (eVar 4))) (eVar 5)) aNil)) (eVar 2)) [10]) aNil)) [9]) aNil)) (gN 6))
  (sSq (sAs (eLst aNil) (gN 7))
  b__law_wide_3))
def b__law_wide : TS2 := (sSq (sAs (eTup (aCons (eOp rAdd2 (eC (.int 1)) (eCall sp__law_draw [] (aCons (eVar 0) (aCons (eVar 2) aNil)))) (aCons (eOp rAdd2 (eC (.int 1)) (eCall sp__law_draw [] (aCons (eVar 0) (aCons (eVar 2) aNil)))) (aCons (eCall sp__law_draw [] (aCons (eVar 0) (aCons (eVar 2) aNil))) aNil)))) (gT 3 (gCo (gN 3) (gCo (gN 4) (gCo (gN 5) gNil2)))))
  b__law_wide_4)
theorem nat_mod {x : Int} {k : Nat} (hk : 1 ≤ k) : ∃ r : Nat, x % (k : Int) = r ∧ r < k := by
  have h1 := Int.emod_nonneg x (b := (k : Int)) (by omega)
  have h2 := Int.emod_lt_of_pos x (b := (k : Int)) (by omega)
  exact ⟨(x % (k : Int)).toNat, by omega, by omega⟩
theorem sem__law_wide : ∀ ds M Q E, sp__law_wide ds M Q E → b__law_wide (fEnds Q E) (start2 n__law_wide ds) M := by
  rintro ds M Q E ⟨a, b, c, rfl, f, l, k, n, o, rfl, rfl, rfl, hl, hk1, hk3, hn, hf, hF, hq0⟩
  have l3 : 3 ≤ sizeLine := small_line (by decide)
  have l5 : 5 ≤ sizeLine := small_line (by decide)
  have hn5 := hl.len
  have hpw0 : 2 ^ l.length ≤ 32 := Nat.pow_le_pow_right (n := 2) (by decide) hn5
  obtain ⟨w, hw⟩ : ∃ w : Nat, 2 ^ l.length = w := ⟨_, rfl⟩
  have hpw : w ≤ 32 := by rw [← hw]; exact hpw0
  have hpi : (2 : Int) ^ l.length = (w : Int) := by rw [← hw]; simp
  clear hpw0
  have hki : (0 : Int) < (k : Int) := by omega
  simp only [b__law_wide, start2, n__law_wide]
  simp
  refine ⟨_, _, rfl, f, k, n, o, rfl, rfl, by omega, by omega, by omega, hf, hF, fun ra o1 hr1 hr2 hF1 => ?_⟩
  simp
  refine ⟨_, _, rfl, f, k, _, o1, rfl, rfl, by omega, by omega, by omega, up_same, hF1, fun rb o2 hr3 hr4 hF2 => ?_⟩
  simp
  refine ⟨_, _, rfl, f, k, _, o2, rfl, rfl, by omega, by omega, by omega, up_same, hF2, fun rc o3 hr5 hr6 hF3 => ?_⟩
  simp [l3, up_up]
  have K3 : Kf f M (up M f o3) := Kf.feed
  have hf3 : up M f o3 f = some o3 := up_same
  generalize up M f o3 = M3 at K3 hf3
  simp only [b__law_wide_4]
  simp
  have hrk : Rg (k : Int) := rg_small (by omega) (by omega)
  refine ⟨hrk, lc_fdR (P := fun _ y => ∃ r, y = rowT r ∧ RowOk r k k) (c := 1) hf3 hF3 (by omega) ?_ ?_⟩
  · intro i M4 o4 KY KN hi K4 hf4 hF4 hKY
    simp [wipe2]
    refine ⟨hrk, lc_fdR (P := fun _ y => ∃ x : Nat, y = .int x ∧ x < k) (c := 0) hf4 hF4 (by omega) ?_ ?_⟩
    · intro j M5 o5 KY2 KN2 hj K5 hf5 hF5 hKY2
      simp [wipe2, hki]
      obtain ⟨x, hx, hx2⟩ := nat_mod (x := (i : Int) * (1 + ra) + (j : Int) * (1 + rb) + rc) hk1
      refine ⟨cm_small (by omega) (by omega) (by omega) (by omega), cm_small (by omega) (by omega) (by omega) (by omega), by omega, ?_⟩
      rw [hx]
      exact hKY2 _ _ o5 ⟨x, rfl, hx2⟩ Kf.refl hf5 (hF5.mono (by omega))
    · intro q M5 o5 ys hq K5 hf5 hF5 e5 hl5 hy5
      simp [e5]
      obtain ⟨r, rfl, hr⟩ := row_of hl5 hy5
      exact hKY _ M5 o5 ⟨r, rfl, hr⟩ K5 hf5 (hF5.mono (by omega))
  · intro q M4 o4 ys hq K4 hf4 hF4 e4 hl4 hy4
    obtain ⟨ls, rfl, hls, hrows⟩ := rows_of hl4 hy4
    simp [e4]
    intro p hp
    have hfp : f ≠ p := m_ne hf4 hp
    have K4' := K3.trans K4
    have hMp : M p = none := by
      cases e : M p with
      | none => rfl
      | some u => rw [K4' p u hfp.symm e] at hp; cases hp
    have K5 : Kf f M (up M4 p (.lst [])) := K4'.trans (Le.new hp).kf
    have hf5 : up M4 p (.lst []) f = some o4 := by rw [up_ne hfp]; exact hf4
    have ep5 : up M4 p (.lst []) p = some (.lst (List.map rowT [])) := up_same
    generalize up M4 p (.lst []) = M5 at K5 hf5 ep5
    simp only [b__law_wide_3]
    simp
    refine ⟨rg_small (by decide) (by decide), ?_⟩
    refine for_itR (fun i σ M' => ∃ bs o' z8 z9 z10 z11, σ = [some (.loc f), some (nmT l), some (.int k), some (.int (1 + ra)), some (.int (1 + rb)), some (.int rc), some (.tup (ls.map rowT)), some (.loc p), z8, z9, z10, z11] ∧ Kf f M M' ∧ M' f = some o' ∧ FeedO (n + 3 + k) o' ∧ M' p = some (.lst (List.map rowT bs)) ∧ bs.length = i ∧ ∀ r ∈ bs, RowOk r w k) ?_ ?_ ?_
    · exact ⟨[], o4, _, _, _, _, rfl, K5, hf5, hF4.mono (by omega), ep5, rfl, fun r h => by cases h⟩
    · rintro i σ M6 hi ⟨bs, o6, z8, z9, z10, z11, rfl, K6, hf6, hF6, ep6, hbl, hbr⟩
      have hi : i < 8 := hi
      simp
      simp only [b__law_wide_1]
      simp [ep6]
      refine ⟨_, rfl, l, rfl, hn5, ?_⟩
      simp
      rw [hpi]
      refine ⟨rg_small (by omega) (by omega), ?_⟩
      rw [Int.toNat_natCast]
      refine lc_fdR (P := fun _ y => ∃ x : Nat, y = .int x ∧ x < k) (c := 0) hf6 hF6 (by omega) ?_ ?_
      · intro j M7 o7 KY KN hj K7 hf7 hF7 hKY
        simp [wipe2, hki]
        obtain ⟨x, hx, hx2⟩ := nat_mod (x := ((i : Int) * 32 + (j : Int)) * (1 + ra + (1 + rb)) + rc) hk1
        refine ⟨cm_small (by omega) (by omega) (by omega) (by omega), cm_small (by omega) (by omega) (by omega) (by omega), by omega, ?_⟩
        rw [hx]
        exact hKY _ _ o7 ⟨x, rfl, hx2⟩ Kf.refl hf7 (hF7.mono (by omega))
      · intro q M7 o7 ys hq K7 hf7 hF7 e7 hl7 hy7
        obtain ⟨r, rfl, hr⟩ := row_of hl7 hy7
        have ep7 := K7 p _ hfp.symm ep6
        have hlt : bs.length < sizeLine := small_lt (by omega)
        simp [e7, ep7, hlt]
        refine ⟨fun a u h1 h2 => ?_, bs ++ [r], o7, by rw [up_ne hfp]; exact hf7, hF7.mono (by omega), ?_, by simp [hbl], ?_⟩
        · rw [up_ne (m_ne h2 hMp)]; exact K7 a u h1 (K6 a u h1 h2)
        · simp [rowT]
        · intro x hx
          rcases List.mem_append.mp hx with hx | hx
          · exact hbr x hx
          · simp at hx; subst hx; exact hr
    · rintro σ M6 ⟨bs, o6, z8, z9, z10, z11, rfl, K6, hf6, hF6, ep6, hbl, hbr⟩
      have hbl : bs.length = 8 := hbl
      show b__law_wide_2 (fEnds Q E) _ _
      simp only [b__law_wide_2]
      simp [ep6]
      refine ⟨_, _, rfl, f, k, _, o6, rfl, rfl, by omega, by omega, by omega, hf6, hF6, fun r o7 h1 h2 hF7 => ?_⟩
      obtain ⟨top, rfl⟩ : ∃ x : Nat, r = x := ⟨r.toNat, by omega⟩
      simp
      refine ⟨hrk, lc_fdF up_same hF7 (by omega) ?_ ?_⟩
      · intro j M8 o8 KY KN hj K8 hf8 hF8 hY hN
        simp [wipe2]
        refine ⟨_, _, rfl, f, 3, _, o8, rfl, rfl, by decide, by decide, by omega, hf8, hF8, fun r o9 h1 h2 hF9 => ?_⟩
        simp
        by_cases c : r = 0
        · simp [c]
          exact hY _ o9 Kf.feed up_same (hF9.mono (by omega))
        · simp [c]
          exact hN _ o9 Kf.feed up_same (hF9.mono (by omega))
      · intro q2 M8 o8 gl hq2 K8 hf8 hF8 e8 hg1 hg2
        simp [e8, l5]
        have hok : MacOk ⟨l, bs, top, ls, gl⟩ := ⟨hl, hbl, by show ∀ r ∈ bs, RowOk r (2 ^ l.length) ls.length; rw [hls, hw]; exact hbr, by show 1 ≤ ls.length; omega, by show ls.length ≤ 300; omega, by show ∀ r ∈ ls, RowOk r ls.length ls.length; rw [hls]; exact hrows, by show top < ls.length; omega, hg1, by show ∀ x ∈ gl, x < ls.length; rw [hls]; exact hg2⟩
        have res := hq0 ⟨l, bs, top, ls, gl⟩ o8 hok rfl (hF8.mono (by omega))
        refine Fg.le ?_ res
        exact Kf.le ((K6.trans Kf.feed).trans K8) hf8
end T

/-! Z: layings and great documents drawn. -/
namespace T
open PySem PySem.Spec PyProof.Rows L2
def sp__law_laying : Sp2 := A3 fun a b c M Q _ => ∃ (f : Addr) (d : Doc) (l : List Nat) (n : Nat) (o : MO), a = .loc f ∧ b = docT d ∧ c = nmT l ∧ l.length ≤ 5 ∧ d.length ≤ 1000 ∧ n ≤ 10000000 ∧ M f = some o ∧ FeedO n o ∧
  ∀ L o', RowOk L d.length (2 ^ l.length) → FeedO (n + 3000) o' → Q (rowT L) (up M f o')
def n__law_laying : List Str := "feed" :: "document" :: "names" :: "often" :: "node" :: []
def b__law_laying_1 : TS2 := (sRt (eB rTuple2 (aCons (eLc (iSq (eVar 1)) (gN 4) tYes2 (eIf (tCm (eOp (rEqG id) (eCall sp__law_draw [] (aCons (eVar 0) (aCons (eVar 3) aNil))) (eC (.int 0)))) (eCall sp__law_draw [] (aCons (eVar 0) (aCons (eCall sp__law_lays [] (aCons (eVar 2) aNil)) aNil))) (eC (.int 0))) [4]) aNil)))
def b__law_laying : TS2 := (sSq (sAs (eCall sp__law_one [] (aCons (eVar 0) (aCons (eLst (aCons (eC (.int 1)) (aCons (eC (.int 1)) (aCons (eC (.int 3)) aNil)))) aNil))) (gN 3))
  b__law_laying_1)
theorem sem__law_laying : ∀ ds M Q E, sp__law_laying ds M Q E → b__law_laying (fEnds Q E) (start2 n__law_laying ds) M := by
  rintro ds M Q E ⟨a, b, c, rfl, f, d, l, n, o, rfl, rfl, rfl, hn5, hd, hn, hf, hF, hq0⟩
  have hpw0 : 2 ^ l.length ≤ 32 := Nat.pow_le_pow_right (n := 2) (by decide) hn5
  have hpw1 : 0 < 2 ^ l.length := Nat.two_pow_pos _
  obtain ⟨w, hw⟩ : ∃ w : Nat, 2 ^ l.length = w := ⟨_, rfl⟩
  have hpw : w ≤ 32 := by rw [← hw]; exact hpw0
  have hpw2 : 0 < w := by rw [← hw]; exact hpw1
  have hpi : (2 : Int) ^ l.length = (w : Int) := by rw [← hw]; simp
  clear hpw0 hpw1
  rw [hw] at hq0
  have l3 : 3 ≤ sizeLine := small_line (by decide)
  simp only [b__law_laying, start2, n__law_laying]
  simp [l3]
  intro q hq
  have eq1 : up M q (.lst [.int 1, .int 1, .int 3]) q = some (.lst [.int 1, .int 1, .int 3]) := up_same
  have fq : f ≠ q := m_ne hf hq
  have L1 : Le M (up M q (.lst [.int 1, .int 1, .int 3])) := Le.new hq
  have hf1 := L1 _ _ hf
  generalize up M q (.lst [.int 1, .int 1, .int 3]) = M1 at eq1 L1 hf1
  refine ⟨_, _, rfl, f, _, n, o, rfl, lenT_lst eq1, seqT_lst eq1, (fun e => by cases e; exact fq rfl), by simp, by simp, by omega, hf1, hF, fun r o1 hr hF1 => ?_⟩
  obtain ⟨often, rfl, ho1, ho2⟩ : ∃ often : Nat, r = .int often ∧ 1 ≤ often ∧ often ≤ 3 := by
    simp at hr
    rcases hr with rfl | rfl
    · exact ⟨1, rfl, by decide, by decide⟩
    · exact ⟨3, rfl, by decide, by decide⟩
  have K1 : Kf f M (up M1 f o1) := L1.kf.trans Kf.feed
  have hf2 : up M1 f o1 f = some o1 := up_same
  generalize up M1 f o1 = M2 at K1 hf2
  simp only [b__law_laying_1]
  simp [docT]
  refine lc_fdL (P := fun _ y => ∃ x : Nat, y = .int x ∧ x < w) (c := 2) hf2 hF1 (by simp; omega) (fun _ _ => rfl) ?_ ?_
  · intro i e M3 o3 KY KN he K3 hf3 hF3 hKY
    have hi : i < d.length := by have := (List.getElem?_eq_some_iff.mp he).1; simpa using this
    simp [wipe2]
    refine ⟨_, _, rfl, f, often, _, o3, rfl, rfl, by omega, by omega, by omega, hf3, hF3, fun r o4 h1 h2 hF4 => ?_⟩
    simp
    by_cases c : r = 0
    · simp [c]
      refine ⟨_, rfl, l, rfl, hn5, ?_⟩
      simp
      rw [hpi]
      refine ⟨_, _, rfl, f, w, _, o4, rfl, rfl, by omega, by omega, by omega, up_same, hF4, fun x o5 h3 h4 hF5 => ?_⟩
      rw [up_up]
      refine hKY _ _ o5 ⟨x.toNat, ?_, by omega⟩ Kf.feed up_same (hF5.mono (by omega))
      congr 1; omega
    · simp [c]
      exact hKY _ _ o4 ⟨0, rfl, hpw2⟩ Kf.feed up_same (hF4.mono (by omega))
  · intro p M3 o3 ys hp K3 hf3 hF3 e3 hl3 hy3
    rw [show (d.map entT).length = d.length from List.length_map ..] at hl3 hF3
    obtain ⟨L, rfl, hL⟩ := row_of hl3 hy3
    simp [e3]
    have res := hq0 L o3 hL (hF3.mono (by omega))
    refine Fg.le ?_ res
    exact Kf.le (K1.trans K3) hf3
def dFn (turn : Nat) : Nat → Nat → Nat
  | 0, k => k
  | 1, k => if 1 < k then 1 else k
  | 2, k => (k + 1) / 2
  | _, k => k % (turn + 1)
theorem dFn_zero {turn wn : Nat} : dFn turn wn 0 = 0 := by
  match wn with
  | 0 => rfl
  | 1 => rfl
  | 2 => rfl
  | n + 3 => show 0 % (turn + 1) = 0; simp
theorem dFn_step {turn wn k : Nat} : dFn turn wn (k + 1) ≤ dFn turn wn k + 1 := by
  match wn with
  | 0 => exact Nat.le_refl _
  | 1 => show (if 1 < k + 1 then 1 else k + 1) ≤ (if 1 < k then 1 else k) + 1; split <;> split <;> omega
  | 2 => show (k + 1 + 1) / 2 ≤ (k + 1) / 2 + 1; omega
  | n + 3 =>
    show (k + 1) % (turn + 1) ≤ k % (turn + 1) + 1
    rw [Nat.add_mod]
    have h1 := Nat.mod_le (k % (turn + 1) + 1 % (turn + 1)) (turn + 1)
    have h2 := Nat.mod_le 1 (turn + 1)
    omega
theorem dFn_le {turn wn k : Nat} : dFn turn wn k ≤ k := by
  match wn with
  | 0 => exact Nat.le_refl _
  | 1 => show (if 1 < k then 1 else k) ≤ k; split <;> omega
  | 2 => show (k + 1) / 2 ≤ k; omega
  | n + 3 => exact Nat.mod_le _ _
def sp__law_great : Sp2 := A1 fun a M Q _ => ∃ (f : Addr) (n : Nat) (o : MO), a = .loc f ∧ n ≤ 10000000 ∧ M f = some o ∧ FeedO n o ∧
  ∀ d o', Val d → 2 ≤ d.length → FeedO (n + 4) o' → Q (docT d) (up M f o')
def n__law_great : List Str := "feed" :: "many" :: "way" :: "turn" :: "marks" :: "got" :: "k" :: "depth" :: []
def b__law_great_1 : TS2 := (sDr (eM "list" rApp2 (eVar 5) (aCons (eTup (aCons (eOp rIx2 (eVar 4) (eOp rMod2 (eB rInt2 (aCons (eOp rAdd2 (eOp rMul2 (eVar 6) (eVar 6)) (eOp rMul2 (eVar 3) (eVar 6))) aNil)) (eB rLen2 (aCons (eVar 4) aNil)))) (aCons (eVar 7) aNil))) aNil)))
def b__law_great_2 : TS2 := (sSq (sAs (eOp rIx2 (eLst (aCons (eVar 6) (aCons (eB rMin2 (aCons (eVar 6) (aCons (eC (.int 1)) aNil))) (aCons (eOp rDiv2 (eOp rAdd2 (eVar 6) (eC (.int 1))) (eC (.int 2))) (aCons (eOp rMod2 (eB rInt2 (aCons (eVar 6) aNil)) (eOp rAdd2 (eVar 3) (eC (.int 1)))) aNil))))) (eVar 2)) (gN 7))
  b__law_great_1)
def b__law_great_3 : TS2 := (sSq (sFo (iRg1 (aCons (eVar 1) aNil)) (gN 6) b__law_great_2)
  (sRt (eB rTuple2 (aCons (eVar 5) aNil))))
def b__law_great : TS2 := (sSq (sAs (eTup (aCons (eCall sp__law_one [] (aCons (eVar 0) (aCons (eLst (aCons (eC (.int 1200)) (aCons (eC (.int 5000)) (aCons (eC (.int 20000)) aNil)))) aNil))) (aCons (eCall sp__law_draw [] (aCons (eVar 0) (aCons (eC (.int 4)) aNil))) (aCons (eOp rAdd2 (eC (.int 1)) (eCall sp__law_draw [] (aCons (eVar 0) (aCons (eC (.int 97)) aNil)))) (aCons (eCall sp__law_marks [] (aCons (eVar 0) aNil)) aNil))))) (gT 4 (gCo (gN 1) (gCo (gN 2) (gCo (gN 3) (gCo (gN 4) gNil2))))))
  (sSq (sAs (eLst aNil) (gN 5))
  b__law_great_3))
theorem sem__law_great : ∀ ds M Q E, sp__law_great ds M Q E → b__law_great (fEnds Q E) (start2 n__law_great ds) M := by
  rintro ds M Q E ⟨a, rfl, f, n, o, rfl, hn, hf, hF, hq0⟩
  have l3 : 3 ≤ sizeLine := small_line (by decide)
  have l4 : 4 ≤ sizeLine := small_line (by decide)
  simp only [b__law_great, start2, n__law_great]
  simp [l3]
  intro q hq
  have eq1 : up M q (.lst [.int 1200, .int 5000, .int 20000]) q = some (.lst [.int 1200, .int 5000, .int 20000]) := up_same
  have fq : f ≠ q := m_ne hf hq
  have L1 : Le M (up M q (.lst [.int 1200, .int 5000, .int 20000])) := Le.new hq
  have hf1 := L1 _ _ hf
  generalize up M q (.lst [.int 1200, .int 5000, .int 20000]) = M1 at eq1 L1 hf1
  refine ⟨_, _, rfl, f, _, n, o, rfl, lenT_lst eq1, seqT_lst eq1, (fun e => by cases e; exact fq rfl), by simp, by simp, by omega, hf1, hF, fun r o1 hr hF1 => ?_⟩
  obtain ⟨many, rfl, ho2, ho3⟩ : ∃ many : Nat, r = .int many ∧ many ≤ 20000 ∧ 2 ≤ many := by
    simp at hr
    rcases hr with rfl | rfl | rfl
    · exact ⟨1200, rfl, by decide, by decide⟩
    · exact ⟨5000, rfl, by decide, by decide⟩
    · exact ⟨20000, rfl, by decide, by decide⟩
  simp
  refine ⟨_, _, rfl, f, 4, _, o1, rfl, rfl, by decide, by decide, by omega, up_same, hF1, fun way o2 hw1 hw2 hF2 => ?_⟩
  simp
  refine ⟨_, _, rfl, f, 97, _, o2, rfl, rfl, by decide, by decide, by omega, up_same, hF2, fun rt o3 hr1 hr2 hF3 => ?_⟩
  simp
  refine ⟨_, rfl, f, _, o3, rfl, by omega, up_same, hF3, fun z o4 hz hF4 => ?_⟩
  simp [l4, up_up]
  have K1 : Kf f M (up M1 f o4) := L1.kf.trans Kf.feed
  have hf2 : up M1 f o4 f = some o4 := up_same
  generalize up M1 f o4 = M2 at K1 hf2
  obtain ⟨turn, ht⟩ : ∃ turn : Nat, (1 : Int) + rt = turn ∧ 1 ≤ turn ∧ turn ≤ 97 := ⟨(1 + rt).toNat, by omega, by omega, by omega⟩
  rw [ht.1]
  intro g hg
  have hfg : f ≠ g := m_ne hf2 hg
  have hMg : M g = none := by
    cases e : M g with
    | none => rfl
    | some u => rw [K1 g u hfg.symm e] at hg; cases hg
  have K3 : Kf f M (up M2 g (.lst [])) := K1.trans (Le.new hg).kf
  have hf3 : up M2 g (.lst []) f = some o4 := by rw [up_ne hfg]; exact hf2
  have eg3 : up M2 g (.lst []) g = some (.lst (List.map entT [])) := up_same
  generalize up M2 g (.lst []) = M3 at K3 hf3 eg3
  obtain ⟨wn, rfl⟩ : ∃ wn : Nat, way = wn := ⟨way.toNat, by omega⟩
  have hwn : wn < 4 := by omega
  obtain ⟨zl1, zl2, zl3⟩ := mkW_len hz
  have hzs : z.length ≤ sizeLine := small_line (by omega)
  simp only [b__law_great_3]
  simp
  refine ⟨rg_small (by omega) (by omega), ?_⟩
  refine for_itR (fun i σ M' => ∃ (D : Doc) (x y : Option Tr), σ = [some (.loc f), some (.int many), some (.int wn), some (.int turn), some (.str z), some (.loc g), x, y] ∧ Kf f M M' ∧ M' f = some o4 ∧ M' g = some (.lst (D.map entT)) ∧ Vd 0 D ∧ D.length = i ∧ nextD D = (if i = 0 then 0 else dFn turn wn (i - 1) + 1)) ?_ ?_ ?_
  · exact ⟨[], _, _, rfl, K3, hf3, eg3, trivial, rfl, rfl⟩
  · rintro i σ M4 hi ⟨D, x, y, rfl, K4, hf4, eg4, hD, hDl, hDn⟩
    have hi : i < many := by omega
    have hdk : dFn turn wn i ≤ nextD D := by
      rw [hDn]
      cases i with
      | zero => rw [dFn_zero]; exact Nat.zero_le _
      | succ k => rw [if_neg (by omega)]; exact dFn_step
    have hdl := @dFn_le turn wn i
    simp
    simp only [b__law_great_2]
    simp
    refine ⟨⟨by decide, by decide⟩, fun q2 hq2 => ?_⟩
    have e4 : [Tr.int (i : Int), Tr.int (if 1 < (i : Int) then 1 else (i : Int)), Tr.int (((i : Int) + 1) / 2), Tr.int ((i : Int) % ((turn : Int) + 1))][wn]? = some (.int (dFn turn wn i)) := by
      rcases wn with _ | _ | _ | _ | w
      · rfl
      · show some (Tr.int _) = some (Tr.int _)
        congr 2
        show (if 1 < (i : Int) then (1 : Int) else (i : Int)) = ((if 1 < i then 1 else i : Nat) : Int)
        by_cases h : 1 < i
        · have h' : (1 : Int) < (i : Int) := by omega
          rw [if_pos h, if_pos h']; rfl
        · have h' : ¬ (1 : Int) < (i : Int) := by omega
          rw [if_neg h, if_neg h']
      · show some (Tr.int _) = some (Tr.int _)
        congr 2
      · show some (Tr.int _) = some (Tr.int _)
        congr 2
      · omega
    have L5 : Le M4 (up M4 q2 (.lst [Tr.int (i : Int), Tr.int (if 1 < (i : Int) then 1 else (i : Int)), Tr.int (((i : Int) + 1) / 2), Tr.int ((i : Int) % ((turn : Int) + 1))])) := Le.new hq2
    simp [up_same, ↓kAt_get e4]
    have hf5 := L5 _ _ hf4
    have eg5 := L5 _ _ eg4
    generalize up M4 q2 (.lst [Tr.int (i : Int), Tr.int (if 1 < (i : Int) then 1 else (i : Int)), Tr.int (((i : Int) + 1) / 2), Tr.int ((i : Int) % ((turn : Int) + 1))]) = M5 at L5 hf5 eg5
    simp only [b__law_great_1]
    have hzp : (0 : Int) < (z.length : Int) := by omega
    simp [↓kL_str hzs, hzp, eg5]
    refine ⟨cm_small (by omega) (by omega) (by omega) (by omega), cm_small (by omega) (by omega) (by omega) (by omega), ?_⟩
    obtain ⟨k, hk, hk2⟩ := nat_mod (x := (i : Int) * (i : Int) + (turn : Int) * (i : Int)) (k := z.length) (by omega)
    have hkc : z.cps.toList[k]? = some (z.cps.toList[k]'(by omega)) := by rw [List.getElem?_eq_getElem]
    obtain ⟨mk, e1, e2⟩ := mkW_mem hz _ (List.mem_map.mpr ⟨_, List.mem_of_getElem? hkc, rfl⟩)
    refine ⟨by omega, hzs, ?_⟩
    rw [hk, kChr_get hkc]
    injection e1 with e1
    rw [e1]
    refine ⟨small_lt (by omega), fun a u h1 h2 => ?_, by rw [up_ne hfg]; exact hf5, D ++ [(mk, dFn turn wn i)], by simp [entT], Val.snoc hD e2 hdk, by simp [hDl], by rw [nextD_snoc]⟩
    rw [up_ne (m_ne h2 hMg)]
    exact L5 _ _ (K4 a u h1 h2)
  · rintro σ M4 ⟨D, x, y, rfl, K4, hf4, eg4, hD, hDl, hDn⟩
    simp [eg4]
    have res := hq0 D o4 ⟨hD, by omega⟩ (by omega) (hF4.mono (by omega))
    refine Fg.le ?_ res
    exact Kf.le K4 hf4
end T

/-! Z: the law's own run, from the last node to the first. -/
namespace T
open PySem PySem.Spec PyProof.Rows L2
def sp__law_rows : Sp2 := A1 fun a M Q _ => ∃ d, a = docT d ∧ Val d ∧ ∀ M' p (qs : List Addr), M p = none → qs.length = d.length + 1 → (∀ q ∈ qs, M q = none ∧ q ≠ p) → M' p = some (.lst (qs.map .loc)) → (∀ k q, qs[k]? = some q → M' q = some (.lst (rowI d k d.length))) → Le M M' → Q (.loc p) M'
def n__law_rows : List Str := "document" :: "rows" :: "last" :: "node" :: "mark" :: "depth" :: "row" :: []
def b__law_rows_1 : TS2 := (sSq (sDr (eM "list" rApp2 (eVar 6) (aCons (eVar 3) aNil)))
  (sAs (eVar 3) (gSb rPut2 (eVar 2) (eOp rAdd2 (eVar 5) (eC (.int 1))))))
def b__law_rows_2 : TS2 := (sSq (sAs (eOp rIx2 (eVar 1) (eOp rIx2 (eVar 2) (eVar 5))) (gN 6))
  b__law_rows_1)
def b__law_rows_3 : TS2 := (sSq (sFo (iEn (aCons (eVar 0) aNil)) (gT 2 (gCo (gN 3) (gCo (gT 2 (gCo (gN 4) (gCo (gN 5) gNil2))) gNil2))) b__law_rows_2)
  (sRt (eVar 1)))
def b__law_rows : TS2 := (sSq (sPr 1 2 (aCons (eLc (iRg1 (aCons (eOp rAdd2 (eB rLen2 (aCons (eVar 0) aNil)) (eC (.int 1))) aNil)) (gN 3) tYes2 (eLst aNil) [3]) (aCons (eOp rMul2 (eLst (aCons (eB rLen2 (aCons (eVar 0) aNil)) aNil)) (eOp rAdd2 (eB rLen2 (aCons (eVar 0) aNil)) (eC (.int 1)))) aNil)))
  b__law_rows_3)
/-- the last node of each depth along the open nodes -/
def lstA (d : Doc) (st : List Nat) (h : Nat) : Nat := match h with
  | 0 => d.length
  | h + 1 => (st[h]?).getD 0
theorem sem__law_rows : ∀ ds M Q E, sp__law_rows ds M Q E → b__law_rows (fEnds Q E) (start2 n__law_rows ds) M := by
  rintro ds M Q E ⟨a, rfl, d, rfl, hval, hq⟩
  have ⟨hv, hl⟩ := hval
  have l1 : 1 ≤ sizeLine := small_line (by decide)
  simp only [b__law_rows, start2, n__law_rows]
  have lm : (d.map entT).length = d.length := List.length_map ..
  simp [docT, lm]
  refine ⟨rg_small (by omega) (by omega), fun p hp => lc_itR (fun i M' => ∃ qs : List Addr, qs.length = i ∧ qs.Nodup ∧ (∀ q ∈ qs, M q = none ∧ q ≠ p ∧ M' q = some (.lst [])) ∧ M' p = some (.lst (qs.map .loc)) ∧ ∀ a o, M a = some o → M' a = some o) ?_ ?_ ?_⟩
  · exact ⟨[], rfl, by simp, fun q hq => by simp at hq, up_same, fun a o h => by rw [up_ne (m_ne h hp)]; exact h⟩
  · rintro i M' hi ⟨qs, h1, h2, h3, h4, h5⟩
    rw [lm] at hi
    simp [wipe2]
    intro q hq1
    have qp : q ≠ p := by intro e; subst e; rw [h4] at hq1; cases hq1
    have qn : q ∉ qs := fun h => by rw [(h3 q h).2.2] at hq1; cases hq1
    have mq : M q = none := Le.none h5 hq1
    refine ⟨qs.map .loc, by rw [up_ne (fun e => qp e.symm)]; exact h4, by rw [List.length_map, h1]; exact small_lt (by omega), qs ++ [q], by simp [h1], ?_, ?_, by rw [up_same, List.map_append]; rfl, ?_⟩
    · rw [List.nodup_append]
      exact ⟨h2, by simp, fun a ha b hb e => by rw [List.mem_singleton] at hb; subst hb; subst e; exact qn ha⟩
    · intro z hz
      rcases List.mem_append.mp hz with hz | hz
      · obtain ⟨a1, a2, a3⟩ := h3 z hz
        exact ⟨a1, a2, by rw [up_ne a2, up_ne (fun e : z = q => qn (by rw [← e]; exact hz))]; exact a3⟩
      · have e := List.mem_singleton.mp hz
        subst e
        exact ⟨mq, qp, by rw [up_ne qp, up_same]⟩
    · intro a o ha
      rw [up_ne (m_ne ha hp), up_ne (m_ne ha mq)]; exact h5 a o ha
  · rintro M1 ⟨qs, h1, h2, h3, h4, h5⟩
    have h1' : qs.length = d.length + 1 := by rw [h1, lm]
    simp
    refine ⟨l1, fun x0 hx0 => ?_⟩
    have L0 : Le M1 (up M1 x0 (.lst [.int d.length])) := Le.new hx0
    have ex0 : up M1 x0 (.lst [.int d.length]) x0 = some (.lst [.int d.length]) := up_same
    generalize up M1 x0 (.lst [.int d.length]) = M2 at L0 ex0
    simp [ex0, lm]
    refine ⟨by omega, by omega, small_line (by omega), ?_⟩
    intro g hg
    have ML : Le M M2 := fun a o h => L0 a o (h5 a o h)
    have hMg : M g = none := ML.none hg
    have h4' := L0 _ _ h4
    have gp : p ≠ g := m_ne h4' hg
    have gq : ∀ q ∈ qs, q ≠ g := fun q hq1 => m_ne (L0 _ _ (h3 q hq1).2.2) hg
    have L3 : Le M (up M2 g (.lst (List.replicate (d.length + 1) (.int d.length)))) := ML.trans (Le.new hg)
    have eg3 : up M2 g (.lst (List.replicate (d.length + 1) (.int d.length))) g = some (.lst (natsT (List.replicate (d.length + 1) d.length))) := by rw [up_same]; simp [natsT]
    have ep3 : up M2 g (.lst (List.replicate (d.length + 1) (.int d.length))) p = some (.lst (qs.map .loc)) := by rw [up_ne gp]; exact h4'
    have eq3 : ∀ q ∈ qs, up M2 g (.lst (List.replicate (d.length + 1) (.int d.length))) q = some (.lst []) := fun q hq1 => by rw [up_ne (gq q hq1)]; exact L0 _ _ (h3 q hq1).2.2
    generalize up M2 g (.lst (List.replicate (d.length + 1) (.int d.length))) = M3 at L3 eg3 ep3 eq3
    simp
    simp only [b__law_rows_3]
    simp
    refine for_itE (fun i σ M' => ∃ (st lv : List Nat) (x y z w : Option Tr), σ = [some (docT d), some (.loc p), some (.loc g), x, y, z, w] ∧ Le M M' ∧ M' g = some (.lst (natsT lv)) ∧ lv.length = d.length + 1 ∧ (∀ h, h ≤ st.length → lv[h]? = some (lstA d st h)) ∧ Path d i st ∧ st.length = pathN d i ∧ M' p = some (.lst (qs.map .loc)) ∧ (∀ k q, qs[k]? = some q → M' q = some (.lst (rowI d k i)))) ?_ ?_ ?_ ?_
    · refine ⟨[], List.replicate (d.length + 1) d.length, _, _, _, _, rfl, L3, eg3, by simp, fun h hh => ?_, ⟨fun i k e => by simp at e⟩, rfl, ep3, fun k q hk => eq3 q (List.mem_of_getElem? hk)⟩
      have : h = 0 := by simpa using hh
      subst this
      simp [lstA]
    · rintro i σ M' _ _
      rfl
    · rintro i e σ M' he ⟨st, lv, x, y, z, w, rfl, LM, eg, hlv, hl1, hP, hst, ep, erow⟩
      obtain ⟨en, hen, rfl⟩ := ent_at he
      have hi : i < d.length := (List.getElem?_eq_some_iff.mp hen).1
      have hdl := Val.dep_le hv hi
      rw [← hst] at hdl
      have hdi := Val.dep_lt hv hi
      have hsl : slotA d i = lstA d st (depA d i) := by
        have hP2 := hP.pop (depA d i)
        have hl2 : (st.take (depA d i)).length = depA d i := by rw [List.length_take]; omega
        have hpar := hP2.par hl2
        unfold slotA
        rw [hpar]
        by_cases c : depA d i = 0
        · rw [if_pos c, c]; rfl
        · rw [if_neg c, hl2]
          obtain ⟨h', hh⟩ : ∃ h', depA d i = h' + 1 := ⟨depA d i - 1, by omega⟩
          rw [hh, Nat.add_sub_cancel, List.getElem?_take, if_pos (by omega)]
          show (st[h']?).getD d.length = (st[h']?).getD 0
          rw [List.getElem?_eq_getElem (by omega)]; rfl
      have hs := slot_le hi
      have hsq : slotA d i < qs.length := by omega
      have eq0 : (qs.map Tr.loc)[slotA d i]? = some (.loc qs[slotA d i]) := by simp [hsq]
      have eqs : qs[slotA d i]? = some qs[slotA d i] := by simp [hsq]
      have eq1 := erow _ _ eqs
      have hm := List.getElem_mem hsq
      have qp := (h3 _ hm).2.1
      have rl := @rowI_len d (slotA d i) i
      have elv : (natsT lv)[depA d i]? = some (natT (slotA d i)) := nats_at (by rw [hsl]; exact hl1 _ hdl)
      simp
      simp only [b__law_rows_2]
      simp [ep, eg, ↓kAt_get elv, ↓kAt_get eq0]
      simp only [b__law_rows_1]
      have eg2 : ∀ o, up M' qs[slotA d i] o g = some (.lst (natsT lv)) := fun o => by rw [up_ne (gq _ hm).symm]; exact eg
      have e1 : (depA d i : Int) + 1 = ((depA d i + 1 : Nat) : Int) := by omega
      have hlt : depA d i + 1 < d.length + 1 := by omega
      have hrl : (rowI d (slotA d i) i).length < sizeLine := small_lt (by omega)
      simp [eq1, eg2, nats_len, hlv, hrl]
      rw [e1, kIx_nat hlt]
      have hl3 : (st.take (depA d i)).length = depA d i := by rw [List.length_take]; omega
      refine ⟨fun a o h => ?_, st.take (depA d i) ++ [i], lv.set (depA d i + 1) i, by rw [nats_set], by simp [hlv], ?_, (hP.pop _).push hl3, ?_, ?_, ?_⟩
      · rw [up_ne (m_ne h hMg), up_ne (m_ne h (h3 _ hm).1)]; exact LM a o h
      · intro h hh
        rw [List.length_append, hl3, List.length_singleton] at hh
        rw [List.getElem?_set]
        by_cases c : depA d i + 1 = h
        · subst c
          rw [if_pos rfl, if_pos (by omega)]
          show some i = some (((st.take (depA d i) ++ [i])[depA d i]?).getD 0)
          rw [List.getElem?_append_right (by omega), hl3, Nat.sub_self]; rfl
        · rw [if_neg c, hl1 h (by omega)]
          cases h with
          | zero => rfl
          | succ h' =>
            show some ((st[h']?).getD 0) = some (((st.take (depA d i) ++ [i])[h']?).getD 0)
            rw [List.getElem?_append_left (by omega), List.getElem?_take, if_pos (by omega)]
      · rw [List.length_append, hl3]; simp [pathN]
      · rw [up_ne gp, up_ne qp.symm]; exact ep
      · intro k q hk
        rw [up_ne (gq q (List.mem_of_getElem? hk)), rowI_succ]
        by_cases c : slotA d i = k
        · subst c
          have : q = qs[slotA d i] := by rw [eqs] at hk; exact (Option.some.inj hk).symm
          subst this
          rw [if_pos rfl, up_same]
        · rw [if_neg c]
          have ne : q ≠ qs[slotA d i] := by
            intro e
            subst e
            have hk' := (List.getElem?_eq_some_iff.mp hk)
            obtain ⟨hk1, hk2⟩ := hk'
            exact c ((List.getElem_inj h2).mp hk2).symm
          rw [up_ne ne]
          exact erow k q hk
    · rintro σ M' ⟨st, lv, x, y, z, w, rfl, LM, eg, hlv, hl1, hP, hst, ep, erow⟩
      simp
      rw [lm] at erow
      exact Fg.same (hq M' p qs hp h1' (fun q hq1 => ⟨(h3 q hq1).1, (h3 q hq1).2.1⟩) ep erow LM)
/-- a run's laying: a tuple, or a list -/
def LayAt (L : List Nat) (c : Tr) (M : Ms) : Prop := c = rowT L ∨ ∃ a, c = .loc a ∧ M a = some (.lst (natsT L))
theorem LayAt.le {L : List Nat} {c : Tr} {M M' : Ms} (h : LayAt L c M) (l : Le M M') : LayAt L c M' := by
  rcases h with h | ⟨a, h1, h2⟩
  · exact .inl h
  · exact .inr ⟨a, h1, l _ _ h2⟩
theorem lay_ix {L : List Nat} {c : Tr} {M : Ms} {Q : Q2} {k l : Nat} (h : LayAt L c M) (e : L[k]? = some l) (hq : Q (natT l) M) : rIx2 c (.int k) M Q := by
  rcases h with rfl | ⟨a, rfl, h2⟩
  · unfold rowT
    rw [rIx2_tup, kAt_get (natm_at e)]; exact hq
  · rw [rIx2_loc]
    simp [h2, ↓kAt_get (nats_at e)]
    exact hq
/-- numbers filled from the end -/
def fillN (f : Nat → Nat) (n i : Nat) : List Nat := (List.range n).map fun k => if n - i ≤ k then f k else 0
theorem fillN_zero {f : Nat → Nat} {n : Nat} : fillN f n 0 = List.replicate n 0 := by
  unfold fillN
  apply List.ext_getElem?
  intro k
  rw [List.getElem?_map, List.getElem?_replicate]
  by_cases c : k < n
  · rw [List.getElem?_range c, if_pos c, Option.map_some, if_neg (by omega)]
  · rw [List.getElem?_eq_none (by simp; omega), if_neg c]; rfl
theorem fillN_all {f : Nat → Nat} {n : Nat} : fillN f n n = (List.range n).map f := by
  unfold fillN
  refine List.map_congr_left fun k hk => ?_
  rw [if_pos (by omega)]
theorem fillN_len {f : Nat → Nat} {n i : Nat} : (fillN f n i).length = n := by simp [fillN]
theorem fillN_get {f : Nat → Nat} {n i k : Nat} (h1 : n - i ≤ k) (h2 : k < n) : (fillN f n i)[k]? = some (f k) := by
  unfold fillN
  rw [List.getElem?_map, List.getElem?_range h2, Option.map_some, if_pos h1]
theorem fillN_set {f : Nat → Nat} {n i : Nat} (h : i < n) : (fillN f n i).set (n - 1 - i) (f (n - 1 - i)) = fillN f n (i + 1) := by
  unfold fillN
  apply List.ext_getElem?
  intro k
  rw [List.getElem?_set]
  by_cases c : n - 1 - i = k
  · subst c
    rw [if_pos rfl, if_pos (by simp; omega), List.getElem?_map, List.getElem?_range (by omega), Option.map_some, if_pos (by omega)]
  · rw [if_neg c, List.getElem?_map, List.getElem?_map]
    by_cases c2 : k < n
    · rw [List.getElem?_range c2, Option.map_some, Option.map_some]
      by_cases c3 : n - i ≤ k
      · rw [if_pos c3, if_pos (by omega)]
      · rw [if_neg c3, if_neg (by omega)]
    · rw [List.getElem?_eq_none (by simp; omega)]; rfl
/-- what the first j children make of a state -/
def foldJ (m : Mac) (d : Doc) (L : List Nat) (o : Option Nat) (j : Nat) : Nat := ((chA d o).take j).foldl (fun s c => stp m s (stA m d L c)) (initV m d L o)
theorem foldJ_succ {m : Mac} {d : Doc} {L : List Nat} {o : Option Nat} {j c : Nat} (h : (chA d o)[j]? = some c) : foldJ m d L o (j + 1) = stp m (foldJ m d L o j) (stA m d L c) := by
  obtain ⟨hj, rfl⟩ := List.getElem?_eq_some_iff.mp h
  unfold foldJ
  rw [List.take_succ_eq_append_getElem hj, List.foldl_append]; rfl
theorem foldJ_bnd {m : Mac} (h : MacOk m) {d : Doc} (hv : Vd 0 d) {L : List Nat} (hL : RowOk L d.length (2 ^ m.nm.length)) {o : Option Nat} (ho : ∀ k, o = some k → k < d.length) {j : Nat} : foldJ m d L o j < m.st.length := by
  unfold foldJ
  refine fold_lt h ?_ fun c hc => stA_bnd h hv hL (mem_ch.mp (List.mem_of_mem_take hc)).1
  cases o with
  | none => exact h.tp
  | some k => obtain ⟨_, _, _, _, _, h4⟩ := bgS_at h hv hL (ho k rfl); exact h4
theorem foldJ_all {m : Mac} {d : Doc} {L : List Nat} {o : Option Nat} {n : Nat} (hn : n = (chA d o).length) : foldJ m d L o n = match o with
    | none => stTop m d L
    | some k => stA m d L k := by
  subst hn
  unfold foldJ
  rw [List.take_length]
  cases o with
  | none => rfl
  | some k => exact stA_eq.symm
def sp__law_run : Sp2 := A3 fun a b c M Q _ => ∃ (m : Mac) (d : Doc) (L : List Nat), a = macT m ∧ b = docT d ∧ LayAt L c M ∧ MacOk m ∧ Val d ∧ RowOk L d.length (2 ^ m.nm.length) ∧
  ∀ M' q, M q = none → Le M M' → M' q = some (.lst (natsT ((List.range d.length).map (stA m d L)))) → Q (.tup [.loc q, .int (stTop m d L)]) M'
def n__law_run : List Str := "machine" :: "document" :: "laying" :: "names" :: "begin" :: "top" :: "step" :: "good" :: "rows" :: "states" :: "node" :: "row" :: "state" :: "child" :: []
def b__law_run_1 : TS2 := (sAs (eOp rIx2 (eOp rIx2 (eVar 6) (eVar 12)) (eOp rIx2 (eVar 9) (eVar 13))) (gN 12))
def b__law_run_2 : TS2 := (sSq (sFo (iSq (eOp rIx2 (eVar 8) (eVar 10))) (gN 13) b__law_run_1)
  (sAs (eVar 12) (gSb rPut2 (eVar 9) (eVar 10))))
def b__law_run_3 : TS2 := (sSq (sAs (eOp rIx2 (eVar 11) (eOp rIx2 (eVar 2) (eVar 10))) (gN 12))
  b__law_run_2)
def b__law_run_4 : TS2 := (sSq (sAs (eOp rIx2 (eVar 4) (eM1 rFind2 (eC (.str "abcdefgh")) (eOp rIx2 (eOp rIx2 (eVar 1) (eVar 10)) (eC (.int 0))))) (gN 11))
  b__law_run_3)
def b__law_run_5 : TS2 := (sAs (eOp rIx2 (eOp rIx2 (eVar 6) (eVar 12)) (eOp rIx2 (eVar 9) (eVar 13))) (gN 12))
def b__law_run_6 : TS2 := (sSq (sFo (iSq (eOp rIx2 (eVar 8) (eB rLen2 (aCons (eVar 1) aNil)))) (gN 13) b__law_run_5)
  (sRt (eTup (aCons (eVar 9) (aCons (eVar 12) aNil)))))
def b__law_run_7 : TS2 := (sSq (sFo (iRr (eB rLen2 (aCons (eVar 1) aNil))) (gN 10) b__law_run_4)
  (sSq (sAs (eVar 5) (gN 12))
  b__law_run_6))
def b__law_run_8 : TS2 := (sSq (sPr 8 9 (aCons (eCall sp__law_rows [] (aCons (eVar 1) aNil)) (aCons (eOp rMul2 (eLst (aCons (eC (.int 0)) aNil)) (eB rLen2 (aCons (eVar 1) aNil))) aNil)))
  b__law_run_7)
def b__law_run : TS2 := (sSq (sAs (eVar 0) (gT 5 (gCo (gN 3) (gCo (gN 4) (gCo (gN 5) (gCo (gN 6) (gCo (gN 7) gNil2)))))))
  b__law_run_8)
theorem find_idx {n : Nat} (h : n < 8) : Txt.find ("abcdefgh" : Str) (chS (97 + n)) = (n : Int) := by
  have : ∀ n : Fin 8, Txt.find ("abcdefgh" : Str) (chS (97 + n.val)) = (n.val : Int) := by decide +kernel
  exact this ⟨n, h⟩
theorem sem__law_run : ∀ ds M Q E, sp__law_run ds M Q E → b__law_run (fEnds Q E) (start2 n__law_run ds) M := by
  rintro ds M Q E ⟨a, b, c, rfl, m, d, L, rfl, rfl, hc, hm, hval, hL, hq⟩
  have ⟨hv, hl⟩ := hval
  have l1 : 1 ≤ sizeLine := small_line (by decide)
  have lm : (d.map entT).length = d.length := List.length_map ..
  simp only [b__law_run, start2, n__law_run, macT]
  simp
  simp only [b__law_run_8]
  simp
  refine ⟨_, rfl, d, rfl, hval, fun M1 p qs hp hqs hqn ep erow L1 => ?_⟩
  simp
  refine ⟨l1, fun x0 hx0 => ?_⟩
  have ex0 : up M1 x0 (.lst [.int 0]) x0 = some (.lst [.int 0]) := up_same
  have L2 : Le M1 (up M1 x0 (.lst [.int 0])) := Le.new hx0
  generalize up M1 x0 (.lst [.int 0]) = M2 at ex0 L2
  simp [ex0, lm]
  refine ⟨by omega, small_line (by omega), fun g hg => ?_⟩
  have L3 : Le M1 (up M2 g (.lst (List.replicate d.length (.int 0)))) := L2.trans (Le.new hg)
  have hMg : M g = none := (L1.trans L2).none hg
  have eg3 : up M2 g (.lst (List.replicate d.length (.int 0))) g = some (.lst (natsT (fillN (stA m d L) d.length 0))) := by rw [up_same, fillN_zero]; simp [natsT]
  have gq : ∀ (k : Nat) (q : Addr), qs[k]? = some q → q ≠ g := fun k q hk => m_ne (L2 _ _ (erow k q hk)) hg
  have gp : p ≠ g := m_ne (L2 _ _ ep) hg
  have ep3 := L3 _ _ ep
  have erow3 : ∀ k q, qs[k]? = some q → up M2 g (.lst (List.replicate d.length (.int 0))) q = some (.lst (rowI d k d.length)) := fun k q hk => L3 _ _ (erow k q hk)
  have LM3 := L1.trans L3
  generalize up M2 g (.lst (List.replicate d.length (.int 0))) = M3 at eg3 ep3 erow3 LM3
  simp only [b__law_run_7]
  simp [docT, lm]
  refine ⟨rg_small (by omega) (by omega), ?_⟩
  refine for_itL (fun i σ M' => ∃ z10 z11 z12 z13, σ = [some (macT m), some (docT d), some c, some (nmT m.nm), some (.tup (m.be.map rowT)), some (natT m.top), some (.tup (m.st.map rowT)), some (rowT m.go), some (.loc p), some (.loc g), z10, z11, z12, z13] ∧ Le M M' ∧ M' p = some (.lst (qs.map .loc)) ∧ (∀ k q, qs[k]? = some q → M' q = some (.lst (rowI d k d.length))) ∧ M' g = some (.lst (natsT (fillN (stA m d L) d.length i)))) ?_ ?_ ?_ ?_
  · exact ⟨_, _, _, _, rfl, LM3, ep3, erow3, eg3⟩
  · rintro i σ M' _ _
    trivial
  · rintro i e σ M' he ⟨z10, z11, z12, z13, rfl, LM, ep', erow', eg'⟩
    have hi : i < d.length := by have := (List.getElem?_eq_some_iff.mp he).1; rwa [downT_len] at this
    rw [downT_at hi] at he
    cases he
    have fs := fillN_set (f := stA m d L) hi
    have hk : d.length - 1 - i < d.length := by omega
    have gc : ∀ c ∈ chA d (some (d.length - 1 - i)), (fillN (stA m d L) d.length i)[c]? = some (stA m d L c) := fun c hc => by
      obtain ⟨c1, c2⟩ := ch_lt hc
      exact fillN_get (by omega) c2
    generalize d.length - 1 - i = k at hk fs gc
    obtain ⟨cc, hcc, c1, c2⟩ := mk_code hv hk
    obtain ⟨r, l, r1, r2, r3, r4⟩ := bgS_at hm hv hL hk
    simp
    simp only [b__law_run_4]
    simp [docT, ↓kAt_doc hk]
    rw [hcc, c1, find_idx c2, kAt_get (rows_at r1)]
    simp only [b__law_run_3]
    simp
    refine lay_ix (hc.le LM) r2 ?_
    simp [rowT, ↓kAt_get (natm_at r3)]
    have hkq : k < qs.length := by omega
    have ekq : (qs.map Tr.loc)[k]? = some (.loc qs[k]) := by simp [hkq]
    have er := erow' k qs[k] (by simp [hkq])
    rw [rowI_ch hk] at er
    simp only [b__law_run_2]
    refine nx_cut fun NX hN => ?_
    simp [ep', ↓kAt_get ekq, er]
    refine for_itL (fun j σ M2 => M2 = M' ∧ ∃ z13, σ = [some (macT m), some (docT d), some c, some (nmT m.nm), some (.tup (m.be.map rowT)), some (natT m.top), some (.tup (m.st.map rowT)), some (rowT m.go), some (.loc p), some (.loc g), some (.int k), some (rowT r), some (.int (foldJ m d L (some k) j)), z13]) ?_ ?_ ?_ ?_
    · exact ⟨rfl, _, rfl⟩
    · rintro j σ M2 _ ⟨rfl, _⟩
      exact seqT_lst er
    · rintro j e σ M2 he ⟨rfl, z13, rfl⟩
      rw [List.getElem?_map] at he
      cases ec : (chA d (some k))[j]? with
      | none => rw [ec] at he; cases he
      | some ch =>
        rw [ec] at he
        cases he
        have hch := mem_ch.mp (List.mem_of_getElem? ec)
        have hfb := foldJ_bnd hm hv hL (o := some k) (j := j) (fun k' e => by cases e; exact hk)
        obtain ⟨r', g1, g2, g3⟩ := stp_at hm hfb (stA_bnd hm hv hL hch.1)
        simp
        simp only [b__law_run_1]
        simp [eg', ↓kAt_get (nats_at (gc ch (List.mem_of_getElem? ec))), ↓kAt_get (rows_at g1), rowT, ↓kAt_get (natm_at g2)]
        rw [foldJ_succ ec]
    · rintro σ M2 ⟨rfl, z13, rfl⟩
      have e1 : foldJ m d L (some k) ((chA d (some k)).map natT).length = stA m d L k := foldJ_all (by simp)
      rw [e1]
      have hkl : k < (natsT (fillN (stA m d L) d.length i)).length := by rw [nats_len, fillN_len]; exact hk
      simp [eg', ↓kIx_nat hkl]
      rw [← nats_set, fs]
      refine hN _ _ ⟨⟨_, _, _, _, rfl⟩, fun a o h => ?_, ?_, ?_, up_same⟩
      · rw [up_ne (m_ne h hMg)]; exact LM a o h
      · rw [up_ne gp]; exact ep'
      · intro k' q' hk'
        rw [up_ne (gq k' q' hk')]; exact erow' k' q' hk'
  · rintro σ M' ⟨z10, z11, z12, z13, rfl, LM, ep', erow', eg'⟩
    rw [downT_len, fillN_all] at eg'
    have hnq : d.length < qs.length := by omega
    have ekq : (qs.map Tr.loc)[d.length]? = some (.loc qs[d.length]) := by simp [hnq]
    have er := erow' d.length qs[d.length] (by simp [hnq])
    rw [rowI_root] at er
    simp
    simp only [b__law_run_6]
    simp [docT, ep', lm, ↓kAt_get ekq, er]
    refine for_itL (fun j σ M2 => M2 = M' ∧ ∃ z10 z11 z13, σ = [some (macT m), some (docT d), some c, some (nmT m.nm), some (.tup (m.be.map rowT)), some (natT m.top), some (.tup (m.st.map rowT)), some (rowT m.go), some (.loc p), some (.loc g), z10, z11, some (.int (foldJ m d L none j)), z13]) ?_ ?_ ?_ ?_
    · exact ⟨rfl, _, _, _, rfl⟩
    · rintro j σ M2 _ ⟨rfl, _⟩
      exact seqT_lst er
    · rintro j e σ M2 he ⟨rfl, z10, z11, z13, rfl⟩
      rw [List.getElem?_map] at he
      cases ec : (chA d none)[j]? with
      | none => rw [ec] at he; cases he
      | some ch =>
        rw [ec] at he
        cases he
        have hch := mem_ch.mp (List.mem_of_getElem? ec)
        have hfb := foldJ_bnd hm hv hL (o := none) (j := j) (fun k' e => by cases e)
        obtain ⟨r', g1, g2, g3⟩ := stp_at hm hfb (stA_bnd hm hv hL hch.1)
        have gch : ((List.range d.length).map (stA m d L))[ch]? = some (stA m d L ch) := by rw [List.getElem?_map, List.getElem?_range hch.1]; rfl
        simp
        simp only [b__law_run_5]
        simp [eg', ↓kAt_get (nats_at gch), ↓kAt_get (rows_at g1), rowT, ↓kAt_get (natm_at g2)]
        rw [foldJ_succ ec]
    · rintro σ M2 ⟨rfl, z10, z11, z13, rfl⟩
      have e1 : foldJ m d L none ((chA d none).map natT).length = stTop m d L := foldJ_all (by simp)
      rw [e1]
      simp
      exact Fg.same (hq M2 g hMg LM eg')
end T

/-! Z: the law k36. -/
namespace T
open PySem PySem.Spec PyProof.Rows L2
theorem shown_300 {x : Nat} (h : x < 300) : ((toP (natT x)).shown).length ≤ 3 := by
  have : ∀ x : Fin 300, (Str.ofString (toString ((x.val : Nat) : Int))).length ≤ 3 := by decide +kernel
  exact this ⟨x, h⟩
theorem reprS_row {l : List Nat} {M : Ms} {Q : Q2} {fx : Fx Q} (h : ∀ x ∈ l, x < 300) (hl : l.length ≤ 20000) (hq : Q (.str (toP (rowT l)).shown) M) : ReprS (rowT l) M Q fx := by
  have hs : ∀ t ∈ l.map natT, smallT t := fun t ht => by
    obtain ⟨x, hx, rfl⟩ := List.mem_map.mp ht
    exact small_nat (by have := h x hx; omega)
  obtain ⟨a, b, c, e⟩ := smallL hs
  refine ⟨toP (rowT l), dat_pure e, a, b, ?_, ?_, hq⟩
  · show PyData.depthAll (toPs (l.map natT)) + 1 ≤ 50
    rw [c]; decide
  · show (tupleText (PyData.shownAll (toPs (l.map natT)))).length ≤ _
    rw [shownAll_eq]
    have := tupleText_le (k := 3) (ts := (l.map natT).map fun t => (toP t).shown) fun t ht => by
      obtain ⟨y, hy, rfl⟩ := List.mem_map.mp ht
      obtain ⟨x, hx, rfl⟩ := List.mem_map.mp hy
      exact shown_300 (h x hx)
    rw [List.length_map, List.length_map] at this
    rw [sizeLine_eq]
    omega
theorem reprS_bl {b : Bool} {M : Ms} {Q : Q2} {fx : Fx Q} (hq : Q (.str (PyData.bool b).shown) M) : ReprS (.bl b) M Q fx := by
  refine ⟨.bool b, rfl, rfl, rfl, Nat.zero_le _, ?_, hq⟩
  rw [sizeLine_eq]
  cases b <;> decide
def sp__law_right : Sp2 := A3 fun a b c M Q _ => ∃ (m : Mac) (d : Doc) (L : List Nat), a = macT m ∧ b = docT d ∧ c = rowT L ∧ MacOk m ∧ Val d ∧ RowOk L d.length (2 ^ m.nm.length) ∧ Q (.bl true) M
def n__law_right : List Str := "machine" :: "document" :: "laying" :: "states" :: "state" :: []
def b__law_right_1 : TS2 := (sRt (eOp (rEqG id) (eB rRepr2 (aCons (eCall sp_state_of [] (aCons (eVar 0) (aCons (eVar 1) (aCons (eVar 2) aNil)))) aNil)) (eB rRepr2 (aCons (eVar 4) aNil))))
def b__law_right_2 : TS2 := (sSq (sIf (tCm (eOp (rEqG not) (eB rRepr2 (aCons (eCall sp_states_of [] (aCons (eVar 0) (aCons (eVar 1) (aCons (eVar 2) aNil)))) aNil)) (eB rRepr2 (aCons (eB rTuple2 (aCons (eVar 3) aNil)) aNil)))) (sRt (eC (.bl false))) sNx)
  b__law_right_1)
def b__law_right : TS2 := (sSq (sAs (eCall sp__law_run [] (aCons (eVar 0) (aCons (eVar 1) (aCons (eVar 2) aNil)))) (gT 2 (gCo (gN 3) (gCo (gN 4) gNil2))))
  b__law_right_2)
theorem sem__law_right : ∀ ds M Q E, sp__law_right ds M Q E → b__law_right (fEnds Q E) (start2 n__law_right ds) M := by
  rintro ds M Q E ⟨a, b, c, rfl, m, d, L, rfl, rfl, rfl, hm, hv, hL, hq⟩
  have hsl : ∀ x ∈ (List.range d.length).map (stA m d L), x < 300 := fun x hx => by
    obtain ⟨k, hk, rfl⟩ := List.mem_map.mp hx
    have := stA_bnd hm hv.1 hL (k := k) (by simpa using hk)
    have := hm.s2
    omega
  have htp : stTop m d L < 300 := by
    have h1 : foldJ m d L none (chA d none).length < m.st.length := foldJ_bnd hm hv.1 hL (fun k e => by cases e)
    have h2 : foldJ m d L none (chA d none).length = stTop m d L := foldJ_all rfl
    have := hm.s2
    omega
  have hl := hv.2
  simp only [b__law_right, start2, n__law_right]
  simp
  refine ⟨_, _, _, rfl, m, d, L, rfl, rfl, .inl rfl, hm, hv, hL, fun M1 q hq1 L1 eq1 => ?_⟩
  simp
  simp only [b__law_right_2]
  simp
  refine ⟨_, _, _, rfl, m, d, L, rfl, rfl, rfl, hm, hv, hL, ?_⟩
  simp
  refine reprS_row hsl (by simp; omega) ?_
  simp [eq1]
  show ReprS (rowT ((List.range d.length).map (stA m d L))) _ _ _
  refine reprS_row hsl (by simp; omega) ?_
  simp
  simp only [b__law_right_1]
  simp
  refine ⟨_, _, _, rfl, m, d, L, rfl, rfl, rfl, hm, hv, hL, ?_⟩
  simp
  refine reprS_int (log_small (by omega) (by omega)) ?_
  simp
  refine reprS_int (log_small (by omega) (by omega)) ?_
  simp
  exact Fg.le L1 hq
def sp__law_right_too : Sp2 := A4 fun z a b c M Q _ => ∃ (f : Addr) (m : Mac) (d : Doc) (L : List Nat) (n : Nat) (o : MO), z = .loc f ∧ a = macT m ∧ b = docT d ∧ c = rowT L ∧ MacOk m ∧ Val d ∧ RowOk L d.length (2 ^ m.nm.length) ∧ n ≤ 10000000 ∧ M f = some o ∧ FeedO n o ∧
  ∀ o', FeedO (n + 5) o' → Q (.bl true) (up M f o')
def n__law_right_too : List Str := "feed" :: "machine" :: "document" :: "laying" :: "due" :: "nodes" :: "at_nodes" :: "place" :: "node" :: "name" :: []
def b__law_right_too_1 : TS2 := (sAs (eOp rAdd2 (eOp rIx2 (eVar 6) (eVar 8)) (eOp rIx2 (eLst (aCons (eC (.int 1)) (aCons (eC (.int 2)) (aCons (eC (.int 4)) (aCons (eC (.int 8)) (aCons (eC (.int 16)) aNil)))))) (eVar 7))) (gSb rPut2 (eVar 6) (eVar 8)))
def b__law_right_too_2 : TS2 := (sRt (eOp (rEqG id) (eB rRepr2 (aCons (eCall sp_takes [] (aCons (eVar 1) (aCons (eVar 2) (aCons (eVar 5) aNil)))) aNil)) (eB rRepr2 (aCons (eVar 4) aNil))))
def b__law_right_too_3 : TS2 := (sSq (sAs (eOp (rInX id) (eOp rIx2 (eCall sp__law_run [] (aCons (eVar 1) (aCons (eVar 2) (aCons (eVar 6) aNil)))) (eC (.int 1))) (eOp rIx2 (eVar 1) (eC (.int 4)))) (gN 4))
  b__law_right_too_2)
def b__law_right_too_4 : TS2 := (sSq (sFo (iEn (aCons (eVar 5) aNil)) (gT 2 (gCo (gN 7) (gCo (gN 8) gNil2))) b__law_right_too_1)
  b__law_right_too_3)
def b__law_right_too_5 : TS2 := (sSq (sAs (eOp rMul2 (eLst (aCons (eC (.int 0)) aNil)) (eB rLen2 (aCons (eVar 2) aNil))) (gN 6))
  b__law_right_too_4)
def b__law_right_too_6 : TS2 := (sSq (sAs (eB rTuple2 (aCons (eLc (iSq (eOp rIx2 (eVar 1) (eC (.int 0)))) (gN 9) tYes2 (eCall sp__law_draw [] (aCons (eVar 0) (aCons (eB rLen2 (aCons (eVar 2) aNil)) aNil))) [9]) aNil)) (gN 5))
  b__law_right_too_5)
def b__law_right_too_7 : TS2 := (sSq (sIf (tAn (tCm (eOp (rEqG id) (eVar 2) (eTup aNil))) (tCm (eOp (rEqG not) (eOp rIx2 (eVar 1) (eC (.int 0))) (eTup aNil)))) (sRt (eC (.bl true))) sNx)
  b__law_right_too_6)
def b__law_right_too_8 : TS2 := (sSq (sIf (tCm (eOp (rEqG not) (eB rRepr2 (aCons (eCall sp_lets [] (aCons (eVar 1) (aCons (eVar 2) (aCons (eVar 3) aNil)))) aNil)) (eB rRepr2 (aCons (eVar 4) aNil)))) (sRt (eC (.bl false))) sNx)
  b__law_right_too_7)
def b__law_right_too : TS2 := (sSq (sAs (eOp (rInX id) (eOp rIx2 (eCall sp__law_run [] (aCons (eVar 1) (aCons (eVar 2) (aCons (eVar 3) aNil)))) (eC (.int 1))) (eOp rIx2 (eVar 1) (eC (.int 4)))) (gN 4))
  b__law_right_too_8)
theorem nm_nb {l : List Nat} (h : ∀ c ∈ l, c ∈ nmC) : nbT (nmT l) = true ∧ hT (nmT l) ≤ 1 := by
  constructor
  · refine nbL_of fun t ht => ?_
    obtain ⟨c, hc, rfl⟩ := List.mem_map.mp ht
    have := h c hc
    simp [nmC] at this
    rcases this with h | h | h | h | h | h | h | h | h | h | h <;> subst h <;> simp [chT1, nbT, PyData.canLay0, PyData.strOk, chS]
  · show hL (l.map chT1) + 1 ≤ 1
    have : hL (l.map chT1) ≤ 0 := hL_le fun t ht => by
      obtain ⟨c, hc, rfl⟩ := List.mem_map.mp ht
      exact Nat.le_refl _
    omega
theorem sem__law_right_too : ∀ ds M Q E, sp__law_right_too ds M Q E → b__law_right_too (fEnds Q E) (start2 n__law_right_too ds) M := by
  rintro ds M Q E ⟨z, a, b, c, rfl, f, m, d, L, n, o, rfl, rfl, rfl, rfl, hm, hv, hL, hn, hf, hF, hq⟩
  have hl := hv.2
  have lm : (d.map entT).length = d.length := List.length_map ..
  have l1 : 1 ≤ sizeLine := small_line (by decide)
  have l5 : 5 ≤ sizeLine := small_line (by decide)
  have hn5 := hm.nm.len
  simp only [b__law_right_too, start2, n__law_right_too]
  simp
  refine ⟨_, _, _, rfl, m, d, L, rfl, rfl, .inl rfl, hm, hv, hL, fun M1 q hq1 L1 eq1 => ?_⟩
  simp [macT]
  refine inX_row ?_
  simp
  simp only [b__law_right_too_8]
  simp
  refine ⟨_, _, _, rfl, m, d, L, rfl, rfl, rfl, hm, hv, hL, ?_⟩
  simp
  refine reprS_bl ?_
  simp
  refine reprS_bl ?_
  simp
  simp only [b__law_right_too_7]
  obtain ⟨dn1, dn2⟩ := doc_nb hv.1
  obtain ⟨mn1, mn2⟩ := nm_nb hm.nm.mem
  simp
  refine rEq_tup _ _ (decide (d.length = 0)) rfl rfl dn1 rfl (by rw [hT_ok]; omega) (by decide) ?_ ?_
  · rw [decide_eq_true_eq]
    constructor
    · intro h; rw [List.eq_nil_of_length_eq_zero h]; rfl
    · intro h
      have h : Tr.tup (d.map entT) = Tr.tup [] := h
      injection h with h
      simpa using h
  have rest : (d.length = 0 → m.nm.length = 0) → b__law_right_too_6 (fEnds Q E) [some (.loc f), some (macT m), some (docT d), some (rowT L), some (.bl (decide (stTop m d L ∈ m.go))), none, none, none, none, none] M1 := by
    intro hdn
    have hf1 := L1 _ _ hf
    simp only [b__law_right_too_6]
    simp [macT, nmT]
    refine lc_fdL (P := fun _ y => ∃ x : Nat, y = .int x ∧ x < d.length) (c := 1) hf1 hF (by simp; omega) (fun _ _ => rfl) ?_ ?_
    · intro i e M3 o3 KY KN he K3 hf3 hF3 hKY
      have hi : i < m.nm.length := by have := (List.getElem?_eq_some_iff.mp he).1; simpa using this
      have hd0 : 0 < d.length := by
        rcases Nat.eq_zero_or_pos d.length with h | h
        · have := hdn h; omega
        · exact h
      simp [wipe2]
      refine ⟨_, _, rfl, f, d.length, _, o3, rfl, rfl, by omega, by omega, by omega, hf3, hF3, fun r o4 h1 h2 hF4 => ?_⟩
      refine hKY _ _ o4 ⟨r.toNat, ?_, by omega⟩ Kf.feed up_same (hF4.mono (by omega))
      congr 1; omega
    · intro q2 M3 o3 ys hq2 K3 hf3 hF3 e3 hl3 hy3
      rw [show (m.nm.map chT1).length = m.nm.length from List.length_map ..] at hl3 hF3
      obtain ⟨ns, rfl, hns⟩ := row_of hl3 hy3
      simp [e3]
      simp only [b__law_right_too_5]
      have ns5 : ns.length ≤ 5 := by rw [hns.1]; exact hn5
      have ns20 : ∀ x ∈ ns, x < d.length := hns.2
      simp [docT]
      refine ⟨l1, fun x0 hx0 => ?_⟩
      have ex0 : up M3 x0 (.lst [.int 0]) x0 = some (.lst [.int 0]) := up_same
      have L4 : Le M3 (up M3 x0 (.lst [.int 0])) := Le.new hx0
      generalize up M3 x0 (.lst [.int 0]) = M4 at ex0 L4
      simp [ex0, lm]
      refine ⟨by omega, small_line (by omega), fun g hg => ?_⟩
      have fg : f ≠ g := m_ne (L4 _ _ hf3) hg
      have K4 : Kf f M M4 := (L1.kf.trans K3).trans L4.kf
      have hMg : M g = none := by
        cases e : M g with
        | none => rfl
        | some u => rw [K4 g u fg.symm e] at hg; cases hg
      have K5 : Kf f M (up M4 g (.lst (List.replicate d.length (.int 0)))) := K4.trans (Le.new hg).kf
      have hf5 : up M4 g (.lst (List.replicate d.length (.int 0))) f = some o3 := by rw [up_ne fg]; exact L4 _ _ hf3
      have eg5 : up M4 g (.lst (List.replicate d.length (.int 0))) g = some (.lst (natsT (layL d.length (ns.take 0)))) := by
        rw [up_same]; unfold layL natsT; simp [layF]
      generalize up M4 g (.lst (List.replicate d.length (.int 0))) = M5 at K5 hf5 eg5
      simp only [b__law_right_too_4]
      simp
      refine for_itE (fun j σ M' => ∃ z7 z8 z9, σ = [some (.loc f), some (macT m), some (docT d), some (rowT L), some (.bl (decide (stTop m d L ∈ m.go))), some (rowT ns), some (.loc g), z7, z8, z9] ∧ Kf f M M' ∧ M' f = some o3 ∧ M' g = some (.lst (natsT (layL d.length (ns.take j))))) ?_ ?_ ?_ ?_
      · exact ⟨_, _, _, rfl, K5, hf5, eg5⟩
      · rintro j σ M' _ _
        rfl
      · rintro j e σ M6 he ⟨z7, z8, z9, rfl, K6, hf6, eg6⟩
        rw [List.getElem?_map] at he
        cases ev : ns[j]? with
        | none => rw [ev] at he; cases he
        | some v =>
          rw [ev] at he
          cases he
          have hj : j < ns.length := (List.getElem?_eq_some_iff.mp ev).1
          have hvl := ns20 v (List.mem_of_getElem? ev)
          have hlen : (layL d.length (ns.take j)).length = d.length := layL_len
          obtain ⟨w, hw⟩ : ∃ w, (layL d.length (ns.take j))[v]? = some w := ⟨_, List.getElem?_eq_getElem (by rw [hlen]; exact hvl)⟩
          have e5 : [Tr.int 1, .int 2, .int 4, .int 8, .int 16][j]? = some (.int ((2 ^ j : Nat) : Int)) := by
            have hj5 : j < 5 := by omega
            rcases j with _ | _ | _ | _ | _ | j
            all_goals first | rfl | omega
          simp
          simp only [b__law_right_too_1]
          simp [-List.map_take, eg6, ↓kAt_get (nats_at hw), l5]
          intro q3 hq3
          have gq3 : g ≠ q3 := m_ne eg6 hq3
          have L7 := Le.new (o := .lst [Tr.int 1, .int 2, .int 4, .int 8, .int 16]) hq3
          have eg7 := L7 _ _ eg6
          have hf7 := L7 _ _ hf6
          simp [up_same, ↓kAt_get e5]
          generalize up M6 q3 (.lst [Tr.int 1, .int 2, .int 4, .int 8, .int 16]) = M7 at L7 eg7 hf7
          simp [-List.map_take, eg7, nats_len, hlen, ↓kIx_nat hvl]
          refine ⟨fun a u h1 h2 => ?_, by rw [up_ne fg]; exact hf7, ?_⟩
          · rw [up_ne (m_ne h2 hMg)]; exact L7 _ _ (K6 a u h1 h2)
          · rw [layL_next ev, hw, nats_set]
            congr 1
      · rintro σ M6 ⟨z7, z8, z9, rfl, K6, hf6, eg6⟩
        rw [show (ns.map natT).length = ns.length from List.length_map .., List.take_length] at eg6
        simp only [b__law_right_too_3]
        simp
        refine ⟨_, _, _, rfl, m, d, layL d.length ns, rfl, rfl, .inr ⟨g, rfl, eg6⟩, hm, hv, layL_ok hns.1, fun M8 q8 hq8 L8 eq8 => ?_⟩
        simp [macT]
        refine inX_row ?_
        simp
        simp only [b__law_right_too_2]
        simp
        refine ⟨_, _, _, rfl, m, d, ns, rfl, rfl, rfl, hm, hv, hns, ?_⟩
        simp
        refine reprS_bl ?_
        simp
        refine reprS_bl ?_
        simp
        exact Fg.le (Kf.le (K6.trans L8.kf) (L8 _ _ hf6)) (hq o3 (hF3.mono (by omega)))
  by_cases c : d.length = 0
  · rw [decide_eq_true c]
    simp
    refine rEq_tup _ _ (decide (m.nm.length = 0)) rfl rfl mn1 rfl (by rw [hT_ok]; omega) (by decide) ?_ ?_
    · rw [decide_eq_true_eq]
      constructor
      · intro h; rw [List.eq_nil_of_length_eq_zero h]; rfl
      · intro h
        have h : Tr.tup (m.nm.map chT1) = Tr.tup [] := h
        injection h with h
        simpa using h
    by_cases c2 : m.nm.length = 0
    · rw [decide_eq_true c2]
      simp
      exact rest (fun _ => c2)
    · rw [decide_eq_false c2]
      simp
      exact Fg.le (Kf.le L1.kf (L1 _ _ hf)) (hq o (hF.mono (by omega)))
  · rw [decide_eq_false c]
    simp
    exact rest (fun h => absurd h c)
theorem pow_w {l : List Nat} (h : l.length ≤ 5) : ∃ w : Nat, 2 ^ l.length = w ∧ 1 ≤ w ∧ w ≤ 32 := ⟨_, rfl, Nat.two_pow_pos _, Nat.pow_le_pow_right (n := 2) (by decide) h⟩
def sp__law_asked_one : Sp2 := A1 fun a M Q _ => ∃ ns, a = scT ns ∧ Script ns ∧ Q (.bl true) M
def n__law_asked_one : List Str := "script" :: "feed" :: "many" :: "machines" :: "document" :: "turn" :: "lays" :: "wide" :: "k" :: "laying" :: "at" :: "which" :: []
def b__law_asked_one_1 : TS2 := (sIf (tNo (tTr (eCall sp__law_right [] (aCons (eOp rIx2 (eVar 3) (eC (.int 0))) (aCons (eVar 4) (aCons (eB rTuple2 (aCons (eLc (iRg1 (aCons (eB rLen2 (aCons (eVar 4) aNil)) aNil)) (gN 8) tYes2 (eOp rMod2 (eB rInt2 (aCons (eOp rAdd2 (eOp rMul2 (eVar 8) (eVar 5)) (eOp rDiv2 (eVar 8) (eC (.int 3)))) aNil)) (eVar 6)) [8]) aNil)) aNil)))))) (sRt (eC (.bl false))) sNx)
def b__law_asked_one_2 : TS2 := (sSq (sAs (eTup (aCons (eOp rAdd2 (eC (.int 1)) (eCall sp__law_draw [] (aCons (eVar 1) (aCons (eC (.int 1000)) aNil)))) (aCons (eCall sp__law_lays [] (aCons (eOp rIx2 (eOp rIx2 (eVar 3) (eC (.int 0))) (eC (.int 0))) aNil)) aNil))) (gT 2 (gCo (gN 5) (gCo (gN 6) gNil2))))
  b__law_asked_one_1)
def b__law_asked_one_3 : TS2 := (sSq (sAs (eCall sp__law_great [] (aCons (eVar 1) aNil)) (gN 4))
  b__law_asked_one_2)
def b__law_asked_one_4 : TS2 := (sAs (eCall sp__law_wide [] (aCons (eVar 1) (aCons (eOp rIx2 (eOp rIx2 (eVar 3) (eC (.int 1))) (eC (.int 0))) (aCons (eOp rAdd2 (eC (.int 9)) (eCall sp__law_draw [] (aCons (eVar 1) (aCons (eC (.int 52)) aNil)))) aNil)))) (gSb rPut2 (eVar 3) (eC (.int 1))))
def b__law_asked_one_5 : TS2 := (sIf (tNo (tTr (eCall sp__law_right [] (aCons (eVar 7) (aCons (eVar 4) (aCons (eCall sp__law_laying [] (aCons (eVar 1) (aCons (eVar 4) (aCons (eOp rIx2 (eVar 7) (eC (.int 0))) aNil)))) aNil)))))) (sRt (eC (.bl false))) sNx)
def b__law_asked_one_6 : TS2 := (sSq (sPr 7 4 (aCons (eCall sp__law_wide [] (aCons (eVar 1) (aCons (eOp rIx2 (eOp rIx2 (eVar 3) (eC (.int 0))) (eC (.int 0))) (aCons (eOp rAdd2 (eC (.int 290)) (eCall sp__law_draw [] (aCons (eVar 1) (aCons (eC (.int 11)) aNil)))) aNil)))) (aCons (eCall sp__law_document [] (aCons (eVar 1) (aCons (eC (.int 30)) aNil))) aNil)))
  b__law_asked_one_5)
def b__law_asked_one_7 : TS2 := (sIf (tNo (tTr (eCall sp__law_right [] (aCons (eOp rIx2 (eVar 3) (eVar 11)) (aCons (eVar 4) (aCons (eVar 9) aNil)))))) (sRt (eC (.bl false))) sNx)
def b__law_asked_one_8 : TS2 := (sFo (iSq (eLst (aCons (eVar 10) (aCons (eOp rSub2 (eC (.int 1)) (eVar 10)) (aCons (eVar 10) aNil))))) (gN 11) b__law_asked_one_7)
def b__law_asked_one_9 : TS2 := (sSq (sPr 9 10 (aCons (eCall sp__law_laying [] (aCons (eVar 1) (aCons (eVar 4) (aCons (eOp rIx2 (eOp rIx2 (eVar 3) (eC (.int 0))) (eC (.int 0))) aNil)))) (aCons (eCall sp__law_draw [] (aCons (eVar 1) (aCons (eC (.int 2)) aNil))) aNil)))
  b__law_asked_one_8)
def b__law_asked_one_10 : TS2 := (sSq (sAs (eCall sp__law_document [] (aCons (eVar 1) (aCons (eCall sp__law_one [] (aCons (eVar 1) (aCons (eLst (aCons (eC (.int 3)) (aCons (eC (.int 8)) (aCons (eC (.int 30)) aNil)))) aNil))) aNil))) (gN 4))
  b__law_asked_one_9)
def b__law_asked_one_11 : TS2 := (sSq (sAs (eCall sp__law_feed [] (aCons (eVar 0) (aCons (eVar 8) aNil))) (gN 1))
  b__law_asked_one_10)
def b__law_asked_one_12 : TS2 := (sSq (sFo (iRg2 (aCons (eC (.int 1)) (aCons (eB rMax2 (aCons (eC (.int 4)) (aCons (eB rMin2 (aCons (eC (.int 63)) (aCons (eB rLen2 (aCons (eVar 0) aNil)) aNil))) aNil))) aNil))) (gN 8) b__law_asked_one_11)
  (sRt (eC (.bl true))))
def b__law_asked_one_13 : TS2 := (sSq (sIf (tCm (eOp (rEqG id) (eCall sp__law_draw [] (aCons (eVar 1) (aCons (eC (.int 6)) aNil))) (eC (.int 0)))) b__law_asked_one_6 sNx)
  b__law_asked_one_12)
def b__law_asked_one_14 : TS2 := (sSq (sIf (tCm (eOp (rEqG id) (eCall sp__law_draw [] (aCons (eVar 1) (aCons (eC (.int 4)) aNil))) (eC (.int 0)))) b__law_asked_one_4 sNx)
  b__law_asked_one_13)
def b__law_asked_one_15 : TS2 := (sSq (sIf (tCm (eOp (rEqG id) (eCall sp__law_draw [] (aCons (eVar 1) (aCons (eC (.int 4)) aNil))) (eC (.int 0)))) b__law_asked_one_3 sNx)
  b__law_asked_one_14)
def b__law_asked_one_16 : TS2 := (sSq (sAs (eLst (aCons (eCall sp__law_machine [] (aCons (eVar 1) (aCons (eCall sp__law_names [] (aCons (eVar 1) (aCons (eVar 2) aNil))) (aCons (eC (.int 8)) aNil)))) (aCons (eCall sp__law_machine [] (aCons (eCall sp__law_feed [] (aCons (eVar 0) (aCons (eC (.int 1)) aNil))) (aCons (eCall sp__law_names [] (aCons (eVar 1) (aCons (eVar 2) aNil))) (aCons (eC (.int 8)) aNil)))) aNil))) (gN 3))
  b__law_asked_one_15)
def b__law_asked_one_17 : TS2 := (sSq (sAs (eCall sp__law_one [] (aCons (eVar 1) (aCons (eLst (aCons (eC (.int 0)) (aCons (eC (.int 1)) (aCons (eC (.int 1)) (aCons (eC (.int 2)) (aCons (eC (.int 3)) (aCons (eC (.int 5)) aNil))))))) aNil))) (gN 2))
  b__law_asked_one_16)
def b__law_asked_one : TS2 := (sSq (sAs (eCall sp__law_feed [] (aCons (eVar 0) (aCons (eC (.int 0)) aNil))) (gN 1))
  b__law_asked_one_17)
theorem sem__law_asked_one : ∀ ds M Q E, sp__law_asked_one ds M Q E → b__law_asked_one (fEnds Q E) (start2 n__law_asked_one ds) M := by
  rintro ds M Q E ⟨a, rfl, ns, rfl, hs, hq⟩
  have l6 : 6 ≤ sizeLine := small_line (by decide)
  simp only [b__law_asked_one, start2, n__law_asked_one]
  simp
  refine ⟨_, _, rfl, ns, 0, rfl, rfl, hs, by decide, fun f o hf hF => ?_⟩
  have hf1 : up M f o f = some o := up_same
  have L1 : Le M (up M f o) := Le.new hf
  generalize up M f o = M1 at hf1 L1
  simp only [b__law_asked_one_17]
  simp [l6]
  intro q hq1
  have eq1 : up M1 q (.lst [.int 0, .int 1, .int 1, .int 2, .int 3, .int 5]) q = some (.lst [.int 0, .int 1, .int 1, .int 2, .int 3, .int 5]) := up_same
  have fq : f ≠ q := m_ne hf1 hq1
  have L2 : Le M (up M1 q (.lst [.int 0, .int 1, .int 1, .int 2, .int 3, .int 5])) := L1.trans (Le.new hq1)
  have hf2 := Le.new (o := .lst [.int 0, .int 1, .int 1, .int 2, .int 3, .int 5]) hq1 _ _ hf1
  generalize up M1 q (.lst [.int 0, .int 1, .int 1, .int 2, .int 3, .int 5]) = M2 at eq1 L2 hf2
  refine ⟨_, _, rfl, f, _, 0, o, rfl, lenT_lst eq1, seqT_lst eq1, (fun e => by cases e; exact fq rfl), by simp, by simp, by decide, hf2, hF, fun r o1 hr hF1 => ?_⟩
  obtain ⟨many, rfl, hmany⟩ : ∃ many : Nat, r = .int many ∧ many ≤ 5 := by
    simp at hr
    rcases hr with rfl | rfl | rfl | rfl | rfl
    · exact ⟨0, rfl, by decide⟩
    · exact ⟨1, rfl, by decide⟩
    · exact ⟨2, rfl, by decide⟩
    · exact ⟨3, rfl, by decide⟩
    · exact ⟨5, rfl, by decide⟩
  have hMf : M f = none := hf
  have K2 : Le M (up M2 f o1) := fun a u h => by rw [up_ne (m_ne h hMf)]; exact L2 a u h
  have hf3 : up M2 f o1 f = some o1 := up_same
  generalize up M2 f o1 = M3 at K2 hf3
  simp only [b__law_asked_one_16]
  simp
  refine ⟨_, _, rfl, f, many, _, o1, rfl, rfl, hmany, by decide, hf3, hF1, fun l1 o2 hn1 hl1 hF2 => ?_⟩
  simp
  refine ⟨_, _, _, rfl, f, l1, 8, _, o2, rfl, rfl, rfl, hn1, by decide, by decide, by omega, up_same, hF2, fun m1 o3 hm1 hmn1 hF3 => ?_⟩
  simp [up_up]
  have hf4 : up M3 f o3 f = some o3 := up_same
  have K4 : Le M (up M3 f o3) := fun a u h => by rw [up_ne (m_ne h hMf)]; exact K2 a u h
  generalize up M3 f o3 = M4 at hf4 K4
  refine ⟨_, _, rfl, ns, 1, rfl, rfl, hs, by decide, fun f2 o4 hf2n hF4 => ?_⟩
  have ff2 : f ≠ f2 := m_ne hf4 hf2n
  have hf5 : up M4 f2 o4 f = some o3 := by rw [up_ne ff2]; exact hf4
  have hff5 : up M4 f2 o4 f2 = some o4 := up_same
  have K5 : Le M (up M4 f2 o4) := K4.trans (Le.new hf2n)
  have hMf2 : M f2 = none := K4.none hf2n
  generalize up M4 f2 o4 = M5 at hf5 hff5 K5
  simp
  refine ⟨_, _, rfl, f, many, _, o3, rfl, rfl, hmany, by omega, hf5, hF3, fun l2 o5 hn2 hl2 hF5 => ?_⟩
  have hff6 : up M5 f o5 f2 = some o4 := by rw [up_ne ff2.symm]; exact hff5
  have hf6 : up M5 f o5 f = some o5 := up_same
  have K6 : Le M (up M5 f o5) := fun a u h => by rw [up_ne (m_ne h hMf)]; exact K5 a u h
  generalize up M5 f o5 = M6 at hff6 hf6 K6
  simp
  refine ⟨_, _, _, rfl, f2, l2, 8, 0, o4, rfl, rfl, rfl, hn2, by decide, by decide, by decide, hff6, hF4, fun m2 o6 hm2 hmn2 hF6 => ?_⟩
  have hf7 : up M6 f2 o6 f = some o5 := by rw [up_ne ff2]; exact hf6
  have K7 : Le M (up M6 f2 o6) := fun a u h => by rw [up_ne (m_ne h hMf2)]; exact K6 a u h
  generalize up M6 f2 o6 = M7 at hf7 K7
  have l2' : 2 ≤ sizeLine := small_line (by decide)
  simp [l2']
  intro g hg
  have fg : f ≠ g := m_ne hf7 hg
  have hMg : M g = none := K7.none hg
  have hf8 : up M7 g (.lst [macT m1, macT m2]) f = some o5 := by rw [up_ne fg]; exact hf7
  have eg8 : up M7 g (.lst [macT m1, macT m2]) g = some (.lst [macT m1, macT m2]) := up_same
  have K8 : Le M (up M7 g (.lst [macT m1, macT m2])) := K7.trans (Le.new hg)
  generalize up M7 g (.lst [macT m1, macT m2]) = M8 at hf8 eg8 K8
  have hk1 : m1.nm.length = many := by rw [hmn1]; exact hl1
  have hk2 : m2.nm.length = many := by rw [hmn2]; exact hl2
  clear hF1 hF2 hF3
  have hF5 : FeedO 5000 o5 := hF5.mono (by omega)
  simp only [b__law_asked_one_15]
  refine seq_cut (fun σ M' => ∃ z4 z5 z6 z7 z8 z9 z10 z11 o', σ = [some (scT ns), some (.loc f), some (.int many), some (.loc g), z4, z5, z6, z7, z8, z9, z10, z11] ∧ Le M M' ∧ M' f = some o' ∧ FeedO 10000 o' ∧ M' g = some (.lst [macT m1, macT m2])) (fun NX hN => ?_) ?_
  · simp
    refine ⟨_, _, rfl, f, 4, _, o5, rfl, rfl, by decide, by decide, by decide, hf8, hF5, fun r o6 h1 h2 hF6 => ?_⟩
    have hf9 : up M8 f o6 f = some o6 := up_same
    have eg9 : up M8 f o6 g = some (.lst [macT m1, macT m2]) := by rw [up_ne fg.symm]; exact eg8
    have K9 : Le M (up M8 f o6) := fun a u h => by rw [up_ne (m_ne h hMf)]; exact K8 a u h
    generalize up M8 f o6 = M9 at hf9 eg9 K9
    simp
    by_cases c : r = 0
    · simp [c]
      simp only [b__law_asked_one_3]
      simp
      refine ⟨_, rfl, f, _, o6, rfl, by decide, hf9, hF6, fun d o7 hv hd2 hF7 => ?_⟩
      simp only [b__law_asked_one_2]
      simp
      have hf10 : up M9 f o7 f = some o7 := up_same
      have eg10 : up M9 f o7 g = some (.lst [macT m1, macT m2]) := by rw [up_ne fg.symm]; exact eg9
      have K10 : Le M (up M9 f o7) := fun a u h => by rw [up_ne (m_ne h hMf)]; exact K9 a u h
      generalize up M9 f o7 = M10 at hf10 eg10 K10
      refine ⟨_, _, rfl, f, 1000, _, o7, rfl, rfl, by decide, by decide, by decide, hf10, hF7, fun r o8 h1 h2 hF8 => ?_⟩
      obtain ⟨turn, ht⟩ : ∃ turn : Nat, (1 : Int) + r = turn ∧ turn ≤ 1000 := ⟨(1 + r).toNat, by omega, by omega⟩
      have hf11 : up M10 f o8 f = some o8 := up_same
      have eg11 : up M10 f o8 g = some (.lst [macT m1, macT m2]) := by rw [up_ne fg.symm]; exact eg10
      have K11 : Le M (up M10 f o8) := fun a u h => by rw [up_ne (m_ne h hMf)]; exact K10 a u h
      generalize up M10 f o8 = M11 at hf11 eg11 K11
      have em1 : macT m1 = .tup [nmT m1.nm, .tup (m1.be.map rowT), natT m1.top, .tup (m1.st.map rowT), rowT m1.go] := rfl
      obtain ⟨w, hw, hw1, hw2⟩ := pow_w (l := m1.nm) hm1.nm.len
      simp [eg11, em1]
      refine ⟨_, rfl, _, rfl, hm1.nm.len, ?_⟩
      have hwi : (2 : Int) ^ m1.nm.length = (w : Int) := by rw [← hw]; simp
      simp [l2', ht.1]
      rw [hwi]
      simp only [b__law_asked_one_1]
      have hwp : (0 : Int) < (w : Int) := by omega
      have hl := hv.2
      simp [eg11]
      refine ⟨rg_small (by omega) (by omega), ?_⟩
      refine fun p hp => lc_fmR (fun k => some (.int (((k : Int) * turn + (k : Int) / 3) % w))) (by omega) ?_ ?_
      rotate_left
      · intro k M' hk fr KY KN q1 q2
        simp [wipe2, hwp]
        exact ⟨cm_small (by omega) (by omega) (by omega) (by omega), ⟨by decide, by decide⟩, by omega, q1 _ rfl⟩
      rw [fm_all]
      have eL : ∃ L, ((List.range d.length).map fun (k : Nat) => Tr.int (((k : Int) * turn + (k : Int) / 3) % w)) = L.map natT ∧ RowOk L d.length w := row_of (by simp) fun j y hy => by
        rw [List.getElem?_map] at hy
        cases ej : (List.range d.length)[j]? with
        | none => rw [ej] at hy; cases hy
        | some k =>
          rw [ej] at hy
          cases hy
          obtain ⟨x, hx, hx2⟩ := nat_mod (x := (k : Int) * turn + (k : Int) / 3) (k := w) hw1
          exact ⟨x, congrArg Tr.int hx, hx2⟩
      obtain ⟨L, eL, hL⟩ := eL
      have K12 : Le M11 (up M11 p (.lst ((List.range d.length).map fun (k : Nat) => Tr.int (((k : Int) * turn + (k : Int) / 3) % w)))) := Le.new hp
      have ep12 : up M11 p (.lst ((List.range d.length).map fun (k : Nat) => Tr.int (((k : Int) * turn + (k : Int) / 3) % w))) p = some (.lst (L.map natT)) := by rw [up_same, eL]
      have hf12 := K12 _ _ hf11
      have eg12 := K12 _ _ eg11
      simp only [Int.toNat_natCast]
      generalize up M11 p (.lst ((List.range d.length).map fun (k : Nat) => Tr.int (((k : Int) * turn + (k : Int) / 3) % w))) = M12 at K12 ep12 hf12 eg12
      simp [ep12]
      refine ⟨_, _, _, rfl, m1, d, L, rfl, rfl, rfl, hm1, hv, by rw [hw]; exact hL, ?_⟩
      simp
      exact hN _ _ ⟨_, _, _, _, _, _, _, _, o8, rfl, K11.trans K12, hf12, hF8.mono (by decide), eg12⟩
    · simp [c]
      exact hN _ _ ⟨_, _, _, _, _, _, _, _, o6, rfl, K9, hf9, hF6.mono (by decide), eg9⟩
  clear hf8 eg8 K8
  rintro σ M9 ⟨z4, z5, z6, z7, z8, z9, z10, z11, o6, rfl, K9, hf9, hF9, eg9⟩
  have em1 : macT m1 = .tup [nmT m1.nm, .tup (m1.be.map rowT), natT m1.top, .tup (m1.st.map rowT), rowT m1.go] := rfl
  have em2 : macT m2 = .tup [nmT m2.nm, .tup (m2.be.map rowT), natT m2.top, .tup (m2.st.map rowT), rowT m2.go] := rfl
  simp only [b__law_asked_one_14]
  refine seq_cut (fun σ M' => ∃ z4 z5 z6 z7 z8 z9 z10 z11 o' m3, MacOk m3 ∧ m3.nm.length = many ∧ σ = [some (scT ns), some (.loc f), some (.int many), some (.loc g), z4, z5, z6, z7, z8, z9, z10, z11] ∧ Le M M' ∧ M' f = some o' ∧ FeedO 15000 o' ∧ M' g = some (.lst [macT m1, macT m3])) (fun NX hN => ?_) ?_
  · simp
    refine ⟨_, _, rfl, f, 4, _, o6, rfl, rfl, by decide, by decide, by decide, hf9, hF9, fun r o7 h1 h2 hF10 => ?_⟩
    have hf10 : up M9 f o7 f = some o7 := up_same
    have eg10 : up M9 f o7 g = some (.lst [macT m1, macT m2]) := by rw [up_ne fg.symm]; exact eg9
    have K10 : Le M (up M9 f o7) := fun a u h => by rw [up_ne (m_ne h hMf)]; exact K9 a u h
    generalize up M9 f o7 = M10 at hf10 eg10 K10
    simp
    by_cases c : r = 0
    · simp [c]
      simp only [b__law_asked_one_4]
      simp [eg10, em2]
      refine ⟨_, _, rfl, f, 52, _, o7, rfl, rfl, by decide, by decide, by decide, hf10, hF10, fun r2 o8 h3 h4 hF11 => ?_⟩
      obtain ⟨wide, hwd, hwd1, hwd2⟩ : ∃ wide : Nat, (9 : Int) + r2 = wide ∧ 1 ≤ wide ∧ wide ≤ 300 := ⟨(9 + r2).toNat, by omega, by omega, by omega⟩
      simp [hwd]
      refine ⟨_, _, _, rfl, f, m2.nm, wide, _, o8, rfl, rfl, rfl, hm2.nm, hwd1, hwd2, by decide, up_same, hF11, fun m3 o9 hm3 hmn3 hF12 => ?_⟩
      rw [up_up]
      have eg11 : up M10 f o9 g = some (.lst [macT m1, macT m2]) := by rw [up_ne fg.symm]; exact eg10
      simp [eg11]
      refine hN _ _ ⟨_, _, _, _, _, _, _, _, o9, m3, hm3, by rw [hmn3]; exact hk2, rfl, fun a u h => ?_, by rw [up_ne fg]; exact up_same, hF12.mono (by decide), up_same⟩
      rw [up_ne (m_ne h hMg), up_ne (m_ne h hMf)]; exact K10 a u h
    · simp [c]
      exact hN _ _ ⟨_, _, _, _, _, _, _, _, o7, m2, hm2, hk2, rfl, K10, hf10, hF10.mono (by decide), eg10⟩
  clear K9 hf9 hF9 eg9
  rintro σ M9 ⟨z4, z5, z6, z7, z8, z9, z10, z11, o6, m3, hm3, hk3, rfl, K9, hf9, hF9, eg9⟩
  simp only [b__law_asked_one_13]
  refine seq_cut (fun σ M' => ∃ z4 z5 z6 z7 z8 z9 z10 z11, σ = [some (scT ns), some (.loc f), some (.int many), some (.loc g), z4, z5, z6, z7, z8, z9, z10, z11] ∧ Le M M' ∧ M' g = some (.lst [macT m1, macT m3])) (fun NX hN => ?_) ?_
  · simp
    refine ⟨_, _, rfl, f, 6, _, o6, rfl, rfl, by decide, by decide, by decide, hf9, hF9, fun r o7 h1 h2 hF10 => ?_⟩
    have hf10 : up M9 f o7 f = some o7 := up_same
    have eg10 : up M9 f o7 g = some (.lst [macT m1, macT m3]) := by rw [up_ne fg.symm]; exact eg9
    have K10 : Le M (up M9 f o7) := fun a u h => by rw [up_ne (m_ne h hMf)]; exact K9 a u h
    generalize up M9 f o7 = M10 at hf10 eg10 K10
    simp
    by_cases c : r = 0
    · simp [c]
      simp only [b__law_asked_one_6]
      simp [eg10, em1]
      refine ⟨_, _, rfl, f, 11, _, o7, rfl, rfl, by decide, by decide, by decide, hf10, hF10, fun r2 o8 h3 h4 hF11 => ?_⟩
      obtain ⟨wide, hwd, hwd1, hwd2⟩ : ∃ wide : Nat, (290 : Int) + r2 = wide ∧ 1 ≤ wide ∧ wide ≤ 300 := ⟨(290 + r2).toNat, by omega, by omega, by omega⟩
      simp [hwd]
      refine ⟨_, _, _, rfl, f, m1.nm, wide, _, o8, rfl, rfl, rfl, hm1.nm, hwd1, hwd2, by decide, up_same, hF11, fun m4 o9 hm4 hmn4 hF12 => ?_⟩
      simp [up_up]
      refine ⟨_, _, rfl, f, 30, _, o9, rfl, rfl, by decide, by decide, up_same, hF12, fun d o10 hv hdl hF13 => ?_⟩
      simp only [b__law_asked_one_5]
      have em4 : macT m4 = .tup [nmT m4.nm, .tup (m4.be.map rowT), natT m4.top, .tup (m4.st.map rowT), rowT m4.go] := rfl
      simp [em4, up_up]
      refine ⟨_, _, _, rfl, f, d, m4.nm, _, o10, rfl, rfl, rfl, hm4.nm.len, by omega, by decide, up_same, hF13, fun L o11 hL hF14 => ?_⟩
      simp [up_up]
      refine ⟨_, _, _, rfl, m4, d, L, rfl, rfl, rfl, hm4, hv, hL, ?_⟩
      simp
      refine hN _ _ ⟨_, _, _, _, _, _, _, _, rfl, fun a u h => ?_, by rw [up_ne fg.symm]; exact eg10⟩
      rw [up_ne (m_ne h hMf)]; exact K10 a u h
    · simp [c]
      exact hN _ _ ⟨_, _, _, _, _, _, _, _, rfl, K10, eg10⟩
  clear K9 hf9 hF9 eg9
  rintro σ M9 ⟨z4, z5, z6, z7, z8, z9, z10, z11, rfl, K9, eg9⟩
  have em3 : macT m3 = .tup [nmT m3.nm, .tup (m3.be.map rowT), natT m3.top, .tup (m3.st.map rowT), rowT m3.go] := rfl
  simp only [b__law_asked_one_12]
  simp
  have hnl := hs.1
  have hKb : (0 : Int) ≤ (if (4 : Int) < (if (ns.length : Int) < 63 then (ns.length : Int) else 63) then (if (ns.length : Int) < 63 then (ns.length : Int) else 63) else 4) ∧ (if (4 : Int) < (if (ns.length : Int) < 63 then (ns.length : Int) else 63) then (if (ns.length : Int) < 63 then (ns.length : Int) else 63) else 4) ≤ 63 := by
    repeat' split
    all_goals omega
  refine ⟨rg_small (by decide) (by decide), rg_small hKb.1 (by omega), ?_⟩
  rw [show ((List.map Tr.int ns).length : Int) = (ns.length : Int) by simp]
  have hKn : ((if (if (ns.length : Int) < 63 then (ns.length : Int) else 63) > 4 then (if (ns.length : Int) < 63 then (ns.length : Int) else 63) else 4) - 1).toNat ≤ 63 := by
    have : (if (if (ns.length : Int) < 63 then (ns.length : Int) else 63) > 4 then (if (ns.length : Int) < 63 then (ns.length : Int) else 63) else 4) ≤ 63 := hKb.2
    omega
  generalize ((if (if (ns.length : Int) < 63 then (ns.length : Int) else 63) > 4 then (if (ns.length : Int) < 63 then (ns.length : Int) else 63) else 4) - 1).toNat = K at hKn
  refine for_itR (fun i σ M' => ∃ y1 z4 z5 z6 z7 z8 z9 z10 z11, σ = [some (scT ns), y1, some (.int many), some (.loc g), z4, z5, z6, z7, z8, z9, z10, z11] ∧ Le M M' ∧ M' g = some (.lst [macT m1, macT m3])) ?_ ?_ ?_
  · exact ⟨_, _, _, _, _, _, _, _, _, rfl, K9, eg9⟩
  · rintro i σ M1 hi ⟨y1, z4, z5, z6, z7, z8, z9, z10, z11, rfl, K1, eg1⟩
    have e1 : (1 : Int) + (i : Int) = ((i + 1 : Nat) : Int) := by omega
    simp
    rw [e1]
    simp only [b__law_asked_one_11]
    simp
    refine ⟨_, _, rfl, ns, i + 1, rfl, by simp, hs, by omega, fun f3 o3 hf3n hF3 => ?_⟩
    have f3g : f3 ≠ g := m_ne' eg1 hf3n
    have hM3 : M f3 = none := K1.none hf3n
    have hf3 : up M1 f3 o3 f3 = some o3 := up_same
    have eg2 : up M1 f3 o3 g = some (.lst [macT m1, macT m3]) := by rw [up_ne f3g.symm]; exact eg1
    have K2 : Le M (up M1 f3 o3) := K1.trans (Le.new hf3n)
    generalize up M1 f3 o3 = M2 at hf3 eg2 K2
    simp only [b__law_asked_one_10]
    have l3 : 3 ≤ sizeLine := small_line (by decide)
    simp [l3]
    intro q hq1
    have eq1 : up M2 q (.lst [.int 3, .int 8, .int 30]) q = some (.lst [.int 3, .int 8, .int 30]) := up_same
    have fq : f3 ≠ q := m_ne hf3 hq1
    have K3 : Le M (up M2 q (.lst [.int 3, .int 8, .int 30])) := K2.trans (Le.new hq1)
    have hf4 := Le.new (o := .lst [.int 3, .int 8, .int 30]) hq1 _ _ hf3
    have eg3 := Le.new (o := .lst [.int 3, .int 8, .int 30]) hq1 _ _ eg2
    generalize up M2 q (.lst [.int 3, .int 8, .int 30]) = M3 at eq1 K3 hf4 eg3
    refine ⟨_, _, rfl, f3, _, 0, o3, rfl, lenT_lst eq1, seqT_lst eq1, (fun e => by cases e; exact fq rfl), by simp, by simp, by decide, hf4, hF3, fun r o4 hr hF4 => ?_⟩
    obtain ⟨most, rfl, hmost⟩ : ∃ most : Nat, r = .int most ∧ most ≤ 30 := by
      simp at hr
      rcases hr with rfl | rfl | rfl
      · exact ⟨3, rfl, by decide⟩
      · exact ⟨8, rfl, by decide⟩
      · exact ⟨30, rfl, by decide⟩
    refine ⟨_, _, rfl, f3, most, _, o4, rfl, rfl, by omega, by decide, up_same, hF4, fun d o5 hv hdl hF5 => ?_⟩
    rw [up_up]
    have eg4 : up M3 f3 o5 g = some (.lst [macT m1, macT m3]) := by rw [up_ne f3g.symm]; exact eg3
    have hf5 : up M3 f3 o5 f3 = some o5 := up_same
    have K4 : Le M (up M3 f3 o5) := fun a u h => by rw [up_ne (m_ne h hM3)]; exact K3 a u h
    generalize up M3 f3 o5 = M4 at eg4 hf5 K4
    simp only [b__law_asked_one_9]
    simp [eg4, em1]
    refine ⟨_, _, _, rfl, f3, d, m1.nm, _, o5, rfl, rfl, rfl, hm1.nm.len, by omega, by decide, hf5, hF5, fun L o6 hL hF6 => ?_⟩
    simp
    refine ⟨_, _, rfl, f3, 2, _, o6, rfl, rfl, by decide, by decide, by decide, up_same, hF6, fun at_ o7 ha1 ha2 hF7 => ?_⟩
    rw [up_up]
    have eg5 : up M4 f3 o7 g = some (.lst [macT m1, macT m3]) := by rw [up_ne f3g.symm]; exact eg4
    have K5 : Le M (up M4 f3 o7) := fun a u h => by rw [up_ne (m_ne h hM3)]; exact K4 a u h
    generalize up M4 f3 o7 = M5 at eg5 K5
    simp
    simp only [b__law_asked_one_8]
    simp
    intro t ht
    have et : up M5 t (.lst [.int at_, .int (1 - at_), .int at_]) t = some (.lst [.int at_, .int (1 - at_), .int at_]) := up_same
    have K6 : Le M5 (up M5 t (.lst [.int at_, .int (1 - at_), .int at_])) := Le.new ht
    have eg6 := K6 _ _ eg5
    have K6 := K5.trans K6
    generalize up M5 t (.lst [.int at_, .int (1 - at_), .int at_]) = M6 at et K6 eg6
    simp [et]
    refine for_itL (fun j σ M' => M' = M6 ∧ ∃ z11, σ = [some (scT ns), some (.loc f3), some (.int many), some (.loc g), some (docT d), z5, z6, z7, some (.int ((i : Int) + 1)), some (rowT L), some (.int at_), z11]) ⟨rfl, _, rfl⟩ ?_ ?_ ?_
    · rintro j σ M' _ ⟨rfl, _⟩
      show seqT (.loc t) _ = _
      exact seqT_lst et
    · rintro j e σ M' he ⟨rfl, z11, rfl⟩
      have hem := List.mem_of_getElem? he
      obtain ⟨w, rfl, hw⟩ : ∃ w : Nat, e = .int w ∧ w < 2 := by
        simp at hem
        rcases hem with rfl | rfl | rfl
        · exact ⟨at_.toNat, by congr 1; omega, by omega⟩
        · exact ⟨(1 - at_).toNat, by congr 1; omega, by omega⟩
        · exact ⟨at_.toNat, by congr 1; omega, by omega⟩
      obtain ⟨mw, em, hmw, hkw⟩ : ∃ mw, [macT m1, macT m3][w]? = some (macT mw) ∧ MacOk mw ∧ mw.nm.length = many := by
        rcases w with _ | _ | w
        · exact ⟨m1, rfl, hm1, hk1⟩
        · exact ⟨m3, rfl, hm3, hk3⟩
        · omega
      simp
      simp only [b__law_asked_one_7]
      simp [eg6, ↓kAt_get em]
      refine ⟨_, _, _, rfl, mw, d, L, rfl, rfl, rfl, hmw, hv, by rw [hkw, ← hk1]; exact hL, ?_⟩
      simp
    · rintro σ M' ⟨rfl, z11, rfl⟩
      exact ⟨⟨_, _, _, _, _, _, _, _, _, rfl⟩, K6, eg6⟩
  · rintro σ M1 ⟨y1, z4, z5, z6, z7, z8, z9, z10, z11, rfl, K1, eg1⟩
    simp
    exact Fg.le K1 hq
end T

/-! Z: the law k36, its second half. -/
namespace T
open PySem PySem.Spec PyProof.Rows L2
def sp__law_asked_two : Sp2 := A1 fun a M Q _ => ∃ ns, a = scT ns ∧ Script ns ∧ Q (.bl true) M
def n__law_asked_two : List Str := "script" :: "feed" :: "many" :: "machines" :: "document" :: "wide" :: "k" :: "machine" :: []
def b__law_asked_two_1 : TS2 := (sIf (tNo (tTr (eCall sp__law_right_too [] (aCons (eVar 1) (aCons (eOp rIx2 (eVar 3) (eC (.int 0))) (aCons (eVar 4) (aCons (eOp rMulT (eTup (aCons (eC (.int 0)) aNil)) (eB rLen2 (aCons (eVar 4) aNil))) aNil))))))) (sRt (eC (.bl false))) sNx)
def b__law_asked_two_2 : TS2 := (sSq (sAs (eCall sp__law_great [] (aCons (eVar 1) aNil)) (gN 4))
  b__law_asked_two_1)
def b__law_asked_two_3 : TS2 := (sAs (eCall sp__law_wide [] (aCons (eVar 1) (aCons (eOp rIx2 (eOp rIx2 (eVar 3) (eC (.int 1))) (eC (.int 0))) (aCons (eOp rAdd2 (eC (.int 9)) (eCall sp__law_draw [] (aCons (eVar 1) (aCons (eC (.int 52)) aNil)))) aNil)))) (gSb rPut2 (eVar 3) (eC (.int 1))))
def b__law_asked_two_4 : TS2 := (sIf (tNo (tTr (eCall sp__law_right_too [] (aCons (eVar 1) (aCons (eVar 5) (aCons (eVar 4) (aCons (eCall sp__law_laying [] (aCons (eVar 1) (aCons (eVar 4) (aCons (eOp rIx2 (eVar 5) (eC (.int 0))) aNil)))) aNil))))))) (sRt (eC (.bl false))) sNx)
def b__law_asked_two_5 : TS2 := (sSq (sPr 5 4 (aCons (eCall sp__law_wide [] (aCons (eVar 1) (aCons (eOp rIx2 (eOp rIx2 (eVar 3) (eC (.int 0))) (eC (.int 0))) (aCons (eOp rAdd2 (eC (.int 290)) (eCall sp__law_draw [] (aCons (eVar 1) (aCons (eC (.int 11)) aNil)))) aNil)))) (aCons (eCall sp__law_document [] (aCons (eVar 1) (aCons (eC (.int 15)) aNil))) aNil)))
  b__law_asked_two_4)
def b__law_asked_two_6 : TS2 := (sIf (tNo (tTr (eCall sp__law_right_too [] (aCons (eVar 1) (aCons (eVar 7) (aCons (eVar 4) (aCons (eCall sp__law_laying [] (aCons (eVar 1) (aCons (eVar 4) (aCons (eOp rIx2 (eVar 7) (eC (.int 0))) aNil)))) aNil))))))) (sRt (eC (.bl false))) sNx)
def b__law_asked_two_7 : TS2 := (sSq (sAs (eOp rIx2 (eVar 3) (eCall sp__law_draw [] (aCons (eVar 1) (aCons (eC (.int 2)) aNil)))) (gN 7))
  b__law_asked_two_6)
def b__law_asked_two_8 : TS2 := (sSq (sAs (eCall sp__law_document [] (aCons (eVar 1) (aCons (eCall sp__law_one [] (aCons (eVar 1) (aCons (eLst (aCons (eC (.int 2)) (aCons (eC (.int 6)) (aCons (eC (.int 15)) aNil)))) aNil))) aNil))) (gN 4))
  b__law_asked_two_7)
def b__law_asked_two_9 : TS2 := (sSq (sAs (eCall sp__law_feed [] (aCons (eVar 0) (aCons (eVar 6) aNil))) (gN 1))
  b__law_asked_two_8)
def b__law_asked_two_10 : TS2 := (sSq (sFo (iRg2 (aCons (eC (.int 1)) (aCons (eB rMax2 (aCons (eC (.int 4)) (aCons (eB rMin2 (aCons (eC (.int 63)) (aCons (eB rLen2 (aCons (eVar 0) aNil)) aNil))) aNil))) aNil))) (gN 6) b__law_asked_two_9)
  (sRt (eC (.bl true))))
def b__law_asked_two_11 : TS2 := (sSq (sIf (tCm (eOp (rEqG id) (eCall sp__law_draw [] (aCons (eVar 1) (aCons (eC (.int 6)) aNil))) (eC (.int 0)))) b__law_asked_two_5 sNx)
  b__law_asked_two_10)
def b__law_asked_two_12 : TS2 := (sSq (sIf (tCm (eOp (rEqG id) (eCall sp__law_draw [] (aCons (eVar 1) (aCons (eC (.int 4)) aNil))) (eC (.int 0)))) b__law_asked_two_3 sNx)
  b__law_asked_two_11)
def b__law_asked_two_13 : TS2 := (sSq (sIf (tCm (eOp (rEqG id) (eCall sp__law_draw [] (aCons (eVar 1) (aCons (eC (.int 6)) aNil))) (eC (.int 0)))) b__law_asked_two_2 sNx)
  b__law_asked_two_12)
def b__law_asked_two_14 : TS2 := (sSq (sAs (eLst (aCons (eCall sp__law_machine [] (aCons (eVar 1) (aCons (eCall sp__law_names [] (aCons (eVar 1) (aCons (eVar 2) aNil))) (aCons (eC (.int 8)) aNil)))) (aCons (eCall sp__law_machine [] (aCons (eCall sp__law_feed [] (aCons (eVar 0) (aCons (eC (.int 1)) aNil))) (aCons (eCall sp__law_names [] (aCons (eVar 1) (aCons (eVar 2) aNil))) (aCons (eC (.int 8)) aNil)))) aNil))) (gN 3))
  b__law_asked_two_13)
def b__law_asked_two_15 : TS2 := (sSq (sAs (eCall sp__law_one [] (aCons (eVar 1) (aCons (eLst (aCons (eC (.int 0)) (aCons (eC (.int 1)) (aCons (eC (.int 1)) (aCons (eC (.int 2)) (aCons (eC (.int 3)) (aCons (eC (.int 5)) aNil))))))) aNil))) (gN 2))
  b__law_asked_two_14)
def b__law_asked_two : TS2 := (sSq (sAs (eCall sp__law_feed [] (aCons (eVar 0) (aCons (eC (.int 0)) aNil))) (gN 1))
  b__law_asked_two_15)
theorem sem__law_asked_two : ∀ ds M Q E, sp__law_asked_two ds M Q E → b__law_asked_two (fEnds Q E) (start2 n__law_asked_two ds) M := by
  rintro ds M Q E ⟨a, rfl, ns, rfl, hs, hq⟩
  have l6 : 6 ≤ sizeLine := small_line (by decide)
  simp only [b__law_asked_two, start2, n__law_asked_two]
  simp
  refine ⟨_, _, rfl, ns, 0, rfl, rfl, hs, by decide, fun f o hf hF => ?_⟩
  have hf1 : up M f o f = some o := up_same
  have L1 : Le M (up M f o) := Le.new hf
  generalize up M f o = M1 at hf1 L1
  simp only [b__law_asked_two_15]
  simp [l6]
  intro q hq1
  have eq1 : up M1 q (.lst [.int 0, .int 1, .int 1, .int 2, .int 3, .int 5]) q = some (.lst [.int 0, .int 1, .int 1, .int 2, .int 3, .int 5]) := up_same
  have fq : f ≠ q := m_ne hf1 hq1
  have L2 : Le M (up M1 q (.lst [.int 0, .int 1, .int 1, .int 2, .int 3, .int 5])) := L1.trans (Le.new hq1)
  have hf2 := Le.new (o := .lst [.int 0, .int 1, .int 1, .int 2, .int 3, .int 5]) hq1 _ _ hf1
  generalize up M1 q (.lst [.int 0, .int 1, .int 1, .int 2, .int 3, .int 5]) = M2 at eq1 L2 hf2
  refine ⟨_, _, rfl, f, _, 0, o, rfl, lenT_lst eq1, seqT_lst eq1, (fun e => by cases e; exact fq rfl), by simp, by simp, by decide, hf2, hF, fun r o1 hr hF1 => ?_⟩
  obtain ⟨many, rfl, hmany⟩ : ∃ many : Nat, r = .int many ∧ many ≤ 5 := by
    simp at hr
    rcases hr with rfl | rfl | rfl | rfl | rfl
    · exact ⟨0, rfl, by decide⟩
    · exact ⟨1, rfl, by decide⟩
    · exact ⟨2, rfl, by decide⟩
    · exact ⟨3, rfl, by decide⟩
    · exact ⟨5, rfl, by decide⟩
  have hMf : M f = none := hf
  have K2 : Le M (up M2 f o1) := fun a u h => by rw [up_ne (m_ne h hMf)]; exact L2 a u h
  have hf3 : up M2 f o1 f = some o1 := up_same
  generalize up M2 f o1 = M3 at K2 hf3
  simp only [b__law_asked_two_14]
  simp
  refine ⟨_, _, rfl, f, many, _, o1, rfl, rfl, hmany, by decide, hf3, hF1, fun l1 o2 hn1 hl1 hF2 => ?_⟩
  simp
  refine ⟨_, _, _, rfl, f, l1, 8, _, o2, rfl, rfl, rfl, hn1, by decide, by decide, by omega, up_same, hF2, fun m1 o3 hm1 hmn1 hF3 => ?_⟩
  simp [up_up]
  have hf4 : up M3 f o3 f = some o3 := up_same
  have K4 : Le M (up M3 f o3) := fun a u h => by rw [up_ne (m_ne h hMf)]; exact K2 a u h
  generalize up M3 f o3 = M4 at hf4 K4
  refine ⟨_, _, rfl, ns, 1, rfl, rfl, hs, by decide, fun f2 o4 hf2n hF4 => ?_⟩
  have ff2 : f ≠ f2 := m_ne hf4 hf2n
  have hf5 : up M4 f2 o4 f = some o3 := by rw [up_ne ff2]; exact hf4
  have hff5 : up M4 f2 o4 f2 = some o4 := up_same
  have K5 : Le M (up M4 f2 o4) := K4.trans (Le.new hf2n)
  have hMf2 : M f2 = none := K4.none hf2n
  generalize up M4 f2 o4 = M5 at hf5 hff5 K5
  simp
  refine ⟨_, _, rfl, f, many, _, o3, rfl, rfl, hmany, by omega, hf5, hF3, fun l2 o5 hn2 hl2 hF5 => ?_⟩
  have hff6 : up M5 f o5 f2 = some o4 := by rw [up_ne ff2.symm]; exact hff5
  have hf6 : up M5 f o5 f = some o5 := up_same
  have K6 : Le M (up M5 f o5) := fun a u h => by rw [up_ne (m_ne h hMf)]; exact K5 a u h
  generalize up M5 f o5 = M6 at hff6 hf6 K6
  simp
  refine ⟨_, _, _, rfl, f2, l2, 8, 0, o4, rfl, rfl, rfl, hn2, by decide, by decide, by decide, hff6, hF4, fun m2 o6 hm2 hmn2 hF6 => ?_⟩
  have hf7 : up M6 f2 o6 f = some o5 := by rw [up_ne ff2]; exact hf6
  have K7 : Le M (up M6 f2 o6) := fun a u h => by rw [up_ne (m_ne h hMf2)]; exact K6 a u h
  generalize up M6 f2 o6 = M7 at hf7 K7
  have l2' : 2 ≤ sizeLine := small_line (by decide)
  simp [l2']
  intro g hg
  have fg : f ≠ g := m_ne hf7 hg
  have hMg : M g = none := K7.none hg
  have hf8 : up M7 g (.lst [macT m1, macT m2]) f = some o5 := by rw [up_ne fg]; exact hf7
  have eg8 : up M7 g (.lst [macT m1, macT m2]) g = some (.lst [macT m1, macT m2]) := up_same
  have K8 : Le M (up M7 g (.lst [macT m1, macT m2])) := K7.trans (Le.new hg)
  generalize up M7 g (.lst [macT m1, macT m2]) = M8 at hf8 eg8 K8
  have hk1 : m1.nm.length = many := by rw [hmn1]; exact hl1
  have hk2 : m2.nm.length = many := by rw [hmn2]; exact hl2
  clear hF1 hF2 hF3
  have hF5 : FeedO 5000 o5 := hF5.mono (by omega)
  simp only [b__law_asked_two_13]
  refine seq_cut (fun σ M' => ∃ z4 z5 z6 z7 o', σ = [some (scT ns), some (.loc f), some (.int many), some (.loc g), z4, z5, z6, z7] ∧ Le M M' ∧ M' f = some o' ∧ FeedO 10000 o' ∧ M' g = some (.lst [macT m1, macT m2])) (fun NX hN => ?_) ?_
  · simp
    refine ⟨_, _, rfl, f, 6, _, o5, rfl, rfl, by decide, by decide, by decide, hf8, hF5, fun r o6 h1 h2 hF6 => ?_⟩
    have hf9 : up M8 f o6 f = some o6 := up_same
    have eg9 : up M8 f o6 g = some (.lst [macT m1, macT m2]) := by rw [up_ne fg.symm]; exact eg8
    have K9 : Le M (up M8 f o6) := fun a u h => by rw [up_ne (m_ne h hMf)]; exact K8 a u h
    generalize up M8 f o6 = M9 at hf9 eg9 K9
    simp
    by_cases c : r = 0
    · simp [c]
      simp only [b__law_asked_two_2]
      simp
      refine ⟨_, rfl, f, _, o6, rfl, by decide, hf9, hF6, fun d o7 hv hd2 hF7 => ?_⟩
      have eg10 : up M9 f o7 g = some (.lst [macT m1, macT m2]) := by rw [up_ne fg.symm]; exact eg9
      have hf10 : up M9 f o7 f = some o7 := up_same
      have K10 : Le M (up M9 f o7) := fun a u h => by rw [up_ne (m_ne h hMf)]; exact K9 a u h
      generalize up M9 f o7 = M10 at hf10 eg10 K10
      simp only [b__law_asked_two_1]
      have hl := hv.2
      simp [eg10]
      refine ⟨small_line (by decide), by omega, by omega, ?_⟩
      have eL : (List.replicate d.length (Tr.int 0)) = (List.replicate d.length 0).map natT := by simp
      rw [eL]
      have hL0 : RowOk (List.replicate d.length 0) d.length (2 ^ m1.nm.length) := ⟨by simp, fun x hx => by
        have := List.eq_of_mem_replicate hx
        subst this
        exact Nat.two_pow_pos _⟩
      refine ⟨_, _, _, _, rfl, f, m1, d, List.replicate d.length 0, _, o7, rfl, rfl, rfl, rfl, hm1, hv, hL0, by decide, hf10, hF7, fun o8 hF8 => ?_⟩
      have eg11 : up M10 f o8 g = some (.lst [macT m1, macT m2]) := by rw [up_ne fg.symm]; exact eg10
      have K11 : Le M (up M10 f o8) := fun a u h => by rw [up_ne (m_ne h hMf)]; exact K10 a u h
      simp
      exact hN _ _ ⟨_, _, _, _, o8, rfl, K11, up_same, hF8.mono (by decide), eg11⟩
    · simp [c]
      exact hN _ _ ⟨_, _, _, _, o6, rfl, K9, hf9, hF6.mono (by decide), eg9⟩
  clear hf8 eg8 K8
  rintro σ M9 ⟨z4, z5, z6, z7, o6, rfl, K9, hf9, hF9, eg9⟩
  have em1 : macT m1 = .tup [nmT m1.nm, .tup (m1.be.map rowT), natT m1.top, .tup (m1.st.map rowT), rowT m1.go] := rfl
  have em2 : macT m2 = .tup [nmT m2.nm, .tup (m2.be.map rowT), natT m2.top, .tup (m2.st.map rowT), rowT m2.go] := rfl
  simp only [b__law_asked_two_12]
  refine seq_cut (fun σ M' => ∃ z4 z5 z6 z7 o' m3, MacOk m3 ∧ m3.nm.length = many ∧ σ = [some (scT ns), some (.loc f), some (.int many), some (.loc g), z4, z5, z6, z7] ∧ Le M M' ∧ M' f = some o' ∧ FeedO 15000 o' ∧ M' g = some (.lst [macT m1, macT m3])) (fun NX hN => ?_) ?_
  · simp
    refine ⟨_, _, rfl, f, 4, _, o6, rfl, rfl, by decide, by decide, by decide, hf9, hF9, fun r o7 h1 h2 hF10 => ?_⟩
    have hf10 : up M9 f o7 f = some o7 := up_same
    have eg10 : up M9 f o7 g = some (.lst [macT m1, macT m2]) := by rw [up_ne fg.symm]; exact eg9
    have K10 : Le M (up M9 f o7) := fun a u h => by rw [up_ne (m_ne h hMf)]; exact K9 a u h
    generalize up M9 f o7 = M10 at hf10 eg10 K10
    simp
    by_cases c : r = 0
    · simp [c]
      simp only [b__law_asked_two_3]
      simp [eg10, em2]
      refine ⟨_, _, rfl, f, 52, _, o7, rfl, rfl, by decide, by decide, by decide, hf10, hF10, fun r2 o8 h3 h4 hF11 => ?_⟩
      obtain ⟨wide, hwd, hwd1, hwd2⟩ : ∃ wide : Nat, (9 : Int) + r2 = wide ∧ 1 ≤ wide ∧ wide ≤ 300 := ⟨(9 + r2).toNat, by omega, by omega, by omega⟩
      simp [hwd]
      refine ⟨_, _, _, rfl, f, m2.nm, wide, _, o8, rfl, rfl, rfl, hm2.nm, hwd1, hwd2, by decide, up_same, hF11, fun m3 o9 hm3 hmn3 hF12 => ?_⟩
      rw [up_up]
      have eg11 : up M10 f o9 g = some (.lst [macT m1, macT m2]) := by rw [up_ne fg.symm]; exact eg10
      simp [eg11]
      refine hN _ _ ⟨_, _, _, _, o9, m3, hm3, by rw [hmn3]; exact hk2, rfl, fun a u h => ?_, by rw [up_ne fg]; exact up_same, hF12.mono (by decide), up_same⟩
      rw [up_ne (m_ne h hMg), up_ne (m_ne h hMf)]; exact K10 a u h
    · simp [c]
      exact hN _ _ ⟨_, _, _, _, o7, m2, hm2, hk2, rfl, K10, hf10, hF10.mono (by decide), eg10⟩
  clear K9 hf9 hF9 eg9
  rintro σ M9 ⟨z4, z5, z6, z7, o6, m3, hm3, hk3, rfl, K9, hf9, hF9, eg9⟩
  simp only [b__law_asked_two_11]
  refine seq_cut (fun σ M' => ∃ z4 z5 z6 z7, σ = [some (scT ns), some (.loc f), some (.int many), some (.loc g), z4, z5, z6, z7] ∧ Le M M' ∧ M' g = some (.lst [macT m1, macT m3])) (fun NX hN => ?_) ?_
  · simp
    refine ⟨_, _, rfl, f, 6, _, o6, rfl, rfl, by decide, by decide, by decide, hf9, hF9, fun r o7 h1 h2 hF10 => ?_⟩
    have hf10 : up M9 f o7 f = some o7 := up_same
    have eg10 : up M9 f o7 g = some (.lst [macT m1, macT m3]) := by rw [up_ne fg.symm]; exact eg9
    have K10 : Le M (up M9 f o7) := fun a u h => by rw [up_ne (m_ne h hMf)]; exact K9 a u h
    generalize up M9 f o7 = M10 at hf10 eg10 K10
    simp
    by_cases c : r = 0
    · simp [c]
      simp only [b__law_asked_two_5]
      simp [eg10, em1]
      refine ⟨_, _, rfl, f, 11, _, o7, rfl, rfl, by decide, by decide, by decide, hf10, hF10, fun r2 o8 h3 h4 hF11 => ?_⟩
      obtain ⟨wide, hwd, hwd1, hwd2⟩ : ∃ wide : Nat, (290 : Int) + r2 = wide ∧ 1 ≤ wide ∧ wide ≤ 300 := ⟨(290 + r2).toNat, by omega, by omega, by omega⟩
      simp [hwd]
      refine ⟨_, _, _, rfl, f, m1.nm, wide, _, o8, rfl, rfl, rfl, hm1.nm, hwd1, hwd2, by decide, up_same, hF11, fun m4 o9 hm4 hmn4 hF12 => ?_⟩
      simp [up_up]
      refine ⟨_, _, rfl, f, 15, _, o9, rfl, rfl, by decide, by decide, up_same, hF12, fun d o10 hv hdl hF13 => ?_⟩
      simp only [b__law_asked_two_4]
      have em4 : macT m4 = .tup [nmT m4.nm, .tup (m4.be.map rowT), natT m4.top, .tup (m4.st.map rowT), rowT m4.go] := rfl
      simp [em4, up_up]
      refine ⟨_, _, _, rfl, f, d, m4.nm, _, o10, rfl, rfl, rfl, hm4.nm.len, by omega, by decide, up_same, hF13, fun L o11 hL hF14 => ?_⟩
      simp [up_up]
      refine ⟨_, _, _, _, rfl, f, m4, d, L, _, o11, rfl, rfl, rfl, rfl, hm4, hv, hL, by decide, up_same, hF14, fun o12 hF15 => ?_⟩
      rw [up_up]
      simp
      refine hN _ _ ⟨_, _, _, _, rfl, fun a u h => ?_, by rw [up_ne fg.symm]; exact eg10⟩
      rw [up_ne (m_ne h hMf)]; exact K10 a u h
    · simp [c]
      exact hN _ _ ⟨_, _, _, _, rfl, K10, eg10⟩
  clear K9 hf9 hF9 eg9
  rintro σ M9 ⟨z4, z5, z6, z7, rfl, K9, eg9⟩
  simp only [b__law_asked_two_10]
  simp
  have hnl := hs.1
  have hKb : (0 : Int) ≤ (if (4 : Int) < (if (ns.length : Int) < 63 then (ns.length : Int) else 63) then (if (ns.length : Int) < 63 then (ns.length : Int) else 63) else 4) ∧ (if (4 : Int) < (if (ns.length : Int) < 63 then (ns.length : Int) else 63) then (if (ns.length : Int) < 63 then (ns.length : Int) else 63) else 4) ≤ 63 := by
    repeat' split
    all_goals omega
  refine ⟨rg_small (by decide) (by decide), rg_small hKb.1 (by omega), ?_⟩
  rw [show ((List.map Tr.int ns).length : Int) = (ns.length : Int) by simp]
  have hKn : ((if (if (ns.length : Int) < 63 then (ns.length : Int) else 63) > 4 then (if (ns.length : Int) < 63 then (ns.length : Int) else 63) else 4) - 1).toNat ≤ 63 := by
    have : (if (if (ns.length : Int) < 63 then (ns.length : Int) else 63) > 4 then (if (ns.length : Int) < 63 then (ns.length : Int) else 63) else 4) ≤ 63 := hKb.2
    omega
  generalize ((if (if (ns.length : Int) < 63 then (ns.length : Int) else 63) > 4 then (if (ns.length : Int) < 63 then (ns.length : Int) else 63) else 4) - 1).toNat = K at hKn
  refine for_itR (fun i σ M' => ∃ y1 z4 z5 z6 z7, σ = [some (scT ns), y1, some (.int many), some (.loc g), z4, z5, z6, z7] ∧ Le M M' ∧ M' g = some (.lst [macT m1, macT m3])) ?_ ?_ ?_
  · exact ⟨_, _, _, _, _, rfl, K9, eg9⟩
  · rintro i σ M1 hi ⟨y1, z4, z5, z6, z7, rfl, K1, eg1⟩
    have e1 : (1 : Int) + (i : Int) = ((i + 1 : Nat) : Int) := by omega
    simp
    rw [e1]
    simp only [b__law_asked_two_9]
    simp
    refine ⟨_, _, rfl, ns, i + 1, rfl, by simp, hs, by omega, fun f3 o3 hf3n hF3 => ?_⟩
    have f3g : f3 ≠ g := m_ne' eg1 hf3n
    have hM3 : M f3 = none := K1.none hf3n
    have hf3 : up M1 f3 o3 f3 = some o3 := up_same
    have eg2 : up M1 f3 o3 g = some (.lst [macT m1, macT m3]) := by rw [up_ne f3g.symm]; exact eg1
    have K2 : Le M (up M1 f3 o3) := K1.trans (Le.new hf3n)
    generalize up M1 f3 o3 = M2 at hf3 eg2 K2
    simp only [b__law_asked_two_8]
    have l3 : 3 ≤ sizeLine := small_line (by decide)
    simp [l3]
    intro q hq1
    have eq1 : up M2 q (.lst [.int 2, .int 6, .int 15]) q = some (.lst [.int 2, .int 6, .int 15]) := up_same
    have fq : f3 ≠ q := m_ne hf3 hq1
    have K3 : Le M (up M2 q (.lst [.int 2, .int 6, .int 15])) := K2.trans (Le.new hq1)
    have hf4 := Le.new (o := .lst [.int 2, .int 6, .int 15]) hq1 _ _ hf3
    have eg3 := Le.new (o := .lst [.int 2, .int 6, .int 15]) hq1 _ _ eg2
    generalize up M2 q (.lst [.int 2, .int 6, .int 15]) = M3 at eq1 K3 hf4 eg3
    refine ⟨_, _, rfl, f3, _, 0, o3, rfl, lenT_lst eq1, seqT_lst eq1, (fun e => by cases e; exact fq rfl), by simp, by simp, by decide, hf4, hF3, fun r o4 hr hF4 => ?_⟩
    obtain ⟨most, rfl, hmost⟩ : ∃ most : Nat, r = .int most ∧ most ≤ 15 := by
      simp at hr
      rcases hr with rfl | rfl | rfl
      · exact ⟨2, rfl, by decide⟩
      · exact ⟨6, rfl, by decide⟩
      · exact ⟨15, rfl, by decide⟩
    refine ⟨_, _, rfl, f3, most, _, o4, rfl, rfl, by omega, by decide, up_same, hF4, fun d o5 hv hdl hF5 => ?_⟩
    rw [up_up]
    have eg4 : up M3 f3 o5 g = some (.lst [macT m1, macT m3]) := by rw [up_ne f3g.symm]; exact eg3
    have hf5 : up M3 f3 o5 f3 = some o5 := up_same
    have K4 : Le M (up M3 f3 o5) := fun a u h => by rw [up_ne (m_ne h hM3)]; exact K3 a u h
    generalize up M3 f3 o5 = M4 at eg4 hf5 K4
    simp only [b__law_asked_two_7]
    simp [eg4]
    refine ⟨_, _, rfl, f3, 2, _, o5, rfl, rfl, by decide, by decide, by decide, hf5, hF5, fun at_ o6 ha1 ha2 hF6 => ?_⟩
    obtain ⟨w, rfl⟩ : ∃ w : Nat, at_ = w := ⟨at_.toNat, by omega⟩
    have hw : w < 2 := by omega
    obtain ⟨mw, em, hmw, hkw⟩ : ∃ mw, [macT m1, macT m3][w]? = some (macT mw) ∧ MacOk mw ∧ mw.nm.length = many := by
      rcases w with _ | _ | w
      · exact ⟨m1, rfl, hm1, hk1⟩
      · exact ⟨m3, rfl, hm3, hk3⟩
      · omega
    have eg5 : up M4 f3 o6 g = some (.lst [macT m1, macT m3]) := by rw [up_ne f3g.symm]; exact eg4
    have hf6 : up M4 f3 o6 f3 = some o6 := up_same
    have K5 : Le M (up M4 f3 o6) := fun a u h => by rw [up_ne (m_ne h hM3)]; exact K4 a u h
    generalize up M4 f3 o6 = M5 at eg5 hf6 K5
    simp [eg5, ↓kAt_get em]
    simp only [b__law_asked_two_6]
    have emw : macT mw = .tup [nmT mw.nm, .tup (mw.be.map rowT), natT mw.top, .tup (mw.st.map rowT), rowT mw.go] := rfl
    simp [emw]
    refine ⟨_, _, _, rfl, f3, d, mw.nm, _, o6, rfl, rfl, rfl, hmw.nm.len, by omega, by decide, hf6, hF6, fun L o7 hL hF7 => ?_⟩
    simp
    refine ⟨_, _, _, _, rfl, f3, mw, d, L, _, o7, rfl, rfl, rfl, rfl, hmw, hv, hL, by decide, up_same, hF7, fun o8 hF8 => ?_⟩
    rw [up_up]
    simp
    refine ⟨fun a u h => ?_, by rw [up_ne f3g.symm]; exact eg5⟩
    rw [up_ne (m_ne h hM3)]; exact K5 a u h
  · rintro σ M1 ⟨y1, z4, z5, z6, z7, rfl, K1, eg1⟩
    simp
    exact Fg.le K1 hq
def n_law : List Str := "script" :: []
def b_law : TS2 := (sRt (eAn (eCall sp__law_asked_one [] (aCons (eVar 0) aNil)) (eCall sp__law_asked_two [] (aCons (eVar 0) aNil))))
theorem sem_law : ∀ ds M Q E, spLaw ds M Q E → b_law (fEnds Q E) (start2 n_law ds) M := by
  rintro ds M Q E ⟨ns, rfl, hl, hb, hq⟩
  simp only [b_law, start2, n_law]
  simp
  refine ⟨_, rfl, ns, rfl, ⟨hl, hb⟩, ?_⟩
  simp
  refine ⟨_, rfl, ns, rfl, ⟨hl, hb⟩, ?_⟩
  exact Fg.same (hq M)
end T

namespace G
open PySem PySem.Spec PyProof.Rows L2 T
def top (i : Nat) : Stmt := PySem.Challenge.pw_lawfulpages_k36_whole_states_by_own_step.main.body.getD i (.Pass ⟨0, 0, 0, 0⟩)
def d_is_integer : He.DefD := ⟨("is_integer", none), "is_integer", "is_integer", defArgs (top 10), defBody (top 10), defScope (top 10), [], []⟩
def d_is_below : He.DefD := ⟨("is_below", none), "is_below", "is_below", defArgs (top 11), defBody (top 11), defScope (top 11), [], []⟩
def d_is_mark : He.DefD := ⟨("is_mark", none), "is_mark", "is_mark", defArgs (top 12), defBody (top 12), defScope (top 12), [], []⟩
def d_is_name : He.DefD := ⟨("is_name", none), "is_name", "is_name", defArgs (top 13), defBody (top 13), defScope (top 13), [], []⟩
def d_is_rising : He.DefD := ⟨("is_rising", none), "is_rising", "is_rising", defArgs (top 14), defBody (top 14), defScope (top 14), [], []⟩
def d_is_names : He.DefD := ⟨("is_names", none), "is_names", "is_names", defArgs (top 15), defBody (top 15), defScope (top 15), [], []⟩
def d_is_forest : He.DefD := ⟨("is_forest", none), "is_forest", "is_forest", defArgs (top 17), defBody (top 17), defScope (top 17), [], []⟩
def d_need_document : He.DefD := ⟨("need_document", none), "need_document", "need_document", defArgs (top 18), defBody (top 18), defScope (top 18), [], []⟩
def d_is_names_form : He.DefD := ⟨("is_names_form", none), "is_names_form", "is_names_form", defArgs (top 22), defBody (top 22), defScope (top 22), [], []⟩
def d_lays_of : He.DefD := ⟨("lays_of", none), "lays_of", "lays_of", defArgs (top 23), defBody (top 23), defScope (top 23), [], []⟩
def d_is_row : He.DefD := ⟨("is_row", none), "is_row", "is_row", defArgs (top 24), defBody (top 24), defScope (top 24), [], []⟩
def d_is_good_row : He.DefD := ⟨("is_good_row", none), "is_good_row", "is_good_row", defArgs (top 25), defBody (top 25), defScope (top 25), [], []⟩
def d_is_machine_form : He.DefD := ⟨("is_machine_form", none), "is_machine_form", "is_machine_form", defArgs (top 26), defBody (top 26), defScope (top 26), [], []⟩
def d_need_machine : He.DefD := ⟨("need_machine", none), "need_machine", "need_machine", defArgs (top 27), defBody (top 27), defScope (top 27), [], []⟩
def d_need_laying : He.DefD := ⟨("need_laying", none), "need_laying", "need_laying", defArgs (top 28), defBody (top 28), defScope (top 28), [], []⟩
def d_need_spots : He.DefD := ⟨("need_spots", none), "need_spots", "need_spots", defArgs (top 29), defBody (top 29), defScope (top 29), [], []⟩
def d_step_closed : He.DefD := ⟨("step_closed", none), "step_closed", "step_closed", defArgs (top 31), defBody (top 31), defScope (top 31), [], []⟩
def d_states_in : He.DefD := ⟨("states_in", none), "states_in", "states_in", defArgs (top 32), defBody (top 32), defScope (top 32), [], []⟩
def d_laying_of : He.DefD := ⟨("laying_of", none), "laying_of", "laying_of", defArgs (top 33), defBody (top 33), defScope (top 33), [], []⟩
def d_run : He.DefD := ⟨("run", none), "run", "run", defArgs (top 35), defBody (top 35), defScope (top 35), [], []⟩
def d_state_of : He.DefD := ⟨("state_of", none), "state_of", "state_of", defArgs (top 36), defBody (top 36), defScope (top 36), [], []⟩
def d_states_of : He.DefD := ⟨("states_of", none), "states_of", "states_of", defArgs (top 37), defBody (top 37), defScope (top 37), [], []⟩
def d_lets : He.DefD := ⟨("lets", none), "lets", "lets", defArgs (top 38), defBody (top 38), defScope (top 38), [], []⟩
def d_takes : He.DefD := ⟨("takes", none), "takes", "takes", defArgs (top 39), defBody (top 39), defScope (top 39), [], []⟩
def d__law_feed : He.DefD := ⟨("_law_feed", none), "_law_feed", "_law_feed", defArgs (top 41), defBody (top 41), defScope (top 41), [], []⟩
def d__law_draw : He.DefD := ⟨("_law_draw", none), "_law_draw", "_law_draw", defArgs (top 42), defBody (top 42), defScope (top 42), [], []⟩
def d__law_one : He.DefD := ⟨("_law_one", none), "_law_one", "_law_one", defArgs (top 43), defBody (top 43), defScope (top 43), [], []⟩
def d__law_mixed : He.DefD := ⟨("_law_mixed", none), "_law_mixed", "_law_mixed", defArgs (top 44), defBody (top 44), defScope (top 44), [], []⟩
def d__law_marks : He.DefD := ⟨("_law_marks", none), "_law_marks", "_law_marks", defArgs (top 45), defBody (top 45), defScope (top 45), [], []⟩
def d__law_document : He.DefD := ⟨("_law_document", none), "_law_document", "_law_document", defArgs (top 46), defBody (top 46), defScope (top 46), [], []⟩
def d__law_names : He.DefD := ⟨("_law_names", none), "_law_names", "_law_names", defArgs (top 47), defBody (top 47), defScope (top 47), [], []⟩
def d__law_lays : He.DefD := ⟨("_law_lays", none), "_law_lays", "_law_lays", defArgs (top 48), defBody (top 48), defScope (top 48), [], []⟩
def d__law_machine : He.DefD := ⟨("_law_machine", none), "_law_machine", "_law_machine", defArgs (top 49), defBody (top 49), defScope (top 49), [], []⟩
def d__law_wide : He.DefD := ⟨("_law_wide", none), "_law_wide", "_law_wide", defArgs (top 50), defBody (top 50), defScope (top 50), [], []⟩
def d__law_laying : He.DefD := ⟨("_law_laying", none), "_law_laying", "_law_laying", defArgs (top 51), defBody (top 51), defScope (top 51), [], []⟩
def d__law_rows : He.DefD := ⟨("_law_rows", none), "_law_rows", "_law_rows", defArgs (top 52), defBody (top 52), defScope (top 52), [], []⟩
def d__law_run : He.DefD := ⟨("_law_run", none), "_law_run", "_law_run", defArgs (top 53), defBody (top 53), defScope (top 53), [], []⟩
def d__law_great : He.DefD := ⟨("_law_great", none), "_law_great", "_law_great", defArgs (top 54), defBody (top 54), defScope (top 54), [], []⟩
def d__law_right : He.DefD := ⟨("_law_right", none), "_law_right", "_law_right", defArgs (top 55), defBody (top 55), defScope (top 55), [], []⟩
def d__law_asked_one : He.DefD := ⟨("_law_asked_one", none), "_law_asked_one", "_law_asked_one", defArgs (top 56), defBody (top 56), defScope (top 56), [], []⟩
def d__law_right_too : He.DefD := ⟨("_law_right_too", none), "_law_right_too", "_law_right_too", defArgs (top 57), defBody (top 57), defScope (top 57), [], []⟩
def d__law_asked_two : He.DefD := ⟨("_law_asked_two", none), "_law_asked_two", "_law_asked_two", defArgs (top 58), defBody (top 58), defScope (top 58), [], []⟩
def d_law : He.DefD := ⟨("law", none), "law", "law", defArgs (top 59), defBody (top 59), defScope (top 59), [], []⟩
def fn : List He.DefD := d_is_integer :: d_is_below :: d_is_mark :: d_is_name :: d_is_rising :: d_is_names :: d_is_forest :: d_need_document :: d_is_names_form :: d_lays_of :: d_is_row :: d_is_good_row :: d_is_machine_form :: d_need_machine :: d_need_laying :: d_need_spots :: d_step_closed :: d_states_in :: d_laying_of :: d_run :: d_state_of :: d_states_of :: d_lets :: d_takes :: d__law_feed :: d__law_draw :: d__law_one :: d__law_mixed :: d__law_marks :: d__law_document :: d__law_names :: d__law_lays :: d__law_machine :: d__law_wide :: d__law_laying :: d__law_rows :: d__law_run :: d__law_great :: d__law_right :: d__law_asked_one :: d__law_right_too :: d__law_asked_two :: d_law :: []
def fa : List He.Fa := .glo "is_integer" :: .glo "is_below" :: .glo "is_mark" :: .glo "is_name" :: .glo "is_rising" :: .glo "is_names" :: .glo "is_forest" :: .glo "need_document" :: .glo "is_names_form" :: .glo "lays_of" :: .glo "is_row" :: .glo "is_good_row" :: .glo "is_machine_form" :: .glo "need_machine" :: .glo "need_laying" :: .glo "need_spots" :: .glo "step_closed" :: .glo "states_in" :: .glo "laying_of" :: .glo "run" :: .glo "state_of" :: .glo "states_of" :: .glo "lets" :: .glo "takes" :: .glo "_law_feed" :: .glo "_law_draw" :: .glo "_law_one" :: .glo "_law_mixed" :: .glo "_law_marks" :: .glo "_law_document" :: .glo "_law_names" :: .glo "_law_lays" :: .glo "_law_machine" :: .glo "_law_wide" :: .glo "_law_laying" :: .glo "_law_rows" :: .glo "_law_run" :: .glo "_law_great" :: .glo "_law_right" :: .glo "_law_asked_one" :: .glo "_law_right_too" :: .glo "_law_asked_two" :: .glo "law" :: .free "all" :: .free "bool" :: .free "enumerate" :: .free "int" :: .free "isinstance" :: .free "len" :: .free "list" :: .free "max" :: .free "min" :: .free "range" :: .free "repr" :: .free "reversed" :: .free "sorted" :: .free "str" :: .free "sum" :: .free "tuple" :: .free "zip" :: .str "MARKS" "abcdefgh" :: .str "NAMES" "pqrstuvwxyz" :: .int "MOST_NODES" 20000 :: .int "MOST_NAMES" 5 :: .int "MOST_STATES" 300 :: []
section
variable {P : Program} {w : World} {K : PySem.W.Frag} {mg : Str → Option Value} {base h : Heap}
theorem sc_is_integer : FnScope n_is_integer ["thing"] (defScope (top 10)) := ⟨rfl, rfl, rfl, by decide +kernel, rfl, by decide +kernel, by decide +kernel⟩
theorem ok_is_integer (X : K.In h) (G : h.Ns mainGlobals mg) (c : He.SaysD fa fn K) : OkF P w K mg base 1 "is_integer" ["thing"] [] (sp_is_integer) := by
  obtain ⟨fd, F⟩ := c.def_ 0 (d := d_is_integer) rfl
  have m_bool := He.free_ok X G (c.fact 44 (f := .free "bool") rfl)
  have m_int := He.free_ok X G (c.fact 46 (f := .free "int") rfl)
  have m_isinstance := He.free_ok X G (c.fact 47 (f := .free "isinstance") rfl)
  refine okF_of F (He.glo_ok X G (c.fact 0 (f := .glo "is_integer") rfl)) (F.bindsN fun _ _ _ _ _ _ us hl => match us, hl with | [_], _ => rfl) sc_is_integer len1 (sem_is_integer) ?_
  intro cdv A outer s H E hr hgd tk hl hp
  have nd := (sc_is_integer).nd
  have hu := hu_of hr
  have hu64 := room_hu64 hr
  have hu65 := room_hu65 hr
  exact (qss_one (qs_ret (qe_and (qe_callB b_isi m_isinstance bt_isinstance (qa_cons (qv 0) (qa_cons (qe_bltn (.ty "int") (.ty "int") m_int bt_int rfl fun _ => rfl) qa_nil))) (qe_one (qe_not (qe_callB b_isi m_isinstance bt_isinstance (qa_cons (qv 0) (qa_cons (qe_bltn (.ty "bool") (.ty "bool") m_bool bt_bool rfl fun _ => rfl) qa_nil))))))))
theorem sc_is_below : FnScope n_is_below ["thing", "bound"] (defScope (top 11)) := ⟨rfl, rfl, rfl, by decide +kernel, rfl, by decide +kernel, by decide +kernel⟩
theorem ok_is_below (X : K.In h) (G : h.Ns mainGlobals mg) (c : He.SaysD fa fn K) : OkF P w K mg base 2 "is_below" ["thing", "bound"] [] (sp_is_below) := by
  obtain ⟨fd, F⟩ := c.def_ 1 (d := d_is_below) rfl
  have c_is_integer := ok_is_integer (P := P) (w := w) (base := base) X G c
  refine okF_of F (He.glo_ok X G (c.fact 1 (f := .glo "is_below") rfl)) (F.bindsN fun _ _ _ _ _ _ us hl => match us, hl with | [_, _], _ => rfl) sc_is_below len2 (sem_is_below) ?_
  intro cdv A outer s H E hr hgd tk hl hp
  have nd := (sc_is_below).nd
  have hu := hu_of hr
  have hu64 := room_hu64 hr
  have hu65 := room_hu65 hr
  exact (qss_one (qs_ret (qe_and (q_call c_is_integer (hr.mono (by first | decide | omega)) hgd hl (qa_cons (qv 0) qa_nil)) (qe_one (q_chain (pe_chain o_leI o_ltI qe_int (qv 0) (qv 1)))))))
theorem sc_is_mark : FnScope n_is_mark ["thing"] (defScope (top 12)) := ⟨rfl, rfl, rfl, by decide +kernel, rfl, by decide +kernel, by decide +kernel⟩
theorem ok_is_mark (X : K.In h) (G : h.Ns mainGlobals mg) (c : He.SaysD fa fn K) : OkF P w K mg base 1 "is_mark" ["thing"] [] (sp_is_mark) := by
  obtain ⟨fd, F⟩ := c.def_ 2 (d := d_is_mark) rfl
  have m_isinstance := He.free_ok X G (c.fact 47 (f := .free "isinstance") rfl)
  have m_len := He.free_ok X G (c.fact 48 (f := .free "len") rfl)
  have m_str := He.free_ok X G (c.fact 56 (f := .free "str") rfl)
  obtain ⟨_, g_MARKS⟩ := He.str_ok X G (c.fact 60 (f := .str "MARKS" "abcdefgh") rfl)
  refine okF_of F (He.glo_ok X G (c.fact 2 (f := .glo "is_mark") rfl)) (F.bindsN fun _ _ _ _ _ _ us hl => match us, hl with | [_], _ => rfl) sc_is_mark len1 (sem_is_mark) ?_
  intro cdv A outer s H E hr hgd tk hl hp
  have nd := (sc_is_mark).nd
  have hu := hu_of hr
  have hu64 := room_hu64 hr
  have hu65 := room_hu65 hr
  exact (qss_one (qs_ret (qe_and (qe_callB b_isi m_isinstance bt_isinstance (qa_cons (qv 0) (qa_cons (qe_bltn (.ty "str") (.ty "str") m_str bt_str rfl fun _ => rfl) qa_nil))) (qe_and (qe_cmp (o_eq hu64) (qe_callB b_len m_len bt_len (qa_cons (qv 0) qa_nil)) qe_int) (qe_one (qe_cmp (o_inX hu65) (qv 0) (qe_glob (.str "abcdefgh") (.str "abcdefgh") g_MARKS ⟨_, rfl⟩ fun _ => rfl)))))))
theorem sc_is_name : FnScope n_is_name ["thing"] (defScope (top 13)) := ⟨rfl, rfl, rfl, by decide +kernel, rfl, by decide +kernel, by decide +kernel⟩
theorem ok_is_name (X : K.In h) (G : h.Ns mainGlobals mg) (c : He.SaysD fa fn K) : OkF P w K mg base 1 "is_name" ["thing"] [] (sp_is_name) := by
  obtain ⟨fd, F⟩ := c.def_ 3 (d := d_is_name) rfl
  have m_isinstance := He.free_ok X G (c.fact 47 (f := .free "isinstance") rfl)
  have m_len := He.free_ok X G (c.fact 48 (f := .free "len") rfl)
  have m_str := He.free_ok X G (c.fact 56 (f := .free "str") rfl)
  obtain ⟨_, g_NAMES⟩ := He.str_ok X G (c.fact 61 (f := .str "NAMES" "pqrstuvwxyz") rfl)
  refine okF_of F (He.glo_ok X G (c.fact 3 (f := .glo "is_name") rfl)) (F.bindsN fun _ _ _ _ _ _ us hl => match us, hl with | [_], _ => rfl) sc_is_name len1 (sem_is_name) ?_
  intro cdv A outer s H E hr hgd tk hl hp
  have nd := (sc_is_name).nd
  have hu := hu_of hr
  have hu64 := room_hu64 hr
  have hu65 := room_hu65 hr
  exact (qss_one (qs_ret (qe_and (qe_callB b_isi m_isinstance bt_isinstance (qa_cons (qv 0) (qa_cons (qe_bltn (.ty "str") (.ty "str") m_str bt_str rfl fun _ => rfl) qa_nil))) (qe_and (qe_cmp (o_eq hu64) (qe_callB b_len m_len bt_len (qa_cons (qv 0) qa_nil)) qe_int) (qe_one (qe_cmp (o_inX hu65) (qv 0) (qe_glob (.str "pqrstuvwxyz") (.str "pqrstuvwxyz") g_NAMES ⟨_, rfl⟩ fun _ => rfl)))))))
theorem sc_is_rising : FnScope n_is_rising ["things"] (defScope (top 14)) := ⟨rfl, rfl, rfl, by decide +kernel, rfl, by decide +kernel, by decide +kernel⟩
theorem ok_is_rising (X : K.In h) (G : h.Ns mainGlobals mg) (c : He.SaysD fa fn K) : OkF P w K mg base 1 "is_rising" ["things"] [] (sp_is_rising) := by
  obtain ⟨fd, F⟩ := c.def_ 4 (d := d_is_rising) rfl
  have m_all := He.free_ok X G (c.fact 43 (f := .free "all") rfl)
  have m_zip := He.free_ok X G (c.fact 59 (f := .free "zip") rfl)
  refine okF_of F (He.glo_ok X G (c.fact 4 (f := .glo "is_rising") rfl)) (F.bindsN fun _ _ _ _ _ _ us hl => match us, hl with | [_], _ => rfl) sc_is_rising len1 (sem_is_rising) ?_
  intro cdv A outer s H E hr hgd tk hl hp
  have nd := (sc_is_rising).nd
  have hu := hu_of hr
  have hu64 := room_hu64 hr
  have hu65 := room_hu65 hr
  exact (qss_one (qs_ret (qe_callB (b_all rfl) m_all bt_all (qa_cons (qe_lc (own := [("one", 1), ("other", 2)]) (js := ([1] ++ ([2] ++ []))) rfl nd (qi_zip m_zip (qa_cons (qv 0) (qa_cons (qe_slice (qv 0) (qo_some qe_int) qo_none) qa_nil))) (blkOk_by (N := n_is_rising) (sc := defScope (top 14)) (by decide +kernel)) (by decide) (fun _ _ _ _ _ => (qg_tup rfl (qgs_cons (qg_name nd) (qgs_cons (qg_name nd) qgs_nil)))) (fun _ _ _ _ _ => qts_nil) (fun _ _ _ _ _ => (qe_cmp o_ltX (qv 1) (qv 2)))) qa_nil))))
theorem sc_is_names : FnScope n_is_names ["thing", "most"] (defScope (top 15)) := ⟨rfl, rfl, rfl, by decide +kernel, rfl, by decide +kernel, by decide +kernel⟩
theorem ok_is_names (X : K.In h) (G : h.Ns mainGlobals mg) (c : He.SaysD fa fn K) : OkF P w K mg base 2 "is_names" ["thing", "most"] [] (sp_is_names) := by
  obtain ⟨fd, F⟩ := c.def_ 5 (d := d_is_names) rfl
  have c_is_rising := ok_is_rising (P := P) (w := w) (base := base) X G c
  have c_is_name := ok_is_name (P := P) (w := w) (base := base) X G c
  have m_all := He.free_ok X G (c.fact 43 (f := .free "all") rfl)
  have m_isinstance := He.free_ok X G (c.fact 47 (f := .free "isinstance") rfl)
  have m_len := He.free_ok X G (c.fact 48 (f := .free "len") rfl)
  have m_tuple := He.free_ok X G (c.fact 58 (f := .free "tuple") rfl)
  refine okF_of F (He.glo_ok X G (c.fact 5 (f := .glo "is_names") rfl)) (F.bindsN fun _ _ _ _ _ _ us hl => match us, hl with | [_, _], _ => rfl) sc_is_names len2 (sem_is_names) ?_
  intro cdv A outer s H E hr hgd tk hl hp
  have nd := (sc_is_names).nd
  have hu := hu_of hr
  have hu64 := room_hu64 hr
  have hu65 := room_hu65 hr
  exact (qss_cons (qs_if (QW.pt (qw_or (qt_not (qt_tru (qe_callB b_isi m_isinstance bt_isinstance (qa_cons (qv 0) (qa_cons (qe_bltn (.ty "tuple") (.ty "tuple") m_tuple bt_tuple rfl fun _ => rfl) qa_nil))))) (qw_or1 (qt_cmp o_gtI (qe_callB b_len m_len bt_len (qa_cons (qv 0) qa_nil)) (qv 1))))) (qss_one (qs_ret qe_bl)) qss_nil) (qss_one (qs_ret (qe_and (qe_callB (b_all rfl) m_all bt_all (qa_cons (qe_lc (own := [("part", 2)]) (js := [2]) rfl nd (qi_any (qv 0)) (blkOk_by (N := n_is_names) (sc := defScope (top 15)) (by decide +kernel)) (by decide) (fun _ _ _ _ _ => (qg_name nd)) (fun _ _ _ _ _ => qts_nil) (fun _ _ _ _ _ => (q_call c_is_name (hr.mono (by first | decide | omega)) hgd lets_never (qa_cons (qv 2) qa_nil)))) qa_nil)) (qe_one (q_call c_is_rising (hr.mono (by first | decide | omega)) hgd hl (qa_cons (qv 0) qa_nil)))))))
theorem sc_is_forest : FnScope n_is_forest ["thing"] (defScope (top 17)) := ⟨rfl, rfl, rfl, by decide +kernel, rfl, by decide +kernel, by decide +kernel⟩
theorem ok_is_forest (X : K.In h) (G : h.Ns mainGlobals mg) (c : He.SaysD fa fn K) : OkF P w K mg base 3 "is_forest" ["thing"] [] (sp_is_forest) := by
  obtain ⟨fd, F⟩ := c.def_ 6 (d := d_is_forest) rfl
  have c_is_below := ok_is_below (P := P) (w := w) (base := base) X G c
  have c_is_mark := ok_is_mark (P := P) (w := w) (base := base) X G c
  have m_isinstance := He.free_ok X G (c.fact 47 (f := .free "isinstance") rfl)
  have m_len := He.free_ok X G (c.fact 48 (f := .free "len") rfl)
  have m_tuple := He.free_ok X G (c.fact 58 (f := .free "tuple") rfl)
  obtain ⟨_, g_MOST_NODES⟩ := He.int_ok X G (c.fact 62 (f := .int "MOST_NODES" 20000) rfl)
  refine okF_of F (He.glo_ok X G (c.fact 6 (f := .glo "is_forest") rfl)) (F.bindsN fun _ _ _ _ _ _ us hl => match us, hl with | [_], _ => rfl) sc_is_forest len1 (sem_is_forest) ?_
  intro cdv A outer s H E hr hgd tk hl hp
  have nd := (sc_is_forest).nd
  have hu := hu_of hr
  have hu64 := room_hu64 hr
  have hu65 := room_hu65 hr
  exact (qss_cons (qs_if (QW.pt (qw_or (qt_not (qt_tru (qe_callB b_isi m_isinstance bt_isinstance (qa_cons (qv 0) (qa_cons (qe_bltn (.ty "tuple") (.ty "tuple") m_tuple bt_tuple rfl fun _ => rfl) qa_nil))))) (qw_or1 (qt_cmp o_gtI (qe_callB b_len m_len bt_len (qa_cons (qv 0) qa_nil)) (qe_glob (.int 20000) (.int 20000) g_MOST_NODES ⟨_, rfl⟩ fun _ => rfl))))) (qss_one (qs_ret qe_bl)) qss_nil) (qss_cons (qs_set nd qe_int) (qss_cons (qs_for hp rfl (qi_any (qv 0)) (qg_name nd) (qss_cons (qs_if (QW.pt (qw_or (qt_not (qt_tru (qe_callB b_isi m_isinstance bt_isinstance (qa_cons (qv 2) (qa_cons (qe_bltn (.ty "tuple") (.ty "tuple") m_tuple bt_tuple rfl fun _ => rfl) qa_nil))))) (qw_or1 (qt_cmp (o_ne hu64) (qe_callB b_len m_len bt_len (qa_cons (qv 2) qa_nil)) qe_int)))) (qss_one (qs_ret qe_bl)) qss_nil) (qss_cons (qs_if (QW.pt (qw_or (qt_not (qt_tru (q_call c_is_mark (hr.mono (by first | decide | omega)) hgd hl (qa_cons (qe_ix (qv 2) qe_int) qa_nil)))) (qw_or1 (qt_not (qt_tru (q_call c_is_below (hr.mono (by first | decide | omega)) hgd hl (qa_cons (qe_ix (qv 2) qe_int) (qa_cons (qe_op o_add (qv 1) qe_int) qa_nil)))))))) (qss_one (qs_ret qe_bl)) qss_nil) (qss_one (qs_set nd (qe_op o_add (qe_ix (qv 2) qe_int) qe_int)))))) (qss_one (qs_ret qe_bl)))))
theorem sc_need_document : FnScope n_need_document ["document"] (defScope (top 18)) := ⟨rfl, rfl, rfl, by decide +kernel, rfl, by decide +kernel, by decide +kernel⟩
theorem ok_need_document (X : K.In h) (G : h.Ns mainGlobals mg) (c : He.SaysD fa fn K) : OkF P w K mg base 4 "need_document" ["document"] [] (sp_need_document) := by
  obtain ⟨fd, F⟩ := c.def_ 7 (d := d_need_document) rfl
  have c_is_forest := ok_is_forest (P := P) (w := w) (base := base) X G c
  refine okF_of F (He.glo_ok X G (c.fact 7 (f := .glo "need_document") rfl)) (F.bindsN fun _ _ _ _ _ _ us hl => match us, hl with | [_], _ => rfl) sc_need_document len1 (sem_need_document) ?_
  intro cdv A outer s H E hr hgd tk hl hp
  have nd := (sc_need_document).nd
  have hu := hu_of hr
  have hu64 := room_hu64 hr
  have hu65 := room_hu65 hr
  exact (qss_one (qs_if (qt_not (qt_tru (q_call c_is_forest (hr.mono (by first | decide | omega)) hgd hl (qa_cons (qv 0) qa_nil)))) (qss_one qs_never) qss_nil))
theorem sc_is_names_form : FnScope n_is_names_form ["thing"] (defScope (top 22)) := ⟨rfl, rfl, rfl, by decide +kernel, rfl, by decide +kernel, by decide +kernel⟩
theorem ok_is_names_form (X : K.In h) (G : h.Ns mainGlobals mg) (c : He.SaysD fa fn K) : OkF P w K mg base 3 "is_names_form" ["thing"] [] (sp_is_names_form) := by
  obtain ⟨fd, F⟩ := c.def_ 8 (d := d_is_names_form) rfl
  have c_is_names := ok_is_names (P := P) (w := w) (base := base) X G c
  obtain ⟨_, g_MOST_NAMES⟩ := He.int_ok X G (c.fact 63 (f := .int "MOST_NAMES" 5) rfl)
  refine okF_of F (He.glo_ok X G (c.fact 8 (f := .glo "is_names_form") rfl)) (F.bindsN fun _ _ _ _ _ _ us hl => match us, hl with | [_], _ => rfl) sc_is_names_form len1 (sem_is_names_form) ?_
  intro cdv A outer s H E hr hgd tk hl hp
  have nd := (sc_is_names_form).nd
  have hu := hu_of hr
  have hu64 := room_hu64 hr
  have hu65 := room_hu65 hr
  exact (qss_one (qs_ret (q_call c_is_names (hr.mono (by first | decide | omega)) hgd hl (qa_cons (qv 0) (qa_cons (qe_glob (.int 5) (.int 5) g_MOST_NAMES ⟨_, rfl⟩ fun _ => rfl) qa_nil)))))
theorem sc_lays_of : FnScope n_lays_of ["names"] (defScope (top 23)) := ⟨rfl, rfl, rfl, by decide +kernel, rfl, by decide +kernel, by decide +kernel⟩
theorem ok_lays_of (X : K.In h) (G : h.Ns mainGlobals mg) (c : He.SaysD fa fn K) : OkF P w K mg base 1 "lays_of" ["names"] [] (sp_lays_of) := by
  obtain ⟨fd, F⟩ := c.def_ 9 (d := d_lays_of) rfl
  have m_len := He.free_ok X G (c.fact 48 (f := .free "len") rfl)
  refine okF_of F (He.glo_ok X G (c.fact 9 (f := .glo "lays_of") rfl)) (F.bindsN fun _ _ _ _ _ _ us hl => match us, hl with | [_], _ => rfl) sc_lays_of len1 (sem_lays_of) ?_
  intro cdv A outer s H E hr hgd tk hl hp
  have nd := (sc_lays_of).nd
  have hu := hu_of hr
  have hu64 := room_hu64 hr
  have hu65 := room_hu65 hr
  exact (qss_one (qs_ret (qe_op o_shl qe_int (qe_callB b_len m_len bt_len (qa_cons (qv 0) qa_nil)))))
theorem sc_is_row : FnScope n_is_row ["thing", "length", "bound"] (defScope (top 24)) := ⟨rfl, rfl, rfl, by decide +kernel, rfl, by decide +kernel, by decide +kernel⟩
theorem ok_is_row (X : K.In h) (G : h.Ns mainGlobals mg) (c : He.SaysD fa fn K) : OkF P w K mg base 3 "is_row" ["thing", "length", "bound"] [] (sp_is_row) := by
  obtain ⟨fd, F⟩ := c.def_ 10 (d := d_is_row) rfl
  have c_is_below := ok_is_below (P := P) (w := w) (base := base) X G c
  have m_all := He.free_ok X G (c.fact 43 (f := .free "all") rfl)
  have m_isinstance := He.free_ok X G (c.fact 47 (f := .free "isinstance") rfl)
  have m_len := He.free_ok X G (c.fact 48 (f := .free "len") rfl)
  have m_tuple := He.free_ok X G (c.fact 58 (f := .free "tuple") rfl)
  refine okF_of F (He.glo_ok X G (c.fact 10 (f := .glo "is_row") rfl)) (F.bindsN fun _ _ _ _ _ _ us hl => match us, hl with | [_, _, _], _ => rfl) sc_is_row len3 (sem_is_row) ?_
  intro cdv A outer s H E hr hgd tk hl hp
  have nd := (sc_is_row).nd
  have hu := hu_of hr
  have hu64 := room_hu64 hr
  have hu65 := room_hu65 hr
  exact (qss_cons (qs_if (QW.pt (qw_or (qt_not (qt_tru (qe_callB b_isi m_isinstance bt_isinstance (qa_cons (qv 0) (qa_cons (qe_bltn (.ty "tuple") (.ty "tuple") m_tuple bt_tuple rfl fun _ => rfl) qa_nil))))) (qw_or1 (qt_cmp (o_ne hu64) (qe_callB b_len m_len bt_len (qa_cons (qv 0) qa_nil)) (qv 1))))) (qss_one (qs_ret qe_bl)) qss_nil) (qss_one (qs_ret (qe_callB (b_all rfl) m_all bt_all (qa_cons (qe_lc (own := [("part", 3)]) (js := [3]) rfl nd (qi_any (qv 0)) (blkOk_by (N := n_is_row) (sc := defScope (top 24)) (by decide +kernel)) (by decide) (fun _ _ _ _ _ => (qg_name nd)) (fun _ _ _ _ _ => qts_nil) (fun _ _ _ _ _ => (q_call c_is_below (hr.mono (by first | decide | omega)) hgd lets_never (qa_cons (qv 3) (qa_cons (qv 2) qa_nil))))) qa_nil)))))
theorem sc_is_good_row : FnScope n_is_good_row ["thing", "bound"] (defScope (top 25)) := ⟨rfl, rfl, rfl, by decide +kernel, rfl, by decide +kernel, by decide +kernel⟩
theorem ok_is_good_row (X : K.In h) (G : h.Ns mainGlobals mg) (c : He.SaysD fa fn K) : OkF P w K mg base 3 "is_good_row" ["thing", "bound"] [] (sp_is_good_row) := by
  obtain ⟨fd, F⟩ := c.def_ 11 (d := d_is_good_row) rfl
  have c_is_rising := ok_is_rising (P := P) (w := w) (base := base) X G c
  have c_is_below := ok_is_below (P := P) (w := w) (base := base) X G c
  have m_all := He.free_ok X G (c.fact 43 (f := .free "all") rfl)
  have m_isinstance := He.free_ok X G (c.fact 47 (f := .free "isinstance") rfl)
  have m_tuple := He.free_ok X G (c.fact 58 (f := .free "tuple") rfl)
  refine okF_of F (He.glo_ok X G (c.fact 11 (f := .glo "is_good_row") rfl)) (F.bindsN fun _ _ _ _ _ _ us hl => match us, hl with | [_, _], _ => rfl) sc_is_good_row len2 (sem_is_good_row) ?_
  intro cdv A outer s H E hr hgd tk hl hp
  have nd := (sc_is_good_row).nd
  have hu := hu_of hr
  have hu64 := room_hu64 hr
  have hu65 := room_hu65 hr
  exact (qss_cons (qs_if (qt_not (qt_tru (qe_callB b_isi m_isinstance bt_isinstance (qa_cons (qv 0) (qa_cons (qe_bltn (.ty "tuple") (.ty "tuple") m_tuple bt_tuple rfl fun _ => rfl) qa_nil))))) (qss_one (qs_ret qe_bl)) qss_nil) (qss_one (qs_ret (qe_and (qe_callB (b_all rfl) m_all bt_all (qa_cons (qe_lc (own := [("part", 2)]) (js := [2]) rfl nd (qi_any (qv 0)) (blkOk_by (N := n_is_good_row) (sc := defScope (top 25)) (by decide +kernel)) (by decide) (fun _ _ _ _ _ => (qg_name nd)) (fun _ _ _ _ _ => qts_nil) (fun _ _ _ _ _ => (q_call c_is_below (hr.mono (by first | decide | omega)) hgd lets_never (qa_cons (qv 2) (qa_cons (qv 1) qa_nil))))) qa_nil)) (qe_one (q_call c_is_rising (hr.mono (by first | decide | omega)) hgd hl (qa_cons (qv 0) qa_nil)))))))
theorem sc_is_machine_form : FnScope n_is_machine_form ["thing"] (defScope (top 26)) := ⟨rfl, rfl, rfl, by decide +kernel, rfl, by decide +kernel, by decide +kernel⟩
theorem ok_is_machine_form (X : K.In h) (G : h.Ns mainGlobals mg) (c : He.SaysD fa fn K) : OkF P w K mg base 4 "is_machine_form" ["thing"] [] (sp_is_machine_form) := by
  obtain ⟨fd, F⟩ := c.def_ 12 (d := d_is_machine_form) rfl
  have c_is_names_form := ok_is_names_form (P := P) (w := w) (base := base) X G c
  have c_is_row := ok_is_row (P := P) (w := w) (base := base) X G c
  have c_lays_of := ok_lays_of (P := P) (w := w) (base := base) X G c
  have c_is_good_row := ok_is_good_row (P := P) (w := w) (base := base) X G c
  have c_is_below := ok_is_below (P := P) (w := w) (base := base) X G c
  have m_all := He.free_ok X G (c.fact 43 (f := .free "all") rfl)
  have m_isinstance := He.free_ok X G (c.fact 47 (f := .free "isinstance") rfl)
  have m_len := He.free_ok X G (c.fact 48 (f := .free "len") rfl)
  have m_tuple := He.free_ok X G (c.fact 58 (f := .free "tuple") rfl)
  obtain ⟨_, g_MOST_STATES⟩ := He.int_ok X G (c.fact 64 (f := .int "MOST_STATES" 300) rfl)
  obtain ⟨_, g_MARKS⟩ := He.str_ok X G (c.fact 60 (f := .str "MARKS" "abcdefgh") rfl)
  refine okF_of F (He.glo_ok X G (c.fact 12 (f := .glo "is_machine_form") rfl)) (F.bindsN fun _ _ _ _ _ _ us hl => match us, hl with | [_], _ => rfl) sc_is_machine_form len1 (sem_is_machine_form) ?_
  intro cdv A outer s H E hr hgd tk hl hp
  have nd := (sc_is_machine_form).nd
  have hu := hu_of hr
  have hu64 := room_hu64 hr
  have hu65 := room_hu65 hr
  exact (qss_cons (qs_if (QW.pt (qw_or (qt_not (qt_tru (qe_callB b_isi m_isinstance bt_isinstance (qa_cons (qv 0) (qa_cons (qe_bltn (.ty "tuple") (.ty "tuple") m_tuple bt_tuple rfl fun _ => rfl) qa_nil))))) (qw_or1 (qt_cmp (o_ne hu64) (qe_callB b_len m_len bt_len (qa_cons (qv 0) qa_nil)) qe_int)))) (qss_one (qs_ret qe_bl)) qss_nil) (qss_cons (qs_asg (qv 0) (qg_tup rfl (qgs_cons (qg_name nd) (qgs_cons (qg_name nd) (qgs_cons (qg_name nd) (qgs_cons (qg_name nd) (qgs_cons (qg_name nd) qgs_nil))))))) (qss_cons (qs_if (QW.pt (qw_or (qt_not (qt_tru (q_call c_is_names_form (hr.mono (by first | decide | omega)) hgd hl (qa_cons (qv 1) qa_nil)))) (qw_or (qt_not (qt_tru (qe_callB b_isi m_isinstance bt_isinstance (qa_cons (qv 2) (qa_cons (qe_bltn (.ty "tuple") (.ty "tuple") m_tuple bt_tuple rfl fun _ => rfl) qa_nil))))) (qw_or1 (qt_not (qt_tru (qe_callB b_isi m_isinstance bt_isinstance (qa_cons (qv 4) (qa_cons (qe_bltn (.ty "tuple") (.ty "tuple") m_tuple bt_tuple rfl fun _ => rfl) qa_nil))))))))) (qss_one (qs_ret qe_bl)) qss_nil) (qss_cons (qs_set nd (qe_callB b_len m_len bt_len (qa_cons (qv 4) qa_nil))) (qss_cons (qs_if (QW.pt (qw_or (qt_not (qt_ch (pt_chain o_leI o_leI qe_int (qv 6) (qe_glob (.int 300) (.int 300) g_MOST_STATES ⟨_, rfl⟩ fun _ => rfl)))) (qw_or1 (qt_cmp (o_ne hu64) (qe_callB b_len m_len bt_len (qa_cons (qv 2) qa_nil)) (qe_callB b_len m_len bt_len (qa_cons (qe_glob (.str "abcdefgh") (.str "abcdefgh") g_MARKS ⟨_, rfl⟩ fun _ => rfl) qa_nil)))))) (qss_one (qs_ret qe_bl)) qss_nil) (qss_cons (qs_if (qt_not (qt_tru (qe_callB (b_all rfl) m_all bt_all (qa_cons (qe_lc (own := [("row", 7)]) (js := [7]) rfl nd (qi_any (qv 4)) (blkOk_by (N := n_is_machine_form) (sc := defScope (top 26)) (by decide +kernel)) (by decide) (fun _ _ _ _ _ => (qg_name nd)) (fun _ _ _ _ _ => qts_nil) (fun _ _ _ _ _ => (q_call c_is_row (hr.mono (by first | decide | omega)) hgd lets_never (qa_cons (qv 7) (qa_cons (qv 6) (qa_cons (qv 6) qa_nil)))))) qa_nil)))) (qss_one (qs_ret qe_bl)) qss_nil) (qss_cons (qs_if (qt_not (qt_tru (qe_callB (b_all rfl) m_all bt_all (qa_cons (qe_lc (own := [("row", 7)]) (js := [7]) rfl nd (qi_any (qv 2)) (blkOk_by (N := n_is_machine_form) (sc := defScope (top 26)) (by decide +kernel)) (by decide) (fun _ _ _ _ _ => (qg_name nd)) (fun _ _ _ _ _ => qts_nil) (fun _ _ _ _ _ => (q_call c_is_row (hr.mono (by first | decide | omega)) hgd lets_never (qa_cons (qv 7) (qa_cons (q_call c_lays_of (hr.mono (by first | decide | omega)) hgd lets_never (qa_cons (qv 1) qa_nil)) (qa_cons (qv 6) qa_nil)))))) qa_nil)))) (qss_one (qs_ret qe_bl)) qss_nil) (qss_one (qs_ret (qe_and (q_call c_is_below (hr.mono (by first | decide | omega)) hgd hl (qa_cons (qv 3) (qa_cons (qv 6) qa_nil))) (qe_one (q_call c_is_good_row (hr.mono (by first | decide | omega)) hgd hl (qa_cons (qv 5) (qa_cons (qv 6) qa_nil))))))))))))))
theorem sc_need_machine : FnScope n_need_machine ["machine"] (defScope (top 27)) := ⟨rfl, rfl, rfl, by decide +kernel, rfl, by decide +kernel, by decide +kernel⟩
theorem ok_need_machine (X : K.In h) (G : h.Ns mainGlobals mg) (c : He.SaysD fa fn K) : OkF P w K mg base 5 "need_machine" ["machine"] [] (sp_need_machine) := by
  obtain ⟨fd, F⟩ := c.def_ 13 (d := d_need_machine) rfl
  have c_is_machine_form := ok_is_machine_form (P := P) (w := w) (base := base) X G c
  refine okF_of F (He.glo_ok X G (c.fact 13 (f := .glo "need_machine") rfl)) (F.bindsN fun _ _ _ _ _ _ us hl => match us, hl with | [_], _ => rfl) sc_need_machine len1 (sem_need_machine) ?_
  intro cdv A outer s H E hr hgd tk hl hp
  have nd := (sc_need_machine).nd
  have hu := hu_of hr
  have hu64 := room_hu64 hr
  have hu65 := room_hu65 hr
  exact (qss_one (qs_if (qt_not (qt_tru (q_call c_is_machine_form (hr.mono (by first | decide | omega)) hgd hl (qa_cons (qv 0) qa_nil)))) (qss_one qs_never) qss_nil))
theorem sc_need_laying : FnScope n_need_laying ["machine", "document", "laying"] (defScope (top 28)) := ⟨rfl, rfl, rfl, by decide +kernel, rfl, by decide +kernel, by decide +kernel⟩
theorem ok_need_laying (X : K.In h) (G : h.Ns mainGlobals mg) (c : He.SaysD fa fn K) : OkF P w K mg base 4 "need_laying" ["machine", "document", "laying"] [] (sp_need_laying) := by
  obtain ⟨fd, F⟩ := c.def_ 14 (d := d_need_laying) rfl
  have c_is_row := ok_is_row (P := P) (w := w) (base := base) X G c
  have c_lays_of := ok_lays_of (P := P) (w := w) (base := base) X G c
  have m_len := He.free_ok X G (c.fact 48 (f := .free "len") rfl)
  refine okF_of F (He.glo_ok X G (c.fact 14 (f := .glo "need_laying") rfl)) (F.bindsN fun _ _ _ _ _ _ us hl => match us, hl with | [_, _, _], _ => rfl) sc_need_laying len3 (sem_need_laying) ?_
  intro cdv A outer s H E hr hgd tk hl hp
  have nd := (sc_need_laying).nd
  have hu := hu_of hr
  have hu64 := room_hu64 hr
  have hu65 := room_hu65 hr
  exact (qss_one (qs_if (qt_not (qt_tru (q_call c_is_row (hr.mono (by first | decide | omega)) hgd hl (qa_cons (qv 2) (qa_cons (qe_callB b_len m_len bt_len (qa_cons (qv 1) qa_nil)) (qa_cons (q_call c_lays_of (hr.mono (by first | decide | omega)) hgd hl (qa_cons (qe_ix (qv 0) qe_int) qa_nil)) qa_nil)))))) (qss_one qs_never) qss_nil))
theorem sc_need_spots : FnScope n_need_spots ["machine", "document", "nodes"] (defScope (top 29)) := ⟨rfl, rfl, rfl, by decide +kernel, rfl, by decide +kernel, by decide +kernel⟩
theorem ok_need_spots (X : K.In h) (G : h.Ns mainGlobals mg) (c : He.SaysD fa fn K) : OkF P w K mg base 4 "need_spots" ["machine", "document", "nodes"] [] (sp_need_spots) := by
  obtain ⟨fd, F⟩ := c.def_ 15 (d := d_need_spots) rfl
  have c_is_row := ok_is_row (P := P) (w := w) (base := base) X G c
  have m_len := He.free_ok X G (c.fact 48 (f := .free "len") rfl)
  refine okF_of F (He.glo_ok X G (c.fact 15 (f := .glo "need_spots") rfl)) (F.bindsN fun _ _ _ _ _ _ us hl => match us, hl with | [_, _, _], _ => rfl) sc_need_spots len3 (sem_need_spots) ?_
  intro cdv A outer s H E hr hgd tk hl hp
  have nd := (sc_need_spots).nd
  have hu := hu_of hr
  have hu64 := room_hu64 hr
  have hu65 := room_hu65 hr
  exact (qss_one (qs_if (qt_not (qt_tru (q_call c_is_row (hr.mono (by first | decide | omega)) hgd hl (qa_cons (qv 2) (qa_cons (qe_callB b_len m_len bt_len (qa_cons (qe_ix (qv 0) qe_int) qa_nil)) (qa_cons (qe_callB b_len m_len bt_len (qa_cons (qv 1) qa_nil)) qa_nil)))))) (qss_one qs_never) qss_nil))
theorem sc_step_closed : FnScope n_step_closed ["step", "states", "open_nodes", "state"] (defScope (top 31)) := ⟨rfl, rfl, rfl, by decide +kernel, rfl, by decide +kernel, by decide +kernel⟩
theorem ok_step_closed (X : K.In h) (G : h.Ns mainGlobals mg) (c : He.SaysD fa fn K) : OkF P w K mg base 1 "step_closed" ["step", "states", "open_nodes", "state"] [] (sp_step_closed) := by
  obtain ⟨fd, F⟩ := c.def_ 16 (d := d_step_closed) rfl
  have m_len := He.free_ok X G (c.fact 48 (f := .free "len") rfl)
  refine okF_of F (He.glo_ok X G (c.fact 16 (f := .glo "step_closed") rfl)) (F.bindsN fun _ _ _ _ _ _ us hl => match us, hl with | [_, _, _, _], _ => rfl) sc_step_closed len4 (sem_step_closed) ?_
  intro cdv A outer s H E hr hgd tk hl hp
  have nd := (sc_step_closed).nd
  have hu := hu_of hr
  have hu64 := room_hu64 hr
  have hu65 := room_hu65 hr
  exact (qss_cons (qs_set nd (qe_ix (qv 1) (q_bm0 (pe_bm0 PySem.F.plainAttrs_list PySem.F.slot_list_pop PySem.F.type_list_pop m_pop (qv 2))))) (qss_cons (qs_if (qt_cmp (o_eq hu64) (qe_callB b_len m_len bt_len (qa_cons (qv 2) qa_nil)) qe_int) (qss_one (qs_ret (qe_ix (qe_ix (qv 0) (qv 3)) (qv 4)))) qss_nil) (qss_cons (qs_set nd (qe_ix (qv 2) (qe_un o_neg qe_int))) (qss_cons (qs_asg (qe_ix (qe_ix (qv 0) (qe_ix (qv 1) (qv 5))) (qv 4)) (q_sub (pg_sub (qv 1) (qv 5) (p_set hu)))) (qss_one (qs_ret (qv 3)))))))
theorem sc_states_in : FnScope n_states_in ["machine", "document", "laying"] (defScope (top 32)) := ⟨rfl, rfl, rfl, by decide +kernel, rfl, by decide +kernel, by decide +kernel⟩
theorem ok_states_in (X : K.In h) (G : h.Ns mainGlobals mg) (c : He.SaysD fa fn K) : OkF P w K mg base 2 "states_in" ["machine", "document", "laying"] [] (sp_states_in) := by
  obtain ⟨fd, F⟩ := c.def_ 17 (d := d_states_in) rfl
  have c_step_closed := ok_step_closed (P := P) (w := w) (base := base) X G c
  have m_enumerate := He.free_ok X G (c.fact 45 (f := .free "enumerate") rfl)
  have m_len := He.free_ok X G (c.fact 48 (f := .free "len") rfl)
  obtain ⟨_, g_MARKS⟩ := He.str_ok X G (c.fact 60 (f := .str "MARKS" "abcdefgh") rfl)
  refine okF_of F (He.glo_ok X G (c.fact 17 (f := .glo "states_in") rfl)) (F.bindsN fun _ _ _ _ _ _ us hl => match us, hl with | [_, _, _], _ => rfl) sc_states_in len3 (sem_states_in) ?_
  intro cdv A outer s H E hr hgd tk hl hp
  have nd := (sc_states_in).nd
  have hu := hu_of hr
  have hu64 := room_hu64 hr
  have hu65 := room_hu65 hr
  exact (qss_cons (qs_asg (qv 0) (qg_tup rfl (qgs_cons (qg_name nd) (qgs_cons (qg_name nd) (qgs_cons (qg_name nd) (qgs_cons (qg_name nd) (qgs_cons (qg_name nd) qgs_nil))))))) (qss_cons (qs_par3 rfl nd (by decide) (by decide) (by decide) (qa_cons (qe_lst qa_nil) (qa_cons (qe_lst qa_nil) (qa_cons (qv 5) qa_nil)))) (qss_cons (qs_for hp rfl (qi_enum m_enumerate (qa_cons (qv 1) qa_nil)) (qg_tup rfl (qgs_cons (qg_name nd) (qgs_cons (qg_tup rfl (qgs_cons (qg_name nd) (qgs_cons (qg_name nd) qgs_nil))) qgs_nil))) (qss_cons (qs_while hp (qt_cmp o_gtI (qe_callB b_len m_len bt_len (qa_cons (qv 9) qa_nil)) (qv 13)) (qss_one (qs_set nd (q_call c_step_closed (hr.mono (by first | decide | omega)) hgd hl (qa_cons (qv 6) (qa_cons (qv 8) (qa_cons (qv 9) (qa_cons (qv 10) qa_nil)))))))) (qss_cons (qs_set nd (qe_ix (qv 4) (q_m1 (pe_m1 PySem.F.slot_str_index PySem.F.type_str_index m_sindex (qe_glob (.str "abcdefgh") (.str "abcdefgh") g_MARKS ⟨_, rfl⟩ fun _ => rfl) (qv 12))))) (qss_cons (qs_expr (q_bm (pe_bm PySem.F.plainAttrs_list PySem.F.slot_list_append PySem.F.type_list_append m_append (qv 8) (qa_cons (qe_ix (qv 14) (qe_ix (qv 2) (qv 11))) qa_nil)))) (qss_one (qs_expr (q_bm (pe_bm PySem.F.plainAttrs_list PySem.F.slot_list_append PySem.F.type_list_append m_append (qv 9) (qa_cons (qv 11) qa_nil))))))))) (qss_cons (qs_while hp (qt_cmp o_gtI (qe_callB b_len m_len bt_len (qa_cons (qv 9) qa_nil)) qe_int) (qss_one (qs_set nd (q_call c_step_closed (hr.mono (by first | decide | omega)) hgd hl (qa_cons (qv 6) (qa_cons (qv 8) (qa_cons (qv 9) (qa_cons (qv 10) qa_nil)))))))) (qss_one (qs_ret (qe_tup (qa_cons (qv 8) (qa_cons (qv 10) qa_nil)))))))))
theorem sc_laying_of : FnScope n_laying_of ["document", "nodes"] (defScope (top 33)) := ⟨rfl, rfl, rfl, by decide +kernel, rfl, by decide +kernel, by decide +kernel⟩
theorem ok_laying_of (X : K.In h) (G : h.Ns mainGlobals mg) (c : He.SaysD fa fn K) : OkF P w K mg base 1 "laying_of" ["document", "nodes"] [] (sp_laying_of) := by
  obtain ⟨fd, F⟩ := c.def_ 18 (d := d_laying_of) rfl
  have m_enumerate := He.free_ok X G (c.fact 45 (f := .free "enumerate") rfl)
  have m_len := He.free_ok X G (c.fact 48 (f := .free "len") rfl)
  have m_tuple := He.free_ok X G (c.fact 58 (f := .free "tuple") rfl)
  refine okF_of F (He.glo_ok X G (c.fact 18 (f := .glo "laying_of") rfl)) (F.bindsN fun _ _ _ _ _ _ us hl => match us, hl with | [_, _], _ => rfl) sc_laying_of len2 (sem_laying_of) ?_
  intro cdv A outer s H E hr hgd tk hl hp
  have nd := (sc_laying_of).nd
  have hu := hu_of hr
  have hu64 := room_hu64 hr
  have hu65 := room_hu65 hr
  exact (qss_cons (qs_set nd (qe_op o_mul (qe_lst (qa_cons qe_int qa_nil)) (qe_callB b_len m_len bt_len (qa_cons (qv 0) qa_nil)))) (qss_cons (qs_for hp rfl (qi_enum m_enumerate (qa_cons (qv 1) qa_nil)) (qg_tup rfl (qgs_cons (qg_name nd) (qgs_cons (qg_name nd) qgs_nil))) (qss_one (qs_augS hu (qv 2) (qv 4) (qe_op o_shl qe_int (qv 3)) i_add))) (qss_one (qs_ret (qe_callTy b_tuple m_tuple bt_tuple (qa_cons (qv 2) qa_nil))))))
theorem sc_run : FnScope n_run ["machine", "document", "laying"] (defScope (top 35)) := ⟨rfl, rfl, rfl, by decide +kernel, rfl, by decide +kernel, by decide +kernel⟩
theorem ok_run (X : K.In h) (G : h.Ns mainGlobals mg) (c : He.SaysD fa fn K) : OkF P w K mg base 6 "run" ["machine", "document", "laying"] [] (sp_run) := by
  obtain ⟨fd, F⟩ := c.def_ 19 (d := d_run) rfl
  have c_need_machine := ok_need_machine (P := P) (w := w) (base := base) X G c
  have c_need_document := ok_need_document (P := P) (w := w) (base := base) X G c
  have c_need_laying := ok_need_laying (P := P) (w := w) (base := base) X G c
  have c_states_in := ok_states_in (P := P) (w := w) (base := base) X G c
  refine okF_of F (He.glo_ok X G (c.fact 19 (f := .glo "run") rfl)) (F.bindsN fun _ _ _ _ _ _ us hl => match us, hl with | [_, _, _], _ => rfl) sc_run len3 (sem_run) ?_
  intro cdv A outer s H E hr hgd tk hl hp
  have nd := (sc_run).nd
  have hu := hu_of hr
  have hu64 := room_hu64 hr
  have hu65 := room_hu65 hr
  exact (qss_cons (qs_expr (q_call c_need_machine (hr.mono (by first | decide | omega)) hgd hl (qa_cons (qv 0) qa_nil))) (qss_cons (qs_expr (q_call c_need_document (hr.mono (by first | decide | omega)) hgd hl (qa_cons (qv 1) qa_nil))) (qss_cons (qs_expr (q_call c_need_laying (hr.mono (by first | decide | omega)) hgd hl (qa_cons (qv 0) (qa_cons (qv 1) (qa_cons (qv 2) qa_nil))))) (qss_one (qs_ret (q_call c_states_in (hr.mono (by first | decide | omega)) hgd hl (qa_cons (qv 0) (qa_cons (qv 1) (qa_cons (qv 2) qa_nil)))))))))
theorem sc_state_of : FnScope n_state_of ["machine", "document", "laying"] (defScope (top 36)) := ⟨rfl, rfl, rfl, by decide +kernel, rfl, by decide +kernel, by decide +kernel⟩
theorem ok_state_of (X : K.In h) (G : h.Ns mainGlobals mg) (c : He.SaysD fa fn K) : OkF P w K mg base 7 "state_of" ["machine", "document", "laying"] [] (sp_state_of) := by
  obtain ⟨fd, F⟩ := c.def_ 20 (d := d_state_of) rfl
  have c_run := ok_run (P := P) (w := w) (base := base) X G c
  refine okF_of F (He.glo_ok X G (c.fact 20 (f := .glo "state_of") rfl)) (F.bindsN fun _ _ _ _ _ _ us hl => match us, hl with | [_, _, _], _ => rfl) sc_state_of len3 (sem_state_of) ?_
  intro cdv A outer s H E hr hgd tk hl hp
  have nd := (sc_state_of).nd
  have hu := hu_of hr
  have hu64 := room_hu64 hr
  have hu65 := room_hu65 hr
  exact (qss_one (qs_ret (qe_ix (q_call c_run (hr.mono (by first | decide | omega)) hgd hl (qa_cons (qv 0) (qa_cons (qv 1) (qa_cons (qv 2) qa_nil)))) qe_int)))
theorem sc_states_of : FnScope n_states_of ["machine", "document", "laying"] (defScope (top 37)) := ⟨rfl, rfl, rfl, by decide +kernel, rfl, by decide +kernel, by decide +kernel⟩
theorem ok_states_of (X : K.In h) (G : h.Ns mainGlobals mg) (c : He.SaysD fa fn K) : OkF P w K mg base 7 "states_of" ["machine", "document", "laying"] [] (sp_states_of) := by
  obtain ⟨fd, F⟩ := c.def_ 21 (d := d_states_of) rfl
  have c_run := ok_run (P := P) (w := w) (base := base) X G c
  have m_tuple := He.free_ok X G (c.fact 58 (f := .free "tuple") rfl)
  refine okF_of F (He.glo_ok X G (c.fact 21 (f := .glo "states_of") rfl)) (F.bindsN fun _ _ _ _ _ _ us hl => match us, hl with | [_, _, _], _ => rfl) sc_states_of len3 (sem_states_of) ?_
  intro cdv A outer s H E hr hgd tk hl hp
  have nd := (sc_states_of).nd
  have hu := hu_of hr
  have hu64 := room_hu64 hr
  have hu65 := room_hu65 hr
  exact (qss_one (qs_ret (qe_callTy b_tuple m_tuple bt_tuple (qa_cons (qe_ix (q_call c_run (hr.mono (by first | decide | omega)) hgd hl (qa_cons (qv 0) (qa_cons (qv 1) (qa_cons (qv 2) qa_nil)))) qe_int) qa_nil))))
theorem sc_lets : FnScope n_lets ["machine", "document", "laying"] (defScope (top 38)) := ⟨rfl, rfl, rfl, by decide +kernel, rfl, by decide +kernel, by decide +kernel⟩
theorem ok_lets (X : K.In h) (G : h.Ns mainGlobals mg) (c : He.SaysD fa fn K) : OkF P w K mg base 7 "lets" ["machine", "document", "laying"] [] (sp_lets) := by
  obtain ⟨fd, F⟩ := c.def_ 22 (d := d_lets) rfl
  have c_run := ok_run (P := P) (w := w) (base := base) X G c
  refine okF_of F (He.glo_ok X G (c.fact 22 (f := .glo "lets") rfl)) (F.bindsN fun _ _ _ _ _ _ us hl => match us, hl with | [_, _, _], _ => rfl) sc_lets len3 (sem_lets) ?_
  intro cdv A outer s H E hr hgd tk hl hp
  have nd := (sc_lets).nd
  have hu := hu_of hr
  have hu64 := room_hu64 hr
  have hu65 := room_hu65 hr
  exact (qss_one (qs_ret (qe_cmp (o_inX hu65) (qe_ix (q_call c_run (hr.mono (by first | decide | omega)) hgd hl (qa_cons (qv 0) (qa_cons (qv 1) (qa_cons (qv 2) qa_nil)))) qe_int) (qe_ix (qv 0) qe_int))))
theorem sc_takes : FnScope n_takes ["machine", "document", "nodes"] (defScope (top 39)) := ⟨rfl, rfl, rfl, by decide +kernel, rfl, by decide +kernel, by decide +kernel⟩
theorem ok_takes (X : K.In h) (G : h.Ns mainGlobals mg) (c : He.SaysD fa fn K) : OkF P w K mg base 6 "takes" ["machine", "document", "nodes"] [] (sp_takes) := by
  obtain ⟨fd, F⟩ := c.def_ 23 (d := d_takes) rfl
  have c_need_machine := ok_need_machine (P := P) (w := w) (base := base) X G c
  have c_need_document := ok_need_document (P := P) (w := w) (base := base) X G c
  have c_need_spots := ok_need_spots (P := P) (w := w) (base := base) X G c
  have c_states_in := ok_states_in (P := P) (w := w) (base := base) X G c
  have c_laying_of := ok_laying_of (P := P) (w := w) (base := base) X G c
  refine okF_of F (He.glo_ok X G (c.fact 23 (f := .glo "takes") rfl)) (F.bindsN fun _ _ _ _ _ _ us hl => match us, hl with | [_, _, _], _ => rfl) sc_takes len3 (sem_takes) ?_
  intro cdv A outer s H E hr hgd tk hl hp
  have nd := (sc_takes).nd
  have hu := hu_of hr
  have hu64 := room_hu64 hr
  have hu65 := room_hu65 hr
  exact (qss_cons (qs_expr (q_call c_need_machine (hr.mono (by first | decide | omega)) hgd hl (qa_cons (qv 0) qa_nil))) (qss_cons (qs_expr (q_call c_need_document (hr.mono (by first | decide | omega)) hgd hl (qa_cons (qv 1) qa_nil))) (qss_cons (qs_expr (q_call c_need_spots (hr.mono (by first | decide | omega)) hgd hl (qa_cons (qv 0) (qa_cons (qv 1) (qa_cons (qv 2) qa_nil))))) (qss_one (qs_ret (qe_cmp (o_inX hu65) (qe_ix (q_call c_states_in (hr.mono (by first | decide | omega)) hgd hl (qa_cons (qv 0) (qa_cons (qv 1) (qa_cons (q_call c_laying_of (hr.mono (by first | decide | omega)) hgd hl (qa_cons (qv 1) (qa_cons (qv 2) qa_nil))) qa_nil)))) qe_int) (qe_ix (qv 0) qe_int)))))))
theorem sc__law_feed : FnScope n__law_feed ["script", "k"] (defScope (top 41)) := ⟨rfl, rfl, rfl, by decide +kernel, rfl, by decide +kernel, by decide +kernel⟩
theorem ok__law_feed (X : K.In h) (G : h.Ns mainGlobals mg) (c : He.SaysD fa fn K) : OkF P w K mg base 1 "_law_feed" ["script", "k"] [] (sp__law_feed) := by
  obtain ⟨fd, F⟩ := c.def_ 24 (d := d__law_feed) rfl
  have m_int := He.free_ok X G (c.fact 46 (f := .free "int") rfl)
  have m_len := He.free_ok X G (c.fact 48 (f := .free "len") rfl)
  have m_max := He.free_ok X G (c.fact 50 (f := .free "max") rfl)
  have m_sum := He.free_ok X G (c.fact 57 (f := .free "sum") rfl)
  refine okF_of F (He.glo_ok X G (c.fact 24 (f := .glo "_law_feed") rfl)) (F.bindsN fun _ _ _ _ _ _ us hl => match us, hl with | [_, _], _ => rfl) sc__law_feed len2 (sem__law_feed) ?_
  intro cdv A outer s H E hr hgd tk hl hp
  have nd := (sc__law_feed).nd
  have hu := hu_of hr
  have hu64 := room_hu64 hr
  have hu65 := room_hu65 hr
  exact (qss_cons (qs_set nd (qe_op o_add (qe_op o_mul qe_int (qv 1)) (qe_callB (b_sum rfl) m_sum bt_sum (qa_cons (qe_slice (qv 0) qo_none (qo_some qe_int)) qa_nil)))) (qss_cons (qs_if (qt_cmp o_ltI (qv 1) (qe_callB b_len m_len bt_len (qa_cons (qv 0) qa_nil))) (qss_one (qs_set nd (qe_ix (qv 0) (qv 1)))) qss_nil) (qss_one (qs_ret (qe_lst (qa_cons (qe_callB (b_max2 rfl) m_max bt_max (qa_cons qe_int (qa_cons (qe_op o_sub (qv 2) (qe_op o_pow qe_int qe_int)) qa_nil))) (qa_cons (qe_op o_mod (qe_callTy b_int m_int bt_int (qa_cons (qe_op o_add (qe_op o_mul (qv 2) qe_int) (qe_op o_mul qe_int (qv 1))) qa_nil)) (qe_op o_add (qe_op o_pow qe_int qe_int) qe_int)) (qa_cons qe_int qa_nil))))))))
theorem sc__law_draw : FnScope n__law_draw ["feed", "many"] (defScope (top 42)) := ⟨rfl, rfl, rfl, by decide +kernel, rfl, by decide +kernel, by decide +kernel⟩
theorem ok__law_draw (X : K.In h) (G : h.Ns mainGlobals mg) (c : He.SaysD fa fn K) : OkF P w K mg base 1 "_law_draw" ["feed", "many"] [] (sp__law_draw) := by
  obtain ⟨fd, F⟩ := c.def_ 25 (d := d__law_draw) rfl
  have m_int := He.free_ok X G (c.fact 46 (f := .free "int") rfl)
  refine okF_of F (He.glo_ok X G (c.fact 25 (f := .glo "_law_draw") rfl)) (F.bindsN fun _ _ _ _ _ _ us hl => match us, hl with | [_, _], _ => rfl) sc__law_draw len2 (sem__law_draw) ?_
  intro cdv A outer s H E hr hgd tk hl hp
  have nd := (sc__law_draw).nd
  have hu := hu_of hr
  have hu64 := room_hu64 hr
  have hu65 := room_hu65 hr
  exact (qss_cons (qs_if (qt_cmp o_gtI (qe_ix (qv 0) qe_int) qe_int) (qss_cons (qs_set nd (qe_op o_fdiv (qe_ix (qv 0) qe_int) (qv 1))) (qss_cons (qs_set nd (qe_op o_sub (qe_ix (qv 0) qe_int) (qe_op o_mul (qv 2) (qv 1)))) (qss_cons (qs_asg (qv 2) (q_sub (pg_sub (qv 0) qe_int (p_set hu)))) (qss_one (qs_ret (qv 3)))))) qss_nil) (qss_cons (qs_asg (qe_op o_add (qe_ix (qv 0) qe_int) qe_int) (q_sub (pg_sub (qv 0) qe_int (p_set hu)))) (qss_cons (qs_set nd (qe_op o_add (qe_ix (qv 0) qe_int) (qe_op o_mul qe_int (qe_ix (qv 0) qe_int)))) (qss_cons (qs_set nd (qe_op o_mod (qe_callTy b_int m_int bt_int (qa_cons (qe_op o_add (qe_op o_mul (qe_op o_mul (qv 4) (qv 4)) (qv 4)) (qe_op o_mul qe_int (qe_ix (qv 0) qe_int))) qa_nil)) (qe_op o_add (qe_op o_pow qe_int qe_int) qe_int))) (qss_cons (qs_set nd (qe_op o_mod (qe_callTy b_int m_int bt_int (qa_cons (qe_op o_add (qe_op o_mul (qv 4) (qv 4)) qe_int) qa_nil)) (qe_op o_add (qe_op o_pow qe_int qe_int) qe_int))) (qss_one (qs_ret (qe_op o_mod (qe_callTy b_int m_int bt_int (qa_cons (qe_op o_fdiv (qv 4) (qe_op o_pow qe_int qe_int)) qa_nil)) (qv 1)))))))))
theorem sc__law_one : FnScope n__law_one ["feed", "things"] (defScope (top 43)) := ⟨rfl, rfl, rfl, by decide +kernel, rfl, by decide +kernel, by decide +kernel⟩
theorem ok__law_one (X : K.In h) (G : h.Ns mainGlobals mg) (c : He.SaysD fa fn K) : OkF P w K mg base 2 "_law_one" ["feed", "things"] [] (sp__law_one) := by
  obtain ⟨fd, F⟩ := c.def_ 26 (d := d__law_one) rfl
  have c__law_draw := ok__law_draw (P := P) (w := w) (base := base) X G c
  have m_len := He.free_ok X G (c.fact 48 (f := .free "len") rfl)
  refine okF_of F (He.glo_ok X G (c.fact 26 (f := .glo "_law_one") rfl)) (F.bindsN fun _ _ _ _ _ _ us hl => match us, hl with | [_, _], _ => rfl) sc__law_one len2 (sem__law_one) ?_
  intro cdv A outer s H E hr hgd tk hl hp
  have nd := (sc__law_one).nd
  have hu := hu_of hr
  have hu64 := room_hu64 hr
  have hu65 := room_hu65 hr
  exact (qss_one (qs_ret (qe_ix (qv 1) (q_call c__law_draw (hr.mono (by first | decide | omega)) hgd hl (qa_cons (qv 0) (qa_cons (qe_callB b_len m_len bt_len (qa_cons (qv 1) qa_nil)) qa_nil))))))
theorem sc__law_mixed : FnScope n__law_mixed ["feed", "things"] (defScope (top 44)) := ⟨rfl, rfl, rfl, by decide +kernel, rfl, by decide +kernel, by decide +kernel⟩
theorem ok__law_mixed (X : K.In h) (G : h.Ns mainGlobals mg) (c : He.SaysD fa fn K) : OkF P w K mg base 2 "_law_mixed" ["feed", "things"] [] (sp__law_mixed) := by
  obtain ⟨fd, F⟩ := c.def_ 27 (d := d__law_mixed) rfl
  have c__law_draw := ok__law_draw (P := P) (w := w) (base := base) X G c
  have m_len := He.free_ok X G (c.fact 48 (f := .free "len") rfl)
  have m_list := He.free_ok X G (c.fact 49 (f := .free "list") rfl)
  have m_range := He.free_ok X G (c.fact 52 (f := .free "range") rfl)
  refine okF_of F (He.glo_ok X G (c.fact 27 (f := .glo "_law_mixed") rfl)) (F.bindsN fun _ _ _ _ _ _ us hl => match us, hl with | [_, _], _ => rfl) sc__law_mixed len2 (sem__law_mixed) ?_
  intro cdv A outer s H E hr hgd tk hl hp
  have nd := (sc__law_mixed).nd
  have hu := hu_of hr
  have hu64 := room_hu64 hr
  have hu65 := room_hu65 hr
  exact (qss_cons (qs_par rfl nd (by decide) (qa_cons (qe_callTy (b_list3 rfl) m_list bt_list (qa_cons (qv 1) qa_nil)) (qa_cons (qe_lst qa_nil) qa_nil))) (qss_cons (qs_for hp rfl (qi_range1 m_range (qa_cons (qe_callB b_len m_len bt_len (qa_cons (qv 1) qa_nil)) qa_nil)) (qg_name nd) (qss_one (qs_expr (q_bm (pe_bm PySem.F.plainAttrs_list PySem.F.slot_list_append PySem.F.type_list_append m_append (qv 3) (qa_cons (q_bm (pe_bm PySem.F.plainAttrs_list PySem.F.slot_list_pop PySem.F.type_list_pop m_popI (qv 2) (qa_cons (q_call c__law_draw (hr.mono (by first | decide | omega)) hgd hl (qa_cons (qv 0) (qa_cons (qe_callB b_len m_len bt_len (qa_cons (qv 2) qa_nil)) qa_nil))) qa_nil))) qa_nil)))))) (qss_one (qs_ret (qv 3)))))
theorem sc__law_marks : FnScope n__law_marks ["feed"] (defScope (top 45)) := ⟨rfl, rfl, rfl, by decide +kernel, rfl, by decide +kernel, by decide +kernel⟩
theorem ok__law_marks (X : K.In h) (G : h.Ns mainGlobals mg) (c : He.SaysD fa fn K) : OkF P w K mg base 3 "_law_marks" ["feed"] [] (sp__law_marks) := by
  obtain ⟨fd, F⟩ := c.def_ 28 (d := d__law_marks) rfl
  have c__law_one := ok__law_one (P := P) (w := w) (base := base) X G c
  refine okF_of F (He.glo_ok X G (c.fact 28 (f := .glo "_law_marks") rfl)) (F.bindsN fun _ _ _ _ _ _ us hl => match us, hl with | [_], _ => rfl) sc__law_marks len1 (sem__law_marks) ?_
  intro cdv A outer s H E hr hgd tk hl hp
  have nd := (sc__law_marks).nd
  have hu := hu_of hr
  have hu64 := room_hu64 hr
  have hu65 := room_hu65 hr
  exact (qss_one (qs_ret (q_call c__law_one (hr.mono (by first | decide | omega)) hgd hl (qa_cons (qv 0) (qa_cons (qe_lst (qa_cons qe_str (qa_cons qe_str (qa_cons qe_str (qa_cons qe_str (qa_cons qe_str qa_nil)))))) qa_nil)))))
theorem sc__law_document : FnScope n__law_document ["feed", "most"] (defScope (top 46)) := ⟨rfl, rfl, rfl, by decide +kernel, rfl, by decide +kernel, by decide +kernel⟩
theorem ok__law_document (X : K.In h) (G : h.Ns mainGlobals mg) (c : He.SaysD fa fn K) : OkF P w K mg base 4 "_law_document" ["feed", "most"] [] (sp__law_document) := by
  obtain ⟨fd, F⟩ := c.def_ 29 (d := d__law_document) rfl
  have c__law_draw := ok__law_draw (P := P) (w := w) (base := base) X G c
  have c__law_marks := ok__law_marks (P := P) (w := w) (base := base) X G c
  have c__law_one := ok__law_one (P := P) (w := w) (base := base) X G c
  have m_max := He.free_ok X G (c.fact 50 (f := .free "max") rfl)
  have m_min := He.free_ok X G (c.fact 51 (f := .free "min") rfl)
  have m_range := He.free_ok X G (c.fact 52 (f := .free "range") rfl)
  have m_tuple := He.free_ok X G (c.fact 58 (f := .free "tuple") rfl)
  refine okF_of F (He.glo_ok X G (c.fact 29 (f := .glo "_law_document") rfl)) (F.bindsN fun _ _ _ _ _ _ us hl => match us, hl with | [_, _], _ => rfl) sc__law_document len2 (sem__law_document) ?_
  intro cdv A outer s H E hr hgd tk hl hp
  have nd := (sc__law_document).nd
  have hu := hu_of hr
  have hu64 := room_hu64 hr
  have hu65 := room_hu65 hr
  exact (qss_cons (qs_par3 rfl nd (by decide) (by decide) (by decide) (qa_cons (q_call c__law_marks (hr.mono (by first | decide | omega)) hgd hl (qa_cons (qv 0) qa_nil)) (qa_cons (q_call c__law_draw (hr.mono (by first | decide | omega)) hgd hl (qa_cons (qv 0) (qa_cons (qe_op o_add (qv 1) qe_int) qa_nil))) (qa_cons (q_call c__law_draw (hr.mono (by first | decide | omega)) hgd hl (qa_cons (qv 0) (qa_cons qe_int qa_nil))) qa_nil)))) (qss_cons (qs_par rfl nd (by decide) (qa_cons (qe_lst qa_nil) (qa_cons (qe_un o_neg qe_int) qa_nil))) (qss_cons (qs_for hp rfl (qi_range1 m_range (qa_cons (qv 3) qa_nil)) (qg_name nd) (qss_cons (qs_if (qt_cmp (o_eq hu64) (qv 4) qe_int) (qss_one (qs_set nd (qe_if (qt_cmp (o_eq hu64) (qv 7) qe_int) qe_int qe_int))) (qss_one (qs_if (qt_cmp (o_eq hu64) (qv 4) qe_int) (qss_one (qs_set nd (qe_if (qt_cmp o_gtI (q_call c__law_draw (hr.mono (by first | decide | omega)) hgd hl (qa_cons (qv 0) (qa_cons qe_int qa_nil))) qe_int) (qe_op o_add (qv 6) qe_int) (q_call c__law_draw (hr.mono (by first | decide | omega)) hgd hl (qa_cons (qv 0) (qa_cons (qe_op o_add (qv 6) qe_int) qa_nil)))))) (qss_one (qs_set nd (qe_callB (b_max2 rfl) m_max bt_max (qa_cons qe_int (qa_cons (qe_callB (b_min2 rfl) m_min bt_min (qa_cons (qe_op o_add (qv 6) qe_int) (qa_cons (q_call c__law_one (hr.mono (by first | decide | omega)) hgd hl (qa_cons (qv 0) (qa_cons (qe_lst (qa_cons (qe_op o_add (qv 6) qe_int) (qa_cons (qe_op o_add (qv 6) qe_int) (qa_cons (qv 6) (qa_cons (qv 6) (qa_cons (qe_op o_sub (qv 6) qe_int) (qa_cons qe_int (qa_cons (q_call c__law_draw (hr.mono (by first | decide | omega)) hgd hl (qa_cons (qv 0) (qa_cons (qe_op o_add (qv 6) qe_int) qa_nil))) qa_nil)))))))) qa_nil))) qa_nil))) qa_nil)))))))) (qss_one (qs_expr (q_bm (pe_bm PySem.F.plainAttrs_list PySem.F.slot_list_append PySem.F.type_list_append m_append (qv 5) (qa_cons (qe_tup (qa_cons (q_call c__law_one (hr.mono (by first | decide | omega)) hgd hl (qa_cons (qv 0) (qa_cons (qv 2) qa_nil))) (qa_cons (qv 6) qa_nil))) qa_nil))))))) (qss_one (qs_ret (qe_callTy b_tuple m_tuple bt_tuple (qa_cons (qv 5) qa_nil)))))))
theorem sc__law_names : FnScope n__law_names ["feed", "many"] (defScope (top 47)) := ⟨rfl, rfl, rfl, by decide +kernel, rfl, by decide +kernel, by decide +kernel⟩
theorem ok__law_names (X : K.In h) (G : h.Ns mainGlobals mg) (c : He.SaysD fa fn K) : OkF P w K mg base 3 "_law_names" ["feed", "many"] [] (sp__law_names) := by
  obtain ⟨fd, F⟩ := c.def_ 30 (d := d__law_names) rfl
  have c__law_mixed := ok__law_mixed (P := P) (w := w) (base := base) X G c
  have m_sorted := He.free_ok X G (c.fact 55 (f := .free "sorted") rfl)
  have m_tuple := He.free_ok X G (c.fact 58 (f := .free "tuple") rfl)
  refine okF_of F (He.glo_ok X G (c.fact 30 (f := .glo "_law_names") rfl)) (F.bindsN fun _ _ _ _ _ _ us hl => match us, hl with | [_, _], _ => rfl) sc__law_names len2 (sem__law_names) ?_
  intro cdv A outer s H E hr hgd tk hl hp
  have nd := (sc__law_names).nd
  have hu := hu_of hr
  have hu64 := room_hu64 hr
  have hu65 := room_hu65 hr
  exact (qss_one (qs_ret (qe_callTy b_tuple m_tuple bt_tuple (qa_cons (qe_callB (b_sorted hu64) m_sorted bt_sorted (qa_cons (qe_slice (q_call c__law_mixed (hr.mono (by first | decide | omega)) hgd hl (qa_cons (qv 0) (qa_cons qe_str qa_nil))) qo_none (qo_some (qv 1))) qa_nil)) qa_nil))))
theorem sc__law_lays : FnScope n__law_lays ["names"] (defScope (top 48)) := ⟨rfl, rfl, rfl, by decide +kernel, rfl, by decide +kernel, by decide +kernel⟩
theorem ok__law_lays (X : K.In h) (G : h.Ns mainGlobals mg) (c : He.SaysD fa fn K) : OkF P w K mg base 1 "_law_lays" ["names"] [] (sp__law_lays) := by
  obtain ⟨fd, F⟩ := c.def_ 31 (d := d__law_lays) rfl
  have m_len := He.free_ok X G (c.fact 48 (f := .free "len") rfl)
  refine okF_of F (He.glo_ok X G (c.fact 31 (f := .glo "_law_lays") rfl)) (F.bindsN fun _ _ _ _ _ _ us hl => match us, hl with | [_], _ => rfl) sc__law_lays len1 (sem__law_lays) ?_
  intro cdv A outer s H E hr hgd tk hl hp
  have nd := (sc__law_lays).nd
  have hu := hu_of hr
  have hu64 := room_hu64 hr
  have hu65 := room_hu65 hr
  exact (qss_one (qs_ret (qe_ix (qe_lst (qa_cons qe_int (qa_cons qe_int (qa_cons qe_int (qa_cons qe_int (qa_cons qe_int (qa_cons qe_int qa_nil))))))) (qe_callB b_len m_len bt_len (qa_cons (qv 0) qa_nil)))))
theorem sc__law_machine : FnScope n__law_machine ["feed", "names", "most"] (defScope (top 49)) := ⟨rfl, rfl, rfl, by decide +kernel, rfl, by decide +kernel, by decide +kernel⟩
theorem ok__law_machine (X : K.In h) (G : h.Ns mainGlobals mg) (c : He.SaysD fa fn K) : OkF P w K mg base 3 "_law_machine" ["feed", "names", "most"] [] (sp__law_machine) := by
  obtain ⟨fd, F⟩ := c.def_ 32 (d := d__law_machine) rfl
  have c__law_draw := ok__law_draw (P := P) (w := w) (base := base) X G c
  have c__law_one := ok__law_one (P := P) (w := w) (base := base) X G c
  have c__law_lays := ok__law_lays (P := P) (w := w) (base := base) X G c
  have m_int := He.free_ok X G (c.fact 46 (f := .free "int") rfl)
  have m_max := He.free_ok X G (c.fact 50 (f := .free "max") rfl)
  have m_range := He.free_ok X G (c.fact 52 (f := .free "range") rfl)
  have m_tuple := He.free_ok X G (c.fact 58 (f := .free "tuple") rfl)
  refine okF_of F (He.glo_ok X G (c.fact 32 (f := .glo "_law_machine") rfl)) (F.bindsN fun _ _ _ _ _ _ us hl => match us, hl with | [_, _, _], _ => rfl) sc__law_machine len3 (sem__law_machine) ?_
  intro cdv A outer s H E hr hgd tk hl hp
  have nd := (sc__law_machine).nd
  have hu := hu_of hr
  have hu64 := room_hu64 hr
  have hu65 := room_hu65 hr
  exact (qss_cons (qs_asg (qe_tup (qa_cons (qe_op o_add qe_int (q_call c__law_draw (hr.mono (by first | decide | omega)) hgd hl (qa_cons (qv 0) (qa_cons (qv 2) qa_nil)))) (qa_cons (q_call c__law_draw (hr.mono (by first | decide | omega)) hgd hl (qa_cons (qv 0) (qa_cons qe_int qa_nil))) (qa_cons (qe_lst qa_nil) qa_nil)))) (qg_tup rfl (qgs_cons (qg_name nd) (qgs_cons (qg_name nd) (qgs_cons (qg_name nd) qgs_nil))))) (qss_cons (qs_set nd (qe_if (qt_cmp (o_eq hu64) (qv 4) qe_int) (qe_callB (b_max2 rfl) m_max bt_max (qa_cons qe_int (qa_cons (qe_op o_fdiv (qv 3) qe_int) qa_nil))) (qv 3))) (qss_cons (qs_set nd (q_call c__law_one (hr.mono (by first | decide | omega)) hgd hl (qa_cons (qv 0) (qa_cons (qe_lst (qa_cons (qv 6) (qa_cons (qv 6) (qa_cons (qe_callB (b_max2 rfl) m_max bt_max (qa_cons qe_int (qa_cons (qe_op o_fdiv (qv 6) qe_int) qa_nil))) (qa_cons qe_int qa_nil))))) qa_nil)))) (qss_cons (qs_for hp rfl (qi_range1 m_range (qa_cons (qv 3) qa_nil)) (qg_name nd) (qss_one (qs_if (qt_cmp (o_eq hu64) (qv 4) qe_int) (qss_one (qs_expr (q_bm (pe_bm PySem.F.plainAttrs_list PySem.F.slot_list_append PySem.F.type_list_append m_append (qv 5) (qa_cons (qe_callTy b_tuple m_tuple bt_tuple (qa_cons (qe_lc (own := [("r", 11)]) (js := [11]) rfl nd (qi_range1 m_range (qa_cons (qv 3) qa_nil)) (blkOk_by (N := n__law_machine) (sc := defScope (top 49)) (by decide +kernel)) (by decide) (fun _ _ _ _ _ => (qg_name nd)) (fun _ _ _ _ _ => qts_nil) (fun _ _ _ _ _ => (qe_op o_mod (qe_callTy b_int m_int bt_int (qa_cons (qe_op o_add (qv 8) (qv 11)) qa_nil)) (qv 3)))) qa_nil)) qa_nil))))) (qss_one (qs_if (qt_cmp (o_eq hu64) (qv 4) qe_int) (qss_one (qs_expr (q_bm (pe_bm PySem.F.plainAttrs_list PySem.F.slot_list_append PySem.F.type_list_append m_append (qv 5) (qa_cons (qe_callTy b_tuple m_tuple bt_tuple (qa_cons (qe_lc (own := [("r", 11)]) (js := [11]) rfl nd (qi_range1 m_range (qa_cons (qv 3) qa_nil)) (blkOk_by (N := n__law_machine) (sc := defScope (top 49)) (by decide +kernel)) (by decide) (fun _ _ _ _ _ => (qg_name nd)) (fun _ _ _ _ _ => qts_nil) (fun _ _ _ _ _ => (qe_callB (b_max2 rfl) m_max bt_max (qa_cons (qv 8) (qa_cons (qv 11) qa_nil))))) qa_nil)) qa_nil))))) (qss_one (qs_expr (q_bm (pe_bm PySem.F.plainAttrs_list PySem.F.slot_list_append PySem.F.type_list_append m_append (qv 5) (qa_cons (qe_callTy b_tuple m_tuple bt_tuple (qa_cons (qe_lc (own := [("r", 11)]) (js := [11]) rfl nd (qi_range1 m_range (qa_cons (qv 3) qa_nil)) (blkOk_by (N := n__law_machine) (sc := defScope (top 49)) (by decide +kernel)) (by decide) (fun _ _ _ _ _ => (qg_name nd)) (fun _ _ _ _ _ => qts_nil) (fun _ _ _ _ _ => (q_call c__law_draw (hr.mono (by first | decide | omega)) hgd lets_never (qa_cons (qv 0) (qa_cons (qv 6) qa_nil))))) qa_nil)) qa_nil)))))))))) (qss_cons (qs_setLc (own := [("mark", 12)]) (js := [12]) rfl nd rfl (sw_true rfl rfl rfl (by decide +kernel)) (qi_any qe_str) (blkOk_by (N := n__law_machine) (sc := defScope (top 49)) (by decide +kernel)) (by decide) (fun _ _ _ _ _ => (qg_name nd)) (fun _ _ _ _ _ => qts_nil) (fun _ _ _ _ _ => (qe_callTy b_tuple m_tuple bt_tuple (qa_cons (qe_lc (own := [("lay", 13)]) (js := [13]) rfl nd (qi_range1 m_range (qa_cons (q_call c__law_lays (hr.mono (by first | decide | omega)) hgd lets_never (qa_cons (qv 1) qa_nil)) qa_nil)) (blkOk_by (by kernel_rfl)) (by decide) (fun _ _ _ _ _ => (qg_name nd)) (fun _ _ _ _ _ => qts_nil) (fun _ _ _ _ _ => (q_call c__law_draw (hr.mono (by first | decide | omega)) hgd lets_never (qa_cons (qv 0) (qa_cons (qv 7) qa_nil))))) qa_nil)))) (qss_cons (qs_set nd (qe_callTy b_tuple m_tuple bt_tuple (qa_cons (qe_lc (own := [("q", 8)]) (js := [8]) rfl nd (qi_range1 m_range (qa_cons (qv 3) qa_nil)) (blkOk_by (N := n__law_machine) (sc := defScope (top 49)) (by decide +kernel)) (by decide) (fun _ _ _ _ _ => (qg_name nd)) (fun _ _ _ _ _ => (qts_one (qt_cmp (o_eq hu64) (q_call c__law_draw (hr.mono (by first | decide | omega)) hgd lets_never (qa_cons (qv 0) (qa_cons qe_int qa_nil))) qe_int))) (fun _ _ _ _ _ => (qv 8))) qa_nil))) (qss_one (qs_ret (qe_tup (qa_cons (qv 1) (qa_cons (qe_callTy b_tuple m_tuple bt_tuple (qa_cons (qv 9) qa_nil)) (qa_cons (q_call c__law_draw (hr.mono (by first | decide | omega)) hgd hl (qa_cons (qv 0) (qa_cons (qv 3) qa_nil))) (qa_cons (qe_callTy b_tuple m_tuple bt_tuple (qa_cons (qv 5) qa_nil)) (qa_cons (qv 10) qa_nil))))))))))))))
theorem sc__law_wide : FnScope n__law_wide ["feed", "names", "many"] (defScope (top 50)) := ⟨rfl, rfl, rfl, by decide +kernel, rfl, by decide +kernel, by decide +kernel⟩
theorem ok__law_wide (X : K.In h) (G : h.Ns mainGlobals mg) (c : He.SaysD fa fn K) : OkF P w K mg base 2 "_law_wide" ["feed", "names", "many"] [] (sp__law_wide) := by
  obtain ⟨fd, F⟩ := c.def_ 33 (d := d__law_wide) rfl
  have c__law_draw := ok__law_draw (P := P) (w := w) (base := base) X G c
  have c__law_lays := ok__law_lays (P := P) (w := w) (base := base) X G c
  have m_int := He.free_ok X G (c.fact 46 (f := .free "int") rfl)
  have m_range := He.free_ok X G (c.fact 52 (f := .free "range") rfl)
  have m_tuple := He.free_ok X G (c.fact 58 (f := .free "tuple") rfl)
  refine okF_of F (He.glo_ok X G (c.fact 33 (f := .glo "_law_wide") rfl)) (F.bindsN fun _ _ _ _ _ _ us hl => match us, hl with | [_, _, _], _ => rfl) sc__law_wide len3 (sem__law_wide) ?_
  intro cdv A outer s H E hr hgd tk hl hp
  have nd := (sc__law_wide).nd
  have hu := hu_of hr
  have hu64 := room_hu64 hr
  have hu65 := room_hu65 hr
  exact (qss_cons (qs_asg (qe_tup (qa_cons (qe_op o_add qe_int (q_call c__law_draw (hr.mono (by first | decide | omega)) hgd hl (qa_cons (qv 0) (qa_cons (qv 2) qa_nil)))) (qa_cons (qe_op o_add qe_int (q_call c__law_draw (hr.mono (by first | decide | omega)) hgd hl (qa_cons (qv 0) (qa_cons (qv 2) qa_nil)))) (qa_cons (q_call c__law_draw (hr.mono (by first | decide | omega)) hgd hl (qa_cons (qv 0) (qa_cons (qv 2) qa_nil))) qa_nil)))) (qg_tup rfl (qgs_cons (qg_name nd) (qgs_cons (qg_name nd) (qgs_cons (qg_name nd) qgs_nil))))) (qss_cons (qs_set nd (qe_callTy b_tuple m_tuple bt_tuple (qa_cons (qe_lc (own := [("q", 9)]) (js := [9]) rfl nd (qi_range1 m_range (qa_cons (qv 2) qa_nil)) (blkOk_by (N := n__law_wide) (sc := defScope (top 50)) (by decide +kernel)) (by decide) (fun _ _ _ _ _ => (qg_name nd)) (fun _ _ _ _ _ => qts_nil) (fun _ _ _ _ _ => (qe_callTy b_tuple m_tuple bt_tuple (qa_cons (qe_lc (own := [("r", 10)]) (js := [10]) rfl nd (qi_range1 m_range (qa_cons (qv 2) qa_nil)) (blkOk_by (by kernel_rfl)) (by decide) (fun _ _ _ _ _ => (qg_name nd)) (fun _ _ _ _ _ => qts_nil) (fun _ _ _ _ _ => (qe_op o_mod (qe_callTy b_int m_int bt_int (qa_cons (qe_op o_add (qe_op o_add (qe_op o_mul (qv 9) (qv 3)) (qe_op o_mul (qv 10) (qv 4))) (qv 5)) qa_nil)) (qv 2)))) qa_nil)))) qa_nil))) (qss_cons (qs_set nd (qe_lst qa_nil)) (qss_cons (qs_for hp rfl (qi_range1 m_range (qa_cons qe_int qa_nil)) (qg_name nd) (qss_one (qs_expr (q_bm (pe_bm PySem.F.plainAttrs_list PySem.F.slot_list_append PySem.F.type_list_append m_append (qv 7) (qa_cons (qe_callTy b_tuple m_tuple bt_tuple (qa_cons (qe_lc (own := [("lay", 11)]) (js := [11]) rfl nd (qi_range1 m_range (qa_cons (q_call c__law_lays (hr.mono (by first | decide | omega)) hgd hl (qa_cons (qv 1) qa_nil)) qa_nil)) (blkOk_by (N := n__law_wide) (sc := defScope (top 50)) (by decide +kernel)) (by decide) (fun _ _ _ _ _ => (qg_name nd)) (fun _ _ _ _ _ => qts_nil) (fun _ _ _ _ _ => (qe_op o_mod (qe_callTy b_int m_int bt_int (qa_cons (qe_op o_add (qe_op o_mul (qe_op o_add (qe_op o_mul (qv 8) qe_int) (qv 11)) (qe_op o_add (qv 3) (qv 4))) (qv 5)) qa_nil)) (qv 2)))) qa_nil)) qa_nil)))))) (qss_one (qs_ret (qe_tup (qa_cons (qv 1) (qa_cons (qe_callTy b_tuple m_tuple bt_tuple (qa_cons (qv 7) qa_nil)) (qa_cons (q_call c__law_draw (hr.mono (by first | decide | omega)) hgd hl (qa_cons (qv 0) (qa_cons (qv 2) qa_nil))) (qa_cons (qv 6) (qa_cons (qe_callTy b_tuple m_tuple bt_tuple (qa_cons (qe_lc (own := [("q", 9)]) (js := [9]) rfl nd (qi_range1 m_range (qa_cons (qv 2) qa_nil)) (blkOk_by (N := n__law_wide) (sc := defScope (top 50)) (by decide +kernel)) (by decide) (fun _ _ _ _ _ => (qg_name nd)) (fun _ _ _ _ _ => (qts_one (qt_cmp (o_eq hu64) (q_call c__law_draw (hr.mono (by first | decide | omega)) hgd lets_never (qa_cons (qv 0) (qa_cons qe_int qa_nil))) qe_int))) (fun _ _ _ _ _ => (qv 9))) qa_nil)) qa_nil))))))))))))
theorem sc__law_laying : FnScope n__law_laying ["feed", "document", "names"] (defScope (top 51)) := ⟨rfl, rfl, rfl, by decide +kernel, rfl, by decide +kernel, by decide +kernel⟩
theorem ok__law_laying (X : K.In h) (G : h.Ns mainGlobals mg) (c : He.SaysD fa fn K) : OkF P w K mg base 3 "_law_laying" ["feed", "document", "names"] [] (sp__law_laying) := by
  obtain ⟨fd, F⟩ := c.def_ 34 (d := d__law_laying) rfl
  have c__law_one := ok__law_one (P := P) (w := w) (base := base) X G c
  have c__law_draw := ok__law_draw (P := P) (w := w) (base := base) X G c
  have c__law_lays := ok__law_lays (P := P) (w := w) (base := base) X G c
  have m_tuple := He.free_ok X G (c.fact 58 (f := .free "tuple") rfl)
  refine okF_of F (He.glo_ok X G (c.fact 34 (f := .glo "_law_laying") rfl)) (F.bindsN fun _ _ _ _ _ _ us hl => match us, hl with | [_, _, _], _ => rfl) sc__law_laying len3 (sem__law_laying) ?_
  intro cdv A outer s H E hr hgd tk hl hp
  have nd := (sc__law_laying).nd
  have hu := hu_of hr
  have hu64 := room_hu64 hr
  have hu65 := room_hu65 hr
  exact (qss_cons (qs_set nd (q_call c__law_one (hr.mono (by first | decide | omega)) hgd hl (qa_cons (qv 0) (qa_cons (qe_lst (qa_cons qe_int (qa_cons qe_int (qa_cons qe_int qa_nil)))) qa_nil)))) (qss_one (qs_ret (qe_callTy b_tuple m_tuple bt_tuple (qa_cons (qe_lc (own := [("node", 4)]) (js := [4]) rfl nd (qi_any (qv 1)) (blkOk_by (N := n__law_laying) (sc := defScope (top 51)) (by decide +kernel)) (by decide) (fun _ _ _ _ _ => (qg_name nd)) (fun _ _ _ _ _ => qts_nil) (fun _ _ _ _ _ => (qe_if (qt_cmp (o_eq hu64) (q_call c__law_draw (hr.mono (by first | decide | omega)) hgd lets_never (qa_cons (qv 0) (qa_cons (qv 3) qa_nil))) qe_int) (q_call c__law_draw (hr.mono (by first | decide | omega)) hgd lets_never (qa_cons (qv 0) (qa_cons (q_call c__law_lays (hr.mono (by first | decide | omega)) hgd lets_never (qa_cons (qv 2) qa_nil)) qa_nil))) qe_int))) qa_nil)))))
theorem sc__law_rows : FnScope n__law_rows ["document"] (defScope (top 52)) := ⟨rfl, rfl, rfl, by decide +kernel, rfl, by decide +kernel, by decide +kernel⟩
theorem ok__law_rows (X : K.In h) (G : h.Ns mainGlobals mg) (c : He.SaysD fa fn K) : OkF P w K mg base 1 "_law_rows" ["document"] [] (sp__law_rows) := by
  obtain ⟨fd, F⟩ := c.def_ 35 (d := d__law_rows) rfl
  have m_enumerate := He.free_ok X G (c.fact 45 (f := .free "enumerate") rfl)
  have m_len := He.free_ok X G (c.fact 48 (f := .free "len") rfl)
  have m_range := He.free_ok X G (c.fact 52 (f := .free "range") rfl)
  refine okF_of F (He.glo_ok X G (c.fact 35 (f := .glo "_law_rows") rfl)) (F.bindsN fun _ _ _ _ _ _ us hl => match us, hl with | [_], _ => rfl) sc__law_rows len1 (sem__law_rows) ?_
  intro cdv A outer s H E hr hgd tk hl hp
  have nd := (sc__law_rows).nd
  have hu := hu_of hr
  have hu64 := room_hu64 hr
  have hu65 := room_hu65 hr
  exact (qss_cons (qs_par rfl nd (by decide) (qa_cons (qe_lc (own := [("node", 3)]) (js := [3]) rfl nd (qi_range1 m_range (qa_cons (qe_op o_add (qe_callB b_len m_len bt_len (qa_cons (qv 0) qa_nil)) qe_int) qa_nil)) (blkOk_by (N := n__law_rows) (sc := defScope (top 52)) (by decide +kernel)) (by decide) (fun _ _ _ _ _ => (qg_name nd)) (fun _ _ _ _ _ => qts_nil) (fun _ _ _ _ _ => (qe_lst qa_nil))) (qa_cons (qe_op o_mul (qe_lst (qa_cons (qe_callB b_len m_len bt_len (qa_cons (qv 0) qa_nil)) qa_nil)) (qe_op o_add (qe_callB b_len m_len bt_len (qa_cons (qv 0) qa_nil)) qe_int)) qa_nil))) (qss_cons (qs_for hp rfl (qi_enum m_enumerate (qa_cons (qv 0) qa_nil)) (qg_tup rfl (qgs_cons (qg_name nd) (qgs_cons (qg_tup rfl (qgs_cons (qg_name nd) (qgs_cons (qg_name nd) qgs_nil))) qgs_nil))) (qss_cons (qs_set nd (qe_ix (qv 1) (qe_ix (qv 2) (qv 5)))) (qss_cons (qs_expr (q_bm (pe_bm PySem.F.plainAttrs_list PySem.F.slot_list_append PySem.F.type_list_append m_append (qv 6) (qa_cons (qv 3) qa_nil)))) (qss_one (qs_asg (qv 3) (q_sub (pg_sub (qv 2) (qe_op o_add (qv 5) qe_int) (p_set hu)))))))) (qss_one (qs_ret (qv 1)))))
theorem sc__law_run : FnScope n__law_run ["machine", "document", "laying"] (defScope (top 53)) := ⟨rfl, rfl, rfl, by decide +kernel, rfl, by decide +kernel, by decide +kernel⟩
theorem ok__law_run (X : K.In h) (G : h.Ns mainGlobals mg) (c : He.SaysD fa fn K) : OkF P w K mg base 2 "_law_run" ["machine", "document", "laying"] [] (sp__law_run) := by
  obtain ⟨fd, F⟩ := c.def_ 36 (d := d__law_run) rfl
  have c__law_rows := ok__law_rows (P := P) (w := w) (base := base) X G c
  have m_len := He.free_ok X G (c.fact 48 (f := .free "len") rfl)
  have m_range := He.free_ok X G (c.fact 52 (f := .free "range") rfl)
  have m_reversed := He.free_ok X G (c.fact 54 (f := .free "reversed") rfl)
  refine okF_of F (He.glo_ok X G (c.fact 36 (f := .glo "_law_run") rfl)) (F.bindsN fun _ _ _ _ _ _ us hl => match us, hl with | [_, _, _], _ => rfl) sc__law_run len3 (sem__law_run) ?_
  intro cdv A outer s H E hr hgd tk hl hp
  have nd := (sc__law_run).nd
  have hu := hu_of hr
  have hu64 := room_hu64 hr
  have hu65 := room_hu65 hr
  exact (qss_cons (qs_asg (qv 0) (qg_tup rfl (qgs_cons (qg_name nd) (qgs_cons (qg_name nd) (qgs_cons (qg_name nd) (qgs_cons (qg_name nd) (qgs_cons (qg_name nd) qgs_nil))))))) (qss_cons (qs_par rfl nd (by decide) (qa_cons (q_call c__law_rows (hr.mono (by first | decide | omega)) hgd hl (qa_cons (qv 1) qa_nil)) (qa_cons (qe_op o_mul (qe_lst (qa_cons qe_int qa_nil)) (qe_callB b_len m_len bt_len (qa_cons (qv 1) qa_nil))) qa_nil))) (qss_cons (qs_for hp rfl (qi_revR m_range m_reversed (qe_callB b_len m_len bt_len (qa_cons (qv 1) qa_nil))) (qg_name nd) (qss_cons (qs_set nd (qe_ix (qv 4) (q_m1 (pe_m1 PySem.F.slot_str_find PySem.F.type_str_find m_find qe_str (qe_ix (qe_ix (qv 1) (qv 10)) qe_int))))) (qss_cons (qs_set nd (qe_ix (qv 11) (qe_ix (qv 2) (qv 10)))) (qss_cons (qs_for hp rfl (qi_any (qe_ix (qv 8) (qv 10))) (qg_name nd) (qss_one (qs_set nd (qe_ix (qe_ix (qv 6) (qv 12)) (qe_ix (qv 9) (qv 13)))))) (qss_one (qs_asg (qv 12) (q_sub (pg_sub (qv 9) (qv 10) (p_set hu))))))))) (qss_cons (qs_set nd (qv 5)) (qss_cons (qs_for hp rfl (qi_any (qe_ix (qv 8) (qe_callB b_len m_len bt_len (qa_cons (qv 1) qa_nil)))) (qg_name nd) (qss_one (qs_set nd (qe_ix (qe_ix (qv 6) (qv 12)) (qe_ix (qv 9) (qv 13)))))) (qss_one (qs_ret (qe_tup (qa_cons (qv 9) (qa_cons (qv 12) qa_nil))))))))))
theorem sc__law_great : FnScope n__law_great ["feed"] (defScope (top 54)) := ⟨rfl, rfl, rfl, by decide +kernel, rfl, by decide +kernel, by decide +kernel⟩
theorem ok__law_great (X : K.In h) (G : h.Ns mainGlobals mg) (c : He.SaysD fa fn K) : OkF P w K mg base 4 "_law_great" ["feed"] [] (sp__law_great) := by
  obtain ⟨fd, F⟩ := c.def_ 37 (d := d__law_great) rfl
  have c__law_marks := ok__law_marks (P := P) (w := w) (base := base) X G c
  have c__law_draw := ok__law_draw (P := P) (w := w) (base := base) X G c
  have c__law_one := ok__law_one (P := P) (w := w) (base := base) X G c
  have m_int := He.free_ok X G (c.fact 46 (f := .free "int") rfl)
  have m_len := He.free_ok X G (c.fact 48 (f := .free "len") rfl)
  have m_min := He.free_ok X G (c.fact 51 (f := .free "min") rfl)
  have m_range := He.free_ok X G (c.fact 52 (f := .free "range") rfl)
  have m_tuple := He.free_ok X G (c.fact 58 (f := .free "tuple") rfl)
  refine okF_of F (He.glo_ok X G (c.fact 37 (f := .glo "_law_great") rfl)) (F.bindsN fun _ _ _ _ _ _ us hl => match us, hl with | [_], _ => rfl) sc__law_great len1 (sem__law_great) ?_
  intro cdv A outer s H E hr hgd tk hl hp
  have nd := (sc__law_great).nd
  have hu := hu_of hr
  have hu64 := room_hu64 hr
  have hu65 := room_hu65 hr
  exact (qss_cons (qs_asg (qe_tup (qa_cons (q_call c__law_one (hr.mono (by first | decide | omega)) hgd hl (qa_cons (qv 0) (qa_cons (qe_lst (qa_cons qe_int (qa_cons qe_int (qa_cons qe_int qa_nil)))) qa_nil))) (qa_cons (q_call c__law_draw (hr.mono (by first | decide | omega)) hgd hl (qa_cons (qv 0) (qa_cons qe_int qa_nil))) (qa_cons (qe_op o_add qe_int (q_call c__law_draw (hr.mono (by first | decide | omega)) hgd hl (qa_cons (qv 0) (qa_cons qe_int qa_nil)))) (qa_cons (q_call c__law_marks (hr.mono (by first | decide | omega)) hgd hl (qa_cons (qv 0) qa_nil)) qa_nil))))) (qg_tup rfl (qgs_cons (qg_name nd) (qgs_cons (qg_name nd) (qgs_cons (qg_name nd) (qgs_cons (qg_name nd) qgs_nil)))))) (qss_cons (qs_set nd (qe_lst qa_nil)) (qss_cons (qs_for hp rfl (qi_range1 m_range (qa_cons (qv 1) qa_nil)) (qg_name nd) (qss_cons (qs_set nd (qe_ix (qe_lst (qa_cons (qv 6) (qa_cons (qe_callB (b_min2 rfl) m_min bt_min (qa_cons (qv 6) (qa_cons qe_int qa_nil))) (qa_cons (qe_op o_fdiv (qe_op o_add (qv 6) qe_int) qe_int) (qa_cons (qe_op o_mod (qe_callTy b_int m_int bt_int (qa_cons (qv 6) qa_nil)) (qe_op o_add (qv 3) qe_int)) qa_nil))))) (qv 2))) (qss_one (qs_expr (q_bm (pe_bm PySem.F.plainAttrs_list PySem.F.slot_list_append PySem.F.type_list_append m_append (qv 5) (qa_cons (qe_tup (qa_cons (qe_ix (qv 4) (qe_op o_mod (qe_callTy b_int m_int bt_int (qa_cons (qe_op o_add (qe_op o_mul (qv 6) (qv 6)) (qe_op o_mul (qv 3) (qv 6))) qa_nil)) (qe_callB b_len m_len bt_len (qa_cons (qv 4) qa_nil)))) (qa_cons (qv 7) qa_nil))) qa_nil))))))) (qss_one (qs_ret (qe_callTy b_tuple m_tuple bt_tuple (qa_cons (qv 5) qa_nil)))))))
theorem sc__law_right : FnScope n__law_right ["machine", "document", "laying"] (defScope (top 55)) := ⟨rfl, rfl, rfl, by decide +kernel, rfl, by decide +kernel, by decide +kernel⟩
theorem ok__law_right (X : K.In h) (G : h.Ns mainGlobals mg) (c : He.SaysD fa fn K) : OkF P w K mg base 8 "_law_right" ["machine", "document", "laying"] [] (sp__law_right) := by
  obtain ⟨fd, F⟩ := c.def_ 38 (d := d__law_right) rfl
  have c__law_run := ok__law_run (P := P) (w := w) (base := base) X G c
  have c_states_of := ok_states_of (P := P) (w := w) (base := base) X G c
  have c_state_of := ok_state_of (P := P) (w := w) (base := base) X G c
  have m_repr := He.free_ok X G (c.fact 53 (f := .free "repr") rfl)
  have m_tuple := He.free_ok X G (c.fact 58 (f := .free "tuple") rfl)
  refine okF_of F (He.glo_ok X G (c.fact 38 (f := .glo "_law_right") rfl)) (F.bindsN fun _ _ _ _ _ _ us hl => match us, hl with | [_, _, _], _ => rfl) sc__law_right len3 (sem__law_right) ?_
  intro cdv A outer s H E hr hgd tk hl hp
  have nd := (sc__law_right).nd
  have hu := hu_of hr
  have hu64 := room_hu64 hr
  have hu65 := room_hu65 hr
  exact (qss_cons (qs_asg (q_call c__law_run (hr.mono (by first | decide | omega)) hgd hl (qa_cons (qv 0) (qa_cons (qv 1) (qa_cons (qv 2) qa_nil)))) (qg_tup rfl (qgs_cons (qg_name nd) (qgs_cons (qg_name nd) qgs_nil)))) (qss_cons (qs_if (qt_cmp (o_ne hu64) (qe_callB (b_repr hu64 hgd) m_repr bt_repr (qa_cons (q_call c_states_of (hr.mono (by first | decide | omega)) hgd hl (qa_cons (qv 0) (qa_cons (qv 1) (qa_cons (qv 2) qa_nil)))) qa_nil)) (qe_callB (b_repr hu64 hgd) m_repr bt_repr (qa_cons (qe_callTy b_tuple m_tuple bt_tuple (qa_cons (qv 3) qa_nil)) qa_nil))) (qss_one (qs_ret qe_bl)) qss_nil) (qss_one (qs_ret (qe_cmp (o_eq hu64) (qe_callB (b_repr hu64 hgd) m_repr bt_repr (qa_cons (q_call c_state_of (hr.mono (by first | decide | omega)) hgd hl (qa_cons (qv 0) (qa_cons (qv 1) (qa_cons (qv 2) qa_nil)))) qa_nil)) (qe_callB (b_repr hu64 hgd) m_repr bt_repr (qa_cons (qv 4) qa_nil)))))))
theorem sc__law_asked_one : FnScope n__law_asked_one ["script"] (defScope (top 56)) := ⟨rfl, rfl, rfl, by decide +kernel, rfl, by decide +kernel, by decide +kernel⟩
theorem ok__law_asked_one (X : K.In h) (G : h.Ns mainGlobals mg) (c : He.SaysD fa fn K) : OkF P w K mg base 9 "_law_asked_one" ["script"] [] (sp__law_asked_one) := by
  obtain ⟨fd, F⟩ := c.def_ 39 (d := d__law_asked_one) rfl
  have c__law_feed := ok__law_feed (P := P) (w := w) (base := base) X G c
  have c__law_one := ok__law_one (P := P) (w := w) (base := base) X G c
  have c__law_machine := ok__law_machine (P := P) (w := w) (base := base) X G c
  have c__law_names := ok__law_names (P := P) (w := w) (base := base) X G c
  have c__law_draw := ok__law_draw (P := P) (w := w) (base := base) X G c
  have c__law_great := ok__law_great (P := P) (w := w) (base := base) X G c
  have c__law_lays := ok__law_lays (P := P) (w := w) (base := base) X G c
  have c__law_right := ok__law_right (P := P) (w := w) (base := base) X G c
  have c__law_wide := ok__law_wide (P := P) (w := w) (base := base) X G c
  have c__law_document := ok__law_document (P := P) (w := w) (base := base) X G c
  have c__law_laying := ok__law_laying (P := P) (w := w) (base := base) X G c
  have m_int := He.free_ok X G (c.fact 46 (f := .free "int") rfl)
  have m_len := He.free_ok X G (c.fact 48 (f := .free "len") rfl)
  have m_max := He.free_ok X G (c.fact 50 (f := .free "max") rfl)
  have m_min := He.free_ok X G (c.fact 51 (f := .free "min") rfl)
  have m_range := He.free_ok X G (c.fact 52 (f := .free "range") rfl)
  have m_tuple := He.free_ok X G (c.fact 58 (f := .free "tuple") rfl)
  refine okF_of F (He.glo_ok X G (c.fact 39 (f := .glo "_law_asked_one") rfl)) (F.bindsN fun _ _ _ _ _ _ us hl => match us, hl with | [_], _ => rfl) sc__law_asked_one len1 (sem__law_asked_one) ?_
  intro cdv A outer s H E hr hgd tk hl hp
  have nd := (sc__law_asked_one).nd
  have hu := hu_of hr
  have hu64 := room_hu64 hr
  have hu65 := room_hu65 hr
  exact (qss_cons (qs_set nd (q_call c__law_feed (hr.mono (by first | decide | omega)) hgd hl (qa_cons (qv 0) (qa_cons qe_int qa_nil)))) (qss_cons (qs_set nd (q_call c__law_one (hr.mono (by first | decide | omega)) hgd hl (qa_cons (qv 1) (qa_cons (qe_lst (qa_cons qe_int (qa_cons qe_int (qa_cons qe_int (qa_cons qe_int (qa_cons qe_int (qa_cons qe_int qa_nil))))))) qa_nil)))) (qss_cons (qs_set nd (qe_lst (qa_cons (q_call c__law_machine (hr.mono (by first | decide | omega)) hgd hl (qa_cons (qv 1) (qa_cons (q_call c__law_names (hr.mono (by first | decide | omega)) hgd hl (qa_cons (qv 1) (qa_cons (qv 2) qa_nil))) (qa_cons qe_int qa_nil)))) (qa_cons (q_call c__law_machine (hr.mono (by first | decide | omega)) hgd hl (qa_cons (q_call c__law_feed (hr.mono (by first | decide | omega)) hgd hl (qa_cons (qv 0) (qa_cons qe_int qa_nil))) (qa_cons (q_call c__law_names (hr.mono (by first | decide | omega)) hgd hl (qa_cons (qv 1) (qa_cons (qv 2) qa_nil))) (qa_cons qe_int qa_nil)))) qa_nil)))) (qss_cons (qs_if (qt_cmp (o_eq hu64) (q_call c__law_draw (hr.mono (by first | decide | omega)) hgd hl (qa_cons (qv 1) (qa_cons qe_int qa_nil))) qe_int) (qss_cons (qs_set nd (q_call c__law_great (hr.mono (by first | decide | omega)) hgd hl (qa_cons (qv 1) qa_nil))) (qss_cons (qs_asg (qe_tup (qa_cons (qe_op o_add qe_int (q_call c__law_draw (hr.mono (by first | decide | omega)) hgd hl (qa_cons (qv 1) (qa_cons qe_int qa_nil)))) (qa_cons (q_call c__law_lays (hr.mono (by first | decide | omega)) hgd hl (qa_cons (qe_ix (qe_ix (qv 3) qe_int) qe_int) qa_nil)) qa_nil))) (qg_tup rfl (qgs_cons (qg_name nd) (qgs_cons (qg_name nd) qgs_nil)))) (qss_one (qs_if (qt_not (qt_tru (q_call c__law_right (hr.mono (by first | decide | omega)) hgd hl (qa_cons (qe_ix (qv 3) qe_int) (qa_cons (qv 4) (qa_cons (qe_callTy b_tuple m_tuple bt_tuple (qa_cons (qe_lc (own := [("k", 8)]) (js := [8]) rfl nd (qi_range1 m_range (qa_cons (qe_callB b_len m_len bt_len (qa_cons (qv 4) qa_nil)) qa_nil)) (blkOk_by (N := n__law_asked_one) (sc := defScope (top 56)) (by decide +kernel)) (by decide) (fun _ _ _ _ _ => (qg_name nd)) (fun _ _ _ _ _ => qts_nil) (fun _ _ _ _ _ => (qe_op o_mod (qe_callTy b_int m_int bt_int (qa_cons (qe_op o_add (qe_op o_mul (qv 8) (qv 5)) (qe_op o_fdiv (qv 8) qe_int)) qa_nil)) (qv 6)))) qa_nil)) qa_nil)))))) (qss_one (qs_ret qe_bl)) qss_nil)))) qss_nil) (qss_cons (qs_if (qt_cmp (o_eq hu64) (q_call c__law_draw (hr.mono (by first | decide | omega)) hgd hl (qa_cons (qv 1) (qa_cons qe_int qa_nil))) qe_int) (qss_one (qs_asg (q_call c__law_wide (hr.mono (by first | decide | omega)) hgd hl (qa_cons (qv 1) (qa_cons (qe_ix (qe_ix (qv 3) qe_int) qe_int) (qa_cons (qe_op o_add qe_int (q_call c__law_draw (hr.mono (by first | decide | omega)) hgd hl (qa_cons (qv 1) (qa_cons qe_int qa_nil)))) qa_nil)))) (q_sub (pg_sub (qv 3) qe_int (p_set hu))))) qss_nil) (qss_cons (qs_if (qt_cmp (o_eq hu64) (q_call c__law_draw (hr.mono (by first | decide | omega)) hgd hl (qa_cons (qv 1) (qa_cons qe_int qa_nil))) qe_int) (qss_cons (qs_par rfl nd (by decide) (qa_cons (q_call c__law_wide (hr.mono (by first | decide | omega)) hgd hl (qa_cons (qv 1) (qa_cons (qe_ix (qe_ix (qv 3) qe_int) qe_int) (qa_cons (qe_op o_add qe_int (q_call c__law_draw (hr.mono (by first | decide | omega)) hgd hl (qa_cons (qv 1) (qa_cons qe_int qa_nil)))) qa_nil)))) (qa_cons (q_call c__law_document (hr.mono (by first | decide | omega)) hgd hl (qa_cons (qv 1) (qa_cons qe_int qa_nil))) qa_nil))) (qss_one (qs_if (qt_not (qt_tru (q_call c__law_right (hr.mono (by first | decide | omega)) hgd hl (qa_cons (qv 7) (qa_cons (qv 4) (qa_cons (q_call c__law_laying (hr.mono (by first | decide | omega)) hgd hl (qa_cons (qv 1) (qa_cons (qv 4) (qa_cons (qe_ix (qv 7) qe_int) qa_nil)))) qa_nil)))))) (qss_one (qs_ret qe_bl)) qss_nil))) qss_nil) (qss_cons (qs_for hp rfl (qi_range2 m_range (qa_cons qe_int (qa_cons (qe_callB (b_max2 rfl) m_max bt_max (qa_cons qe_int (qa_cons (qe_callB (b_min2 rfl) m_min bt_min (qa_cons qe_int (qa_cons (qe_callB b_len m_len bt_len (qa_cons (qv 0) qa_nil)) qa_nil))) qa_nil))) qa_nil))) (qg_name nd) (qss_cons (qs_set nd (q_call c__law_feed (hr.mono (by first | decide | omega)) hgd hl (qa_cons (qv 0) (qa_cons (qv 8) qa_nil)))) (qss_cons (qs_set nd (q_call c__law_document (hr.mono (by first | decide | omega)) hgd hl (qa_cons (qv 1) (qa_cons (q_call c__law_one (hr.mono (by first | decide | omega)) hgd hl (qa_cons (qv 1) (qa_cons (qe_lst (qa_cons qe_int (qa_cons qe_int (qa_cons qe_int qa_nil)))) qa_nil))) qa_nil)))) (qss_cons (qs_par rfl nd (by decide) (qa_cons (q_call c__law_laying (hr.mono (by first | decide | omega)) hgd hl (qa_cons (qv 1) (qa_cons (qv 4) (qa_cons (qe_ix (qe_ix (qv 3) qe_int) qe_int) qa_nil)))) (qa_cons (q_call c__law_draw (hr.mono (by first | decide | omega)) hgd hl (qa_cons (qv 1) (qa_cons qe_int qa_nil))) qa_nil))) (qss_one (qs_for hp rfl (qi_any (qe_lst (qa_cons (qv 10) (qa_cons (qe_op o_sub qe_int (qv 10)) (qa_cons (qv 10) qa_nil))))) (qg_name nd) (qss_one (qs_if (qt_not (qt_tru (q_call c__law_right (hr.mono (by first | decide | omega)) hgd hl (qa_cons (qe_ix (qv 3) (qv 11)) (qa_cons (qv 4) (qa_cons (qv 9) qa_nil)))))) (qss_one (qs_ret qe_bl)) qss_nil)))))))) (qss_one (qs_ret qe_bl)))))))))
theorem sc__law_right_too : FnScope n__law_right_too ["feed", "machine", "document", "laying"] (defScope (top 57)) := ⟨rfl, rfl, rfl, by decide +kernel, rfl, by decide +kernel, by decide +kernel⟩
theorem ok__law_right_too (X : K.In h) (G : h.Ns mainGlobals mg) (c : He.SaysD fa fn K) : OkF P w K mg base 8 "_law_right_too" ["feed", "machine", "document", "laying"] [] (sp__law_right_too) := by
  obtain ⟨fd, F⟩ := c.def_ 40 (d := d__law_right_too) rfl
  have c__law_run := ok__law_run (P := P) (w := w) (base := base) X G c
  have c_lets := ok_lets (P := P) (w := w) (base := base) X G c
  have c__law_draw := ok__law_draw (P := P) (w := w) (base := base) X G c
  have c_takes := ok_takes (P := P) (w := w) (base := base) X G c
  have m_enumerate := He.free_ok X G (c.fact 45 (f := .free "enumerate") rfl)
  have m_len := He.free_ok X G (c.fact 48 (f := .free "len") rfl)
  have m_repr := He.free_ok X G (c.fact 53 (f := .free "repr") rfl)
  have m_tuple := He.free_ok X G (c.fact 58 (f := .free "tuple") rfl)
  refine okF_of F (He.glo_ok X G (c.fact 40 (f := .glo "_law_right_too") rfl)) (F.bindsN fun _ _ _ _ _ _ us hl => match us, hl with | [_, _, _, _], _ => rfl) sc__law_right_too len4 (sem__law_right_too) ?_
  intro cdv A outer s H E hr hgd tk hl hp
  have nd := (sc__law_right_too).nd
  have hu := hu_of hr
  have hu64 := room_hu64 hr
  have hu65 := room_hu65 hr
  exact (qss_cons (qs_set nd (qe_cmp (o_inX hu65) (qe_ix (q_call c__law_run (hr.mono (by first | decide | omega)) hgd hl (qa_cons (qv 1) (qa_cons (qv 2) (qa_cons (qv 3) qa_nil)))) qe_int) (qe_ix (qv 1) qe_int))) (qss_cons (qs_if (qt_cmp (o_ne hu64) (qe_callB (b_repr hu64 hgd) m_repr bt_repr (qa_cons (q_call c_lets (hr.mono (by first | decide | omega)) hgd hl (qa_cons (qv 1) (qa_cons (qv 2) (qa_cons (qv 3) qa_nil)))) qa_nil)) (qe_callB (b_repr hu64 hgd) m_repr bt_repr (qa_cons (qv 4) qa_nil))) (qss_one (qs_ret qe_bl)) qss_nil) (qss_cons (qs_if (QW.pt (qw_and (qt_cmp (o_eq hu64) (qv 2) (qe_tup qa_nil)) (qw_and1 (qt_cmp (o_ne hu64) (qe_ix (qv 1) qe_int) (qe_tup qa_nil))))) (qss_one (qs_ret qe_bl)) qss_nil) (qss_cons (qs_set nd (qe_callTy b_tuple m_tuple bt_tuple (qa_cons (qe_lc (own := [("name", 9)]) (js := [9]) rfl nd (qi_any (qe_ix (qv 1) qe_int)) (blkOk_by (N := n__law_right_too) (sc := defScope (top 57)) (by decide +kernel)) (by decide) (fun _ _ _ _ _ => (qg_name nd)) (fun _ _ _ _ _ => qts_nil) (fun _ _ _ _ _ => (q_call c__law_draw (hr.mono (by first | decide | omega)) hgd lets_never (qa_cons (qv 0) (qa_cons (qe_callB b_len m_len bt_len (qa_cons (qv 2) qa_nil)) qa_nil))))) qa_nil))) (qss_cons (qs_set nd (qe_op o_mul (qe_lst (qa_cons qe_int qa_nil)) (qe_callB b_len m_len bt_len (qa_cons (qv 2) qa_nil)))) (qss_cons (qs_for hp rfl (qi_enum m_enumerate (qa_cons (qv 5) qa_nil)) (qg_tup rfl (qgs_cons (qg_name nd) (qgs_cons (qg_name nd) qgs_nil))) (qss_one (qs_asg (qe_op o_add (qe_ix (qv 6) (qv 8)) (qe_ix (qe_lst (qa_cons qe_int (qa_cons qe_int (qa_cons qe_int (qa_cons qe_int (qa_cons qe_int qa_nil)))))) (qv 7))) (q_sub (pg_sub (qv 6) (qv 8) (p_set hu)))))) (qss_cons (qs_set nd (qe_cmp (o_inX hu65) (qe_ix (q_call c__law_run (hr.mono (by first | decide | omega)) hgd hl (qa_cons (qv 1) (qa_cons (qv 2) (qa_cons (qv 6) qa_nil)))) qe_int) (qe_ix (qv 1) qe_int))) (qss_one (qs_ret (qe_cmp (o_eq hu64) (qe_callB (b_repr hu64 hgd) m_repr bt_repr (qa_cons (q_call c_takes (hr.mono (by first | decide | omega)) hgd hl (qa_cons (qv 1) (qa_cons (qv 2) (qa_cons (qv 5) qa_nil)))) qa_nil)) (qe_callB (b_repr hu64 hgd) m_repr bt_repr (qa_cons (qv 4) qa_nil))))))))))))
theorem sc__law_asked_two : FnScope n__law_asked_two ["script"] (defScope (top 58)) := ⟨rfl, rfl, rfl, by decide +kernel, rfl, by decide +kernel, by decide +kernel⟩
theorem ok__law_asked_two (X : K.In h) (G : h.Ns mainGlobals mg) (c : He.SaysD fa fn K) : OkF P w K mg base 9 "_law_asked_two" ["script"] [] (sp__law_asked_two) := by
  obtain ⟨fd, F⟩ := c.def_ 41 (d := d__law_asked_two) rfl
  have c__law_feed := ok__law_feed (P := P) (w := w) (base := base) X G c
  have c__law_one := ok__law_one (P := P) (w := w) (base := base) X G c
  have c__law_machine := ok__law_machine (P := P) (w := w) (base := base) X G c
  have c__law_names := ok__law_names (P := P) (w := w) (base := base) X G c
  have c__law_draw := ok__law_draw (P := P) (w := w) (base := base) X G c
  have c__law_great := ok__law_great (P := P) (w := w) (base := base) X G c
  have c__law_right_too := ok__law_right_too (P := P) (w := w) (base := base) X G c
  have c__law_wide := ok__law_wide (P := P) (w := w) (base := base) X G c
  have c__law_document := ok__law_document (P := P) (w := w) (base := base) X G c
  have c__law_laying := ok__law_laying (P := P) (w := w) (base := base) X G c
  have m_len := He.free_ok X G (c.fact 48 (f := .free "len") rfl)
  have m_max := He.free_ok X G (c.fact 50 (f := .free "max") rfl)
  have m_min := He.free_ok X G (c.fact 51 (f := .free "min") rfl)
  have m_range := He.free_ok X G (c.fact 52 (f := .free "range") rfl)
  refine okF_of F (He.glo_ok X G (c.fact 41 (f := .glo "_law_asked_two") rfl)) (F.bindsN fun _ _ _ _ _ _ us hl => match us, hl with | [_], _ => rfl) sc__law_asked_two len1 (sem__law_asked_two) ?_
  intro cdv A outer s H E hr hgd tk hl hp
  have nd := (sc__law_asked_two).nd
  have hu := hu_of hr
  have hu64 := room_hu64 hr
  have hu65 := room_hu65 hr
  exact (qss_cons (qs_set nd (q_call c__law_feed (hr.mono (by first | decide | omega)) hgd hl (qa_cons (qv 0) (qa_cons qe_int qa_nil)))) (qss_cons (qs_set nd (q_call c__law_one (hr.mono (by first | decide | omega)) hgd hl (qa_cons (qv 1) (qa_cons (qe_lst (qa_cons qe_int (qa_cons qe_int (qa_cons qe_int (qa_cons qe_int (qa_cons qe_int (qa_cons qe_int qa_nil))))))) qa_nil)))) (qss_cons (qs_set nd (qe_lst (qa_cons (q_call c__law_machine (hr.mono (by first | decide | omega)) hgd hl (qa_cons (qv 1) (qa_cons (q_call c__law_names (hr.mono (by first | decide | omega)) hgd hl (qa_cons (qv 1) (qa_cons (qv 2) qa_nil))) (qa_cons qe_int qa_nil)))) (qa_cons (q_call c__law_machine (hr.mono (by first | decide | omega)) hgd hl (qa_cons (q_call c__law_feed (hr.mono (by first | decide | omega)) hgd hl (qa_cons (qv 0) (qa_cons qe_int qa_nil))) (qa_cons (q_call c__law_names (hr.mono (by first | decide | omega)) hgd hl (qa_cons (qv 1) (qa_cons (qv 2) qa_nil))) (qa_cons qe_int qa_nil)))) qa_nil)))) (qss_cons (qs_if (qt_cmp (o_eq hu64) (q_call c__law_draw (hr.mono (by first | decide | omega)) hgd hl (qa_cons (qv 1) (qa_cons qe_int qa_nil))) qe_int) (qss_cons (qs_set nd (q_call c__law_great (hr.mono (by first | decide | omega)) hgd hl (qa_cons (qv 1) qa_nil))) (qss_one (qs_if (qt_not (qt_tru (q_call c__law_right_too (hr.mono (by first | decide | omega)) hgd hl (qa_cons (qv 1) (qa_cons (qe_ix (qv 3) qe_int) (qa_cons (qv 4) (qa_cons (qe_op o_mulT (qe_tup (qa_cons qe_int qa_nil)) (qe_callB b_len m_len bt_len (qa_cons (qv 4) qa_nil))) qa_nil))))))) (qss_one (qs_ret qe_bl)) qss_nil))) qss_nil) (qss_cons (qs_if (qt_cmp (o_eq hu64) (q_call c__law_draw (hr.mono (by first | decide | omega)) hgd hl (qa_cons (qv 1) (qa_cons qe_int qa_nil))) qe_int) (qss_one (qs_asg (q_call c__law_wide (hr.mono (by first | decide | omega)) hgd hl (qa_cons (qv 1) (qa_cons (qe_ix (qe_ix (qv 3) qe_int) qe_int) (qa_cons (qe_op o_add qe_int (q_call c__law_draw (hr.mono (by first | decide | omega)) hgd hl (qa_cons (qv 1) (qa_cons qe_int qa_nil)))) qa_nil)))) (q_sub (pg_sub (qv 3) qe_int (p_set hu))))) qss_nil) (qss_cons (qs_if (qt_cmp (o_eq hu64) (q_call c__law_draw (hr.mono (by first | decide | omega)) hgd hl (qa_cons (qv 1) (qa_cons qe_int qa_nil))) qe_int) (qss_cons (qs_par rfl nd (by decide) (qa_cons (q_call c__law_wide (hr.mono (by first | decide | omega)) hgd hl (qa_cons (qv 1) (qa_cons (qe_ix (qe_ix (qv 3) qe_int) qe_int) (qa_cons (qe_op o_add qe_int (q_call c__law_draw (hr.mono (by first | decide | omega)) hgd hl (qa_cons (qv 1) (qa_cons qe_int qa_nil)))) qa_nil)))) (qa_cons (q_call c__law_document (hr.mono (by first | decide | omega)) hgd hl (qa_cons (qv 1) (qa_cons qe_int qa_nil))) qa_nil))) (qss_one (qs_if (qt_not (qt_tru (q_call c__law_right_too (hr.mono (by first | decide | omega)) hgd hl (qa_cons (qv 1) (qa_cons (qv 5) (qa_cons (qv 4) (qa_cons (q_call c__law_laying (hr.mono (by first | decide | omega)) hgd hl (qa_cons (qv 1) (qa_cons (qv 4) (qa_cons (qe_ix (qv 5) qe_int) qa_nil)))) qa_nil))))))) (qss_one (qs_ret qe_bl)) qss_nil))) qss_nil) (qss_cons (qs_for hp rfl (qi_range2 m_range (qa_cons qe_int (qa_cons (qe_callB (b_max2 rfl) m_max bt_max (qa_cons qe_int (qa_cons (qe_callB (b_min2 rfl) m_min bt_min (qa_cons qe_int (qa_cons (qe_callB b_len m_len bt_len (qa_cons (qv 0) qa_nil)) qa_nil))) qa_nil))) qa_nil))) (qg_name nd) (qss_cons (qs_set nd (q_call c__law_feed (hr.mono (by first | decide | omega)) hgd hl (qa_cons (qv 0) (qa_cons (qv 6) qa_nil)))) (qss_cons (qs_set nd (q_call c__law_document (hr.mono (by first | decide | omega)) hgd hl (qa_cons (qv 1) (qa_cons (q_call c__law_one (hr.mono (by first | decide | omega)) hgd hl (qa_cons (qv 1) (qa_cons (qe_lst (qa_cons qe_int (qa_cons qe_int (qa_cons qe_int qa_nil)))) qa_nil))) qa_nil)))) (qss_cons (qs_set nd (qe_ix (qv 3) (q_call c__law_draw (hr.mono (by first | decide | omega)) hgd hl (qa_cons (qv 1) (qa_cons qe_int qa_nil))))) (qss_one (qs_if (qt_not (qt_tru (q_call c__law_right_too (hr.mono (by first | decide | omega)) hgd hl (qa_cons (qv 1) (qa_cons (qv 7) (qa_cons (qv 4) (qa_cons (q_call c__law_laying (hr.mono (by first | decide | omega)) hgd hl (qa_cons (qv 1) (qa_cons (qv 4) (qa_cons (qe_ix (qv 7) qe_int) qa_nil)))) qa_nil))))))) (qss_one (qs_ret qe_bl)) qss_nil)))))) (qss_one (qs_ret qe_bl)))))))))
theorem sc_law : FnScope n_law ["script"] (defScope (top 59)) := ⟨rfl, rfl, rfl, by decide +kernel, rfl, by decide +kernel, by decide +kernel⟩
theorem fn_law (X : K.In h) (G : h.Ns mainGlobals mg) (c : He.SaysD fa fn K) {fd : FuncData} (F : FunD K d_law.name d_law.qual d_law.params d_law.body d_law.scope (d_law.dvs K) (d_law.kws K) (He.fAd K d_law.at_) fd) : FnT P w K mg base 10 (He.fAd K d_law.at_) fd ["script"] spLaw := by
  have c__law_asked_two := ok__law_asked_two (P := P) (w := w) (base := base) X G c
  have c__law_asked_one := ok__law_asked_one (P := P) (w := w) (base := base) X G c
  refine fnT_by F sc_law (fun _ _ _ _ ⟨_, e, _⟩ => by rw [e]; rfl) (sem_law) ?_
  intro cdv A outer s H E hr hgd tk hl hp
  have nd := (sc_law).nd
  have hu := hu_of hr
  have hu64 := room_hu64 hr
  have hu65 := room_hu65 hr
  exact (qss_one (qs_ret (qe_and (q_call c__law_asked_one (hr.mono (by first | decide | omega)) hgd hl (qa_cons (qv 0) qa_nil)) (qe_one (q_call c__law_asked_two (hr.mono (by first | decide | omega)) hgd hl (qa_cons (qv 0) qa_nil))))))
end
def loose : List Str := "MatchError" :: "BadDocument" :: "BadNodes" :: "BadMachine" :: "BadLaying" :: "MARKS" :: "NAMES" :: "MOST_NODES" :: "is_integer" :: "is_below" :: "is_mark" :: "is_name" :: "is_rising" :: "is_names" :: "is_forest" :: "need_document" :: "MOST_NAMES" :: "MOST_STATES" :: "is_names_form" :: "lays_of" :: "is_row" :: "is_good_row" :: "is_machine_form" :: "need_machine" :: "need_laying" :: "need_spots" :: "step_closed" :: "states_in" :: "laying_of" :: "run" :: "state_of" :: "states_of" :: "lets" :: "takes" :: "_law_feed" :: "_law_draw" :: "_law_one" :: "_law_mixed" :: "_law_marks" :: "_law_document" :: "_law_names" :: "_law_lays" :: "_law_machine" :: "_law_wide" :: "_law_laying" :: "_law_rows" :: "_law_run" :: "_law_great" :: "_law_right" :: "_law_asked_one" :: "_law_right_too" :: "_law_asked_two" :: []
abbrev R : PySem.W.OpenRow := PySem.W.OpenLaw.row PySem.Challenge.rw_lawfulpages_k36_whole_states_by_own_step
abbrev hk : PySem.W.Hook := He.hookD 4 fa fn
def ob (s : PySem.W.SharedT) : He.AlD := He.obsDG 4 fa fn (HandSHeadRun.getT s)
theorem ob_eq (s : PySem.W.SharedT) : ob s = hk.obs s.abs := He.obsDG_eq (HandSHeadRun.getT_eq s)
theorem run (w : World) : HandSHeadRun.RunEq R (PySem.W.view R.prog [59]) hk ob 4300 loose w := by
  intro os
  kernel_rfl
theorem facts {P : Program} {w : World} {K : PySem.W.Frag} {h : Heap} {mg : Str → Option Value} {f : Addr} (X : K.In h) (G : h.Ns mainGlobals mg) (hfa : mg ("law" : Str) = some (.ref f)) (c : He.SaysD fa fn K) :
    ∃ fd : FuncData, (∀ (s : Shared) (v : Value), BindsTo s fd ⟨[v], []⟩ [("script", v)]) ∧ ∀ base : Heap, K.In base → base.Ns mainGlobals mg → FnT P w K mg base 10 f fd ["script"] spLaw := by
  obtain ⟨fd, F⟩ := c.def_ 42 (d := d_law) rfl
  have gl := He.glo_ok X G (c.fact 42 (f := .glo "law") rfl)
  have e := hfa.symm.trans gl
  have b := FunD.bindsA (ps := ["script"]) F fun _ _ _ _ _ _ us hl => match us, hl with | [_], _ => rfl
  cases e
  exact ⟨fd, fun s v => b s [v] rfl, fun base _ _ => fn_law X G c F⟩

end G
open PySem PySem.W PySem.Calls PyProof.Rows
theorem PySem.Challenge.cw_lawfulpages_k36_whole_states_by_own_step_holds : PySem.Challenge.rw_lawfulpages_k36_whole_states_by_own_step.Holds := by
  w_on; o_law
  refine HandSHeadRun.head_any (r := OpenLaw.row PySem.Challenge.rw_lawfulpages_k36_whole_states_by_own_step) (q := view (OpenLaw.row PySem.Challenge.rw_lawfulpages_k36_whole_states_by_own_step).prog [59]) (H := G.hk) (ob := G.ob) (M := 4300) (loose := G.loose) (d := HandSHeadRun.topDef (OpenLaw.row PySem.Challenge.rw_lawfulpages_k36_whole_states_by_own_step).prog 59) (kwd := []) G.ob_eq
    (by kernel_rfl) (fun s => by kernel_rfl) G.run (by kernel_rfl) (by kernel_rfl) (by kernel_rfl) (by rfl) (by first | assumption | decide +kernel) (by decide +kernel) ⟨rfl, rfl, rfl, rfl, rfl, by decide +kernel⟩ ?hw ?hc
  case hw => w_witness2
  case hc =>
    refine T.walkT (l := PySem.Challenge.rw_lawfulpages_k36_whole_states_by_own_step) (k := 10) (x := "script") rfl (by kernel_rfl) ⟨rfl, by decide, by decide⟩ ?F
    intro w mg fa h Y G0 hmg0
    obtain ⟨K, KX, c⟩ := Y
    have hmg : mg ("law" : PySem.Str) = some (.ref fa) := by
      have e : (HandSHeadRun.topDef (OpenLaw.row PySem.Challenge.rw_lawfulpages_k36_whole_states_by_own_step).prog 59).name = ("law" : PySem.Str) := by kernel_rfl
      rw [← e]
      exact hmg0
    obtain ⟨fd, hb, hF⟩ := G.facts (P := (PySem.Challenge.rw_lawfulpages_k36_whole_states_by_own_step).prog) (w := w) KX G0 hmg c
    exact ⟨K, fd, KX, hb, hF⟩
