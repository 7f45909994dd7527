import PyProof.Rows.All
import Wide.All
import OpenK.AllK
import HandS.NoneIn
import Wide.FinOn
import HandS.ForMost
import HandS.ForExc
import HandS.IsInst
import HandS.TupAny
import HandS.TupMul
import HandS.Style
import HandS.Conv
import HandS.Wide
import HandS.WideBits
import HandS.EndBits
import HandS.Defaults
import HandS.Flow
import HandS.TupLe
import HandS.ExcOwn
import HandS.TryOnly
import HandS.HeadHook1
import PyProof.ReprRoads
import PyProof.CallFns
import KE.GoesMore
import KE.GoesEnum
import HandS.Zip
import HandS.Rev
import HandS.RevRange
import HandS.HeadHook2
import HandS.SortKw
import HandS.Text
import KE.DataMinMax
import KE.SortData
import PyProof.StrOps2
import HandS.Deep
import KE.DataAny
import HandS.More
import HandS.Replace
import HandS.ExcIs
import HandS.ExcField
import HandS.TryMany
import HandS.ExcInit
import HandS.Codes
import HandS.Head0
import HandS.Head1
import HandS.Head2
import HandS.HeadEnd
import HandS.SetFor
import PyProof.Rows.RegStrFacts
import PyProof.ReprLen
import PyProof.StrLawsRepr
import PySem.Challenge.RW_lawfulpages_k62_joined_shapes_and_rows_o
set_option Elab.async false
set_option linter.all false
set_option maxRecDepth 100000
set_option maxHeartbeats 4000000
/-! T: dicts whose keys are None or ints. -/
namespace T
open PySem PySem.Spec PyProof.Rows L2
def oiIs (k : Option Int) (v : Value) : Bool := nkIs (k.map Sum.inl) v
theorem oi_inj {a b : Option Int} (h : (a.map Sum.inl : Option Key) = b.map Sum.inl) : a = b := by
  cases a with
  | none => cases b with
    | none => rfl
    | some j => cases h
  | some i => cases b with
    | none => cases h
    | some j => injection h with h; injection h with h; rw [h]
def oiKind (prog : Program) (w : World) : PySem.KeyKind prog w (Option Int) where
  is := oiIs
  hash := fun k => match k with
    | none => reduceHash 0xFCA86420
    | some i => hashInt i
  inj := fun v a b ha hb => oi_inj ((noneKind prog w).inj v (a.map Sum.inl) (b.map Sum.inl) ha hb)
  byValue := fun k v h => (noneKind prog w).byValue (k.map Sum.inl) v h
  pyHash := @fun A E s k v Q hv h => (noneKind prog w).pyHash (k := k.map Sum.inl) hv (by cases k <;> exact h)
  eqBool := @fun A E s a b u v Q hu hv h => (noneKind prog w).eqBool (a := a.map Sum.inl) (b := b.map Sum.inl) hu hv (by
    have e : decide ((a.map Sum.inl : Option Key) = b.map Sum.inl) = decide (a = b) := by
      by_cases c : a = b
      · rw [decide_eq_true c, c]; exact decide_eq_true rfl
      · rw [decide_eq_false c]; exact decide_eq_false fun z => c (oi_inj z)
    rw [e]; exact h)
  «strs» := fun k x t v h => (noneKind prog w).«strs» (k.map Sum.inl) x t v h
theorem oi_pairs {P P' : Program} {w w' : World} : ∀ {es : List DictEntry} {vs : List (Option Int × Value)}, Pairs (oiKind P w) es vs → Pairs (oiKind P' w') es vs
  | _, _, .nil => .nil
  | _, _, .cons h1 h2 h3 => .cons h1 h2 (oi_pairs h3)
theorem oi_conv {P P' : Program} {w w' : World} {h : Heap} {a : Addr} {vs : List (Option Int × Value)} (d : h.DictOf (oiKind P w) a vs) : h.DictOf (oiKind P' w') a vs := by
  obtain ⟨o, es, ep, ho, hx, hdt, hk, hp, hn⟩ := d
  exact ⟨o, es, ep, ho, hx, hdt, hk, oi_pairs hp, hn⟩
def oiV (kvs : List (Option Int × Int)) : List (Option Int × V) := kvs.map fun p => (p.1, V.int p.2)
/-- at a: a dict whose keys are None or ints, of ints -/
def dnT (kvs : List (Option Int × Int)) (a : Addr) : HO := .ext fun h => kvs.length ≤ sizeLine ∧ (a == sysModules) = false ∧ ∃ (P : Program) (w : World) (vs : List (Option Int × Value)), KV (oiV kvs) vs ∧ h.DictOf (oiKind P w) a vs
theorem dn_ok {P : Program} {w : World} {H' : Hp} {h' : Heap} {a : Addr} {kvs : List (Option Int × Int)} {vs : List (Option Int × Value)} (z : kvs.length ≤ sizeLine) (hd : (a == sysModules) = false) (rel : KV (oiV kvs) vs) (dd : h'.DictOf (oiKind P w) a vs) :
    ObjOk P w H' h' a (dnT kvs a) := by
  refine ⟨⟨z, hd, P, w, vs, rel, dd⟩, ?_, ?_⟩
  · obtain ⟨o, _, _, ho, _⟩ := dd
    exact ⟨o, ho⟩
  · rintro h1 h2 ⟨z, hd, P, w, vs, rel, o, es, ep, ho, r⟩ k
    exact ⟨z, hd, P, w, vs, rel, o, es, ep, k o ho, r⟩
theorem dn_of {P : Program} {w : World} {H : Hp} {h : Heap} {a : Addr} {kvs : List (Option Int × Int)} (ok : HOk P w H h) (e : H a = some (dnT kvs a)) : kvs.length ≤ sizeLine ∧ (a == sysModules) = false ∧ ∃ vs, KV (oiV kvs) vs ∧ h.DictOf (oiKind P w) a vs := by
  have q : ObjOk P w H h a (dnT kvs a) := rd_of ok (.inl e)
  obtain ⟨⟨z, hd, P', w', vs, rel, dd⟩, _⟩ := q
  exact ⟨z, hd, vs, rel, oi_conv dd⟩
/-! dicts whose keys are tuples of ints: the keys' own tuples are named -/
abbrev EnV := List (List Int × Addr × V)
def PrE : EnV → List (List Int × Addr × Value) → Prop := Paired fun p q => p.1 = q.1 ∧ p.2.1 = q.2.1 ∧ RelV p.2.2 q.2.2
/-- o at a is the dict of xs -/
def DTI (o : Obj) (xs : EnV) (h : Heap) (a : Addr) : Prop := xs.length ≤ sizeLine ∧ (a == sysModules) = false ∧ h.get? a = some o ∧ o.ExactDict ∧ ∃ (P : Program) (w : World) (ys : List (List Int × Addr × Value)) (es : Array DictEntry) (ep : Nat),
  PrE xs ys ∧ o.data = .dict es ep ∧ es.toList = ys.map (entryOfKey (tupleKind (intKind P w))) ∧ (ys.map (·.1)).Nodup
def dtE (xs : EnV) (a : Addr) : HO := .ext fun h => ∃ o, DTI o xs h a
/-- .. while no one writes it -/
def dtF (o : Obj) (xs : EnV) (a : Addr) : HO := .ext fun h => DTI o xs h a
theorem DTI.keep {o : Obj} {xs : EnV} {h1 h2 : Heap} {a : Addr} (x : DTI o xs h1 a) (k : ∀ o, h1.get? a = some o → h2.get? a = some o) : DTI o xs h2 a :=
  ⟨x.1, x.2.1, k o x.2.2.1, x.2.2.2⟩
theorem dtE_ok {P : Program} {w : World} {H' : Hp} {h' : Heap} {a : Addr} {xs : EnV} {o : Obj} (x : DTI o xs h' a) : ObjOk P w H' h' a (dtE xs a) :=
  ⟨⟨o, x⟩, ⟨o, x.2.2.1⟩, fun h1 h2 ⟨o, y⟩ k => ⟨o, y.keep k⟩⟩
theorem dtF_ok {P : Program} {w : World} {H' : Hp} {h' : Heap} {a : Addr} {xs : EnV} {o : Obj} (x : DTI o xs h' a) : ObjOk P w H' h' a (dtF o xs a) :=
  ⟨x, ⟨o, x.2.2.1⟩, fun h1 h2 y k => y.keep k⟩
theorem dtE_of {P : Program} {w : World} {H : Hp} {h : Heap} {a : Addr} {xs : EnV} (ok : HOk P w H h) (e : H a = some (dtE xs a)) : ∃ o, DTI o xs h a := by
  have q : ObjOk P w H h a (dtE xs a) := ok a _ e
  exact q.1
theorem dtF_of {P : Program} {w : World} {H : Hp} {h : Heap} {a : Addr} {xs : EnV} {o : Obj} (ok : HOk P w H h) (e : H a = some (dtF o xs a)) : DTI o xs h a := by
  have q : ObjOk P w H h a (dtF o xs a) := ok a _ e
  exact q.1
theorem ent_conv {P P' : Program} {w w' : World} : entryOfKey (tupleKind (intKind P w)) = entryOfKey (tupleKind (intKind P' w')) := rfl
/-- at a: a dict whose keys are None or ints, of anything -/
def dvT (kvs : List (Option Int × V)) (a : Addr) : HO := .ext fun h => kvs.length ≤ sizeLine ∧ (a == sysModules) = false ∧ ∃ (P : Program) (w : World) (vs : List (Option Int × Value)), KV kvs vs ∧ h.DictOf (oiKind P w) a vs
theorem dv_ok {P : Program} {w : World} {H' : Hp} {h' : Heap} {a : Addr} {kvs : List (Option Int × V)} {vs : List (Option Int × Value)} (z : kvs.length ≤ sizeLine) (hd : (a == sysModules) = false) (rel : KV kvs vs) (dd : h'.DictOf (oiKind P w) a vs) :
    ObjOk P w H' h' a (dvT kvs a) := by
  refine ⟨⟨z, hd, P, w, vs, rel, dd⟩, ?_, ?_⟩
  · obtain ⟨o, _, _, ho, _⟩ := dd
    exact ⟨o, ho⟩
  · rintro h1 h2 ⟨z, hd, P, w, vs, rel, o, es, ep, ho, r⟩ k
    exact ⟨z, hd, P, w, vs, rel, o, es, ep, k o ho, r⟩
theorem dv_of {P : Program} {w : World} {H : Hp} {h : Heap} {a : Addr} {kvs : List (Option Int × V)} (ok : HOk P w H h) (e : H a = some (dvT kvs a)) : kvs.length ≤ sizeLine ∧ (a == sysModules) = false ∧ ∃ vs, KV kvs vs ∧ h.DictOf (oiKind P w) a vs := by
  have q : ObjOk P w H h a (dvT kvs a) := ok a _ e
  obtain ⟨⟨z, hd, P', w', vs, rel, dd⟩, _⟩ := q
  exact ⟨z, hd, vs, rel, oi_conv dd⟩
end T

/-! T: values as trees over the kit's hand layer. -/
namespace T
open PySem PySem.Spec PyProof.Rows L2

/-- a value: what never changes is a tree, what may change is a place -/
inductive Tr where
  | non | bl (b : Bool) | int (i : Int) | str (x : Str) | tup (ds : List Tr) | fro (ds : List Tr) | loc (a : Addr) | ty (n : String)

/-- what may change, by its place -/
inductive MO where
  | lst (ds : List Tr) | dic (kvs : List (Key × Tr)) | ins (C dx : Addr) (fs : List (Str × Tr)) | xd (fs : List (Str × Tr)) | exc (cls : Value) (d : Option Addr) | dcn (kvs : List (Option Int × Int)) | dct (kvs : List (List Int × Tr)) | dcf (o : Obj) (xs : EnV) (kvs : List (List Int × Tr)) | dco (kvs : List (Option Int × Tr)) | ino (x : Str) (fs : List (Str × Tr))
/-- at a: an error of the class cls that is not in flight, its dict d -/
def exT (cls : Value) (d : Option Addr) (a : Addr) : HO := .ext fun h => ∃ (oe : Obj) (vs : Array Value), h.get? a = some oe ∧ Zc cls d oe ∧ oe.data = .fields vs
abbrev Ms := Addr → Option MO
def up (M : Ms) (a : Addr) (o : MO) : Ms := fun b => if b = a then some o else M b
theorem up_same {M : Ms} {a : Addr} {o : MO} : up M a o a = some o := by unfold up; rw [if_pos rfl]
theorem up_ne {M : Ms} {a b : Addr} {o : MO} (h : b ≠ a) : up M a o b = M b := by unfold up; rw [if_neg h]
theorem up_up {M : Ms} {a : Addr} {o u : MO} : up (up M a o) a u = up M a u := by
  funext b; unfold up; split <;> rfl
theorem m_ne {M : Ms} {a b : Addr} {o : MO} (h : M a = some o) (h' : M b = none) : a ≠ b := by
  intro e; subst e; rw [h] at h'; cases h'
theorem m_ne' {M : Ms} {a b : Addr} {o : MO} (h : M a = some o) (h' : M b = none) : b ≠ a := fun e => m_ne h h' e.symm

/-- a list of the written part -/
def KL (K : PySem.W.Frag) (a : Addr) (xs : List V) : Prop :=
  ∃ (ob : Obj) (vs : Array Value) (k : Nat), K.lookup a = some ob ∧ ob.cls = .type "list" ∧ ob.dict = none ∧ ob.data = .seq vs k ∧ vs.size ≤ sizeLine ∧ Vals xs vs.toList
/-- a list that no one writes -/
def FrL (K : PySem.W.Frag) (H : Hp) (a : Addr) (xs : List V) : Prop := (∃ o, H a = some (.frz o (.lst xs))) ∨ KL K a xs
theorem FrL.sq {K : PySem.W.Frag} {H : Hp} {a : Addr} {xs : List V} (h : FrL K H a xs) : SqL K H a xs := by
  rcases h with ⟨o, h⟩ | h
  · exact .inl (.inr ⟨o, h⟩)
  · exact .inr h

mutual
/-- the value v shows the tree -/
def Rep (K : PySem.W.Frag) (H : Hp) : Tr → V → Prop
  | .non, v => v = .non
  | .bl b, v => v = .bl b
  | .int i, v => v = .int i
  | .str x, v => v = .str x
  | .tup ds, v => ∃ a xs, v = .ref a ∧ SqT K H a xs ∧ RepL K H ds xs
  | .fro ds, v => ∃ a xs, v = .ref a ∧ FrL K H a xs ∧ RepL K H ds xs
  | .loc a, v => v = .ref a
  | .ty n, v => v = .ty n
def RepL (K : PySem.W.Frag) (H : Hp) : List Tr → List V → Prop
  | [], xs => xs = []
  | d :: ds, xs => ∃ x r, xs = x :: r ∧ Rep K H d x ∧ RepL K H ds r
end

/-- tuples and written lists stand as they stood -/
structure Tx (K : PySem.W.Frag) (H H' : Hp) : Prop where
  tup : ∀ a xs, SqT K H a xs → SqT K H' a xs
  fro : ∀ a xs, FrL K H a xs → FrL K H' a xs
section
variable {K : PySem.W.Frag} {H H' H1 H2 : Hp}
theorem Tx.refl : Tx K H H := ⟨fun _ _ h => h, fun _ _ h => h⟩
theorem Tx.trans (a : Tx K H H1) (b : Tx K H1 H2) : Tx K H H2 := ⟨fun x xs h => b.tup x xs (a.tup x xs h), fun x xs h => b.fro x xs (a.fro x xs h)⟩
theorem Tx.keep (h : ∀ a o, (∃ xs, o = HO.tup xs) ∨ (∃ ob u, o = HO.frz ob u) → H a = some o → H' a = some o) : Tx K H H' := by
  refine ⟨fun a xs q => ?_, fun a xs q => ?_⟩
  · rcases q with (q | ⟨o, q⟩) | q
    · exact .inl (.inl (h _ _ (.inl ⟨_, rfl⟩) q))
    · exact .inl (.inr ⟨o, h _ _ (.inr ⟨_, _, rfl⟩) q⟩)
    · exact .inr q
  · rcases q with ⟨o, q⟩ | q
    · exact .inl ⟨o, h _ _ (.inr ⟨_, _, rfl⟩) q⟩
    · exact .inr q
theorem Tx.same (h : ∀ a o, H a = some o → H' a = some o) : Tx K H H' := Tx.keep fun a o _ q => h a o q
theorem Tx.new {p : Addr} {o : HO} (h : H p = none) : Tx K H (upd H p o) := Tx.same fun a u q => by rw [upd_ne (ne_of_none q h)]; exact q
theorem Tx.mut {p : Addr} {o u : HO} (h : H p = some u) (h1 : ∀ xs, u ≠ .tup xs) (h2 : ∀ ob x, u ≠ .frz ob x) : Tx K H (upd H p o) := Tx.keep fun a v c q => by
  have ne : a ≠ p := by
    rintro rfl
    rw [h] at q; cases q
    rcases c with ⟨xs, e⟩ | ⟨ob, x, e⟩
    · exact h1 _ e
    · exact h2 _ _ e
  rw [upd_ne ne]; exact q
theorem Tx.lst {p : Addr} {xs : List V} {o : HO} (h : H p = some (.lst xs)) : Tx K H (upd H p o) := Tx.mut h (fun _ e => nomatch e) fun _ _ e => nomatch e
theorem Tx.dic {p : Addr} {xs : List (Key × V)} {o : HO} (h : H p = some (.dK xs)) : Tx K H (upd H p o) := Tx.mut h (fun _ e => nomatch e) fun _ _ e => nomatch e
theorem Tx.ins {p C dx : Addr} {fs : List (Str × V)} {o : HO} (h : H p = some (.ins C dx fs)) : Tx K H (upd H p o) := Tx.mut h (fun _ e => nomatch e) fun _ _ e => nomatch e
theorem Tx.un {fs ex : List Addr} {h h' : Heap} (u : Un fs ex H H' h h') : Tx K H H' := Tx.keep fun a o c q => by
  rcases c with ⟨xs, rfl⟩ | ⟨ob, x, rfl⟩
  · exact u.tups _ _ q
  · exact u.frzs _ _ _ q
end
mutual
theorem Rep.mono {K : PySem.W.Frag} {H H' : Hp} (t : Tx K H H') : ∀ {d : Tr} {v : V}, Rep K H d v → Rep K H' d v
  | .non, _, h => h
  | .bl _, _, h => h
  | .int _, _, h => h
  | .str _, _, h => h
  | .tup _, _, h => by
    obtain ⟨a, xs, e, q, r⟩ := h
    exact ⟨a, xs, e, t.tup _ _ q, RepL.mono t r⟩
  | .fro _, _, h => by
    obtain ⟨a, xs, e, q, r⟩ := h
    exact ⟨a, xs, e, t.fro _ _ q, RepL.mono t r⟩
  | .loc _, _, h => h
  | .ty _, _, h => h
theorem RepL.mono {K : PySem.W.Frag} {H H' : Hp} (t : Tx K H H') : ∀ {ds : List Tr} {xs : List V}, RepL K H ds xs → RepL K H' ds xs
  | [], _, h => h
  | _ :: _, _, h => by
    obtain ⟨x, r, e, h1, h2⟩ := h
    exact ⟨x, r, e, Rep.mono t h1, RepL.mono t h2⟩
end
section
variable {K : PySem.W.Frag} {H H' : Hp}
theorem RepL.len : ∀ {ds : List Tr} {xs : List V}, RepL K H ds xs → ds.length = xs.length
  | [], _, h => by
    have e : _ = [] := h
    subst e
    rfl
  | _ :: ds, _, h => by
    obtain ⟨x, r, e, h1, h2⟩ := h
    subst e
    rw [List.length_cons, List.length_cons, RepL.len h2]
theorem RepL.get : ∀ {ds : List Tr} {xs : List V} {i : Nat} {d : Tr}, RepL K H ds xs → ds[i]? = some d → ∃ x, xs[i]? = some x ∧ Rep K H d x
  | [], _, i, _, _, e => by simp at e
  | d :: ds, _, 0, _, h, e => by
    obtain ⟨x, r, e1, h1, h2⟩ := h
    subst e1
    have e : d = _ := Option.some.inj e
    subst e
    exact ⟨x, rfl, h1⟩
  | _ :: ds, _, i + 1, _, h, e => by
    obtain ⟨x, r, e1, h1, h2⟩ := h
    subst e1
    obtain ⟨y, a, b⟩ := RepL.get (i := i) h2 (by simpa using e)
    exact ⟨y, by simpa using a, b⟩
theorem RepL.of : ∀ {ds : List Tr} {xs : List V}, ds.length = xs.length → (∀ (i : Nat) (d : Tr) (x : V), ds[i]? = some d → xs[i]? = some x → Rep K H d x) → RepL K H ds xs
  | [], [], _, _ => rfl
  | [], _ :: _, e, _ => by simp at e
  | _ :: _, [], e, _ => by simp at e
  | d :: ds, x :: xs, e, h => ⟨x, xs, rfl, h 0 d x rfl rfl, RepL.of (by simpa using e) fun i d x h1 h2 => h (i + 1) d x (by simpa using h1) (by simpa using h2)⟩
theorem RepL.back {ds : List Tr} {xs : List V} {i : Nat} {x : V} (h : RepL K H ds xs) (e : xs[i]? = some x) : ∃ d, ds[i]? = some d ∧ Rep K H d x := by
  have hi : i < ds.length := by
    rw [h.len]; exact (List.getElem?_eq_some_iff.mp e).1
  obtain ⟨y, a, b⟩ := h.get (i := i) (d := ds[i]) (by simp [hi])
  rw [e] at a; cases a
  exact ⟨_, by simp [hi], b⟩
theorem RepL.at {ds : List Tr} {xs : List V} {i : Nat} {d : Tr} {x : V} (h : RepL K H ds xs) (e : ds[i]? = some d) (e' : xs[i]? = some x) : Rep K H d x := by
  obtain ⟨y, a, b⟩ := h.get e
  rw [e'] at a; cases a
  exact b
theorem RepL.app {ds es : List Tr} {xs ys : List V} (h : RepL K H ds xs) (h' : RepL K H es ys) : RepL K H (ds ++ es) (xs ++ ys) := by
  refine RepL.of (by rw [List.length_append, List.length_append, h.len, h'.len]) fun i d x e1 e2 => ?_
  by_cases c : i < ds.length
  · rw [List.getElem?_append_left c] at e1
    rw [List.getElem?_append_left (by rw [← h.len]; exact c)] at e2
    exact h.at e1 e2
  · rw [List.getElem?_append_right (by omega)] at e1
    rw [List.getElem?_append_right (by have := h.len; omega)] at e2
    rw [← h.len] at e2
    exact h'.at e1 e2
theorem RepL.one {d : Tr} {x : V} (h : Rep K H d x) : RepL K H [d] [x] := ⟨x, [], rfl, h, rfl⟩
theorem RepL.nil : RepL K H [] [] := rfl
theorem RepL.cons {d : Tr} {x : V} {ds : List Tr} {xs : List V} (h : Rep K H d x) (t : RepL K H ds xs) : RepL K H (d :: ds) (x :: xs) := ⟨x, xs, rfl, h, t⟩
theorem RepL.take {ds : List Tr} {xs : List V} (n : Nat) (h : RepL K H ds xs) : RepL K H (ds.take n) (xs.take n) := by
  refine RepL.of (by rw [List.length_take, List.length_take, h.len]) fun i d x e1 e2 => ?_
  rw [List.getElem?_take] at e1 e2
  split at e1
  · rename_i c
    rw [if_pos c] at e2
    exact h.at e1 e2
  · cases e1
theorem RepL.drop {ds : List Tr} {xs : List V} (n : Nat) (h : RepL K H ds xs) : RepL K H (ds.drop n) (xs.drop n) := by
  refine RepL.of (by rw [List.length_drop, List.length_drop, h.len]) fun i d x e1 e2 => ?_
  rw [List.getElem?_drop] at e1 e2
  exact h.at e1 e2
theorem RepL.set {ds : List Tr} {xs : List V} {d : Tr} {x : V} (n : Nat) (h : RepL K H ds xs) (r : Rep K H d x) : RepL K H (ds.set n d) (xs.set n x) := by
  refine RepL.of (by rw [List.length_set, List.length_set, h.len]) fun i e y e1 e2 => ?_
  rw [List.getElem?_set] at e1 e2
  by_cases c : n = i
  · rw [if_pos c] at e1 e2
    rw [← h.len] at e2
    split at e1
    · rename_i c2
      rw [if_pos c2] at e2
      cases e1; cases e2
      exact r
    · cases e1
  · rw [if_neg c] at e1 e2
    exact h.at e1 e2
theorem RepL.dropLast {ds : List Tr} {xs : List V} (h : RepL K H ds xs) : RepL K H ds.dropLast xs.dropLast := by
  rw [List.dropLast_eq_take, List.dropLast_eq_take, h.len]
  exact h.take _
theorem RepL.erase {ds : List Tr} {xs : List V} (n : Nat) (h : RepL K H ds xs) : RepL K H (ds.eraseIdx n) (xs.eraseIdx n) := by
  rw [List.eraseIdx_eq_take_drop_succ, List.eraseIdx_eq_take_drop_succ]
  exact (h.take _).app (h.drop _)
theorem RepL.rev {ds : List Tr} {xs : List V} (h : RepL K H ds xs) : RepL K H ds.reverse xs.reverse := by
  refine RepL.of (by rw [List.length_reverse, List.length_reverse, h.len]) fun i d x e1 e2 => ?_
  have hi : i < ds.length := by
    have := (List.getElem?_eq_some_iff.mp e1).1
    rwa [List.length_reverse] at this
  rw [List.getElem?_reverse hi] at e1
  rw [List.getElem?_reverse (by rw [← h.len]; exact hi), ← h.len] at e2
  exact h.at e1 e2
theorem RepL.rep {ds : List Tr} {xs : List V} (h : RepL K H ds xs) : ∀ k : Nat, RepL K H (List.replicate k ds).flatten (List.replicate k xs).flatten
  | 0 => rfl
  | k + 1 => by
    rw [List.replicate_succ, List.replicate_succ, List.flatten_cons, List.flatten_cons]
    exact h.app (RepL.rep h k)
theorem RepL.ints {ns : List Int} : RepL K H (ns.map Tr.int) (ns.map V.int) := by
  induction ns with
  | nil => rfl
  | cons n r ih => exact ⟨_, _, rfl, rfl, ih⟩
theorem RepL.cut {ds : List Tr} {xs : List V} (lo hi : Option Int) (h : RepL K H ds xs) :
    RepL K H ((ds.drop (HT.sIx ds.length 0 lo)).take (HT.sIx ds.length ds.length hi - HT.sIx ds.length 0 lo)) (cutV xs lo hi) := by
  unfold cutV
  rw [h.len]
  exact (h.drop _).take _
end

/-! ### the store, the slots -/
def EnR (K : PySem.W.Frag) (H : Hp) : List (List Int × Tr) → EnV → Prop := Paired fun p x => x.1 = p.1 ∧ SqT K H x.2.1 (p.1.map V.int) ∧ Rep K H p.2 x.2.2
theorem EnR.mono {K : PySem.W.Frag} {H H' : Hp} {kvs : List (List Int × Tr)} {xs : EnV} (r : EnR K H kvs xs) (t : Tx K H H') : EnR K H' kvs xs := Paired.mapP r fun _ _ z => ⟨z.1, t.tup _ _ z.2.1, z.2.2.mono t⟩
/-- a dict's entries, keys of None or ints -/
def OvR (K : PySem.W.Frag) (H : Hp) : List (Option Int × Tr) → List (Option Int × V) → Prop := Paired fun p x => x.1 = p.1 ∧ Rep K H p.2 x.2
theorem OvR.mono {K : PySem.W.Frag} {H H' : Hp} {kvs : List (Option Int × Tr)} {xs : List (Option Int × V)} (r : OvR K H kvs xs) (t : Tx K H H') : OvR K H' kvs xs := Paired.mapP r fun _ _ z => ⟨z.1, z.2.mono t⟩
def RepO (K : PySem.W.Frag) (H : Hp) (a : Addr) : MO → Prop
  | .lst ds => ∃ xs, H a = some (.lst xs) ∧ RepL K H ds xs
  | .dic kvs => ∃ xs, H a = some (.dK xs) ∧ xs.map (·.1) = kvs.map (·.1) ∧ RepL K H (kvs.map (·.2)) (xs.map (·.2))
  | .ins C dx fs => ∃ xs, H a = some (.ins C dx xs) ∧ xs.map (·.1) = fs.map (·.1) ∧ RepL K H (fs.map (·.2)) (xs.map (·.2))
  | .xd fs => ∃ xs, H a = some (.xd xs) ∧ xs.map (·.1) = fs.map (·.1) ∧ RepL K H (fs.map (·.2)) (xs.map (·.2))
  | .exc cls d => H a = some (exT cls d a)
  | .dcn kvs => H a = some (dnT kvs a)
  | .dct kvs => ∃ xs, H a = some (dtE xs a) ∧ EnR K H kvs xs
  | .dcf o xs kvs => H a = some (dtF o xs a) ∧ EnR K H kvs xs
  | .dco kvs => ∃ xs, H a = some (dvT xs a) ∧ OvR K H kvs xs
  | .ino x fs => ∃ dx xs, H a = some (.ins (He.ga K x) dx xs) ∧ xs.map (·.1) = fs.map (·.1) ∧ RepL K H (fs.map (·.2)) (xs.map (·.2))
def SimM (K : PySem.W.Frag) (H : Hp) (M : Ms) : Prop := ∀ a o, M a = some o → RepO K H a o
abbrev St2 := List (Option Tr)
structure SimS (K : PySem.W.Frag) (H : Hp) (σ' : St2) (σ : L2.St) : Prop where
  len : σ'.length = σ.length
  at_ : ∀ (i : Nat) (d : Tr), σ'[i]? = some (some d) → ∃ v, σ[i]? = some (some v) ∧ Rep K H d v
section
variable {K : PySem.W.Frag} {H H' : Hp} {M : Ms} {σ' : St2} {σ : L2.St} {d : Tr} {v : V} {a p : Addr}
theorem RepO.there {o : MO} (h : RepO K H a o) : ∃ u, H a = some u := by
  cases o with
  | lst ds => obtain ⟨xs, e, _⟩ := h; exact ⟨_, e⟩
  | dic ds => obtain ⟨xs, e, _⟩ := h; exact ⟨_, e⟩
  | ins C dx ds => obtain ⟨xs, e, _⟩ := h; exact ⟨_, e⟩
  | xd ds => obtain ⟨xs, e, _⟩ := h; exact ⟨_, e⟩
  | exc cls d => exact ⟨_, h⟩
  | dcn kvs => exact ⟨_, h⟩
  | dct kvs => obtain ⟨xs, e, _⟩ := h; exact ⟨_, e⟩
  | dcf o xs kvs => exact ⟨_, h.1⟩
  | dco kvs => obtain ⟨xs, e, _⟩ := h; exact ⟨_, e⟩
  | ino x fs => obtain ⟨dx, xs, e, _⟩ := h; exact ⟨_, e⟩
theorem RepO.mono {o : MO} (t : Tx K H H') (e : H' a = H a) (h : RepO K H a o) : RepO K H' a o := by
  cases o with
  | lst ds => obtain ⟨xs, q, r⟩ := h; exact ⟨xs, e.trans q, r.mono t⟩
  | dic ds => obtain ⟨xs, q, k, r⟩ := h; exact ⟨xs, e.trans q, k, r.mono t⟩
  | ins C dx ds => obtain ⟨xs, q, k, r⟩ := h; exact ⟨xs, e.trans q, k, r.mono t⟩
  | xd ds => obtain ⟨xs, q, k, r⟩ := h; exact ⟨xs, e.trans q, k, r.mono t⟩
  | exc cls d => exact e.trans h
  | dcn kvs => exact e.trans h
  | dct kvs => obtain ⟨xs, q, r⟩ := h; exact ⟨xs, e.trans q, r.mono t⟩
  | dcf o xs kvs => exact ⟨e.trans h.1, h.2.mono t⟩
  | dco kvs => obtain ⟨xs, q, r⟩ := h; exact ⟨xs, e.trans q, r.mono t⟩
  | ino x fs => obtain ⟨dx, xs, q, k, r⟩ := h; exact ⟨dx, xs, e.trans q, k, r.mono t⟩
theorem SimM.free (h : SimM K H M) (e : H p = none) : M p = none := by
  cases q : M p with
  | none => rfl
  | some o =>
    obtain ⟨u, z⟩ := (h p o q).there
    rw [e] at z; cases z
theorem SimM.keep (h : SimM K H M) (k : ∀ b u, H b = some u → H' b = some u) : SimM K H' M := fun b o q => by
  obtain ⟨u, z⟩ := (h b o q).there
  exact (h b o q).mono (Tx.same k) ((k b u z).trans z.symm)
/-- a new thing that the store does not name -/
theorem SimM.hid {o : HO} (h : SimM K H M) (e : H p = none) : SimM K (upd H p o) M := h.keep fun b u q => by rw [upd_ne (ne_of_none q e)]; exact q
theorem SimM.put {o : HO} {m : MO} (h : SimM K H M) (t : Tx K H (upd H p o)) (n : RepO K (upd H p o) p m) : SimM K (upd H p o) (up M p m) := fun b u q => by
  by_cases c : b = p
  · subst c
    rw [up_same] at q; cases q
    exact n
  · rw [up_ne c] at q
    exact (h b u q).mono t (upd_ne c)
theorem SimM.newL {ds : List Tr} {xs : List V} (h : SimM K H M) (e : H p = none) (r : RepL K H ds xs) : SimM K (upd H p (.lst xs)) (up M p (.lst ds)) :=
  h.put (Tx.new e) ⟨xs, upd_same, r.mono (Tx.new e)⟩
theorem SimM.setL {ds : List Tr} {xs ys : List V} (h : SimM K H M) (e : H p = some (.lst ys)) (r : RepL K H ds xs) : SimM K (upd H p (.lst xs)) (up M p (.lst ds)) :=
  h.put (Tx.lst e) ⟨xs, upd_same, r.mono (Tx.lst e)⟩
theorem SimM.lst {ds : List Tr} (h : SimM K H M) (e : M a = some (.lst ds)) : ∃ xs, H a = some (.lst xs) ∧ RepL K H ds xs := h a _ e
theorem SimS.mono (h : SimS K H σ' σ) (t : Tx K H H') : SimS K H' σ' σ := ⟨h.len, fun i d e => by
  obtain ⟨v, a, b⟩ := h.at_ i d e
  exact ⟨v, a, b.mono t⟩⟩
theorem SimS.set (h : SimS K H σ' σ) (i : Nat) (r : Rep K H d v) : SimS K H (σ'.set i (some d)) (σ.set i (some v)) := ⟨by rw [List.length_set, List.length_set, h.len], fun j e q => by
  rw [List.getElem?_set] at q ⊢
  by_cases c : i = j
  · rw [if_pos c] at q ⊢
    rw [← h.len]
    split at q
    · rename_i c2
      rw [if_pos c2]
      cases q
      exact ⟨v, rfl, r⟩
    · cases q
  · rw [if_neg c] at q ⊢
    exact h.at_ j e q⟩
theorem SimS.none (h : SimS K H σ' σ) (i : Nat) : SimS K H (σ'.set i none) (σ.set i none) := ⟨by rw [List.length_set, List.length_set, h.len], fun j e q => by
  rw [List.getElem?_set] at q ⊢
  by_cases c : i = j
  · rw [if_pos c] at q
    split at q <;> cases q
  · rw [if_neg c] at q ⊢
    exact h.at_ j e q⟩
theorem SimS.none' (h : SimS K H σ' σ) (i : Nat) (o : Option V) : SimS K H (σ'.set i Option.none) (σ.set i o) := ⟨by rw [List.length_set, List.length_set, h.len], fun j e q => by
  rw [List.getElem?_set] at q ⊢
  by_cases c : i = j
  · rw [if_pos c] at q
    split at q <;> cases q
  · rw [if_neg c] at q ⊢
    exact h.at_ j e q⟩
end
def start2 (N : List Str) (ds : List Tr) : St2 := ds.map some ++ List.replicate (N.length - ds.length) none
theorem SimS.start {K : PySem.W.Frag} {H : Hp} {N : List Str} {ds : List Tr} {vs : List V} (r : RepL K H ds vs) : SimS K H (start2 N ds) (L2.start N vs) := by
  refine ⟨by unfold start2 L2.start; simp [r.len], fun i d e => ?_⟩
  unfold start2 at e
  unfold L2.start
  by_cases c : i < ds.length
  · rw [List.getElem?_append_left (by simpa using c), List.getElem?_map] at e
    cases q : ds[i]? with
    | none => rw [q] at e; cases e
    | some d' =>
      rw [q] at e
      cases e
      obtain ⟨x, a, b⟩ := r.get q
      refine ⟨x, ?_, b⟩
      rw [List.getElem?_append_left (by rw [List.length_map, ← r.len]; exact c), List.getElem?_map, a]
      rfl
  · rw [List.getElem?_append_right (by simpa using c), List.getElem?_replicate] at e
    split at e <;> cases e
end T

/-! T, second part: readings over trees; expressions. -/
namespace T
open PySem PySem.Spec L2

abbrev Q2 := Tr → Ms → Prop
abbrev X2 := Value → Option Addr → Ms → Prop
abbrev TE2 := St2 → Ms → Q2 → X2 → Prop
abbrev TT2 := St2 → Ms → (Bool → Ms → Prop) → X2 → Prop
abbrev TA2 := St2 → Ms → (List Tr → Ms → Prop) → X2 → Prop
/-- no exception is wished for -/
abbrev X0 : X2 := fun _ _ _ => False

section lifts
variable (K : PySem.W.Frag)
def LkQ (H : Hp) (Q' : Q2) (Q : VK) : Prop := ∀ d M v H', Tx K H H' → Rep K H' d v → SimM K H' M → Q' d M → Q v H'
def LkB (H : Hp) (Q' : Bool → Ms → Prop) (Q : Bool → Hp → Prop) : Prop := ∀ b M H', Tx K H H' → SimM K H' M → Q' b M → Q b H'
def LkA (H : Hp) (Q' : List Tr → Ms → Prop) (Q : List V → Hp → Prop) : Prop := ∀ ds M vs H', Tx K H H' → RepL K H' ds vs → SimM K H' M → Q' ds M → Q vs H'
def LkX (H : Hp) (E' : X2) (W : L2.WX) (σ : L2.St) : Prop := ∀ c dd M H', Tx K H H' → SimM K H' M → E' c dd M → W c dd σ H'
def lfE (W : L2.WX) (t : TE2) : TE := fun σ H Q => ∃ σ' M Q' E', SimS K H σ' σ ∧ SimM K H M ∧ t σ' M Q' E' ∧ LkQ K H Q' Q ∧ LkX K H E' W σ
def lfT (W : L2.WX) (t : TT2) : TT := fun σ H Q => ∃ σ' M Q' E', SimS K H σ' σ ∧ SimM K H M ∧ t σ' M Q' E' ∧ LkB K H Q' Q ∧ LkX K H E' W σ
def lfA (W : L2.WX) (t : TA2) : TA := fun σ H Q => ∃ σ' M Q' E', SimS K H σ' σ ∧ SimM K H M ∧ t σ' M Q' E' ∧ LkA K H Q' Q ∧ LkX K H E' W σ
end lifts
section
variable {K : PySem.W.Frag} {H H1 : Hp} {E' : X2} {W : L2.WX} {σ : L2.St} {Q' : Q2} {Q : VK} {QB' : Bool → Ms → Prop} {QB : Bool → Hp → Prop}
theorem LkX.mono (h : LkX K H E' W σ) (t : Tx K H H1) : LkX K H1 E' W σ := fun c dd M H' t' s q => h c dd M H' (t.trans t') s q
theorem LkQ.mono (h : LkQ K H Q' Q) (t : Tx K H H1) : LkQ K H1 Q' Q := fun d M v H' t' r s q => h d M v H' (t.trans t') r s q
theorem LkB.mono (h : LkB K H QB' QB) (t : Tx K H H1) : LkB K H1 QB' QB := fun d M H' t' s q => h d M H' (t.trans t') s q
end

theorem pe_weak {X : Cx} {e : Expr} {t t' : TE} (h : PE X e t) (w : ∀ σ H Q, t' σ H Q → t σ H Q) : PE X e t' := ⟨fun pins s σ H Q I q => h.run pins s σ H Q I (w σ H Q q)⟩
theorem pt_weak {X : Cx} {e : Expr} {t t' : TT} (h : PT X e t) (w : ∀ σ H Q, t' σ H Q → t σ H Q) : PT X e t' := ⟨fun pins s σ H Q I q => h.run pins s σ H Q I (w σ H Q q)⟩
theorem pw_weak {X : Cx} {e : Expr} {t t' : TT} (h : PW X e t) (w : ∀ σ H Q, t' σ H Q → t σ H Q) : PW X e t' := ⟨fun wh pins s σ H Q I q => h.run wh pins s σ H Q I (w σ H Q q)⟩
theorem pa_weak {X : Cx} {es : List Expr} {t t' : TA} (h : PA X es t) (w : ∀ σ H Q, t' σ H Q → t σ H Q) : PA X es t' := ⟨fun pos pins s σ H Q I q => h.run pos pins s σ H Q I (w σ H Q q)⟩

abbrev QE (X : Cx) (W : L2.WX) (e : Expr) (t : TE2) : Prop := PE X e (lfE X.K W t)
abbrev QT (X : Cx) (W : L2.WX) (e : Expr) (t : TT2) : Prop := PT X e (lfT X.K W t)
abbrev QW (X : Cx) (W : L2.WX) (e : Expr) (t : TT2) : Prop := PW X e (lfT X.K W t)
abbrev QA (X : Cx) (W : L2.WX) (es : List Expr) (t : TA2) : Prop := PA X es (lfA X.K W t)

/-! ### names, constants -/
def eVar (i : Nat) : TE2 := fun σ M Q _ => ∃ d, σ[i]? = some (some d) ∧ Q d M
def eC (d : Tr) : TE2 := fun _ M Q _ => Q d M
section
variable {X : Cx} {W : L2.WX} {pos : Pos}
theorem qv (i : Nat) {x : Str} (hN : X.N[i]? = some x := by rfl) (hv : Vis X.env.scope x := by first | exact Or.inl rfl | exact Or.inr (Or.inl rfl) | exact Or.inr (Or.inr rfl)) (hd : (x == ("__debug__" : Str)) = false := by decide)
    (hcd : (x == ("__classdict__" : Str)) = false := by decide) : QE X W (.Name x pos) (eVar i) :=
  pe_weak (pe_var hN hv hd hcd) fun σ H Q ⟨σ', M, Q', E', hs, hm, ⟨d, e, q⟩, hq, _⟩ => by
    obtain ⟨v, a, b⟩ := hs.at_ i d e
    exact ⟨v, a, hq d M v H Tx.refl b hm q⟩
theorem qc {e : Expr} {v : V} {d : Tr} (h : PE X e (tC v)) (r : ∀ H, Rep X.K H d v) : QE X W e (eC d) :=
  pe_weak h fun σ H Q ⟨σ', M, Q', E', hs, hm, q, hq, _⟩ => hq d M v H Tx.refl (r H) hm q
theorem qe_int {i j pos} : QE X W (.Constant (.int i) j pos) (eC (.int i)) := qc pe_int fun _ => rfl
theorem qe_bl {b j pos} : QE X W (.Constant (.bool b) j pos) (eC (.bl b)) := qc pe_bl fun _ => rfl
theorem qe_non {j pos} : QE X W (.Constant .none j pos) (eC .non) := qc pe_non fun _ => rfl
theorem qe_str {x j pos} : QE X W (.Constant (.str x) j pos) (eC (.str x)) := qc pe_str fun _ => rfl
/-- a constant of the module -/
theorem qe_glob {x : Str} {u : Value} (v : V) (d : Tr) (hm : X.mg x = some u) (r : RelV v u) (rd : ∀ H, Rep X.K H d v) (hg : Gl X x := by rfl) (hd : (x == ("__debug__" : Str)) = false := by decide) : QE X W (.Name x pos) (eC d) :=
  qc (pe_glob hg hm r hd) rd
theorem qe_bltn {x : Str} {u : Value} (v : V) (d : Tr) (hm : X.mg x = none) (hv : bootBuiltins x = some u) (r : RelV v u) (rd : ∀ H, Rep X.K H d v) (hg : Gl X x := by rfl) (hn : x ≠ "__name__" := by decide) (hd : (x == ("__debug__" : Str)) = false := by decide) :
    QE X W (.Name x pos) (eC d) := qc (pe_bltn hg hm hv r hn hd) rd

/-! ### operators -/
abbrev R22 := Tr → Tr → Ms → Q2 → Prop
def lfR (K : PySem.W.Frag) (r : R22) : R2 := fun x y H Q => ∃ d e M Q', Rep K H d x ∧ Rep K H e y ∧ SimM K H M ∧ r d e M Q' ∧ LkQ K H Q' Q
def eOp (r : R22) (ta tb : TE2) : TE2 := fun σ M Q E => ta σ M (fun d M1 => tb σ M1 (fun e M2 => r d e M2 Q) E) E
variable {a b c e : Expr} {es : List Expr} {ta tb tc : TE2} {t : TA2}
theorem op_low {K : PySem.W.Frag} {r : R22} {σ : L2.St} {H : Hp} {Q : VK} (h : lfE K W (eOp r ta tb) σ H Q) : tOp (lfR K r) (lfE K W ta) (lfE K W tb) σ H Q := by
  obtain ⟨σ', M, Q', E', hs, hm, q, hq, hx⟩ := h
  exact ⟨σ', M, _, E', hs, hm, q, fun d M1 x H1 t1 r1 s1 q1 => ⟨σ', M1, _, E', hs.mono t1, s1, q1, fun e M2 y H2 t2 r2 s2 q2 =>
    ⟨d, e, M2, Q', r1.mono t2, r2, s2, q2, hq.mono (t1.trans t2)⟩, hx.mono t1⟩, hx⟩
theorem qe_op {op : Operator} {r : R22} (ho : OpR X (binaryOp op) (lfR X.K r)) (ha : QE X W a ta) (hb : QE X W b tb) : QE X W (.BinOp a op b pos) (eOp r ta tb) :=
  pe_weak (pe_op ho ha hb) fun _ _ _ h => op_low h
theorem qe_cmp {op : CmpOp} {r : R22} (ho : OpR X (compareOp op) (lfR X.K r)) (ha : QE X W a ta) (hb : QE X W b tb) (hm : behindInMarks op b = false := by first | exact nomark _ | rfl) : QE X W (.Compare a [op] [b] pos) (eOp r ta tb) :=
  pe_weak (pe_cmpR ho ha hb hm) fun _ _ _ h => op_low h
/-- a test that a comparison is -/
def tCm (t : TE2) : TT2 := fun σ M Q E => t σ M (fun d M1 => ∃ b, d = .bl b ∧ Q b M1) E
theorem cm_link {K : PySem.W.Frag} {H : Hp} {Q' : Bool → Ms → Prop} {Q : Bool → Hp → Prop} (h : LkB K H Q' Q) : LkQ K H (fun d M1 => ∃ b, d = .bl b ∧ Q' b M1) (fun x H1 => ∃ k, x = .bl k ∧ Q k H1) :=
  fun d M v H' t r s ⟨b, e, q⟩ => by
    subst e
    exact ⟨b, r, h b M H' t s q⟩
theorem qt_cmp {op : CmpOp} {r : R22} (ho : OpR X (compareOp op) (lfR X.K r)) (ha : QE X W a ta) (hb : QE X W b tb) (hm : behindInMarks op b = false := by first | exact nomark _ | rfl) : QT X W (.Compare a [op] [b] pos) (tCm (eOp r ta tb)) :=
  pt_weak (pt_cmpR ho ha hb hm) fun σ H Q ⟨σ', M, Q', E', hs, hm, q, hq, hx⟩ => op_low ⟨σ', M, _, E', hs, hm, q, cm_link hq, hx⟩
/-- a < b < c -/
def eChain (r r' : R22) (ta tb tc : TE2) : TE2 := fun σ M Q E => ta σ M (fun d M1 => tb σ M1 (fun e M2 => r d e M2 fun z M3 => ∃ k, z = .bl k ∧ (if k = true then tc σ M3 (fun f M4 => r' e f M4 Q) E else Q (.bl false) M3)) E) E
theorem chain_low {K : PySem.W.Frag} {r r' : R22} {σ : L2.St} {H : Hp} {Q : VK} (h : lfE K W (eChain r r' ta tb tc) σ H Q) : tChain (lfR K r) (lfR K r') (lfE K W ta) (lfE K W tb) (lfE K W tc) σ H Q := by
  obtain ⟨σ', M, Q', E', hs, hm, q, hq, hx⟩ := h
  refine ⟨σ', M, _, E', hs, hm, q, fun d M1 x H1 t1 r1 s1 q1 => ⟨σ', M1, _, E', hs.mono t1, s1, q1, fun e M2 y H2 t2 r2 s2 q2 =>
    ⟨d, e, M2, _, r1.mono t2, r2, s2, q2, fun z M3 v H3 t3 r3 s3 ⟨k, ek, q3⟩ => ?_⟩, hx.mono t1⟩, hx⟩
  subst ek
  refine ⟨k, r3, ?_⟩
  cases k with
  | true =>
    have q3' : tc σ' M3 (fun f M4 => r' e f M4 Q') E' := q3
    exact ⟨σ', M3, _, E', hs.mono ((t1.trans t2).trans t3), s3, q3', fun f M4 z H4 t4 r4 s4 q4 => ⟨e, f, M4, Q', (r2.mono t3).mono t4, r4, s4, q4, hq.mono (((t1.trans t2).trans t3).trans t4)⟩, hx.mono ((t1.trans t2).trans t3)⟩
  | false => exact hq (.bl false) M3 (.bl false) H3 ((t1.trans t2).trans t3) rfl s3 q3
theorem qe_chain {op op' : CmpOp} {r r' : R22} (ho : OpR X (compareOp op) (lfR X.K r)) (ho' : OpR X (compareOp op') (lfR X.K r')) (ha : QE X W a ta) (hb : QE X W b tb) (hc : QE X W c tc)
    (h1 : PE X (.Compare a [op, op'] [b, c] pos) (tChain (lfR X.K r) (lfR X.K r') (lfE X.K W ta) (lfE X.K W tb) (lfE X.K W tc)) := by exact pe_chain (by assumption) (by assumption) (by assumption) (by assumption) (by assumption)) :
    QE X W (.Compare a [op, op'] [b, c] pos) (eChain r r' ta tb tc) := pe_weak h1 fun _ _ _ h => chain_low h
theorem qt_chain {op op' : CmpOp} {r r' : R22} (ho : OpR X (compareOp op) (lfR X.K r)) (ho' : OpR X (compareOp op') (lfR X.K r')) (ha : QE X W a ta) (hb : QE X W b tb) (hc : QE X W c tc)
    (h1 : PT X (.Compare a [op, op'] [b, c] pos) (tTest (tChain (lfR X.K r) (lfR X.K r') (lfE X.K W ta) (lfE X.K W tb) (lfE X.K W tc))) := by exact pt_chain (by assumption) (by assumption) (by assumption) (by assumption) (by assumption)) :
    QT X W (.Compare a [op, op'] [b, c] pos) (tCm (eChain r r' ta tb tc)) :=
  pt_weak h1 fun σ H Q ⟨σ', M, Q', E', hs, hm, q, hq, hx⟩ => chain_low ⟨σ', M, _, E', hs, hm, q, cm_link hq, hx⟩
def lfU (K : PySem.W.Frag) (r : Tr → Ms → Q2 → Prop) : V → Hp → VK → Prop := fun x H Q => ∃ d M Q', Rep K H d x ∧ SimM K H M ∧ r d M Q' ∧ LkQ K H Q' Q
def eUn (r : Tr → Ms → Q2 → Prop) (ta : TE2) : TE2 := fun σ M Q E => ta σ M (fun d M1 => r d M1 Q) E
theorem qe_un {op : UnaryOp} {r : Tr → Ms → Q2 → Prop} (ho : UnR X (unaryOp op) (lfU X.K r)) (ha : QE X W a ta) : QE X W (.UnaryOp op a pos) (eUn r ta) :=
  pe_weak (pe_un ho ha) fun σ H Q ⟨σ', M, Q', E', hs, hm, q, hq, hx⟩ => ⟨σ', M, _, E', hs, hm, q, fun d M1 x H1 t1 r1 s1 q1 => ⟨d, M1, Q', r1, s1, q1, hq.mono t1⟩, hx⟩

/-! ### truth, and, or, not, if .. else -/
def truT : Tr → Ms → Option Bool
  | .non, _ => some false
  | .bl b, _ => some b
  | .int i, _ => some (i != 0)
  | .str x, _ => if x.length ≤ sizeLine then some ((x.length : Int) != 0) else none
  | .tup ds, _ => some (!ds.isEmpty)
  | .fro ds, _ => some (!ds.isEmpty)
  | .loc a, M => match M a with
    | some (.lst ds) => some (!ds.isEmpty)
    | some (.dic kvs) => some (!kvs.isEmpty)
    | _ => none
  | .ty _, _ => none
theorem RepL.emp {K : PySem.W.Frag} {H : Hp} {ds : List Tr} {xs : List V} (h : RepL K H ds xs) : (!ds.isEmpty) = !xs.isEmpty := by
  have := h.len
  cases ds <;> cases xs <;> simp at this ⊢
theorem truT_ok {K : PySem.W.Frag} {H : Hp} {M : Ms} {d : Tr} {x : V} {k : Bool} (h : truT d M = some k) (r : Rep K H d x) (s : SimM K H M) : TruV K x H k := by
  cases d with
  | non => cases r; cases h; exact rfl
  | bl b => cases r; cases h; exact rfl
  | int i => cases r; cases h; exact rfl
  | str z =>
    cases r
    have h' : (if z.length ≤ sizeLine then some ((z.length : Int) != 0) else none) = some k := h
    split at h'
    · cases h'; exact ⟨by assumption, rfl⟩
    · cases h'
  | tup ds =>
    obtain ⟨a, xs, rfl, q, rl⟩ := r
    cases h
    exact .inr (.inl ⟨xs, q, rl.emp⟩)
  | fro ds =>
    obtain ⟨a, xs, rfl, q, rl⟩ := r
    cases h
    exact .inl ⟨xs, q.sq, rl.emp⟩
  | loc a =>
    cases r
    have h' : (match M a with | some (.lst ds) => some (!ds.isEmpty) | some (.dic kvs) => some (!kvs.isEmpty) | _ => none) = some k := h
    split at h'
    · rename_i ds e
      cases h'
      obtain ⟨xs, q, rl⟩ := s a _ e
      exact .inl ⟨xs, SqL.of q, rl.emp⟩
    · rename_i kvs e
      cases h'
      obtain ⟨xs, q, _, rl⟩ := s a _ e
      refine .inr (.inr ⟨xs, q, ?_⟩)
      have := rl.emp
      simpa [List.isEmpty_map] using this
    · cases h'
  | ty n => cases h
def tTr (t : TE2) : TT2 := fun σ M Q E => t σ M (fun d M1 => ∃ k, truT d M1 = some k ∧ Q k M1) E
theorem qt_tru (ha : QE X W a ta) (he : ∀ whole, isTrue a X.env whole = (do let v ← whole; standAt a.pos; holding [v] (truthy v)) := by intro _; rfl) : QT X W a (tTr ta) :=
  pt_weak (pt_truth ha he) fun σ H Q ⟨σ', M, Q', E', hs, hm, q, hq, hx⟩ => ⟨σ', M, _, E', hs, hm, q, fun d M1 x H1 t1 r1 s1 ⟨k, e, q1⟩ => ⟨k, truT_ok e r1 s1, hq k M1 H1 t1 s1 q1⟩, hx⟩
def tAn (t u : TT2) : TT2 := fun σ M Q E => t σ M (fun c M1 => if c = true then u σ M1 Q E else Q false M1) E
def tOrr (t u : TT2) : TT2 := fun σ M Q E => t σ M (fun c M1 => if c = true then Q true M1 else u σ M1 Q E) E
def tNo (t : TT2) : TT2 := fun σ M Q E => t σ M (fun c M1 => Q (!c) M1) E
variable {tA tB : TT2} {rest : List Expr}
theorem qw_and1 (ha : QT X W a tA) : QW X W (.BoolOp .And [a] pos) tA := pw_and1 ha
theorem qw_or1 (ha : QT X W a tA) : QW X W (.BoolOp .Or [a] pos) tA := pw_or1 ha
theorem qw_and (ha : QT X W a tA) (hb : QW X W (.BoolOp .And (b :: rest) pos) tB) : QW X W (.BoolOp .And (a :: b :: rest) pos) (tAn tA tB) :=
  pw_weak (pw_and ha hb) fun σ H Q ⟨σ', M, Q', E', hs, hm, q, hq, hx⟩ => ⟨σ', M, _, E', hs, hm, q, fun c M1 H1 t1 s1 q1 => by
    cases c with
    | true => exact ⟨σ', M1, Q', E', hs.mono t1, s1, q1, hq.mono t1, hx.mono t1⟩
    | false => exact hq false M1 H1 t1 s1 q1, hx⟩
theorem qw_or (ha : QT X W a tA) (hb : QW X W (.BoolOp .Or (b :: rest) pos) tB) : QW X W (.BoolOp .Or (a :: b :: rest) pos) (tOrr tA tB) :=
  pw_weak (pw_or ha hb) fun σ H Q ⟨σ', M, Q', E', hs, hm, q, hq, hx⟩ => ⟨σ', M, _, E', hs, hm, q, fun c M1 H1 t1 s1 q1 => by
    cases c with
    | true => exact hq true M1 H1 t1 s1 q1
    | false => exact ⟨σ', M1, Q', E', hs.mono t1, s1, q1, hq.mono t1, hx.mono t1⟩, hx⟩
theorem qt_not (ha : QT X W a tA) : QT X W (.UnaryOp .Not a pos) (tNo tA) :=
  pt_weak (pt_not ha) fun σ H Q ⟨σ', M, Q', E', hs, hm, q, hq, hx⟩ => ⟨σ', M, _, E', hs, hm, q, fun c M1 H1 t1 s1 q1 => hq _ M1 H1 t1 s1 q1, hx⟩
theorem QW.pt (h : QW X W a tA) : QT X W a tA := PW.pt h
/-- as values -/
def eAn (ta tb : TE2) : TE2 := fun σ M Q E => ta σ M (fun d M1 => ∃ k, truT d M1 = some k ∧ if k = true then tb σ M1 Q E else Q d M1) E
def eOrr (ta tb : TE2) : TE2 := fun σ M Q E => ta σ M (fun d M1 => ∃ k, truT d M1 = some k ∧ if k = true then Q d M1 else tb σ M1 Q E) E
def eNo (ta : TE2) : TE2 := fun σ M Q E => ta σ M (fun d M1 => ∃ k, truT d M1 = some k ∧ Q (.bl (!k)) M1) E
theorem qe_one {op} (h : QE X W a ta) : QE X W (.BoolOp op [a] pos) ta := pe_one h
theorem qe_and (ha : QE X W a ta) (hb : QE X W (.BoolOp .And (b :: rest) pos) tb) : QE X W (.BoolOp .And (a :: b :: rest) pos) (eAn ta tb) :=
  pe_weak (pe_andT ha hb) fun σ H Q ⟨σ', M, Q', E', hs, hm, q, hq, hx⟩ => ⟨σ', M, _, E', hs, hm, q, fun d M1 x H1 t1 r1 s1 ⟨k, e, q1⟩ => ⟨k, truT_ok e r1 s1, by
    cases k with
    | true => exact ⟨σ', M1, Q', E', hs.mono t1, s1, q1, hq.mono t1, hx.mono t1⟩
    | false => exact hq d M1 x H1 t1 r1 s1 q1⟩, hx⟩
theorem qe_or (ha : QE X W a ta) (hb : QE X W (.BoolOp .Or (b :: rest) pos) tb) : QE X W (.BoolOp .Or (a :: b :: rest) pos) (eOrr ta tb) :=
  pe_weak (pe_orT ha hb) fun σ H Q ⟨σ', M, Q', E', hs, hm, q, hq, hx⟩ => ⟨σ', M, _, E', hs, hm, q, fun d M1 x H1 t1 r1 s1 ⟨k, e, q1⟩ => ⟨k, truT_ok e r1 s1, by
    cases k with
    | true => exact hq d M1 x H1 t1 r1 s1 q1
    | false => exact ⟨σ', M1, Q', E', hs.mono t1, s1, q1, hq.mono t1, hx.mono t1⟩⟩, hx⟩
theorem qe_not (ha : QE X W a ta) : QE X W (.UnaryOp .Not a pos) (eNo ta) :=
  pe_weak (pe_notT ha) fun σ H Q ⟨σ', M, Q', E', hs, hm, q, hq, hx⟩ => ⟨σ', M, _, E', hs, hm, q, fun d M1 x H1 t1 r1 s1 ⟨k, e, q1⟩ => ⟨k, truT_ok e r1 s1, hq (.bl _) M1 _ H1 t1 rfl s1 q1⟩, hx⟩
def eIf (t : TT2) (ta tb : TE2) : TE2 := fun σ M Q E => t σ M (fun c M1 => if c = true then ta σ M1 Q E else tb σ M1 Q E) E
theorem qe_if (hc : QT X W c tA) (ha : QE X W a ta) (hb : QE X W b tb) : QE X W (.IfExp c a b pos) (eIf tA ta tb) :=
  pe_weak (pe_ifExp hc ha hb) fun σ H Q ⟨σ', M, Q', E', hs, hm, q, hq, hx⟩ => ⟨σ', M, _, E', hs, hm, q, fun c M1 H1 t1 s1 q1 => by
    cases c with
    | true => exact ⟨σ', M1, Q', E', hs.mono t1, s1, q1, hq.mono t1, hx.mono t1⟩
    | false => exact ⟨σ', M1, Q', E', hs.mono t1, s1, q1, hq.mono t1, hx.mono t1⟩, hx⟩

/-! ### argument lists, displays -/
def aNil : TA2 := fun _ M Q _ => Q [] M
def aCons (ta : TE2) (tr : TA2) : TA2 := fun σ M Q E => ta σ M (fun d M1 => tr σ M1 (fun ds M2 => Q (d :: ds) M2) E) E
theorem qa_nil : QA X W [] aNil := pa_weak pa_nil fun σ H Q ⟨σ', M, Q', E', hs, hm, q, hq, hx⟩ => hq [] M [] H Tx.refl RepL.nil hm q
theorem qa_cons (ha : QE X W e ta) (hr : QA X W es t) (hs : starEach (e :: es) X.env = (false, eval e X.env) :: starEach es X.env := by rfl) : QA X W (e :: es) (aCons ta t) :=
  pa_weak (pa_cons ha hr hs) fun σ H Q ⟨σ', M, Q', E', hs, hm, q, hq, hx⟩ => ⟨σ', M, _, E', hs, hm, q, fun d M1 x H1 t1 r1 s1 q1 => ⟨σ', M1, _, E', hs.mono t1, s1, q1, fun ds M2 xs H2 t2 r2 s2 q2 =>
    hq (d :: ds) M2 (x :: xs) H2 (t1.trans t2) (.cons (r1.mono t2) r2) s2 q2, hx.mono t1⟩, hx⟩
def eTup (t : TA2) : TE2 := fun σ M Q E => t σ M (fun ds M1 => ds.length ≤ sizeLine ∧ Q (.tup ds) M1) E
def eLst (t : TA2) : TE2 := fun σ M Q E => t σ M (fun ds M1 => ds.length ≤ sizeLine ∧ ∀ p, M1 p = none → Q (.loc p) (up M1 p (.lst ds))) E
/-- a new tuple -/
theorem new_tup {K : PySem.W.Frag} {H : Hp} {M : Ms} {Q' : Q2} {Q : VK} {ds : List Tr} {xs : List V} {p : Addr} (hq : LkQ K H Q' Q) (r : RepL K H ds xs) (s : SimM K H M) (hp : H p = none) (q : Q' (.tup ds) M) : Q (.ref p) (upd H p (.tup xs)) :=
  hq (.tup ds) M (.ref p) _ (Tx.new hp) ⟨p, xs, rfl, SqT.of upd_same, r.mono (Tx.new hp)⟩ (s.hid hp) q
theorem new_lst {K : PySem.W.Frag} {H : Hp} {M : Ms} {Q' : Q2} {Q : VK} {ds : List Tr} {xs : List V} {p : Addr} (hq : LkQ K H Q' Q) (r : RepL K H ds xs) (s : SimM K H M) (hp : H p = none) (q : ∀ p, M p = none → Q' (.loc p) (up M p (.lst ds))) : Q (.ref p) (upd H p (.lst xs)) :=
  hq (.loc p) _ (.ref p) _ (Tx.new hp) rfl (s.newL hp r) (q p (s.free hp))
theorem qe_tup {x1} (h : QA X W es t) : QE X W (.Tuple es x1 pos) (eTup t) :=
  pe_weak (pe_tup h) fun σ H Q ⟨σ', M, Q', E', hs, hm, q, hq, hx⟩ => ⟨σ', M, _, E', hs, hm, q, fun ds M1 xs H1 t1 r1 s1 ⟨z, q1⟩ => ⟨by rw [← r1.len]; exact z, fun p hp => new_tup (hq.mono t1) r1 s1 hp q1⟩, hx⟩
theorem qe_lst (h : QA X W es t) : QE X W (.List es pos) (eLst t) :=
  pe_weak (pe_lst h) fun σ H Q ⟨σ', M, Q', E', hs, hm, q, hq, hx⟩ => ⟨σ', M, _, E', hs, hm, q, fun ds M1 xs H1 t1 r1 s1 ⟨z, q1⟩ => ⟨by rw [← r1.len]; exact z, fun p hp => new_lst (hq.mono t1) r1 s1 hp q1⟩, hx⟩

/-! ### subscripts, slices -/
def seqT : Tr → Ms → Option (List Tr)
  | .tup ds, _ => some ds
  | .fro ds, _ => some ds
  | .loc a, M => match M a with
    | some (.lst ds) => some ds
    | _ => none
  | _, _ => none
theorem seqT_loc {M : Ms} {a : Addr} {ds : List Tr} (h : seqT (.loc a) M = some ds) : M a = some (.lst ds) := by
  have h' : (match M a with | some (.lst ds) => some ds | _ => none) = some ds := h
  split at h'
  · rename_i es e
    cases h'
    exact e
  · cases h'
theorem seqT_ok {K : PySem.W.Frag} {H : Hp} {M : Ms} {d : Tr} {x : V} {ds : List Tr} (h : seqT d M = some ds) (r : Rep K H d x) (s : SimM K H M) : ∃ a xs, x = .ref a ∧ (SqL K H a xs ∨ SqT K H a xs) ∧ RepL K H ds xs := by
  cases d with
  | tup es =>
    obtain ⟨a, xs, rfl, q, rl⟩ := r
    cases h
    exact ⟨a, xs, rfl, .inr q, rl⟩
  | fro es =>
    obtain ⟨a, xs, rfl, q, rl⟩ := r
    cases h
    exact ⟨a, xs, rfl, .inl q.sq, rl⟩
  | loc a =>
    cases r
    obtain ⟨xs, q, rl⟩ := s a _ (seqT_loc h)
    exact ⟨a, xs, rfl, .inl (SqL.of q), rl⟩
  | _ => cases h
theorem atI_rep {K : PySem.W.Frag} {H : Hp} {ds : List Tr} {xs : List V} {i : Int} {d : Tr} (r : RepL K H ds xs) (h : atI ds i = some d) : ∃ x, atI xs i = some x ∧ Rep K H d x := by
  unfold atI at h ⊢
  rw [← r.len]
  cases q : ixN ds.length i with
  | none => rw [q] at h; cases h
  | some j =>
    rw [q] at h
    exact r.get h
/-- x[i] -/
def rIx2 : R22 := fun d e M Q => match d, e with
  | .str z, .int i => z.length ≤ sizeLine ∧ ∃ c, atI z.cps.toList i = some c ∧ Q (.str ⟨#[c]⟩) M
  | d, .int i => ∃ ds f, seqT d M = some ds ∧ atI ds i = some f ∧ Q f M
  | _, _ => False
theorem ix2 : IxR X (lfR X.K rIx2) := by
  intro value slice pins s σ H x y v u Q I rx ry h hsub
  obtain ⟨d, e, M, Q', rd, re, sm, h, hq⟩ := h
  cases e with
  | int i =>
    cases re
    have go : (∃ ds f, seqT d M = some ds ∧ atI ds i = some f ∧ Q' f M) → rIx X.K x (.int i) H Q := fun ⟨ds, f, e1, e2, q⟩ => by
      obtain ⟨a, xs, rfl, sq, rl⟩ := seqT_ok e1 rd sm
      obtain ⟨z, e3, rz⟩ := atI_rep rl e2
      rcases sq with sq | sq
      · exact .inl ⟨a, xs, i, z, rfl, rfl, sq, e3, hq f M z H Tx.refl rz sm q⟩
      · exact .inr (.inl ⟨a, xs, i, z, rfl, rfl, sq, e3, hq f M z H Tx.refl rz sm q⟩)
    refine ix_seq value slice pins s σ H x _ v u Q I rx ry ?_ hsub
    cases d with
    | str z =>
      cases rd
      obtain ⟨hz, c, e1, q⟩ := h
      exact .inr (.inr ⟨z, i, c, rfl, rfl, hz, e1, hq (.str _) M _ H Tx.refl rfl sm q⟩)
    | _ => exact go h
  | _ => cases d <;> exact h.elim
theorem qe_ix (ha : QE X W a ta) (hb : QE X W b tb) (hs : PlainIx b := by exact fun _ _ => rfl) : QE X W (.Subscript a b pos) (eOp rIx2 ta tb) :=
  pe_weak (pe_ix ix2 ha hb hs) fun _ _ _ h => op_low h
/-! slices -/
abbrev TO2 := St2 → Ms → (Option Int → Ms → Prop) → X2 → Prop
def LkO (K : PySem.W.Frag) (H : Hp) (Q' : Option Int → Ms → Prop) (Q : Option Int → Hp → Prop) : Prop := ∀ b M H', Tx K H H' → SimM K H' M → Q' b M → Q b H'
def lfO (K : PySem.W.Frag) (W : L2.WX) (t : TO2) : TO := fun σ H Q => ∃ σ' M Q' E', SimS K H σ' σ ∧ SimM K H M ∧ t σ' M Q' E' ∧ LkO K H Q' Q ∧ LkX K H E' W σ
abbrev QO (X : Cx) (W : L2.WX) (e : Option Expr) (t : TO2) : Prop := PO X e (lfO X.K W t)
def oNo : TO2 := fun _ M Q _ => Q none M
def oPart (t : TE2) : TO2 := fun σ M Q E => t σ M (fun d M1 => ∃ i, d = .int i ∧ Q (some i) M1) E
theorem po_weak {e : Option Expr} {t t' : TO} (h : PO X e t) (w : ∀ σ H Q, t' σ H Q → t σ H Q) : PO X e t' := ⟨fun s pins σ H Q I q => h.run s pins σ H Q I (w σ H Q q)⟩
theorem qo_none : QO X W none oNo := po_weak po_none fun σ H Q ⟨σ', M, Q', E', hs, hm, q, hq, hx⟩ => hq none M H Tx.refl hm q
theorem qo_some (h : QE X W e ta) : QO X W (some e) (oPart ta) := po_weak (po_some h) fun σ H Q ⟨σ', M, Q', E', hs, hm, q, hq, hx⟩ =>
  ⟨σ', M, _, E', hs, hm, q, fun d M1 x H1 t1 r1 s1 ⟨i, e, q1⟩ => by subst e; exact ⟨i, r1, hq (some i) M1 H1 t1 s1 q1⟩, hx⟩
def cutT (ds : List Tr) (lo hi : Option Int) : List Tr := (ds.drop (HT.sIx ds.length 0 lo)).take (HT.sIx ds.length ds.length hi - HT.sIx ds.length 0 lo)
def rSl2 : Tr → Option Int → Option Int → Ms → Q2 → Prop := fun d lo hi M Q => match d with
  | .tup ds => Q (.tup (cutT ds lo hi)) M
  | .str z => z.length ≤ sizeLine ∧ Q (.str (cutS z lo hi)) M
  | d => ∃ ds, seqT d M = some ds ∧ ∀ p, M p = none → Q (.loc p) (up M p (.lst (cutT ds lo hi)))
theorem cut_all {xs : List Tr} {lo hi : Option Int} (h : HT.sIx xs.length 0 lo = 0 ∧ HT.sIx xs.length xs.length hi = xs.length) : cutT xs lo hi = xs := by
  unfold cutT
  rw [h.1, h.2]
  simp
def lfSl (K : PySem.W.Frag) (r : Tr → Option Int → Option Int → Ms → Q2 → Prop) : V → Option Int → Option Int → Hp → VK → Prop := fun x lo hi H Q => ∃ d M Q', Rep K H d x ∧ SimM K H M ∧ r d lo hi M Q' ∧ LkQ K H Q' Q
theorem sl2 : SlR X (lfSl X.K rSl2) := by
  intro pins s σ H x v vl vu lo hi sl Q I rx hs pl pu h
  obtain ⟨d, M, Q', rd, sm, h, hq⟩ := h
  have golist : (∃ ds, seqT d M = some ds ∧ ∀ p, M p = none → Q' (.loc p) (up M p (.lst (cutT ds lo hi)))) → (∀ es, d ≠ .tup es) → ∃ a xs, x = .ref a ∧ SqL X.K H a xs ∧ ∀ p, H p = none → Q (.ref p) (upd H p (.lst (cutV xs lo hi))) := fun ⟨ds, e1, q⟩ nt => by
    have go2 : ∀ a xs, x = .ref a → SqL X.K H a xs → RepL X.K H ds xs → ∃ a xs, x = .ref a ∧ SqL X.K H a xs ∧ ∀ p, H p = none → Q (.ref p) (upd H p (.lst (cutV xs lo hi))) := fun a xs ex sq rl => ⟨a, xs, ex, sq, fun p hp => new_lst hq (rl.cut lo hi) sm hp q⟩
    cases d with
    | tup es => exact absurd rfl (nt es)
    | fro es =>
      obtain ⟨a, xs, ex, q, rl⟩ := rd
      cases e1
      exact go2 a xs ex q.sq rl
    | loc a =>
      cases rd
      obtain ⟨xs, q, rl⟩ := sm a _ (seqT_loc e1)
      exact go2 a xs rfl (SqL.of q) rl
    | _ => cases e1
  cases d with
  | tup ds =>
    obtain ⟨a, xs, rfl, q, rl⟩ := rd
    refine sl_tupA pins s σ H _ v vl vu lo hi sl Q I rx hs pl pu ⟨a, xs, rfl, q, fun c => ?_, fun _ p hp => new_tup hq (rl.cut lo hi) sm hp h⟩
    refine hq (.tup (cutT ds lo hi)) M (.ref a) H Tx.refl ⟨a, xs, rfl, q, ?_⟩ sm h
    rw [cut_all (by rw [rl.len]; exact c)]
    exact rl
  | str z =>
    cases rd
    exact sl_str pins s σ H _ v vl vu lo hi sl Q I rx hs pl pu ⟨z, rfl, h.1, hq (.str _) M _ H Tx.refl rfl sm h.2⟩
  | fro ds => exact sl_list pins s σ H _ v vl vu lo hi sl Q I rx hs pl pu (golist h fun _ e => nomatch e)
  | loc a => exact sl_list pins s σ H _ v vl vu lo hi sl Q I rx hs pl pu (golist h fun _ e => nomatch e)
  | _ => obtain ⟨_, e, _⟩ := h; cases e
def eSl (r : Tr → Option Int → Option Int → Ms → Q2 → Prop) (ta : TE2) (tl th : TO2) : TE2 := fun σ M Q E => ta σ M (fun d M1 => tl σ M1 (fun lo M2 => th σ M2 (fun hi M3 => r d lo hi M3 Q) E) E) E
theorem qe_slice {lo hi : Option Expr} {tl th : TO2} {p2 : Pos} (he : QE X W e ta) (hl : QO X W lo tl) (hu : QO X W hi th) : QE X W (.Subscript e (.Slice lo hi none p2) pos) (eSl rSl2 ta tl th) :=
  pe_weak (pe_slice sl2 he hl hu) fun σ H Q ⟨σ', M, Q', E', hs, hm, q, hq, hx⟩ => ⟨σ', M, _, E', hs, hm, q, fun d M1 x H1 t1 r1 s1 q1 => ⟨σ', M1, _, E', hs.mono t1, s1, q1, fun l M2 H2 t2 s2 q2 =>
    ⟨σ', M2, _, E', hs.mono (t1.trans t2), s2, q2, fun u M3 H3 t3 s3 q3 => ⟨d, M3, Q', (r1.mono t2).mono t3, s3, q3, hq.mono ((t1.trans t2).trans t3)⟩, hx.mono (t1.trans t2)⟩, hx.mono t1⟩, hx⟩

/-! ### built-ins by name, methods of built-in types -/
abbrev RC2 := List Tr → Ms → Q2 → Prop
def lfC (K : PySem.W.Frag) (r : RC2) : List V → Hp → VK → Prop := fun xs H Q => ∃ ds M Q', RepL K H ds xs ∧ SimM K H M ∧ r ds M Q' ∧ LkQ K H Q' Q
def eB (r : RC2) (t : TA2) : TE2 := fun σ M Q E => t σ M (fun ds M1 => r ds M1 Q) E
variable {x : Str} {p : Pos} {id Ty : String} {r : RC2}
theorem b_low {K : PySem.W.Frag} {σ : L2.St} {H : Hp} {Q : VK} (h : lfE K W (eB r t) σ H Q) : tCB (lfC K r) (lfA K W t) σ H Q := by
  obtain ⟨σ', M, Q', E', hs, hm, q, hq, hx⟩ := h
  exact ⟨σ', M, _, E', hs, hm, q, fun ds M1 xs H1 t1 r1 s1 q1 => ⟨ds, M1, Q', r1, s1, q1, hq.mono t1⟩, hx⟩
theorem qe_callB (hc : CallR X (.builtin id) (lfC X.K r)) (hm : X.mg x = none) (hv : bootBuiltins x = some (.builtin id)) (ha : QA X W (e :: es) t) (hg : Gl X x := by rfl) (hn : x ≠ "__name__" := by decide) (hdb : (x == ("__debug__" : Str)) = false := by decide)
    (he : starEach (e :: es) X.env = (false, eval e X.env) :: starEach es X.env := by rfl) (hpl : (backTo pos (starEach es X.env)).any (·.1) = false := by rfl) : QE X W (.Call (.Name x p) (e :: es) [] pos) (eB r t) :=
  pe_weak (pe_callB hc hg hm hv ha hn hdb he hpl) fun _ _ _ h => b_low h
theorem qe_callTy (hc : CallR X (.type Ty) (lfC X.K r)) (hm : X.mg x = none) (hv : bootBuiltins x = some (.type Ty)) (ha : QA X W (e :: es) t) (hg : Gl X x := by rfl) (hn : x ≠ "__name__" := by decide) (hdb : (x == ("__debug__" : Str)) = false := by decide)
    (he : starEach (e :: es) X.env = (false, eval e X.env) :: starEach es X.env := by rfl) (hpl : (backTo pos (starEach es X.env)).any (·.1) = false := by rfl) : QE X W (.Call (.Name x p) (e :: es) [] pos) (eB r t) :=
  pe_weak (pe_callTy hc hg hm hv ha hn hdb he hpl) fun _ _ _ h => b_low h
/-- the type of a value, by its name -/
def isT (Ty : String) (d : Tr) (M : Ms) : Prop := match d with
  | .str _ => Ty = "str"
  | .int _ => Ty = "int"
  | .fro _ => Ty = "list"
  | .loc a => (Ty = "list" ∧ ∃ ds, M a = some (.lst ds)) ∨ (Ty = "dict" ∧ ∃ kvs, M a = some (.dic kvs))
  | _ => False
theorem isT_ok {K : PySem.W.Frag} {H : Hp} {M : Ms} {d : Tr} {x : V} (h : isT Ty d M) (r : Rep K H d x) (s : SimM K H M) : tyV K Ty x H := by
  cases d with
  | str z => cases r; exact h
  | int z => cases r; exact h
  | fro ds =>
    obtain ⟨a, xs, rfl, q, rl⟩ := r
    exact .inl ⟨h, xs, q.sq⟩
  | loc a =>
    cases r
    rcases h with ⟨e, ds, h⟩ | ⟨e, ds, h⟩
    · obtain ⟨xs, q, _⟩ := s a _ h
      exact .inl ⟨e, xs, SqL.of q⟩
    · obtain ⟨xs, q, _⟩ := s a _ h
      exact .inr (.inr (.inl ⟨e, .inl ⟨xs, q⟩⟩))
  | _ => exact h.elim
abbrev RM2 := Tr → List Tr → Ms → Q2 → Prop
def lfM (K : PySem.W.Frag) (r : RM2) : V → List V → Hp → VK → Prop := fun x xs H Q => ∃ d ds M Q', Rep K H d x ∧ RepL K H ds xs ∧ SimM K H M ∧ r d ds M Q' ∧ LkQ K H Q' Q
def eM0 (Ty : String) (r : RM2) (to : TE2) : TE2 := fun σ M Q E => to σ M (fun d M1 => isT Ty d M1 ∧ r d [] M1 Q) E
def eM (Ty : String) (r : RM2) (to : TE2) (t : TA2) : TE2 := fun σ M Q E => to σ M (fun d M1 => isT Ty d M1 ∧ t σ M1 (fun ds M2 => r d ds M2 Q) E) E
variable {o : Expr} {to : TE2} {name : Str} {rm : RM2}
theorem m0_low {K : PySem.W.Frag} {σ : L2.St} {H : Hp} {Q : VK} (h : lfE K W (eM0 Ty rm to) σ H Q) : tBM0 K Ty (lfM K rm) (lfE K W to) σ H Q := by
  obtain ⟨σ', M, Q', E', hs, hm, q, hq, hx⟩ := h
  exact ⟨σ', M, _, E', hs, hm, q, fun d M1 x H1 t1 r1 s1 ⟨ty, q1⟩ => ⟨isT_ok ty r1 s1, d, [], M1, Q', r1, RepL.nil, s1, q1, hq.mono t1⟩, hx⟩
theorem m_low {K : PySem.W.Frag} {σ : L2.St} {H : Hp} {Q : VK} (h : lfE K W (eM Ty rm to t) σ H Q) : tBM K Ty (lfM K rm) (lfE K W to) (lfA K W t) σ H Q := by
  obtain ⟨σ', M, Q', E', hs, hm, q, hq, hx⟩ := h
  exact ⟨σ', M, _, E', hs, hm, q, fun d M1 x H1 t1 r1 s1 ⟨ty, q1⟩ => ⟨isT_ok ty r1 s1, σ', M1, _, E', hs.mono t1, s1, q1, fun ds M2 xs H2 t2 r2 s2 q2 =>
    ⟨d, ds, M2, Q', r1.mono t2, r2, s2, q2, hq.mono (t1.trans t2)⟩, hx.mono t1⟩, hx⟩
end
end T

/-! T, third part: operators, built-ins, methods over trees. -/
namespace T
open PySem PySem.Spec L2
section
variable {X : Cx}
/-- two ints in, an int or a truth out -/
def rII (C : Int → Int → Prop) (g : Int → Int → Int) : R22 := fun d e M Q => match d, e with
  | .int i, .int j => C i j ∧ Q (.int (g i j)) M
  | _, _ => False
theorem opII {f : Value → Value → Sem Value} {C : Int → Int → Prop} {g : Int → Int → Int} (h : OpR X f (rI C fun i j => .int (g i j))) : OpR X f (lfR X.K (rII C g)) := by
  intro pins s σ H x y v u Q I rx ry ⟨d, e, M, Q', rd, re, sm, q, hq⟩
  cases d with
  | int i =>
    cases e with
    | int j =>
      cases rd; cases re
      exact h pins s σ H _ _ v u Q I rx ry ⟨i, j, rfl, rfl, q.1, hq (.int _) M _ H Tx.refl rfl sm q.2⟩
    | _ => exact q.elim
  | _ => cases e <;> exact q.elim
theorem rI0_rI {f : Value → Value → Sem Value} {g : Int → Int → V} (h : OpR X f (rI0 g)) : OpR X f (rI (fun _ _ => True) g) := fun pins s σ H x y v u Q I rx ry ⟨i, j, a, b, _, q⟩ => h pins s σ H x y v u Q I rx ry ⟨i, j, a, b, q⟩
abbrev rSub2 : R22 := rII (fun _ _ => True) (fun i j => i - j)
theorem o_sub : OpR X (binaryOp .Sub) (lfR X.K rSub2) := opII (rI0_rI op_sub)
def CDv (i j : Int) : Prop := 0 < j ∧ j.natAbs.log2 < 9000
abbrev rDiv2 : R22 := rII CDv (fun i j => i / j)
theorem o_fdiv : OpR X (binaryOp .FloorDiv) (lfR X.K rDiv2) := opII op_fdivW
abbrev rMod2 : R22 := rII (fun _ j => 0 < j) (fun i j => i % j)
theorem o_mod : OpR X (binaryOp .Mod) (lfR X.K rMod2) := opII op_mod
abbrev rPow2 : R22 := rII CPow (fun i j => i ^ j.toNat)
theorem o_pow : OpR X (binaryOp .Pow) (lfR X.K rPow2) := opII op_pow
abbrev rShl2 : R22 := rII CShl (fun i j => i * 2 ^ j.toNat)
theorem o_shl : OpR X (binaryOp .LShift) (lfR X.K rShl2) := opII op_shlW
abbrev rShr2 : R22 := rII (fun _ j => 0 ≤ j) (fun i j => i / 2 ^ j.toNat)
theorem o_shr : OpR X (binaryOp .RShift) (lfR X.K rShr2) := opII op_shr
abbrev rAnd2 : R22 := rII (fun _ _ => True) Builtin.bitAnd
theorem o_and : OpR X (binaryOp .BitAnd) (lfR X.K rAnd2) := opII (rI0_rI op_and)
abbrev rOr2 : R22 := rII (fun _ _ => True) Builtin.bitOr
theorem o_or : OpR X (binaryOp .BitOr) (lfR X.K rOr2) := opII (rI0_rI op_or)
abbrev rXor2 : R22 := rII (fun _ _ => True) Builtin.bitXor
theorem o_xor : OpR X (binaryOp .BitXor) (lfR X.K rXor2) := opII (rI0_rI op_xor)
/-- x + y -/
def rAdd2 : R22 := fun d e M Q => match d, e with
  | .int i, .int j => Q (.int (i + j)) M
  | .str a, .str b => a.length + b.length ≤ sizeLine ∧ Q (.str (a ++ b)) M
  | .tup a, .tup b => a.length + b.length ≤ sizeLine ∧ Q (.tup (a ++ b)) M
  | .loc a, .loc b => ∃ la lb, M a = some (.lst la) ∧ M b = some (.lst lb) ∧ la.length + lb.length ≤ sizeLine ∧ ∀ p, M p = none → Q (.loc p) (up M p (.lst (la ++ lb)))
  | _, _ => False
theorem o_add : OpR X (binaryOp .Add) (lfR X.K rAdd2) := by
  intro pins s σ H x y v u Q I rx ry ⟨d, e, M, Q', rd, re, sm, q, hq⟩
  cases d with
  | int i =>
    cases e with
    | int j =>
      cases rd; cases re
      exact op_add pins s σ H _ _ v u Q I rx ry ⟨i, j, rfl, rfl, hq (.int _) M _ H Tx.refl rfl sm q⟩
    | _ => exact q.elim
  | str i =>
    cases e with
    | str j =>
      cases rd; cases re
      exact op_add_str pins s σ H _ _ v u Q I rx ry ⟨i, j, rfl, rfl, q.1, hq (.str _) M _ H Tx.refl rfl sm q.2⟩
    | _ => exact q.elim
  | tup i =>
    cases e with
    | tup j =>
      obtain ⟨a, xs, rfl, ha, ra⟩ := rd
      obtain ⟨b, ys, rfl, hb, rb⟩ := re
      obtain ⟨z, q⟩ := q
      refine op_catA pins s σ H _ _ v u Q I rx ry ⟨a, b, xs, ys, rfl, rfl, ha, hb, by rw [← ra.len, ← rb.len]; exact z, fun e0 => ?_, fun _ e0 => ?_, fun _ _ p hp => new_tup hq (ra.app rb) sm hp q⟩
      · subst e0
        have e1 : i = [] := List.eq_nil_of_length_eq_zero ra.len
        subst e1
        exact hq (.tup j) M _ H Tx.refl ⟨b, ys, rfl, hb, rb⟩ sm q
      · subst e0
        have e1 : j = [] := List.eq_nil_of_length_eq_zero rb.len
        subst e1
        rw [List.append_nil] at q
        exact hq (.tup i) M _ H Tx.refl ⟨a, xs, rfl, ha, ra⟩ sm q
    | _ => exact q.elim
  | loc a =>
    cases e with
    | loc b =>
      cases rd; cases re
      obtain ⟨la, lb, ea, eb, z, q⟩ := q
      obtain ⟨xs, ha, ra⟩ := sm a _ ea
      obtain ⟨ys, hb, rb⟩ := sm b _ eb
      exact op_cat pins s σ H _ _ v u Q I rx ry ⟨a, b, xs, ys, rfl, rfl, ha, hb, by rw [← ra.len, ← rb.len]; exact z, fun p hp => new_lst hq (ra.app rb) sm hp q⟩
    | _ => exact q.elim
  | _ => cases e <;> exact q.elim
/-- x * y -/
def rMul2 : R22 := fun d e M Q => match d, e with
  | .int i, .int j => CMulX i j ∧ Q (.int (i * j)) M
  | .loc a, .int k => ∃ la, M a = some (.lst la) ∧ -(2 ^ 63) ≤ k ∧ k < 2 ^ 63 ∧ la.length * k.toNat ≤ sizeLine ∧ ∀ p, M p = none → Q (.loc p) (up M p (.lst (List.replicate k.toNat la).flatten))
  | _, _ => False
theorem o_mul : OpR X (binaryOp .Mult) (lfR X.K rMul2) := by
  intro pins s σ H x y v u Q I rx ry ⟨d, e, M, Q', rd, re, sm, q, hq⟩
  cases d with
  | int i =>
    cases e with
    | int j =>
      cases rd; cases re
      exact op_mulX pins s σ H _ _ v u Q I rx ry ⟨i, j, rfl, rfl, q.1, hq (.int _) M _ H Tx.refl rfl sm q.2⟩
    | _ => exact q.elim
  | loc a =>
    cases e with
    | int k =>
      cases rd; cases re
      obtain ⟨la, ea, h1, h2, z, q⟩ := q
      obtain ⟨xs, ha, ra⟩ := sm a _ ea
      exact op_rep pins s σ H _ _ v u Q I rx ry ⟨a, k, xs, rfl, rfl, ha, h1, h2, by rw [← ra.len]; exact z, fun p hp => new_lst hq (ra.rep _) sm hp q⟩
    | _ => exact q.elim
  | _ => cases e <;> exact q.elim
/-! comparisons -/
def rCmp2 (p : Int → Int → Bool) (ps : Str → Str → Bool) : R22 := fun d e M Q => match d, e with
  | .int i, .int j => Q (.bl (p i j)) M
  | .str a, .str b => Q (.bl (ps a b)) M
  | _, _ => False
theorem o_cmp {op : CmpOp} {p : Int → Int → Bool} {ps : Str → Str → Bool} (h : OpR X (compareOp op) (rI0 fun i j => .bl (p i j))) (h' : OpR X (compareOp op) (fun x y H Q => ∃ i j, x = .str i ∧ y = .str j ∧ Q (.bl (ps i j)) H)) : OpR X (compareOp op) (lfR X.K (rCmp2 p ps)) := by
  intro pins s σ H x y v u Q I rx ry ⟨d, e, M, Q', rd, re, sm, q, hq⟩
  cases d with
  | int i =>
    cases e with
    | int j =>
      cases rd; cases re
      exact h pins s σ H _ _ v u Q I rx ry ⟨i, j, rfl, rfl, hq (.bl _) M _ H Tx.refl rfl sm q⟩
    | _ => exact q.elim
  | str i =>
    cases e with
    | str j =>
      cases rd; cases re
      exact h' pins s σ H _ _ v u Q I rx ry ⟨i, j, rfl, rfl, hq (.bl _) M _ H Tx.refl rfl sm q⟩
    | _ => exact q.elim
  | _ => cases e <;> exact q.elim
def strLt (a b : Str) : Bool := decide (a.cps.toList < b.cps.toList)
def strLe (a b : Str) : Bool := decide (a.cps.toList ≤ b.cps.toList)
abbrev rLt2 : R22 := rCmp2 (fun i j => decide (i < j)) strLt
theorem o_lt : OpR X (compareOp .Lt) (lfR X.K rLt2) := o_cmp op_lt op_lt_str
abbrev rLe2 : R22 := rCmp2 (fun i j => decide (i ≤ j)) (fun i j => decide (i.cps.toList ≤ j.cps.toList))
abbrev rGt2 : R22 := rCmp2 (fun i j => decide (j < i)) (fun i j => decide (j.cps.toList < i.cps.toList))
abbrev rGe2 : R22 := rCmp2 (fun i j => decide (j ≤ i)) (fun i j => decide (j.cps.toList ≤ i.cps.toList))
end
/-! data -/
mutual
def Dat (M : Ms) : PyData → Tr → Prop
  | .none, d => d = .non
  | .bool b, d => d = .bl b
  | .int i, d => d = .int i
  | .str x, d => d = .str x
  | .list ps, d => ∃ ds, seqT d M = some ds ∧ (∀ es, d ≠ .tup es) ∧ DatL M ps ds
  | .tuple ps, d => ∃ ds, d = .tup ds ∧ DatL M ps ds
  | .dict _, _ => False
def DatL (M : Ms) : List PyData → List Tr → Prop
  | [], ds => ds = []
  | p :: ps, ds => ∃ d r, ds = d :: r ∧ Dat M p d ∧ DatL M ps r
end
mutual
theorem Dat.dp {K : PySem.W.Frag} {H : Hp} {M : Ms} (sm : SimM K H M) : ∀ {p : PyData} {d : Tr} {v : V}, Dat M p d → Rep K H d v → Dp K H v p
  | .none, _, _, h, r => by have e : _ = Tr.non := h; subst e; cases r; exact .non
  | .bool b, _, _, h, r => by have e : _ = Tr.bl b := h; subst e; cases r; exact .bl b
  | .int b, _, _, h, r => by have e : _ = Tr.int b := h; subst e; cases r; exact .int b
  | .str b, _, _, h, r => by have e : _ = Tr.str b := h; subst e; cases r; exact .str b
  | .list ps, d, v, h, r => by
    obtain ⟨ds, e, nt, h⟩ := h
    cases d with
    | tup es => exact absurd rfl (nt es)
    | fro es =>
      obtain ⟨a, xs, rfl, q, rl⟩ := r
      cases e
      exact .lst q.sq (DatL.dp sm h rl)
    | loc a =>
      cases r
      obtain ⟨xs, q, rl⟩ := sm a _ (seqT_loc e)
      exact .lst (SqL.of q) (DatL.dp sm h rl)
    | _ => cases e
  | .tuple ps, _, _, h, r => by
    obtain ⟨ds, e, h⟩ := h
    subst e
    obtain ⟨a, xs, rfl, q, rl⟩ := r
    exact .tup q (DatL.dp sm h rl)
  | .dict _, _, _, h, _ => False.elim h
theorem DatL.dp {K : PySem.W.Frag} {H : Hp} {M : Ms} (sm : SimM K H M) : ∀ {ps : List PyData} {ds : List Tr} {vs : List V}, DatL M ps ds → RepL K H ds vs → DpAll K H vs ps
  | [], _, _, h, r => by
    have e : _ = ([] : List Tr) := h
    subst e
    have e2 : _ = ([] : List V) := r
    subst e2
    exact .nil
  | p :: ps, _, _, h, r => by
    obtain ⟨d, r', e, h1, h2⟩ := h
    subst e
    obtain ⟨x, xs, e, r1, r2⟩ := r
    subst e
    exact .cons (Dat.dp sm h1 r1) (DatL.dp sm h2 r2)
end
mutual
/-- the data that a tree without places is -/
def toP : Tr → PyData
  | .non => .none
  | .bl b => .bool b
  | .int i => .int i
  | .str x => .str x
  | .tup ds => .tuple (toPs ds)
  | .fro ds => .list (toPs ds)
  | .loc _ => .none
  | .ty _ => .none
def toPs : List Tr → List PyData
  | [] => []
  | d :: r => toP d :: toPs r
end
mutual
def pureT : Tr → Bool
  | .tup ds => pureL ds
  | .fro ds => pureL ds
  | .loc _ => false
  | .ty _ => false
  | _ => true
def pureL : List Tr → Bool
  | [] => true
  | d :: r => pureT d && pureL r
end
mutual
theorem dat_pure {M : Ms} : ∀ {d : Tr}, pureT d = true → Dat M (toP d) d
  | .non, _ => rfl
  | .bl _, _ => rfl
  | .int _, _ => rfl
  | .str _, _ => rfl
  | .tup ds, h => ⟨ds, rfl, datL_pure h⟩
  | .fro ds, h => ⟨ds, rfl, (fun _ e => nomatch e), datL_pure h⟩
  | .loc _, h => nomatch h
  | .ty _, h => nomatch h
theorem datL_pure {M : Ms} : ∀ {ds : List Tr}, pureL ds = true → DatL M (toPs ds) ds
  | [], _ => rfl
  | d :: r, h => by
    have h' : (pureT d && pureL r) = true := h
    rw [Bool.and_eq_true] at h'
    exact ⟨d, r, rfl, dat_pure h'.1, datL_pure h'.2⟩
end
section
variable {X : Cx}
/-- x == y -/
def rEqG (f : Bool → Bool) : R22 := fun d e M Q => match d, e with
  | .int i, .int j => Q (.bl (f (decide (i = j)))) M
  | .str i, .str j => Q (.bl (f (decide (i = j)))) M
  | .bl i, .bl j => Q (.bl (f (decide (i = j)))) M
  | .non, .non => Q (.bl (f true)) M
  | .non, .int _ => Q (.bl (f false)) M
  | .int _, .non => Q (.bl (f false)) M
  | .non, .str _ => Q (.bl (f false)) M
  | .str _, .non => Q (.bl (f false)) M
  | .int _, .str _ => Q (.bl (f false)) M
  | .str _, .int _ => Q (.bl (f false)) M
  | d, e => ∃ p q, Dat M p d ∧ Dat M q e ∧ SeqAt.shaped p = true ∧ SeqAt.shaped q = true ∧ Q (.bl (f (PyData.eqv p q))) M
theorem o_eqG {op : CmpOp} {f : Bool → Bool} (h1 : OpR X (compareOp op) (fun x y H Q => scal x y = true ∧ Q (.bl (f (decide (x = y)))) H))
    (h2 : OpR X (compareOp op) (fun x y H Q => ∃ d e, Dp X.K H x d ∧ Dp X.K H y e ∧ SeqAt.shaped d = true ∧ SeqAt.shaped e = true ∧ Q (.bl (f (PyData.eqv d e))) H)) : OpR X (compareOp op) (lfR X.K (rEqG f)) := by
  intro pins s σ H x y v u Q I rx ry ⟨d, e, M, Q', rd, re, sm, q, hq⟩
  have sc : ∀ {k : Bool}, Q' (.bl (f k)) M → scal x y = true → decide (x = y) = k → wpAny (model X.prog X.w) X.A (compareOp op v u) (EP X pins σ Q) X.xe s := fun {k} q0 h0 e0 =>
    h1 pins s σ H x y v u Q I rx ry ⟨h0, by rw [e0]; exact hq (.bl _) M _ H Tx.refl rfl sm q0⟩
  have gen : (∃ p q, Dat M p d ∧ Dat M q e ∧ SeqAt.shaped p = true ∧ SeqAt.shaped q = true ∧ Q' (.bl (f (PyData.eqv p q))) M) → wpAny (model X.prog X.w) X.A (compareOp op v u) (EP X pins σ Q) X.xe s := fun ⟨p, q', hp, hq', s1, s2, q0⟩ =>
    h2 pins s σ H x y v u Q I rx ry ⟨p, q', hp.dp sm rd, hq'.dp sm re, s1, s2, hq (.bl _) M _ H Tx.refl rfl sm q0⟩
  cases d <;> cases e <;> first
    | exact gen q
    | (cases rd; cases re; exact sc q rfl (by simp))
theorem o_eq (hu : X.A.units + 64 < cLine) : OpR X (compareOp .Eq) (lfR X.K (rEqG id)) := o_eqG op_eq (op_eqD hu)
theorem o_ne (hu : X.A.units + 64 < cLine) : OpR X (compareOp .NotEq) (lfR X.K (rEqG not)) := o_eqG op_ne (op_neD hu)
def isNon : Tr → Bool
  | .non => true
  | _ => false
theorem isNon_ok {K : PySem.W.Frag} {H : Hp} {d : Tr} {x : V} (r : Rep K H d x) : decide (x = .non) = isNon d := by
  cases d with
  | tup ds => obtain ⟨a, xs, rfl, _⟩ := r; rfl
  | fro ds => obtain ⟨a, xs, rfl, _⟩ := r; rfl
  | _ => cases r; rfl
/-- x is y, for None and truths -/
def rIsG (f : Bool → Bool) : R22 := fun d e M Q => match e with
  | .non => Q (.bl (f (isNon d))) M
  | .bl b => ∃ a, d = .bl a ∧ Q (.bl (f (decide (a = b)))) M
  | _ => False
theorem o_isG {op : CmpOp} {f : Bool → Bool} (h1 : OpR X (compareOp op) (fun x y H Q => y = .non ∧ Q (.bl (f (decide (x = .non)))) H)) (h2 : OpR X (compareOp op) (fun x y H Q => ∃ a b : Bool, x = .bl a ∧ y = .bl b ∧ Q (.bl (f (decide (a = b)))) H)) : OpR X (compareOp op) (lfR X.K (rIsG f)) := by
  intro pins s σ H x y v u Q I rx ry ⟨d, e, M, Q', rd, re, sm, q, hq⟩
  cases e with
  | non =>
    cases re
    exact h1 pins s σ H _ _ v u Q I rx ry ⟨rfl, by rw [isNon_ok rd]; exact hq (.bl _) M _ H Tx.refl rfl sm q⟩
  | bl b =>
    cases re
    obtain ⟨a, rfl, q⟩ := q
    cases rd
    exact h2 pins s σ H _ _ v u Q I rx ry ⟨a, b, rfl, rfl, hq (.bl _) M _ H Tx.refl rfl sm q⟩
  | _ => exact q.elim
theorem o_is : OpR X (compareOp .Is) (lfR X.K (rIsG id)) := o_isG op_isN op_isBl
theorem o_isnot : OpR X (compareOp .IsNot) (lfR X.K (rIsG not)) := o_isG op_notN op_notBl
/-- the key that a tree is -/
def keyT : Tr → Option Key
  | .int i => some (.inl i)
  | .str x => some (.inr x)
  | _ => none
theorem keyT_ok {K : PySem.W.Frag} {H : Hp} {d : Tr} {k : Key} {x : V} (h : keyT d = some k) (r : Rep K H d x) : x = kV k := by
  cases d with
  | int i => cases r; cases h; rfl
  | str i => cases r; cases h; rfl
  | _ => cases h
def flatT : Tr → Bool
  | .non => true
  | .bl _ => true
  | .int _ => true
  | .str _ => true
  | _ => false
def eqT : Tr → Tr → Bool
  | .non, .non => true
  | .bl a, .bl b => a == b
  | .bl a, .int b => (if a then 1 else 0) == b
  | .int a, .bl b => a == (if b then 1 else 0)
  | .int a, .int b => a == b
  | .str a, .str b => a == b
  | _, _ => false
def inT (d : Tr) (ds : List Tr) : Bool := ds.any fun e => eqT e d
theorem flatT_ok {K : PySem.W.Frag} {H : Hp} {d : Tr} {x : V} (h : flatT d = true) (r : Rep K H d x) : flatV x = true := by
  cases d <;> first | (cases r; rfl) | (simp [flatT] at h; done)
theorem flatL_ok {K : PySem.W.Frag} {H : Hp} : ∀ {ds : List Tr} {xs : List V}, ds.all flatT = true → RepL K H ds xs → xs.all flatV = true
  | [], _, _, r => by
    have e : _ = ([] : List V) := r
    subst e; rfl
  | d :: ds, _, h, r => by
    obtain ⟨x, xs, rfl, r1, r2⟩ := r
    rw [List.all_cons, Bool.and_eq_true] at h ⊢
    exact ⟨flatT_ok h.1 r1, flatL_ok h.2 r2⟩
theorem eqT_ok {K : PySem.W.Frag} {H : Hp} {d e : Tr} {x y : V} (h : flatT d = true) (h' : flatT e = true) (r : Rep K H d x) (r' : Rep K H e y) : eqV x y = eqT d e := by
  cases d <;> first | (cases e <;> first | (cases r; cases r'; rfl) | (simp [flatT] at h'; done)) | (simp [flatT] at h; done)
theorem inT_ok {K : PySem.W.Frag} {H : Hp} {d : Tr} {x : V} (h : flatT d = true) (r : Rep K H d x) : ∀ {ds : List Tr} {xs : List V}, ds.all flatT = true → RepL K H ds xs → inV x xs = inT d ds
  | [], _, _, q => by
    have e : _ = ([] : List V) := q
    subst e; rfl
  | e :: ds, _, hh, q => by
    obtain ⟨y, ys, rfl, r1, r2⟩ := q
    rw [List.all_cons, Bool.and_eq_true] at hh
    have ih := inT_ok h r hh.2 r2
    unfold inV inT at ih ⊢
    rw [List.any_cons, List.any_cons, eqT_ok hh.1 h r1 r, ih]
def valT (kvs : List (Key × Tr)) (k : Key) : Option Tr := (kvs.find? fun kv => decide (kv.1 = k)).map (·.2)
theorem valT_ok {K : PySem.W.Frag} {H : Hp} {k : Key} : ∀ {kvs : List (Key × Tr)} {xs : List (Key × V)}, xs.map (·.1) = kvs.map (·.1) → RepL K H (kvs.map (·.2)) (xs.map (·.2)) →
    (valT kvs k = none → valV xs k = none) ∧ ∀ d, valT kvs k = some d → ∃ v, valV xs k = some v ∧ Rep K H d v
  | [], [], _, _ => ⟨fun _ => rfl, fun _ e => nomatch e⟩
  | [], _ :: _, e, _ => by simp at e
  | _ :: _, [], e, _ => by simp at e
  | (k1, d1) :: kvs, (k2, v2) :: xs, e, r => by
    obtain ⟨x, y, e0, r1, r2⟩ := r
    cases e0
    simp only [List.map_cons, List.cons.injEq] at e
    obtain ⟨e1, e2⟩ := e
    have e1 : k2 = k1 := e1
    subst e1
    have ih := valT_ok (k := k) e2 r2
    by_cases c : k2 = k
    · have a1 : valT ((k2, d1) :: kvs) k = some d1 := by simp [valT, List.find?_cons, c]
      have a2 : valV ((k2, v2) :: xs) k = some v2 := valV_pos (p := (k2, v2)) c
      rw [a1, a2]
      exact ⟨(fun z => nomatch z), fun d z => ⟨v2, rfl, by cases z; exact r1⟩⟩
    · have a1 : valT ((k2, d1) :: kvs) k = valT kvs k := by simp [valT, List.find?_cons, c]
      have a2 : valV ((k2, v2) :: xs) k = valV xs k := valV_neg (p := (k2, v2)) c
      rw [a1, a2]
      exact ih
def strIn (a b : Str) : Bool := !(Builtin.Str.occurrences b a 0 b.length 1).isEmpty
/-- x in y -/
def rInG (f : Bool → Bool) : R22 := fun d e M Q => match d, e with
  | .str a, .str b => Q (.bl (f (strIn a b))) M
  | d, e => (∃ ds, seqT e M = some ds ∧ flatT d = true ∧ ds.all flatT = true ∧ Q (.bl (f (inT d ds))) M) ∨ ∃ a kvs k, e = .loc a ∧ M a = some (.dic kvs) ∧ keyT d = some k ∧ Q (.bl (f (valT kvs k).isSome)) M
theorem o_inG {op : CmpOp} {f : Bool → Bool} (h1 : OpR X (compareOp op) (fun x y H Q => ∃ i j, x = .str i ∧ y = .str j ∧ Q (.bl (f (!(Builtin.Str.occurrences j i 0 j.length 1).isEmpty))) H))
    (h2 : OpR X (compareOp op) (fun x y H Q => ∃ p xs, y = .ref p ∧ (SqL X.K H p xs ∨ SqT X.K H p xs) ∧ flatV x = true ∧ xs.all flatV = true ∧ Q (.bl (f (inV x xs))) H))
    (h3 : ∀ (pins : List (Addr × Obj)) (s : Shared) (σ : L2.St) (H : Hp) (a : Addr) (y : V) (o : Option V) (u : Value) (Q : VK), Inv X pins σ H s → DGet H a y o → RelV y u → Q (.bl (f o.isSome)) H → wpAny (model X.prog X.w) X.A (compareOp op u (.ref a)) (EP X pins σ Q) X.xe s) :
    OpR X (compareOp op) (lfR X.K (rInG f)) := by
  intro pins s σ H x y v u Q I rx ry ⟨d, e, M, Q', rd, re, sm, q, hq⟩
  have gen : ((∃ ds, seqT e M = some ds ∧ flatT d = true ∧ ds.all flatT = true ∧ Q' (.bl (f (inT d ds))) M) ∨ ∃ a kvs k, e = .loc a ∧ M a = some (.dic kvs) ∧ keyT d = some k ∧ Q' (.bl (f (valT kvs k).isSome)) M) →
      wpAny (model X.prog X.w) X.A (compareOp op v u) (EP X pins σ Q) X.xe s := by
    rintro (⟨ds, e1, fd, fl, q⟩ | ⟨a, kvs, k, rfl, e1, ek, q⟩)
    · obtain ⟨a, xs, rfl, sq, rl⟩ := seqT_ok e1 re sm
      exact h2 pins s σ H _ _ v u Q I rx ry ⟨a, xs, rfl, sq, flatT_ok fd rd, flatL_ok fl rl, by rw [inT_ok fd rd fl rl]; exact hq (.bl _) M _ H Tx.refl rfl sm q⟩
    · cases re
      cases ry
      obtain ⟨xs, hx, ke, rl⟩ := sm a _ e1
      have ex := keyT_ok ek rd
      subst ex
      have vt := valT_ok (k := k) ke rl
      have es : (valV xs k).isSome = (valT kvs k).isSome := by
        cases z : valT kvs k with
        | none => rw [vt.1 z]; rfl
        | some d' =>
          obtain ⟨v', e', _⟩ := vt.2 d' z
          rw [e']; rfl
      exact h3 pins s σ H a _ _ v Q I (DGet.k hx) rx (by rw [es]; exact hq (.bl _) M _ H Tx.refl rfl sm q)
  cases d <;> cases e <;> first
    | exact gen q
    | (cases rd; cases re; exact h1 pins s σ H _ _ v u Q I rx ry ⟨_, _, rfl, rfl, hq (.bl _) M _ H Tx.refl rfl sm q⟩)
theorem o_in (hu : X.A.units + 1 < cLine) : OpR X (compareOp .In) (lfR X.K (rInG id)) := o_inG op_in_str (fun pins s σ H x y v u Q I rx ry ⟨p, xs, a, b, c, d, e⟩ => op_in_seq pins s σ H x y v u Q I rx ry ⟨p, xs, a, b, c, d, e⟩)
  fun pins s σ H a y o u Q I g r q => d_in hu I g r fun s' I' => ⟨.bl o.isSome, H, I', rfl, q⟩
theorem o_notin (hu : X.A.units + 1 < cLine) : OpR X (compareOp .NotIn) (lfR X.K (rInG not)) := o_inG op_notIn_str (fun pins s σ H x y v u Q I rx ry ⟨p, xs, a, b, c, d, e⟩ => op_notIn_seq pins s σ H x y v u Q I rx ry ⟨p, xs, a, b, c, d, e⟩)
  fun pins s σ H a y o u Q I g r q => d_notIn hu I g r fun s' I' => ⟨.bl (!o.isSome), H, I', rfl, q⟩
/-- -x -/
def rNeg2 : Tr → Ms → Q2 → Prop := fun d M Q => match d with
  | .int i => Q (.int (-i)) M
  | _ => False
theorem o_neg : UnR X (unaryOp .USub) (lfU X.K rNeg2) := by
  intro pins s σ H x v Q I rx ⟨d, M, Q', rd, sm, q, hq⟩
  cases d with
  | int i => cases rd; exact un_neg pins s σ H _ v Q I rx ⟨i, rfl, hq (.int _) M _ H Tx.refl rfl sm q⟩
  | _ => exact q.elim

/-! ### built-ins -/
def lenT : Tr → Ms → Option Nat
  | .str x, _ => if x.length ≤ sizeLine then some x.length else none
  | .loc a, M => match M a with
    | some (.lst ds) => some ds.length
    | some (.dic kvs) => some kvs.length
    | _ => none
  | d, M => (seqT d M).map List.length
def c1 (r : Tr → Ms → Q2 → Prop) : RC2 := fun ds M Q => match ds with
  | [d] => r d M Q
  | _ => False
theorem one_of {K : PySem.W.Frag} {H : Hp} {d : Tr} {xs : List V} (r : RepL K H [d] xs) : ∃ x, xs = [x] ∧ Rep K H d x := by
  obtain ⟨x, r, rfl, h, e⟩ := r
  have e' : r = [] := e
  subst e'
  exact ⟨x, rfl, h⟩
theorem two_of {K : PySem.W.Frag} {H : Hp} {d e : Tr} {xs : List V} (r : RepL K H [d, e] xs) : ∃ x y, xs = [x, y] ∧ Rep K H d x ∧ Rep K H e y := by
  obtain ⟨x, r, rfl, h, e⟩ := r
  obtain ⟨y, rfl, h'⟩ := one_of e
  exact ⟨x, y, rfl, h, h'⟩
theorem c1_of {f : Value} {r : Tr → Ms → Q2 → Prop} (h : ∀ (pins : List (Addr × Obj)) (s : Shared) (σ : L2.St) (H : Hp) (x : V) (u : Value) (Q : VK) (d : Tr) (M : Ms) (Q' : Q2), Inv X pins σ H s → RelV x u → Rep X.K H d x → SimM X.K H M → r d M Q' → LkQ X.K H Q' Q →
    wpAny (model X.prog X.w) X.A (call f [u]) (EP X pins σ Q) X.xe s) : CallR X f (lfC X.K (c1 r)) := by
  intro pins s σ H xs us Q I rv ⟨ds, M, Q', rd, sm, q, hq⟩
  match ds, q with
  | [d], q =>
    obtain ⟨x, rfl, r1⟩ := one_of rd
    obtain ⟨u, rfl, r2⟩ := vals1 rv
    exact h pins s σ H x u Q d M Q' I r2 r1 sm q hq
abbrev rLen2 : RC2 := c1 fun d M Q => ∃ n, lenT d M = some n ∧ Q (.int n) M
theorem lenT_ok {K : PySem.W.Frag} {H : Hp} {M : Ms} {d : Tr} {x : V} {n : Nat} (e : lenT d M = some n) (r : Rep K H d x) (sm : SimM K H M) : LenV K x H n ∨ ∃ p kvs, x = .ref p ∧ H p = some (.dK kvs) ∧ kvs.length = n := by
  cases d with
  | str z =>
    cases r
    have e' : (if z.length ≤ sizeLine then some z.length else none) = some n := e
    split at e'
    · cases e'; exact .inl ⟨by assumption, rfl⟩
    · cases e'
  | tup ds =>
    obtain ⟨a, xs, rfl, q, rl⟩ := r
    cases e
    exact .inl (.inr ⟨xs, q, rl.len⟩)
  | fro ds =>
    obtain ⟨a, xs, rfl, q, rl⟩ := r
    cases e
    exact .inl (.inl ⟨xs, q.sq, rl.len⟩)
  | loc a =>
    cases r
    have e' : (match M a with | some (.lst ds) => some ds.length | some (.dic kvs) => some kvs.length | _ => none) = some n := e
    split at e'
    · rename_i ds z
      cases e'
      obtain ⟨xs, q, rl⟩ := sm a _ z
      exact .inl (.inl ⟨xs, SqL.of q, rl.len⟩)
    · rename_i ds z
      cases e'
      obtain ⟨xs, q, _, rl⟩ := sm a _ z
      refine .inr ⟨a, xs, rfl, q, ?_⟩
      have := rl.len
      simpa using this.symm
    · cases e'
  | _ => cases e
theorem b_len : CallR X (.builtin "len") (lfC X.K rLen2) := c1_of fun pins s σ H x u Q d M Q' I rx rd sm ⟨n, e, q⟩ hq => by
  have fin : Q (.int n) H := hq (.int n) M _ H Tx.refl rfl sm q
  rcases lenT_ok e rd sm with h | ⟨p, kvs, rfl, h, hn⟩
  · exact call_len pins s σ H [x] [u] Q I (.cons rx .nil) ⟨x, n, rfl, h, fin⟩
  · cases rx
    subst hn
    exact d_len I (.inl h) fun t s' I' => ⟨.int kvs.length, H, I', ⟨t, rfl⟩, fin⟩
abbrev rTuple2 : RC2 := c1 fun d M Q => ∃ ds, seqT d M = some ds ∧ Q (.tup ds) M
theorem b_tuple : CallR X (.type "tuple") (lfC X.K rTuple2) := c1_of fun pins s σ H x u Q d M Q' I rx rd sm ⟨ds, e, q⟩ hq => by
  obtain ⟨a, xs, rfl, sq, rl⟩ := seqT_ok e rd sm
  refine call_tuple_of pins s σ H [.ref a] [u] Q I (.cons rx .nil) ⟨a, xs, rfl, ?_⟩
  rcases sq with sq | sq
  · exact .inl ⟨sq, fun l hl => new_tup hq rl sm hl q⟩
  · exact .inr ⟨sq, hq (.tup ds) M _ H Tx.refl ⟨a, xs, rfl, sq, rl⟩ sm q⟩
abbrev rList2 : RC2 := c1 fun d M Q => ∃ ds, seqT d M = some ds ∧ ∀ p, M p = none → Q (.loc p) (up M p (.lst ds))
theorem b_list : CallR X (.type "list") (lfC X.K rList2) := c1_of fun pins s σ H x u Q d M Q' I rx rd sm ⟨ds, e, q⟩ hq => by
  obtain ⟨a, xs, rfl, sq, rl⟩ := seqT_ok e rd sm
  exact call_list_of pins s σ H [.ref a] [u] Q I (.cons rx .nil) ⟨a, xs, rfl, sq, fun l hl => new_lst hq rl sm hl q⟩
abbrev rInt2 : RC2 := c1 fun d M Q => match d with
  | .int i => Q (.int i) M
  | .bl b => Q (.int (if b then 1 else 0)) M
  | _ => False
theorem b_int : CallR X (.type "int") (lfC X.K rInt2) := c1_of fun pins s σ H x u Q d M Q' I rx rd sm q hq => by
  cases d with
  | int i => cases rd; exact call_int1 pins s σ H _ [u] Q I (.cons rx .nil) (.inl ⟨i, rfl, hq (.int _) M _ H Tx.refl rfl sm q⟩)
  | bl i => cases rd; exact call_int1 pins s σ H _ [u] Q I (.cons rx .nil) (.inr ⟨i, rfl, hq (.int _) M _ H Tx.refl rfl sm q⟩)
  | _ => exact q.elim
abbrev rAbs2 : RC2 := c1 fun d M Q => match d with
  | .int i => Q (.int (if i < 0 then -i else i)) M
  | _ => False
theorem b_abs : CallR X (.builtin "abs") (lfC X.K rAbs2) := c1_of fun pins s σ H x u Q d M Q' I rx rd sm q hq => by
  cases d with
  | int i => cases rd; exact call_abs pins s σ H _ [u] Q I (.cons rx .nil) ⟨i, rfl, hq (.int _) M _ H Tx.refl rfl sm q⟩
  | _ => exact q.elim
theorem ints_back {K : PySem.W.Frag} {H : Hp} {ns : List Int} {xs : List V} (r : RepL K H (ns.map Tr.int) xs) : xs = ns.map V.int := by
  induction ns generalizing xs with
  | nil => exact r
  | cons n t ih =>
    obtain ⟨x, y, rfl, r1, r2⟩ := r
    cases r1
    rw [ih r2]; rfl
abbrev rSum2 : RC2 := c1 fun d M Q => ∃ ns : List Int, seqT d M = some (ns.map Tr.int) ∧ (∀ es, d ≠ .tup es) ∧ Q (.int ns.sum) M
theorem b_sum (hc : X.calm = true) : CallR X (.builtin "sum") (lfC X.K rSum2) := c1_of fun pins s σ H x u Q d M Q' I rx rd sm ⟨ns, e, nt, q⟩ hq => by
  have go : ∀ a, x = .ref a → SqL X.K H a (ns.map V.int) → wpAny (model X.prog X.w) X.A (call (.builtin "sum") [u]) (EP X pins σ Q) X.xe s := fun a ex sq => by
    subst ex
    exact cr_sum hc pins s σ H _ [u] Q I (.cons rx .nil) ⟨a, ns, rfl, sq, hq (.int _) M _ H Tx.refl rfl sm q⟩
  cases d with
  | tup ds => exact absurd rfl (nt ds)
  | fro ds =>
    obtain ⟨a, xs, rfl, sq, rl⟩ := rd
    cases e
    have := ints_back rl
    subst this
    exact go a rfl sq.sq
  | loc a =>
    cases rd
    obtain ⟨xs, hx, rl⟩ := sm a _ (seqT_loc e)
    have := ints_back rl
    subst this
    exact go a rfl (SqL.of hx)
  | _ => cases e
/-- max(a, b), min(a, b) -/
def c2 (r : Tr → Tr → Ms → Q2 → Prop) : RC2 := fun ds M Q => match ds with
  | [d, e] => r d e M Q
  | _ => False
def rII2 (g : Int → Int → Int) : RC2 := c2 fun d e M Q => match d, e with
  | .int i, .int j => Q (.int (g i j)) M
  | _, _ => False
theorem c2_ints {f : Value} {g : Int → Int → Int} (h : CallR X f (fun xs H Q => ∃ i j, xs = [.int i, .int j] ∧ Q (.int (g i j)) H)) : CallR X f (lfC X.K (rII2 g)) := by
  intro pins s σ H xs us Q I rv ⟨ds, M, Q', rd, sm, q, hq⟩
  match ds, q with
  | [d, e], q =>
    obtain ⟨x, y, rfl, r1, r2⟩ := two_of rd
    cases d with
    | int i =>
      cases e with
      | int j => cases r1; cases r2; exact h pins s σ H _ us Q I rv ⟨i, j, rfl, hq (.int _) M _ H Tx.refl rfl sm q⟩
      | _ => exact q.elim
    | _ => cases e <;> exact q.elim
abbrev rMax2 : RC2 := rII2 fun i j => if j > i then j else i
abbrev rMin2 : RC2 := rII2 fun i j => if j < i then j else i
theorem b_max2 (hc : X.calm = true) : CallR X (.builtin "max") (lfC X.K rMax2) := c2_ints (call_max2 hc)
theorem b_min2 (hc : X.calm = true) : CallR X (.builtin "min") (lfC X.K rMin2) := c2_ints (call_min2 hc)
/-- max of a list of ints -/
def rMaxL (le : Int → Int → Prop) : RC2 := c1 fun d M Q => ∃ ns : List Int, seqT d M = some (ns.map Tr.int) ∧ (∀ es, d ≠ .tup es) ∧ 0 < ns.length ∧ ∀ m, m ∈ ns → (∀ y, y ∈ ns → le y m) → Q (.int m) M
theorem maxL_of {f : Value} {le : Int → Int → Prop} (h : CallR X f (fun vs H Q => ∃ (a : Addr) (ns : List Int), vs = [V.ref a] ∧ SqL X.K H a (ns.map V.int) ∧ 0 < ns.length ∧ ∀ m, m ∈ ns → (∀ y, y ∈ ns → le y m) → Q (.int m) H)) : CallR X f (lfC X.K (rMaxL le)) :=
  c1_of fun pins s σ H x u Q d M Q' I rx rd sm ⟨ns, e, nt, hl, q⟩ hq => by
  have go : ∀ a, x = .ref a → SqL X.K H a (ns.map V.int) → wpAny (model X.prog X.w) X.A (call f [u]) (EP X pins σ Q) X.xe s := fun a ex sq => by
    subst ex
    exact h pins s σ H _ [u] Q I (.cons rx .nil) ⟨a, ns, rfl, sq, hl, fun m hm hy => hq (.int _) M _ H Tx.refl rfl sm (q m hm hy)⟩
  cases d with
  | tup ds => exact absurd rfl (nt ds)
  | fro ds =>
    obtain ⟨a, xs, rfl, sq, rl⟩ := rd
    cases e
    have := ints_back rl
    subst this
    exact go a rfl sq.sq
  | loc a =>
    cases rd
    obtain ⟨xs, hx, rl⟩ := sm a _ (seqT_loc e)
    have := ints_back rl
    subst this
    exact go a rfl (SqL.of hx)
  | _ => cases e
theorem b_maxL (hc : X.calm = true) : CallR X (.builtin "max") (lfC X.K (rMaxL fun y m => y ≤ m)) := maxL_of (cr_max hc)
theorem b_minL (hc : X.calm = true) : CallR X (.builtin "min") (lfC X.K (rMaxL fun y m => m ≤ y)) := maxL_of (cr_min hc)
/-- the built-in type of a tree -/
def tyT : Tr → Ms → Option String
  | .non, _ => some "NoneType"
  | .bl _, _ => some "bool"
  | .int _, _ => some "int"
  | .str _, _ => some "str"
  | .tup _, _ => some "tuple"
  | .loc a, M => match M a with
    | some (.lst _) => some "list"
    | some (.dic _) => some "dict"
    | _ => none
  | .fro _, _ => some "list"
  | .ty _, _ => none
theorem tyT_ok {K : PySem.W.Frag} {H : Hp} {M : Ms} {d : Tr} {x : V} {t : String} (e : tyT d M = some t) (r : Rep K H d x) (sm : SimM K H M) : TyX K H x (.type t) := by
  cases d with
  | non => cases r; cases e; exact .base .non
  | bl b => cases r; cases e; exact .base (.bl b)
  | int b => cases r; cases e; exact .base (.int b)
  | str b => cases r; cases e; exact .base (.str b)
  | tup ds =>
    obtain ⟨a, xs, rfl, q, rl⟩ := r
    cases e
    rcases q with (q | ⟨o, q⟩) | ⟨o, its, n, q1, q2, _⟩
    · exact .base (.tup q)
    · exact .fTuple q
    · exact .kTuple q1 q2
  | fro ds =>
    obtain ⟨a, xs, rfl, q, rl⟩ := r
    cases e
    rcases q with ⟨o, q⟩ | ⟨o, its, n, q1, q2, _⟩
    · exact .base (.frz q)
    · exact .kList q1 q2
  | loc a =>
    cases r
    have e' : (match M a with | some (.lst _) => some "list" | some (.dic _) => some "dict" | _ => none) = some t := e
    split at e'
    · rename_i ds z
      cases e'
      obtain ⟨xs, q, rl⟩ := sm a _ z
      exact .base (.lst q)
    · rename_i ds z
      cases e'
      obtain ⟨xs, q, _, rl⟩ := sm a _ z
      exact .base (.dK q)
    · cases e'
  | ty n => cases e
abbrev rIsi2 : RC2 := c2 fun d e M Q => ∃ t c b, tyT d M = some t ∧ e = .ty c ∧ kitB t c = some b ∧ Q (.bl b) M
theorem b_isi : CallR X (.builtin "isinstance") (lfC X.K rIsi2) := by
  intro pins s σ H xs us Q I rv ⟨ds, M, Q', rd, sm, q, hq⟩
  match ds, q with
  | [d, e], q =>
    obtain ⟨x, y, rfl, r1, r2⟩ := two_of rd
    obtain ⟨t, c, b, e1, rfl, e2, q⟩ := q
    cases r2
    exact call_isi pins s σ H _ us Q I rv ⟨x, .ty c, .type t, .type c, b, rfl, .ty c, tyT_ok e1 r1 sm, kit_ty e2, hq (.bl _) M _ H Tx.refl rfl sm q⟩
/-- repr -/
def rRepr2 : RC2 := c1 fun d M Q => ∃ p : PyData, Dat M p d ∧ p.showable = true ∧ p.hasDict = false ∧ p.depth ≤ 50 ∧ p.shown.length ≤ sizeLine ∧ Q (.str p.shown) M
theorem b_repr (hu : X.A.units + 64 < cLine) (hg : X.A.guards = some []) : CallR X (.builtin "repr") (lfC X.K rRepr2) := c1_of fun pins s σ H x u Q d M Q' I rx rd sm ⟨p, dp, s1, s2, s3, s4, q⟩ hq => by
  have D := dp.dp sm rd
  have fin : Q (.str p.shown) H := hq (.str _) M _ H Tx.refl rfl sm q
  cases D with
  | non => cases rx; exact PySem.P.repr_of_none ⟨.str _, H, I.tok _, ⟨_, rfl⟩, fin⟩
  | bl b => cases rx; exact PySem.P.repr_of_bool ⟨.str _, H, I.tok _, ⟨_, rfl⟩, fin⟩
  | int i =>
    obtain ⟨t, rfl⟩ := rx
    exact PySem.P.repr_of_int (of_decide_eq_true s1) ⟨.str _, H, I.tok _, ⟨_, rfl⟩, fin⟩
  | str z =>
    obtain ⟨t, rfl⟩ := rx
    exact PySem.P.repr_of_str ⟨.str _, H, I.tok _, ⟨_, rfl⟩, fin⟩ s4
  | lst q1 q2 =>
    cases rx
    obtain ⟨as, r⟩ := Dp.reads I _ _ _ (.lst q1 q2) rfl
    exact PySem.repr_of_reads' r s1 (PyData.noDict_hsm s2) hg (by omega) (fun _ _ e => e) (fun h' w' tk hk => ⟨.str _, H, I.kept hk, ⟨_, rfl⟩, fin⟩) s4
  | tup q1 q2 =>
    cases rx
    obtain ⟨as, r⟩ := Dp.reads I _ _ _ (.tup q1 q2) rfl
    exact PySem.repr_of_reads' r s1 (PyData.noDict_hsm s2) hg (by omega) (fun _ _ e => e) (fun h' w' tk hk => ⟨.str _, H, I.kept hk, ⟨_, rfl⟩, fin⟩) s4

/-! ### methods -/
def rApp2 : RM2 := fun d ds M Q => match d, ds with
  | .loc a, [e] => ∃ l, M a = some (.lst l) ∧ l.length < sizeLine ∧ Q .non (up M a (.lst (l ++ [e])))
  | _, _ => False
theorem m_append : MtR X "list.append" (lfM X.K rApp2) := by
  intro pins s σ H x xs v us Q I rx rv ⟨d, ds, M, Q', rd, rl, sm, q, hq⟩
  match d, ds, q with
  | .loc a, [e], ⟨l, el, z, q⟩ =>
    obtain ⟨y, rfl, r1⟩ := one_of rl
    cases rd
    obtain ⟨ys, hy, ry⟩ := sm a _ el
    exact mt_append pins s σ H _ _ v us Q I rx rv ⟨a, ys, y, rfl, rfl, hy, by rw [← ry.len]; exact z, hq .non _ _ _ (Tx.lst hy) rfl (sm.setL hy (ry.app (.one r1))) q⟩
def rPop2 : RM2 := fun d ds M Q => match d, ds with
  | .loc a, [] => ∃ l e, M a = some (.lst l) ∧ l[l.length - 1]? = some e ∧ Q e (up M a (.lst l.dropLast))
  | _, _ => False
theorem m_pop : MtR X "list.pop" (lfM X.K rPop2) := by
  intro pins s σ H x xs v us Q I rx rv ⟨d, ds, M, Q', rd, rl, sm, q, hq⟩
  match d, ds, q with
  | .loc a, [], ⟨l, e, el, z, q⟩ =>
    have ex : xs = [] := rl
    subst ex
    cases rd
    obtain ⟨ys, hy, ry⟩ := sm a _ el
    obtain ⟨w', e1, rw'⟩ := ry.get z
    exact mt_pop pins s σ H _ _ v us Q I rx rv ⟨a, ys, w', rfl, rfl, hy, by rw [← ry.len]; exact e1, hq e _ _ _ (Tx.lst hy) (rw'.mono (Tx.lst hy)) (sm.setL hy ry.dropLast) q⟩
def rExt2 : RM2 := fun d ds M Q => match d, ds with
  | .loc a, [.loc b] => ∃ l r, M a = some (.lst l) ∧ M b = some (.lst r) ∧ l.length + r.length ≤ sizeLine ∧ Q .non (up M a (.lst (l ++ r)))
  | _, _ => False
theorem m_extend : MtR X "list.extend" (lfM X.K rExt2) := by
  intro pins s σ H x xs v us Q I rx rv ⟨d, ds, M, Q', rd, rl, sm, q, hq⟩
  match d, ds, q with
  | .loc a, [.loc b], ⟨l, r, el, er, z, q⟩ =>
    obtain ⟨y, rfl, r1⟩ := one_of rl
    cases rd
    cases r1
    obtain ⟨ys, hy, ry⟩ := sm a _ el
    obtain ⟨zs, hz, rz⟩ := sm b _ er
    exact mt_extend pins s σ H _ _ v us Q I rx rv ⟨a, b, ys, zs, rfl, rfl, hy, hz, by rw [← ry.len, ← rz.len]; exact z, hq .non _ _ _ (Tx.lst hy) rfl (sm.setL hy (ry.app rz)) q⟩
variable {W : L2.WX} {o e : Expr} {to : TE2} {t : TA2} {apos pos : Pos} {es : List Expr}
theorem lt_append (ho : QE X W o to) (ha : QA X W [e] t) (h : PE X (.Call (.Attribute o "append" apos) [e] [] pos) (tBM X.K "list" (lfM X.K rApp2) (lfE X.K W to) (lfA X.K W t)) := by exact pe_bm PySem.F.plainAttrs_list PySem.F.slot_list_append PySem.F.type_list_append m_append (by assumption) (by assumption)) :
    QE X W (.Call (.Attribute o "append" apos) [e] [] pos) (eM "list" rApp2 to t) := pe_weak h fun _ _ _ h => m_low h
theorem lt_extend (ho : QE X W o to) (ha : QA X W [e] t) (h : PE X (.Call (.Attribute o "extend" apos) [e] [] pos) (tBM X.K "list" (lfM X.K rExt2) (lfE X.K W to) (lfA X.K W t)) := by exact pe_bm PySem.F.plainAttrs_list PySem.F.slot_list_extend PySem.F.type_list_extend m_extend (by assumption) (by assumption)) :
    QE X W (.Call (.Attribute o "extend" apos) [e] [] pos) (eM "list" rExt2 to t) := pe_weak h fun _ _ _ h => m_low h
theorem lt_pop (ho : QE X W o to) (h : PE X (.Call (.Attribute o "pop" apos) [] [] pos) (tBM0 X.K "list" (lfM X.K rPop2) (lfE X.K W to)) := by exact pe_bm0 PySem.F.plainAttrs_list PySem.F.slot_list_pop PySem.F.type_list_pop m_pop (by assumption)) :
    QE X W (.Call (.Attribute o "pop" apos) [] [] pos) (eM0 "list" rPop2 to) := pe_weak h fun _ _ _ h => m0_low h
end
end T

/-! T, fourth part: targets, statements, walks, loops, comprehensions, errors. -/
namespace T
open PySem PySem.Spec L2

structure Ends2 where
  nx : St2 → Ms → Prop
  rt : Q2
  bk : St2 → Ms → Prop
  ct : St2 → Ms → Prop
  ex : Value → Option Addr → St2 → Ms → Prop
abbrev TS2 := Ends2 → St2 → Ms → Prop
abbrev Ends2.xx (D : Ends2) (σ : St2) : X2 := fun c dd M => D.ex c dd σ M
/-- the links of the ends -/
def LkN (K : PySem.W.Frag) (H : Hp) (N' : St2 → Ms → Prop) (N : L2.St → Hp → Prop) : Prop := ∀ σ1' M1 σ1 H1, Tx K H H1 → SimS K H1 σ1' σ1 → SimM K H1 M1 → N' σ1' M1 → N σ1 H1
structure LkD (K : PySem.W.Frag) (H : Hp) (W : L2.WX) (D' : Ends2) (D : L2.Ends) : Prop where
  nx : LkN K H D'.nx D.nx
  rt : LkQ K H D'.rt D.rt
  bk : LkN K H D'.bk D.bk
  ct : LkN K H D'.ct D.ct
  ex : ∀ c dd, LkN K H (D'.ex c dd) (W c dd)
section
variable {K : PySem.W.Frag} {H H1 : Hp} {W : L2.WX} {D' : Ends2} {D : L2.Ends} {N' : St2 → Ms → Prop} {N : L2.St → Hp → Prop} {σ : L2.St} {σ' : St2}
theorem LkN.mono (h : LkN K H N' N) (t : Tx K H H1) : LkN K H1 N' N := fun a b c d t' s m q => h a b c d (t.trans t') s m q
theorem LkD.mono (h : LkD K H W D' D) (t : Tx K H H1) : LkD K H1 W D' D := ⟨h.nx.mono t, h.rt.mono t, h.bk.mono t, h.ct.mono t, fun c dd => (h.ex c dd).mono t⟩
theorem LkD.x (h : LkD K H W D' D) (s : SimS K H σ' σ) : LkX K H (D'.xx σ') W σ := fun c dd M H' t m q => h.ex c dd σ' M σ H' t (s.mono t) m q
end
def lfS (K : PySem.W.Frag) (W : L2.WX) (t : TS2) : TS := fun D σ H => ∃ σ' M D', SimS K H σ' σ ∧ SimM K H M ∧ t D' σ' M ∧ LkD K H W D' D
theorem ps_weak {X : Cx} {e : Stmt} {t t' : TS} (h : PS X e t) (w : ∀ D σ H, t' D σ H → t D σ H) : PS X e t' := ⟨fun pins s σ H D I q => h.run pins s σ H D I (w D σ H q)⟩
theorem pss_weak {X : Cx} {e : List Stmt} {t t' : TS} (h : PSs X e t) (w : ∀ D σ H, t' D σ H → t D σ H) : PSs X e t' := ⟨fun pins s σ H D I q => h.run pins s σ H D I (w D σ H q)⟩
theorem pg_weak {X : Cx} {e : Expr} {t t' : TG} (h : PG X e t) (w : ∀ v σ H Q, t' v σ H Q → t v σ H Q) : PG X e t' := ⟨fun pins s σ H v u Q I r q => h.run pins s σ H v u Q I r (w v σ H Q q)⟩
theorem pgs_weak {X : Cx} {e : List Expr} {t t' : TGs} (h : PGs X e t) (w : ∀ v σ H Q, t' v σ H Q → t v σ H Q) : PGs X e t' := ⟨fun pins s σ H v u Q I r q => h.run pins s σ H v u Q I r (w v σ H Q q)⟩
theorem pi_weak {X : Cx} {tg e : Expr} {t t' : TI} (h : PI X tg e t) (w : ∀ σ H R, t' σ H R → t σ H R) : PI X tg e t' := ⟨fun pins s σ H R I q => h.run pins s σ H R I (w σ H R q)⟩
abbrev QS (X : Cx) (W : L2.WX) (e : Stmt) (t : TS2) : Prop := PS X e (lfS X.K W t)
abbrev QSs (X : Cx) (W : L2.WX) (e : List Stmt) (t : TS2) : Prop := PSs X e (lfS X.K W t)

/-! ### targets -/
abbrev TG2 := Tr → St2 → Ms → (St2 → Ms → Prop) → Prop
abbrev TGs2 := List Tr → St2 → Ms → (St2 → Ms → Prop) → Prop
/-- alike but for some slots -/
def Agr (js : List Nat) (σ σ1 : L2.St) : Prop := σ1.length = σ.length ∧ ∀ i, i ∉ js → σ1[i]? = σ[i]?
theorem Agr.refl {js : List Nat} {σ : L2.St} : Agr js σ σ := ⟨rfl, fun _ _ => rfl⟩
theorem Agr.app {js ks : List Nat} {σ σ1 σ2 : L2.St} (a : Agr js σ σ1) (b : Agr ks σ1 σ2) : Agr (js ++ ks) σ σ2 := ⟨b.1.trans a.1, fun i hi => (b.2 i fun z => hi (List.mem_append_right _ z)).trans (a.2 i fun z => hi (List.mem_append_left _ z))⟩
theorem wipe_at {σ : L2.St} {i : Nat} : ∀ {vs : List Nat}, i ∈ vs → i < σ.length → (wipe σ vs)[i]? = some none
  | [], h, _ => nomatch h
  | v :: vs, h, hl => by
    unfold wipe
    rw [List.getElem?_set, wipe_length]
    by_cases c : v = i
    · rw [if_pos c, if_pos (by omega)]
    · rw [if_neg c]
      rcases List.mem_cons.mp h with e | m
      · exact absurd e.symm c
      · exact wipe_at m hl
theorem Agr.wipe {js vs : List Nat} {σ σ1 : L2.St} (a : Agr js (L2.wipe σ vs) σ1) (h : ∀ i ∈ js, i ∈ vs) : L2.wipe σ1 vs = L2.wipe σ vs := by
  have l1 : σ1.length = σ.length := a.1.trans (wipe_length _ _)
  apply List.ext_getElem?
  intro i
  by_cases m : i ∈ vs
  · by_cases hl : i < σ.length
    · rw [wipe_at m (by rw [l1]; exact hl), wipe_at m hl]
    · rw [List.getElem?_eq_none (by rw [wipe_length, l1]; omega), List.getElem?_eq_none (by rw [wipe_length]; omega)]
  · rw [wipe_out m, a.2 i fun z => m (h i z)]
def lfG (K : PySem.W.Frag) (js : List Nat) (g : TG2) : TG := fun v σ H Q => ∃ d σ' M Q', Rep K H d v ∧ SimS K H σ' σ ∧ SimM K H M ∧ g d σ' M Q' ∧ ∀ σ1' M1 σ1 H1, Tx K H H1 → SimS K H1 σ1' σ1 → SimM K H1 M1 → Agr js σ σ1 → Q' σ1' M1 → Q σ1 H1
def lfGs (K : PySem.W.Frag) (js : List Nat) (g : TGs2) : TGs := fun vs σ H Q => ∃ ds σ' M Q', RepL K H ds vs ∧ SimS K H σ' σ ∧ SimM K H M ∧ g ds σ' M Q' ∧ ∀ σ1' M1 σ1 H1, Tx K H H1 → SimS K H1 σ1' σ1 → SimM K H1 M1 → Agr js σ σ1 → Q' σ1' M1 → Q σ1 H1
abbrev QG (X : Cx) (tg : Expr) (g : TG2) (js : List Nat) : Prop := PG X tg (lfG X.K js g)
abbrev QGs (X : Cx) (tg : List Expr) (g : TGs2) (js : List Nat) : Prop := PGs X tg (lfGs X.K js g)
def gN (i : Nat) : TG2 := fun d σ M Q => Q (σ.set i (some d)) M
def gNil2 : TGs2 := fun ds σ M Q => ds = [] ∧ Q σ M
def gCo (t : TG2) (u : TGs2) : TGs2 := fun ds σ M Q => ∃ d r, ds = d :: r ∧ t d σ M fun σ' M' => u r σ' M' Q
def gT (n : Nat) (t : TGs2) : TG2 := fun d σ M Q => ∃ ds, d = .tup ds ∧ ds.length = n ∧ t ds σ M Q
def gL (n : Nat) (t : TGs2) : TG2 := fun d σ M Q => ∃ ds, seqT d M = some ds ∧ (∀ es, d ≠ .tup es) ∧ ds.length = n ∧ t ds σ M Q
section
variable {X : Cx} {W : L2.WX} {pos : Pos} {tg e a b c : Expr} {es : List Expr} {g : TG2} {gs : TGs2} {js ks : List Nat} {te ta tb : TE2} {tt : TA2}
theorem qg_name {i : Nat} {x : Str} (hN : X.N.Nodup) (hi : X.N[i]? = some x := by rfl) (hx : Loc X.env.scope x := by first | exact Or.inl rfl | exact Or.inr rfl) (hf : X.fn x = true ∨ X.env.scope.names.lookup x = some .local := by first | exact .inl rfl | exact .inr rfl | assumption) : QG X (.Name x pos) (gN i) [i] :=
  pg_weak (pg_name hN hi hx hf) fun v σ H Q ⟨d, σ', M, Q', r, hs, hm, q, hq⟩ => hq _ M _ H Tx.refl (hs.set i r) hm ⟨by rw [List.length_set], fun j hj => by
    rw [List.getElem?_set, if_neg (fun z => hj (by rw [z]; exact List.mem_singleton.mpr rfl))]⟩ q
theorem qgs_nil : QGs X [] gNil2 [] := pgs_weak pgs_nil fun vs σ H Q ⟨ds, σ', M, Q', r, hs, hm, ⟨e, q⟩, hq⟩ => by
  subst e
  exact ⟨r, hq σ' M σ H Tx.refl hs hm Agr.refl q⟩
theorem qgs_cons (h1 : QG X e g js) (h2 : QGs X es gs ks) (hs : (assignEach (e :: es) X.env).map (·.2) = assign e X.env :: (assignEach es X.env).map (·.2) := by rfl) : QGs X (e :: es) (gCo g gs) (js ++ ks) :=
  pgs_weak (pgs_cons h1 h2 hs) fun vs σ H Q ⟨ds, σ', M, Q', r, hs, hm, ⟨d, dr, e, q⟩, hq⟩ => by
    subst e
    obtain ⟨x, xs, e, r1, r2⟩ := r
    subst e
    exact ⟨x, xs, rfl, d, σ', M, _, r1, hs, hm, q, fun σ1' M1 σ1 H1 t1 s1 m1 a1 q1 => ⟨dr, σ1', M1, Q', r2.mono t1, s1, m1, q1, fun σ2' M2 σ2 H2 t2 s2 m2 a2 q2 => hq σ2' M2 σ2 H2 (t1.trans t2) s2 m2 (a1.app a2) q2⟩⟩
theorem qg_tup {k : Nat} {n : Nat} (hc : X.calm = true) (h : QGs X es gs js) (hn : (assignEach es X.env).length = n := by rfl) (hst : (assignEach es X.env).findIdx? (·.1) = none := by rfl) : QG X (.Tuple es k pos) (gT n gs) js :=
  pg_weak (pg_tup hc h hn hst) fun v σ H Q ⟨d, σ', M, Q', r, hs, hm, ⟨ds, e, hl, q⟩, hq⟩ => by
    subst e
    obtain ⟨a, xs, rfl, sq, rl⟩ := r
    exact ⟨a, xs, rfl, sq, by rw [← rl.len]; exact hl, ds, σ', M, Q', rl, hs, hm, q, hq⟩
/-- o[i] = v, by values -/
abbrev TSet2 := Tr → Tr → Tr → Ms → (Ms → Prop) → Prop
def lfPut (K : PySem.W.Frag) (t : TSet2) : TSet := fun o i v H Q => ∃ d e f M Q', Rep K H d o ∧ Rep K H e i ∧ Rep K H f v ∧ SimM K H M ∧ t d e f M Q' ∧ ∀ M1 H1, Tx K H H1 → SimM K H1 M1 → Q' M1 → Q H1
/-- stored at its key, or behind all -/
def putT (kvs : List (Key × Tr)) (k : Key) (v : Tr) : List (Key × Tr) :=
  match kvs.any fun p => decide (p.1 = k) with
  | true => kvs.map fun p => (p.1, if p.1 = k then v else p.2)
  | false => kvs ++ [(k, v)]
theorem swap_ok {K : PySem.W.Frag} {H : Hp} {k : Key} {f : Tr} {v : V} (r : Rep K H f v) : ∀ {kvs : List (Key × Tr)} {xs : List (Key × V)}, xs.map (·.1) = kvs.map (·.1) → RepL K H (kvs.map (·.2)) (xs.map (·.2)) →
    (xs.map fun p => if p.1 = k then (p.1, v) else p).map (·.1) = (kvs.map fun p => (p.1, if p.1 = k then f else p.2)).map (·.1) ∧
      RepL K H ((kvs.map fun p => (p.1, if p.1 = k then f else p.2)).map (·.2)) ((xs.map fun p => if p.1 = k then (p.1, v) else p).map (·.2))
  | [], [], _, _ => ⟨rfl, rfl⟩
  | [], _ :: _, e, _ => by simp at e
  | _ :: _, [], e, _ => by simp at e
  | p :: kvs, y :: ys, e, rl => by
    simp only [List.map_cons, List.cons.injEq] at e
    obtain ⟨x, z, e0, r1, r2⟩ := rl
    cases e0
    have e1 := e.1
    have ih := swap_ok (k := k) r e.2 r2
    by_cases c : p.1 = k
    · have c2 : y.1 = k := by rw [e1]; exact c
      simp only [List.map_cons, if_pos c, if_pos c2]
      exact ⟨by rw [ih.1, e1], v, _, rfl, r, ih.2⟩
    · have c2 : ¬ y.1 = k := by rw [e1]; exact c
      simp only [List.map_cons, if_neg c, if_neg c2]
      exact ⟨by rw [ih.1, e1], y.2, _, rfl, r1, ih.2⟩
def rPut2 : TSet2 := fun o i v M Q => (∃ a l k j, o = .loc a ∧ i = .int k ∧ M a = some (.lst l) ∧ ixN l.length k = some j ∧ Q (up M a (.lst (l.set j v)))) ∨
  ∃ a kvs k, o = .loc a ∧ keyT i = some k ∧ M a = some (.dic kvs) ∧ kvs.length < sizeLine ∧ Q (up M a (.dic (putT kvs k v)))
theorem putT_ok {K : PySem.W.Frag} {H : Hp} {k : Key} {f : Tr} {v : V} (r : Rep K H f v) {kvs : List (Key × Tr)} {xs : List (Key × V)} (e : xs.map (·.1) = kvs.map (·.1)) (rl : RepL K H (kvs.map (·.2)) (xs.map (·.2))) :
    (putK xs k v).map (·.1) = (putT kvs k f).map (·.1) ∧ RepL K H ((putT kvs k f).map (·.2)) ((putK xs k v).map (·.2)) := by
  have hany : (xs.any fun kv => decide (kv.1 = k)) = (kvs.any fun kv => decide (kv.1 = k)) := by
    have h1 : (xs.any fun kv => decide (kv.1 = k)) = (xs.map (·.1)).any fun j => decide (j = k) := by rw [List.any_map]; rfl
    have h2 : (kvs.any fun kv => decide (kv.1 = k)) = (kvs.map (·.1)).any fun j => decide (j = k) := by rw [List.any_map]; rfl
    rw [h1, h2, e]
  unfold putK putT
  rw [hany]
  cases (kvs.any fun kv => decide (kv.1 = k)) with
  | true =>
    rw [if_pos rfl]
    exact swap_ok r e rl
  | false =>
    rw [if_neg Bool.false_ne_true]
    simp only [List.map_append, List.map_cons, List.map_nil, e]
    exact ⟨trivial, rl.app (.one r)⟩
theorem p_set (hu : X.A.units + 1 < cLine) : PSet X (lfPut X.K rPut2) := by
  intro pins s σ H o i v ov iv u Q I ro ri rv ⟨d, e, f, M, Q', rd, re, rf, sm, q, hq⟩
  rcases q with ⟨a, l, k, j, rfl, rfl, el, hj, q⟩ | ⟨a, kvs, k, rfl, ek, el, hz, q⟩
  · cases rd; cases re
    obtain ⟨ys, hy, ry⟩ := sm a _ el
    exact set_list pins s σ H _ _ v ov iv u Q I ro ri rv ⟨a, ys, k, j, rfl, rfl, hy, by rw [← ry.len]; exact hj, hq _ _ (Tx.lst hy) (sm.setL hy (ry.set j rf)) q⟩
  · cases rd
    have ei := keyT_ok ek re
    subst ei
    obtain ⟨ys, hy, ke, ry⟩ := sm a _ el
    cases ro
    have hl : ys.length < sizeLine := by
      have := congrArg List.length ke
      simp only [List.length_map] at this
      omega
    have pk := putT_ok (k := k) rf ke ry
    exact d_setItem hu I (DPut.k hy hl) ri rv fun s' I' => ⟨_, I', hq _ _ (Tx.dic hy) (sm.put (m := .dic (putT kvs k f)) (Tx.dic hy) ⟨_, upd_same, pk.1, pk.2.mono (Tx.dic hy)⟩) q⟩
def gSb (r : TSet2) (to ti : TE2) : TG2 := fun v σ M Q => to σ M (fun o M1 => ti σ M1 (fun i M2 => r o i v M2 fun M3 => Q σ M3) X0) X0
theorem qg_sub {o i : Expr} {to ti : TE2} (hu : X.A.units + 1 < cLine) (ho : QE X W o to) (hi : QE X W i ti)
    (ha : PG X (.Subscript o i pos) (gSub (lfE X.K W to) (lfE X.K W ti) (lfPut X.K rPut2)) := by exact pg_sub (by assumption) (by assumption) (p_set (by assumption))) : QG X (.Subscript o i pos) (gSb rPut2 to ti) [] :=
  pg_weak ha fun v σ H Q ⟨d, σ', M, Q', r, hs, hm, q, hq⟩ => ⟨σ', M, _, X0, hs, hm, q, fun o M1 x H1 t1 r1 s1 q1 => ⟨σ', M1, _, X0, hs.mono t1, s1, q1, fun i M2 y H2 t2 r2 s2 q2 =>
    ⟨o, i, d, M2, _, r1.mono t2, r2, (r.mono t1).mono t2, s2, q2, fun M3 H3 t3 s3 q3 => hq σ' M3 σ H3 ((t1.trans t2).trans t3) (((hs.mono t1).mono t2).mono t3) s3 Agr.refl q3⟩, fun _ _ _ _ _ _ z => False.elim z⟩, fun _ _ _ _ _ _ z => False.elim z⟩

/-! ### statements -/
variable {t u : TS2} {st : Stmt} {rest : List Stmt} {tA : TT2}
def sNx : TS2 := fun D σ M => D.nx σ M
def sSq (t u : TS2) : TS2 := fun D σ M => t { D with nx := u D } σ M
theorem qss_nil : QSs X W [] sNx := pss_weak pss_nil fun D σ H ⟨σ', M, D', hs, hm, q, L⟩ => L.nx σ' M σ H Tx.refl hs hm q
theorem qss_cons (h1 : QS X W st t) (h2 : QSs X W rest u) : QSs X W (st :: rest) (sSq t u) := pss_weak (pss_cons h1 h2) fun D σ H ⟨σ', M, D', hs, hm, q, L⟩ =>
  ⟨σ', M, _, hs, hm, q, fun σ1' M1 σ1 H1 t1 s1 m1 q1 => ⟨σ1', M1, D', s1, m1, q1, L.mono t1⟩, L.rt, L.bk, L.ct, L.ex⟩
theorem qss_one (h1 : QS X W st t) : QSs X W [st] t := pss_one h1
theorem qs_pass : QS X W (.Pass pos) sNx := ps_weak ps_pass fun D σ H ⟨σ', M, D', hs, hm, q, L⟩ => L.nx σ' M σ H Tx.refl hs hm q
def sBk : TS2 := fun D σ M => D.bk σ M
def sCt : TS2 := fun D σ M => D.ct σ M
theorem qs_break : QS X W (.Break pos) sBk := ps_weak ps_break fun D σ H ⟨σ', M, D', hs, hm, q, L⟩ => L.bk σ' M σ H Tx.refl hs hm q
theorem qs_continue : QS X W (.Continue pos) sCt := ps_weak ps_continue fun D σ H ⟨σ', M, D', hs, hm, q, L⟩ => L.ct σ' M σ H Tx.refl hs hm q
def sDr (te : TE2) : TS2 := fun D σ M => te σ M (fun _ M1 => D.nx σ M1) (D.xx σ)
theorem qs_expr (he : QE X W e te) (hs : swapsWith e none pos.line X.env = pure false := by rfl) : QS X W (.Expr e pos) (sDr te) := ps_weak (ps_expr he hs) fun D σ H ⟨σ', M, D', hs, hm, q, L⟩ =>
  ⟨σ', M, _, _, hs, hm, q, fun d M1 v H1 t1 r1 s1 q1 => L.nx σ' M1 σ H1 t1 (hs.mono t1) s1 q1, L.x hs⟩
def sRt (te : TE2) : TS2 := fun D σ M => te σ M D.rt (D.xx σ)
theorem qs_ret (he : QE X W e te) : QS X W (.Return (some e) pos) (sRt te) := ps_weak (ps_ret he) fun D σ H ⟨σ', M, D', hs, hm, q, L⟩ => ⟨σ', M, _, _, hs, hm, q, L.rt, L.x hs⟩
def sRtN : TS2 := fun D _ M => D.rt .non M
theorem qs_retN : QS X W (.Return none pos) sRtN := ps_weak ps_retN fun D σ H ⟨σ', M, D', hs, hm, q, L⟩ => L.rt .non M .non H Tx.refl rfl hm q
def sIf (c : TT2) (t u : TS2) : TS2 := fun D σ M => c σ M (fun b M1 => if b = true then t D σ M1 else u D σ M1) (D.xx σ)
theorem qs_if {aa bb : List Stmt} (hc : QT X W c tA) (ha : QSs X W aa t) (hb : QSs X W bb u) : QS X W (.If c aa bb pos) (sIf tA t u) := ps_weak (ps_if hc ha hb) fun D σ H ⟨σ', M, D', hs, hm, q, L⟩ =>
  ⟨σ', M, _, _, hs, hm, q, fun b M1 H1 t1 s1 q1 => by
    cases b with
    | true => exact ⟨σ', M1, D', hs.mono t1, s1, q1, L.mono t1⟩
    | false => exact ⟨σ', M1, D', hs.mono t1, s1, q1, L.mono t1⟩, L.x hs⟩
def sNv : TS2 := fun _ _ _ => False
theorem qs_never : QS X W st sNv := ps_weak ps_never fun D σ H ⟨σ', M, D', hs, hm, q, L⟩ => q
theorem qss_never {sts : List Stmt} : QSs X W sts sNv := pss_weak pss_never fun D σ H ⟨σ', M, D', hs, hm, q, L⟩ => q
/-- target = value -/
def sAs (te : TE2) (g : TG2) : TS2 := fun D σ M => te σ M (fun d M1 => g d σ M1 D.nx) (D.xx σ)
theorem asg_low {K : PySem.W.Frag} {D : L2.Ends} {σ : L2.St} {H : Hp} (h : lfS K W (sAs te g) D σ H) : tAsg (lfE K W te) (lfG K js g) D σ H := by
  obtain ⟨σ', M, D', hs, hm, q, L⟩ := h
  exact ⟨σ', M, _, _, hs, hm, q, fun d M1 v H1 t1 r1 s1 q1 => ⟨d, σ', M1, _, r1, hs.mono t1, s1, q1, fun σ2' M2 σ2 H2 t2 s2 m2 _ q2 => L.nx σ2' M2 σ2 H2 (t1.trans t2) s2 m2 q2⟩, L.x hs⟩
theorem qs_asg (he : QE X W e te) (hg : QG X tg g js) (hs : swapsWithSole [tg] e pos.line X.env = pure false := by rfl) (hw : swappedStores [tg] e X.env = pure none := by rfl)
    (h1 : (assignEach [tg] X.env).map (·.2) = [assign tg X.env] := by rfl) : QS X W (.Assign [tg] e pos) (sAs te g) := ps_weak (ps_asg he hg hs hw h1) fun D σ H h => asg_low h
theorem qs_set {i : Nat} {x : Str} {pos' : Pos} (hN : X.N.Nodup) (he : QE X W e te) (hi : X.N[i]? = some x := by rfl) (hx : Loc X.env.scope x := by first | exact Or.inl rfl | exact Or.inr rfl) (hs : swapsWith e (some (.Name x pos')) pos.line X.env = pure false := by rfl)
    (hf : X.fn x = true ∨ X.env.scope.names.lookup x = some .local := by first | exact .inl rfl | exact .inr rfl | assumption) : QS X W (.Assign [.Name x pos'] e pos) (sAs te (gN i)) :=
  ps_weak (ps_set hN hi hx he hs hf) fun D σ H ⟨σ', M, D', hs, hm, q, L⟩ => ⟨σ', M, _, _, hs, hm, q, fun d M1 v H1 t1 r1 s1 q1 => L.nx _ M1 _ H1 t1 ((hs.mono t1).set i r1) s1 q1, L.x hs⟩
def sPr (i j : Nat) (ta : TA2) : TS2 := fun D σ M => ta σ M (fun ds M1 => ∃ d e, ds = [d, e] ∧ D.nx ((σ.set i (some d)).set j (some e)) M1) (D.xx σ)
theorem qs_par {i j : Nat} {x y : Str} {px py pt : Pos} {kt k2 pt2} (hc : X.calm = true) (hN : X.N.Nodup) (hij : i ≠ j) (ha : QA X W [a, b] tt) (hi : X.N[i]? = some x := by rfl) (hj : X.N[j]? = some y := by rfl)
    (hx : X.env.scope.names.lookup x = some .local := by rfl) (hy : X.env.scope.names.lookup y = some .local := by rfl)
    (hw : swappedStores [.Tuple [.Name x px, .Name y py] kt pt] (.Tuple [a, b] k2 pt2) X.env = pure (some [x, y]) := by rfl)
    (hs : swapsWithSole [.Tuple [.Name x px, .Name y py] kt pt] (.Tuple [a, b] k2 pt2) pos.line X.env = pure false := by rfl) :
    QS X W (.Assign [.Tuple [.Name x px, .Name y py] kt pt] (.Tuple [a, b] k2 pt2) pos) (sPr i j tt) := ps_weak (ps_par hc hN hi hj hij hx hy ha hw hs) fun D σ H ⟨σ', M, D', hs, hm, q, L⟩ =>
  ⟨σ', M, _, _, hs, hm, q, fun ds M1 vs H1 t1 r1 s1 ⟨d, e, ed, q1⟩ => by
    subst ed
    obtain ⟨x, y, rfl, r2, r3⟩ := two_of r1
    exact ⟨x, y, rfl, L.nx _ M1 _ H1 t1 (((hs.mono t1).set i r2).set j r3) s1 q1⟩, L.x hs⟩
def sPr3 (i j l : Nat) (ta : TA2) : TS2 := fun D σ M => ta σ M (fun ds M1 => ∃ d e f, ds = [d, e, f] ∧ D.nx (((σ.set i (some d)).set j (some e)).set l (some f)) M1) (D.xx σ)
theorem qs_par3 {i j l : Nat} {x y z : Str} {px py pz pt : Pos} {kt k2 pt2} (hc : X.calm = true) (hN : X.N.Nodup) (hij : i ≠ j) (hil : i ≠ l) (hjl : j ≠ l) (ha : QA X W [a, b, c] tt) (hi : X.N[i]? = some x := by rfl) (hj : X.N[j]? = some y := by rfl) (hl : X.N[l]? = some z := by rfl)
    (hx : X.env.scope.names.lookup x = some .local := by rfl) (hy : X.env.scope.names.lookup y = some .local := by rfl) (hz : X.env.scope.names.lookup z = some .local := by rfl)
    (hw : swappedStores [.Tuple [.Name x px, .Name y py, .Name z pz] kt pt] (.Tuple [a, b, c] k2 pt2) X.env = pure (some [x, y, z]) := by rfl)
    (hs : swapsWithSole [.Tuple [.Name x px, .Name y py, .Name z pz] kt pt] (.Tuple [a, b, c] k2 pt2) pos.line X.env = pure false := by rfl) :
    QS X W (.Assign [.Tuple [.Name x px, .Name y py, .Name z pz] kt pt] (.Tuple [a, b, c] k2 pt2) pos) (sPr3 i j l tt) := ps_weak (ps_par3 hc hN hi hj hl hij hil hjl hx hy hz ha hw hs) fun D σ H ⟨σ', M, D', hs, hm, q, L⟩ =>
  ⟨σ', M, _, _, hs, hm, q, fun ds M1 vs H1 t1 r1 s1 ⟨d, e, f, ed, q1⟩ => by
    subst ed
    obtain ⟨x, r, rfl, r2, r5⟩ := r1
    obtain ⟨y, z, rfl, r3, r4⟩ := two_of r5
    exact ⟨x, y, z, rfl, L.nx _ M1 _ H1 t1 ((((hs.mono t1).set i r2).set j r3).set l r4) s1 q1⟩, L.x hs⟩
/-- name op= e -/
def sAu (i : Nat) (r : R22) (te : TE2) : TS2 := fun D σ M => ∃ d, σ[i]? = some (some d) ∧ te σ M (fun e M1 => r d e M1 fun z M2 => D.nx (σ.set i (some z)) M2) (D.xx σ)
theorem qs_aug {i : Nat} {x : Str} {op : Operator} {r : R22} {pos' : Pos} (hN : X.N.Nodup) (he : QE X W e te) (ho : PIp X op (lfR X.K r)) (hi : X.N[i]? = some x := by rfl) (hx : Loc X.env.scope x := by first | exact Or.inl rfl | exact Or.inr rfl)
    (hf : X.fn x = true ∨ X.env.scope.names.lookup x = some .local := by first | exact .inl rfl | exact .inr rfl | assumption) : QS X W (.AugAssign (.Name x pos') op e pos) (sAu i r te) :=
  ps_weak (ps_aug hN hi hx he ho hf) fun D σ H ⟨σ', M, D', hs, hm, ⟨d, ed, q⟩, L⟩ => by
    obtain ⟨v, ev, rv⟩ := hs.at_ i d ed
    exact ⟨v, ev, σ', M, _, _, hs, hm, q, fun e M1 y H1 t1 r1 s1 q1 => ⟨d, e, M1, _, rv.mono t1, r1, s1, q1, fun z M2 w H2 t2 r2 s2 q2 => L.nx _ M2 _ H2 (t1.trans t2) (((hs.mono t1).mono t2).set i r2) s2 q2⟩, L.x hs⟩
def sWh (c : TT2) (tb : TS2) : TS2 := fun D σ M => ∃ W : Nat → St2 → Ms → Prop, (∃ m, W m σ M) ∧ ∀ m σ M, W m σ M →
  c σ M (fun b M1 => if b = true then ∃ N : St2 → Ms → Prop, (∀ σ' M', N σ' M' → ∃ m', m' < m ∧ W m' σ' M') ∧ tb { D with nx := N, ct := N, bk := D.nx } σ M1 else D.nx σ M1) (D.xx σ)
theorem qs_while {body : List Stmt} (hp : PassesOwn (model X.prog X.w) X.A X.env X.xe) (hc : QT X W c tA) (hb : QSs X W body t) : QS X W (.While c body [] pos) (sWh tA t) := ps_weak (ps_while hp hc hb) fun D σ H ⟨σ', M, D', hs, hm, ⟨W0, ⟨m0, w0⟩, turn⟩, L⟩ => by
  refine ⟨fun m σ1 H1 => ∃ σ1' M1, Tx X.K H H1 ∧ SimS X.K H1 σ1' σ1 ∧ SimM X.K H1 M1 ∧ W0 m σ1' M1, ⟨m0, σ', M, Tx.refl, hs, hm, w0⟩, ?_⟩
  rintro m σ1 H1 ⟨σ1', M1, t1, s1, m1, w1⟩
  refine ⟨σ1', M1, _, _, s1, m1, turn m σ1' M1 w1, fun b M2 H2 t2 m2 q2 => ?_, (L.mono t1).x s1⟩
  cases b with
  | true =>
    obtain ⟨N, hN, q2⟩ := q2
    refine ⟨fun σ3 H3 => ∃ σ3' M3, Tx X.K H H3 ∧ SimS X.K H3 σ3' σ3 ∧ SimM X.K H3 M3 ∧ N σ3' M3, fun σ3 H3 ⟨σ3', M3, t3, s3, m3, n3⟩ => ?_, ?_⟩
    · obtain ⟨m', lt, w'⟩ := hN σ3' M3 n3
      exact ⟨m', lt, σ3', M3, t3, s3, m3, w'⟩
    · have T2 := t1.trans t2
      exact ⟨σ1', M2, _, s1.mono t2, m2, q2, fun σ3' M3 σ3 H3 t3 s3 m3 n3 => ⟨σ3', M3, T2.trans t3, s3, m3, n3⟩, (L.mono T2).rt, fun σ3' M3 σ3 H3 t3 s3 m3 n3 => (L.mono T2).nx σ3' M3 σ3 H3 t3 s3 m3 n3,
        fun σ3' M3 σ3 H3 t3 s3 m3 n3 => ⟨σ3', M3, T2.trans t3, s3, m3, n3⟩, (L.mono T2).ex⟩
  | false => exact L.nx σ1' M2 σ1 H2 (t1.trans t2) (s1.mono t2) m2 q2

/-! ### walks -/
structure It2 where
  go : Nat → Ms → Prop
  yld : Nat → Ms → Tr → Prop
  stop : Nat → Ms → Prop
abbrev TI2 := St2 → Ms → (It2 → Ms → Prop) → X2 → Prop
/-- the walk J over the heap is the walk J2 over the store, from H on -/
def ItOk (K : PySem.W.Frag) (H : Hp) (J : It) (J2 : It2) : Prop := ∀ H1 M, Tx K H H1 → SimM K H1 M → (∀ i, J2.stop i M → J.stop i H1) ∧ (∀ i, J2.go i M → J.go i H1) ∧
  ∀ i x H2, J2.go i M → J.yld i H1 x H2 → Tx K H1 H2 ∧ SimM K H2 M ∧ ∃ d, Rep K H2 d x ∧ J2.yld i M d
def LkI (K : PySem.W.Frag) (H : Hp) (R' : It2 → Ms → Prop) (R : It → Hp → Prop) : Prop := ∀ J2 M J H1, Tx K H H1 → SimM K H1 M → ItOk K H1 J J2 → R' J2 M → R J H1
def lfI (K : PySem.W.Frag) (W : L2.WX) (t : TI2) : TI := fun σ H R => ∃ σ' M R' E', SimS K H σ' σ ∧ SimM K H M ∧ t σ' M R' E' ∧ LkI K H R' R ∧ LkX K H E' W σ
abbrev QI (X : Cx) (W : L2.WX) (tg e : Expr) (t : TI2) : Prop := PI X tg e (lfI X.K W t)
def sFo (wi : TI2) (g : TG2) (tb : TS2) : TS2 := fun D σ M => wi σ M (fun J M1 => ∃ W : Nat → Nat → St2 → Ms → Prop, (∃ m, W 0 m σ M1) ∧ ∀ i m σ M, W i m σ M →
  (J.stop i M ∧ D.nx σ M) ∨ (J.go i M ∧ ∃ N : St2 → Ms → Prop, (∀ σ' M', N σ' M' → ∃ m', m' < m ∧ W (i + 1) m' σ' M') ∧ ∀ d, J.yld i M d → g d σ M fun σ2 M2 => tb { D with nx := N, ct := N, bk := D.nx } σ2 M2)) (D.xx σ)
theorem qs_for {body : List Stmt} {wi : TI2} (hp : PassesOwn (model X.prog X.w) X.A X.env X.xe) (hc : X.calm = true) (hi : QI X W tg e wi) (hg : QG X tg g js) (hb : QSs X W body t)
    (hs : ∀ x, foldedSetIterable e X.env x = pure x := by intro _; rfl) : QS X W (.For tg e body [] pos) (sFo wi g t) := ps_weak (ps_for hp hc hi hg hb hs) fun D σ H ⟨σ', M, D', hs, hm, q, L⟩ => by
  refine ⟨σ', M, _, _, hs, hm, q, fun J2 M1 J H1 t1 m1 ok ⟨W0, ⟨m0, w0⟩, turn⟩ => ?_, L.x hs⟩
  refine ⟨fun i m σ2 H2 => ∃ σ2' M2, Tx X.K H1 H2 ∧ SimS X.K H2 σ2' σ2 ∧ SimM X.K H2 M2 ∧ W0 i m σ2' M2, ⟨m0, σ', M1, Tx.refl, hs.mono t1, m1, w0⟩, ?_⟩
  rintro i m σ2 H2 ⟨σ2', M2, t2, s2, m2, w2⟩
  obtain ⟨o1, o2, o3⟩ := ok H2 M2 t2 m2
  rcases turn i m σ2' M2 w2 with ⟨st, q2⟩ | ⟨go, N, hN, q2⟩
  · exact .inl ⟨o1 i st, L.nx σ2' M2 σ2 H2 (t1.trans t2) s2 m2 q2⟩
  · refine .inr ⟨o2 i go, fun σ3 H3 => ∃ σ3' M3, Tx X.K H1 H3 ∧ SimS X.K H3 σ3' σ3 ∧ SimM X.K H3 M3 ∧ N σ3' M3, fun σ3 H3 ⟨σ3', M3, t3, s3, m3, n3⟩ => ?_, fun x H3 y => ?_⟩
    · obtain ⟨m', lt, w'⟩ := hN σ3' M3 n3
      exact ⟨m', lt, σ3', M3, t3, s3, m3, w'⟩
    · obtain ⟨t3, m3, d, rd, yd⟩ := o3 i x H3 go y
      have T3 := t2.trans t3
      exact ⟨d, σ2', M2, _, rd, s2.mono t3, m3, q2 d yd, fun σ4' M4 σ4 H4 t4 s4 m4 _ q4 => ⟨σ4', M4, _, s4, m4, q4, fun σ5' M5 σ5 H5 t5 s5 m5 n5 => ⟨σ5', M5, (T3.trans t4).trans t5, s5, m5, n5⟩,
        (L.mono (t1.trans (T3.trans t4))).rt, fun σ5' M5 σ5 H5 t5 s5 m5 n5 => (L.mono (t1.trans (T3.trans t4))).nx σ5' M5 σ5 H5 t5 s5 m5 n5, fun σ5' M5 σ5 H5 t5 s5 m5 n5 => ⟨σ5', M5, (T3.trans t4).trans t5, s5, m5, n5⟩, (L.mono (t1.trans (T3.trans t4))).ex⟩⟩
/-- items known ahead, while ok -/
def itL (ds : List Tr) (ok : Ms → Prop) : It2 := ⟨fun i M => ok M ∧ i < ds.length, fun i _ d => ds[i]? = some d, fun i M => ok M ∧ ds.length ≤ i⟩
theorem for_itL {ds : List Tr} {ok : Ms → Prop} {D : Ends2} {σ : St2} {M : Ms} (Pv : Nat → St2 → Ms → Prop) (h0 : Pv 0 σ M) (hok : ∀ i σ M, i ≤ ds.length → Pv i σ M → ok M)
    (hs : ∀ i d σ M, ds[i]? = some d → Pv i σ M → g d σ M fun σ2 M2 => t { D with nx := Pv (i + 1), ct := Pv (i + 1), bk := D.nx } σ2 M2) (hd : ∀ σ M, Pv ds.length σ M → D.nx σ M) :
    ∃ W : Nat → Nat → St2 → Ms → Prop, (∃ m, W 0 m σ M) ∧ ∀ i m σ M, W i m σ M → ((itL ds ok).stop i M ∧ D.nx σ M) ∨ ((itL ds ok).go i M ∧ ∃ N : St2 → Ms → Prop, (∀ σ' M', N σ' M' → ∃ m', m' < m ∧ W (i + 1) m' σ' M') ∧
      ∀ d, (itL ds ok).yld i M d → g d σ M fun σ2 M2 => t { D with nx := N, ct := N, bk := D.nx } σ2 M2) := by
  refine ⟨fun i m σ M => m = ds.length - i ∧ i ≤ ds.length ∧ Pv i σ M, ⟨ds.length, by simp, Nat.zero_le _, h0⟩, ?_⟩
  rintro i m σ M ⟨rfl, hi, p⟩
  by_cases lt : i < ds.length
  · exact .inr ⟨⟨hok i σ M hi p, lt⟩, Pv (i + 1), fun σ' M' p' => ⟨ds.length - (i + 1), by omega, rfl, lt, p'⟩, fun d y => hs i d σ M y p⟩
  · have e : i = ds.length := by omega
    subst e
    exact .inl ⟨⟨hok _ σ M hi p, Nat.le_refl _⟩, hd σ M p⟩
end
end T

/-! T, fifth part: what is walked. -/
namespace T
open PySem PySem.Spec L2

/-! ### enumerate(x) of one argument, x begun by an iterator -/
theorem enum1_new {v : Value} {o : Obj} {Hh : Heap → Prop} (B : Begins v o Hh) :
    Meets (Builtin.«enumerate.__new__» ⟨[.type "enumerate", v], []⟩) (fun _ R s => Hh s.heap ∧
      R (.ok (.ret (.ref (s.heap.push o).objs.size))) { s with heap := (s.heap.push o).push { cls := .type "enumerate", data := .fields #[.none, .bool false, .ref s.heap.objs.size, rawInt 0, .none, .none] } }) := by
  refine .of_wp fun prog w A R s hh => ?_
  obtain ⟨hp, g, d, tk, os⟩ := s
  obtain ⟨h1, h⟩ := hh
  have sb := sub_enumerate
  have it1 : ∀ {A1 : Around} {E1 : Value → Shared → Prop} {Q1 : Value → Shared → Prop}, Q1 (.ref hp.objs.size) ⟨hp.push o, g, d, tk, os⟩ → wpAny (model prog w) A1 (pyIter v) Q1 E1 ⟨hp, g, d, tk, os⟩ :=
    fun q => B.iter prog w _ _ ⟨hp, g, d, tk, os⟩ _ h1 q
  wp_walk using it1
  refine wpAny_stack_any fun st => wpAny_pure ?_
  split
  · rename_i c _ _ _ _ _
    cases (c == Value.type "enumerate")
    · wp_walk using it1
      exact ⟨_, rfl, h⟩
    · wp_walk using it1
      exact ⟨_, rfl, h⟩
  · wp_walk using it1
    exact ⟨_, rfl, h⟩
theorem enum1_call {prog : Program} {w : World} {A : Around} {E : Value → Shared → Prop} {s : Shared} {v : Value} {o : Obj} {Hh : Heap → Prop} {Q : Value → Shared → Prop} (B : Begins v o Hh) (h1 : Hh s.heap)
    (h : ∀ h', IsEnum h' (s.heap.objs.size + 1) s.heap.objs.size 0 .none → h'.get? s.heap.objs.size = some o → (∀ b ob, s.heap.get? b = some ob → h'.get? b = some ob) → Q (.ref (s.heap.objs.size + 1)) { s with heap := h' }) :
    wpAny (model prog w) A (call (.type "enumerate") [v]) Q E s := by
  refine callType_new F.called_enumerate (by decide) (F.typeCall_enumerate_1 _) (F.newCall_enumerate_1 _) (fun obj => F.args_object_init_2 obj _) F.entry_enumerate_new (enum1_new B) ⟨h1, ?_⟩
  have hz : (s.heap.push o).objs.size = s.heap.objs.size + 1 := Heap.size_push ..
  show _ ∧ _
  rw [hz]
  have he : IsEnum ((s.heap.push o).push { cls := .type "enumerate", data := .fields #[.none, .bool false, .ref s.heap.objs.size, rawInt 0, .none, .none] }) (s.heap.objs.size + 1) s.heap.objs.size 0 .none := by
    have := Heap.get?_push_size (s.heap.push o) (o := { cls := .type "enumerate", data := .fields #[.none, .bool false, .ref s.heap.objs.size, rawInt 0, .none, .none] }) rfl
    rw [hz] at this; exact this
  exact ⟨⟨_, he, rfl⟩, h _ he (Heap.get?_push_of_some _ (Heap.get?_push_size _ B.free)) fun b ob x => Heap.get?_push_of_some _ (Heap.get?_push_of_some _ x)⟩
/-- the tuple at a, each item in a new pair -/
def IteT (K : PySem.W.Frag) (a : Addr) : It where
  go := fun i H => ∃ (xs : List V) (x : V), SqT K H a xs ∧ xs[i]? = some x
  yld := fun i H v H' => ∃ (T : Addr) (x : V), v = .ref T ∧ H T = none ∧ H' = upd H T (.tup [.int (i : Nat), x]) ∧ ∀ xs, SqT K H a xs → xs[i]? = some x
  stop := fun i H => ∃ xs : List V, SqT K H a xs ∧ xs.length ≤ i
theorem turn_enumT {P : Program} {w : World} {K : PySem.W.Frag} {elts : List Expr} {kk : Nat} {tpos : Pos} (a e it : Addr) :
    Turn P w K (.Tuple elts kk tpos) (IteT K a) [e, it] e (fun i h => (∃ old, IsEnum h e it ((i : Nat) : Int) old) ∧ h.IsTupleIter it a i ∧ e ≠ it) where
  mem := by simp
  obj := by
    rintro i h ⟨⟨old, he⟩, ⟨o, ho, hc, hd⟩, _⟩ b hb
    have c : b = e ∨ b = it := by simpa using hb
    rcases c with rfl | rfl
    · exact ⟨_, he, fun v q => nomatch q⟩
    · exact ⟨o, ho, fun v q => by rw [hd] at q; cases q⟩
  keep := by
    rintro i h h' ⟨⟨old, he⟩, ⟨o, ho, r⟩, hne⟩ k
    exact ⟨⟨old, k e (by simp) _ he⟩, ⟨o, k it (by simp) _ ho, r⟩, hne⟩
  item := by
    intro X hP hw hK hc i pins s σ H E I hf st hg
    subst hP hw hK
    obtain ⟨⟨old, he⟩, hit, hne⟩ := st
    obtain ⟨xs, x, hq, hx⟩ := hg
    obtain ⟨its, rv, p, hz⟩ := I.tuple hq
    obtain ⟨u, hu, ru⟩ := rv.get hx
    have hel : e < s.heap.objs.size := Heap.lt_size he
    have hil : it < s.heap.objs.size := by obtain ⟨_, q, _⟩ := hit; exact Heap.lt_size q
    have p' : s.heap.IsTuple a its.toArray := p
    have hai : a ≠ it := by
      rintro rfl
      obtain ⟨o1, e1, c1, _⟩ := p'
      obtain ⟨o2, e2, c2, _⟩ := hit
      rw [e1] at e2; cases e2
      rw [c1] at c2; injection c2 with c3; exact absurd c3 (by decide)
    have hea : e ≠ a := by
      rintro rfl
      obtain ⟨o1, e1, c1, _⟩ := p'
      rw [he] at e1; cases e1
      injection c1 with c3; exact absurd c3 (by decide)
    have hlt : i < its.toArray.size := by
      have := (List.getElem?_eq_some_iff.mp hu).1
      simpa using this
    refine wpAny_pyNext_enum_itemD (Draws.tuple (A := X.A.in1) (show X.A.in1.handled = none from I.ok.hd hc) it a hai its.toArray) he ⟨hit, p'⟩ hlt hne (by simp [hne, hea]) fun y h' tk hy ho st' hT hsz hk => ?_
    have hyu : y = u := by
      have q1 : its[i]? = some y := by simpa using hy
      rw [hu] at q1; exact (Option.some.inj q1).symm
    subst hyu
    refine ⟨_, rfl, wpAny_letOwnedTupleGo_enum (s := { s with heap := h', toks := tk + 1 }) ho fun h'' he' sb => ?_⟩
    have hT2 : h''.get? s.heap.objs.size = some { cls := .type "tuple", data := .seq #[.int i tk, y] } := (sb.2 _ (Nat.ne_of_gt hel)).trans hT
    have new : ObjOk X.prog X.w (upd H s.heap.objs.size (.tup [.int (i : Nat), x])) h'' s.heap.objs.size (.tup [.int (i : Nat), x]) :=
      ⟨by show 2 ≤ sizeLine; decide, [.int i tk, y], .cons ⟨_, rfl⟩ (.cons ru .nil), ⟨_, hT2, rfl, _, rfl⟩⟩
    have I1 : Inv X pins σ (upd H s.heap.objs.size (.tup [.int (i : Nat), x])) { s with heap := h'', toks := tk + 1 } :=
      I.turnedNew (ch := [e, it]) (fun b ob hb q => (sb.2 b (fun z => hb (by simp [z]))).trans (hk b ob (fun z => hb (by simp [z])) (fun z => hb (by simp [z])) q)) hf (Nat.le_refl _) new
    refine ⟨.ref s.heap.objs.size, _, I1, rfl, ⟨_, x, rfl, I.hok.fresh (Nat.le_refl _), rfl, fun ys hy => by rw [I.tuple_inj hy hq]; exact hx⟩, ⟨⟨y, ?_⟩, ?_, hne⟩, fun b hb => ?_⟩
    · have e1 : ((i + 1 : Nat) : Int) = (i : Int) + 1 := by omega
      rw [e1]; exact he'
    · obtain ⟨o, q, r⟩ := st'.1
      exact ⟨o, (sb.2 it (Ne.symm hne)).trans q, r⟩
    · have hb' : b < s.heap.objs.size := by
        have c : b = e ∨ b = it := by simpa using hb
        rcases c with rfl | rfl
        · exact hel
        · exact hil
      rw [upd_ne (Nat.ne_of_lt hb')]
      exact (hf b hb).1
  done := by
    intro X hP hw hK hc i pins s σ H E I hf st hg
    subst hP hw hK
    obtain ⟨⟨old, he⟩, hit, hne⟩ := st
    obtain ⟨xs, hq, hx⟩ := hg
    obtain ⟨its, rv, p, hz⟩ := I.tuple hq
    have p' : s.heap.IsTuple a its.toArray := p
    have hai : a ≠ it := by
      rintro rfl
      obtain ⟨o1, e1, c1, _⟩ := p'
      obtain ⟨o2, e2, c2, _⟩ := hit
      rw [e1] at e2; cases e2
      rw [c1] at c2; injection c2 with c3; exact absurd c3 (by decide)
    obtain ⟨f0, f1, f2, f3, f4, f5⟩ := hf it (by simp)
    have hl := rv.length
    -- the end: no item at i
    have hT : s.TypeIs (.ref e) "enumerate" := ⟨_, he, rfl⟩
    unfold pyNext
    refine wpAny_bind (wpAny_attempt (wpAny_callSpecial?_slot (name := Str.ofString "__next__") hT F.slot_enumerate_next
      (wpAny_call_entry F.slot_enumerate_next hT F.entry_enumerate_next ?_ (F.args_enumerate_next_1 _))))
    show wpAny _ _ (field (.ref e) 2 >>= _) _ _ _
    refine wpAny_bind (wpAny_field he rfl (x := .ref it) rfl ?_)
    refine wpAny_bind (wpAny_nextOf_tuple_end (show X.A.in1.handled = none from I.ok.hd hc) hit p' (by simp; omega) fun h' x eb hx' => ?_)
    obtain ⟨o, ho, hcl⟩ := hx'
    refine wpAny_bind (wpAny_isInstance (T := "StopIteration") (b := true) ⟨o, ho, hcl⟩ isSubtype_stop ?_)
    exact wpAny_pure ⟨rfl, I.turned (t' := s.toks) (fun b ob hb q => eb b ob hb q) f0 f1 f3 f4 f5⟩
  self := by
    rintro A i s Q E ⟨⟨_, he⟩, _⟩ h
    exact wpAny_pyIter_enum he h
section
variable {X : Cx}
/-- enumerate(x), x a list or a tuple -/
def iEnumA (K : PySem.W.Frag) (ta : TA) : TI := fun σ H R => ta σ H fun vs H1 => ∃ a xs, vs = [.ref a] ∧ ((SqL K H1 a xs ∧ R (Ite K a) H1) ∨ (SqT K H1 a xs ∧ R (IteT K a) H1))
theorem pi_enumA {e : Expr} {ta : TA} {p pos tpos : Pos} {elts : List Expr} {kk : Nat} (hg : Gl X "enumerate") (hm : X.mg "enumerate" = none) (ha : PA X [e] ta) (hs : starEach [e] X.env = [(false, eval e X.env)] := by rfl) :
    PI X (.Tuple elts kk tpos) (.Call (.Name "enumerate" p) [e] [] pos) (iEnumA X.K ta) := by
  refine ⟨fun pins s σ H R I h => ?_⟩
  refine PyProof.Rows.Call_ (ld_blt I hg hm PyProof.Rows.boot_enumerate (PyProof.Rows.callWith_type1 (thn (ha.run pos pins s σ H _ I h) fun us s1 ⟨vs, H1, I1, r1, q1⟩ => ?_) hs rfl))
  obtain ⟨a, xs, ex, hq⟩ := q1
  subst ex
  cases r1 with
  | cons r rr =>
    cases rr
    cases r
    have fp2 : ∀ b ∈ [s1.heap.objs.size + 1, s1.heap.objs.size], FpOk X pins H1 b := fun b hb => by
      have c : b = s1.heap.objs.size + 1 ∨ b = s1.heap.objs.size := by simpa using hb
      have hle : s1.heap.objs.size ≤ b := by
        rcases c with z | z
        · rw [z]; exact Nat.le_add_right _ _
        · rw [z]; exact Nat.le_refl _
      exact I1.fpOk hle (I1.hok.fresh hle)
    rcases hq with ⟨hq, q⟩ | ⟨hq, q⟩
    · obtain ⟨its, rv, p', hz⟩ := I1.list hq
      refine enum1_call (begins_list a its.toArray) p'.isList fun h' he ho hk => wpAny_pyIter_enum he ?_
      exact ⟨s1.heap.objs.size + 1, [s1.heap.objs.size + 1, s1.heap.objs.size], _, _, H1, rfl, I1.kept (t' := s1.toks) hk, turn_enum a (s1.heap.objs.size + 1) s1.heap.objs.size, ⟨⟨.none, he⟩, ⟨_, ho, rfl, rfl⟩, Nat.succ_ne_self _⟩, fp2, q⟩
    · obtain ⟨its, rv, p', hz⟩ := I1.tuple hq
      refine enum1_call (begins_tuple a its.toArray) p' fun h' he ho hk => wpAny_pyIter_enum he ?_
      exact ⟨s1.heap.objs.size + 1, [s1.heap.objs.size + 1, s1.heap.objs.size], _, _, H1, rfl, I1.kept (t' := s1.toks) hk, turn_enumT a (s1.heap.objs.size + 1) s1.heap.objs.size, ⟨⟨.none, he⟩, ⟨_, ho, rfl, rfl⟩, Nat.succ_ne_self _⟩, fp2, q⟩
/-- a list, a tuple or a text walked -/
def iAny (K : PySem.W.Frag) (te : TE) : TI := fun σ H R => te σ H fun x H1 => (∃ a xs, x = .ref a ∧ ((SqL K H1 a xs ∧ R (Itl K a) H1) ∨ (SqT K H1 a xs ∧ R (Itt K a) H1))) ∨ ∃ z, x = .str z ∧ R (Its z) H1
theorem pi_any {tg l : Expr} {te : TE} (hl : PE X l te) : PI X tg l (iAny X.K te) := by
  refine ⟨fun pins s σ H R I h => ?_⟩
  refine thn (hl.run pins s σ H _ I h) fun v s1 ⟨x, H1, I1, r1, q1⟩ => ?_
  rcases q1 with ⟨a, xs, e, q1⟩ | ⟨z, e, q1⟩
  · subst e
    cases r1
    have fp1 : ∀ b ∈ [s1.heap.objs.size], FpOk X pins H1 b := fun b hb => by
      have e : b = s1.heap.objs.size := by simpa using hb
      subst e
      exact I1.fpOk (Nat.le_refl _) (I1.hok.fresh (Nat.le_refl _))
    rcases q1 with ⟨hq, q⟩ | ⟨hq, q⟩
    · obtain ⟨its, rv, p, hz⟩ := I1.list hq
      refine wpAny_pyIter_list p.isList ?_
      exact ⟨s1.heap.objs.size, [s1.heap.objs.size], _, _, H1, rfl, I1.kept (t' := s1.toks) fun b o e => Heap.get?_push_of_some _ e, turn_list a _, ⟨_, Heap.get?_push_size _ rfl, rfl, rfl⟩, fp1, q⟩
    · obtain ⟨its, rv, p, hz⟩ := I1.tuple hq
      refine wpAny_pyIter_tuple (show s1.heap.IsTuple a its.toArray from p) ?_
      exact ⟨s1.heap.objs.size, [s1.heap.objs.size], _, _, H1, rfl, I1.kept (t' := s1.toks) fun b o e => Heap.get?_push_of_some _ e, turn_tuple a _, ⟨_, Heap.get?_push_size _ rfl, rfl, rfl⟩, fp1, q⟩
  · subst e
    obtain ⟨t, rfl⟩ := r1
    refine wpAny_pyIter_strU ?_
    refine pi_one (tk := s1.toks) I1 _ (turn_str s1.heap.objs.size z t (strIterType z) ?_) ⟨_, Heap.get?_push_size _ rfl, rfl, rfl⟩ q1
    unfold strIterType
    split
    · exact .inl rfl
    · exact .inr rfl
end
end T

/-! T, sixth part: walks and comprehensions over trees, calls, defs, errors, the law's end. -/
namespace T
open PySem PySem.Spec L2
section
variable {X : Cx} {W : L2.WX} {pos p : Pos} {tg e a b c : Expr} {es : List Expr} {te ta tb : TE2} {tt : TA2}

/-! ### what is walked -/
/-- the items of a tree: a tuple's, a list's, the signs of a text -/
def seqS : Tr → Ms → Option (List Tr)
  | .str z, _ => some (z.cps.toList.map fun k => .str ⟨#[k]⟩)
  | d, M => seqT d M
def iSq (te : TE2) : TI2 := fun σ M R E => te σ M (fun d M1 => ∃ ds, seqS d M1 = some ds ∧ R (itL ds fun M => seqS d M = some ds) M1) E
theorem itl_ok {K : PySem.W.Frag} {H : Hp} {a : Addr} {d : Tr} {ds : List Tr} (h : ∀ H1 M, Tx K H H1 → SimM K H1 M → seqS d M = some ds → ∃ xs, SqL K H1 a xs ∧ RepL K H1 ds xs) : ItOk K H (Itl K a) (itL ds fun M => seqS d M = some ds) := fun H1 M t sm => by
  refine ⟨fun i ⟨o, hi⟩ => ?_, fun i ⟨o, hi⟩ => ?_, fun i x H2 ⟨o, hi⟩ ⟨e, y⟩ => ?_⟩
  · obtain ⟨xs, sq, rl⟩ := h H1 M t sm o
    exact ⟨xs, sq, by rw [← rl.len]; exact hi⟩
  · obtain ⟨xs, sq, rl⟩ := h H1 M t sm o
    obtain ⟨x, e, _⟩ := rl.get (i := i) (d := ds[i]) (by simp [hi])
    exact ⟨xs, x, sq, e⟩
  · subst e
    obtain ⟨xs, sq, rl⟩ := h _ M t sm o
    obtain ⟨d', e', r⟩ := rl.back (y xs sq)
    exact ⟨Tx.refl, sm, d', r, e'⟩
theorem itt_ok {K : PySem.W.Frag} {H : Hp} {a : Addr} {ds : List Tr} {ok : Ms → Prop} (h : ∀ H1, Tx K H H1 → ∃ xs, SqT K H1 a xs ∧ RepL K H1 ds xs) : ItOk K H (Itt K a) (itL ds ok) := fun H1 M t sm => by
  obtain ⟨xs, sq, rl⟩ := h H1 t
  refine ⟨fun i ⟨_, hi⟩ => ⟨xs, sq, by rw [← rl.len]; exact hi⟩, fun i ⟨_, hi⟩ => ?_, fun i x H2 ⟨_, hi⟩ ⟨e, y⟩ => ?_⟩
  · obtain ⟨x, e, _⟩ := rl.get (i := i) (d := ds[i]) (by simp [hi])
    exact ⟨xs, x, sq, e⟩
  · subst e
    obtain ⟨d', e', r⟩ := rl.back (y xs sq)
    exact ⟨Tx.refl, sm, d', r, e'⟩
theorem its_ok {K : PySem.W.Frag} {H : Hp} {z : Str} {ok : Ms → Prop} : ItOk K H (Its z) (itL (z.cps.toList.map fun k => .str ⟨#[k]⟩) ok) := fun H1 M t sm => by
  refine ⟨fun i ⟨_, hi⟩ => ?_, fun i ⟨_, hi⟩ => ?_, fun i x H2 ⟨_, hi⟩ ⟨e, k, ek, ev⟩ => ?_⟩
  · show z.cps.size ≤ i
    simpa using hi
  · show i < z.cps.size
    simpa using hi
  · subst e
    subst ev
    refine ⟨Tx.refl, sm, .str ⟨#[k]⟩, rfl, ?_⟩
    show (z.cps.toList.map fun k => Tr.str ⟨#[k]⟩)[i]? = _
    rw [List.getElem?_map]
    have : z.cps.toList[i]? = some k := by simpa using ek
    rw [this]; rfl
/-- which list stands at a tree's place -/
theorem seq_cases {K : PySem.W.Frag} {H : Hp} {M : Ms} {d : Tr} {ds : List Tr} {x : V} (e : seqS d M = some ds) (r : Rep K H d x) (sm : SimM K H M) :
    (∃ a xs, x = .ref a ∧ ((SqL K H a xs ∧ ItOk K H (Itl K a) (itL ds fun M => seqS d M = some ds)) ∨ (SqT K H a xs ∧ ItOk K H (Itt K a) (itL ds fun M => seqS d M = some ds)))) ∨ ∃ z, x = .str z ∧ ItOk K H (Its z) (itL ds fun M => seqS d M = some ds) := by
  cases d with
  | str z =>
    cases r
    cases e
    exact .inr ⟨z, rfl, its_ok⟩
  | tup es =>
    obtain ⟨a, xs, rfl, q, rl⟩ := r
    cases e
    exact .inl ⟨a, xs, rfl, .inr ⟨q, itt_ok fun H1 t => ⟨xs, t.tup _ _ q, rl.mono t⟩⟩⟩
  | fro es =>
    obtain ⟨a, xs, rfl, q, rl⟩ := r
    cases e
    exact .inl ⟨a, xs, rfl, .inl ⟨q.sq, itl_ok fun H1 M t _ _ => ⟨xs, (t.fro _ _ q).sq, rl.mono t⟩⟩⟩
  | loc a =>
    cases r
    obtain ⟨xs, hx, rl⟩ := sm a _ (seqT_loc e)
    refine .inl ⟨a, xs, rfl, .inl ⟨SqL.of hx, itl_ok fun H1 M1 t sm1 e1 => ?_⟩⟩
    obtain ⟨ys, hy, rl'⟩ := sm1 a _ (seqT_loc e1)
    exact ⟨ys, SqL.of hy, rl'⟩
  | _ => cases e
theorem qi_any (he : QE X W e te) : QI X W tg e (iSq te) := pi_weak (pi_any he) fun σ H R ⟨σ', M, R', E', hs, hm, q, hq, hx⟩ =>
  ⟨σ', M, _, E', hs, hm, q, fun d M1 x H1 t1 r1 s1 ⟨ds, e1, q1⟩ => by
    rcases seq_cases e1 r1 s1 with ⟨a, xs, ex, h⟩ | ⟨z, ez, h⟩
    · refine .inl ⟨a, xs, ex, ?_⟩
      rcases h with ⟨h1, h2⟩ | ⟨h1, h2⟩
      · exact .inl ⟨h1, hq _ M1 _ H1 t1 s1 h2 q1⟩
      · exact .inr ⟨h1, hq _ M1 _ H1 t1 s1 h2 q1⟩
    · exact .inr ⟨z, ez, hq _ M1 _ H1 t1 s1 h q1⟩, hx⟩
/-- ranges -/
def itR (lo : Int) (n : Nat) : It2 := ⟨fun i _ => i < n, fun i _ d => d = .int (lo + i), fun i _ => n ≤ i⟩
theorem itr_ok {K : PySem.W.Frag} {H : Hp} {lo : Int} {n : Nat} : ItOk K H (Itr lo n) (itR lo n) := fun H1 M t sm => ⟨fun i h => h, fun i h => h, fun i x H2 _ ⟨e, y⟩ => by
  subst e
  subst y
  exact ⟨Tx.refl, sm, .int _, rfl, rfl⟩⟩
def Rg (j : Int) : Prop := -(2 ^ 62) ≤ j ∧ j < 2 ^ 62
def iRg1 (ta : TA2) : TI2 := fun σ M R E => ta σ M (fun ds M1 => ∃ j, ds = [.int j] ∧ Rg j ∧ R (itR 0 j.toNat) M1) E
def iRg2 (ta : TA2) : TI2 := fun σ M R E => ta σ M (fun ds M1 => ∃ i j, ds = [.int i, .int j] ∧ Rg i ∧ Rg j ∧ R (itR i (j - i).toNat) M1) E
theorem qi_range1 (hm : X.mg "range" = none) (ha : QA X W [a] tt) (hg : Gl X "range" := by rfl) (hs : starEach [a] X.env = [(false, eval a X.env)] := by rfl) : QI X W tg (.Call (.Name "range" p) [a] [] pos) (iRg1 tt) :=
  pi_weak (pi_range1 hg hm ha hs) fun σ H R ⟨σ', M, R', E', hs, hm, q, hq, hx⟩ => ⟨σ', M, _, E', hs, hm, q, fun ds M1 xs H1 t1 r1 s1 ⟨j, ej, hj, q1⟩ => by
    subst ej
    obtain ⟨x, rfl, r2⟩ := one_of r1
    cases r2
    exact ⟨j, rfl, hj.1, hj.2, hq _ M1 _ H1 t1 s1 itr_ok q1⟩, hx⟩
theorem qi_range2 (hm : X.mg "range" = none) (ha : QA X W [a, b] tt) (hg : Gl X "range" := by rfl) (hs : starEach [a, b] X.env = [(false, eval a X.env), (false, eval b X.env)] := by rfl) (hs2 : starEach [b] X.env = [(false, eval b X.env)] := by rfl) : QI X W tg (.Call (.Name "range" p) [a, b] [] pos) (iRg2 tt) :=
  pi_weak (pi_range2 hg hm ha hs hs2) fun σ H R ⟨σ', M, R', E', hs, hm, q, hq, hx⟩ => ⟨σ', M, _, E', hs, hm, q, fun ds M1 xs H1 t1 r1 s1 ⟨i, j, ej, hi, hj, q1⟩ => by
    subst ej
    obtain ⟨x, y, rfl, r2, r3⟩ := two_of r1
    cases r2; cases r3
    exact ⟨i, j, rfl, ⟨hi.1, hi.2, hj.1, hj.2⟩, hq _ M1 _ H1 t1 s1 itr_ok q1⟩, hx⟩
/-- enumerate -/
def itE (ds : List Tr) (ok : Ms → Prop) : It2 := ⟨fun i M => ok M ∧ i < ds.length, fun i _ d => ∃ e, ds[i]? = some e ∧ d = .tup [.int i, e], fun i M => ok M ∧ ds.length ≤ i⟩
def iEn (ta : TA2) : TI2 := fun σ M R E => ta σ M (fun es M1 => ∃ d ds, es = [d] ∧ seqT d M1 = some ds ∧ R (itE ds fun M => seqT d M = some ds) M1) E
theorem pair_rep {K : PySem.W.Frag} {H : Hp} {M : Ms} {i : Nat} {x : V} {d : Tr} {T : Addr} (hT : H T = none) (r : Rep K H d x) (sm : SimM K H M) :
    Tx K H (upd H T (.tup [.int (i : Nat), x])) ∧ SimM K (upd H T (.tup [.int (i : Nat), x])) M ∧ Rep K (upd H T (.tup [.int (i : Nat), x])) (.tup [.int i, d]) (.ref T) :=
  ⟨Tx.new hT, sm.hid hT, T, _, rfl, SqT.of upd_same, .int i, [x], rfl, rfl, x, [], rfl, r.mono (Tx.new hT), rfl⟩
theorem ite_ok {K : PySem.W.Frag} {H : Hp} {a : Addr} {d : Tr} {ds : List Tr} (h : ∀ H1 M, Tx K H H1 → SimM K H1 M → seqT d M = some ds → ∃ xs, SqL K H1 a xs ∧ RepL K H1 ds xs) : ItOk K H (Ite K a) (itE ds fun M => seqT d M = some ds) := fun H1 M t sm => by
  refine ⟨fun i ⟨o, hi⟩ => ?_, fun i ⟨o, hi⟩ => ?_, fun i x H2 ⟨o, hi⟩ ⟨T, y, ex, hT, e, hy⟩ => ?_⟩
  · obtain ⟨xs, sq, rl⟩ := h H1 M t sm o
    exact ⟨xs, sq, by rw [← rl.len]; exact hi⟩
  · obtain ⟨xs, sq, rl⟩ := h H1 M t sm o
    obtain ⟨x, e, _⟩ := rl.get (i := i) (d := ds[i]) (by simp [hi])
    exact ⟨xs, x, sq, e⟩
  · subst e
    subst ex
    obtain ⟨xs, sq, rl⟩ := h _ M t sm o
    obtain ⟨d', e', r⟩ := rl.back (hy xs sq)
    obtain ⟨p1, p2, p3⟩ := pair_rep (i := i) hT r sm
    exact ⟨p1, p2, _, p3, d', e', rfl⟩
theorem itet_ok {K : PySem.W.Frag} {H : Hp} {a : Addr} {ds : List Tr} {ok : Ms → Prop} (h : ∀ H1, Tx K H H1 → ∃ xs, SqT K H1 a xs ∧ RepL K H1 ds xs) : ItOk K H (IteT K a) (itE ds ok) := fun H1 M t sm => by
  obtain ⟨xs, sq, rl⟩ := h H1 t
  refine ⟨fun i ⟨_, hi⟩ => ⟨xs, sq, by rw [← rl.len]; exact hi⟩, fun i ⟨_, hi⟩ => ?_, fun i x H2 ⟨_, hi⟩ ⟨T, y, ex, hT, e, hy⟩ => ?_⟩
  · obtain ⟨x, e, _⟩ := rl.get (i := i) (d := ds[i]) (by simp [hi])
    exact ⟨xs, x, sq, e⟩
  · subst e
    subst ex
    obtain ⟨d', e', r⟩ := rl.back (hy xs sq)
    obtain ⟨p1, p2, p3⟩ := pair_rep (i := i) hT r sm
    exact ⟨p1, p2, _, p3, d', e', rfl⟩
theorem qi_enum {elts : List Expr} {kk : Nat} {tpos : Pos} (hm : X.mg "enumerate" = none) (ha : QA X W [e] tt) (hg : Gl X "enumerate" := by rfl) (hs : starEach [e] X.env = [(false, eval e X.env)] := by rfl) :
    QI X W (.Tuple elts kk tpos) (.Call (.Name "enumerate" p) [e] [] pos) (iEn tt) := pi_weak (pi_enumA hg hm ha hs) fun σ H R ⟨σ', M, R', E', hs, hm, q, hq, hx⟩ =>
  ⟨σ', M, _, E', hs, hm, q, fun es M1 xs H1 t1 r1 s1 ⟨d, ds, ee, e1, q1⟩ => by
    subst ee
    obtain ⟨x, rfl, r2⟩ := one_of r1
    cases d with
    | tup es =>
      obtain ⟨a, xs, rfl, q, rl⟩ := r2
      cases e1
      exact ⟨a, xs, rfl, .inr ⟨q, hq _ M1 _ H1 t1 s1 (itet_ok fun H2 t => ⟨xs, t.tup _ _ q, rl.mono t⟩) q1⟩⟩
    | fro es =>
      obtain ⟨a, xs, rfl, q, rl⟩ := r2
      cases e1
      exact ⟨a, xs, rfl, .inl ⟨q.sq, hq _ M1 _ H1 t1 s1 (ite_ok fun H2 M2 t _ _ => ⟨xs, (t.fro _ _ q).sq, rl.mono t⟩) q1⟩⟩
    | loc a =>
      cases r2
      obtain ⟨xs, hx, rl⟩ := s1 a _ (seqT_loc e1)
      refine ⟨a, xs, rfl, .inl ⟨SqL.of hx, hq _ M1 _ H1 t1 s1 (ite_ok fun H2 M2 t sm2 e2 => ?_) q1⟩⟩
      obtain ⟨ys, hy, rl'⟩ := sm2 a _ (seqT_loc e2)
      exact ⟨ys, SqL.of hy, rl'⟩
    | _ => exact absurd e1 (by intro z; cases z), hx⟩
theorem for_itE {g : TG2} {t : TS2} {ds : List Tr} {ok : Ms → Prop} {D : Ends2} {σ : St2} {M : Ms} (Pv : Nat → St2 → Ms → Prop) (h0 : Pv 0 σ M) (hok : ∀ i σ M, i ≤ ds.length → Pv i σ M → ok M)
    (hs : ∀ i d σ M, ds[i]? = some d → Pv i σ M → g (.tup [.int i, d]) σ M fun σ2 M2 => t { D with nx := Pv (i + 1), ct := Pv (i + 1), bk := D.nx } σ2 M2) (hd : ∀ σ M, Pv ds.length σ M → D.nx σ M) :
    ∃ W : Nat → Nat → St2 → Ms → Prop, (∃ m, W 0 m σ M) ∧ ∀ i m σ M, W i m σ M → ((itE ds ok).stop i M ∧ D.nx σ M) ∨ ((itE ds ok).go i M ∧ ∃ N : St2 → Ms → Prop, (∀ σ' M', N σ' M' → ∃ m', m' < m ∧ W (i + 1) m' σ' M') ∧
      ∀ d, (itE ds ok).yld i M d → g d σ M fun σ2 M2 => t { D with nx := N, ct := N, bk := D.nx } σ2 M2) := by
  refine ⟨fun i m σ M => m = ds.length - i ∧ i ≤ ds.length ∧ Pv i σ M, ⟨ds.length, by simp, Nat.zero_le _, h0⟩, ?_⟩
  rintro i m σ M ⟨rfl, hi, p⟩
  by_cases lt : i < ds.length
  · refine .inr ⟨⟨hok i σ M hi p, lt⟩, Pv (i + 1), fun σ' M' p' => ⟨ds.length - (i + 1), by omega, rfl, lt, p'⟩, fun d y => ?_⟩
    obtain ⟨e, e1, e2⟩ := y
    subst e2
    exact hs i e σ M e1 p
  · have e : i = ds.length := by omega
    subst e
    exact .inl ⟨⟨hok _ σ M hi p, Nat.le_refl _⟩, hd σ M p⟩
theorem for_itR {g : TG2} {t : TS2} {lo : Int} {n : Nat} {D : Ends2} {σ : St2} {M : Ms} (Pv : Nat → St2 → Ms → Prop) (h0 : Pv 0 σ M)
    (hs : ∀ (i : Nat) σ M, i < n → Pv i σ M → g (.int (lo + i)) σ M fun σ2 M2 => t { D with nx := Pv (i + 1), ct := Pv (i + 1), bk := D.nx } σ2 M2) (hd : ∀ σ M, Pv n σ M → D.nx σ M) :
    ∃ W : Nat → Nat → St2 → Ms → Prop, (∃ m, W 0 m σ M) ∧ ∀ i m σ M, W i m σ M → ((itR lo n).stop i M ∧ D.nx σ M) ∨ ((itR lo n).go i M ∧ ∃ N : St2 → Ms → Prop, (∀ σ' M', N σ' M' → ∃ m', m' < m ∧ W (i + 1) m' σ' M') ∧
      ∀ d, (itR lo n).yld i M d → g d σ M fun σ2 M2 => t { D with nx := N, ct := N, bk := D.nx } σ2 M2) := by
  refine ⟨fun i m σ M => m = n - i ∧ i ≤ n ∧ Pv i σ M, ⟨n, by simp, Nat.zero_le _, h0⟩, ?_⟩
  rintro i m σ M ⟨rfl, hi, p⟩
  by_cases lt : i < n
  · refine .inr ⟨lt, Pv (i + 1), fun σ' M' p' => ⟨n - (i + 1), by omega, rfl, lt, p'⟩, fun d y => ?_⟩
    have y' : d = .int (lo + i) := y
    subst y'
    exact hs i σ M lt p
  · have e : i = n := by omega
    subst e
    exact .inl ⟨Nat.le_refl _, hd σ M p⟩

/-! ### comprehensions -/
abbrev W0 : L2.WX := fun _ _ _ _ => False
def wipe2 (σ : St2) : List Nat → St2
  | [] => σ
  | v :: vs => (wipe2 σ vs).set v none
theorem SimS.wipe {K : PySem.W.Frag} {H : Hp} {σ' : St2} {σ : L2.St} (h : SimS K H σ' σ) : ∀ vs : List Nat, SimS K H (wipe2 σ' vs) (L2.wipe σ vs)
  | [] => h
  | v :: vs => (h.wipe vs).none v
def tYes2 : TT2 := fun _ M Q _ => Q true M
abbrev QTs (X : Cx) (ifs : List Expr) (t : TT2) : Prop := PTs X ifs (lfT X.K W0 t)
theorem pts_weak {ifs : List Expr} {t t' : TT} (h : PTs X ifs t) (w : ∀ σ H Q, t' σ H Q → t σ H Q) : PTs X ifs t' := ⟨fun pins s σ H Q I q => h.run pins s σ H Q I (w σ H Q q)⟩
theorem qts_nil : QTs X [] tYes2 := pts_weak pts_nil fun σ H Q ⟨σ', M, Q', E', hs, hm, q, hq, hx⟩ => hq true M H Tx.refl hm q
theorem qts_one {t : TT2} (h : QT X W0 c t) : QTs X [c] t := pts_one h
def eLc (wi : TI2) (g : TG2) (tt : TT2) (te : TE2) (vs : List Nat) : TE2 := fun σ M Q E => wi σ M (fun J M1 => ∀ p, M1 p = none → ∃ W : Nat → Nat → Ms → Prop, (∃ m, W 0 m (up M1 p (.lst []))) ∧ ∀ i m M, W i m M →
  (J.stop i M ∧ Q (.loc p) M) ∨ (J.go i M ∧ ∃ N : Ms → Prop, (∀ M', N M' → ∃ m', m' < m ∧ W (i + 1) m' M') ∧ ∀ d, J.yld i M d → g d (wipe2 σ vs) M fun σ2 M2 => tt σ2 M2 (fun b M3 =>
    if b = true then te σ2 M3 (fun y M4 => ∃ acc, M4 p = some (.lst acc) ∧ acc.length < sizeLine ∧ N (up M4 p (.lst (acc ++ [y])))) X0 else N M3) X0)) E
theorem lc_low {K : PySem.W.Frag} {wi : TI2} {g : TG2} {js vs : List Nat} {t : TT2} {σ : L2.St} {H : Hp} {Q : VK} (hv : ∀ i ∈ js, i ∈ vs) (h : lfE K W (eLc wi g t te vs) σ H Q) : tLc (lfI K W wi) (lfG K js g) (lfT K W0 t) (lfE K W0 te) vs σ H Q := by
  obtain ⟨σ', M, Q', E', hs, hm, q, hq, hx⟩ := h
  refine ⟨σ', M, _, E', hs, hm, q, fun J2 M1 J H1 t1 m1 ok r D hD => ?_, hx⟩
  obtain ⟨V0, ⟨n0, w0⟩, turn⟩ := r D (m1.free hD)
  refine ⟨fun i m H2 => ∃ M2, Tx K H1 H2 ∧ SimM K H2 M2 ∧ V0 i m M2, ⟨n0, _, Tx.new hD, m1.newL hD RepL.nil, w0⟩, ?_⟩
  rintro i m H2 ⟨M2, t2, m2, w2⟩
  obtain ⟨o1, o2, o3⟩ := ok H2 M2 t2 m2
  rcases turn i m M2 w2 with ⟨st, q2⟩ | ⟨go, N, hN, q2⟩
  · exact .inl ⟨o1 i st, hq (.loc D) M2 (.ref D) H2 (t1.trans t2) rfl m2 q2⟩
  · refine .inr ⟨o2 i go, fun H3 => ∃ M3, Tx K H1 H3 ∧ SimM K H3 M3 ∧ N M3, fun H3 ⟨M3, t3, m3, n3⟩ => ?_, fun x H3 y => ?_⟩
    · obtain ⟨m', lt, w'⟩ := hN M3 n3
      exact ⟨m', lt, M3, t3, m3, w'⟩
    · obtain ⟨t3, m3, d, rd, yd⟩ := o3 i x H3 go y
      have T3 := t2.trans t3
      refine ⟨d, wipe2 σ' vs, M2, _, rd, (hs.mono (t1.trans T3)).wipe vs, m3, q2 d yd, fun σ2' M4 σ2 H4 t4 s4 m4 agr q4 => ⟨agr.wipe hv, σ2', M4, _, X0, s4, m4, q4, fun b M5 H5 t5 m5 q5 => ?_, fun _ _ _ _ _ _ z => False.elim z⟩⟩
      cases b with
      | false => exact ⟨M5, (T3.trans t4).trans t5, m5, q5⟩
      | true =>
        refine ⟨σ2', M5, _, X0, s4.mono t5, m5, q5, fun d6 M6 v6 H6 t6 r6 m6 ⟨acc, ea, hz, n6⟩ => ?_, fun _ _ _ _ _ _ z => False.elim z⟩
        obtain ⟨xs, hxs, rl⟩ := m6 D _ ea
        exact ⟨xs, hxs, by rw [← rl.len]; exact hz, _, (((T3.trans t4).trans t5).trans t6).trans (Tx.lst hxs), m6.setL hxs (rl.app (.one r6)), n6⟩
theorem qe_lc {elt iter : Expr} {ifs : List Expr} {scope : Scope} {own : List (Str × Nat)} {wi : TI2} {g : TG2} {js : List Nat} {t : TT2} (hc : X.calm = true) (hN : X.N.Nodup) (hi : QI X W tg iter wi) (ok : BlkOk X.N X.env.scope scope own) (hv : ∀ i ∈ js, i ∈ own.map (·.2))
    (hg : ∀ (s : Shared) (H : Hp) (C : Addr) (cl : List (Str × Addr)) (fp : List Addr), QG (X.blk s H scope (compEnvC scope cl C X.env) fp) tg g js) (ht : ∀ (s : Shared) (H : Hp) (C : Addr) (cl : List (Str × Addr)) (fp : List Addr), QTs (X.blk s H scope (compEnvC scope cl C X.env) fp) ifs t)
    (he : ∀ (s : Shared) (H : Hp) (C : Addr) (cl : List (Str × Addr)) (fp : List Addr), QE (X.blk s H scope (compEnvC scope cl C X.env) fp) W0 elt te) (hs : ∀ x, foldedSetIterable iter X.env x = pure x := by intro _; rfl) :
    QE X W (.ListComp elt [⟨tg, iter, ifs, 0⟩] scope pos) (eLc wi g t te (own.map (·.2))) := pe_weak (pe_lc hc hN hi ok hg ht he hs) fun σ H Q h => lc_low hv h
theorem qs_setLc {i : Nat} {y : Str} {py : Pos} {elt iter : Expr} {ifs : List Expr} {scope : Scope} {own : List (Str × Nat)} {spos : Pos} {wi : TI2} {g : TG2} {js : List Nat} {t : TT2} (hc : X.calm = true) (hN : X.N.Nodup) (hyl : X.env.scope.names.lookup y = some .local)
    (hsw : swapsWith (.ListComp elt [⟨tg, iter, ifs, 0⟩] scope pos) (some (.Name y py)) spos.line X.env = pure true) (hi : QI X W tg iter wi) (ok : BlkOk X.N X.env.scope scope own) (hv : ∀ i ∈ js, i ∈ own.map (·.2))
    (hg : ∀ (s : Shared) (H : Hp) (C : Addr) (cl : List (Str × Addr)) (fp : List Addr), QG (X.blk s H scope (compEnvC scope cl C X.env) fp) tg g js) (ht : ∀ (s : Shared) (H : Hp) (C : Addr) (cl : List (Str × Addr)) (fp : List Addr), QTs (X.blk s H scope (compEnvC scope cl C X.env) fp) ifs t)
    (he : ∀ (s : Shared) (H : Hp) (C : Addr) (cl : List (Str × Addr)) (fp : List Addr), QE (X.blk s H scope (compEnvC scope cl C X.env) fp) W0 elt te) (hy : X.N[i]? = some y := by rfl) (hs : ∀ x, foldedSetIterable iter X.env x = pure x := by intro _; rfl) :
    QS X W (.Assign [.Name y py] (.ListComp elt [⟨tg, iter, ifs, 0⟩] scope pos) spos) (sAs (eLc wi g t te (own.map (·.2))) (gN i)) := ps_weak (ps_setLc hc hN hy hyl hsw hi ok hg ht he hs) fun D σ H ⟨σ', M, D', hs, hm, q, L⟩ => by
  show tLc _ _ _ _ _ σ H _
  exact lc_low hv ⟨σ', M, _, _, hs, hm, q, fun d M1 v H1 t1 r1 s1 q1 => L.nx _ M1 _ H1 t1 ((hs.mono t1).set i r1) s1 q1, L.x hs⟩
/-! the forms one uses: Pv by the turn and the store -/
theorem lc_itL {g : TG2} {t : TT2} {vs : List Nat} {ds : List Tr} {ok : Ms → Prop} {σ : St2} {M1 : Ms} {p : Addr} {Qd : Ms → Prop} (Pv : Nat → Ms → Prop) (h0 : Pv 0 (up M1 p (.lst []))) (hok : ∀ i M, i ≤ ds.length → Pv i M → ok M)
    (hs : ∀ i d M, ds[i]? = some d → Pv i M → g d (wipe2 σ vs) M fun σ2 M2 => t σ2 M2 (fun b M3 => if b = true then te σ2 M3 (fun y M4 => ∃ acc, M4 p = some (.lst acc) ∧ acc.length < sizeLine ∧ Pv (i + 1) (up M4 p (.lst (acc ++ [y])))) X0 else Pv (i + 1) M3) X0)
    (hd : ∀ M, Pv ds.length M → Qd M) :
    ∃ W : Nat → Nat → Ms → Prop, (∃ m, W 0 m (up M1 p (.lst []))) ∧ ∀ i m M, W i m M → ((itL ds ok).stop i M ∧ Qd M) ∨ ((itL ds ok).go i M ∧ ∃ N : Ms → Prop, (∀ M', N M' → ∃ m', m' < m ∧ W (i + 1) m' M') ∧ ∀ d, (itL ds ok).yld i M d →
      g d (wipe2 σ vs) M fun σ2 M2 => t σ2 M2 (fun b M3 => if b = true then te σ2 M3 (fun y M4 => ∃ acc, M4 p = some (.lst acc) ∧ acc.length < sizeLine ∧ N (up M4 p (.lst (acc ++ [y])))) X0 else N M3) X0) := by
  refine ⟨fun i m M => m = ds.length - i ∧ i ≤ ds.length ∧ Pv i M, ⟨ds.length, by simp, Nat.zero_le _, h0⟩, ?_⟩
  rintro i m M ⟨rfl, hi, q⟩
  by_cases lt : i < ds.length
  · exact .inr ⟨⟨hok i M hi q, lt⟩, Pv (i + 1), fun M' q' => ⟨ds.length - (i + 1), by omega, rfl, lt, q'⟩, fun d y => hs i d M y q⟩
  · have e : i = ds.length := by omega
    subst e
    exact .inl ⟨⟨hok _ M hi q, Nat.le_refl _⟩, hd M q⟩
theorem lc_itE {g : TG2} {t : TT2} {vs : List Nat} {ds : List Tr} {ok : Ms → Prop} {σ : St2} {M1 : Ms} {p : Addr} {Qd : Ms → Prop} (Pv : Nat → Ms → Prop) (h0 : Pv 0 (up M1 p (.lst []))) (hok : ∀ i M, i ≤ ds.length → Pv i M → ok M)
    (hs : ∀ i d M, ds[i]? = some d → Pv i M → g (.tup [.int i, d]) (wipe2 σ vs) M fun σ2 M2 => t σ2 M2 (fun b M3 => if b = true then te σ2 M3 (fun y M4 => ∃ acc, M4 p = some (.lst acc) ∧ acc.length < sizeLine ∧ Pv (i + 1) (up M4 p (.lst (acc ++ [y])))) X0 else Pv (i + 1) M3) X0)
    (hd : ∀ M, Pv ds.length M → Qd M) :
    ∃ W : Nat → Nat → Ms → Prop, (∃ m, W 0 m (up M1 p (.lst []))) ∧ ∀ i m M, W i m M → ((itE ds ok).stop i M ∧ Qd M) ∨ ((itE ds ok).go i M ∧ ∃ N : Ms → Prop, (∀ M', N M' → ∃ m', m' < m ∧ W (i + 1) m' M') ∧ ∀ d, (itE ds ok).yld i M d →
      g d (wipe2 σ vs) M fun σ2 M2 => t σ2 M2 (fun b M3 => if b = true then te σ2 M3 (fun y M4 => ∃ acc, M4 p = some (.lst acc) ∧ acc.length < sizeLine ∧ N (up M4 p (.lst (acc ++ [y])))) X0 else N M3) X0) := by
  refine ⟨fun i m M => m = ds.length - i ∧ i ≤ ds.length ∧ Pv i M, ⟨ds.length, by simp, Nat.zero_le _, h0⟩, ?_⟩
  rintro i m M ⟨rfl, hi, q⟩
  by_cases lt : i < ds.length
  · refine .inr ⟨⟨hok i M hi q, lt⟩, Pv (i + 1), fun M' q' => ⟨ds.length - (i + 1), by omega, rfl, lt, q'⟩, fun d y => ?_⟩
    obtain ⟨e, e1, e2⟩ := y
    subst e2
    exact hs i e M e1 q
  · have e : i = ds.length := by omega
    subst e
    exact .inl ⟨⟨hok _ M hi q, Nat.le_refl _⟩, hd M q⟩
theorem lc_itR {g : TG2} {t : TT2} {vs : List Nat} {lo : Int} {n : Nat} {σ : St2} {M1 : Ms} {p : Addr} {Qd : Ms → Prop} (Pv : Nat → Ms → Prop) (h0 : Pv 0 (up M1 p (.lst [])))
    (hs : ∀ (i : Nat) M, i < n → Pv i M → g (.int (lo + i)) (wipe2 σ vs) M fun σ2 M2 => t σ2 M2 (fun b M3 => if b = true then te σ2 M3 (fun y M4 => ∃ acc, M4 p = some (.lst acc) ∧ acc.length < sizeLine ∧ Pv (i + 1) (up M4 p (.lst (acc ++ [y])))) X0 else Pv (i + 1) M3) X0)
    (hd : ∀ M, Pv n M → Qd M) :
    ∃ W : Nat → Nat → Ms → Prop, (∃ m, W 0 m (up M1 p (.lst []))) ∧ ∀ i m M, W i m M → ((itR lo n).stop i M ∧ Qd M) ∨ ((itR lo n).go i M ∧ ∃ N : Ms → Prop, (∀ M', N M' → ∃ m', m' < m ∧ W (i + 1) m' M') ∧ ∀ d, (itR lo n).yld i M d →
      g d (wipe2 σ vs) M fun σ2 M2 => t σ2 M2 (fun b M3 => if b = true then te σ2 M3 (fun y M4 => ∃ acc, M4 p = some (.lst acc) ∧ acc.length < sizeLine ∧ N (up M4 p (.lst (acc ++ [y])))) X0 else N M3) X0) := by
  refine ⟨fun i m M => m = n - i ∧ i ≤ n ∧ Pv i M, ⟨n, by simp, Nat.zero_le _, h0⟩, ?_⟩
  rintro i m M ⟨rfl, hi, q⟩
  by_cases lt : i < n
  · refine .inr ⟨lt, Pv (i + 1), fun M' q' => ⟨n - (i + 1), by omega, rfl, lt, q'⟩, fun d y => ?_⟩
    have y' : d = .int (lo + i) := y
    subst y'
    exact hs i M lt q
  · have e : i = n := by omega
    subst e
    exact .inl ⟨Nat.le_refl _, hd M q⟩
end
section
variable {M : Ms} {b : Bool} {i : Int} {x : Str} {ds : List Tr} {kvs : List (Key × Tr)} {a : Addr} {n : String}
@[simp] theorem tyT_non' : tyT .non M = some "NoneType" := rfl
@[simp] theorem tyT_bl' : tyT (.bl b) M = some "bool" := rfl
@[simp] theorem tyT_int' : tyT (.int i) M = some "int" := rfl
@[simp] theorem tyT_str' : tyT (.str x) M = some "str" := rfl
@[simp] theorem tyT_tup' : tyT (.tup ds) M = some "tuple" := rfl
@[simp] theorem tyT_fro' : tyT (.fro ds) M = some "list" := rfl
theorem tyT_lst {a : Addr} (h : M a = some (.lst ds)) : tyT (.loc a) M = some "list" := by simp only [tyT, h]
theorem tyT_dic {a : Addr} (h : M a = some (.dic kvs)) : tyT (.loc a) M = some "dict" := by simp only [tyT, h]
@[simp] theorem lenT_tup' : lenT (.tup ds) M = some ds.length := rfl
@[simp] theorem lenT_fro' : lenT (.fro ds) M = some ds.length := rfl
theorem lenT_str' (h : x.length ≤ sizeLine) : lenT (.str x) M = some x.length := by simp only [lenT, if_pos h]
theorem lenT_lst (h : M a = some (.lst ds)) : lenT (.loc a) M = some ds.length := by simp only [lenT, h]
theorem lenT_dic (h : M a = some (.dic kvs)) : lenT (.loc a) M = some kvs.length := by simp only [lenT, h]
@[simp] theorem seqT_tup' : seqT (.tup ds) M = some ds := rfl
@[simp] theorem seqT_fro' : seqT (.fro ds) M = some ds := rfl
theorem seqT_lst (h : M a = some (.lst ds)) : seqT (.loc a) M = some ds := by simp only [seqT, h]
@[simp] theorem seqS_tup' : seqS (.tup ds) M = some ds := rfl
@[simp] theorem seqS_fro' : seqS (.fro ds) M = some ds := rfl
@[simp] theorem seqS_loc' : seqS (.loc a) M = seqT (.loc a) M := rfl
@[simp] theorem seqS_str' : seqS (.str x) M = some (x.cps.toList.map fun k => .str ⟨#[k]⟩) := rfl
@[simp] theorem truT_non' : truT .non M = some false := rfl
@[simp] theorem truT_bl' : truT (.bl b) M = some b := rfl
@[simp] theorem truT_int' : truT (.int i) M = some (i != 0) := rfl
@[simp] theorem truT_tup' : truT (.tup ds) M = some (!ds.isEmpty) := rfl
@[simp] theorem truT_fro' : truT (.fro ds) M = some (!ds.isEmpty) := rfl
theorem truT_lst (h : M a = some (.lst ds)) : truT (.loc a) M = some (!ds.isEmpty) := by simp only [truT, h]
@[simp] theorem isT_str' : isT n (.str x) M = (n = "str") := rfl
@[simp] theorem isT_int' : isT n (.int i) M = (n = "int") := rfl
@[simp] theorem isT_fro' : isT n (.fro ds) M = (n = "list") := rfl
theorem isT_lst (h : M a = some (.lst ds)) : isT "list" (.loc a) M := .inl ⟨rfl, ds, h⟩
theorem isT_dic (h : M a = some (.dic kvs)) : isT "dict" (.loc a) M := .inr ⟨rfl, kvs, h⟩
@[simp] theorem flatT_non' : flatT .non = true := rfl
@[simp] theorem flatT_bl' : flatT (.bl b) = true := rfl
@[simp] theorem flatT_int' : flatT (.int i) = true := rfl
@[simp] theorem flatT_str' : flatT (.str x) = true := rfl
@[simp] theorem keyT_int' : keyT (.int i) = some (.inl i) := rfl
@[simp] theorem keyT_str' : keyT (.str x) = some (.inr x) := rfl
@[simp] theorem up_at {o : MO} : up M a o a = some o := up_same
@[simp] theorem up_up' {o u : MO} : up (up M a o) a u = up M a u := up_up
end
end T

/-! T, seventh part: calls, defs, errors, the law's end. -/
namespace T
open PySem PySem.Spec PyProof.Rows L2

abbrev Sp2 := List Tr → Ms → Q2 → X2 → Prop
/-- what a caller sees of a value, of an error -/
def seeQ (K : PySem.W.Frag) (Q : Q2) : VK := fun v H' => ∃ d M', Rep K H' d v ∧ SimM K H' M' ∧ Q d M'
def seeX (K : PySem.W.Frag) (H : Hp) (E : X2) : XK := fun c dd H' => ∃ M', Tx K H H' ∧ SimM K H' M' ∧ E c dd M'
/-- the store may know more than one says -/
def Le (M M' : Ms) : Prop := ∀ a o, M a = some o → M' a = some o
theorem Le.refl {M : Ms} : Le M M := fun _ _ h => h
theorem Le.trans {M M1 M2 : Ms} (a : Le M M1) (b : Le M1 M2) : Le M M2 := fun x o h => b x o (a x o h)
theorem Le.new {M : Ms} {p : Addr} {o : MO} (h : M p = none) : Le M (up M p o) := fun a u e => by rw [up_ne (m_ne e h)]; exact e
theorem Le.none {M M' : Ms} {p : Addr} (l : Le M M') (h : M' p = none) : M p = none := by
  cases q : M p with
  | none => rfl
  | some o => rw [l p o q] at h; cases h
theorem Le.up {M M' : Ms} {p : Addr} {o : MO} (l : Le M M') : Le (T.up M p o) (T.up M' p o) := fun a u e => by
  by_cases c : a = p
  · subst c; rw [up_same] at e ⊢; exact e
  · rw [up_ne c] at e ⊢; exact l a u e
theorem SimM.le {K : PySem.W.Frag} {H : Hp} {M M' : Ms} (h : SimM K H M') (l : Le M M') : SimM K H M := fun a o e => h a o (l a o e)
def Fg (Q : Q2) : Q2 := fun d M => ∃ M0, Le M0 M ∧ Q d M0
def FgX (E : X2) : X2 := fun c dd M => ∃ M0, Le M0 M ∧ E c dd M0
theorem Fg.same {Q : Q2} {d : Tr} {M : Ms} (h : Q d M) : Fg Q d M := ⟨M, Le.refl, h⟩
theorem FgX.same {E : X2} {c : Value} {dd : Option Addr} {M : Ms} (h : E c dd M) : FgX E c dd M := ⟨M, Le.refl, h⟩
theorem Fg.le {Q : Q2} {d : Tr} {M M' : Ms} (l : Le M M') (h : Q d M) : Fg Q d M' := ⟨M, l, h⟩
theorem FgX.le {E : X2} {c : Value} {dd : Option Addr} {M M' : Ms} (l : Le M M') (h : E c dd M) : FgX E c dd M' := ⟨M, l, h⟩
/-- the ends of a def's body -/
def fEnds (Q : Q2) (E : X2) : Ends2 := { nx := fun _ M' => Fg Q .non M', rt := Fg Q, bk := fun _ _ => False, ct := fun _ _ => False, ex := fun c dd _ M' => FgX E c dd M' }
/-- the def at f keeps the promise sp, by at most level k -/
structure FnT (P : Program) (w : World) (K : PySem.W.Frag) (mg : Str → Option Value) (base : Heap) (k : Nat) (f : Addr) (fd : FuncData) (ps : List Str) (sp : Sp2) : Prop where
  len : ∀ ds M Q E, sp ds M Q E → ds.length = ps.length
  run : ∀ (A : Around) (outer : List Env) (s : Shared) (H : Hp) (args : Args) (us : List Value) (vs : List V) (ds : List Tr) (M : Ms) (Q : Q2) (E : X2), Room k A → A.guards = some [] → Env0 P w K mg base A outer s H → BindsTo s fd args (ps.zip us) → Vals vs us →
    RepL K H ds vs → SimM K H M → sp ds M Q E → codeAny (model P w) A (.call (.ref f) args) (CR (L2.CX P w) outer P w H s (seeQ K Q) (seeX K H E)) s
theorem FnT.mono {P : Program} {w : World} {K : PySem.W.Frag} {mg : Str → Option Value} {base : Heap} {j k : Nat} {f : Addr} {fd : FuncData} {ps : List Str} {sp : Sp2} (F : FnT P w K mg base j f fd ps sp) (h : j ≤ k) : FnT P w K mg base k f fd ps sp :=
  ⟨F.len, fun A outer s H args us vs ds M Q E hr => F.run A outer s H args us vs ds M Q E (hr.mono h)⟩
theorem FnT.imp {P : Program} {w : World} {K : PySem.W.Frag} {mg : Str → Option Value} {base : Heap} {k : Nat} {f : Addr} {fd : FuncData} {ps : List Str} {sp sp' : Sp2} (F : FnT P w K mg base k f fd ps sp) (h : ∀ ds M Q E, sp' ds M Q E → sp ds M Q E) : FnT P w K mg base k f fd ps sp' :=
  ⟨fun ds M Q E q => F.len ds M Q E (h _ _ _ _ q), fun A outer s H args us vs ds M Q E hr hg he hb hv rd sm q => F.run A outer s H args us vs ds M Q E hr hg he hb hv rd sm (h _ _ _ _ q)⟩
theorem cx_imp {P : Program} {w : World} {outer : List Env} {H : Hp} {s s' : Shared} {E E' : XK} {u : Value} (h : ∀ c d H', E c d H' → E' c d H') (x : L2.CX P w outer H s E u s') : L2.CX P w outer H s E' u s' := by
  obtain ⟨a, B, H', cls, d, e1, e2, e3, e4, e5, e6, e7, e8⟩ := x
  exact ⟨a, B, H', cls, d, e1, e2, e3, e4, e5, e6, e7, h _ _ _ e8⟩
section
variable {X : Cx} {W : L2.WX} {k : Nat} {f C : Addr} {fd : FuncData} {ps : List Str} {sp : Sp2} {dvs : List Tr} {dus : List V} {ds : List Value} {x m : Str} {p pos apos : Pos} {e o : Expr} {es : List Expr} {t : TA2} {ta : TE2}
/-- errors of a callee are wished for here -/
abbrev Lets (X : Cx) (W : L2.WX) : Prop := ∀ σ, PassesAt (L2.CX X.prog X.w) X σ (WE W σ)
theorem lets0 {s : Shared} {H : Hp} {sc : Scope} {ce : Env} {fp : List Addr} : Lets (X.blk s H sc ce fp) W0 := fun σ pins H s e s' I h => by
  obtain ⟨_, _, _, _, _, _, _, _, _, _, _, _, z⟩ := h
  exact z
theorem lets_never {X : Cx} : Lets X W0 := fun σ pins H s e s' I h => by
  obtain ⟨_, _, _, _, _, _, _, _, _, _, _, _, z⟩ := h
  exact z.elim
theorem run_fnT {pins : List (Addr × Obj)} {σ : L2.St} {H0 H : Hp} {s : Shared} {Q : VK} {us : List Value} {vs : List V} {trs : List Tr} {M : Ms} {Q' : Q2} {E' : X2} (F : FnT X.prog X.w X.K X.mg X.base k f fd ps sp) (hr : Room k X.A) (hgd : X.A.guards = some []) (hb : Binds X.K fd ps ds) (hd : Vals dus ds) (hdr : ∀ H, RepL X.K H dvs dus)
    (hl : Lets X W) (I : Inv X pins σ H s) (r : Vals vs us) (rt : RepL X.K H trs vs) (sm : SimM X.K H M) (t0 : Tx X.K H0 H) (h : sp (trs ++ dvs) M Q' E') (hq : LkQ X.K H0 Q' Q) (hx : LkX X.K H0 E' W σ) :
    wpAny (model X.prog X.w) X.A (call (.ref f) us) (EP X pins σ Q) X.xe s := by
  have r2 : Vals (vs ++ dus) (us ++ ds) := r.append hd
  have rt2 : RepL X.K H (trs ++ dvs) (vs ++ dus) := rt.app (hdr H)
  have hlen : (us ++ ds).length = ps.length := by rw [← r2.length, ← rt2.len]; exact F.len _ _ _ _ h
  refine wpAny_call (codeAny_mono (F.run X.A X.stack s H ⟨us, []⟩ (us ++ ds) (vs ++ dus) (trs ++ dvs) M Q' E' hr hgd I.env0 (hb s us I.kIn hlen) r2 rt2 sm h) fun r s' hq' => ?_)
  cases r with
  | error e => exact hl σ pins H s e s' I (cx_imp (fun c d H' ⟨M', tx, sm', q⟩ => hx c d M' H' (t0.trans tx) sm' q) hq')
  | ok fl =>
    cases fl with
    | ret u =>
      obtain ⟨v, H', os, bare, un, hok, rv, d, M', rd, sm', q⟩ := hq'
      exact I.after ⟨v, H', os, bare, un, hok, rv, hq d M' v H' (t0.trans (Tx.un un)) rd sm' q⟩
    | next => exact False.elim hq'
    | brk => exact False.elim hq'
    | cont => exact False.elim hq'
def eCall (sp : Sp2) (dvs : List Tr) (t : TA2) : TE2 := fun σ M Q E => t σ M (fun ds M1 => sp (ds ++ dvs) M1 Q E) E
theorem qe_call (F : FnT X.prog X.w X.K X.mg X.base k f fd ps sp) (hr : Room k X.A) (hgd : X.A.guards = some []) (hm : X.mg x = some (.ref f)) (hk : PySem.W.keepIn X.K (.ref f) = true) (hb : Binds X.K fd ps ds) (hd : Vals dus ds) (hdr : ∀ H, RepL X.K H dvs dus) (hl : Lets X W)
    (ha : QA X W (e :: es) t) (hg : Gl X x := by rfl) (hdb : (x == ("__debug__" : Str)) = false := by decide) (he : starEach (e :: es) X.env = (false, eval e X.env) :: starEach es X.env := by rfl) (hpl : (backTo pos (starEach es X.env)).any (·.1) = false := by rfl) :
    QE X W (.Call (.Name x p) (e :: es) [] pos) (eCall sp dvs t) := by
  refine ⟨fun pins s σ H Q I ⟨σ', M, Q', E', hs, hm', q, hq, hx⟩ => ?_⟩
  refine wpAny_Call_Name_kw (ld_glob I hg hm ?_ hdb)
  refine PySem.W.callWith_K (h₀ := X.base) I.ok.mod.kin hk (thn (ha.run pos pins s σ H (fun vs H1 => ∃ trs M1, Tx X.K H H1 ∧ RepL X.K H1 trs vs ∧ SimM X.K H1 M1 ∧ sp (trs ++ dvs) M1 Q' E') I
    ⟨σ', M, _, E', hs, hm', q, fun trs M1 vs H1 t1 r1 s1 q1 => ⟨trs, M1, t1, r1, s1, q1⟩, hx⟩) fun us s1 ⟨vs, H1, I1, r, trs, M1, t1, r1, sm1, q1⟩ => ⟨I1.kIn, ?_⟩) he hpl
  exact run_fnT F hr hgd hb hd hdr hl I1 r r1 sm1 t1 q1 hq hx
theorem qe_call0 (F : FnT X.prog X.w X.K X.mg X.base k f fd ps sp) (hr : Room k X.A) (hgd : X.A.guards = some []) (hm : X.mg x = some (.ref f)) (hk : PySem.W.keepIn X.K (.ref f) = true) (hb : Binds X.K fd ps ds) (hd : Vals dus ds) (hdr : ∀ H, RepL X.K H dvs dus) (hl : Lets X W)
    (hg : Gl X x := by rfl) (hdb : (x == ("__debug__" : Str)) = false := by decide) : QE X W (.Call (.Name x p) [] [] pos) (eCall sp dvs aNil) := by
  refine ⟨fun pins s σ H Q I ⟨σ', M, Q', E', hs, hm', q, hq, hx⟩ => ?_⟩
  refine wpAny_Call_Name_kw (ld_glob I hg hm ?_ hdb)
  exact PySem.W.callWith_K0 I.kIn hk (run_fnT (us := []) (trs := []) F hr hgd hb hd hdr hl I .nil RepL.nil hm' Tx.refl q hq hx)
/-! ### a def by its body -/
theorem guards_deeper {A : Around} {env : Env} (h : A.guards = some []) : (A.deeper env).guards = some [] := h
/-- the wish of a def's body -/
abbrev WF (K : PySem.W.Frag) (H : Hp) (E : X2) : L2.WX := fun c dd _ H' => seeX K H E c dd H'
/-- THE RULE for a def: its reading t, derived in every context, and what the reading asks -/
theorem fnT_of {P : Program} {w : World} {K : PySem.W.Frag} {mg : Str → Option Value} {base : Heap} {k : Nat} {f : Addr} {fd : FuncData} {x qual : Str} {params : Arguments} {body : List Stmt} {scope : Scope} {dfs : List V} {kws : List (Str × V)} {N ps : List Str} {sp : Sp2} {t : TS2}
    (F : FunD K x qual params body scope dfs kws f fd) (S : FnScope N ps scope) (len : ∀ ds M Q E, sp ds M Q E → ds.length = ps.length)
    (der : ∀ (cdv : Value) (A : Around) (outer : List Env) (s : Shared) (H : Hp) (E : XK), Room k (A.deeper (envOfC qual scope s.heap.objs.size f cdv)) → (A.deeper (envOfC qual scope s.heap.objs.size f cdv)).guards = some [] →
      QSs (cxOf (L2.CX P w) P w K mg base N qual scope f cdv A outer s H E) (fun c dd _ H' => E c dd H') body t)
    (sem : ∀ ds M Q E, sp ds M Q E → t (fEnds Q E) (start2 N ds) M) : FnT P w K mg base (k + 1) f fd ps sp := by
  obtain ⟨oc, od, dV, kV, doc, pm, an, cdv, ct, osl, rfl, lk, hcd, _, _⟩ := F.ex
  refine ⟨len, fun A outer s H args us vs ds M Q E hr hgd e0 hb rv rd sm hsp => ?_⟩
  have hl : vs.length = ps.length := by rw [← rd.len]; exact len _ _ _ _ hsp
  have KX : K.In s.heap := e0.mod.kin.keeps fun b o e => (e0.bs b o e).1
  have lim : s.heap.NoLimit := e0.mod.nolimit.keeps fun b o e => (e0.bs b o e).1
  have hkind : ∀ y ∈ ps.zip us, scope.names.lookup y.1 = some .local ∨ (scope.names.lookup y.1 = some .cell ∧ ((cellsFrom (s.heap.objs.size + 1) scope.names []).lookup y.1).isSome = true) := fun ⟨n, v⟩ hy => by
    rcases S.par n (List.of_mem_zip hy).1 with q | q
    · exact .inl q
    · exact .inr ⟨q, PySem.W.cellsFrom_some _ _ _ (.inl q)⟩
  refine codeAny_call_function hr.depth (KX _ _ lk) rfl S.co S.gen rfl (PySem.W.codeRec_of KX hcd) (hb _ _ _ _ ?_)
  refine wpAny_newFunctionEnv_cells S.kind hkind fun env he s1 xx => ?_
  subst he
  refine ⟨lim.keeps xx.toInCall.keep, codeAny_func ?_⟩
  have I : Inv (cxOf (L2.CX P w) P w K mg base N qual scope f cdv A outer s H (seeX K H E)) [] (L2.start N vs) H s1 := inv_start S hr.hd e0 hl rv xx
  refine wpAny_mono ((der cdv A outer s H (seeX K H E) (hr.deeper _) (guards_deeper hgd)).run [] s1 (L2.start N vs) H { nx := fun _ H' => seeQ K Q .non H', rt := seeQ K Q } I
    ⟨start2 N ds, M, _, SimS.start rd, sm, sem ds M Q E hsp, fun _ M1 _ H1 _ _ m1 ⟨M2, l2, q1⟩ => ⟨.non, M2, rfl, m1.le l2, q1⟩, fun d M1 v H1 _ r1 m1 ⟨M2, l2, q1⟩ => ⟨d, M2, r1, m1.le l2, q1⟩, fun _ _ _ _ _ _ _ z => z, fun _ _ _ _ _ _ _ z => z,
      fun c dd _ M1 _ H1 t1 _ m1 ⟨M2, l2, q1⟩ => ⟨M2, t1, m1.le l2, q1⟩⟩) (fun fl s' hs => ?_) fun e s' hs => hs
  have fin : ∀ {σ' : L2.St} {H' : Hp} {v : V} {u : Value}, Inv (cxOf (L2.CX P w) P w K mg base N qual scope f cdv A outer s H (seeX K H E)) [] σ' H' s' → RelV v u → seeQ K Q v H' → CE outer P w H s (seeQ K Q) u s' :=
    fun {σ' H' v u} J r q => ⟨v, H', J.os, J.bare, J.base, J.hok, r, q⟩
  cases fl with
  | ret u =>
    obtain ⟨v, σ', H', J, r, q⟩ := hs
    exact fin J r q
  | next =>
    obtain ⟨σ', H', J, q⟩ := hs
    exact fin (v := V.non) (u := Value.none) J rfl q
  | brk =>
    obtain ⟨_, _, _, q⟩ := hs
    exact False.elim q
  | cont =>
    obtain ⟨_, _, _, q⟩ := hs
    exact False.elim q
/-- no def: nothing is promised -/
theorem fnT_none {P : Program} {w : World} {K : PySem.W.Frag} {mg : Str → Option Value} {base : Heap} {k : Nat} {f : Addr} {fd : FuncData} {ps : List Str} {sp : Sp2} (h : ∀ ds M Q E, ¬ sp ds M Q E) : FnT P w K mg base k f fd ps sp :=
  ⟨fun ds M Q E q => absurd q (h _ _ _ _), fun A outer s H args us vs ds M Q E _ _ _ _ _ _ _ q => absurd q (h _ _ _ _)⟩

/-! ### errors -/
def sRaise (C : Value) : TS2 := fun D σ M => D.ex C none σ M
theorem qs_raise {m : Str} {j : Nat} {p2 pos2 : Pos} (hc : X.calm = true) (tk : Takes X W) (q : PySem.W.excIn X.K C He.veBase "ValueError.__new__" = true ∧ PySem.W.keepIn X.K (.ref C) = true ∧ PySem.W.subIn X.K (.ref C) (.type "BaseException") = some true ∧ PySem.W.typeIn X.K (.ref C) = some (.type "type"))
    (gC : X.mg x = some (.ref C)) (hg : Gl X x := by rfl) (hdb : (x == ("__debug__" : Str)) = false := by decide) : QS X W (.Raise (some (.Call (.Name x p) [.Constant (.str m) j p2] [] pos)) none pos2) (sRaise (.ref C)) :=
  ps_weak (ps_raise hc tk (pmk_own PySem.F.excBase_ValueError q.1 gC q.2.1 (raises_own q.2.2.1 q.2.2.2) hg hdb)) fun D σ H ⟨σ', M, D', hs, hm, h, L⟩ => L.ex _ _ σ' M σ H Tx.refl hs hm h
/-- try: body, except x: suite -/
def sTry (ex : Value → Option Bool) (tb ts : TS2) : TS2 := fun D σ M => tb { D with ex := fun c dd σ1 M1 => ∃ b, ex c = some b ∧ (b = true → ts { D with ex := fun _ _ _ _ => False } σ1 M1) ∧ (b = false → D.ex c dd σ1 M1) } σ M
theorem qs_try {c : Value} {body suite : List Stmt} {b0 : Stmt} {np pos' : Pos} {tb ts : TS2} (hs : X.stack = X.env :: X.outer) (hf : X.env.frame = some X.env.locals) (hc : Names X x c) (tk : Takes X W)
    (hb : ∀ (W' : L2.WX) (pn : List (Addr × Obj)) (xe : Value → Shared → Prop), Takes (X.tr pn xe) W' → PassesOwn (model X.prog X.w) X.A X.env xe → QSs (X.tr pn xe) W' body tb)
    (hsu : ∀ (a : Addr) (pn : List (Addr × Obj)), QSs (X.suite a pn) W0 (b0 :: suite) ts) :
    QS X W (.Try body [.ExceptHandler (some (.Name x np)) none (b0 :: suite) pos'] [] [] pos) (sTry (fun cls => PySem.W.exmOne X.K cls c) tb ts) :=
  ps_weak (ps_try_only (tb := fun W' => lfS X.K W' tb) (ts := fun _ _ _ => lfS X.K W0 ts) hs hf hc tk hb (fun a oe cls d pn _ _ => hsu a _)) fun D σ H ⟨σ', M, D', hs, hm, h, L⟩ =>
    ⟨σ', M, _, hs, hm, h, L.nx, L.rt, L.bk, L.ct, fun cls dd σ1' M1 σ1 H1 t1 s1 m1 ⟨b, eb, h1, h2⟩ => ⟨b, eb, fun e a _ => ⟨σ1', M1, _, s1, m1, h1 e, (L.mono t1).nx, (L.mono t1).rt, (L.mono t1).bk, (L.mono t1).ct, fun _ _ _ _ _ _ _ _ _ z => z⟩,
      fun e => L.ex cls dd σ1' M1 σ1 H1 t1 s1 m1 (h2 e)⟩⟩
end

/-! ### the law's end -/
/-- nothing is known to the store -/
def M0 : Ms := fun _ => none
/-- the promise of a law's def -/
def spLaw : Sp2 := fun ds _ Q _ => ∃ ns : List Int, ds = [.fro (ns.map Tr.int)] ∧ ns.length ≤ 63 ∧ (∀ z ∈ ns, Builtin.Int.intBits z ≤ 1048576) ∧ ∀ M, Q (.bl true) M
theorem law_callT {P : Program} {w : World} {K : PySem.W.Frag} {mg mb : Str → Option Value} {k : Nat} {fa a : Addr} {fd : FuncData} {x : Str} {s₁ : Shared} {vs : List Value} {ns : List Int}
    (KX : K.In s₁.heap) (hns : s₁.heap.Ns mainGlobals mg) (hb : s₁.heap.Ns builtinsNs mb) (hbb : ∀ x : Str, x ≠ "__name__" → mb x = bootBuiltins x) (hlim : s₁.heap.NoLimit) (hg : s₁.gens = #[])
    (ha : s₁.heap.get? a = some { cls := .type "list", data := .seq vs.toArray }) (hi : PyProof.Rows.IntsAre vs ns) (hl : ns.length ≤ 63) (hbits : ∀ z ∈ ns, Builtin.Int.intBits z ≤ 1048576) (hr : Room k callerA)
    (F : ∀ base : Heap, K.In base → base.Ns mainGlobals mg → FnT P w K mg base k fa fd [x] spLaw) (hbind : ∀ (s : Shared) (u : Value), BindsTo s fd ⟨[u], []⟩ [(x, u)]) :
    codeAny (model P w) callerA (.call (.ref fa) ⟨[.ref a], []⟩) (fun r s' => r = .ok (.ret (.bool true)) ∧ OldK s₁.heap s'.heap ∧ s'.os = s₁.os ∧ AllBare s'.gens) s₁ := by
  have rv := L2.vals_ints hi
  have lenV := hi.length
  have hz : ns.length ≤ sizeLine := Nat.le_trans hl (by decide)
  -- H: the script alone, or nothing; every object that H does not name is the base's
  have main : ∀ H : Hp, (∀ b u, H b = some u → b = a ∧ u = .frz { cls := .type "list", data := .seq vs.toArray } (.lst (ns.map V.int))) → FrL K H a (ns.map V.int) → HOk P w H s₁.heap → (H a ≠ none → K.lookup a = none) →
      codeAny (model P w) callerA (.call (.ref fa) ⟨[.ref a], []⟩) (fun r s' => r = .ok (.ret (.bool true)) ∧ OldK s₁.heap s'.heap ∧ s'.os = s₁.os ∧ AllBare s'.gens) s₁ := by
    intro H hA hS hok hK
    have noD : ∀ {b : Addr} {ob : Obj} {es : Array DictEntry} {ep : Nat}, s₁.heap.get? b = some ob → ob.data = .dict es ep → H b = none := fun {b ob es ep} e d => by
      cases q : H b with
      | none => rfl
      | some u =>
        obtain ⟨rfl, _⟩ := hA b u q
        rw [ha] at e; cases e
        have d' : Data.seq vs.toArray _ = Data.dict es ep := d
        cases d'
    have nsB : ∀ {b : Addr} {m : Str → Option Value}, s₁.heap.Ns b m → (hidT s₁.heap H).Ns b m := fun {b m} ⟨ob, es, ep, e, d, r⟩ => ⟨ob, es, ep, hidT_get e (noD e d), d, r⟩
    have kB : K.In (hidT s₁.heap H) := fun b ob e => hidT_get (KX b ob e) (by
      cases q : H b with
      | none => rfl
      | some u =>
        obtain ⟨rfl, _⟩ := hA b u q
        rw [hK (by rw [q]; simp)] at e; cases e)
    have hM : Mod K mg (hidT s₁.heap H) := ⟨kB, nsB hns, ⟨mb, nsB hb, hbb⟩, by obtain ⟨mc, h1, h2⟩ := hlim; exact ⟨mc, nsB h1, h2⟩⟩
    have e0 : Env0 P w K mg (hidT s₁.heap H) callerA [] s₁ H := ⟨rfl, hM, fun b ob e => of_hidT e, Nat.le_of_eq (hidT_size _ _), trivial, fun b hb => absurd (show b ∈ ([] : List Addr) from hb) (by simp), hok, .of_eq hg⟩
    refine codeAny_mono ((F _ kB (nsB hns)).run callerA [] s₁ H ⟨[.ref a], []⟩ [.ref a] [.ref a] [.fro (ns.map Tr.int)] M0 (fun d _ => d = .bl true) X0 hr rfl e0 (hbind s₁ (.ref a)) (.cons rfl .nil)
      (.one ⟨a, ns.map V.int, rfl, hS, RepL.ints⟩) (fun _ _ e => nomatch e) ⟨ns, rfl, hl, hbits, fun _ => rfl⟩) fun r s' h => ?_
    cases r with
    | error e =>
      obtain ⟨_, _, _, _, _, _, _, _, _, _, _, _, M', _, _, z⟩ := h
      exact z.elim
    | ok fl =>
      cases fl with
      | next => exact False.elim h
      | brk => exact False.elim h
      | cont => exact False.elim h
      | ret u =>
        obtain ⟨v, H', os, bare, un, hok', r', d, M', rd, _, ed⟩ := h
        subst ed
        cases rd
        obtain rfl : u = Value.bool true := r'
        refine ⟨rfl, OldK.of_keep fun b ob e => ?_, os, bare⟩
        cases q : H b with
        | none => exact un.keep b ob e q (fun z => absurd (show b ∈ ([] : List Addr) from z) (by simp)) (by simp)
        | some u =>
          obtain ⟨rfl, rfl⟩ := hA b u q
          have z2 := un.frzs b _ _ q
          obtain ⟨e2, _⟩ := hok' b _ z2
          rw [ha] at e; cases e
          exact e2
  cases hk : K.lookup a with
  | some ob =>
    have e := KX a ob hk
    rw [ha] at e; cases e
    exact main (fun _ => none) (fun b u z => nomatch (show (none : Option HO) = some u from z)) (.inr ⟨_, vs.toArray, _, hk, rfl, rfl, rfl, by rw [List.size_toArray, lenV]; exact hz, by simpa using rv⟩) (fun b u z => nomatch (show (none : Option HO) = some u from z)) fun z => absurd rfl z
  | none =>
    refine main (upd (fun _ => none) a (.frz { cls := .type "list", data := .seq vs.toArray } (.lst (ns.map V.int)))) (fun b u z => ?_) (.inl ⟨_, upd_same⟩) (fun b u z => ?_) fun _ => hk
    · by_cases c : b = a
      · subst c
        rw [upd_same] at z; cases z
        exact ⟨rfl, rfl⟩
      · rw [upd_ne c] at z; cases z
    · by_cases c : b = a
      · subst c
        rw [upd_same] at z; cases z
        exact ⟨ha, by rw [List.length_map]; exact hz, vs, _, rv, ha⟩
      · rw [upd_ne c] at z; cases z
/-- a law over a head by facts -/
theorem walkT {l : PySem.W.OpenLaw} {k : Nat} {q : Program} {loose : List Str} {XP : (Str → Option Value) → Heap → Prop} {YP : World → Heap → Prop} {d : DefRec} {x : Str}
    (hn : l.most = some 63) (hdf : d.params.defaults = []) (hr : Room k callerA)
    (F : ∀ (w : World) (mg : Str → Option Value) (fa : Addr) (h : Heap), YP w h → h.Ns mainGlobals mg → mg d.name = some (.ref fa) →
      ∃ (K : PySem.W.Frag) (fd : FuncData), K.In h ∧ (∀ (s : Shared) (u : Value), BindsTo s fd ⟨[u], []⟩ [(x, u)]) ∧ ∀ base : Heap, K.In base → base.Ns mainGlobals mg → FnT l.prog w K mg base k fa fd [x] spLaw) :
    PySem.W.WalkO q loose XP YP l.row.toRowW d [] (fun f vs => PySem.call f vs) := by
  refine Att.attach_callB hn hdf fun w s₀ s₁ mg mb fa o pm cd doc a vs ns G Y ho hd hcd hmg hobj hints hlen hbits hg => ?_
  obtain ⟨K, fd, KX, hb, hF⟩ := F w mg fa _ Y G.T.g hmg
  exact law_callT KX G.T.g G.T.b G.T.builtins G.T.nolimit hg hobj hints hlen hbits hr hF hb
end T

/-! T, eighth part: more rules. -/
namespace T
open PySem PySem.Spec PyProof.Rows L2
theorem bt_len : bootBuiltins "len" = some (.builtin "len") := by decide +kernel
theorem bt_sum : bootBuiltins "sum" = some (.builtin "sum") := by decide +kernel
theorem bt_max : bootBuiltins "max" = some (.builtin "max") := by decide +kernel
theorem bt_min : bootBuiltins "min" = some (.builtin "min") := by decide +kernel
theorem bt_abs : bootBuiltins "abs" = some (.builtin "abs") := by decide +kernel
theorem bt_repr : bootBuiltins "repr" = some (.builtin "repr") := by decide +kernel
theorem bt_sorted : bootBuiltins "sorted" = some (.builtin "sorted") := by decide +kernel
theorem bt_isinstance : bootBuiltins "isinstance" = some (.builtin "isinstance") := by decide +kernel
theorem bt_int : bootBuiltins "int" = some (.type "int") := by decide +kernel
theorem bt_str : bootBuiltins "str" = some (.type "str") := by decide +kernel
theorem bt_bool : bootBuiltins "bool" = some (.type "bool") := by decide +kernel
theorem bt_tuple : bootBuiltins "tuple" = some (.type "tuple") := by decide +kernel
theorem bt_list : bootBuiltins "list" = some (.type "list") := by decide +kernel
theorem bt_dict : bootBuiltins "dict" = some (.type "dict") := by decide +kernel
section
variable {X : Cx} {W : L2.WX} {a b c e o : Expr} {es : List Expr} {pos p cpos apos : Pos} {ta tb tc te to : TE2} {t tk : TA2} {Ty : String} {r : RM2} {u v : TE}
theorem q_bm (h : PE X e (tBM X.K Ty (lfM X.K r) (lfE X.K W to) (lfA X.K W t))) : QE X W e (eM Ty r to t) := pe_weak h fun _ _ _ h => m_low h
theorem q_bm0 (h : PE X e (tBM0 X.K Ty (lfM X.K r) (lfE X.K W to))) : QE X W e (eM0 Ty r to) := pe_weak h fun _ _ _ h => m0_low h
theorem q_chain {rr rr' : R22} (h : PE X e (tChain (lfR X.K rr) (lfR X.K rr') (lfE X.K W ta) (lfE X.K W tb) (lfE X.K W tc))) : QE X W e (eChain rr rr' ta tb tc) := pe_weak h fun _ _ _ h => chain_low h
theorem qt_ch {rr rr' : R22} (h : PT X e (tTest (tChain (lfR X.K rr) (lfR X.K rr') (lfE X.K W ta) (lfE X.K W tb) (lfE X.K W tc)))) : QT X W e (tCm (eChain rr rr' ta tb tc)) :=
  pt_weak h fun σ H Q ⟨σ', M, Q', E', hs, hm, q, hq, hx⟩ => chain_low ⟨σ', M, _, E', hs, hm, q, cm_link hq, hx⟩
theorem q_sub {i : Expr} {ti : TE2} (ha : PG X (.Subscript o i pos) (gSub (lfE X.K W0 to) (lfE X.K W0 ti) (lfPut X.K rPut2))) : QG X (.Subscript o i pos) (gSb rPut2 to ti) [] :=
  pg_weak ha fun v σ H Q ⟨d, σ', M, Q', r, hs, hm, q, hq⟩ => ⟨σ', M, _, X0, hs, hm, q, fun o M1 x H1 t1 r1 s1 q1 => ⟨σ', M1, _, X0, hs.mono t1, s1, q1, fun i M2 y H2 t2 r2 s2 q2 =>
    ⟨o, i, d, M2, _, r1.mono t2, r2, (r.mono t1).mono t2, s2, q2, fun M3 H3 t3 s3 q3 => hq σ' M3 σ H3 ((t1.trans t2).trans t3) (((hs.mono t1).mono t2).mono t3) s3 Agr.refl q3⟩, fun _ _ _ _ _ _ z => False.elim z⟩, fun _ _ _ _ _ _ z => False.elim z⟩
/-- comparisons of ints alone -/
def rCmpI (f : Int → Int → Bool) : R22 := fun d e M Q => match d, e with
  | .int i, .int j => Q (.bl (f i j)) M
  | _, _ => False
theorem o_cmpI {op : CmpOp} {f : Int → Int → Bool} (h : OpR X (compareOp op) (rI0 fun i j => .bl (f i j))) : OpR X (compareOp op) (lfR X.K (rCmpI f)) := by
  intro pins s σ H x y v u Q I rx ry ⟨d, e, M, Q', rd, re, sm, q, hq⟩
  cases d with
  | int i =>
    cases e with
    | int j =>
      cases rd; cases re
      exact h pins s σ H _ _ v u Q I rx ry ⟨i, j, rfl, rfl, hq (.bl _) M _ H Tx.refl rfl sm q⟩
    | _ => exact q.elim
  | _ => cases e <;> exact q.elim
abbrev rLeI : R22 := rCmpI fun i j => decide (i ≤ j)
abbrev rLtI : R22 := rCmpI fun i j => decide (i < j)
abbrev rGtI : R22 := rCmpI fun i j => decide (j < i)
abbrev rGeI : R22 := rCmpI fun i j => decide (j ≤ i)
theorem o_leI : OpR X (compareOp .LtE) (lfR X.K rLeI) := o_cmpI op_le
theorem o_ltI : OpR X (compareOp .Lt) (lfR X.K rLtI) := o_cmpI op_lt
theorem o_gtI : OpR X (compareOp .Gt) (lfR X.K rGtI) := o_cmpI op_gt
theorem o_geI : OpR X (compareOp .GtE) (lfR X.K rGeI) := o_cmpI op_ge
/-! in place -/
abbrev rIpA : R22 := rII (fun _ _ => True) (fun i j => i + j)
abbrev rIpS : R22 := rII (fun _ _ => True) (fun i j => i - j)
theorem ipII {op : Operator} {f : Int → Int → Int} (h : PIp X op (ipI f)) : PIp X op (lfR X.K (rII (fun _ _ => True) f)) := by
  intro pins s σ H x y v u Q I rx ry ⟨d, e, M, Q', rd, re, sm, q, hq⟩
  cases d with
  | int i =>
    cases e with
    | int j =>
      cases rd; cases re
      exact h pins s σ H _ _ v u Q I rx ry ⟨i, j, rfl, rfl, hq (.int _) M _ H Tx.refl rfl sm q.2⟩
    | _ => exact q.elim
  | _ => cases e <;> exact q.elim
theorem i_add : PIp X .Add (lfR X.K rIpA) := ipII ip_add
theorem i_sub : PIp X .Sub (lfR X.K rIpS) := ipII ip_sub
/-! keywords of built-ins -/
abbrev QK (X : Cx) (W : L2.WX) (kws : List Keyword) (t : TA2) : Prop := PK X kws (lfA X.K W t)
theorem pk_weak {kws : List Keyword} {t t' : TA} (h : PK X kws t) (w : ∀ σ H Q, t' σ H Q → t σ H Q) : PK X kws t' := ⟨fun pos pins s σ H Q I q => h.run pos pins s σ H Q I (w σ H Q q)⟩
theorem qk_nil : QK X W [] aNil := pk_weak pk_nil fun σ H Q ⟨σ', M, Q', E', hs, hm, q, hq, hx⟩ => hq [] M [] H Tx.refl RepL.nil hm q
theorem qk_cons {nm : Option Str} {kpos : Pos} {kws : List Keyword} (ha : QE X W e ta) (hr : QK X W kws t) : QK X W (⟨nm, e, kpos⟩ :: kws) (aCons ta t) :=
  pk_weak (pk_cons ha hr) fun σ H Q ⟨σ', M, Q', E', hs, hm, q, hq, hx⟩ => ⟨σ', M, _, E', hs, hm, q, fun d M1 x H1 t1 r1 s1 q1 => ⟨σ', M1, _, E', hs.mono t1, s1, q1, fun ds M2 xs H2 t2 r2 s2 q2 =>
    hq (d :: ds) M2 (x :: xs) H2 (t1.trans t2) (.cons (r1.mono t2) r2) s2 q2, hx.mono t1⟩, hx⟩
abbrev RCK2 := List Tr → List Tr → Ms → Q2 → Prop
def lfCK (K : PySem.W.Frag) (r : RCK2) : List V → List V → Hp → VK → Prop := fun xs zs H Q => ∃ ds es M Q', RepL K H ds xs ∧ RepL K H es zs ∧ SimM K H M ∧ r ds es M Q' ∧ LkQ K H Q' Q
def eBK (r : RCK2) (t tk : TA2) : TE2 := fun σ M Q E => t σ M (fun ds M1 => tk σ M1 (fun es M2 => r ds es M2 Q) E) E
theorem qe_callBK {x : Str} {id : String} {ks : List Str} {kws : List Keyword} {rk : RCK2} (hc : CallRK X (.builtin id) ks (lfCK X.K rk)) (hm : X.mg x = none) (hv : bootBuiltins x = some (.builtin id)) (ha : QA X W (e :: es) t) (hk : QK X W kws tk) (hg : Gl X x := by rfl) (hn : x ≠ "__name__" := by decide) (hdb : (x == ("__debug__" : Str)) = false := by decide)
    (he : backTo pos (starEach (e :: es) X.env) = (false, eval e X.env) :: backTo pos (starEach es X.env) := by rfl) (hpl : (backTo pos (starEach (e :: es) X.env)).any (·.1) = false := by rfl)
    (hall : (backToKw pos (keywordEach kws X.env)).all (·.1.isSome) = true := by rfl) (hnone : (backToKw pos (keywordEach kws X.env)).any (·.1.isNone) = false := by rfl) (hks : (backToKw pos (keywordEach kws X.env)).filterMap (·.1) = ks := by rfl) :
    QE X W (.Call (.Name x p) (e :: es) kws pos) (eBK rk t tk) := pe_weak (pe_callBK hc hg hm hv ha hk hn hdb he hpl hall hnone hks) fun σ H Q ⟨σ', M, Q', E', hs, hm, q, hq, hx⟩ =>
  ⟨σ', M, _, E', hs, hm, q, fun ds M1 xs H1 t1 r1 s1 q1 => ⟨σ', M1, _, E', hs.mono t1, s1, q1, fun es M2 zs H2 t2 r2 s2 q2 => ⟨ds, es, M2, Q', r1.mono t2, r2, s2, q2, hq.mono (t1.trans t2)⟩, hx.mono t1⟩, hx⟩
/-- max([..], default=d) of ints -/
def mxD (ns : List Int) (d : Int) : Int := match ns with
  | [] => d
  | n :: r => r.foldl max n
def rMaxD : RCK2 := fun ds es M Q => ∃ d ns k, ds = [d] ∧ es = [.int k] ∧ seqT d M = some (ns.map Tr.int) ∧ (∀ us, d ≠ .tup us) ∧ Q (.int (mxD ns k)) M
theorem dpAll_ints {K : PySem.W.Frag} {H : Hp} : ∀ ns : List Int, DpAll K H (ns.map V.int) (ns.map PyData.int)
  | [] => .nil
  | n :: r => .cons (.int n) (dpAll_ints r)
theorem depthAll_ints : ∀ ns : List Int, PyData.depthAll (ns.map PyData.int) = 0
  | [] => rfl
  | n :: r => by
    show max (PyData.depth (.int n)) (PyData.depthAll (r.map PyData.int)) = 0
    rw [depthAll_ints r]; rfl
theorem alike_ints (ns : List Int) : PySem.W.AlikeAll (ns.map PyData.int) := by
  refine ⟨fun x hx y hy => ?_, fun x hx => ?_⟩
  · obtain ⟨i, _, rfl⟩ := List.mem_map.mp hx
    obtain ⟨j, _, rfl⟩ := List.mem_map.mp hy
    rfl
  · obtain ⟨i, _, rfl⟩ := List.mem_map.mp hx
    intro z; cases z
theorem k_maxD (hc : X.calm = true) (hu : X.A.units + 64 < cLine) : CallRK X (.builtin "max") ["default"] (lfCK X.K rMaxD) := by
  intro pins s σ H xs zs us ws Q I rx rz ⟨ds, es, M, Q', rd, re, sm, ⟨d, ns, k, e1, e2, es1, nt, q⟩, hq⟩
  subst e1 e2
  obtain ⟨x, rfl, r1⟩ := one_of rd
  obtain ⟨y, rfl, r2⟩ := one_of re
  cases r2
  obtain ⟨w, rfl, rw'⟩ := vals1 rz
  obtain ⟨tk, rfl⟩ := rw'
  have fin : Q (.int (mxD ns k)) H := hq (.int _) M _ H Tx.refl rfl sm q
  have go : ∀ a, x = .ref a → SqL X.K H a (ns.map V.int) → wpAny (model X.prog X.w) X.A (call (.builtin "max") us ((["default"] : List Str).zip [Value.int k tk])) (EP X pins σ Q) X.xe s := fun a ex sq => by
    subst ex
    obtain ⟨its, rv, hl, _⟩ := I.list sq
    rw [Vals.ref1 rx]
    obtain ⟨as, hr⟩ := Dp.readsAll I _ _ _ (dpAll_ints ns) rv
    refine PySem.W.max_list_default (xs := ns.map PyData.int) (I.ok.hd hc) hl.isList hr (alike_ints ns) (by rw [depthAll_ints]; omega) (fun e0 h' tk' hk => ?_) (fun y ys i v h' tk' bs e0 hv rdv hk => ?_)
    · have : ns = [] := List.map_eq_nil_iff.mp e0
      subst this
      exact ⟨.int k, H, I.kept hk, ⟨_, rfl⟩, fin⟩
    · match ns, e0 with
      | n :: r, e0 =>
        injection e0 with e3 e4
        subst e3 e4
        rw [PySem.W.maxD_ints] at rdv
        cases rdv
        exact ⟨.int (r.foldl max n), H, I.kept hk, ⟨_, rfl⟩, fin⟩
  cases d with
  | tup us => exact absurd rfl (nt us)
  | fro ds =>
    obtain ⟨a, xs, rfl, sq, rl⟩ := r1
    cases es1
    have := ints_back rl
    subst this
    exact go a rfl sq.sq
  | loc a =>
    cases r1
    obtain ⟨xs, hx, rl⟩ := sm a _ (seqT_loc es1)
    have := ints_back rl
    subst this
    exact go a rfl (SqL.of hx)
  | _ => cases es1
/-! list(range(..)) -/
def rgT (i j : Int) : List Tr := (List.range (j - i).toNat).map fun (n : Nat) => Tr.int (i + (n : Int))
theorem rgT_ok {K : PySem.W.Frag} {H : Hp} {i j : Int} : RepL K H (rgT i j) (rgV i j) := by
  unfold rgT rgV
  induction List.range (j - i).toNat with
  | nil => rfl
  | cons n r ih => exact ⟨_, _, rfl, rfl, ih⟩
def eLR1 (ta : TE2) : TE2 := fun σ M Q E => ta σ M (fun d M1 => ∃ n, d = .int n ∧ RgOk 0 n ∧ ∀ p, M1 p = none → Q (.loc p) (up M1 p (.lst (rgT 0 n)))) E
theorem qe_listRg1 {p2 pos2 : Pos} (hc : X.calm = true) (hm : X.mg "list" = none) (hm2 : X.mg "range" = none) (ha : QE X W a ta) (hg : Gl X "list" := by rfl) (hg2 : Gl X "range" := by rfl)
    (na : starEach [Expr.Call (.Name "range" p2) [a] [] pos2] X.env = (false, eval (Expr.Call (.Name "range" p2) [a] [] pos2) X.env) :: starEach [] X.env := by rfl) (nb : starEach [a] X.env = (false, eval a X.env) :: starEach [] X.env := by rfl) : QE X W (.Call (.Name "list" p) [.Call (.Name "range" p2) [a] [] pos2] [] pos) (eLR1 ta) :=
  pe_weak (pe_listRg hc hg hm (prg_1 hg2 hm2 ha nb) na) fun σ H Q ⟨σ', M, Q', E', hs, hm, q, hq, hx⟩ => by
    refine ⟨σ', M, _, E', hs, hm, q, fun d M1 x H1 t1 r1 s1 ⟨n, e, rg, q1⟩ => ?_, hx⟩
    subst e
    exact ⟨n, r1, rg, fun l hl => new_lst (hq.mono t1) rgT_ok s1 hl q1⟩
def eLR2 (ta tb : TE2) : TE2 := fun σ M Q E => ta σ M (fun d M1 => tb σ M1 (fun e M2 => ∃ i j, d = .int i ∧ e = .int j ∧ RgOk i j ∧ ∀ p, M2 p = none → Q (.loc p) (up M2 p (.lst (rgT i j)))) E) E
theorem qe_listRg2 {p2 pos2 : Pos} (hc : X.calm = true) (hm : X.mg "list" = none) (hm2 : X.mg "range" = none) (ha : QE X W a ta) (hb : QE X W b tb) (hg : Gl X "list" := by rfl) (hg2 : Gl X "range" := by rfl)
    (na : starEach [Expr.Call (.Name "range" p2) [a, b] [] pos2] X.env = (false, eval (Expr.Call (.Name "range" p2) [a, b] [] pos2) X.env) :: starEach [] X.env := by rfl)
    (n1 : starEach [a, b] X.env = (false, eval a X.env) :: starEach [b] X.env := by rfl) (n2 : starEach [b] X.env = (false, eval b X.env) :: starEach [] X.env := by rfl) (hp : (backTo pos2 (starEach [b] X.env)).any (·.1) = false := by rfl) : QE X W (.Call (.Name "list" p) [.Call (.Name "range" p2) [a, b] [] pos2] [] pos) (eLR2 ta tb) :=
  pe_weak (pe_listRg hc hg hm (prg_2 hg2 hm2 ha hb n1 n2 hp) na) fun σ H Q ⟨σ', M, Q', E', hs, hm, q, hq, hx⟩ => by
    refine ⟨σ', M, _, E', hs, hm, q, fun d M1 x H1 t1 r1 s1 q1 => ⟨σ', M1, _, E', hs.mono t1, s1, q1, fun e M2 y H2 t2 r2 s2 ⟨i, j, e1, e2, rg, q2⟩ => ?_, hx.mono t1⟩, hx⟩
    subst e1 e2
    exact ⟨i, j, r1, r2, rg, fun l hl => new_lst (hq.mono (t1.trans t2)) rgT_ok s2 hl q2⟩
end

/-! ### a def by its name -/
structure OkF (P : Program) (w : World) (K : PySem.W.Frag) (mg : Str → Option Value) (base : Heap) (k : Nat) (x : Str) (ps : List Str) (dvs : List Tr) (sp : Sp2) : Prop where
  ex : ∃ (f : Addr) (fd : FuncData) (dus : List V) (ds : List Value), FnT P w K mg base k f fd ps sp ∧ mg x = some (.ref f) ∧ PySem.W.keepIn K (.ref f) = true ∧ Binds K fd ps ds ∧ Vals dus ds ∧ ∀ H, RepL K H dvs dus
theorem OkF.mono {P : Program} {w : World} {K : PySem.W.Frag} {mg : Str → Option Value} {base : Heap} {j k : Nat} {x : Str} {ps : List Str} {dvs : List Tr} {sp : Sp2} (F : OkF P w K mg base j x ps dvs sp) (h : j ≤ k) : OkF P w K mg base k x ps dvs sp := by
  obtain ⟨f, fd, dus, ds, a, r⟩ := F.ex
  exact ⟨f, fd, dus, ds, a.mono h, r⟩
theorem q_call {X : Cx} {W : L2.WX} {k : Nat} {x : Str} {ps : List Str} {dvs : List Tr} {sp : Sp2} {p pos : Pos} {e : Expr} {es : List Expr} {t : TA2} (F : OkF X.prog X.w X.K X.mg X.base k x ps dvs sp) (hr : Room k X.A) (hgd : X.A.guards = some []) (hl : Lets X W)
    (ha : QA X W (e :: es) t) (hg : Gl X x := by rfl) (hdb : (x == ("__debug__" : Str)) = false := by decide) (he : starEach (e :: es) X.env = (false, eval e X.env) :: starEach es X.env := by rfl) (hpl : (backTo pos (starEach es X.env)).any (·.1) = false := by rfl) :
    QE X W (.Call (.Name x p) (e :: es) [] pos) (eCall sp dvs t) := by
  obtain ⟨f, fd, dus, ds, F, hm, hk, hb, hd, hdr⟩ := F.ex
  exact qe_call F hr hgd hm hk hb hd hdr hl ha hg hdb he hpl
theorem q_call0 {X : Cx} {W : L2.WX} {k : Nat} {x : Str} {ps : List Str} {dvs : List Tr} {sp : Sp2} {p pos : Pos} (F : OkF X.prog X.w X.K X.mg X.base k x ps dvs sp) (hr : Room k X.A) (hgd : X.A.guards = some []) (hl : Lets X W)
    (hg : Gl X x := by rfl) (hdb : (x == ("__debug__" : Str)) = false := by decide) : QE X W (.Call (.Name x p) [] [] pos) (eCall sp dvs aNil) := by
  obtain ⟨f, fd, dus, ds, F, hm, hk, hb, hd, hdr⟩ := F.ex
  exact qe_call0 F hr hgd hm hk hb hd hdr hl hg hdb
/-- the body's derivation, with what a body may lean on -/
abbrev Der (P : Program) (w : World) (K : PySem.W.Frag) (mg : Str → Option Value) (base : Heap) (k : Nat) (f : Addr) (qual : Str) (scope : Scope) (N : List Str) (body : List Stmt) (t : TS2) : Prop :=
  ∀ (cdv : Value) (A : Around) (outer : List Env) (s : Shared) (H : Hp) (E : XK), Room k (cxOf (L2.CX P w) P w K mg base N qual scope f cdv A outer s H E).A → (cxOf (L2.CX P w) P w K mg base N qual scope f cdv A outer s H E).A.guards = some [] →
    Takes (cxOf (L2.CX P w) P w K mg base N qual scope f cdv A outer s H E) (fun c dd _ H' => E c dd H') → Lets (cxOf (L2.CX P w) P w K mg base N qual scope f cdv A outer s H E) (fun c dd _ H' => E c dd H') →
    PassesOwn (model P w) (cxOf (L2.CX P w) P w K mg base N qual scope f cdv A outer s H E).A (cxOf (L2.CX P w) P w K mg base N qual scope f cdv A outer s H E).env (cxOf (L2.CX P w) P w K mg base N qual scope f cdv A outer s H E).xe →
    QSs (cxOf (L2.CX P w) P w K mg base N qual scope f cdv A outer s H E) (fun c dd _ H' => E c dd H') body t
theorem fnT_by {P : Program} {w : World} {K : PySem.W.Frag} {mg : Str → Option Value} {base : Heap} {k : Nat} {f : Addr} {fd : FuncData} {x qual : Str} {params : Arguments} {body : List Stmt} {scope : Scope} {dfs : List V} {kws : List (Str × V)} {N ps : List Str} {sp : Sp2} {t : TS2}
    (F : FunD K x qual params body scope dfs kws f fd) (S : FnScope N ps scope) (len : ∀ ds M Q E, sp ds M Q E → ds.length = ps.length)
    (sem : ∀ ds M Q E, sp ds M Q E → t (fEnds Q E) (start2 N ds) M) (der : Der P w K mg base k f qual scope N body t) : FnT P w K mg base (k + 1) f fd ps sp :=
  fnT_of F S len (fun cdv A outer s H E hr hgd => der cdv A outer s H E hr hgd (takes_of rfl rfl rfl rfl) (passAt (takes_of rfl rfl rfl rfl)) (passes_of rfl)) sem
theorem okF_of {P : Program} {w : World} {K : PySem.W.Frag} {mg : Str → Option Value} {base : Heap} {k : Nat} {f : Addr} {fd : FuncData} {x qual : Str} {params : Arguments} {body : List Stmt} {scope : Scope} {N ps : List Str} {sp : Sp2} {t : TS2}
    (F : FunD K x qual params body scope [] [] f fd) (hm : mg x = some (.ref f)) (hb : Binds K fd ps []) (S : FnScope N ps scope) (len : ∀ ds M Q E, sp ds M Q E → ds.length = ps.length)
    (sem : ∀ ds M Q E, sp ds M Q E → t (fEnds Q E) (start2 N ds) M) (der : Der P w K mg base k f qual scope N body t) : OkF P w K mg base (k + 1) x ps [] sp :=
  ⟨f, fd, [], [], fnT_by F S len sem der, hm, F.kp, hb, .nil, fun _ => RepL.nil⟩
/-! promises by the number of arguments -/
abbrev A1 (p : Tr → Ms → Q2 → X2 → Prop) : Sp2 := fun ds M Q E => ∃ a, ds = [a] ∧ p a M Q E
abbrev A2 (p : Tr → Tr → Ms → Q2 → X2 → Prop) : Sp2 := fun ds M Q E => ∃ a b, ds = [a, b] ∧ p a b M Q E
abbrev A3 (p : Tr → Tr → Tr → Ms → Q2 → X2 → Prop) : Sp2 := fun ds M Q E => ∃ a b c, ds = [a, b, c] ∧ p a b c M Q E
abbrev A4 (p : Tr → Tr → Tr → Tr → Ms → Q2 → X2 → Prop) : Sp2 := fun ds M Q E => ∃ a b c d, ds = [a, b, c, d] ∧ p a b c d M Q E
abbrev A5 (p : Tr → Tr → Tr → Tr → Tr → Ms → Q2 → X2 → Prop) : Sp2 := fun ds M Q E => ∃ a b c d e, ds = [a, b, c, d, e] ∧ p a b c d e M Q E
theorem len1 {p : Tr → Ms → Q2 → X2 → Prop} : ∀ ds M Q E, A1 p ds M Q E → ds.length = 1 := fun _ _ _ _ ⟨_, e, _⟩ => by rw [e]; rfl
theorem len2 {p : Tr → Tr → Ms → Q2 → X2 → Prop} : ∀ ds M Q E, A2 p ds M Q E → ds.length = 2 := fun _ _ _ _ ⟨_, _, e, _⟩ => by rw [e]; rfl
theorem len3 {p : Tr → Tr → Tr → Ms → Q2 → X2 → Prop} : ∀ ds M Q E, A3 p ds M Q E → ds.length = 3 := fun _ _ _ _ ⟨_, _, _, e, _⟩ => by rw [e]; rfl
theorem len4 {p : Tr → Tr → Tr → Tr → Ms → Q2 → X2 → Prop} : ∀ ds M Q E, A4 p ds M Q E → ds.length = 4 := fun _ _ _ _ ⟨_, _, _, _, e, _⟩ => by rw [e]; rfl
theorem len5 {p : Tr → Tr → Tr → Tr → Tr → Ms → Q2 → X2 → Prop} : ∀ ds M Q E, A5 p ds M Q E → ds.length = 5 := fun _ _ _ _ ⟨_, _, _, _, _, e, _⟩ => by rw [e]; rfl
theorem room_hu64 {k : Nat} {A : Around} (hr : Room k A) : A.units + 64 < cLine := by have := hr.un; omega
theorem sq_step {t u : TS2} {D : Ends2} {σ : St2} {M : Ms} : sSq t u D σ M = t { D with nx := u D } σ M := rfl
end T

/-! T, ninth part: readings walked by simp. -/
namespace T
open PySem PySem.Spec PyProof.Rows L2
/-- holds a term fixed where it stands -/
inductive Fx {α : Sort u} (a : α) : Type | mk
section
variable {M : Ms} {Q : Q2} {E : X2} {σ : St2} {D : Ends2}

@[simp ↓] theorem eVar_0  {d : Tr} {r : St2} : eVar 0 (some d :: r) M Q E = Q d M := propext ⟨fun ⟨_, e, q⟩ => by have e2 : some (some d) = _ := e; cases e2; exact q, fun q => ⟨d, rfl, q⟩⟩
@[simp ↓] theorem gN_0 {y : Option Tr} {d : Tr} {r : St2} {N : St2 → Ms → Prop} : gN 0 d (y :: r) M N = N (some d :: r) M := rfl
@[simp ↓] theorem eVar_1 {x0 : Option Tr} {d : Tr} {r : St2} : eVar 1 (x0 :: some d :: r) M Q E = Q d M := propext ⟨fun ⟨_, e, q⟩ => by have e2 : some (some d) = _ := e; cases e2; exact q, fun q => ⟨d, rfl, q⟩⟩
@[simp ↓] theorem gN_1 {x0 y : Option Tr} {d : Tr} {r : St2} {N : St2 → Ms → Prop} : gN 1 d (x0 :: y :: r) M N = N (x0 :: some d :: r) M := rfl
@[simp ↓] theorem eVar_2 {x0 x1 : Option Tr} {d : Tr} {r : St2} : eVar 2 (x0 :: x1 :: some d :: r) M Q E = Q d M := propext ⟨fun ⟨_, e, q⟩ => by have e2 : some (some d) = _ := e; cases e2; exact q, fun q => ⟨d, rfl, q⟩⟩
@[simp ↓] theorem gN_2 {x0 x1 y : Option Tr} {d : Tr} {r : St2} {N : St2 → Ms → Prop} : gN 2 d (x0 :: x1 :: y :: r) M N = N (x0 :: x1 :: some d :: r) M := rfl
@[simp ↓] theorem eVar_3 {x0 x1 x2 : Option Tr} {d : Tr} {r : St2} : eVar 3 (x0 :: x1 :: x2 :: some d :: r) M Q E = Q d M := propext ⟨fun ⟨_, e, q⟩ => by have e2 : some (some d) = _ := e; cases e2; exact q, fun q => ⟨d, rfl, q⟩⟩
@[simp ↓] theorem gN_3 {x0 x1 x2 y : Option Tr} {d : Tr} {r : St2} {N : St2 → Ms → Prop} : gN 3 d (x0 :: x1 :: x2 :: y :: r) M N = N (x0 :: x1 :: x2 :: some d :: r) M := rfl
@[simp ↓] theorem eVar_4 {x0 x1 x2 x3 : Option Tr} {d : Tr} {r : St2} : eVar 4 (x0 :: x1 :: x2 :: x3 :: some d :: r) M Q E = Q d M := propext ⟨fun ⟨_, e, q⟩ => by have e2 : some (some d) = _ := e; cases e2; exact q, fun q => ⟨d, rfl, q⟩⟩
@[simp ↓] theorem gN_4 {x0 x1 x2 x3 y : Option Tr} {d : Tr} {r : St2} {N : St2 → Ms → Prop} : gN 4 d (x0 :: x1 :: x2 :: x3 :: y :: r) M N = N (x0 :: x1 :: x2 :: x3 :: some d :: r) M := rfl
@[simp ↓] theorem eVar_5 {x0 x1 x2 x3 x4 : Option Tr} {d : Tr} {r : St2} : eVar 5 (x0 :: x1 :: x2 :: x3 :: x4 :: some d :: r) M Q E = Q d M := propext ⟨fun ⟨_, e, q⟩ => by have e2 : some (some d) = _ := e; cases e2; exact q, fun q => ⟨d, rfl, q⟩⟩
@[simp ↓] theorem gN_5 {x0 x1 x2 x3 x4 y : Option Tr} {d : Tr} {r : St2} {N : St2 → Ms → Prop} : gN 5 d (x0 :: x1 :: x2 :: x3 :: x4 :: y :: r) M N = N (x0 :: x1 :: x2 :: x3 :: x4 :: some d :: r) M := rfl
@[simp ↓] theorem eVar_6 {x0 x1 x2 x3 x4 x5 : Option Tr} {d : Tr} {r : St2} : eVar 6 (x0 :: x1 :: x2 :: x3 :: x4 :: x5 :: some d :: r) M Q E = Q d M := propext ⟨fun ⟨_, e, q⟩ => by have e2 : some (some d) = _ := e; cases e2; exact q, fun q => ⟨d, rfl, q⟩⟩
@[simp ↓] theorem gN_6 {x0 x1 x2 x3 x4 x5 y : Option Tr} {d : Tr} {r : St2} {N : St2 → Ms → Prop} : gN 6 d (x0 :: x1 :: x2 :: x3 :: x4 :: x5 :: y :: r) M N = N (x0 :: x1 :: x2 :: x3 :: x4 :: x5 :: some d :: r) M := rfl
@[simp ↓] theorem eVar_7 {x0 x1 x2 x3 x4 x5 x6 : Option Tr} {d : Tr} {r : St2} : eVar 7 (x0 :: x1 :: x2 :: x3 :: x4 :: x5 :: x6 :: some d :: r) M Q E = Q d M := propext ⟨fun ⟨_, e, q⟩ => by have e2 : some (some d) = _ := e; cases e2; exact q, fun q => ⟨d, rfl, q⟩⟩
@[simp ↓] theorem gN_7 {x0 x1 x2 x3 x4 x5 x6 y : Option Tr} {d : Tr} {r : St2} {N : St2 → Ms → Prop} : gN 7 d (x0 :: x1 :: x2 :: x3 :: x4 :: x5 :: x6 :: y :: r) M N = N (x0 :: x1 :: x2 :: x3 :: x4 :: x5 :: x6 :: some d :: r) M := rfl
@[simp ↓] theorem eVar_8 {x0 x1 x2 x3 x4 x5 x6 x7 : Option Tr} {d : Tr} {r : St2} : eVar 8 (x0 :: x1 :: x2 :: x3 :: x4 :: x5 :: x6 :: x7 :: some d :: r) M Q E = Q d M := propext ⟨fun ⟨_, e, q⟩ => by have e2 : some (some d) = _ := e; cases e2; exact q, fun q => ⟨d, rfl, q⟩⟩
@[simp ↓] theorem gN_8 {x0 x1 x2 x3 x4 x5 x6 x7 y : Option Tr} {d : Tr} {r : St2} {N : St2 → Ms → Prop} : gN 8 d (x0 :: x1 :: x2 :: x3 :: x4 :: x5 :: x6 :: x7 :: y :: r) M N = N (x0 :: x1 :: x2 :: x3 :: x4 :: x5 :: x6 :: x7 :: some d :: r) M := rfl
@[simp ↓] theorem eVar_9 {x0 x1 x2 x3 x4 x5 x6 x7 x8 : Option Tr} {d : Tr} {r : St2} : eVar 9 (x0 :: x1 :: x2 :: x3 :: x4 :: x5 :: x6 :: x7 :: x8 :: some d :: r) M Q E = Q d M := propext ⟨fun ⟨_, e, q⟩ => by have e2 : some (some d) = _ := e; cases e2; exact q, fun q => ⟨d, rfl, q⟩⟩
@[simp ↓] theorem gN_9 {x0 x1 x2 x3 x4 x5 x6 x7 x8 y : Option Tr} {d : Tr} {r : St2} {N : St2 → Ms → Prop} : gN 9 d (x0 :: x1 :: x2 :: x3 :: x4 :: x5 :: x6 :: x7 :: x8 :: y :: r) M N = N (x0 :: x1 :: x2 :: x3 :: x4 :: x5 :: x6 :: x7 :: x8 :: some d :: r) M := rfl
@[simp ↓] theorem eVar_10 {x0 x1 x2 x3 x4 x5 x6 x7 x8 x9 : Option Tr} {d : Tr} {r : St2} : eVar 10 (x0 :: x1 :: x2 :: x3 :: x4 :: x5 :: x6 :: x7 :: x8 :: x9 :: some d :: r) M Q E = Q d M := propext ⟨fun ⟨_, e, q⟩ => by have e2 : some (some d) = _ := e; cases e2; exact q, fun q => ⟨d, rfl, q⟩⟩
@[simp ↓] theorem gN_10 {x0 x1 x2 x3 x4 x5 x6 x7 x8 x9 y : Option Tr} {d : Tr} {r : St2} {N : St2 → Ms → Prop} : gN 10 d (x0 :: x1 :: x2 :: x3 :: x4 :: x5 :: x6 :: x7 :: x8 :: x9 :: y :: r) M N = N (x0 :: x1 :: x2 :: x3 :: x4 :: x5 :: x6 :: x7 :: x8 :: x9 :: some d :: r) M := rfl
@[simp ↓] theorem eVar_11 {x0 x1 x2 x3 x4 x5 x6 x7 x8 x9 x10 : Option Tr} {d : Tr} {r : St2} : eVar 11 (x0 :: x1 :: x2 :: x3 :: x4 :: x5 :: x6 :: x7 :: x8 :: x9 :: x10 :: some d :: r) M Q E = Q d M := propext ⟨fun ⟨_, e, q⟩ => by have e2 : some (some d) = _ := e; cases e2; exact q, fun q => ⟨d, rfl, q⟩⟩
@[simp ↓] theorem gN_11 {x0 x1 x2 x3 x4 x5 x6 x7 x8 x9 x10 y : Option Tr} {d : Tr} {r : St2} {N : St2 → Ms → Prop} : gN 11 d (x0 :: x1 :: x2 :: x3 :: x4 :: x5 :: x6 :: x7 :: x8 :: x9 :: x10 :: y :: r) M N = N (x0 :: x1 :: x2 :: x3 :: x4 :: x5 :: x6 :: x7 :: x8 :: x9 :: x10 :: some d :: r) M := rfl
@[simp ↓] theorem eVar_12 {x0 x1 x2 x3 x4 x5 x6 x7 x8 x9 x10 x11 : Option Tr} {d : Tr} {r : St2} : eVar 12 (x0 :: x1 :: x2 :: x3 :: x4 :: x5 :: x6 :: x7 :: x8 :: x9 :: x10 :: x11 :: some d :: r) M Q E = Q d M := propext ⟨fun ⟨_, e, q⟩ => by have e2 : some (some d) = _ := e; cases e2; exact q, fun q => ⟨d, rfl, q⟩⟩
@[simp ↓] theorem gN_12 {x0 x1 x2 x3 x4 x5 x6 x7 x8 x9 x10 x11 y : Option Tr} {d : Tr} {r : St2} {N : St2 → Ms → Prop} : gN 12 d (x0 :: x1 :: x2 :: x3 :: x4 :: x5 :: x6 :: x7 :: x8 :: x9 :: x10 :: x11 :: y :: r) M N = N (x0 :: x1 :: x2 :: x3 :: x4 :: x5 :: x6 :: x7 :: x8 :: x9 :: x10 :: x11 :: some d :: r) M := rfl
@[simp ↓] theorem eVar_13 {x0 x1 x2 x3 x4 x5 x6 x7 x8 x9 x10 x11 x12 : Option Tr} {d : Tr} {r : St2} : eVar 13 (x0 :: x1 :: x2 :: x3 :: x4 :: x5 :: x6 :: x7 :: x8 :: x9 :: x10 :: x11 :: x12 :: some d :: r) M Q E = Q d M := propext ⟨fun ⟨_, e, q⟩ => by have e2 : some (some d) = _ := e; cases e2; exact q, fun q => ⟨d, rfl, q⟩⟩
@[simp ↓] theorem gN_13 {x0 x1 x2 x3 x4 x5 x6 x7 x8 x9 x10 x11 x12 y : Option Tr} {d : Tr} {r : St2} {N : St2 → Ms → Prop} : gN 13 d (x0 :: x1 :: x2 :: x3 :: x4 :: x5 :: x6 :: x7 :: x8 :: x9 :: x10 :: x11 :: x12 :: y :: r) M N = N (x0 :: x1 :: x2 :: x3 :: x4 :: x5 :: x6 :: x7 :: x8 :: x9 :: x10 :: x11 :: x12 :: some d :: r) M := rfl
@[simp ↓] theorem eVar_14 {x0 x1 x2 x3 x4 x5 x6 x7 x8 x9 x10 x11 x12 x13 : Option Tr} {d : Tr} {r : St2} : eVar 14 (x0 :: x1 :: x2 :: x3 :: x4 :: x5 :: x6 :: x7 :: x8 :: x9 :: x10 :: x11 :: x12 :: x13 :: some d :: r) M Q E = Q d M := propext ⟨fun ⟨_, e, q⟩ => by have e2 : some (some d) = _ := e; cases e2; exact q, fun q => ⟨d, rfl, q⟩⟩
@[simp ↓] theorem gN_14 {x0 x1 x2 x3 x4 x5 x6 x7 x8 x9 x10 x11 x12 x13 y : Option Tr} {d : Tr} {r : St2} {N : St2 → Ms → Prop} : gN 14 d (x0 :: x1 :: x2 :: x3 :: x4 :: x5 :: x6 :: x7 :: x8 :: x9 :: x10 :: x11 :: x12 :: x13 :: y :: r) M N = N (x0 :: x1 :: x2 :: x3 :: x4 :: x5 :: x6 :: x7 :: x8 :: x9 :: x10 :: x11 :: x12 :: x13 :: some d :: r) M := rfl
@[simp ↓] theorem eVar_15 {x0 x1 x2 x3 x4 x5 x6 x7 x8 x9 x10 x11 x12 x13 x14 : Option Tr} {d : Tr} {r : St2} : eVar 15 (x0 :: x1 :: x2 :: x3 :: x4 :: x5 :: x6 :: x7 :: x8 :: x9 :: x10 :: x11 :: x12 :: x13 :: x14 :: some d :: r) M Q E = Q d M := propext ⟨fun ⟨_, e, q⟩ => by have e2 : some (some d) = _ := e; cases e2; exact q, fun q => ⟨d, rfl, q⟩⟩
@[simp ↓] theorem gN_15 {x0 x1 x2 x3 x4 x5 x6 x7 x8 x9 x10 x11 x12 x13 x14 y : Option Tr} {d : Tr} {r : St2} {N : St2 → Ms → Prop} : gN 15 d (x0 :: x1 :: x2 :: x3 :: x4 :: x5 :: x6 :: x7 :: x8 :: x9 :: x10 :: x11 :: x12 :: x13 :: x14 :: y :: r) M N = N (x0 :: x1 :: x2 :: x3 :: x4 :: x5 :: x6 :: x7 :: x8 :: x9 :: x10 :: x11 :: x12 :: x13 :: x14 :: some d :: r) M := rfl
@[simp ↓] theorem eVar_16 {x0 x1 x2 x3 x4 x5 x6 x7 x8 x9 x10 x11 x12 x13 x14 x15 : Option Tr} {d : Tr} {r : St2} : eVar 16 (x0 :: x1 :: x2 :: x3 :: x4 :: x5 :: x6 :: x7 :: x8 :: x9 :: x10 :: x11 :: x12 :: x13 :: x14 :: x15 :: some d :: r) M Q E = Q d M := propext ⟨fun ⟨_, e, q⟩ => by have e2 : some (some d) = _ := e; cases e2; exact q, fun q => ⟨d, rfl, q⟩⟩
@[simp ↓] theorem gN_16 {x0 x1 x2 x3 x4 x5 x6 x7 x8 x9 x10 x11 x12 x13 x14 x15 y : Option Tr} {d : Tr} {r : St2} {N : St2 → Ms → Prop} : gN 16 d (x0 :: x1 :: x2 :: x3 :: x4 :: x5 :: x6 :: x7 :: x8 :: x9 :: x10 :: x11 :: x12 :: x13 :: x14 :: x15 :: y :: r) M N = N (x0 :: x1 :: x2 :: x3 :: x4 :: x5 :: x6 :: x7 :: x8 :: x9 :: x10 :: x11 :: x12 :: x13 :: x14 :: x15 :: some d :: r) M := rfl
@[simp ↓] theorem eVar_17 {x0 x1 x2 x3 x4 x5 x6 x7 x8 x9 x10 x11 x12 x13 x14 x15 x16 : Option Tr} {d : Tr} {r : St2} : eVar 17 (x0 :: x1 :: x2 :: x3 :: x4 :: x5 :: x6 :: x7 :: x8 :: x9 :: x10 :: x11 :: x12 :: x13 :: x14 :: x15 :: x16 :: some d :: r) M Q E = Q d M := propext ⟨fun ⟨_, e, q⟩ => by have e2 : some (some d) = _ := e; cases e2; exact q, fun q => ⟨d, rfl, q⟩⟩
@[simp ↓] theorem gN_17 {x0 x1 x2 x3 x4 x5 x6 x7 x8 x9 x10 x11 x12 x13 x14 x15 x16 y : Option Tr} {d : Tr} {r : St2} {N : St2 → Ms → Prop} : gN 17 d (x0 :: x1 :: x2 :: x3 :: x4 :: x5 :: x6 :: x7 :: x8 :: x9 :: x10 :: x11 :: x12 :: x13 :: x14 :: x15 :: x16 :: y :: r) M N = N (x0 :: x1 :: x2 :: x3 :: x4 :: x5 :: x6 :: x7 :: x8 :: x9 :: x10 :: x11 :: x12 :: x13 :: x14 :: x15 :: x16 :: some d :: r) M := rfl
@[simp ↓] theorem eVar_18 {x0 x1 x2 x3 x4 x5 x6 x7 x8 x9 x10 x11 x12 x13 x14 x15 x16 x17 : Option Tr} {d : Tr} {r : St2} : eVar 18 (x0 :: x1 :: x2 :: x3 :: x4 :: x5 :: x6 :: x7 :: x8 :: x9 :: x10 :: x11 :: x12 :: x13 :: x14 :: x15 :: x16 :: x17 :: some d :: r) M Q E = Q d M := propext ⟨fun ⟨_, e, q⟩ => by have e2 : some (some d) = _ := e; cases e2; exact q, fun q => ⟨d, rfl, q⟩⟩
@[simp ↓] theorem gN_18 {x0 x1 x2 x3 x4 x5 x6 x7 x8 x9 x10 x11 x12 x13 x14 x15 x16 x17 y : Option Tr} {d : Tr} {r : St2} {N : St2 → Ms → Prop} : gN 18 d (x0 :: x1 :: x2 :: x3 :: x4 :: x5 :: x6 :: x7 :: x8 :: x9 :: x10 :: x11 :: x12 :: x13 :: x14 :: x15 :: x16 :: x17 :: y :: r) M N = N (x0 :: x1 :: x2 :: x3 :: x4 :: x5 :: x6 :: x7 :: x8 :: x9 :: x10 :: x11 :: x12 :: x13 :: x14 :: x15 :: x16 :: x17 :: some d :: r) M := rfl
@[simp ↓] theorem eVar_19 {x0 x1 x2 x3 x4 x5 x6 x7 x8 x9 x10 x11 x12 x13 x14 x15 x16 x17 x18 : Option Tr} {d : Tr} {r : St2} : eVar 19 (x0 :: x1 :: x2 :: x3 :: x4 :: x5 :: x6 :: x7 :: x8 :: x9 :: x10 :: x11 :: x12 :: x13 :: x14 :: x15 :: x16 :: x17 :: x18 :: some d :: r) M Q E = Q d M := propext ⟨fun ⟨_, e, q⟩ => by have e2 : some (some d) = _ := e; cases e2; exact q, fun q => ⟨d, rfl, q⟩⟩
@[simp ↓] theorem gN_19 {x0 x1 x2 x3 x4 x5 x6 x7 x8 x9 x10 x11 x12 x13 x14 x15 x16 x17 x18 y : Option Tr} {d : Tr} {r : St2} {N : St2 → Ms → Prop} : gN 19 d (x0 :: x1 :: x2 :: x3 :: x4 :: x5 :: x6 :: x7 :: x8 :: x9 :: x10 :: x11 :: x12 :: x13 :: x14 :: x15 :: x16 :: x17 :: x18 :: y :: r) M N = N (x0 :: x1 :: x2 :: x3 :: x4 :: x5 :: x6 :: x7 :: x8 :: x9 :: x10 :: x11 :: x12 :: x13 :: x14 :: x15 :: x16 :: x17 :: x18 :: some d :: r) M := rfl

@[simp ↓] theorem eC_ap {d : Tr} : eC d σ M Q E = Q d M := rfl
variable {r r' : R22} {ta tb tc te to : TE2} {t : TA2} {tA tB : TT2} {u v : TS2}
@[simp ↓] theorem eOp_ap : eOp r ta tb σ M Q E = ta σ M (fun d M1 => tb σ M1 (fun e M2 => r d e M2 Q) E) E := rfl
@[simp ↓] theorem eUn_ap {f : Tr → Ms → Q2 → Prop} : eUn f ta σ M Q E = ta σ M (fun d M1 => f d M1 Q) E := rfl
/-- what a truth is -/
def kB (d : Tr) (P : Bool → Prop) : Prop := match d with
  | .bl b => P b
  | _ => False
@[simp ↓] theorem kB_bl {b : Bool} {P : Bool → Prop} : kB (.bl b) P = P b := rfl
theorem kB_of {d : Tr} {P : Bool → Prop} : (∃ b, d = .bl b ∧ P b) = kB d P := propext ⟨fun ⟨b, e, q⟩ => by subst e; exact q, fun h => by
  cases d with
  | bl b => exact ⟨b, rfl, h⟩
  | _ => exact h.elim⟩
@[simp ↓] theorem eChain_ap : eChain r r' ta tb tc σ M Q E = ta σ M (fun d M1 => tb σ M1 (fun e M2 => r d e M2 fun z M3 => kB z fun k => if k = true then tc σ M3 (fun f M4 => r' e f M4 Q) E else Q (.bl false) M3) E) E := by
  unfold eChain
  simp only [kB_of]
@[simp ↓] theorem tCm_ap {P : Bool → Ms → Prop} : tCm ta σ M P E = ta σ M (fun d M1 => kB d fun b => P b M1) E := by
  unfold tCm
  simp only [kB_of]
def kT (d : Tr) (M : Ms) (P : Bool → Prop) : Prop := match truT d M with
  | some k => P k
  | none => False
theorem opt_of {α : Type} {o : Option α} {P : α → Prop} : (∃ k, o = some k ∧ P k) = match o with | some k => P k | none => False := by
  cases o with
  | none => simp
  | some a => simp
theorem kT_of {d : Tr} {P : Bool → Prop} : (∃ k, truT d M = some k ∧ P k) = kT d M P := by
  unfold kT
  cases truT d M <;> simp
variable {P : Bool → Prop}
@[simp ↓] theorem kT_bl {b : Bool} : kT (.bl b) M P = P b := rfl
@[simp ↓] theorem kT_int {i : Int} : kT (.int i) M P = P (i != 0) := rfl
@[simp ↓] theorem kT_non : kT .non M P = P false := rfl
@[simp ↓] theorem kT_tup {ds : List Tr} : kT (.tup ds) M P = P (!ds.isEmpty) := rfl
@[simp ↓] theorem kT_fro {ds : List Tr} : kT (.fro ds) M P = P (!ds.isEmpty) := rfl
@[simp ↓] theorem kT_loc {a : Addr} : kT (.loc a) M P = match M a with
  | some (.lst ds) => P (!ds.isEmpty)
  | some (.dic kvs) => P (!kvs.isEmpty)
  | _ => False := by
  simp only [kT, truT]
  generalize M a = o
  cases o with
  | none => rfl
  | some o => cases o <;> rfl
theorem kT_str {x : Str} (h : x.length ≤ sizeLine) : kT (.str x) M P = P ((x.length : Int) != 0) := by simp only [kT, truT, if_pos h]
@[simp ↓] theorem tTr_ap {P : Bool → Ms → Prop} : tTr ta σ M P E = ta σ M (fun d M1 => kT d M1 fun k => P k M1) E := by
  unfold tTr
  simp only [kT_of]
@[simp ↓] theorem tAn_ap {P : Bool → Ms → Prop} : tAn tA tB σ M P E = tA σ M (fun c M1 => if c = true then tB σ M1 P E else P false M1) E := rfl
@[simp ↓] theorem tOrr_ap {P : Bool → Ms → Prop} : tOrr tA tB σ M P E = tA σ M (fun c M1 => if c = true then P true M1 else tB σ M1 P E) E := rfl
@[simp ↓] theorem tNo_ap {P : Bool → Ms → Prop} : tNo tA σ M P E = tA σ M (fun c M1 => P (!c) M1) E := rfl
@[simp ↓] theorem tYes2_ap {P : Bool → Ms → Prop} : tYes2 σ M P E = P true M := rfl
@[simp ↓] theorem eAn_ap : eAn ta tb σ M Q E = ta σ M (fun d M1 => kT d M1 fun k => if k = true then tb σ M1 Q E else Q d M1) E := by
  unfold eAn
  simp only [kT_of]
@[simp ↓] theorem eOrr_ap : eOrr ta tb σ M Q E = ta σ M (fun d M1 => kT d M1 fun k => if k = true then Q d M1 else tb σ M1 Q E) E := by
  unfold eOrr
  simp only [kT_of]
@[simp ↓] theorem eNo_ap : eNo ta σ M Q E = ta σ M (fun d M1 => kT d M1 fun k => Q (.bl (!k)) M1) E := by
  unfold eNo
  simp only [kT_of]
@[simp ↓] theorem eIf_ap : eIf tA ta tb σ M Q E = tA σ M (fun c M1 => if c = true then ta σ M1 Q E else tb σ M1 Q E) E := rfl
@[simp ↓] theorem aNil_ap {P : List Tr → Ms → Prop} : aNil σ M P E = P [] M := rfl
@[simp ↓] theorem aCons_ap {P : List Tr → Ms → Prop} : aCons ta t σ M P E = ta σ M (fun d M1 => t σ M1 (fun ds M2 => P (d :: ds) M2) E) E := rfl
@[simp ↓] theorem eTup_ap : eTup t σ M Q E = t σ M (fun ds M1 => ds.length ≤ sizeLine ∧ Q (.tup ds) M1) E := rfl
/-- a new list is made: one stops here -/
def NewL (M : Ms) (ds : List Tr) (Q : Q2) (_ : Fx Q) : Prop := ∀ p, M p = none → Q (.loc p) (up M p (.lst ds))
@[simp ↓] theorem eLst_ap : eLst t σ M Q E = t σ M (fun ds M1 => ds.length ≤ sizeLine ∧ NewL M1 ds Q .mk) E := rfl
/-! subscripts -/
def kS (d : Tr) (M : Ms) (P : List Tr → Prop) : Prop := match seqT d M with
  | some l => P l
  | none => False
variable {PL : List Tr → Prop} {l : List Tr}
@[simp ↓] theorem kS_tup : kS (.tup l) M PL = PL l := rfl
@[simp ↓] theorem kS_fro : kS (.fro l) M PL = PL l := rfl
@[simp ↓] theorem kS_loc {a : Addr} : kS (.loc a) M PL = match M a with
  | some (.lst ds) => PL ds
  | _ => False := by
  simp only [kS, seqT]
  generalize M a = o
  cases o with
  | none => rfl
  | some o => cases o <;> rfl
theorem kS_of {d : Tr} : (∃ k, seqT d M = some k ∧ PL k) = kS d M PL := by
  unfold kS
  cases seqT d M <;> simp
def kAt (l : List Tr) (i : Int) (P : Tr → Prop) : Prop := match atI l i with
  | some f => P f
  | none => False
theorem kAt_of {i : Int} {P : Tr → Prop} : (∃ k, atI l i = some k ∧ P k) = kAt l i P := by
  unfold kAt
  cases atI l i <;> simp
theorem atI_nat {α : Type} (xs : List α) (i : Nat) : atI xs (i : Int) = xs[i]? := by
  unfold atI ixN
  rw [if_pos (by omega)]
  by_cases h : i < xs.length
  · rw [if_pos (by omega)]
    simp
  · rw [if_neg (by omega)]
    simp; omega
theorem atI_last {α : Type} (xs : List α) : atI xs (-1) = xs[xs.length - 1]? := by
  unfold atI ixN
  rw [if_neg (by omega)]
  by_cases h : xs.length = 0
  · rw [if_neg (by omega)]
    simp; omega
  · rw [if_pos (by omega)]
    have e : (-1 + (xs.length : Int)).toNat = xs.length - 1 := by omega
    simp [e]

@[simp ↓] theorem kAt_0 {d : Tr} {s : List Tr} {P : Tr → Prop} : kAt (d :: s) 0 P = P d := by
  have e : atI (d :: s) ((0 : Nat) : Int) = some d := by rw [atI_nat]; rfl
  have e2 : kAt (d :: s) ((0 : Nat) : Int) P = P d := by unfold kAt; rw [e]
  exact e2
@[simp ↓] theorem kAt_1 {z0 d : Tr} {s : List Tr} {P : Tr → Prop} : kAt (z0 :: d :: s) 1 P = P d := by
  have e : atI (z0 :: d :: s) ((1 : Nat) : Int) = some d := by rw [atI_nat]; rfl
  have e2 : kAt (z0 :: d :: s) ((1 : Nat) : Int) P = P d := by unfold kAt; rw [e]
  exact e2
@[simp ↓] theorem kAt_2 {z0 z1 d : Tr} {s : List Tr} {P : Tr → Prop} : kAt (z0 :: z1 :: d :: s) 2 P = P d := by
  have e : atI (z0 :: z1 :: d :: s) ((2 : Nat) : Int) = some d := by rw [atI_nat]; rfl
  have e2 : kAt (z0 :: z1 :: d :: s) ((2 : Nat) : Int) P = P d := by unfold kAt; rw [e]
  exact e2
@[simp ↓] theorem kAt_3 {z0 z1 z2 d : Tr} {s : List Tr} {P : Tr → Prop} : kAt (z0 :: z1 :: z2 :: d :: s) 3 P = P d := by
  have e : atI (z0 :: z1 :: z2 :: d :: s) ((3 : Nat) : Int) = some d := by rw [atI_nat]; rfl
  have e2 : kAt (z0 :: z1 :: z2 :: d :: s) ((3 : Nat) : Int) P = P d := by unfold kAt; rw [e]
  exact e2
@[simp ↓] theorem kAt_4 {z0 z1 z2 z3 d : Tr} {s : List Tr} {P : Tr → Prop} : kAt (z0 :: z1 :: z2 :: z3 :: d :: s) 4 P = P d := by
  have e : atI (z0 :: z1 :: z2 :: z3 :: d :: s) ((4 : Nat) : Int) = some d := by rw [atI_nat]; rfl
  have e2 : kAt (z0 :: z1 :: z2 :: z3 :: d :: s) ((4 : Nat) : Int) P = P d := by unfold kAt; rw [e]
  exact e2
@[simp ↓] theorem kAt_5 {z0 z1 z2 z3 z4 d : Tr} {s : List Tr} {P : Tr → Prop} : kAt (z0 :: z1 :: z2 :: z3 :: z4 :: d :: s) 5 P = P d := by
  have e : atI (z0 :: z1 :: z2 :: z3 :: z4 :: d :: s) ((5 : Nat) : Int) = some d := by rw [atI_nat]; rfl
  have e2 : kAt (z0 :: z1 :: z2 :: z3 :: z4 :: d :: s) ((5 : Nat) : Int) P = P d := by unfold kAt; rw [e]
  exact e2

theorem kAt_get {P : Tr → Prop} {i : Nat} {d : Tr} (h : l[i]? = some d) : kAt l (i : Int) P = P d := by unfold kAt; rw [atI_nat, h]
theorem kAt_last {P : Tr → Prop} {d : Tr} (h : l[l.length - 1]? = some d) : kAt l (-1) P = P d := by unfold kAt; rw [atI_last, h]
/-- a sign of a text -/
def kChr (z : Str) (i : Int) (P : Tr → Prop) : Prop := match atI z.cps.toList i with
  | some c => P (.str ⟨#[c]⟩)
  | none => False
@[simp ↓] theorem rIx2_str {z : Str} {i : Int} : rIx2 (.str z) (.int i) M Q = (z.length ≤ sizeLine ∧ kChr z i fun d => Q d M) := by
  have e : rIx2 (.str z) (.int i) M Q = (z.length ≤ sizeLine ∧ ∃ c, atI z.cps.toList i = some c ∧ Q (.str ⟨#[c]⟩) M) := rfl
  rw [e]
  unfold kChr
  cases atI z.cps.toList i <;> simp
@[simp ↓] theorem rIx2_tup {i : Int} : rIx2 (.tup l) (.int i) M Q = kAt l i fun d => Q d M := by
  unfold rIx2
  simp [kAt_of, seqT]
@[simp ↓] theorem rIx2_fro {i : Int} : rIx2 (.fro l) (.int i) M Q = kAt l i fun d => Q d M := by
  unfold rIx2
  simp [kAt_of, seqT]
@[simp ↓] theorem rIx2_loc {a : Addr} {i : Int} : rIx2 (.loc a) (.int i) M Q = kS (.loc a) M fun l => kAt l i fun d => Q d M := by
  have e : rIx2 (.loc a) (.int i) M Q = ∃ ds f, seqT (.loc a) M = some ds ∧ atI ds i = some f ∧ Q f M := rfl
  rw [e]
  simp only [exists_and_left, kAt_of, kS_of]
def kI (d : Tr) (P : Int → Prop) : Prop := match d with
  | .int i => P i
  | _ => False
@[simp ↓] theorem kI_int {i : Int} {P : Int → Prop} : kI (.int i) P = P i := rfl
theorem kI_of {d : Tr} {P : Int → Prop} : (∃ b, d = .int b ∧ P b) = kI d P := propext ⟨fun ⟨b, e, q⟩ => by subst e; exact q, fun h => by
  cases d with
  | int b => exact ⟨b, rfl, h⟩
  | _ => exact h.elim⟩
variable {PO : Option Int → Ms → Prop} {lo hi : Option Int} {tl th : TO2}
@[simp ↓] theorem oNo_ap : oNo σ M PO E = PO none M := rfl
@[simp ↓] theorem oPart_ap : oPart ta σ M PO E = ta σ M (fun d M1 => kI d fun i => PO (some i) M1) E := by
  unfold oPart
  simp only [kI_of]
@[simp ↓] theorem eSl_ap {f : Tr → Option Int → Option Int → Ms → Q2 → Prop} : eSl f ta tl th σ M Q E = ta σ M (fun d M1 => tl σ M1 (fun lo M2 => th σ M2 (fun hi M3 => f d lo hi M3 Q) E) E) E := rfl
@[simp ↓] theorem rSl2_tup : rSl2 (.tup l) lo hi M Q = Q (.tup (cutT l lo hi)) M := rfl
@[simp ↓] theorem rSl2_str {z : Str} : rSl2 (.str z) lo hi M Q = (z.length ≤ sizeLine ∧ Q (.str (cutS z lo hi)) M) := rfl
@[simp ↓] theorem rSl2_fro : rSl2 (.fro l) lo hi M Q = NewL M (cutT l lo hi) Q .mk := by
  unfold rSl2 NewL
  simp [seqT]
@[simp ↓] theorem rSl2_loc {a : Addr} : rSl2 (.loc a) lo hi M Q = kS (.loc a) M fun l => NewL M (cutT l lo hi) Q .mk := by
  have e : rSl2 (.loc a) lo hi M Q = ∃ ds, seqT (.loc a) M = some ds ∧ NewL M (cutT ds lo hi) Q .mk := rfl
  rw [e, kS_of]
theorem cutT_hi (ds : List Tr) (k : Nat) : cutT ds none (some (k : Int)) = ds.take k := by
  unfold cutT
  rw [HT.sIx_none, HT.sIx_nat, List.drop_zero, Nat.sub_zero]
  by_cases h : k ≤ ds.length
  · rw [Nat.min_eq_left h]
  · rw [Nat.min_eq_right (by omega), List.take_length, List.take_of_length_le (by omega)]
theorem cutT_lo (ds : List Tr) (k : Nat) : cutT ds (some (k : Int)) none = ds.drop k := by
  unfold cutT
  rw [HT.sIx_none, HT.sIx_nat]
  by_cases h : k ≤ ds.length
  · rw [Nat.min_eq_left h, List.take_of_length_le (by simp)]
  · rw [Nat.min_eq_right (by omega), List.drop_length, List.drop_of_length_le (by omega)]; simp
theorem cutT_both (ds : List Tr) (k l : Nat) : cutT ds (some (k : Int)) (some (l : Int)) = (ds.drop k).take (l - k) := by
  unfold cutT
  rw [HT.sIx_nat, HT.sIx_nat]
  by_cases h : k ≤ ds.length
  · rw [Nat.min_eq_left h]
    by_cases h2 : l ≤ ds.length
    · rw [Nat.min_eq_left h2]
    · rw [Nat.min_eq_right (show ds.length ≤ l by omega), List.take_of_length_le (by simp), List.take_of_length_le (by simp; omega)]
  · rw [Nat.min_eq_right (show ds.length ≤ k by omega), List.drop_length, List.drop_of_length_le (by omega)]; simp
/-! operators -/
variable {i j : Int} {a b : Addr}
@[simp ↓] theorem rII_ap {C : Int → Int → Prop} {g : Int → Int → Int} : rII C g (.int i) (.int j) M Q = (C i j ∧ Q (.int (g i j)) M) := rfl
@[simp ↓] theorem rII_t {g : Int → Int → Int} : rII (fun _ _ => True) g (.int i) (.int j) M Q = Q (.int (g i j)) M := propext ⟨fun h => h.2, fun h => ⟨trivial, h⟩⟩
@[simp ↓] theorem rAdd2_int : rAdd2 (.int i) (.int j) M Q = Q (.int (i + j)) M := rfl
@[simp ↓] theorem rAdd2_str {x y : Str} : rAdd2 (.str x) (.str y) M Q = (x.length + y.length ≤ sizeLine ∧ Q (.str (x ++ y)) M) := rfl
@[simp ↓] theorem rAdd2_tup {k : List Tr} : rAdd2 (.tup l) (.tup k) M Q = (l.length + k.length ≤ sizeLine ∧ Q (.tup (l ++ k)) M) := rfl
@[simp ↓] theorem rAdd2_loc : rAdd2 (.loc a) (.loc b) M Q = kS (.loc a) M fun l => kS (.loc b) M fun k => l.length + k.length ≤ sizeLine ∧ NewL M (l ++ k) Q .mk := by
  have e : rAdd2 (.loc a) (.loc b) M Q = ∃ la lb, M a = some (.lst la) ∧ M b = some (.lst lb) ∧ la.length + lb.length ≤ sizeLine ∧ NewL M (la ++ lb) Q .mk := rfl
  rw [e]
  apply propext
  constructor
  · rintro ⟨la, lb, h1, h2, h3⟩
    simp only [kS_loc, h1, h2]
    exact h3
  · intro h
    rw [← kS_of] at h
    obtain ⟨la, h1, h⟩ := h
    rw [← kS_of] at h
    obtain ⟨lb, h2, h⟩ := h
    exact ⟨la, lb, seqT_loc h1, seqT_loc h2, h⟩
@[simp ↓] theorem rMul2_int : rMul2 (.int i) (.int j) M Q = (CMulX i j ∧ Q (.int (i * j)) M) := rfl
@[simp ↓] theorem rMul2_loc : rMul2 (.loc a) (.int i) M Q = kS (.loc a) M fun la => -(2 ^ 63) ≤ i ∧ i < 2 ^ 63 ∧ la.length * i.toNat ≤ sizeLine ∧ NewL M (List.replicate i.toNat la).flatten Q .mk := by
  have e : rMul2 (.loc a) (.int i) M Q = ∃ la, M a = some (.lst la) ∧ -(2 ^ 63) ≤ i ∧ i < 2 ^ 63 ∧ la.length * i.toNat ≤ sizeLine ∧ NewL M (List.replicate i.toNat la).flatten Q .mk := rfl
  rw [e]
  apply propext
  constructor
  · rintro ⟨la, h1, h3⟩
    simp only [kS_loc, h1]
    exact h3
  · intro h
    rw [← kS_of] at h
    obtain ⟨la, h1, h⟩ := h
    exact ⟨la, seqT_loc h1, h⟩
@[simp ↓] theorem rCmpI_ap {f : Int → Int → Bool} : rCmpI f (.int i) (.int j) M Q = Q (.bl (f i j)) M := rfl
@[simp ↓] theorem rNeg2_ap : rNeg2 (.int i) M Q = Q (.int (-i)) M := rfl
variable {f : Bool → Bool} {x y : Str} {p q : Bool} {kk : List Tr}
@[simp ↓] theorem rEqG_ii : rEqG f (.int i) (.int j) M Q = Q (.bl (f (decide (i = j)))) M := rfl
@[simp ↓] theorem rEqG_ss : rEqG f (.str x) (.str y) M Q = Q (.bl (f (decide (x = y)))) M := rfl
@[simp ↓] theorem rEqG_bb : rEqG f (.bl p) (.bl q) M Q = Q (.bl (f (decide (p = q)))) M := rfl
@[simp ↓] theorem rEqG_nn : rEqG f .non .non M Q = Q (.bl (f true)) M := rfl
@[simp ↓] theorem rEqG_ni : rEqG f .non (.int j) M Q = Q (.bl (f false)) M := rfl
@[simp ↓] theorem rEqG_in : rEqG f (.int j) .non M Q = Q (.bl (f false)) M := rfl
@[simp ↓] theorem rEqG_ns : rEqG f .non (.str x) M Q = Q (.bl (f false)) M := rfl
@[simp ↓] theorem rEqG_sn : rEqG f (.str x) .non M Q = Q (.bl (f false)) M := rfl
@[simp ↓] theorem rEqG_is : rEqG f (.int i) (.str x) M Q = Q (.bl (f false)) M := rfl
@[simp ↓] theorem rEqG_si : rEqG f (.str x) (.int i) M Q = Q (.bl (f false)) M := rfl
/-- data compared: one stops here -/
def EqS (f : Bool → Bool) (d e : Tr) (M : Ms) (Q : Q2) (_ : Fx Q) : Prop := ∃ p q, Dat M p d ∧ Dat M q e ∧ SeqAt.shaped p = true ∧ SeqAt.shaped q = true ∧ Q (.bl (f (PyData.eqv p q))) M
@[simp ↓] theorem rEqG_tt : rEqG f (.tup l) (.tup kk) M Q = EqS f (.tup l) (.tup kk) M Q .mk := rfl
@[simp ↓] theorem rEqG_ll : rEqG f (.loc a) (.loc b) M Q = EqS f (.loc a) (.loc b) M Q .mk := rfl
@[simp ↓] theorem rIsG_n {d : Tr} : rIsG f d .non M Q = Q (.bl (f (isNon d))) M := rfl
@[simp ↓] theorem rIsG_b : rIsG f (.bl p) (.bl q) M Q = Q (.bl (f (decide (p = q)))) M := by
  have e : rIsG f (.bl p) (.bl q) M Q = ∃ a, Tr.bl p = .bl a ∧ Q (.bl (f (decide (a = q)))) M := rfl
  rw [e, kB_of]
  rfl
@[simp] theorem isNon_n : isNon .non = true := rfl
@[simp] theorem isNon_i : isNon (.int i) = false := rfl
@[simp] theorem isNon_s : isNon (.str x) = false := rfl
@[simp] theorem isNon_t : isNon (.tup l) = false := rfl
@[simp] theorem isNon_l : isNon (.loc a) = false := rfl
@[simp] theorem isNon_b : isNon (.bl p) = false := rfl
@[simp ↓] theorem rInG_ss : rInG f (.str x) (.str y) M Q = Q (.bl (f (strIn x y))) M := rfl
theorem rInG_seq {d e : Tr} (h : seqT e M = some l) (h1 : flatT d = true) (h2 : l.all flatT = true) (hq : Q (.bl (f (inT d l))) M) : rInG f d e M Q := by
  cases d <;> cases e <;> first
    | (cases h; done)
    | exact Or.inl ⟨l, h, h1, h2, hq⟩
/-! built-ins -/
@[simp ↓] theorem eB_ap {rc : RC2} : eB rc t σ M Q E = t σ M (fun ds M1 => rc ds M1 Q) E := rfl
@[simp ↓] theorem eBK_ap {rc : RCK2} {tk : TA2} : eBK rc t tk σ M Q E = t σ M (fun ds M1 => tk σ M1 (fun es M2 => rc ds es M2 Q) E) E := rfl
def kL (d : Tr) (M : Ms) (P : Nat → Prop) : Prop := match lenT d M with
  | some n => P n
  | none => False
variable {PN : Nat → Prop} {d e : Tr}
@[simp ↓] theorem kL_tup : kL (.tup l) M PN = PN l.length := rfl
@[simp ↓] theorem kL_fro : kL (.fro l) M PN = PN l.length := rfl
@[simp ↓] theorem kL_loc : kL (.loc a) M PN = match M a with
  | some (.lst ds) => PN ds.length
  | some (.dic kvs) => PN kvs.length
  | _ => False := by
  simp only [kL, lenT]
  generalize M a = o
  cases o with
  | none => rfl
  | some o => cases o <;> rfl
theorem kL_str (h : x.length ≤ sizeLine) : kL (.str x) M PN = PN x.length := by simp only [kL, lenT, if_pos h]
@[simp ↓] theorem rLen2_ap : rLen2 [d] M Q = kL d M fun n => Q (.int n) M := by
  have e : rLen2 [d] M Q = ∃ n, lenT d M = some n ∧ Q (.int n) M := rfl
  rw [e]
  unfold kL
  cases lenT d M <;> simp
@[simp ↓] theorem rTuple2_ap : rTuple2 [d] M Q = kS d M fun l => Q (.tup l) M := kS_of
@[simp ↓] theorem rList2_ap : rList2 [d] M Q = kS d M fun l => NewL M l Q .mk := kS_of (PL := fun l => NewL M l Q .mk)
@[simp ↓] theorem rInt2_int : rInt2 [.int i] M Q = Q (.int i) M := rfl
@[simp ↓] theorem rAbs2_int : rAbs2 [.int i] M Q = Q (.int (if i < 0 then -i else i)) M := rfl
@[simp ↓] theorem rMax2_int : rMax2 [.int i, .int j] M Q = Q (.int (if j > i then j else i)) M := rfl
@[simp ↓] theorem rMin2_int : rMin2 [.int i, .int j] M Q = Q (.int (if j < i then j else i)) M := rfl
/-- sum of a list: one stops here -/
def SumS (d : Tr) (M : Ms) (Q : Q2) (_ : Fx Q) : Prop := ∃ ns : List Int, seqT d M = some (ns.map Tr.int) ∧ (∀ es, d ≠ .tup es) ∧ Q (.int ns.sum) M
@[simp ↓] theorem rSum2_ap : rSum2 [d] M Q = SumS d M Q .mk := rfl
def MaxS (le : Int → Int → Prop) (d : Tr) (M : Ms) (Q : Q2) (_ : Fx Q) : Prop := ∃ ns : List Int, seqT d M = some (ns.map Tr.int) ∧ (∀ es, d ≠ .tup es) ∧ 0 < ns.length ∧ ∀ m, m ∈ ns → (∀ y, y ∈ ns → le y m) → Q (.int m) M
@[simp ↓] theorem rMaxL_ap {le : Int → Int → Prop} : rMaxL le [d] M Q = MaxS le d M Q .mk := rfl
def MaxDS (d : Tr) (i : Int) (M : Ms) (Q : Q2) (_ : Fx Q) : Prop := ∃ ns : List Int, seqT d M = some (ns.map Tr.int) ∧ (∀ es, d ≠ .tup es) ∧ Q (.int (mxD ns i)) M
@[simp ↓] theorem rMaxD_ap : rMaxD [d] [.int i] M Q = MaxDS d i M Q .mk := propext ⟨fun ⟨d', ns, k, e1, e2, h⟩ => by cases e1; cases e2; exact ⟨ns, h⟩, fun ⟨ns, h⟩ => ⟨d, ns, i, rfl, rfl, h⟩⟩
def kY (d : Tr) (M : Ms) (c : String) (P : Bool → Prop) : Prop := ∃ t b, tyT d M = some t ∧ kitB t c = some b ∧ P b
@[simp ↓] theorem rIsi2_ap {c : String} : rIsi2 [d, .ty c] M Q = kY d M c fun b => Q (.bl b) M := propext ⟨fun ⟨t, c', b, h1, h2, h3, h4⟩ => by cases h2; exact ⟨t, b, h1, h3, h4⟩, fun ⟨t, b, h1, h3, h4⟩ => ⟨t, c, b, h1, rfl, h3, h4⟩⟩
theorem kY_of {c t : String} {b : Bool} (h : tyT d M = some t) (h2 : kitB t c = some b) : kY d M c P = P b := propext ⟨fun ⟨t', b', h3, h4, h5⟩ => by
  rw [h] at h3; cases h3
  rw [h2] at h4; cases h4
  exact h5, fun h3 => ⟨t, b, h, h2, h3⟩⟩
/-- repr: one stops here -/
def ReprS (d : Tr) (M : Ms) (Q : Q2) (_ : Fx Q) : Prop := ∃ p : PyData, Dat M p d ∧ p.showable = true ∧ p.hasDict = false ∧ p.depth ≤ 50 ∧ p.shown.length ≤ sizeLine ∧ Q (.str p.shown) M
@[simp ↓] theorem rRepr2_ap : rRepr2 [d] M Q = ReprS d M Q .mk := rfl
@[simp ↓] theorem eLR1_ap : eLR1 ta σ M Q E = ta σ M (fun d M1 => kI d fun n => RgOk 0 n ∧ NewL M1 (rgT 0 n) Q .mk) E := by
  unfold eLR1 NewL
  simp only [kI_of]
@[simp ↓] theorem eLR2_ap : eLR2 ta tb σ M Q E = ta σ M (fun d M1 => tb σ M1 (fun e M2 => kI d fun i => kI e fun j => RgOk i j ∧ NewL M2 (rgT i j) Q .mk) E) E := by
  unfold eLR2 NewL
  simp only [← kI_of]
  congr 1
  funext d M1
  congr 1
  funext e M2
  apply propext
  constructor
  · rintro ⟨i, j, h1, h2, h3⟩
    exact ⟨i, h1, j, h2, h3⟩
  · rintro ⟨i, h1, j, h2, h3⟩
    exact ⟨i, j, h1, h2, h3⟩
/-! methods -/
@[simp ↓] theorem eM0_ap {T : String} {rm : RM2} : eM0 T rm to σ M Q E = to σ M (fun d M1 => isT T d M1 ∧ rm d [] M1 Q) E := rfl
@[simp ↓] theorem eM_ap {T : String} {rm : RM2} : eM T rm to t σ M Q E = to σ M (fun d M1 => isT T d M1 ∧ t σ M1 (fun ds M2 => rm d ds M2 Q) E) E := rfl
@[simp] theorem isT_loc_lst : isT "list" (.loc a) M = match M a with
  | some (.lst _) => True
  | _ => False := by
  unfold isT
  apply propext
  constructor
  · rintro (⟨_, ds, h⟩ | ⟨e, _⟩)
    · rw [h]; trivial
    · exact absurd e (by decide)
  · intro h
    split at h
    · exact .inl ⟨rfl, _, by assumption⟩
    · exact h.elim
@[simp ↓] theorem rApp2_ap : rApp2 (.loc a) [d] M Q = kS (.loc a) M fun l => l.length < sizeLine ∧ Q .non (up M a (.lst (l ++ [d]))) := by
  have e : rApp2 (.loc a) [d] M Q = ∃ l, M a = some (.lst l) ∧ l.length < sizeLine ∧ Q .non (up M a (.lst (l ++ [d]))) := rfl
  rw [e, ← kS_of]
  apply propext
  constructor
  · rintro ⟨l, h, r⟩; exact ⟨l, seqT_lst h, r⟩
  · rintro ⟨l, h, r⟩; exact ⟨l, seqT_loc h, r⟩
def kLast (l : List Tr) (P : Tr → Prop) : Prop := match l[l.length - 1]? with
  | some d => P d
  | none => False
@[simp ↓] theorem kLast_app {P : Tr → Prop} : kLast (l ++ [d]) P = P d := by
  unfold kLast
  simp
@[simp ↓] theorem rPop2_ap : rPop2 (.loc a) [] M Q = kS (.loc a) M fun l => kLast l fun e => Q e (up M a (.lst l.dropLast)) := by
  have e : rPop2 (.loc a) [] M Q = ∃ l e, M a = some (.lst l) ∧ l[l.length - 1]? = some e ∧ Q e (up M a (.lst l.dropLast)) := rfl
  rw [e, ← kS_of]
  apply propext
  constructor
  · rintro ⟨l, e, h, h2, r⟩; exact ⟨l, seqT_lst h, by unfold kLast; rw [h2]; exact r⟩
  · rintro ⟨l, h, r⟩
    unfold kLast at r
    split at r
    · exact ⟨l, _, seqT_loc h, by assumption, r⟩
    · exact r.elim
@[simp ↓] theorem rExt2_ap : rExt2 (.loc a) [.loc b] M Q = kS (.loc a) M fun l => kS (.loc b) M fun k => l.length + k.length ≤ sizeLine ∧ Q .non (up M a (.lst (l ++ k))) := by
  have e : rExt2 (.loc a) [.loc b] M Q = ∃ l r, M a = some (.lst l) ∧ M b = some (.lst r) ∧ l.length + r.length ≤ sizeLine ∧ Q .non (up M a (.lst (l ++ r))) := rfl
  rw [e]
  simp only [← kS_of]
  apply propext
  constructor
  · rintro ⟨l, k, h, h2, r⟩; exact ⟨l, seqT_lst h, k, seqT_lst h2, r⟩
  · rintro ⟨l, h, k, h2, r⟩; exact ⟨l, k, seqT_loc h, seqT_loc h2, r⟩
/-! calls -/
/-- a call: one stops here -/
def CallS (sp : Sp2) (ds : List Tr) (M : Ms) (Q : Q2) (E : X2) (_ : Fx (Q, E)) : Prop := sp ds M Q E
@[simp ↓] theorem eCall_ap {sp : Sp2} : eCall sp [] t σ M Q E = t σ M (fun ds M1 => CallS sp ds M1 Q E .mk) E := by
  unfold eCall CallS
  simp only [List.append_nil]
/-! statements -/
@[simp ↓] theorem sSq_ap : sSq u v D σ M = u { D with nx := v D } σ M := rfl
@[simp ↓] theorem sNx_ap : sNx D σ M = D.nx σ M := rfl
@[simp ↓] theorem sBk_ap : sBk D σ M = D.bk σ M := rfl
@[simp ↓] theorem sCt_ap : sCt D σ M = D.ct σ M := rfl
@[simp ↓] theorem sDr_ap : sDr te D σ M = te σ M (fun _ M1 => D.nx σ M1) (D.xx σ) := rfl
@[simp ↓] theorem sRt_ap : sRt te D σ M = te σ M D.rt (D.xx σ) := rfl
@[simp ↓] theorem sRtN_ap : sRtN D σ M = D.rt .non M := rfl
@[simp ↓] theorem sIf_ap : sIf tA u v D σ M = tA σ M (fun b M1 => if b = true then u D σ M1 else v D σ M1) (D.xx σ) := rfl
@[simp ↓] theorem sNv_ap : sNv D σ M = False := rfl
@[simp ↓] theorem sAs_ap {g : TG2} : sAs te g D σ M = te σ M (fun d M1 => g d σ M1 D.nx) (D.xx σ) := rfl
def k2 (ds : List Tr) (P : Tr → Tr → Prop) : Prop := match ds with
  | [d, e] => P d e
  | _ => False
@[simp ↓] theorem k2_ap {P : Tr → Tr → Prop} : k2 [d, e] P = P d e := rfl
def k3 (ds : List Tr) (P : Tr → Tr → Tr → Prop) : Prop := match ds with
  | [d, e, f] => P d e f
  | _ => False
@[simp ↓] theorem k3_ap {c : Tr} {P : Tr → Tr → Tr → Prop} : k3 [d, e, c] P = P d e c := rfl
@[simp ↓] theorem sPr_ap {i j : Nat} : sPr i j t D σ M = t σ M (fun ds M1 => k2 ds fun d e => gN i d σ M1 fun σ1 M2 => gN j e σ1 M2 D.nx) (D.xx σ) := by
  unfold sPr
  congr 1
  funext ds M1
  apply propext
  constructor
  · rintro ⟨d, e, rfl, h⟩; exact h
  · intro h
    match ds, h with
    | [d, e], h => exact ⟨d, e, rfl, h⟩
@[simp ↓] theorem sPr3_ap {i j l : Nat} : sPr3 i j l t D σ M = t σ M (fun ds M1 => k3 ds fun d e f => gN i d σ M1 fun σ1 M2 => gN j e σ1 M2 fun σ2 M3 => gN l f σ2 M3 D.nx) (D.xx σ) := by
  unfold sPr3
  congr 1
  funext ds M1
  apply propext
  constructor
  · rintro ⟨d, e, f, rfl, h⟩; exact h
  · intro h
    match ds, h with
    | [d, e, f], h => exact ⟨d, e, f, rfl, h⟩
@[simp ↓] theorem sAu_ap {i : Nat} : sAu i r te D σ M = eVar i σ M (fun d _ => te σ M (fun e M1 => r d e M1 fun z M2 => gN i z σ M2 D.nx) (D.xx σ)) X0 := rfl
/-! targets -/
variable {N : St2 → Ms → Prop} {g : TG2} {gs : TGs2} {ds : List Tr}
@[simp ↓] theorem gNil2_ap : gNil2 [] σ M N = N σ M := propext ⟨fun h => h.2, fun h => ⟨rfl, h⟩⟩
@[simp ↓] theorem gCo_ap : gCo g gs (d :: ds) σ M N = g d σ M fun σ' M' => gs ds σ' M' N := propext ⟨fun ⟨d', r, e, h⟩ => by cases e; exact h, fun h => ⟨d, ds, rfl, h⟩⟩
@[simp ↓] theorem gT_ap {n : Nat} : gT n gs (.tup ds) σ M N = (ds.length = n ∧ gs ds σ M N) := propext ⟨fun ⟨d', e, h⟩ => by cases e; exact h, fun h => ⟨ds, rfl, h⟩⟩
@[simp ↓] theorem gSb_ap {ti : TE2} : gSb rPut2 to ti d σ M N = to σ M (fun o M1 => ti σ M1 (fun i M2 => rPut2 o i d M2 fun M3 => N σ M3) X0) X0 := rfl
def kIx (n : Nat) (i : Int) (P : Nat → Prop) : Prop := match ixN n i with
  | some j => P j
  | none => False
theorem ixN_nat {n k : Nat} (h : k < n) : ixN n (k : Int) = some k := by
  unfold ixN
  rw [if_pos (by omega), if_pos (by omega)]
  simp
theorem kIx_nat {n k : Nat} (h : k < n) : kIx n (k : Int) PN = PN k := by unfold kIx; rw [ixN_nat h]
@[simp ↓] theorem rPut2_ap {PM : Ms → Prop} : rPut2 (.loc a) (.int i) d M PM = match M a with
  | some (.lst l) => kIx l.length i fun j => PM (up M a (.lst (l.set j d)))
  | some (.dic kvs) => kvs.length < sizeLine ∧ PM (up M a (.dic (putT kvs (.inl i) d)))
  | _ => False := by
  have e : rPut2 (.loc a) (.int i) d M PM = ((∃ a' l k j, Tr.loc a = .loc a' ∧ Tr.int i = .int k ∧ M a' = some (.lst l) ∧ ixN l.length k = some j ∧ PM (up M a' (.lst (l.set j d)))) ∨
    ∃ a' kvs k, Tr.loc a = .loc a' ∧ keyT (.int i) = some k ∧ M a' = some (.dic kvs) ∧ kvs.length < sizeLine ∧ PM (up M a' (.dic (putT kvs k d)))) := rfl
  rw [e]
  apply propext
  constructor
  · rintro (⟨a', l, k, j, h1, h2, h3, h4, h5⟩ | ⟨a', kvs, k, h1, h2, h3, h4⟩)
    · cases h1; cases h2
      rw [h3]
      show kIx _ _ _
      unfold kIx
      rw [h4]; exact h5
    · cases h1; cases h2
      rw [h3]; exact h4
  · intro h
    split at h
    · rename_i l hl
      unfold kIx at h
      split at h
      · exact .inl ⟨a, l, i, _, rfl, rfl, hl, by assumption, h⟩
      · exact h.elim
    · exact .inr ⟨a, _, _, rfl, rfl, by assumption, h⟩
    · exact h.elim
@[simp ↓] theorem kIx_0 {n : Nat} (h : 0 < n) : kIx n 0 PN = PN 0 := kIx_nat (k := 0) h
@[simp ↓] theorem kIx_1 {n : Nat} (h : 1 < n) : kIx n 1 PN = PN 1 := kIx_nat (k := 1) h
@[simp ↓] theorem kIx_2 {n : Nat} (h : 2 < n) : kIx n 2 PN = PN 2 := kIx_nat (k := 2) h
/-- what holds between two statements -/
theorem seq_cut (R : St2 → Ms → Prop) (h1 : ∀ NX : St2 → Ms → Prop, (∀ σ M, R σ M → NX σ M) → u { D with nx := NX } σ M) (h2 : ∀ σ M, R σ M → v D σ M) : sSq u v D σ M := h1 (v D) h2
/-! walks: one stops at the loop -/
def kSS (d : Tr) (M : Ms) (P : List Tr → Prop) : Prop := match seqS d M with
  | some l => P l
  | none => False
@[simp ↓] theorem kSS_tup : kSS (.tup l) M PL = PL l := rfl
@[simp ↓] theorem kSS_fro : kSS (.fro l) M PL = PL l := rfl
@[simp ↓] theorem kSS_str {x : Str} : kSS (.str x) M PL = PL (x.cps.toList.map fun k => .str ⟨#[k]⟩) := rfl
@[simp ↓] theorem kSS_loc {a : Addr} : kSS (.loc a) M PL = match M a with
  | some (.lst ds) => PL ds
  | _ => False := kS_loc
theorem kSS_some {d : Tr} (h : seqS d M = some l) : kSS d M PL = PL l := by unfold kSS; rw [h]
theorem kSS_of {d : Tr} : (∃ k, seqS d M = some k ∧ PL k) = kSS d M PL := by
  unfold kSS
  cases seqS d M <;> simp
def k1 (ds : List Tr) (P : Tr → Prop) : Prop := match ds with
  | [d] => P d
  | _ => False
@[simp ↓] theorem k1_ap {P : Tr → Prop} : k1 [d] P = P d := rfl
variable {R : It2 → Ms → Prop}
@[simp ↓] theorem iSq_ap : iSq te σ M R E = te σ M (fun d M1 => kSS d M1 fun ds => R (itL ds fun M => seqS d M = some ds) M1) E := by
  unfold iSq
  congr 1
  funext d M1
  exact kSS_of (PL := fun ds => R (itL ds fun M => seqS d M = some ds) M1)
@[simp ↓] theorem iEn_ap : iEn t σ M R E = t σ M (fun es M1 => k1 es fun d => kS d M1 fun ds => R (itE ds fun M => seqT d M = some ds) M1) E := by
  unfold iEn
  congr 1
  funext es M1
  apply propext
  constructor
  · rintro ⟨d, ds, rfl, h, r⟩
    show kS d M1 _
    rw [← kS_of]; exact ⟨ds, h, r⟩
  · intro h
    match es, h with
    | [d], h =>
      have h' : kS d M1 fun ds => R (itE ds fun M => seqT d M = some ds) M1 := h
      rw [← kS_of] at h'
      obtain ⟨ds, h1, h2⟩ := h'
      exact ⟨d, ds, rfl, h1, h2⟩
@[simp ↓] theorem iRg1_ap : iRg1 t σ M R E = t σ M (fun es M1 => k1 es fun d => kI d fun j => Rg j ∧ R (itR 0 j.toNat) M1) E := by
  unfold iRg1
  congr 1
  funext es M1
  apply propext
  constructor
  · rintro ⟨j, rfl, h⟩; exact h
  · intro h
    match es, h with
    | [d], h =>
      have h' : kI d fun j => Rg j ∧ R (itR 0 j.toNat) M1 := h
      rw [← kI_of] at h'
      obtain ⟨j, rfl, h2⟩ := h'
      exact ⟨j, rfl, h2⟩
@[simp ↓] theorem iRg2_ap : iRg2 t σ M R E = t σ M (fun es M1 => k2 es fun d e => kI d fun i => kI e fun j => Rg i ∧ Rg j ∧ R (itR i (j - i).toNat) M1) E := by
  unfold iRg2
  congr 1
  funext es M1
  apply propext
  constructor
  · rintro ⟨i, j, rfl, h⟩; exact h
  · intro h
    match es, h with
    | [d, e], h =>
      have h' : kI d fun i => kI e fun j => Rg i ∧ Rg j ∧ R (itR i (j - i).toNat) M1 := h
      rw [← kI_of] at h'
      obtain ⟨i, rfl, h2⟩ := h'
      rw [← kI_of] at h2
      obtain ⟨j, rfl, h3⟩ := h2
      exact ⟨i, j, rfl, h3⟩
variable {wi : TI2} {vs : List Nat}
def FoS (J : It2) (g : TG2) (v : TS2) (D : Ends2) (σ : St2) (M1 : Ms) (_ : Fx (J, g, v, D)) : Prop := ∃ W : Nat → Nat → St2 → Ms → Prop, (∃ m, W 0 m σ M1) ∧ ∀ i m σ M, W i m σ M →
  (J.stop i M ∧ D.nx σ M) ∨ (J.go i M ∧ ∃ N : St2 → Ms → Prop, (∀ σ' M', N σ' M' → ∃ m', m' < m ∧ W (i + 1) m' σ' M') ∧ ∀ d, J.yld i M d → g d σ M fun σ2 M2 => v { D with nx := N, ct := N, bk := D.nx } σ2 M2)
@[simp ↓] theorem sFo_ap : sFo wi g v D σ M = wi σ M (fun J M1 => FoS J g v D σ M1 .mk) (D.xx σ) := rfl
def LcS (J : It2) (g : TG2) (tt : TT2) (te : TE2) (vs : List Nat) (σ : St2) (M1 : Ms) (Q : Q2) (_ : Fx (J, g, tt, te, σ, Q)) : Prop := ∀ p, M1 p = none → ∃ W : Nat → Nat → Ms → Prop, (∃ m, W 0 m (up M1 p (.lst []))) ∧ ∀ i m M, W i m M →
  (J.stop i M ∧ Q (.loc p) M) ∨ (J.go i M ∧ ∃ N : Ms → Prop, (∀ M', N M' → ∃ m', m' < m ∧ W (i + 1) m' M') ∧ ∀ d, J.yld i M d → g d (wipe2 σ vs) M fun σ2 M2 => tt σ2 M2 (fun b M3 =>
    if b = true then te σ2 M3 (fun y M4 => ∃ acc, M4 p = some (.lst acc) ∧ acc.length < sizeLine ∧ N (up M4 p (.lst (acc ++ [y])))) X0 else N M3) X0)
@[simp ↓] theorem eLc_ap : eLc wi g tA te vs σ M Q E = wi σ M (fun J M1 => LcS J g tA te vs σ M1 Q .mk) E := rfl
theorem nx_cut (h : ∀ NX : St2 → Ms → Prop, (∀ σ M, D.nx σ M → NX σ M) → u { D with nx := NX } σ M) : u D σ M := h D.nx fun _ _ h => h
/-- a turn of a while: one stops here -/
def WhT (v : TS2) (W : Nat → St2 → Ms → Prop) (m : Nat) (D : Ends2) (σ : St2) (M1 : Ms) (_ : Fx (W, D)) : Prop := ∃ N : St2 → Ms → Prop, (∀ σ' M', N σ' M' → ∃ m', m' < m ∧ W m' σ' M') ∧ v { D with nx := N, ct := N, bk := D.nx } σ M1
theorem WhT.of {W : Nat → St2 → Ms → Prop} {m : Nat} {fx : Fx (W, D)} (h : ∀ NX : St2 → Ms → Prop, (∀ m' σ M, m' < m → W m' σ M → NX σ M) → v { D with nx := NX, ct := NX, bk := D.nx } σ M) : WhT v W m D σ M fx :=
  ⟨fun σ' M' => ∃ m', m' < m ∧ W m' σ' M', fun _ _ h => h, h _ fun m' σ M lt w => ⟨m', lt, w⟩⟩
theorem sWh_of (W : Nat → St2 → Ms → Prop) (m0 : Nat) (h0 : W m0 σ M) (h : ∀ m σ M, W m σ M → tA σ M (fun b M1 => if b = true then WhT v W m D σ M1 .mk else D.nx σ M1) (D.xx σ)) : sWh tA v D σ M := ⟨W, ⟨m0, h0⟩, h⟩
@[simp] theorem fEnds_nx : (fEnds Q E).nx σ M = Fg Q .non M := rfl
@[simp] theorem fEnds_rt : (fEnds Q E).rt = Fg Q := rfl
@[simp] theorem fEnds_bk : (fEnds Q E).bk σ M = False := rfl
@[simp] theorem fEnds_ct : (fEnds Q E).ct σ M = False := rfl
@[simp] theorem fEnds_ex {c : Value} {dd : Option Addr} : (fEnds Q E).ex c dd σ M = FgX E c dd M := rfl
/-! comprehensions whose items are made without a change of the store -/
theorem up_eta {M M1 : Ms} {p : Addr} {o : MO} (h : M p = some o) (fr : ∀ a, a ≠ p → M a = M1 a) : M = up M1 p o := by
  funext a
  by_cases c : a = p
  · subst c; rw [up_same]; exact h
  · rw [up_ne c]; exact fr a c
theorem fm_succ {f : Nat → Option Tr} {n : Nat} : (List.range (n + 1)).filterMap f = (List.range n).filterMap f ++ (match f n with | some y => [y] | none => []) := by
  rw [List.range_succ, List.filterMap_append]
  congr 1
  cases h : f n <;> simp [h]
theorem fm_len {f : Nat → Option Tr} {n : Nat} : ((List.range n).filterMap f).length ≤ n := by
  have := List.length_filterMap_le f (List.range n)
  simpa using this
section
variable {te : TE2} {g : TG2} {t : TT2} {vs : List Nat} {σ : St2} {M1 : Ms} {p : Addr} {Qd : Ms → Prop} (f : Nat → Option Tr)
theorem fm_put {i : Nat} {Pv : Nat → Ms → Prop} (hP : ∀ i M, M p = some (.lst ((List.range i).filterMap f)) → (∀ a, a ≠ p → M a = M1 a) → Pv i M) (hz : i < 100000) {M : Ms} (hp : M p = some (.lst ((List.range i).filterMap f))) (fr : ∀ a, a ≠ p → M a = M1 a) {x : Tr} {σ' : St2}
    (hs : ∀ (KY : Tr → Ms → Prop) (KN : Ms → Prop), (∀ y, f i = some y → KY y M) → (f i = none → KN M) → g x σ' M fun σ2 M2 => t σ2 M2 (fun b M3 => if b = true then te σ2 M3 KY X0 else KN M3) X0) :
    g x σ' M fun σ2 M2 => t σ2 M2 (fun b M3 => if b = true then te σ2 M3 (fun y M4 => ∃ acc, M4 p = some (.lst acc) ∧ acc.length < sizeLine ∧ Pv (i + 1) (up M4 p (.lst (acc ++ [y])))) X0 else Pv (i + 1) M3) X0 := by
  refine hs _ _ (fun y hy => ?_) fun hn => ?_
  · have := @fm_len f i
    refine ⟨_, hp, by rw [sizeLine_eq]; omega, hP _ _ ?_ fun a ha => ?_⟩
    · rw [up_same, fm_succ, hy]
    · rw [up_ne ha]; exact fr a ha
  · refine hP _ _ ?_ fr
    rw [fm_succ, hn, List.append_nil]; exact hp
theorem lc_fmR {lo : Int} {n : Nat} (hn : n ≤ 100000) (hd : Qd (up M1 p (.lst ((List.range n).filterMap f))))
    (hs : ∀ (i : Nat) M, i < n → (∀ a, a ≠ p → M a = M1 a) → ∀ (KY : Tr → Ms → Prop) (KN : Ms → Prop), (∀ y, f i = some y → KY y M) → (f i = none → KN M) → g (.int (lo + i)) (wipe2 σ vs) M fun σ2 M2 => t σ2 M2 (fun b M3 => if b = true then te σ2 M3 KY X0 else KN M3) X0) :
    ∃ W : Nat → Nat → Ms → Prop, (∃ m, W 0 m (up M1 p (.lst []))) ∧ ∀ i m M, W i m M → ((itR lo n).stop i M ∧ Qd M) ∨ ((itR lo n).go i M ∧ ∃ N : Ms → Prop, (∀ M', N M' → ∃ m', m' < m ∧ W (i + 1) m' M') ∧ ∀ d, (itR lo n).yld i M d →
      g d (wipe2 σ vs) M fun σ2 M2 => t σ2 M2 (fun b M3 => if b = true then te σ2 M3 (fun y M4 => ∃ acc, M4 p = some (.lst acc) ∧ acc.length < sizeLine ∧ N (up M4 p (.lst (acc ++ [y])))) X0 else N M3) X0) :=
  lc_itR (fun i M => M p = some (.lst ((List.range i).filterMap f)) ∧ ∀ a, a ≠ p → M a = M1 a) ⟨up_same, fun a h => up_ne h⟩
    (fun i M hi ⟨h1, h2⟩ => fm_put (Pv := fun i M => M p = some (.lst ((List.range i).filterMap f)) ∧ ∀ a, a ≠ p → M a = M1 a) f (fun i M a b => ⟨a, b⟩) (by omega) h1 h2 (hs i M hi h2)) fun M ⟨h1, h2⟩ => by rw [up_eta h1 h2]; exact hd
theorem lc_fmE {ds : List Tr} {ok : Ms → Prop} (hn : ds.length ≤ 100000) (hok : ∀ M, (∀ a, a ≠ p → M a = M1 a) → ok M) (hd : Qd (up M1 p (.lst ((List.range ds.length).filterMap f))))
    (hs : ∀ (i : Nat) d M, ds[i]? = some d → (∀ a, a ≠ p → M a = M1 a) → ∀ (KY : Tr → Ms → Prop) (KN : Ms → Prop), (∀ y, f i = some y → KY y M) → (f i = none → KN M) → g (.tup [.int i, d]) (wipe2 σ vs) M fun σ2 M2 => t σ2 M2 (fun b M3 => if b = true then te σ2 M3 KY X0 else KN M3) X0) :
    ∃ W : Nat → Nat → Ms → Prop, (∃ m, W 0 m (up M1 p (.lst []))) ∧ ∀ i m M, W i m M → ((itE ds ok).stop i M ∧ Qd M) ∨ ((itE ds ok).go i M ∧ ∃ N : Ms → Prop, (∀ M', N M' → ∃ m', m' < m ∧ W (i + 1) m' M') ∧ ∀ d, (itE ds ok).yld i M d →
      g d (wipe2 σ vs) M fun σ2 M2 => t σ2 M2 (fun b M3 => if b = true then te σ2 M3 (fun y M4 => ∃ acc, M4 p = some (.lst acc) ∧ acc.length < sizeLine ∧ N (up M4 p (.lst (acc ++ [y])))) X0 else N M3) X0) :=
  lc_itE (fun i M => M p = some (.lst ((List.range i).filterMap f)) ∧ ∀ a, a ≠ p → M a = M1 a) ⟨up_same, fun a h => up_ne h⟩ (fun i M _ ⟨_, h⟩ => hok M h)
    (fun i d M hi ⟨h1, h2⟩ => fm_put (Pv := fun i M => M p = some (.lst ((List.range i).filterMap f)) ∧ ∀ a, a ≠ p → M a = M1 a) f (fun i M a b => ⟨a, b⟩) (by have := (List.getElem?_eq_some_iff.mp hi).1; omega) h1 h2 (hs i d M hi h2)) fun M ⟨h1, h2⟩ => by rw [up_eta h1 h2]; exact hd
theorem lc_fmL {ds : List Tr} {ok : Ms → Prop} (hn : ds.length ≤ 100000) (hok : ∀ M, (∀ a, a ≠ p → M a = M1 a) → ok M) (hd : Qd (up M1 p (.lst ((List.range ds.length).filterMap f))))
    (hs : ∀ (i : Nat) d M, ds[i]? = some d → (∀ a, a ≠ p → M a = M1 a) → ∀ (KY : Tr → Ms → Prop) (KN : Ms → Prop), (∀ y, f i = some y → KY y M) → (f i = none → KN M) → g d (wipe2 σ vs) M fun σ2 M2 => t σ2 M2 (fun b M3 => if b = true then te σ2 M3 KY X0 else KN M3) X0) :
    ∃ W : Nat → Nat → Ms → Prop, (∃ m, W 0 m (up M1 p (.lst []))) ∧ ∀ i m M, W i m M → ((itL ds ok).stop i M ∧ Qd M) ∨ ((itL ds ok).go i M ∧ ∃ N : Ms → Prop, (∀ M', N M' → ∃ m', m' < m ∧ W (i + 1) m' M') ∧ ∀ d, (itL ds ok).yld i M d →
      g d (wipe2 σ vs) M fun σ2 M2 => t σ2 M2 (fun b M3 => if b = true then te σ2 M3 (fun y M4 => ∃ acc, M4 p = some (.lst acc) ∧ acc.length < sizeLine ∧ N (up M4 p (.lst (acc ++ [y])))) X0 else N M3) X0) :=
  lc_itL (fun i M => M p = some (.lst ((List.range i).filterMap f)) ∧ ∀ a, a ≠ p → M a = M1 a) ⟨up_same, fun a h => up_ne h⟩ (fun i M _ ⟨_, h⟩ => hok M h)
    (fun i d M hi ⟨h1, h2⟩ => fm_put (Pv := fun i M => M p = some (.lst ((List.range i).filterMap f)) ∧ ∀ a, a ≠ p → M a = M1 a) f (fun i M a b => ⟨a, b⟩) (by have := (List.getElem?_eq_some_iff.mp hi).1; omega) h1 h2 (hs i d M hi h2)) fun M ⟨h1, h2⟩ => by rw [up_eta h1 h2]; exact hd
end
theorem fm_if {q : Nat → Bool} {h : Nat → Tr} {l : List Nat} : l.filterMap (fun i => if q i = true then some (h i) else none) = (l.filter q).map h := by
  induction l with
  | nil => rfl
  | cons x r ih =>
    by_cases c : q x = true
    · simp only [List.filterMap_cons, List.filter_cons, c, if_true, List.map_cons, ih]
    · simp [List.filterMap_cons, List.filter_cons, c, ih]
theorem fm_all {h : Nat → Tr} {l : List Nat} : l.filterMap (fun i => some (h i)) = l.map h := by
  induction l with
  | nil => rfl
  | cons x r ih => simp only [List.filterMap_cons, List.map_cons, ih]
end
end T

/-! T, tenth part: texts joined and repeated, places in lists, sorted data. -/
namespace T
open PySem PySem.Spec PyProof.Rows L2
section
variable {X : Cx} {W : L2.WX} {e o : Expr} {to te : TE2} {pos apos p : Pos} {M : Ms} {Q : Q2} {E : X2} {σ : St2}
/-! a text's method of one argument -/
def eM1 (rm : RM2) (to te : TE2) : TE2 := fun σ M Q E => to σ M (fun d M1 => (∃ z, d = .str z) ∧ te σ M1 (fun e M2 => rm d [e] M2 Q) E) E
theorem m1_low {K : PySem.W.Frag} {rm : RM2} {σ : L2.St} {H : Hp} {Q : VK} (h : lfE K W (eM1 rm to te) σ H Q) : tM1 (lfM K rm) (lfE K W to) (lfE K W te) σ H Q := by
  obtain ⟨σ', M, Q', E', hs, hm, q, hq, hx⟩ := h
  exact ⟨σ', M, _, E', hs, hm, q, fun d M1 x H1 t1 r1 s1 ⟨⟨z, ez⟩, q1⟩ => ⟨⟨z, by subst ez; exact r1⟩, σ', M1, _, E', hs.mono t1, s1, q1, fun e M2 y H2 t2 r2 s2 q2 =>
    ⟨d, [e], M2, _, r1.mono t2, .one r2, s2, q2, hq.mono (t1.trans t2)⟩, hx.mono t1⟩, hx⟩
theorem q_m1 {rm : RM2} (h : PE X e (tM1 (lfM X.K rm) (lfE X.K W to) (lfE X.K W te))) : QE X W e (eM1 rm to te) := pe_weak h fun _ _ _ h => m1_low h
@[simp ↓] theorem eM1_ap {rm : RM2} : eM1 rm to te σ M Q E = to σ M (fun d M1 => (∃ z, d = .str z) ∧ te σ M1 (fun e M2 => rm d [e] M2 Q) E) E := rfl
/-- sep.join(list of texts) -/
def rJoin2 : RM2 := fun d ds M Q => ∃ a e, ∃ ys : List Str, d = .str a ∧ ds = [e] ∧ seqT e M = some (ys.map Tr.str) ∧ (ys.map (·.length)).sum + ys.length * a.length ≤ 16777216 ∧ Q (.str (Txt.join a ys)) M
theorem strs_back {K : PySem.W.Frag} {H : Hp} {ns : List Str} {xs : List V} (r : RepL K H (ns.map Tr.str) xs) : xs = ns.map V.str := by
  induction ns generalizing xs with
  | nil => exact r
  | cons n t ih =>
    obtain ⟨x, y, rfl, r1, r2⟩ := r
    cases r1
    rw [ih r2]; rfl
theorem m_join : MtR X "str.join" (lfM X.K rJoin2) := by
  intro pins s σ H x xs v us Q I rx rs ⟨d, ds, M, Q', rd, rds, sm, ⟨a, e, ys, ed0, ed, es, hz, q⟩, hq⟩
  subst ed ed0
  cases rd
  obtain ⟨y, rfl, r1⟩ := one_of rds
  obtain ⟨l, zs, rfl, sq, rl⟩ := seqT_ok es r1 sm
  have := strs_back rl
  subst this
  exact mt_join pins s σ H _ _ v us Q I rx rs ⟨a, l, ys, rfl, rfl, sq, hz, hq (.str _) M _ H Tx.refl rfl sm q⟩
/-- join: one stops here -/
def JoinS (a : Str) (e : Tr) (M : Ms) (Q : Q2) (_ : Fx Q) : Prop := ∃ ys : List Str, seqT e M = some (ys.map Tr.str) ∧ (ys.map (·.length)).sum + ys.length * a.length ≤ 16777216 ∧ Q (.str (Txt.join a ys)) M
@[simp ↓] theorem rJoin2_ap {a : Str} {d : Tr} : rJoin2 (.str a) [d] M Q = JoinS a d M Q .mk := propext ⟨fun ⟨a', e, ys, h1, h2, h⟩ => by
  injection h1 with h1
  injection h2 with h2
  subst h1 h2
  exact ⟨ys, h⟩, fun ⟨ys, h⟩ => ⟨a, d, ys, rfl, rfl, h⟩⟩
/-! x * y, a text too -/
def repS (z : Str) (n : Nat) : Str := ⟨(List.replicate n z.cps).foldl (· ++ ·) #[]⟩
theorem rep_size (a : Array Nat) : ∀ (n : Nat) (acc : Array Nat), ((List.replicate n a).foldl (· ++ ·) acc).size = acc.size + n * a.size
  | 0, acc => by simp
  | n + 1, acc => by
    rw [List.replicate_succ, List.foldl_cons, rep_size a n]
    simp [Nat.add_mul]; omega
theorem repS_len {z : Str} {n : Nat} : (repS z n).length = n * z.length := by
  show ((List.replicate n z.cps).foldl (· ++ ·) #[]).size = _
  rw [rep_size]
  show #[].size + n * z.cps.size = n * z.cps.size
  simp
def rMul3 : R22 := fun d e M Q => match d, e with
  | .str z, .int k => z.length ≤ 8 ∧ -1000000 ≤ k ∧ k ≤ 1000000 ∧ Q (.str (repS z k.toNat)) M
  | d, e => rMul2 d e M Q
theorem o_mul3 : OpR X (binaryOp .Mult) (lfR X.K rMul3) := by
  intro pins s σ H x y v u Q I rx ry ⟨d, e, M, Q', rd, re, sm, q, hq⟩
  have gen : rMul2 d e M Q' → wpAny (model X.prog X.w) X.A (binaryOp .Mult v u) (EP X pins σ Q) X.xe s := fun q => o_mul pins s σ H x y v u Q I rx ry ⟨d, e, M, Q', rd, re, sm, q, hq⟩
  cases d with
  | str z =>
    cases e with
    | int k =>
      cases rd; cases re
      obtain ⟨t, rfl⟩ := rx
      obtain ⟨t', rfl⟩ := ry
      obtain ⟨hz, k1, k2, q⟩ := q
      have fin : Q (.str (repS z k.toNat)) H := hq (.str _) M _ H Tx.refl rfl sm q
      refine PySem.P.mul_str ?_ (fun h1 h2 => ?_) (fun h1 h2 => ?_) ?_
      · have a1 : ¬ k < -(2 ^ 63 : Int) := by omega
        have a2 : ¬ k ≥ 2 ^ 63 := by omega
        rw [decide_eq_false a1, decide_eq_false a2]; rfl
      · have hk : 0 < k := by omega
        have : (8 : Int) ≤ (2 ^ 63 - 1) / k := by
          rw [Int.le_ediv_iff_mul_le hk]; omega
        omega
      · unfold Builtin.Str.tooLong
        have : z.length * k.toNat ≤ 8 * 1000000 := Nat.mul_le_mul hz (by omega)
        simp only [decide_eq_false_iff_not, gt_iff_lt, Nat.not_lt]
        rw [sizeLine_eq]; omega
      · by_cases c : k < 1
        · rw [if_pos c]
          have e0 : k.toNat = 0 := by omega
          rw [e0] at fin
          exact ⟨by decide, .str Str.empty, H, I.tok _, ⟨_, rfl⟩, fin⟩
        · rw [if_neg c]
          by_cases c2 : (k == 1 || z.length == 0) = true
          · rw [if_pos c2]
            have e1 : repS z k.toNat = z := by
              rcases Bool.or_eq_true_iff.mp c2 with h | h
              · have : k = 1 := by simpa using h
                subst this
                obtain ⟨c⟩ := z
                simp [repS]
              · have hz0 : z.length = 0 := by simpa using h
                obtain ⟨c⟩ := z
                have : c = #[] := Array.eq_empty_of_size_eq_zero hz0
                subst this
                have : ∀ n : Nat, (List.replicate n (#[] : Array Nat)).foldl (· ++ ·) #[] = #[] := fun n => by
                  induction n with
                  | zero => rfl
                  | succ n ih => rw [List.replicate_succ, List.foldl_cons]; simpa using ih
                simp [repS, this]
            rw [e1] at fin
            exact ⟨.str z, H, I, ⟨t, rfl⟩, fin⟩
          · rw [if_neg c2]
            refine ⟨?_, .str _, H, I.tok _, ⟨_, rfl⟩, fin⟩
            have e := @repS_len z k.toNat
            have : k.toNat * z.length ≤ 1000000 * 8 := Nat.mul_le_mul (by omega) hz
            show (repS z k.toNat).length ≤ _
            rw [e, sizeLine_eq]; omega
    | _ => exact gen q
  | _ => cases e <;> exact gen q
@[simp ↓] theorem rMul3_str {z : Str} {k : Int} : rMul3 (.str z) (.int k) M Q = (z.length ≤ 8 ∧ -1000000 ≤ k ∧ k ≤ 1000000 ∧ Q (.str (repS z k.toNat)) M) := rfl
@[simp ↓] theorem rMul3_int {i k : Int} : rMul3 (.int i) (.int k) M Q = rMul2 (.int i) (.int k) M Q := rfl
@[simp ↓] theorem rMul3_loc {a : Addr} {k : Int} : rMul3 (.loc a) (.int k) M Q = rMul2 (.loc a) (.int k) M Q := rfl
/-! list.index over flat items -/
def rIdx2 : RM2 := fun d ds M Q => ∃ a e l j z, d = .loc a ∧ ds = [e] ∧ M a = some (.lst l) ∧ flatT e = true ∧ l.all flatT = true ∧ l[j]? = some z ∧ eqT z e = true ∧ (∀ (m : Nat) (z' : Tr), m < j → l[m]? = some z' → eqT z' e = false) ∧ Q (.int (j : Nat)) M
theorem m_index : MtR X "list.index" (lfM X.K rIdx2) := by
  intro pins s σ H x xs v us Q I rx rs ⟨d, ds, M, Q', rd, rds, sm, ⟨a, e, l, j, z, e0, e1, el, fe, fl, hz, hj, hno, q⟩, hq⟩
  subst e0 e1
  cases rd
  obtain ⟨y, rfl, r1⟩ := one_of rds
  obtain ⟨ys, hy, ry⟩ := sm a _ el
  obtain ⟨w, hw, rw'⟩ := ry.get hz
  have fz : flatT z = true := List.all_eq_true.mp fl z (List.mem_of_getElem? hz)
  refine mt_index pins s σ H _ _ v us Q I rx rs ⟨a, ys, y, j, w, rfl, rfl, SqL.of hy, flatT_ok fe r1, flatL_ok fl ry, hw, by rw [eqT_ok fz fe rw' r1]; exact hj, fun m z' hm hz' => ?_, hq (.int _) M _ H Tx.refl rfl sm q⟩
  obtain ⟨t, ht, rt⟩ := ry.back hz'
  rw [eqT_ok (List.all_eq_true.mp fl t (List.mem_of_getElem? ht)) fe rt r1]
  exact hno m t hm ht
def IdxS (a : Addr) (e : Tr) (M : Ms) (Q : Q2) (_ : Fx Q) : Prop := ∃ l j z, M a = some (.lst l) ∧ flatT e = true ∧ l.all flatT = true ∧ l[j]? = some z ∧ eqT z e = true ∧ (∀ (m : Nat) (z' : Tr), m < j → l[m]? = some z' → eqT z' e = false) ∧ Q (.int (j : Nat)) M
@[simp ↓] theorem rIdx2_ap {a : Addr} {d : Tr} : rIdx2 (.loc a) [d] M Q = IdxS a d M Q .mk := propext ⟨fun ⟨a', e, l, j, z, h1, h2, h⟩ => by
  injection h1 with h1
  injection h2 with h2
  subst h1 h2
  exact ⟨l, j, z, h⟩, fun ⟨l, j, z, h⟩ => ⟨a, d, l, j, z, rfl, rfl, h⟩⟩
/-! sorted data -/
theorem each_of {K : PySem.W.Frag} {H : Hp} : ∀ {ds : List Tr} {xs : List V} {us : List Value}, RepL K H ds xs → Vals xs us → PySem.W.EachIs (fun u d => ∃ x, RelV x u ∧ Rep K H d x) us ds
  | [], xs, us, r, v => by
    have e : xs = [] := r
    subst e
    cases v
    exact .nil
  | d :: ds, xs, us, r, v => by
    obtain ⟨x, r', e, h1, h2⟩ := r
    subst e
    cases v with
    | cons a b => exact .cons ⟨x, a, h1⟩ (each_of h2 b)
theorem each_back {K : PySem.W.Frag} {H : Hp} : ∀ {us : List Value} {ds : List Tr}, PySem.W.EachIs (fun u d => ∃ x, RelV x u ∧ Rep K H d x) us ds → ∃ xs, RepL K H ds xs ∧ Vals xs us
  | _, _, .nil => ⟨[], rfl, .nil⟩
  | _, _, .cons ⟨x, a, b⟩ t => by
    obtain ⟨xs, h1, h2⟩ := each_back t
    exact ⟨x :: xs, ⟨x, xs, rfl, b, h1⟩, .cons a h2⟩
def rSort2 : RC2 := c1 fun d M Q => ∃ ds, seqT d M = some ds ∧ (∀ es, d ≠ .tup es) ∧ (∀ e ∈ ds, pureT e = true) ∧ PySem.W.AllAlike (ds.map toP) ∧ PySem.W.Sortable (ds.map toP) ∧ (∀ e ∈ ds, (toP e).depth ≤ 50) ∧ ds.length ≤ sizeLine ∧
  ∀ p, M p = none → Q (.loc p) (up M p (.lst (ds.mergeSort (PySem.W.dataLe false toP))))
theorem pureReads {X : Cx} {pins : List (Addr × Obj)} {σ : L2.St} {H : Hp} {s : Shared} {M : Ms} (I : L2.Inv X pins σ H s) (sm : SimM X.K H M) {ds : List Tr} (hp : ∀ e ∈ ds, pureT e = true) : ∀ {us : List Value}, PySem.W.EachIs (fun u d => ∃ x, RelV x u ∧ Rep X.K H d x) us ds → PySem.W.EachIs (fun u d => ∃ as, Reads s.heap u (toP d) as) us ds := by
  induction ds with
  | nil => intro us e; cases e; exact .nil
  | cons d r ih =>
    intro us e
    cases e with
    | cons a b =>
      obtain ⟨x, h1, h2⟩ := a
      exact .cons (Dp.reads I _ _ _ ((dat_pure (M := M) (hp d List.mem_cons_self)).dp sm h2) h1) (ih (fun z hz => hp z (List.mem_cons_of_mem _ hz)) b)
theorem b_sorted (hu : X.A.units + 64 < cLine) : CallR X (.builtin "sorted") (lfC X.K rSort2) := c1_of fun pins s σ H x u Q d M Q' I rx rd sm ⟨ds, e1, nt, hp, hal, hk, hd, hL, q⟩ hq => by
  have go : ∀ a xs, x = .ref a → SqL X.K H a xs → RepL X.K H ds xs → wpAny (model X.prog X.w) X.A (call (.builtin "sorted") [u]) (EP X pins σ Q) X.xe s := fun a xs ex sq rl => by
    subst ex
    obtain ⟨its, rv, hl, _⟩ := I.list sq
    cases rx
    have er := each_of rl rv
    refine PySem.W.sorted_data hl.isList er (pureReads I sm hp er) hal hk hL (fun b hb => by have := hd b hb; omega) fun out ho eo => ?_
    obtain ⟨ys, h1, h2⟩ := each_back eo
    obtain ⟨ep, he'⟩ := PyProof.Rows.sortedAll_at s.heap its out.toArray
    have hlen : ys.length ≤ sizeLine := by rw [← h1.len, List.length_mergeSort]; exact hL
    have fr : H (s.heap.objs.size + 1) = none := I.hok.fresh (Nat.le_succ _)
    exact ⟨.ref _, upd H (s.heap.objs.size + 1) (.lst ys), I.laid (t' := s.toks) (fun _ _ => PyProof.Rows.sortedAll_old) (Nat.le_succ _) ⟨hlen, out, ep, h2, by simpa using he'⟩, rfl, new_lst hq h1 sm fr q⟩
  cases d with
  | tup es => exact absurd rfl (nt es)
  | fro es =>
    obtain ⟨a, xs, ex, sq, rl⟩ := rd
    cases e1
    exact go a xs ex sq.sq rl
  | loc a =>
    cases rd
    obtain ⟨xs, hx, rl⟩ := sm a _ (seqT_loc e1)
    exact go a xs rfl (SqL.of hx) rl
  | _ => cases e1
/-- sorted: one stops here -/
def SortS (d : Tr) (M : Ms) (Q : Q2) (_ : Fx Q) : Prop := ∃ ds, seqT d M = some ds ∧ (∀ es, d ≠ .tup es) ∧ (∀ e ∈ ds, pureT e = true) ∧ PySem.W.AllAlike (ds.map toP) ∧ PySem.W.Sortable (ds.map toP) ∧ (∀ e ∈ ds, (toP e).depth ≤ 50) ∧ ds.length ≤ sizeLine ∧
  ∀ p, M p = none → Q (.loc p) (up M p (.lst (ds.mergeSort (PySem.W.dataLe false toP))))
@[simp ↓] theorem rSort2_ap {d : Tr} : rSort2 [d] M Q = SortS d M Q .mk := rfl
end
end T

/-! T, eleventh part: enumerate over a text. -/
namespace T
open PySem PySem.Spec PyProof.Rows L2
/-- the signs of z, each in a new pair -/
def IteS (z : Str) : It where
  go := fun i _ => i < z.cps.size
  yld := fun i H v H' => ∃ (T : Addr) (c : Nat), v = .ref T ∧ H T = none ∧ H' = upd H T (.tup [.int (i : Nat), .str ⟨#[c]⟩]) ∧ z.cps[i]? = some c
  stop := fun i _ => z.cps.size ≤ i
theorem turn_enumS {P : Program} {w : World} {K : PySem.W.Frag} {elts : List Expr} {kk : Nat} {tpos : Pos} (z : Str) (t : Tok) (e it : Addr) :
    Turn P w K (.Tuple elts kk tpos) (IteS z) [e, it] e (fun i h => (∃ old, IsEnum h e it ((i : Nat) : Int) old) ∧ h.IsStrIter it (strIterType z) z t i ∧ e ≠ it) where
  mem := by simp
  obj := by
    rintro i h ⟨⟨old, he⟩, ⟨o, ho, hc, hd⟩, _⟩ b hb
    have c : b = e ∨ b = it := by simpa using hb
    rcases c with rfl | rfl
    · exact ⟨_, he, fun v q => nomatch q⟩
    · exact ⟨o, ho, fun v q => by rw [hd] at q; cases q⟩
  keep := by
    rintro i h h' ⟨⟨old, he⟩, ⟨o, ho, r⟩, hne⟩ k
    exact ⟨⟨old, k e (by simp) _ he⟩, ⟨o, k it (by simp) _ ho, r⟩, hne⟩
  item := by
    intro X hP hw hK hc i pins s σ H E I hf st hg
    subst hP hw hK
    obtain ⟨⟨old, he⟩, hit, hne⟩ := st
    have hel : e < s.heap.objs.size := Heap.lt_size he
    have hil : it < s.heap.objs.size := by obtain ⟨_, q, _⟩ := hit; exact Heap.lt_size q
    refine wpAny_pyNext_enum_itemD (Draws.text (A := X.A.in1) (show X.A.in1.handled = none from I.ok.hd hc) it z t) he hit hg hne (by simp [hne]) fun y h' tk hy ho st' hT hsz hk => ?_
    obtain ⟨c, u, hcx, rfl⟩ := hy
    refine ⟨_, rfl, wpAny_letOwnedTupleGo_enum (s := { s with heap := h', toks := tk + 1 }) ho fun h'' he' sb => ?_⟩
    have hT2 : h''.get? s.heap.objs.size = some { cls := .type "tuple", data := .seq #[.int i tk, .str ⟨#[c]⟩ u] } := (sb.2 _ (Nat.ne_of_gt hel)).trans hT
    have new : ObjOk X.prog X.w (upd H s.heap.objs.size (.tup [.int (i : Nat), .str ⟨#[c]⟩])) h'' s.heap.objs.size (.tup [.int (i : Nat), .str ⟨#[c]⟩]) :=
      ⟨by show 2 ≤ sizeLine; decide, [.int i tk, .str ⟨#[c]⟩ u], .cons ⟨_, rfl⟩ (.cons ⟨u, rfl⟩ .nil), ⟨_, hT2, rfl, _, rfl⟩⟩
    have I1 : Inv X pins σ (upd H s.heap.objs.size (.tup [.int (i : Nat), .str ⟨#[c]⟩])) { s with heap := h'', toks := tk + 1 } :=
      I.turnedNew (ch := [e, it]) (fun b ob hb q => (sb.2 b (fun z => hb (by simp [z]))).trans (hk b ob (fun z => hb (by simp [z])) (fun z => hb (by simp [z])) q)) hf (Nat.le_refl _) new
    refine ⟨.ref s.heap.objs.size, _, I1, rfl, ⟨_, c, rfl, I.hok.fresh (Nat.le_refl _), rfl, hcx⟩, ⟨⟨.str ⟨#[c]⟩ u, ?_⟩, ?_, hne⟩, fun b hb => ?_⟩
    · have e1 : ((i + 1 : Nat) : Int) = (i : Int) + 1 := by omega
      rw [e1]; exact he'
    · obtain ⟨o, q, r⟩ := st'
      exact ⟨o, (sb.2 it (Ne.symm hne)).trans q, r⟩
    · have hb' : b < s.heap.objs.size := by
        have c : b = e ∨ b = it := by simpa using hb
        rcases c with rfl | rfl
        · exact hel
        · exact hil
      rw [upd_ne (Nat.ne_of_lt hb')]
      exact (hf b hb).1
  done := by
    intro X hP hw hK hc i pins s σ H E I hf st hg
    subst hP hw hK
    obtain ⟨⟨old, he⟩, hit, hne⟩ := st
    obtain ⟨f0, f1, f2, f3, f4, f5⟩ := hf it (by simp)
    have hx : z.cps[i]? = none := Array.getElem?_eq_none hg
    have hT : s.TypeIs (.ref e) "enumerate" := ⟨_, he, rfl⟩
    unfold pyNext
    refine wpAny_bind (wpAny_attempt (wpAny_callSpecial?_slot (name := Str.ofString "__next__") hT F.slot_enumerate_next
      (wpAny_call_entry F.slot_enumerate_next hT F.entry_enumerate_next ?_ (F.args_enumerate_next_1 _))))
    show wpAny _ _ (field (.ref e) 2 >>= _) _ _ _
    refine wpAny_bind (wpAny_field he rfl (x := .ref it) rfl ?_)
    have hh : X.A.in1.handled = none := I.ok.hd hc
    have go : ∀ {Q : Value → Shared → Prop} {E : Value → Shared → Prop}, (∀ h' e, Heap.ExtBut it s.heap h' → (∃ o, h'.get? e = some o ∧ o.cls = .type "StopIteration") → E (.ref e) { s with heap := h' }) → wpAny (model X.prog X.w) X.A.in1 (Builtin.SmallTypes.nextOf (.ref it)) Q E s := fun {Q E} hE => by
      unfold strIterType at hit
      split at hit
      · exact wpAny_nextOf_ascii_end hh hit hx hE
      · exact wpAny_nextOf_wide_end hh hit hx hE
    refine wpAny_bind (go fun h' x eb hx' => ?_)
    obtain ⟨o, ho, hcl⟩ := hx'
    refine wpAny_bind (wpAny_isInstance (T := "StopIteration") (b := true) ⟨o, ho, hcl⟩ isSubtype_stop ?_)
    exact wpAny_pure ⟨rfl, I.turned (t' := s.toks) (fun b ob hb q => eb b ob hb q) f0 f1 f3 f4 f5⟩
  self := by
    rintro A i s Q E ⟨⟨_, he⟩, _⟩ h
    exact wpAny_pyIter_enum he h
section
variable {X : Cx}
def iEnumS (ta : TA) : TI := fun σ H R => ta σ H fun vs H1 => ∃ z, vs = [.str z] ∧ R (IteS z) H1
theorem pi_enumS {e : Expr} {ta : TA} {p pos tpos : Pos} {elts : List Expr} {kk : Nat} (hg : Gl X "enumerate") (hm : X.mg "enumerate" = none) (ha : PA X [e] ta) (hs : starEach [e] X.env = [(false, eval e X.env)] := by rfl) :
    PI X (.Tuple elts kk tpos) (.Call (.Name "enumerate" p) [e] [] pos) (iEnumS ta) := by
  refine ⟨fun pins s σ H R I h => ?_⟩
  refine PyProof.Rows.Call_ (ld_blt I hg hm PyProof.Rows.boot_enumerate (PyProof.Rows.callWith_type1 (thn (ha.run pos pins s σ H _ I h) fun us s1 ⟨vs, H1, I1, r1, q1⟩ => ?_) hs rfl))
  obtain ⟨z, ex, q⟩ := q1
  subst ex
  cases r1 with
  | cons r rr =>
    cases rr
    obtain ⟨t, rfl⟩ := r
    have fp2 : ∀ b ∈ [s1.heap.objs.size + 1, s1.heap.objs.size], FpOk X pins H1 b := fun b hb => by
      have c : b = s1.heap.objs.size + 1 ∨ b = s1.heap.objs.size := by simpa using hb
      have hle : s1.heap.objs.size ≤ b := by
        rcases c with z | z
        · rw [z]; exact Nat.le_add_right _ _
        · rw [z]; exact Nat.le_refl _
      exact I1.fpOk hle (I1.hok.fresh hle)
    refine enum1_call (begins_text z t) trivial fun h' he ho hk => wpAny_pyIter_enum he ?_
    exact ⟨s1.heap.objs.size + 1, [s1.heap.objs.size + 1, s1.heap.objs.size], _, _, H1, rfl, I1.kept (t' := s1.toks) hk, turn_enumS z t (s1.heap.objs.size + 1) s1.heap.objs.size, ⟨⟨.none, he⟩, ⟨_, ho, rfl, rfl⟩, Nat.succ_ne_self _⟩, fp2, q⟩
variable {W : L2.WX} {e : Expr} {tt : TA2} {p pos tpos : Pos} {elts : List Expr} {kk : Nat}
/-- the signs of a text as trees -/
def chrs (z : Str) : List Tr := z.cps.toList.map fun k => .str ⟨#[k]⟩
def iEnS (ta : TA2) : TI2 := fun σ M R E => ta σ M (fun es M1 => ∃ z, es = [.str z] ∧ R (itE (chrs z) fun _ => True) M1) E
theorem ites_ok {K : PySem.W.Frag} {H : Hp} {z : Str} : ItOk K H (IteS z) (itE (chrs z) fun _ => True) := fun H1 M t sm => by
  refine ⟨fun i ⟨_, hi⟩ => ?_, fun i ⟨_, hi⟩ => ?_, fun i x H2 ⟨_, hi⟩ ⟨T, c, ex, hT, e, hy⟩ => ?_⟩
  · show z.cps.size ≤ i
    simpa [chrs] using hi
  · show i < z.cps.size
    simpa [chrs] using hi
  · subst e
    subst ex
    obtain ⟨p1, p2, p3⟩ := pair_rep (K := K) (i := i) (x := .str ⟨#[c]⟩) (d := .str ⟨#[c]⟩) hT rfl sm
    refine ⟨p1, p2, _, p3, .str ⟨#[c]⟩, ?_, rfl⟩
    have : z.cps.toList[i]? = some c := by simpa using hy
    unfold chrs
    rw [List.getElem?_map, this]; rfl
theorem qi_enumS (hm : X.mg "enumerate" = none) (ha : QA X W [e] tt) (hg : Gl X "enumerate" := by rfl) (hs : starEach [e] X.env = [(false, eval e X.env)] := by rfl) :
    QI X W (.Tuple elts kk tpos) (.Call (.Name "enumerate" p) [e] [] pos) (iEnS tt) := pi_weak (pi_enumS hg hm ha hs) fun σ H R ⟨σ', M, R', E', hs, hm, q, hq, hx⟩ =>
  ⟨σ', M, _, E', hs, hm, q, fun es M1 xs H1 t1 r1 s1 ⟨z, ee, q1⟩ => by
    subst ee
    obtain ⟨x, rfl, r2⟩ := one_of r1
    cases r2
    exact ⟨z, rfl, hq _ M1 _ H1 t1 s1 ites_ok q1⟩, hx⟩
def kStr (d : Tr) (P : Str → Prop) : Prop := match d with
  | .str z => P z
  | _ => False
@[simp ↓] theorem kStr_ap {z : Str} {P : Str → Prop} : kStr (.str z) P = P z := rfl
@[simp ↓] theorem iEnS_ap {σ : St2} {M : Ms} {R : It2 → Ms → Prop} {E : X2} : iEnS tt σ M R E = tt σ M (fun es M1 => k1 es fun d => kStr d fun z => R (itE (chrs z) fun _ => True) M1) E := by
  unfold iEnS
  congr 1
  funext es M1
  apply propext
  constructor
  · rintro ⟨z, rfl, r⟩; exact r
  · intro h
    match es with
    | [] => exact h.elim
    | [d] => cases d <;> first | exact ⟨_, rfl, h⟩ | exact h.elim
    | _ :: _ :: _ => exact h.elim
end
end T

/-! T, twelfth part: all, any of lists of truths; classes of errors; defs with defaults, defs that call themselves. -/
namespace T
open PySem PySem.Spec PyProof.Rows L2
theorem bt_all : bootBuiltins "all" = some (.builtin "all") := by decide +kernel
theorem bt_any : bootBuiltins "any" = some (.builtin "any") := by decide +kernel
section
variable {X : Cx}
theorem bls_back {K : PySem.W.Frag} {H : Hp} {bs : List Bool} {xs : List V} (r : RepL K H (bs.map Tr.bl) xs) : xs = bs.map V.bl := by
  induction bs generalizing xs with
  | nil => exact r
  | cons n t ih =>
    obtain ⟨x, y, rfl, r1, r2⟩ := r
    cases r1
    rw [ih r2]; rfl
theorem dpAll_bls {K : PySem.W.Frag} {H : Hp} : ∀ bs : List Bool, DpAll K H (bs.map V.bl) (bs.map PyData.bool)
  | [] => .nil
  | b :: r => .cons (.bl b) (dpAll_bls r)
theorem plain_bls : ∀ bs : List Bool, PyData.plainAll (bs.map PyData.bool) = true
  | [] => rfl
  | b :: r => by
    show (true && PyData.plainAll (r.map PyData.bool)) = true
    rw [plain_bls r]; rfl
def rAllG (f : List Bool → Bool) : RC2 := c1 fun d M Q => ∃ bs : List Bool, seqT d M = some (bs.map Tr.bl) ∧ (∀ es, d ≠ .tup es) ∧ Q (.bl (f bs)) M
theorem b_allG {id : String} {f : List Bool → Bool} (h : ∀ {prog : Program} {w : World} {A : Around} {E : Value → Shared → Prop} {s : Shared} {l : Addr} {vs : Array Value} {xs : List PyData} {as : List Addr} {Q : Value → Shared → Prop}, A.handled = none → s.heap.IsList l vs → ReadsAll s.heap vs.toList xs as → PyData.plainAll xs = true → (∀ x ∈ xs, x.fits63) →
    (∀ bs : List Bool, xs = bs.map PyData.bool → ∀ h' tk, (∀ b o, s.heap.get? b = some o → h'.get? b = some o) → Q (.bool (f bs)) { s with heap := h', toks := tk }) → (∃ bs : List Bool, xs = bs.map PyData.bool) → wpAny (model prog w) A (call (.builtin id) [.ref l]) Q E s) (hc : X.calm = true) : CallR X (.builtin id) (lfC X.K (rAllG f)) :=
  c1_of fun pins s σ H x u Q d M Q' I rx rd sm ⟨bs, e, nt, q⟩ hq => by
  have go : ∀ a, x = .ref a → SqL X.K H a (bs.map V.bl) → wpAny (model X.prog X.w) X.A (call (.builtin id) [u]) (EP X pins σ Q) X.xe s := fun a ex sq => by
    subst ex
    obtain ⟨its, rv, hl, _⟩ := I.list sq
    cases rx
    obtain ⟨as, hr⟩ := Dp.readsAll I _ _ _ (dpAll_bls bs) rv
    refine h (I.ok.hd hc) hl.isList (by simpa using hr) (plain_bls bs) (fun z hz => ?_) (fun bs' e' h' tk hk => ?_) ⟨bs, rfl⟩
    · obtain ⟨b, _, rfl⟩ := List.mem_map.mp hz
      trivial
    · have : bs' = bs := by
        have inj : ∀ a b : Bool, PyData.bool a = PyData.bool b → a = b := fun a b h => by cases h; rfl
        exact ((List.map_inj_right (fun a b h => inj a b h)).mp e').symm
      subst this
      exact ⟨.bl _, H, I.kept hk, rfl, hq (.bl _) M _ H Tx.refl rfl sm q⟩
  cases d with
  | tup ds => exact absurd rfl (nt ds)
  | fro ds =>
    obtain ⟨a, xs, rfl, sq, rl⟩ := rd
    cases e
    have := bls_back rl
    subst this
    exact go a rfl sq.sq
  | loc a =>
    cases rd
    obtain ⟨xs, hx, rl⟩ := sm a _ (seqT_loc e)
    have := bls_back rl
    subst this
    exact go a rfl (SqL.of hx)
  | _ => cases e
theorem all_bls (bs : List Bool) : (bs.map PyData.bool).all PyData.truthy = bs.all id := by
  induction bs with
  | nil => rfl
  | cons b r ih => rw [List.map_cons, List.all_cons, List.all_cons, ih]; rfl
theorem any_bls (bs : List Bool) : (bs.map PyData.bool).any PyData.truthy = bs.any id := by
  induction bs with
  | nil => rfl
  | cons b r ih => rw [List.map_cons, List.any_cons, List.any_cons, ih]; rfl
abbrev rAll2 : RC2 := rAllG fun bs => bs.all id
abbrev rAny2 : RC2 := rAllG fun bs => bs.any id
theorem b_all (hc : X.calm = true) : CallR X (.builtin "all") (lfC X.K rAll2) := b_allG (fun hh hl hr hp hf h ⟨bs, e⟩ => PySem.W.all_list_data hh hl hr hp hf fun h' tk hk => by
  subst e
  rw [all_bls]
  exact h bs rfl h' tk hk) hc
theorem b_any (hc : X.calm = true) : CallR X (.builtin "any") (lfC X.K rAny2) := b_allG (fun hh hl hr hp hf h ⟨bs, e⟩ => PySem.W.any_list_data hh hl hr hp hf fun h' tk hk => by
  subst e
  rw [any_bls]
  exact h bs rfl h' tk hk) hc
def AllS (f : List Bool → Bool) (d : Tr) (M : Ms) (Q : Q2) (_ : Fx Q) : Prop := ∃ bs : List Bool, seqT d M = some (bs.map Tr.bl) ∧ (∀ es, d ≠ .tup es) ∧ Q (.bl (f bs)) M
@[simp ↓] theorem rAllG_ap {f : List Bool → Bool} {d : Tr} {M : Ms} {Q : Q2} : rAllG f [d] M Q = AllS f d M Q .mk := rfl
end
/-! errors by their classes' names -/
@[simp ↓] theorem sRaise_ap {c : Value} {D : Ends2} {σ : St2} {M : Ms} : sRaise c D σ M = D.ex c none σ M := rfl
@[simp ↓] theorem sTry_ap {ex : Value → Option Bool} {tb ts : TS2} {D : Ends2} {σ : St2} {M : Ms} :
    sTry ex tb ts D σ M = tb { D with ex := fun c dd σ1 M1 => ∃ b, ex c = some b ∧ (b = true → ts { D with ex := fun _ _ _ _ => False } σ1 M1) ∧ (b = false → D.ex c dd σ1 M1) } σ M := rfl
/-! defs that call themselves; defaults -/
theorem okF_zero {P : Program} {w : World} {K : PySem.W.Frag} {mg : Str → Option Value} {base : Heap} {k : Nat} {f : Addr} {fd : FuncData} {x qual : Str} {params : Arguments} {body : List Stmt} {scope : Scope} {ps : List Str} {sp : Sp2}
    (F : FunD K x qual params body scope [] [] f fd) (hm : mg x = some (.ref f)) (hb : Binds K fd ps []) (h : ∀ ds M Q E, ¬ sp ds M Q E) : OkF P w K mg base k x ps [] sp :=
  ⟨f, fd, [], [], fnT_none h, hm, F.kp, hb, .nil, fun _ => RepL.nil⟩
theorem okF_dfl {P : Program} {w : World} {K : PySem.W.Frag} {mg : Str → Option Value} {base : Heap} {k : Nat} {f : Addr} {fd : FuncData} {x qual : Str} {params : Arguments} {body : List Stmt} {scope : Scope} {ps : List Str} {sp : Sp2} {dfs dus : List V} {kws : List (Str × V)} {dvs : List Tr}
    (F : FunD K x qual params body scope dfs kws f fd) (T : FnT P w K mg base k f fd ps sp) (hm : mg x = some (.ref f)) (hb : ∃ ds, Vals dus ds ∧ Binds K fd ps ds) (hr : ∀ H, RepL K H dvs dus) : OkF P w K mg base k x ps dvs sp := by
  obtain ⟨ds, h1, h2⟩ := hb
  exact ⟨f, fd, dus, ds, T, hm, F.kp, h2, h1, hr⟩
end T

/-! T, thirteenth part: dicts. -/
namespace T
open PySem PySem.Spec PyProof.Rows L2
section
variable {X : Cx} {W : L2.WX} {a b e : Expr} {pos : Pos} {ta tb : TE2} {M : Ms} {Q : Q2} {E : X2} {σ : St2}
/-- {} -/
def eD0 : TE2 := fun _ M Q _ => ∀ p, M p = none → Q (.loc p) (up M p (.dic []))
theorem qe_d0 : QE X W (.Dict [] [] pos) eD0 := pe_weak pe_dnewK fun σ H Q ⟨σ', M, Q', E', hs, hm, q, hq, hx⟩ p hp =>
  hq (.loc p) _ (.ref p) _ (Tx.new hp) rfl (hm.put (m := .dic []) (Tx.new hp) ⟨[], upd_same, rfl, rfl⟩) (q p (hm.free hp))
def NewD (M : Ms) (kvs : List (Key × Tr)) (Q : Q2) (_ : Fx Q) : Prop := ∀ p, M p = none → Q (.loc p) (up M p (.dic kvs))
@[simp ↓] theorem eD0_ap : eD0 σ M Q E = NewD M [] Q .mk := rfl
/-- {k: v}, k an int or a text, no store changed by them -/
def eD1 (ta tb : TE2) : TE2 := fun σ M Q E => ∀ p, M p = none → ta σ (up M p (.dic [])) (fun d M1 => tb σ M1 (fun e M2 => ∃ k, keyT d = some k ∧ M2 p = some (.dic []) ∧ Q (.loc p) (up M2 p (.dic [(k, e)]))) X0) X0
theorem qe_d1 (ha : QE X W0 a ta) (hb : QE X W0 b tb) : QE X W (.Dict [some a] [b] pos) (eD1 ta tb) :=
  pe_weak (pe_disp (pps_cons ha hb pps_nil) rfl rfl (by simp) (by simp)) fun σ H Q ⟨σ', M, Q', E', hs, hm, q, hq, hx⟩ p hp => by
    refine ⟨σ', up M p (.dic []), _, X0, hs.mono (Tx.new hp), hm.put (m := .dic []) (Tx.new hp) ⟨[], upd_same, rfl, rfl⟩, q p (hm.free hp), fun d M1 x H1 t1 r1 s1 q1 => ⟨σ', M1, _, X0, (hs.mono (Tx.new hp)).mono t1, s1, q1, fun e M2 y H2 t2 r2 s2 ⟨k, ek, e0, q2⟩ => ?_, fun _ _ _ _ _ _ z => False.elim z⟩, fun _ _ _ _ _ _ z => False.elim z⟩
    obtain ⟨xs, e1, e2, e3⟩ := s2 p _ e0
    have xs0 : xs = [] := List.map_eq_nil_iff.mp e2
    subst xs0
    have ex : x = kV k := keyT_ok ek (r1.mono t2)
    refine ⟨e1, [(k, y)], by rw [ex]; rfl, by simp, ?_⟩
    have T3 : Tx X.K H2 (upd H2 p (.dK (mergeK [] [(k, y)]))) := Tx.dic e1
    exact hq (.loc p) _ (.ref p) _ (((Tx.new hp).trans t1).trans (t2.trans T3)) rfl (s2.put (m := .dic [(k, e)]) T3 ⟨[(k, y)], upd_same, rfl, (RepL.one r2).mono T3⟩) q2
@[simp ↓] theorem eD1_ap : eD1 ta tb σ M Q E = ∀ p, M p = none → ta σ (up M p (.dic [])) (fun d M1 => tb σ M1 (fun e M2 => ∃ k, keyT d = some k ∧ M2 p = some (.dic []) ∧ Q (.loc p) (up M2 p (.dic [(k, e)]))) X0) X0 := rfl
/-- d[k] -/
def rIxD2 : R22 := fun d e M Q => ∃ a kvs k v, d = .loc a ∧ M a = some (.dic kvs) ∧ keyT e = some k ∧ valT kvs k = some v ∧ Q v M
theorem ixD (hu : X.A.units + 1 < cLine) : IxR X (lfR X.K rIxD2) := by
  intro value slice pins s σ H x y v u Q I rx ry ⟨d, e, M, Q', rd, re, sm, ⟨a, kvs, k, z, e0, ea, ek, ez, q⟩, hq⟩ hs
  subst e0
  cases rd
  obtain ⟨xs, hx, ke, rl⟩ := sm a _ ea
  have ey : y = kV k := keyT_ok ek re
  obtain ⟨w, hw, rw'⟩ := (valT_ok (k := k) ke rl).2 z ez
  have g : DGet H a y (some w) := by
    rw [ey, ← hw]; exact DGet.k hx
  cases rx
  exact tail_any (dict_typeIs I g) PySem.F.slot_dict_getitem.lookup (d_getItem hu I g ry fun w' s' I' r' => ⟨w, H, I', r', hq z M w H Tx.refl rw' sm q⟩) hs
theorem qe_ixD (hu : X.A.units + 1 < cLine) (ha : QE X W a ta) (hb : QE X W b tb) (hs : PlainIx b := by exact fun _ _ => rfl) : QE X W (.Subscript a b pos) (eOp rIxD2 ta tb) := pe_weak (pe_ix (ixD hu) ha hb hs) fun _ _ _ h => op_low h
def GetS (a : Addr) (e : Tr) (M : Ms) (Q : Q2) (_ : Fx Q) : Prop := ∃ kvs k v, M a = some (.dic kvs) ∧ keyT e = some k ∧ valT kvs k = some v ∧ Q v M
@[simp ↓] theorem rIxD2_ap {a : Addr} {e : Tr} : rIxD2 (.loc a) e M Q = GetS a e M Q .mk := propext ⟨fun ⟨a', kvs, k, v, h0, h⟩ => by
  injection h0 with h0
  subst h0
  exact ⟨kvs, k, v, h⟩, fun ⟨kvs, k, v, h⟩ => ⟨a, kvs, k, v, rfl, h⟩⟩
end
end T

/-! T: sorted of tuples that their first entries part. -/
namespace T
open PySem PySem.Spec PyProof.Rows L2
/-- comparable: alike data, or tuples whose first entries are alike and differ -/
def AlikeP (d d' : PyData) : Prop := PySem.W.alike d d' = true ∨ ∃ x r x' r', d = .tuple (x :: r) ∧ d' = .tuple (x' :: r') ∧ PySem.W.alike x x' = true ∧ PyData.eqv x x' = false
def AllAlikeP (ds : List PyData) : Prop := ∀ d, d ∈ ds → ∀ d', d' ∈ ds → AlikeP d d'
theorem alikeP_unique {h : Heap} {d d' : PyData} {v : Value} {as as' : List Addr} (hal : AlikeP d d') (r : Reads h v d as) (r' : Reads h v d' as') : d = d' := by
  rcases hal with hal | ⟨x, l, x', l', rfl, rfl, ha, he⟩
  · exact PySem.W.alike_unique _ _ _ _ _ hal r r'
  · cases r with
    | tuple h1 h2 h3 h4 =>
      cases r' with
      | tuple k1 k2 k3 k4 =>
        rw [h1] at k1; cases k1
        rw [h3] at k3; cases k3
        generalize hv : Array.toList _ = vs at h4 k4
        cases h4 with
        | cons a b =>
          cases k4 with
          | cons a' b' =>
            have e := PySem.W.alike_unique _ _ _ _ _ ha a a'
            subst e
            rw [PySem.W.eqv_refl_alike _ ha] at he
            cases he
theorem kindP_some {h : Heap} {ds : List PyData} (hal : AllAlikeP ds) {v : Value} {d : PyData} {as : List Addr} (hd : d ∈ ds) (r : Reads h v d as) : (PySem.W.dataKind h ds).keyOf v = some (PySem.W.keyToks d) := by
  have q : ∃ d, d ∈ ds ∧ ∃ as, Reads h v d as := ⟨d, hd, as, r⟩
  have e : (PySem.W.dataKind h ds).keyOf v = some (PySem.W.keyToks q.choose) := by
    show (open Classical in if q : ∃ d, d ∈ ds ∧ ∃ as, Reads h v d as then some (PySem.W.keyToks q.choose) else none) = _
    rw [dif_pos q]
  obtain ⟨h1, as', h2⟩ := q.choose_spec
  rw [e, alikeP_unique (hal _ h1 _ hd) h2 r]
theorem AlikeP.head {x x' : PyData} {r r' : List PyData} (h : AlikeP (.tuple (x :: r)) (.tuple (x' :: r'))) : PySem.W.alike x x' = true := by
  rcases h with h | ⟨_, _, _, _, e, e', h, _⟩
  · exact (PySem.W.alike_all_cons (by simpa [PySem.W.alike] using h)).1
  · cases e; cases e'; exact h
section
variable {prog : Program} {w : World} {A : Around} {s : Shared}
theorem sortsAtP {vs : List Value} {ds : List PyData} (e : PySem.W.EachIs (fun v d => ∃ as, Reads s.heap v d as) vs ds) (hal : AllAlikeP ds) (ht : ∀ d, d ∈ ds → ∃ x r, d = .tuple (x :: r)) (hu : ∀ d, d ∈ ds → A.units + d.depth < cLine) : PySem.W.SortsAt prog w A s (PySem.W.dataKind s.heap ds) vs := by
  have room : ∀ {d d' : PyData}, d ∈ ds → A.units + min d.depth d'.depth < cLine := fun {d d'} hd => Nat.lt_of_le_of_lt (Nat.add_le_add_left (Nat.min_le_left _ _) _) (hu d hd)
  refine ⟨fun v hv => ?_, ?_⟩
  · obtain ⟨d, hd, as, r⟩ := e.left v hv
    exact ⟨_, kindP_some hal hd r⟩
  · cases ds with
    | nil =>
      cases e
      exact ⟨general', fun E x y a b Q ha _ _ => (by
        obtain ⟨d, _, hd, _⟩ := PySem.W.dataKind_inv ha
        exact absurd hd (by simp)), fun h2 => absurd h2 (by simp)⟩
    | cons d₀ ds₀ =>
      obtain ⟨x₀, r₀, e₀⟩ := ht d₀ (List.mem_cons_self ..)
      have hfirst : ∀ x r, PyData.tuple (x :: r) ∈ d₀ :: ds₀ → PySem.W.alike x x₀ = true := by
        intro x r hm
        have q := hal _ hm d₀ (List.mem_cons_self ..)
        rw [e₀] at q
        exact q.head
      refine ⟨tuples' (PySem.W.dataType x₀ != Value.type "tuple"), ?_, fun h2 E Q hq => ?_⟩
      · intro E x y a b Q ha hb hq
        obtain ⟨d, as, hd, ra, rfl⟩ := PySem.W.dataKind_inv ha
        obtain ⟨d', as', hd', rb, rfl⟩ := PySem.W.dataKind_inv hb
        have hdd := hal d hd d' hd'
        have hroom := room (d' := d') hd
        obtain ⟨x1, r1, rfl⟩ := ht d hd
        obtain ⟨x2, r2, rfl⟩ := ht d' hd'
        have hq' : Q (PySem.W.dataLt (.tuple (x1 :: r1)) (.tuple (x2 :: r2))) s := hq
        rw [PySem.W.dataLt_tuple] at hq'
        cases ra with
        | @tuple l o xs n _ _ h1 h2 h3 h4 =>
          cases rb with
          | @tuple l' o' xs' n' _ _ k1 k2 k3 k4 =>
            have n1 : xs.size = (x1 :: r1).length := by simpa using SeqAt.ReadsAll.length _ _ _ h4
            have n2 : xs'.size = (x2 :: r2).length := by simpa using SeqAt.ReadsAll.length _ _ _ k4
            refine PySem.W.kat_lt h1 h3 k1 k3 ?_
            have hb0 : ∀ b : Bool, b = (PySem.W.dataType x₀ != Value.type "tuple") → b = true → ∀ t, x1 ≠ .tuple t := by
              intro b e hb t
              subst e
              have q := PySem.W.dataType_alike (hfirst _ _ hd)
              rw [← q] at hb
              exact PySem.W.dataType_tuple hb t
            rcases hdd with hdd | ⟨_, _, _, _, e1, e2, ha, he⟩
            · refine PySem.W.katLex_alike (x1 :: r1) (x2 :: r2) 0 _ _ _ _ h4 k4 (by simpa [PySem.W.alike] using hdd) (by have q := SeqAt.room_in hroom; omega) (fun hb _ x r t ex => ?_) (by rw [n1, n2]) hq'
              obtain ⟨rfl, rfl⟩ := List.cons.inj ex
              exact hb0 _ rfl hb t
            · cases e1; cases e2
              rw [PySem.W.dataLt_all_no ha he] at hq'
              have hr : A.units + min x1.depth x2.depth < cLine := by
                have q := SeqAt.room_in hroom
                have q2 : A.units + min (max x1.depth (PyData.depthAll r1)) (max x2.depth (PyData.depthAll r2)) < cLine := by
                  have e1 : PyData.depthAll (x1 :: r1) = max x1.depth (PyData.depthAll r1) := by rw [PyData.depthAll]
                  have e2 : PyData.depthAll (x2 :: r2) = max x2.depth (PyData.depthAll r2) := by rw [PyData.depthAll]
                  rw [← e1, ← e2]
                  omega
                exact SeqAt.room_head q2

              generalize hv : Array.toList xs = us at h4
              generalize hv' : Array.toList xs' = us' at k4
              cases h4 with
              | cons a b =>
                cases k4 with
                | cons a' b' =>
                  rw [List.zip_cons_cons]
                  refine PySem.W.kat_cons (PySem.W.eqAt_alike x1 x2 A s _ _ _ _ a a' ha hr prog w _ _ ?_)
                  rw [he]
                  refine PySem.W.kat_no (PySem.W.oneLt_alike (fun hbi t => ?_) a a' ha (PySem.W.ne_none_of ha he) hr hq')
                  rw [Bool.and_eq_true] at hbi
                  exact hb0 _ rfl hbi.1 t
      · obtain ⟨fs, t1, t2, t3⟩ := PySem.W.each_katTups e ht
        refine PySem.W.kat_kind (T := PySem.W.dataType x₀) t1 (by omega) (fun f hf => ?_) (beq_self_eq_true _) hq
        obtain ⟨x, r, as, m1, m2⟩ := t3 f hf
        rw [← PySem.W.dataType_alike (hfirst x r m1)]
        exact PySem.W.looks_reads m2
end

section
variable {X : Cx} {W : L2.WX} {pos : Pos} {M : Ms} {Q : Q2}
/-- .. of tuples that are pairwise alike, or differ at their first entries -/
def SortP (d : Tr) (M : Ms) (Q : Q2) (_ : Fx Q) : Prop := ∃ ds, seqT d M = some ds ∧ (∀ es, d ≠ .tup es) ∧ (∀ e ∈ ds, pureT e = true) ∧ AllAlikeP (ds.map toP) ∧ (∀ d, d ∈ ds.map toP → ∃ x r, d = .tuple (x :: r)) ∧ (∀ e ∈ ds, (toP e).depth ≤ 50) ∧ ds.length ≤ sizeLine ∧
  ∀ p, M p = none → Q (.loc p) (up M p (.lst (ds.mergeSort (PySem.W.dataLe false toP))))
def rSort3 : RC2 := c1 fun d M Q => SortP d M Q .mk
theorem each_keysP {h' : Heap} {ds : List PyData} (hal : AllAlikeP ds) {vs : List Value} (er : PySem.W.EachIs (fun v d => ∃ as, Reads h' v d as) vs ds) : PySem.W.EachIs (fun v d => (PySem.W.dataKind h' ds).keyOf v = some (PySem.W.keyToks d)) vs ds :=
  (PySem.W.each_mem er).mono fun v d ⟨⟨as, r⟩, hd⟩ => kindP_some hal hd r
theorem b_sorted3 (hu : X.A.units + 64 < cLine) : CallR X (.builtin "sorted") (lfC X.K rSort3) := c1_of fun pins s σ H x u Q d M Q' I rx rd sm ⟨ds, e1, nt, hp, hal, hk, hd, hL, q⟩ hq => by
  have go : ∀ a xs, x = .ref a → SqL X.K H a xs → RepL X.K H ds xs → wpAny (model X.prog X.w) X.A (call (.builtin "sorted") [u]) (EP X pins σ Q) X.xe s := fun a xs ex sq rl => by
    subst ex
    obtain ⟨its, rv, hl, _⟩ := I.list sq
    cases rx
    have er := each_of rl rv
    have er0 := pureReads I sm hp er
    have er' : PySem.W.EachIs (fun v b => ∃ as, Reads (PySem.W.sortingHeap (PySem.W.copyHeap s.heap its) (s.heap.objs.size + 1) its) v (toP b) as) its ds := er0.mono fun _ _ ⟨as, r⟩ => ⟨as, PyProof.Rows.Reads.keeps (fun _ _ => PySem.W.sorting_copy_old) r⟩
    have er2 := PySem.W.each_map (R := fun v d => ∃ as, Reads (PySem.W.sortingHeap (PySem.W.copyHeap s.heap its) (s.heap.objs.size + 1) its) v d as) toP er'
    have fin : ∀ out, out.length = ds.length → PySem.W.EachIs (fun u d => ∃ x, RelV x u ∧ Rep X.K H d x) out (ds.mergeSort (PySem.W.dataLe false toP)) → EP X pins σ Q (.ref (s.heap.objs.size + 1)) { s with heap := PyProof.Rows.sortedAll s.heap its (List.toArray out) } := fun out ho eo => by
      obtain ⟨ys, h1, h2⟩ := each_back eo
      obtain ⟨ep, he'⟩ := PyProof.Rows.sortedAll_at s.heap its out.toArray
      have hlen : ys.length ≤ sizeLine := by rw [← h1.len, List.length_mergeSort]; exact hL
      have fr : H (s.heap.objs.size + 1) = none := I.hok.fresh (Nat.le_succ _)
      exact ⟨.ref _, upd H (s.heap.objs.size + 1) (.lst ys), I.laid (t' := s.toks) (fun _ _ => PyProof.Rows.sortedAll_old) (Nat.le_succ _) ⟨hlen, out, ep, h2, by simpa using he'⟩, rfl, new_lst hq h1 sm fr q⟩
    refine PySem.W.sorted_vals hl.isList (sortsAtP (s := { s with heap := PySem.W.sortingHeap (PySem.W.copyHeap s.heap its) (s.heap.objs.size + 1) its }) er2 hal hk (fun d hd' => ?_)) (by rw [er.length]; exact hL) (fin _ (by rw [PySem.W.sortVals_length false rfl]; exact er.length) ?_)
    · obtain ⟨b, hb, rfl⟩ := List.mem_map.mp hd'
      have := hd b hb
      show X.A.in1.in1.units + _ < _
      have e : X.A.in1.in1.units = X.A.units + 2 := rfl
      omega
    · exact PySem.W.sortVals_each (κ := PySem.W.dataKind _ (ds.map toP)) (fun b => PySem.W.keyToks (toP b)) er (PySem.W.each_of_map toP (each_keysP hal er2))
  cases d with
  | tup es => exact absurd rfl (nt es)
  | fro es =>
    obtain ⟨a, xs, ex, sq, rl⟩ := rd
    cases e1
    exact go a xs ex sq.sq rl
  | loc a =>
    cases rd
    obtain ⟨xs, hx, rl⟩ := sm a _ (seqT_loc e1)
    exact go a xs rfl (SqL.of hx) rl
  | _ => cases e1
@[simp ↓] theorem rSort3_ap {d : Tr} : rSort3 [d] M Q = SortP d M Q .mk := rfl
end
end T

/-! T: data compared that is made of None, ints, texts, tuples. -/
namespace T
open PySem PySem.Spec PyProof.Rows L2
mutual
def nbT : Tr → Bool
  | .non => true
  | .int _ => true
  | .str x => (PyData.str x).canLay0
  | .tup ds => nbL ds
  | _ => false
def nbL : List Tr → Bool
  | [] => true
  | d :: r => nbT d && nbL r
end
mutual
theorem nb_pure : ∀ {t : Tr}, nbT t = true → pureT t = true ∧ (toP t).canLay0 = true
  | .non, _ => ⟨rfl, rfl⟩
  | .int _, _ => ⟨rfl, rfl⟩
  | .str _, h => ⟨rfl, h⟩
  | .tup ds, h => by
    have := nbL_pure (ds := ds) h
    exact ⟨this.1, by show PyData.canLay0 (.tuple (toPs ds)) = true; simp only [PyData.canLay0]; exact this.2⟩
  | .bl _, h => nomatch h
  | .fro _, h => nomatch h
  | .loc _, h => nomatch h
  | .ty _, h => nomatch h
theorem nbL_pure : ∀ {ds : List Tr}, nbL ds = true → pureL ds = true ∧ PyData.canLayAll0 (toPs ds) = true
  | [], _ => ⟨rfl, rfl⟩
  | d :: r, h => by
    have h' : (nbT d && nbL r) = true := h
    rw [Bool.and_eq_true] at h'
    have a := nb_pure h'.1
    have b := nbL_pure h'.2
    exact ⟨by show (pureT d && pureL r) = true; rw [a.1, b.1]; rfl, by show PyData.canLayAll0 (toP d :: toPs r) = true; simp only [PyData.canLayAll0, a.2, b.2]; rfl⟩
end
mutual
theorem eqv_iff : ∀ {a b : Tr}, nbT a = true → nbT b = true → (PyData.eqv (toP a) (toP b) = true ↔ a = b)
  | .non, b, _, hb => by cases b <;> first | (simp [toP, PyData.eqv]; done) | (simp [nbT] at hb; done) | (simp [toP, PyData.eqv])
  | .int i, b, _, hb => by cases b <;> first | (simp [toP, PyData.eqv]; done) | (simp [nbT] at hb; done) | (simp [toP, PyData.eqv])
  | .str i, b, _, hb => by cases b <;> first | (simp [toP, PyData.eqv]; done) | (simp [nbT] at hb; done) | (simp [toP, PyData.eqv])
  | .tup ds, b, ha, hb => by
    cases b with
    | tup es =>
      have := eqvL_iff (as := ds) (bs := es) ha hb
      simp only [toP, PyData.eqv]
      rw [this]
      exact ⟨fun e => by rw [e], fun e => by injection e⟩
    | non => simp [toP, PyData.eqv]
    | int _ => simp [toP, PyData.eqv]
    | str _ => simp [toP, PyData.eqv]
    | _ => exact absurd hb (by simp [nbT])
  | .bl _, _, h, _ => nomatch h
  | .fro _, _, h, _ => nomatch h
  | .loc _, _, h, _ => nomatch h
  | .ty _, _, h, _ => nomatch h
theorem eqvL_iff : ∀ {as bs : List Tr}, nbL as = true → nbL bs = true → (PyData.eqvAll (toPs as) (toPs bs) = true ↔ as = bs)
  | [], [], _, _ => ⟨fun _ => rfl, fun _ => rfl⟩
  | [], _ :: _, _, _ => ⟨(fun h => nomatch h), (fun h => nomatch h)⟩
  | _ :: _, [], _, _ => ⟨(fun h => nomatch h), (fun h => nomatch h)⟩
  | a :: as, b :: bs, ha, hb => by
    have ha' : (nbT a && nbL as) = true := ha
    have hb' : (nbT b && nbL bs) = true := hb
    rw [Bool.and_eq_true] at ha' hb'
    show (PyData.eqvAll (toP a :: toPs as) (toP b :: toPs bs) = true) ↔ _
    simp only [PyData.eqvAll, Bool.and_eq_true]
    rw [eqv_iff ha'.1 hb'.1, eqvL_iff ha'.2 hb'.2]
    exact ⟨fun ⟨x, y⟩ => by rw [x, y], fun e => by injection e with x y; exact ⟨x, y⟩⟩
end
theorem shaped_of {t : Tr} (h : nbT t = true) (hd : (toP t).depth ≤ 64) : SeqAt.shaped (toP t) = true := by
  show ((toP t).canLay0 && decide ((toP t).depth ≤ 64)) = true
  rw [(nb_pure h).2]
  simpa using hd
section
variable {M : Ms} {Q : Q2} {f : Bool → Bool}
theorem eqS_pure {a b : Tr} {fx : Fx Q} (k : Bool) (ha : nbT a = true) (hb : nbT b = true) (da : (toP a).depth ≤ 64) (db : (toP b).depth ≤ 64) (hk : k = true ↔ a = b) (hq : Q (.bl (f k)) M) : EqS f a b M Q fx := by
  refine ⟨toP a, toP b, dat_pure (nb_pure ha).1, dat_pure (nb_pure hb).1, shaped_of ha da, shaped_of hb db, ?_⟩
  have e : PyData.eqv (toP a) (toP b) = k := by
    rw [Bool.eq_iff_iff, eqv_iff ha hb, hk]
  rw [e]; exact hq
theorem rEq_tup {a b : Tr} (l l' : List Tr) (k : Bool) (ea : a = .tup l) (eb : b = .tup l') (ha : nbT a = true) (hb : nbT b = true) (da : (toP a).depth ≤ 64) (db : (toP b).depth ≤ 64) (hk : k = true ↔ a = b) (hq : Q (.bl (f k)) M) : rEqG f a b M Q := by
  subst ea eb
  exact eqS_pure (fx := .mk) k ha hb da db hk hq
theorem eqS_lists {a b : Addr} {la lb : List Tr} {fx : Fx Q} (k : Bool) (ea : M a = some (.lst la)) (eb : M b = some (.lst lb)) (ha : nbL la = true) (hb : nbL lb = true) (da : PyData.depthAll (toPs la) ≤ 63) (db : PyData.depthAll (toPs lb) ≤ 63) (hk : k = true ↔ la = lb) (hq : Q (.bl (f k)) M) : EqS f (.loc a) (.loc b) M Q fx := by
  refine ⟨.list (toPs la), .list (toPs lb), ⟨_, seqT_lst ea, (fun _ e => nomatch e), datL_pure (nbL_pure ha).1⟩, ⟨_, seqT_lst eb, (fun _ e => nomatch e), datL_pure (nbL_pure hb).1⟩, ?_, ?_, ?_⟩
  · show (PyData.canLay0 (.list (toPs la)) && decide (PyData.depth (.list (toPs la)) ≤ 64)) = true
    simp only [PyData.canLay0, PyData.depth, (nbL_pure ha).2]
    simp; omega
  · show (PyData.canLay0 (.list (toPs lb)) && decide (PyData.depth (.list (toPs lb)) ≤ 64)) = true
    simp only [PyData.canLay0, PyData.depth, (nbL_pure hb).2]
    simp; omega
  · have e : PyData.eqv (.list (toPs la)) (.list (toPs lb)) = k := by
      simp only [PyData.eqv]
      rw [Bool.eq_iff_iff, eqvL_iff ha hb, hk]
    rw [e]; exact hq
end
mutual
/-- how deep tuples stand in one another -/
def hT : Tr → Nat
  | .tup ds => hL ds + 1
  | .fro ds => hL ds + 1
  | _ => 0
def hL : List Tr → Nat
  | [] => 0
  | d :: r => max (hT d) (hL r)
end
mutual
theorem hT_ok : ∀ {t : Tr}, (toP t).depth = hT t
  | .non => rfl
  | .int _ => rfl
  | .str _ => rfl
  | .bl _ => rfl
  | .loc _ => rfl
  | .ty _ => rfl
  | .tup ds => by
    show PyData.depth (.tuple (toPs ds)) = hL ds + 1
    simp only [PyData.depth, hL_ok]
  | .fro ds => by
    show PyData.depth (.list (toPs ds)) = hL ds + 1
    simp only [PyData.depth, hL_ok]
theorem hL_ok : ∀ {ds : List Tr}, PyData.depthAll (toPs ds) = hL ds
  | [] => rfl
  | d :: r => by
    show PyData.depthAll (toP d :: toPs r) = max (hT d) (hL r)
    simp only [PyData.depthAll, hT_ok, hL_ok]
end
theorem hL_le {k : Nat} : ∀ {ds : List Tr}, (∀ d ∈ ds, hT d ≤ k) → hL ds ≤ k
  | [], _ => Nat.zero_le _
  | d :: r, h => by
    show max (hT d) (hL r) ≤ k
    have := h d List.mem_cons_self
    have := hL_le (ds := r) fun x hx => h x (List.mem_cons_of_mem _ hx)
    omega
theorem nbL_of : ∀ {ds : List Tr}, (∀ d ∈ ds, nbT d = true) → nbL ds = true
  | [], _ => rfl
  | d :: r, h => by
    show (nbT d && nbL r) = true
    rw [h d List.mem_cons_self, nbL_of fun x hx => h x (List.mem_cons_of_mem _ hx)]; rfl
end T

/-! T: zip, reversed, ranges by steps; more methods of lists. -/
namespace T
open PySem PySem.Spec PyProof.Rows L2
section
variable {X : Cx} {W : L2.WX} {pos p p2 pos2 : Pos} {tg e a b c : Expr} {ta tb te to : TE2} {tt : TA2} {M : Ms} {Q : Q2} {σ : St2} {E : X2} {R : It2 → Ms → Prop}
/-! ### zip -/
def zipT (ls rs : List Tr) : List Tr := (ls.zip rs).map fun p => Tr.tup [p.1, p.2]
theorem zipT_len {ls rs : List Tr} : (zipT ls rs).length = min ls.length rs.length := by simp [zipT]
theorem zipT_at {ls rs : List Tr} {i : Nat} {x y : Tr} (h : ls[i]? = some x) (h' : rs[i]? = some y) : (zipT ls rs)[i]? = some (.tup [x, y]) := by
  unfold zipT
  rw [List.getElem?_map]
  have : (ls.zip rs)[i]? = some (x, y) := by rw [List.getElem?_zip_eq_some]; exact ⟨h, h'⟩
  rw [this]; rfl
theorem zipT_get {ls rs : List Tr} {i : Nat} {d : Tr} (h : (zipT ls rs)[i]? = some d) : ∃ x y, ls[i]? = some x ∧ rs[i]? = some y ∧ d = .tup [x, y] := by
  unfold zipT at h
  rw [List.getElem?_map] at h
  cases q : (ls.zip rs)[i]? with
  | none => rw [q] at h; cases h
  | some z =>
    rw [q] at h
    cases h
    have := List.getElem?_zip_eq_some.mp q
    exact ⟨_, _, this.1, this.2, rfl⟩
theorem pair2_rep {K : PySem.W.Frag} {H : Hp} {M : Ms} {x y : V} {d e : Tr} {T : Addr} (hT : H T = none) (r : Rep K H d x) (r' : Rep K H e y) (sm : SimM K H M) :
    Tx K H (upd H T (.tup [x, y])) ∧ SimM K (upd H T (.tup [x, y])) M ∧ Rep K (upd H T (.tup [x, y])) (.tup [d, e]) (.ref T) :=
  ⟨Tx.new hT, sm.hid hT, T, _, rfl, SqT.of upd_same, x, [y], rfl, r.mono (Tx.new hT), y, [], rfl, r'.mono (Tx.new hT), rfl⟩
def isTup : Tr → Bool
  | .tup _ => true
  | _ => false
def iZp (ta : TA2) : TI2 := fun σ M R E => ta σ M (fun es M1 => ∃ d e ls rs, es = [d, e] ∧ seqT d M1 = some ls ∧ seqT e M1 = some rs ∧ isTup d = isTup e ∧ R (itL (zipT ls rs) fun M => seqT d M = some ls ∧ seqT e M = some rs) M1) E
theorem seqT_lk {K : PySem.W.Frag} {H : Hp} {M : Ms} {d : Tr} {ds : List Tr} {x : V} (e : seqT d M = some ds) (r : Rep K H d x) (sm : SimM K H M) : ∃ a, x = .ref a ∧
    ((isTup d = true ∧ ∃ xs, SqT K H a xs ∧ RepL K H ds xs) ∨ (isTup d = false ∧ (∃ xs, SqL K H a xs) ∧ ∀ H1 M1, Tx K H H1 → SimM K H1 M1 → seqT d M1 = some ds → ∃ xs, SqL K H1 a xs ∧ RepL K H1 ds xs)) := by
  cases d with
  | tup es =>
    obtain ⟨a, xs, rfl, q, rl⟩ := r
    cases e
    exact ⟨a, rfl, .inl ⟨rfl, xs, q, rl⟩⟩
  | fro es =>
    obtain ⟨a, xs, rfl, q, rl⟩ := r
    cases e
    exact ⟨a, rfl, .inr ⟨rfl, ⟨xs, q.sq⟩, fun H1 M1 t _ _ => ⟨xs, (t.fro _ _ q).sq, rl.mono t⟩⟩⟩
  | loc a =>
    cases r
    obtain ⟨xs, hx, rl⟩ := sm a _ (seqT_loc e)
    refine ⟨a, rfl, .inr ⟨rfl, ⟨xs, SqL.of hx⟩, fun H1 M1 t sm1 e1 => ?_⟩⟩
    obtain ⟨ys, hy, rl'⟩ := sm1 a _ (seqT_loc e1)
    exact ⟨ys, SqL.of hy, rl'⟩
  | _ => cases e
theorem itz_ok {K : PySem.W.Frag} {H : Hp} {a b : Addr} {d e : Tr} {ls rs : List Tr} (h : ∀ H1 M, Tx K H H1 → SimM K H1 M → seqT d M = some ls → ∃ xs, SqL K H1 a xs ∧ RepL K H1 ls xs) (h' : ∀ H1 M, Tx K H H1 → SimM K H1 M → seqT e M = some rs → ∃ xs, SqL K H1 b xs ∧ RepL K H1 rs xs) :
    ItOk K H (Itz K a b) (itL (zipT ls rs) fun M => seqT d M = some ls ∧ seqT e M = some rs) := fun H1 M t sm => by
  refine ⟨fun i ⟨o, hi⟩ => ?_, fun i ⟨o, hi⟩ => ?_, fun i x H2 ⟨o, hi⟩ ⟨T, x', y', ex, hT, e1, hx, hy⟩ => ?_⟩
  · obtain ⟨xs, sq, rl⟩ := h H1 M t sm o.1
    obtain ⟨ys, sq', rl'⟩ := h' H1 M t sm o.2
    rw [zipT_len] at hi
    exact ⟨xs, ys, sq, sq', by rw [← rl.len, ← rl'.len]; omega⟩
  · obtain ⟨xs, sq, rl⟩ := h H1 M t sm o.1
    obtain ⟨ys, sq', rl'⟩ := h' H1 M t sm o.2
    rw [zipT_len] at hi
    have i1 : i < ls.length := by omega
    have i2 : i < rs.length := by omega
    obtain ⟨x, e1, _⟩ := rl.get (i := i) (d := ls[i]) (by simp [i1])
    obtain ⟨y, e2, _⟩ := rl'.get (i := i) (d := rs[i]) (by simp [i2])
    exact ⟨xs, ys, x, y, sq, sq', e1, e2⟩
  · subst e1
    subst ex
    obtain ⟨xs, sq, rl⟩ := h _ M t sm o.1
    obtain ⟨ys, sq', rl'⟩ := h' _ M t sm o.2
    obtain ⟨d1, e1, r1⟩ := rl.back (hx xs sq)
    obtain ⟨d2, e2, r2⟩ := rl'.back (hy ys sq')
    obtain ⟨p1, p2, p3⟩ := pair2_rep hT r1 r2 sm
    exact ⟨p1, p2, _, p3, zipT_at e1 e2⟩
theorem itzt_ok {K : PySem.W.Frag} {H : Hp} {a b : Addr} {ls rs : List Tr} {ok : Ms → Prop} {xs ys : List V} (q : SqT K H a xs) (q' : SqT K H b ys) (rl : RepL K H ls xs) (rl' : RepL K H rs ys) : ItOk K H (RZ.ItzT K a b) (itL (zipT ls rs) ok) := fun H1 M t sm => by
  have s1 := t.tup _ _ q
  have s2 := t.tup _ _ q'
  have r1 := rl.mono t
  have r2 := rl'.mono t
  refine ⟨fun i ⟨o, hi⟩ => ?_, fun i ⟨o, hi⟩ => ?_, fun i x H2 ⟨o, hi⟩ ⟨T, x', y', ex, hT, e1, hx, hy⟩ => ?_⟩
  · rw [zipT_len] at hi
    exact ⟨xs, ys, s1, s2, by rw [← rl.len, ← rl'.len]; omega⟩
  · rw [zipT_len] at hi
    have i1 : i < ls.length := by omega
    have i2 : i < rs.length := by omega
    obtain ⟨x, e1, _⟩ := rl.get (i := i) (d := ls[i]) (by simp [i1])
    obtain ⟨y, e2, _⟩ := rl'.get (i := i) (d := rs[i]) (by simp [i2])
    exact ⟨xs, ys, x, y, s1, s2, e1, e2⟩
  · subst e1
    subst ex
    obtain ⟨d1, e1, q1⟩ := r1.back (hx xs s1)
    obtain ⟨d2, e2, q2⟩ := r2.back (hy ys s2)
    obtain ⟨p1, p2, p3⟩ := pair2_rep hT q1 q2 sm
    exact ⟨p1, p2, _, p3, zipT_at e1 e2⟩
theorem qi_zip {elts : List Expr} {kk : Nat} {tpos : Pos} (hm : X.mg "zip" = none) (ha : QA X W [a, b] tt) (hg : Gl X "zip" := by rfl)
    (hs : starEach [a, b] X.env = (false, eval a X.env) :: starEach [b] X.env := by rfl) (hpl : (backTo pos (starEach [b] X.env)).any (·.1) = false := by rfl) :
    QI X W (.Tuple elts kk tpos) (.Call (.Name "zip" p) [a, b] [] pos) (iZp tt) := pi_weak (RZ.pi_zipA hg hm ha hs hpl) fun σ H R ⟨σ', M, R', E', hs, hm, q, hq, hx⟩ =>
  ⟨σ', M, _, E', hs, hm, q, fun es M1 xs H1 t1 r1 s1 ⟨d, e, ls, rs, ee, e1, e2, ek, q1⟩ => by
    subst ee
    obtain ⟨x, y, rfl, r2, r3⟩ := two_of r1
    obtain ⟨a1, rfl, c1⟩ := seqT_lk e1 r2 s1
    obtain ⟨a2, rfl, c2⟩ := seqT_lk e2 r3 s1
    rcases c1 with ⟨k1, xs, sq, rl⟩ | ⟨k1, ⟨xs, sq⟩, f1⟩
    · rcases c2 with ⟨k2, ys, sq', rl'⟩ | ⟨k2, _, _⟩
      · exact ⟨a1, a2, xs, ys, rfl, .inr ⟨sq, sq', hq _ M1 _ H1 t1 s1 (itzt_ok sq sq' rl rl') q1⟩⟩
      · rw [k1, k2] at ek; cases ek
    · rcases c2 with ⟨k2, _, _⟩ | ⟨k2, ⟨ys, sq'⟩, f2⟩
      · rw [k1, k2] at ek; cases ek
      · exact ⟨a1, a2, xs, ys, rfl, .inl ⟨sq, sq', hq _ M1 _ H1 t1 s1 (itz_ok f1 f2) q1⟩⟩, hx⟩
@[simp ↓] theorem iZp_ap : iZp tt σ M R E = tt σ M (fun es M1 => k2 es fun d e => kS d M1 fun ls => kS e M1 fun rs => isTup d = isTup e ∧ R (itL (zipT ls rs) fun M => seqT d M = some ls ∧ seqT e M = some rs) M1) E := by
  unfold iZp
  congr 1
  funext es M1
  apply propext
  constructor
  · rintro ⟨d, e, ls, rs, rfl, h1, h2, h3⟩
    show kS d M1 _
    rw [← kS_of]
    refine ⟨ls, h1, ?_⟩
    rw [← kS_of]
    exact ⟨rs, h2, h3⟩
  · intro h
    match es, h with
    | [d, e], h =>
      have h' : kS d M1 fun ls => kS e M1 fun rs => isTup d = isTup e ∧ R (itL (zipT ls rs) fun M => seqT d M = some ls ∧ seqT e M = some rs) M1 := h
      rw [← kS_of] at h'
      obtain ⟨ls, h1, h2⟩ := h'
      rw [← kS_of] at h2
      obtain ⟨rs, h2, h3⟩ := h2
      exact ⟨d, e, ls, rs, rfl, h1, h2, h3⟩
@[simp] theorem isTup_t {l : List Tr} : isTup (.tup l) = true := rfl
@[simp] theorem isTup_f {l : List Tr} : isTup (.fro l) = false := rfl
@[simp] theorem isTup_l {a : Addr} : isTup (.loc a) = false := rfl
/-! ### reversed -/
def iRv (ta : TA2) : TI2 := fun σ M R E => ta σ M (fun es M1 => ∃ d ls, es = [d] ∧ seqT d M1 = some ls ∧ isTup d = false ∧ R (itL ls.reverse fun M => seqT d M = some ls) M1) E
theorem itv_ok {K : PySem.W.Frag} {H : Hp} {a : Addr} {d : Tr} {ds : List Tr} (h : ∀ H1 M, Tx K H H1 → SimM K H1 M → seqT d M = some ds → ∃ xs, SqL K H1 a xs ∧ RepL K H1 ds xs) : ItOk K H (Itv K a ds.length) (itL ds.reverse fun M => seqT d M = some ds) := fun H1 M t sm => by
  refine ⟨fun i ⟨o, hi⟩ => ?_, fun i ⟨o, hi⟩ => ?_, fun i x H2 ⟨o, hi⟩ ⟨e, y⟩ => ?_⟩
  · rw [List.length_reverse] at hi; exact hi
  · rw [List.length_reverse] at hi
    obtain ⟨xs, sq, rl⟩ := h H1 M t sm o
    have i1 : ds.length - 1 - i < ds.length := by omega
    obtain ⟨x, e, _⟩ := rl.get (i := ds.length - 1 - i) (d := ds[ds.length - 1 - i]) (by simp [i1])
    exact ⟨hi, xs, x, sq, e⟩
  · subst e
    rw [List.length_reverse] at hi
    obtain ⟨xs, sq, rl⟩ := h _ M t sm o
    obtain ⟨d', e', r⟩ := rl.back (y xs sq)
    exact ⟨Tx.refl, sm, d', r, by show ds.reverse[i]? = some d'; rw [List.getElem?_reverse hi]; exact e'⟩
theorem qi_reversed (hm : X.mg "reversed" = none) (ha : QA X W [e] tt) (hg : Gl X "reversed" := by rfl) (hs : starEach [e] X.env = [(false, eval e X.env)] := by rfl) :
    QI X W tg (.Call (.Name "reversed" p) [e] [] pos) (iRv tt) := pi_weak (pi_reversed hg hm ha hs) fun σ H R ⟨σ', M, R', E', hs, hm, q, hq, hx⟩ =>
  ⟨σ', M, _, E', hs, hm, q, fun es M1 xs H1 t1 r1 s1 ⟨d, ls, ee, e1, ek, q1⟩ => by
    subst ee
    obtain ⟨x, rfl, r2⟩ := one_of r1
    obtain ⟨a1, rfl, c1⟩ := seqT_lk e1 r2 s1
    rcases c1 with ⟨k1, _⟩ | ⟨k1, ⟨xs, sq⟩, f1⟩
    · rw [k1] at ek; cases ek
    · obtain ⟨ys, sq', rl⟩ := f1 H1 M1 Tx.refl s1 e1
      exact ⟨a1, ys, rfl, sq', by rw [← rl.len]; exact hq _ M1 _ H1 t1 s1 (itv_ok f1) q1⟩, hx⟩
@[simp ↓] theorem iRv_ap : iRv tt σ M R E = tt σ M (fun es M1 => k1 es fun d => kS d M1 fun ls => isTup d = false ∧ R (itL ls.reverse fun M => seqT d M = some ls) M1) E := by
  unfold iRv
  congr 1
  funext es M1
  apply propext
  constructor
  · rintro ⟨d, ls, rfl, h1, h2⟩
    show kS d M1 _
    rw [← kS_of]
    exact ⟨ls, h1, h2⟩
  · intro h
    match es, h with
    | [d], h =>
      have h' : kS d M1 fun ls => isTup d = false ∧ R (itL ls.reverse fun M => seqT d M = some ls) M1 := h
      rw [← kS_of] at h'
      obtain ⟨ls, h1, h2⟩ := h'
      exact ⟨d, ls, rfl, h1, h2⟩
/-! ### ranges by steps -/
def rgC (i c : Int) (n : Nat) : List Tr := (List.range n).map fun k => Tr.int (i + (k : Nat) * c)
def iRg3 (ta : TA2) : TI2 := fun σ M R E => ta σ M (fun es M1 => ∃ (i j c : Int) (n : Nat), es = [.int i, .int j, .int c] ∧ RgC i j c n ∧ R (itL (rgC i c n) fun _ => True) M1) E
theorem itc_ok {K : PySem.W.Frag} {H : Hp} {i c : Int} {n : Nat} {ok : Ms → Prop} : ItOk K H (Itc i c n) (itL (rgC i c n) ok) := fun H1 M t sm => by
  refine ⟨fun k ⟨_, hi⟩ => ?_, fun k ⟨_, hi⟩ => ?_, fun k x H2 ⟨_, hi⟩ ⟨e, y⟩ => ?_⟩
  · show n ≤ k
    simpa [rgC] using hi
  · show k < n
    simpa [rgC] using hi
  · subst e
    subst y
    have hk : k < n := by simpa [rgC] using hi
    refine ⟨Tx.refl, sm, .int (i + (k : Nat) * c), rfl, ?_⟩
    show (rgC i c n)[k]? = some (.int (i + (k : Nat) * c))
    unfold rgC
    rw [List.getElem?_map, List.getElem?_range hk]; rfl
theorem three_of {K : PySem.W.Frag} {H : Hp} {d e f : Tr} {xs : List V} (r : RepL K H [d, e, f] xs) : ∃ x y z, xs = [x, y, z] ∧ Rep K H d x ∧ Rep K H e y ∧ Rep K H f z := by
  obtain ⟨x, r1, rfl, h1, y, r2, rfl, h2, z, r3, rfl, h3, rfl⟩ := r
  exact ⟨x, y, z, rfl, h1, h2, h3⟩
theorem qi_range3 (hm : X.mg "range" = none) (ha : QA X W [a, b, c] tt) (hg : Gl X "range" := by rfl) (hs : starEach [a, b, c] X.env = (false, eval a X.env) :: starEach [b, c] X.env := by rfl) (hpl : (backTo pos (starEach [b, c] X.env)).any (·.1) = false := by rfl) :
    QI X W tg (.Call (.Name "range" p) [a, b, c] [] pos) (iRg3 tt) := pi_weak (pi_range3 hg hm ha hs hpl) fun σ H R ⟨σ', M, R', E', hs, hm, q, hq, hx⟩ =>
  ⟨σ', M, _, E', hs, hm, q, fun es M1 xs H1 t1 r1 s1 ⟨i, j, c, n, ee, hc, q1⟩ => by
    subst ee
    obtain ⟨x, y, z, rfl, r2, r3, r4⟩ := three_of r1
    cases r2; cases r3; cases r4
    exact ⟨i, j, c, n, rfl, hc, hq _ M1 _ H1 t1 s1 itc_ok q1⟩, hx⟩
/-- a range down by ones -/
def RgDown (i j : Int) : Prop := -(2 ^ 62) ≤ i ∧ i < 2 ^ 62 ∧ -(2 ^ 62) ≤ j ∧ j < 2 ^ 62
def k3i (ds : List Tr) (P : Int → Int → Int → Prop) : Prop := match ds with
  | [.int i, .int j, .int c] => P i j c
  | _ => False
@[simp ↓] theorem k3i_ap {i j c : Int} {P : Int → Int → Int → Prop} : k3i [.int i, .int j, .int c] P = P i j c := rfl
@[simp ↓] theorem iRg3_ap : iRg3 tt σ M R E = tt σ M (fun es M1 => k3i es fun i j c => ∃ n, RgC i j c n ∧ R (itL (rgC i c n) fun _ => True) M1) E := by
  unfold iRg3
  congr 1
  funext es M1
  apply propext
  constructor
  · rintro ⟨i, j, c, n, rfl, h⟩; exact ⟨n, h⟩
  · intro h
    unfold k3i at h
    split at h
    · obtain ⟨n, h⟩ := h
      exact ⟨_, _, _, n, rfl, h⟩
    · exact h.elim
/-! ### more methods of lists -/
def rRev2 : RM2 := fun d ds M Q => match d, ds with
  | .loc a, [] => ∃ l, M a = some (.lst l) ∧ Q .non (up M a (.lst l.reverse))
  | _, _ => False
theorem m_reverse : MtR X "list.reverse" (lfM X.K rRev2) := by
  intro pins s σ H x xs v us Q I rx rv ⟨d, ds, M, Q', rd, rl, sm, q, hq⟩
  match d, ds, q with
  | .loc a, [], ⟨l, el, q⟩ =>
    have ex : xs = [] := rl
    subst ex
    cases rd
    obtain ⟨ys, hy, ry⟩ := sm a _ el
    exact mt_reverse pins s σ H _ _ v us Q I rx rv ⟨a, ys, rfl, rfl, hy, hq .non _ _ _ (Tx.lst hy) rfl (sm.setL hy ry.rev) q⟩
@[simp ↓] theorem rRev2_ap {a : Addr} : rRev2 (.loc a) [] M Q = kS (.loc a) M fun l => Q .non (up M a (.lst l.reverse)) := by
  have e : rRev2 (.loc a) [] M Q = ∃ l, M a = some (.lst l) ∧ Q .non (up M a (.lst l.reverse)) := rfl
  rw [e, ← kS_of]
  apply propext
  constructor
  · rintro ⟨l, h, r⟩; exact ⟨l, seqT_lst h, r⟩
  · rintro ⟨l, h, r⟩; exact ⟨l, seqT_loc h, r⟩
def rPopI : RM2 := fun d ds M Q => match d, ds with
  | .loc a, [.int i] => ∃ l k e, M a = some (.lst l) ∧ -(2 ^ 63) ≤ i ∧ i < 2 ^ 63 ∧ seqIndex? i l.length = some k ∧ l[k]? = some e ∧ Q e (up M a (.lst (l.eraseIdx k)))
  | _, _ => False
theorem m_popI : MtR X "list.pop" (lfM X.K rPopI) := by
  intro pins s σ H x xs v us Q I rx rv ⟨d, ds, M, Q', rd, rl, sm, q, hq⟩
  match d, ds, q with
  | .loc a, [.int i], ⟨l, k, e, el, h1, h2, hk, he, q⟩ =>
    obtain ⟨y, rfl, r1⟩ := one_of rl
    cases r1
    cases rd
    obtain ⟨ys, hy, ry⟩ := sm a _ el
    obtain ⟨w', e1, rw'⟩ := ry.get he
    exact mt_popAt pins s σ H _ _ v us Q I rx rv ⟨a, ys, i, k, w', rfl, rfl, hy, h1, h2, by rw [← ry.len]; exact hk, e1, hq e _ _ _ (Tx.lst hy) (rw'.mono (Tx.lst hy)) (sm.setL hy (ry.erase k)) q⟩
/-- an item popped at a place -/
def PopS (a : Addr) (i : Int) (M : Ms) (Q : Q2) (_ : Fx Q) : Prop := ∃ (l : List Tr) (k : Nat) (e : Tr), M a = some (.lst l) ∧ i = (k : Int) ∧ l.length ≤ sizeLine ∧ l[k]? = some e ∧ Q e (up M a (.lst (l.eraseIdx k)))
theorem popI_of {a : Addr} {i : Int} {fx : Fx Q} (h : PopS a i M Q fx) : rPopI (.loc a) [.int i] M Q := by
  obtain ⟨l, k, e, h1, rfl, h2, h3, h4⟩ := h
  have hk := (List.getElem?_eq_some_iff.mp h3).1
  have : sizeLine < 2 ^ 62 := by rw [sizeLine_eq]; decide
  refine ⟨l, k, e, h1, by omega, by omega, ?_, h3, h4⟩
  unfold seqIndex?
  simp
  omega
end
end T

/-! T: x in a list, a tuple of data. -/
namespace T
open PySem PySem.Spec PyProof.Rows L2
section
variable {X : Cx}
def rInX (f : Bool → Bool) : R22 := fun d e M Q => rInG f d e M Q ∨ ∃ p ds, Dat M p d ∧ SeqAt.shaped p = true ∧ ((Dat M (.list ds) e ∧ SeqAt.shaped (.list ds) = true) ∨ (Dat M (.tuple ds) e ∧ SeqAt.shaped (.tuple ds) = true)) ∧ Q (.bl (f (ds.any fun z => PyData.eqv z p))) M
theorem o_inX (hu : X.A.units + 65 < cLine) : OpR X (compareOp .In) (lfR X.K (rInX id)) := by
  intro pins s σ H x y v u Q I rx ry ⟨d, e, M, Q', rd, re, sm, q, hq⟩
  rcases q with q | ⟨p, ds, hp, sp, he, q⟩
  · exact o_in (by omega) pins s σ H x y v u Q I rx ry ⟨d, e, M, Q', rd, re, sm, q, hq⟩
  · obtain ⟨as, r1⟩ := Dp.reads I p x v (hp.dp sm rd) rx
    rcases he with ⟨he, se⟩ | ⟨he, se⟩
    · obtain ⟨bs, r2⟩ := Dp.reads I (.list ds) y u (he.dp sm re) ry
      exact SeqAt.in_list_reads r2 r1 (SeqAt.canLay_of_shaped se) (SeqAt.canLay_of_shaped sp) (room_in_shaped sp hu) ⟨.bl _, H, I, rfl, hq (.bl _) M _ H Tx.refl rfl sm q⟩
    · obtain ⟨bs, r2⟩ := Dp.reads I (.tuple ds) y u (he.dp sm re) ry
      exact SeqAt.in_tuple_reads r2 r1 (SeqAt.canLay_of_shaped se) (SeqAt.canLay_of_shaped sp) (room_in_shaped sp hu) ⟨.bl _, H, I, rfl, hq (.bl _) M _ H Tx.refl rfl sm q⟩
theorem o_notinX (hu : X.A.units + 65 < cLine) : OpR X (compareOp .NotIn) (lfR X.K (rInX not)) := by
  intro pins s σ H x y v u Q I rx ry ⟨d, e, M, Q', rd, re, sm, q, hq⟩
  rcases q with q | ⟨p, ds, hp, sp, he, q⟩
  · exact o_notin (by omega) pins s σ H x y v u Q I rx ry ⟨d, e, M, Q', rd, re, sm, q, hq⟩
  · obtain ⟨as, r1⟩ := Dp.reads I p x v (hp.dp sm rd) rx
    rcases he with ⟨he, se⟩ | ⟨he, se⟩
    · obtain ⟨bs, r2⟩ := Dp.reads I (.list ds) y u (he.dp sm re) ry
      exact SeqAt.notIn_list_reads r2 r1 (SeqAt.canLay_of_shaped se) (SeqAt.canLay_of_shaped sp) (room_in_shaped sp hu) ⟨.bl _, H, I, rfl, hq (.bl _) M _ H Tx.refl rfl sm q⟩
    · obtain ⟨bs, r2⟩ := Dp.reads I (.tuple ds) y u (he.dp sm re) ry
      exact SeqAt.notIn_tuple_reads r2 r1 (SeqAt.canLay_of_shaped se) (SeqAt.canLay_of_shaped sp) (room_in_shaped sp hu) ⟨.bl _, H, I, rfl, hq (.bl _) M _ H Tx.refl rfl sm q⟩
theorem room_hu65 {k : Nat} {A : Around} (hr : Room k A) : A.units + 65 < cLine := by have := hr.un; omega
variable {M : Ms} {Q : Q2} {f : Bool → Bool} {d e : Tr}
@[simp ↓] theorem rInX_ss {x y : Str} : rInX f (.str x) (.str y) M Q = Q (.bl (f (strIn x y))) M := by
  refine propext ⟨fun h => ?_, fun h => .inl h⟩
  rcases h with h | ⟨p, ds, _, _, h, _⟩
  · exact h
  · rcases h with ⟨h, _⟩ | ⟨h, _⟩
    · obtain ⟨_, e, _⟩ := h
      cases e
    · obtain ⟨_, e, _⟩ := h
      cases e
theorem rInX_seq {l : List Tr} (h : seqT e M = some l) (h1 : flatT d = true) (h2 : l.all flatT = true) (hq : Q (.bl (f (inT d l))) M) : rInX f d e M Q := .inl (rInG_seq h h1 h2 hq)
theorem rInX_dic {a : Addr} {kvs : List (Key × Tr)} {k : Key} (h : M a = some (.dic kvs)) (hk : keyT d = some k) (hq : Q (.bl (f (valT kvs k).isSome)) M) : rInX f d (.loc a) M Q := .inl (by
  have g : (∃ ds, seqT (.loc a) M = some ds ∧ flatT d = true ∧ ds.all flatT = true ∧ Q (.bl (f (inT d ds))) M) ∨ ∃ a' kvs k, Tr.loc a = .loc a' ∧ M a' = some (.dic kvs) ∧ keyT d = some k ∧ Q (.bl (f (valT kvs k).isSome)) M := .inr ⟨a, kvs, k, rfl, h, hk, hq⟩
  cases d with
  | _ => exact g)
/-- None is not among lists -/
theorem rInX_non {a : Addr} {l : List Tr} {ps : List PyData} (h : M a = some (.lst l)) (hd : DatL M ps l) (hs : SeqAt.shaped (.list ps) = true) (hn : ∀ p ∈ ps, PyData.eqv p .none = false) (hq : Q (.bl (f false)) M) : rInX f .non (.loc a) M Q := by
  refine .inr ⟨.none, ps, rfl, rfl, .inl ⟨⟨l, seqT_lst h, (fun _ e => nomatch e), hd⟩, hs⟩, ?_⟩
  have : (ps.any fun z => PyData.eqv z .none) = false := by
    rw [List.any_eq_false]
    intro p hp
    simp [hn p hp]
  rw [this]; exact hq
/-- data in a tuple of data -/
theorem rInX_tup {l : List Tr} (k : Bool) (hd : nbT d = true) (hl : nbL l = true) (d1 : hT d ≤ 60) (d2 : hL l ≤ 60) (hk : k = true ↔ d ∈ l) (hq : Q (.bl (f k)) M) : rInX f d (.tup l) M Q := by
  refine .inr ⟨toP d, toPs l, dat_pure (nb_pure hd).1, shaped_of hd (by rw [hT_ok]; omega), .inr ⟨⟨l, rfl, datL_pure (nbL_pure hl).1⟩, ?_⟩, ?_⟩
  · exact shaped_of (t := .tup l) hl (by rw [hT_ok]; show hL l + 1 ≤ 64; omega)
  · have key : ∀ l : List Tr, nbL l = true → (((toPs l).any fun z => PyData.eqv z (toP d)) = true ↔ d ∈ l) := by
      intro l
      induction l with
      | nil => intro _; simp [toPs]
      | cons x r ih =>
        intro h
        have h' : (nbT x && nbL r) = true := h
        rw [Bool.and_eq_true] at h'
        show ((toP x :: toPs r).any fun z => PyData.eqv z (toP d)) = true ↔ _
        rw [List.any_cons, Bool.or_eq_true, ih h'.2, eqv_iff h'.1 hd, List.mem_cons]
        constructor
        · rintro (e | e)
          · exact .inl e.symm
          · exact .inr e
        · rintro (e | e)
          · exact .inl e.symm
          · exact .inr e
    have e : ((toPs l).any fun z => PyData.eqv z (toP d)) = k := by
      rw [Bool.eq_iff_iff, key l hl, hk]
    rw [e]; exact hq
end
end T

/-! T: o[i] += e; ranges from their end. -/
namespace T
open PySem PySem.Spec PyProof.Rows L2
section
variable {X : Cx} {W : L2.WX}
/-- x[i], x a list -/
def rGet2 : R22 := fun d e M Q => match d, e with
  | .loc a, .int i => ∃ l f, M a = some (.lst l) ∧ atI l i = some f ∧ Q f M
  | _, _ => False
theorem p_get : PGet X (lfR X.K rGet2) := by
  intro pins s σ H o i ov iv Q I ro ri ⟨d, e, M, Q', rd, re, sm, h, hq⟩
  cases d with
  | loc a =>
    cases e with
    | int k =>
      cases rd; cases re
      obtain ⟨l, f, e1, e2, q⟩ := h
      cases ro
      obtain ⟨t, rfl⟩ := ri
      obtain ⟨ys, hy, ry⟩ := sm a _ e1
      obtain ⟨z, e3, rz⟩ := atI_rep ry e2
      obtain ⟨its, r, pl, hz⟩ := I.list (.inl (.inl hy))
      obtain ⟨j, h1, h2, h3, h4, h5⟩ := atI_get e3
      obtain ⟨w, ew, rw'⟩ := r.get h2
      have hl := r.length
      have hn := line63
      have fin : EP X pins σ Q w s := ⟨z, H, I, rw', hq f M z H Tx.refl rz sm q⟩
      by_cases h0 : 0 ≤ k
      · have hj : k.toNat = j := by
          rw [seqIndex_of h0 h5] at h1
          exact Option.some.inj h1
        exact wpAny_getItem_list pl.isList h0 (by omega) (by rw [hj]; simpa using ew) fin
      · have hj : (k + (its.toArray.size : Int)).toNat = j := by
          rw [seqIndex_neg (by omega) h4] at h1
          rw [List.size_toArray, ← hl]
          exact Option.some.inj h1
        exact wpAny_getItem_list_neg pl.isList (by omega) (by rw [List.size_toArray] <;> omega) (by omega) (by rw [hj]; simpa using ew) fin
    | _ => exact h.elim
  | _ => cases e <;> exact h.elim

/-- o[i] op= e, o a list -/
def sAuS (r : R22) (to ti te : TE2) : TS2 := fun D σ M => to σ M (fun o M1 => ti σ M1 (fun i M2 => rGet2 o i M2 fun x M3 => te σ M3 (fun y M4 => r x y M4 fun z M5 => rPut2 o i z M5 fun M6 => D.nx σ M6) (D.xx σ)) (D.xx σ)) (D.xx σ)
variable {o i e : Expr} {to ti te : TE2} {op : Operator} {r : R22} {tpos pos : Pos}
theorem qs_augS (hu : X.A.units + 1 < cLine) (ho : QE X W o to) (hi : QE X W i ti) (he : QE X W e te) (hp : PIp X op (lfR X.K r))
    (ha : ∀ ov iv new, augStore i ov iv new = (do holding [new, ov, iv] (setItem ov iv new); release [new, ov, iv] []; pure .next) := by intros; rfl) : QS X W (.AugAssign (.Subscript o i tpos) op e pos) (sAuS r to ti te) :=
  ps_weak (ps_augS ho hi p_get he hp (p_set hu) ha) fun D σ H ⟨σ', M, D', hs, hm, q, L⟩ =>
  ⟨σ', M, _, _, hs, hm, q, fun d M1 x H1 t1 r1 s1 q1 => ⟨σ', M1, _, _, hs.mono t1, s1, q1, fun f M2 y H2 t2 r2 s2 q2 =>
    ⟨d, f, M2, _, r1.mono t2, r2, s2, q2, fun g M3 z H3 t3 r3 s3 q3 => ⟨σ', M3, _, _, ((hs.mono t1).mono t2).mono t3, s3, q3, fun u M4 w H4 t4 r4 s4 q4 =>
      ⟨g, u, M4, _, r3.mono t4, r4, s4, q4, fun k M5 v H5 t5 r5 s5 q5 =>
        ⟨d, f, k, M5, _, (((r1.mono t2).mono t3).mono t4).mono t5, ((r2.mono t3).mono t4).mono t5, r5, s5, q5, fun M6 H6 t6 s6 q6 =>
          L.nx σ' M6 σ H6 (((((t1.trans t2).trans t3).trans t4).trans t5).trans t6) ((((((hs.mono t1).mono t2).mono t3).mono t4).mono t5).mono t6) s6 q6⟩⟩,
      ((L.mono (t1.trans (t2.trans t3))).x (((hs.mono t1).mono t2).mono t3))⟩⟩, (L.mono t1).x (hs.mono t1)⟩, L.x hs⟩
/-- the numbers below n, from the last to the first -/
def downT (n : Nat) : List Tr := (List.range n).map fun k => Tr.int ((n - 1 - k : Nat) : Int)
theorem downT_len {n : Nat} : (downT n).length = n := by simp [downT]
theorem downT_at {n k : Nat} (h : k < n) : (downT n)[k]? = some (.int ((n - 1 - k : Nat) : Int)) := by
  unfold downT
  rw [List.getElem?_map, List.getElem?_range h]; rfl
theorem down_rgC {j : Int} : rgC (0 + (((j - 0).toNat : Nat) : Int) - 1) (-1) (j - 0).toNat = downT j.toNat := by
  unfold rgC downT
  rw [Int.sub_zero]
  refine List.map_congr_left fun k hk => ?_
  have : k < j.toNat := by simpa using hk
  congr 1
  omega
def iRr (te : TE2) : TI2 := fun σ M R E => te σ M (fun d M1 => ∃ j, d = .int j ∧ Rg j ∧ R (itL (downT j.toNat) fun _ => True) M1) E
variable {tg : Expr} {p p2 pos2 : Pos}
theorem qi_revR (hm2 : X.mg "range" = none) (hm : X.mg "reversed" = none) (he : QE X W e te) (hg2 : Gl X "range" := by rfl) (hg : Gl X "reversed" := by rfl) (na : starEach [e] X.env = (false, eval e X.env) :: starEach [] X.env := by rfl)
    (hs : starEach [.Call (.Name "range" p2) [e] [] pos2] X.env = (false, eval (.Call (.Name "range" p2) [e] [] pos2) X.env) :: starEach [] X.env := by rfl) :
    QI X W tg (.Call (.Name "reversed" p) [.Call (.Name "range" p2) [e] [] pos2] [] pos) (iRr te) :=
  pi_weak (pi_revR hg hm (prg_1 hg2 hm2 he na) hs) fun σ H R ⟨σ', M, R', E', hs, hm, q, hq, hx⟩ =>
  ⟨σ', M, _, E', hs, hm, q, fun d M1 x H1 t1 r1 s1 ⟨j, ed, hj, q1⟩ => by
    subst ed
    cases r1
    exact ⟨j, rfl, by decide, by decide, hj.1, hj.2, hq (itL (rgC (0 + (((j - 0).toNat : Nat) : Int) - 1) (-1) (j - 0).toNat) fun _ => True) M1 _ H1 t1 s1 itc_ok (by rw [down_rgC]; exact q1)⟩, hx⟩
@[simp ↓] theorem iRr_ap {σ : St2} {M : Ms} {R : It2 → Ms → Prop} {E : X2} : iRr te σ M R E = te σ M (fun d M1 => kI d fun j => Rg j ∧ R (itL (downT j.toNat) fun _ => True) M1) E := by
  unfold iRr
  congr 1
  funext d M1
  apply propext
  constructor
  · rintro ⟨j, rfl, h⟩; exact h
  · intro h
    cases d with
    | int j => exact ⟨j, rfl, h⟩
    | _ => exact h.elim
@[simp ↓] theorem rGet2_ap {a : Addr} {k : Int} {M : Ms} {Q : Q2} : rGet2 (.loc a) (.int k) M Q = kS (.loc a) M fun l => kAt l k fun f => Q f M := by
  rw [← rIx2_loc]
  apply propext
  constructor
  · rintro ⟨l, f, h1, h2, h3⟩
    exact ⟨l, f, seqT_lst h1, h2, h3⟩
  · rintro ⟨l, f, h1, h2, h3⟩
    exact ⟨l, f, seqT_loc h1, h2, h3⟩
@[simp ↓] theorem sAuS_ap {D : Ends2} {σ : St2} {M : Ms} : sAuS r to ti te D σ M = to σ M (fun o M1 => ti σ M1 (fun i M2 => rGet2 o i M2 fun x M3 => te σ M3 (fun y M4 => r x y M4 fun z M5 => rPut2 o i z M5 fun M6 => D.nx σ M6) (D.xx σ)) (D.xx σ)) (D.xx σ) := rfl
/-! texts: find, index, count -/
def rFind2 : RM2 := fun d ds M Q => match d, ds with
  | .str a, [.str b] => Q (.int (Txt.find a b)) M
  | _, _ => False
def rCnt2 : RM2 := fun d ds M Q => match d, ds with
  | .str a, [.str b] => Q (.int (Txt.count a b)) M
  | _, _ => False
def rSIdx2 : RM2 := fun d ds M Q => match d, ds with
  | .str a, [.str b] => ∃ i rest, Builtin.Str.occurrences a b 0 a.length 1 = i :: rest ∧ Q (.int (i : Nat)) M
  | _, _ => False
theorem strs2 {K : PySem.W.Frag} {H : Hp} {d : Tr} {ds : List Tr} {x : V} {xs : List V} {P : Str → Str → Prop} (h : match d, ds with | .str a, [.str b] => P a b | _, _ => False) (rd : Rep K H d x) (rds : RepL K H ds xs) : ∃ a b, x = .str a ∧ xs = [.str b] ∧ P a b := by
  cases d with
  | str a =>
    match ds, h, rds with
    | [.str b], h, rds =>
      cases rd
      obtain ⟨y, rfl, r1⟩ := one_of rds
      cases r1
      exact ⟨a, b, rfl, rfl, h⟩
  | _ => exact h.elim
theorem m_find : MtR X "str.find" (lfM X.K rFind2) := by
  intro pins s σ H x xs v us Q I rx rs ⟨d, ds, M, Q', rd, rds, sm, h, hq⟩
  obtain ⟨a, b, rfl, rfl, q⟩ := strs2 (P := fun a b => Q' (.int (Txt.find a b)) M) h rd rds
  exact mt_find pins s σ H _ _ v us Q I rx rs ⟨a, b, rfl, rfl, hq (.int _) M _ H Tx.refl rfl sm q⟩
theorem m_count : MtR X "str.count" (lfM X.K rCnt2) := by
  intro pins s σ H x xs v us Q I rx rs ⟨d, ds, M, Q', rd, rds, sm, h, hq⟩
  obtain ⟨a, b, rfl, rfl, q⟩ := strs2 (P := fun a b => Q' (.int (Txt.count a b)) M) h rd rds
  exact mt_count pins s σ H _ _ v us Q I rx rs ⟨a, b, rfl, rfl, hq (.int _) M _ H Tx.refl rfl sm q⟩
theorem m_sindex : MtR X "str.index" (lfM X.K rSIdx2) := by
  intro pins s σ H x xs v us Q I rx rs ⟨d, ds, M, Q', rd, rds, sm, h, hq⟩
  obtain ⟨a, b, rfl, rfl, i, rest, e, q⟩ := strs2 (P := fun a b => ∃ i rest, Builtin.Str.occurrences a b 0 a.length 1 = i :: rest ∧ Q' (.int (i : Nat)) M) h rd rds
  exact mt_sindex pins s σ H _ _ v us Q I rx rs ⟨a, b, i, rest, rfl, rfl, e, hq (.int _) M _ H Tx.refl rfl sm q⟩
@[simp ↓] theorem rFind2_ap {a b : Str} {M : Ms} {Q : Q2} : rFind2 (.str a) [.str b] M Q = Q (.int (Txt.find a b)) M := rfl
@[simp ↓] theorem rCnt2_ap {a b : Str} {M : Ms} {Q : Q2} : rCnt2 (.str a) [.str b] M Q = Q (.int (Txt.count a b)) M := rfl
@[simp ↓] theorem rSIdx2_ap {a b : Str} {M : Ms} {Q : Q2} : rSIdx2 (.str a) [.str b] M Q = ∃ i rest, Builtin.Str.occurrences a b 0 a.length 1 = i :: rest ∧ Q (.int (i : Nat)) M := rfl
/-! less, of numbers or of texts -/
def rLtX : R22 := fun d e M Q => match d, e with
  | .int i, .int j => Q (.bl (decide (i < j))) M
  | .str a, .str b => Q (.bl (decide (a.cps.toList < b.cps.toList))) M
  | _, _ => False
theorem o_ltX : OpR X (compareOp .Lt) (lfR X.K rLtX) := by
  intro pins s σ H x y v u Q I rx ry ⟨d, e, M, Q', rd, re, sm, q, hq⟩
  cases d with
  | int i =>
    cases e with
    | int j =>
      cases rd; cases re
      exact op_lt pins s σ H _ _ v u Q I rx ry ⟨i, j, rfl, rfl, hq (.bl _) M _ H Tx.refl rfl sm q⟩
    | _ => exact q.elim
  | str i =>
    cases e with
    | str j =>
      cases rd; cases re
      exact op_lt_str pins s σ H _ _ v u Q I rx ry ⟨i, j, rfl, rfl, hq (.bl _) M _ H Tx.refl rfl sm q⟩
    | _ => exact q.elim
  | _ => cases e <;> exact q.elim
@[simp ↓] theorem rLtX_int {i j : Int} {M : Ms} {Q : Q2} : rLtX (.int i) (.int j) M Q = Q (.bl (decide (i < j))) M := rfl
@[simp ↓] theorem rLtX_str {a b : Str} {M : Ms} {Q : Q2} : rLtX (.str a) (.str b) M Q = Q (.bl (decide (a.cps.toList < b.cps.toList))) M := rfl
end
end T

/-! T: list(text). -/
namespace PySem.TStr
open PySem PySem.Spec PySem.Calls PyProof.Rows
section
variable {prog : Program} {w : World} {A : Around} {E : Value → Shared → Prop} {s : Shared}
theorem hint_str {x : Str} {t : Tok} {Q : Bool → Shared → Prop} (h : Q false s) : wpAny (model prog w) A (Builtin.List.listLengthHint (.str x t)) Q E s := by
  unfold Builtin.List.listLengthHint
  refine wpAny_bind (wpAny_specialOf (T := "str") (v := .str x t) rfl F.str_len ?_)
  wp_delta
  refine wpAny_bind (wpAny_isInstance (T := "str") (v := .str x t) (b := true) rfl (by rw [isSubtype_type]; kernel_rfl) ?_)
  show wpAny _ A (typeOf (Value.str x t) >>= _) _ _ _
  refine wpAny_bind (wpAny_typeOf (T := "str") (v := .str x t) rfl ?_)
  exact wpAny_pure h
theorem extend_str {R : Result → Shared → Prop} (hh : A.handled = none) (x : Str) (t : Tok) (S : Addr) (res : Value) (c₀ : Nat) (hS : s.heap.get? S = some { cls := .type "list", data := .seq #[] c₀ })
    (hR : ∀ h' tk acc' c', (∀ b o, b ≠ S → s.heap.get? b = some o → h'.get? b = some o) → h'.get? S = some { cls := .type "list", dict := none, data := .seq acc' c', slots := #[] } →
      ItemsOf (SignAt x) acc' x.cps.size → R (.ok (.ret res)) { s with heap := h', toks := tk }) (hn : x.cps.size ≤ sizeLine) :
    wpAny (model prog w) A.in1 (Builtin.List.listExtendWith (.ref S) (.str x t) res)
      (fun fin s' => match fin with | .done f => R (.ok f) s' | .again c' => c'.quiet = true ∧ codeAny (model prog w) A c' R s') (fun e s' => R (.error e) s') s := by
  have hSI : S ≠ s.heap.objs.size := Nat.ne_of_lt (Heap.lt_size hS)
  have hSf : S ∉ [s.heap.objs.size] := fun hm => hSI (List.mem_singleton.mp hm)
  unfold Builtin.List.listExtendWith
  refine wpAny_bind (wpAny_typeOf (T := "str") (v := .str x t) rfl ?_)
  have h1 : Builtin.List.listSameRef (.ref S) (.str x t) = false := rfl
  have h2 : (Value.type "str" == Value.type "list") = false := by decide
  have h3 : (Value.type "str" == Value.type "tuple") = false := by decide
  simp only [h1, h2, h3, Bool.or_false, Bool.false_eq_true, if_false]
  refine wpAny_bind (wpAny_pyIter_str fun o St W hst => ?_)
  refine wpAny_bind (wpAny_holding (hint_str ?_))
  rw [if_neg (by decide)]
  refine wpAny_pure ⟨plainId_quiet F.plain_extend_loop _, codeAny_extend_loopS (W A.in1 hh).toS hn _ hSf _ x.cps.size 0 _ _ _ rfl (Nat.zero_le _) hst (Heap.get?_push_of_some _ hS) (ItemsOf.nil _) fun s' acc' c' hm hS' hacc => ?_⟩
  rw [Moved.eq_with hm]
  refine hR s'.heap s'.toks acc' c' (fun b ob hb e => hm.heap b ob (fun hmem => ?_) (Heap.get?_push_of_some _ e)) hS' hacc
  rcases List.mem_cons.mp hmem with e' | hmem
  · exact hb e'
  · exact absurd (Heap.lt_size e) (by rw [List.mem_singleton.mp hmem]; exact Nat.lt_irrefl _)
theorem list_init_str {R : Result → Shared → Prop} (hh : A.handled = none) (x : Str) (t : Tok) (S : Addr) (hS : s.heap.get? S = some { cls := .type "list", data := .seq #[] })
    (hR : ∀ h' tk acc' c', (∀ b o, b ≠ S → s.heap.get? b = some o → h'.get? b = some o) → h'.get? S = some { cls := .type "list", dict := none, data := .seq acc' c', slots := #[] } →
      ItemsOf (SignAt x) acc' x.cps.size → R (.ok (.ret .none)) { s with heap := h', toks := tk }) (hn : x.cps.size ≤ sizeLine) :
    wpAny (model prog w) A.in1 (Builtin.«list.__init__» ⟨[.ref S, .str x t], []⟩)
      (fun fin s' => match fin with | .done f => R (.ok f) s' | .again c' => c'.quiet = true ∧ codeAny (model prog w) A c' R s') (fun e s' => R (.error e) s') s := by
  show wpAny _ _ (do let old ← Builtin.List.listItems (.ref S); Builtin.List.listUpdate (.ref S) (fun _ => #[]); letGo old.toList.reverse; Builtin.List.listExtendWith (.ref S) (.str x t) .none) _ _ s
  refine wpAny_bind ?_
  unfold Builtin.List.listItems
  refine wpAny_bind (wpAny_seqItems hS rfl (wpAny_pure ?_))
  show wpAny _ _ (updateSeq S (fun _ => #[]) >>= fun _ => letGo (#[] : Array Value).toList.reverse >>= fun _ => Builtin.List.listExtendWith (.ref S) (.str x t) .none) _ _ s
  refine wpAny_bind (wpAny_updateSeq hS rfl ?_)
  have hS₂ := Heap.get?_update_self (Obj.mapSeq (fun _ => (#[] : Array Value))) hS rfl
  have oth : ∀ b o, b ≠ S → s.heap.get? b = some o → (s.heap.update S (Obj.mapSeq (fun _ => (#[] : Array Value)))).get? b = some o :=
    fun b o hb e => (Heap.get?_update_other _ _ (Ne.symm hb)).trans e
  refine wpAny_bind (wpAny_letGo ?_)
  refine extend_str hh x t S .none _ hS₂ (fun h' tk acc' c' hk hS' hacc => ?_) hn
  exact hR h' tk acc' c' (fun b o hb e => hk b o hb (oth b o hb e)) hS' hacc
theorem call_list_str {x : Str} {t : Tok} {Q : Value → Shared → Prop} (hh : A.handled = none) (hn : x.cps.size ≤ sizeLine)
    (hQ : ∀ h' tk acc' c', (∀ b o, s.heap.get? b = some o → h'.get? b = some o) →
      h'.get? s.heap.objs.size = some { cls := .type "list", dict := none, data := .seq acc' c', slots := #[] } → ItemsOf (SignAt x) acc' x.cps.size → Q (.ref s.heap.objs.size) { s with heap := h', toks := tk }) :
    wpAny (model prog w) A (call (.type "list") [.str x t]) Q E s := by
  refine callType_codes (Q₁ := fun obj s₁ => obj = .ref s.heap.objs.size ∧ s₁ = { s with heap := s.heap.push { cls := .type "list", data := .seq #[] } }) PySem.F.called_list (PySem.F.typeCall_list_1 _) PySem.F.entry_list_init
    (code_list_new _ ⟨rfl, rfl⟩) fun obj s₁ h₁ => ?_
  obtain ⟨rfl, rfl⟩ := h₁
  have hS : (s.heap.push { cls := .type "list", data := .seq #[] }).get? s.heap.objs.size = some { cls := .type "list", data := .seq #[] } := Heap.get?_push_size _ rfl
  refine ⟨⟨_, hS, rfl⟩, PySem.F.args_list_init_2 _ _, list_init_str (A := A.in1) hh x t _ hS (fun h' tk acc' c' hk hS' hacc => ?_) hn⟩
  exact ⟨rfl, hQ h' tk acc' c' (fun b o e => hk b o (Nat.ne_of_lt (Heap.lt_size e)) (Heap.get?_push_of_some _ e)) hS' hacc⟩
end
end PySem.TStr
namespace T
open PySem PySem.Spec PyProof.Rows L2
section
variable {X : Cx}
def chrsT (z : Str) : List Tr := z.cps.toList.map fun c => Tr.str ⟨#[c]⟩
/-- list(x), x a list, a tuple or a text -/
def rList3 : RC2 := c1 fun d M Q => match d with
  | .str z => z.length ≤ sizeLine ∧ ∀ p, M p = none → Q (.loc p) (up M p (.lst (chrsT z)))
  | d => ∃ ds, seqT d M = some ds ∧ ∀ p, M p = none → Q (.loc p) (up M p (.lst ds))
theorem chrs_rep {K : PySem.W.Frag} {H : Hp} : ∀ l : List Nat, RepL K H (l.map fun c => Tr.str ⟨#[c]⟩) (l.map fun c => V.str ⟨#[c]⟩)
  | [] => rfl
  | _ :: r => ⟨_, _, rfl, rfl, chrs_rep r⟩
theorem b_list3 (hc : X.calm = true) : CallR X (.type "list") (lfC X.K rList3) := c1_of fun pins s σ H x u Q d M Q' I rx rd sm q hq => by
  cases d with
  | str z =>
    obtain ⟨hz, q⟩ := q
    cases rd
    obtain ⟨t, rfl⟩ := rx
    have fr : H s.heap.objs.size = none := I.hok.fresh (Nat.le_refl _)
    refine PySem.TStr.call_list_str (I.ok.hd hc) hz fun h' tk acc c' hk e hi => ?_
    have hl : (z.cps.toList.map fun c => V.str ⟨#[c]⟩).length = z.cps.size := by simp
    refine ⟨.ref s.heap.objs.size, upd H s.heap.objs.size (.lst (z.cps.toList.map fun c => V.str ⟨#[c]⟩)), I.laid hk (Nat.le_refl _) ⟨by rw [hl]; exact hz, acc.toList, c', ?_, by rw [Array.toArray_toList]; exact e⟩, rfl, new_lst hq (chrs_rep _) sm fr (q)⟩
    refine vals_of_idx _ _ (by rw [hl, Array.length_toList]; exact hi.1) fun j u hj => ?_
    obtain ⟨c, t', hc, rfl⟩ := hi.2 j u (by rw [← Array.getElem?_toList]; exact hj)
    refine ⟨.str ⟨#[c]⟩, ?_, ⟨_, rfl⟩⟩
    rw [List.getElem?_map, Array.getElem?_toList, hc]; rfl
  | _ =>
    obtain ⟨ds, e, q⟩ := q
    obtain ⟨a, xs, rfl, sq, rl⟩ := seqT_ok e rd sm
    exact call_list_of pins s σ H [.ref a] [u] Q I (.cons rx .nil) ⟨a, xs, rfl, sq, fun l hl => new_lst hq rl sm hl q⟩
@[simp ↓] theorem rList3_str {z : Str} {M : Ms} {Q : Q2} : rList3 [.str z] M Q = (z.length ≤ sizeLine ∧ NewL M (chrsT z) Q .mk) := rfl
/-! a tuple's repetition, up to a million -/
def rRepW (K : PySem.W.Frag) : R2 := fun x y H Q => ∃ l k xs, x = .ref l ∧ y = .int k ∧ SqT K H l xs ∧ 0 < xs.length ∧ xs.length ≤ 8 ∧ 2 ≤ k ∧ k ≤ 1000000 ∧ ∀ p, H p = none → Q (.ref p) (upd H p (.tup (List.replicate k.toNat xs).flatten))
theorem op_repW : OpR X (binaryOp .Mult) (rRepW X.K) := by
  rintro pins s σ H x y v u Q I rx ry ⟨l, k, xs, rfl, rfl, hT, hx0, hx8, hk2, hkm, q⟩
  cases rx
  obtain ⟨t, rfl⟩ := ry
  obtain ⟨its, r, ⟨⟨cls, dd, data, sl⟩, ho, hc, n, hd⟩, hs⟩ := I.tuple hT
  dsimp only at hc hd
  subst hc hd
  have hl : its.length = xs.length := r.length.symm
  obtain ⟨v0, its', rfl⟩ : ∃ v0 its', its = v0 :: its' := by
    cases its with
    | nil => simp at hl; omega
    | cons a b => exact ⟨a, b, rfl⟩
  have hsz : (v0 :: its').toArray.size = xs.length := by rw [List.size_toArray, hl]
  have hbig : (List.replicate k.toNat (v0 :: its')).flatten.length ≤ sizeLine := by
    rw [PyProof.Rows.lm_len_rep_flat, hl, sizeLine_eq]
    have : k.toNat * xs.length ≤ 1000000 * 8 := Nat.mul_le_mul (by omega) hx8
    omega
  have hprod : ((xs.length : Nat) : Int) * k ≤ 8000000 := by
    have : ((xs.length : Nat) : Int) * k ≤ 8 * k := Int.mul_le_mul_of_nonneg_right (by omega) (by omega)
    omega
  have M := tuple_mulW l (v0 :: its').toArray n dd sl k t (by simp; omega) (by simp; omega) (by simp; omega) (by rw [hsz]; omega) (by unfold Builtin.Tuple.tupleTooMany; rw [hsz, sizeLine_eq]; exact decide_eq_false (by omega)) (by rw [size_rep, List.size_toArray]; exact hbig)
  refine wpAny_binaryOp_repeat_ref (T := "tuple") (U := "int") (by decide) ⟨_, ho, rfl⟩ (fun s' => typeIs_int s' k t) noFill_tuple_mul PySem.F.fills_int_mul PySem.F.slot_int_rmul repeat_tuple PySem.F.slot_int_index.lookup ?_
  refine call_meets PySem.F.slot_int_rmul (typeIs_int s k t) PySem.F.entry_int_rmul (PySem.F.args_int_rmul_2 _ _) (int_rmul_tuple k t l _ n dd sl) ⟨ho, rfl, ⟨_, ho, rfl⟩, ?_⟩
  refine call_meets PySem.F.slot_tuple_mul ⟨_, ho, rfl⟩ PySem.F.entry_tuple_mul (PySem.F.args_tuple_mul_2 _ _) M ⟨ho, ?_⟩
  rw [size_rep]
  refine ⟨.ref s.heap.objs.size, _, I.laid (t' := s.toks) (o := .tup (List.replicate k.toNat xs).flatten) (fun b ob q => Heap.get?_push_of_some _ q) (Nat.le_refl _) ⟨?_, _, r.rep k.toNat, IsTup.new _ _⟩, rfl, q _ (I.hok.fresh (Nat.le_refl _))⟩
  have e1 := PyProof.Rows.lm_len_rep_flat (v0 :: its') k.toNat
  have e2 := PyProof.Rows.lm_len_rep_flat xs k.toNat
  rw [e2, ← hl, ← e1]; exact hbig
def rMulT : R22 := fun d e M Q => match d, e with
  | .tup la, .int k => 0 < la.length ∧ la.length ≤ 8 ∧ 2 ≤ k ∧ k ≤ 1000000 ∧ Q (.tup (List.replicate k.toNat la).flatten) M
  | _, _ => False
theorem o_mulT : OpR X (binaryOp .Mult) (lfR X.K rMulT) := by
  rintro pins s σ H x y v u Q I rx ry ⟨d, e, M, Q', rd, re, sm, q, hq⟩
  cases d with
  | tup la =>
    cases e with
    | int k =>
      obtain ⟨a, xs, rfl, sq, rl⟩ := rd
      cases re
      obtain ⟨h1, h2, h3, h4, q⟩ := q
      exact op_repW pins s σ H _ _ v u Q I rx ry ⟨a, k, xs, rfl, rfl, sq, by rw [← rl.len]; exact h1, by rw [← rl.len]; exact h2, h3, h4, fun p hp => new_tup hq (rl.rep _) sm hp q⟩
    | _ => exact q.elim
  | _ => cases e <;> exact q.elim
@[simp ↓] theorem rMulT_ap {la : List Tr} {k : Int} {M : Ms} {Q : Q2} : rMulT (.tup la) (.int k) M Q = (0 < la.length ∧ la.length ≤ 8 ∧ 2 ≤ k ∧ k ≤ 1000000 ∧ Q (.tup (List.replicate k.toNat la).flatten) M) := rfl
end
end T

/-! T: errors that are caught become values of the store. -/
namespace T
open PySem PySem.Spec PyProof.Rows L2
theorem exT_ok {P : Program} {w : World} {H : Hp} {h : Heap} {a : Addr} {cls : Value} {d : Option Addr} {oe : Obj} {vs : Array Value} (e : h.get? a = some oe) (z : Zc cls d oe) (hd : oe.data = .fields vs) : ObjOk P w H h a (exT cls d a) :=
  ⟨⟨oe, vs, e, z, hd⟩, ⟨oe, e⟩, fun _ _ ⟨o, v, q, r⟩ k => ⟨o, v, k o q, r⟩⟩
section
variable {X : Cx} {pins : List (Addr × Obj)} {σ : L2.St} {H : Hp} {s : Shared}
/-- an object of fields that was not there at the entry is tracked from now on -/
theorem inv_track {a : Addr} {o : HO} {oe : Obj} {vs : Array Value} (I : L2.Inv X pins σ H s) (h0 : X.s_0.heap.get? a = none) (na : H a = none) (nL : a ≠ X.env.locals) (he : s.heap.get? a = some oe) (hd : oe.data = .fields vs) (nP : ∀ p ∈ X.pn ++ pins, p.1 ≠ a)
    (new : ObjOk X.prog X.w (upd H a o) s.heap a o) : L2.Inv X pins σ (upd H a o) s := by
  have n0 : ∀ b u, X.s_0.heap.get? b = some u → b ≠ a := fun b u e z => by rw [z, h0] at e; cases e
  have nC : ∀ x c, X.env.cells.lookup x = some c → c ≠ a := fun x c e z => by
    obtain ⟨v, ob, ho, hv⟩ := I.cell x c e
    rw [z, he] at ho
    cases ho
    rw [hd] at hv
    cases hv
  have ne : ∀ b u, H b = some u → b ≠ a := fun b u e => ne_of_none e na
  refine ⟨I.ok, I.os, I.bare, ⟨I.base.keep, I.base.slot, fun b u e n hx => ?_, I.base.there, fun b xs e => ?_, fun b u v e => ?_, fun b ps e => ?_⟩, I.loc, I.cell, ?_, fun x c e => ?_, fun p hp => ?_, fun b u e => ?_, I.len⟩
  · rw [upd_ne (n0 b u e)]; exact I.base.free b u e n hx
  · have q := I.base.tups b xs e
    rw [upd_ne (ne b _ q)]; exact q
  · have q := I.base.frzs b u v e
    rw [upd_ne (ne b _ q)]; exact q
  · obtain ⟨m, q⟩ := I.base.tbls b ps e
    exact ⟨m, by rw [upd_ne (ne b _ q)]; exact q⟩
  · rw [upd_ne nL.symm]; exact I.free
  · rw [upd_ne (nC x c e)]; exact I.freeC x c e
  · obtain ⟨e1, e2, e3, e4, e5⟩ := I.pin p hp
    exact ⟨e1, by rw [upd_ne (nP p hp)]; exact e2, e3, e4, e5⟩
  · by_cases hb : b = a
    · subst hb
      rw [upd_same] at e
      cases e
      exact new
    · rw [upd_ne hb] at e
      exact (I.hok b u e).stay (fun c v _ q => q) (fun c q => by rw [upd_ne (ne_of_none q na)]; exact q) fun c xs q => by rw [upd_ne (ne_of_none q na)]; exact q
end
/-- what the clause 'except x as n' wishes: the error stands in slot i, tracked -/
def wAsT (K : PySem.W.Frag) (c : Value) (i : Nat) (ts : TS) (Wout : L2.WX) (D : L2.Ends) : L2.WX := fun cls d σ H =>
  ∃ b, PySem.W.exmOne K cls c = some b ∧ (b = true → ∀ a, H a = none → ts { nx := fun σ' H' => D.nx (σ'.set i none) H', rt := D.rt, bk := fun σ' H' => D.bk (σ'.set i none) H', ct := fun σ' H' => D.ct (σ'.set i none) H' } (σ.set i (some (.ref a))) (upd H a (exT cls d a))) ∧
    (b = false → Wout cls d σ H)
section
variable {X : Cx} {x n : Str} {c : Value} {i : Nat} {body suite : List Stmt} {b₀ : Stmt} {np pos pos' : Pos} {tb : L2.WX → TS} {ts : TS} {Wout : L2.WX}
theorem ps_try_asT (hex : X.ex = []) (hs : X.stack = X.env :: X.outer) (hf : X.env.frame = some X.env.locals) (hN : X.N.Nodup) (hi : X.N[i]? = some n) (hln : X.env.kindOf n = some .local) (hc : Names X x c) (tk : Takes X Wout)
    (hb : ∀ (W : L2.WX) (pn : List (Addr × Obj)) (xe : Value → Shared → Prop), Takes (X.tr pn xe) W → PassesOwn (model X.prog X.w) X.A X.env xe → PSs (X.tr pn xe) body (tb W))
    (hsu : ∀ (a : Addr) (pn : List (Addr × Obj)), PSs (X.suite a pn) (b₀ :: suite) ts) :
    PS X (.Try body [.ExceptHandler (some (.Name x np)) (some n) (b₀ :: suite) pos'] [] [] pos) (fun D σ H => tb (wAsT X.K c i ts Wout D) D σ H) := by
  refine ⟨fun pins s σ H D I h => ?_⟩
  have ok := I.ok
  have hfr : X.A.frames = some (X.env :: X.outer) := by rw [ok.frames, hs]
  have hloc : Loc X.env.scope n := .inl hln
  refine wpAny_Try_except (wpAny_mono ((hb (wAsT X.K c i ts Wout D) (X.pn ++ pins) (fun e s₁ => wpAny (model X.prog X.w) X.A (noteFrame e X.env) (fun _ s₂ => wpAny (model X.prog X.w) X.A (setFlight e none) (fun _ s₃ =>
    wpAny (model X.prog X.w) X.A (handleBy e X.env [.ExceptHandler (some (.Name x np)) (some n) (b₀ :: suite) pos']) (SP X pins D) X.xe s₃) X.xe s₂) X.xe s₁) (fun u s' xx => ?_) PassesOwn.looking).run [] s σ H D (I.toTry _) h) (fun f s1 hsp => ?_) (fun e s1 he => he))
  · obtain ⟨a, B, sI, pins', σ', H', cls, d, rfl, J', nb, up, sky, na, os, ag, b, hb1, hyes, hno⟩ := xx
    have J : L2.Inv X pins σ' H' sI := J'.ofTry ok
    rw [hs] at sky
    show wpAny (model X.prog X.w) X.A (noteFrame (.ref a) X.env) _ _ _
    refine Sky.land Zc.steady hfr hf sky fun h3 fl3 up3 => ?_
    have J3 : L2.Inv X pins σ' H' { s' with heap := h3 } := J.landed nb fl3.1 (up.trans up3) os ag
    obtain ⟨oe3, vs3, he3, hz3, hd3⟩ := fl3.there
    have nfr : a ∉ frs (X.env :: X.outer) := fun hm => by
      obtain ⟨_, o', e', hnf⟩ := fl3.2.2.1.mem hm
      rw [he3] at e'; cases e'
      exact hnf _ hd3
    have nL : a ≠ X.env.locals := fun z => nfr (List.mem_filterMap.mpr ⟨X.env, List.mem_cons_self, by rw [hf, z]⟩)
    have nF : a ∉ X.fs := fun hm => by
      obtain ⟨e, he, q⟩ := List.mem_filterMap.mp hm
      exact nfr (List.mem_filterMap.mpr ⟨e, List.mem_cons_of_mem _ he, q⟩)
    -- the error is new
    have nI : sI.heap.get? a = none := by
      cases e : sI.heap.get? a with
      | none => rfl
      | some o =>
        have z := nb a o e (by rw [hs]; exact nfr)
        rw [fl3.2.1] at z
        cases z
    have n0 : X.s_0.heap.get? a = none := by
      cases e : X.s_0.heap.get? a with
      | none => rfl
      | some o =>
        obtain ⟨o', z⟩ := J.base.there a o e (by rw [hex]; exact fun z => nomatch z)
        rw [nI] at z
        cases z
    have nP : ∀ p ∈ X.pn ++ pins, p.1 ≠ a := fun p hp z => by
      have := (J.pin p hp).1
      rw [z, nI] at this
      cases this
    have S3 := J3.suite he3 hd3 na nL nF
    refine wpAny_handleBy_cons (codeAny_handlers_test ?_) (by intro q; cases q)
    have LT : PySem.W.Looks (model X.prog X.w) h3 (typeOf (.ref a)) cls := fun A Q E s k q => wpAny_typeOf_ref (k _ _ he3) (by rw [hz3.1]; exact q)
    have LM := PySem.W.exm_one (M := model X.prog X.w) (J3.kIn) LT hb1
    have test : ∀ {Q : Value → Shared → Prop} {E : Value → Shared → Prop}, Q c { s' with heap := h3 } → wpAny (model X.prog X.w) (X.A.mark (some (.ref a))) (eval (.Name x np) X.env) Q E { s' with heap := h3 } := fun {Q E} q => by
      obtain ⟨hg, hdbg, hm | ⟨hm, hv, hnn⟩⟩ := hc
      · exact ld_glob (X := X.suite a ((a, oe3) :: (X.pn ++ pins))) S3 hg hm q hdbg
      · exact ld_blt (X := X.suite a ((a, oe3) :: (X.pn ++ pins))) S3 hg hm hv q hnn hdbg
    refine test (LM.here ?_)
    cases b with
    | true =>
      refine codeAny_handlers_suite_as ?_
      refine HandSPX.lands_againZ fl3 fun h4 fl4 up4 => ?_
      have J4 : L2.Inv X pins σ' H' { s' with heap := h4 } := J.landed nb fl4.1 ((up.trans up3).trans up4) os ag
      obtain ⟨oe4, vs4, he4, hz4, hd4⟩ := fl4.there
      have T4 := inv_track J4 n0 na nL he4 hd4 nP (exT_ok (P := X.prog) (w := X.w) (H := upd H' a (exT cls d a)) he4 hz4 hd4)
      have S4 : L2.Inv (X.suite a (X.pn ++ pins)) [] σ' (upd H' a (exT cls d a)) { s' with heap := h4 } :=
        ⟨ok.suite _ _, T4.os, T4.bare, T4.base, T4.loc, T4.cell, T4.free, T4.freeC, fun p hp => T4.pin p (by rw [List.append_nil] at hp; exact hp), T4.hok, T4.len⟩
      have back : ∀ {σ6 : L2.St} {H6 : Hp} {s6 : Shared}, L2.Inv (X.suite a (X.pn ++ pins)) [] σ6 H6 s6 → L2.Inv X pins σ6 H6 s6 := fun {σ6 H6 s6} S =>
        ⟨ok, S.os, S.bare, S.base, S.loc, S.cell, S.free, S.freeC, fun p hp => S.pin p (List.mem_append_left _ hp), S.hok, S.len⟩
      refine store_ok (X := X.suite a (X.pn ++ pins)) (v := .ref a) S4 hN hi hloc rfl (fun s5 S5 => ?_) (.inr hln)
      refine wpAny_mono ((hsu a (X.pn ++ pins)).run [] s5 _ _ _ S5 (hyes rfl a na)) (fun f s6 hsp => ?_) (fun _ _ z => False.elim z)
      have end_ : ∀ {σ6 : L2.St} {H6 : Hp} {Q : Shared → Prop}, L2.Inv (X.suite a (X.pn ++ pins)) [] σ6 H6 s6 → (∀ s7, L2.Inv X pins (σ6.set i none) H6 s7 → Q s7) →
          wpAny (model X.prog X.w) X.A (do bindName X.env n .none; unbindBehindTheSuite X.env n pos') (fun _ s7 => Q s7) X.xe s6 := fun {σ6 H6 Q} S6 hq => gone_ok (back S6) hN hi hln hq
      cases f with
      | next =>
        obtain ⟨σ6, H6, S6, q6⟩ := hsp
        exact end_ S6 fun s7 J7 => ⟨_, _, J7, q6⟩
      | brk =>
        obtain ⟨σ6, H6, S6, q6⟩ := hsp
        exact end_ S6 fun s7 J7 => ⟨_, _, J7, q6⟩
      | cont =>
        obtain ⟨σ6, H6, S6, q6⟩ := hsp
        exact end_ S6 fun s7 J7 => ⟨_, _, J7, q6⟩
      | ret u =>
        obtain ⟨v6, σ6, H6, S6, r6, q6⟩ := hsp
        exact end_ S6 fun s7 J7 => ⟨_, _, _, J7, r6, q6⟩
    | false =>
      show wpAny _ X.A (handleBy (.ref a) X.env []) _ _ _
      refine wpAny_handleBy_nil ?_
      obtain ⟨k1, k2, k3, oe, vs, T, oT, ts', he, hz, hd, h1, hr⟩ := id fl3
      unfold PySem.passOn
      refine wpAny_bind (wpAny_field he hd h1 ?_)
      rw [if_neg (show ¬ ((Value.ref T == Value.none) = true) from by simp)]
      have fin : wpAny (model X.prog X.w) X.A (setFlight (.ref a) X.env.frame) (fun _ s4 => wpAny (model X.prog X.w) X.A (throw (.ref a) : Sem Flow) (SP X pins D) X.xe s4) X.xe { s' with heap := h3 } := by
        rw [hf]
        refine HandSPX.setFlight_upZ fl3 fun h4 hh4 up4 => wpAny_throw (tk _ _ ?_)
        exact ⟨a, B, sI, pins, σ', H', cls, d, rfl, J, nb, (up.trans up3).trans up4, .inr (.inr (by rw [hs]; exact hh4)), na, os, ag, hno rfl⟩
      first
        | exact wpAny_bind (wpAny_pure (wpAny_bind fin))
        | exact wpAny_bind fin
  · cases f with
    | next =>
      obtain ⟨σ', H', J', q⟩ := hsp
      exact wpAny_execs_nil ⟨σ', H', J'.ofTry ok, q⟩
    | brk =>
      obtain ⟨σ', H', J', q⟩ := hsp
      exact ⟨σ', H', J'.ofTry ok, q⟩
    | cont =>
      obtain ⟨σ', H', J', q⟩ := hsp
      exact ⟨σ', H', J'.ofTry ok, q⟩
    | ret u =>
      obtain ⟨v, σ', H', J', r, q⟩ := hsp
      exact ⟨v, σ', H', J'.ofTry ok, r, q⟩
end
end T

/-! T: errors as values: their classes, isinstance, fields, the clauses of a try, a head with more facts. -/
namespace T
open PySem PySem.Spec PyProof.Rows L2
/-! ### classes of errors, by names -/
structure Cn where
  ad : Str → Addr
  ex : Value → Value → Option Bool
  isx : Value → Value → Option Bool
def Cn.cl (c : Cn) (x : Str) : Value := .ref (c.ad x)
def excB (K : PySem.W.Frag) (D : Addr) : Bool :=
  He.eqO (PySem.W.findIn K (.ref D) "__getattribute__") (some (some (.builtin "BaseException.__getattribute__"))) && (He.eqO (PySem.W.findIn K (.ref D) "__getattr__") (some none) && (decide (PySem.W.subIn K (.ref D) (.type "BaseException") = some true) && (PySem.W.hasDictIn K D &&
    (He.eqO (PySem.W.findIn K (.ref D) "__class__") (some (some (.builtin "object.__class__"))) && (He.eqO (PySem.W.specialIn K (.builtin "object.__class__") "__get__") (some (some (.builtin "getset_descriptor.__get__"))) &&
      (decide (PySem.W.takesIn K (.builtin "object.__class__") = some true) && decide (PySem.W.mroIn K D (.type "object") = some true)))))))
theorem excB_ok {K : PySem.W.Frag} {D : Addr} (h : excB K D = true) : ExcC K D := by
  obtain ⟨h1, h⟩ := He.ba h
  obtain ⟨h2, h⟩ := He.ba h
  obtain ⟨h3, h⟩ := He.ba h
  obtain ⟨h4, h⟩ := He.ba h
  obtain ⟨h5, h⟩ := He.ba h
  obtain ⟨h6, h⟩ := He.ba h
  obtain ⟨h7, h8⟩ := He.ba h
  exact ⟨He.eqO_ok h1, He.eqO_ok h2, of_decide_eq_true h3, h4, He.eqO_ok h5, He.eqO_ok h6, of_decide_eq_true h7, of_decide_eq_true h8⟩
/-- isinstance by classes: of an error of the class t (or of None) and the class c -/
def isxK (K : PySem.W.Frag) (t c : Value) : Option Bool := match t with
  | .ref D => if excB K D = true then PySem.W.kitOne K t c else none
  | _ => PySem.W.kitOne K t c
def cnOf (K : PySem.W.Frag) : Cn := ⟨fun x => He.ga K x, PySem.W.exmOne K, isxK K⟩
theorem cnOf_cl {K : PySem.W.Frag} {x : Str} : (cnOf K).cl x = .ref (He.ga K x) := rfl

/-! ### isinstance of a caught error, of None -/
def isxT (f : Value → Value → Option Bool) (c : Value) (M : Ms) : Tr → Option Bool
  | .non => f (.type "NoneType") c
  | .loc a => (match M a with
    | some (.exc (.ref D) none) => f (.ref D) c
    | _ => none)
  | _ => none
theorem isxT_loc {f : Value → Value → Option Bool} {c : Value} {M : Ms} {a : Addr} {b : Bool} (h : isxT f c M (.loc a) = some b) : ∃ D, M a = some (.exc (.ref D) none) ∧ f (.ref D) c = some b := by
  have e : (match M a with | some (.exc (.ref D) none) => f (.ref D) c | _ => none) = some b := h
  split at e
  · rename_i D q
    exact ⟨D, q, e⟩
  · cases e
theorem isxT_of {f : Value → Value → Option Bool} {c : Value} {M : Ms} {a D : Addr} (h : M a = some (.exc (.ref D) none)) : isxT f c M (.loc a) = f (.ref D) c := by
  show (match M a with | some (.exc (.ref D) none) => f (.ref D) c | _ => none) = _
  rw [h]
def isxC (f : Value → Value → Option Bool) (M : Ms) (d : Tr) : Tr → Option Bool
  | .loc C => isxT f (.ref C) M d
  | .ty n => isxT f (.type n) M d
  | _ => none
def rIsx (f : Value → Value → Option Bool) : RC2 := c2 fun d e M Q => ∃ b, isxC f M d e = some b ∧ Q (.bl b) M
section
variable {X : Cx}
theorem isx_run {pins : List (Addr × Obj)} {σ : L2.St} {H : Hp} {s : Shared} {Q : Value → Shared → Prop} {M : Ms} {d : Tr} {x : V} {u c : Value} {b : Bool} {E : Value → Shared → Prop} {A : Around}
    (I : L2.Inv X pins σ H s) (sm : SimM X.K H M) (rd : Rep X.K H d x) (rx : RelV x u) (e : isxT (isxK X.K) c M d = some b) (h : ∀ tk, Q (.bool b) { s with toks := tk }) : wpAny (model X.prog X.w) A (call (.builtin "isinstance") [u, c]) Q E s := by
  cases d with
  | non =>
    cases rd
    cases (show u = Value.none from rx)
    exact PySem.W.kia_one (PySem.W.kitx_none (K := X.K)) I.kIn True.intro e (fun z => nomatch z) h
  | loc a =>
    cases rd
    cases (show u = Value.ref a from rx)
    obtain ⟨D, ea, e2⟩ := isxT_loc e
    have z : H a = some (exT (.ref D) none a) := sm a _ ea
    obtain ⟨⟨oe, vs, ho, hz, hd⟩, _, _⟩ := (show ObjOk X.prog X.w H s.heap a (exT (.ref D) none a) from I.hok a _ z)
    have e3 : (if excB X.K D = true then PySem.W.kitOne X.K (.ref D) c else none) = some b := e2
    split at e3
    · rename_i hD
      have C := excB_ok hD
      have J : PySem.W.InstAt s.heap a oe D none := by
        obtain ⟨oc, od, oda, osl⟩ := oe
        obtain ⟨h1, h2⟩ := hz
        dsimp only at h1 h2 hd
        subst h1 h2 hd
        exact ⟨ho, rfl, rfl, trivial⟩
      exact PySem.W.kia_one (PySem.W.handS_kitx_exc C.hg C.hk C.hs C.hd C.ha C.hn C.ht C.hm) I.kIn J e3 (fun z => nomatch z) h
    · cases e3
  | _ => cases e
theorem b_isx : CallR X (.builtin "isinstance") (lfC X.K (rIsx (isxK X.K))) := by
  intro pins s σ H xs us Q I rv ⟨ds, M, Q', rd, sm, q, hq⟩
  match ds, q with
  | [d, e], q =>
    obtain ⟨x, y, rfl, r1, r2⟩ := two_of rd
    obtain ⟨b, e1, q⟩ := q
    obtain ⟨u1, u2, rfl, v1, v2⟩ := vals2 rv
    have fin : ∀ tk, (EP X pins σ Q) (.bool b) { s with toks := tk } := fun tk => ⟨.bl b, H, I.tok tk, rfl, hq (.bl _) M _ H Tx.refl rfl sm q⟩
    cases e with
    | loc C =>
      cases r2
      cases (show u2 = Value.ref C from v2)
      exact isx_run I sm r1 v1 e1 fin
    | ty n =>
      cases r2
      cases (show u2 = Value.type n from v2)
      exact isx_run I sm r1 v1 e1 fin
    | _ => cases e1
end
/-- isinstance: one stops here -/
def IsxS (f : Value → Value → Option Bool) (d e : Tr) (M : Ms) (Q : Q2) (_ : Fx Q) : Prop := ∃ b, isxC f M d e = some b ∧ Q (.bl b) M
@[simp ↓] theorem rIsx_ap {f : Value → Value → Option Bool} {d e : Tr} {M : Ms} {Q : Q2} : rIsx f [d, e] M Q = IsxS f d e M Q .mk := rfl
theorem isx_non {cn : Cn} {x : Str} {M : Ms} {Q : Q2} {z : Fx Q} {b : Bool} (h : cn.isx (.type "NoneType") (cn.cl x) = some b) (q : Q (.bl b) M) : IsxS cn.isx .non (.loc (cn.ad x)) M Q z := ⟨b, h, q⟩
theorem isx_nonT {cn : Cn} {n : String} {M : Ms} {Q : Q2} {z : Fx Q} {b : Bool} (h : cn.isx (.type "NoneType") (.type n) = some b) (q : Q (.bl b) M) : IsxS cn.isx .non (.ty n) M Q z := ⟨b, h, q⟩
theorem isx_at {cn : Cn} {x y : Str} {a : Addr} {M : Ms} {Q : Q2} {z : Fx Q} {b : Bool} (e : M a = some (.exc (cn.cl y) none)) (h : cn.isx (cn.cl y) (cn.cl x) = some b) (q : Q (.bl b) M) : IsxS cn.isx (.loc a) (.loc (cn.ad x)) M Q z :=
  ⟨b, (isxT_of e).trans h, q⟩
theorem isx_atT {cn : Cn} {y : Str} {n : String} {a : Addr} {M : Ms} {Q : Q2} {z : Fx Q} {b : Bool} (e : M a = some (.exc (cn.cl y) none)) (h : cn.isx (cn.cl y) (.type n) = some b) (q : Q (.bl b) M) : IsxS cn.isx (.loc a) (.ty n) M Q z :=
  ⟨b, (isxT_of e).trans h, q⟩
/-- a class of the module as a value -/
theorem qe_cls {X : Cx} {W : L2.WX} {pos : Pos} {x : Str} {C : Addr} (hm : X.mg x = some (.ref C)) (hg : Gl X x := by rfl) (hd : (x == ("__debug__" : Str)) = false := by decide) : QE X W (.Name x pos) (eC (.loc C)) :=
  qe_glob (.ref C) (.loc C) hm rfl (fun _ => rfl) hg hd

/-! ### except x as n -/
def sTryAs (ex : Value → Option Bool) (i : Nat) (tb ts : TS2) : TS2 := fun D σ M => tb { D with ex := fun c dd σ1 M1 => ∃ b, ex c = some b ∧
  (b = true → ∀ a, M1 a = none → ts { nx := fun σ' M' => D.nx (σ'.set i none) M', rt := D.rt, bk := fun σ' M' => D.bk (σ'.set i none) M', ct := fun σ' M' => D.ct (σ'.set i none) M', ex := fun _ _ _ _ => False } (σ1.set i (some (.loc a))) (up M1 a (.exc c dd))) ∧ (b = false → D.ex c dd σ1 M1) } σ M
@[simp ↓] theorem sTryAs_ap {ex : Value → Option Bool} {i : Nat} {tb ts : TS2} {D : Ends2} {σ : St2} {M : Ms} : sTryAs ex i tb ts D σ M = tb { D with ex := fun c dd σ1 M1 => ∃ b, ex c = some b ∧
  (b = true → ∀ a, M1 a = none → ts { nx := fun σ' M' => D.nx (σ'.set i none) M', rt := D.rt, bk := fun σ' M' => D.bk (σ'.set i none) M', ct := fun σ' M' => D.ct (σ'.set i none) M', ex := fun _ _ _ _ => False } (σ1.set i (some (.loc a))) (up M1 a (.exc c dd))) ∧ (b = false → D.ex c dd σ1 M1) } σ M := rfl
section
variable {X : Cx} {W : L2.WX} {x n : Str} {c : Value} {i : Nat} {body suite : List Stmt} {b0 : Stmt} {np pos pos' : Pos} {tb ts : TS2}
theorem qs_tryAs (hex : X.ex = []) (hs : X.stack = X.env :: X.outer) (hf : X.env.frame = some X.env.locals) (hN : X.N.Nodup) (hi : X.N[i]? = some n) (hln : X.env.kindOf n = some .local) (hc : Names X x c) (tk : Takes X W)
    (hb : ∀ (W' : L2.WX) (pn : List (Addr × Obj)) (xe : Value → Shared → Prop), Takes (X.tr pn xe) W' → PassesOwn (model X.prog X.w) X.A X.env xe → QSs (X.tr pn xe) W' body tb)
    (hsu : ∀ (a : Addr) (pn : List (Addr × Obj)), QSs (X.suite a pn) W0 (b0 :: suite) ts) :
    QS X W (.Try body [.ExceptHandler (some (.Name x np)) (some n) (b0 :: suite) pos'] [] [] pos) (sTryAs (fun cls => PySem.W.exmOne X.K cls c) i tb ts) :=
  ps_weak (ps_try_asT (tb := fun W' => lfS X.K W' tb) (ts := lfS X.K W0 ts) hex hs hf hN hi hln hc tk hb hsu) fun D σ H ⟨σ', M, D', hs, hm, h, L⟩ =>
    ⟨σ', M, _, hs, hm, h, L.nx, L.rt, L.bk, L.ct, fun cls dd σ1' M1 σ1 H1 t1 s1 m1 ⟨b, eb, h1, h2⟩ => ⟨b, eb, fun e a na => by
        have T2 : Tx X.K H1 (upd H1 a (exT cls dd a)) := Tx.new na
        refine ⟨_, _, _, (s1.mono T2).set i (d := .loc a) (v := .ref a) rfl, m1.put (m := .exc cls dd) T2 upd_same, h1 e a (m1.free na), ?_, ?_, ?_, ?_, fun _ _ _ _ _ _ _ _ _ z => z⟩
        · exact fun σ2' M2 σ2 H2 t2 s2 m2 q2 => L.nx _ M2 _ H2 ((t1.trans T2).trans t2) (s2.none i) m2 q2
        · exact fun d M2 v H2 t2 r2 m2 q2 => L.rt d M2 v H2 ((t1.trans T2).trans t2) r2 m2 q2
        · exact fun σ2' M2 σ2 H2 t2 s2 m2 q2 => L.bk _ M2 _ H2 ((t1.trans T2).trans t2) (s2.none i) m2 q2
        · exact fun σ2' M2 σ2 H2 t2 s2 m2 q2 => L.ct _ M2 _ H2 ((t1.trans T2).trans t2) (s2.none i) m2 q2,
      fun e => L.ex cls dd σ1' M1 σ1 H1 t1 s1 m1 (h2 e)⟩⟩
/-! ### several clauses -/
def xMany (K : Value → Value → Option Bool) (D : Ends2) : List (Value × TS2) → Value → Option Addr → St2 → Ms → Prop
  | [] => D.ex
  | (c, ts) :: r => fun cls dd σ M => ∃ b, K cls c = some b ∧ (b = true → ts { D with ex := fun _ _ _ _ => False } σ M) ∧ (b = false → xMany K D r cls dd σ M)
def sTryMany (K : Value → Value → Option Bool) (l : List (Value × TS2)) (tb : TS2) : TS2 := fun D σ M => tb { D with ex := xMany K D l } σ M
@[simp ↓] theorem sTryMany_ap {K : Value → Value → Option Bool} {l : List (Value × TS2)} {tb : TS2} {D : Ends2} {σ : St2} {M : Ms} : sTryMany K l tb D σ M = tb { D with ex := xMany K D l } σ M := rfl
inductive QHds (X : Cx) : List ExceptHandler → List (Value × TS2) → Prop
  | nil : QHds X [] []
  | cons {x : Str} {c : Value} {ts : TS2} {b₀ : Stmt} {suite : List Stmt} {np pos' : Pos} {hds : List ExceptHandler} {l : List (Value × TS2)} (hc : Names X x c) (hsu : ∀ (a : Addr) (pn : List (Addr × Obj)), QSs (X.suite a pn) W0 (b₀ :: suite) ts) (r : QHds X hds l) :
      QHds X (.ExceptHandler (some (.Name x np)) none (b₀ :: suite) pos' :: hds) ((c, ts) :: l)
theorem QHds.low {hds : List ExceptHandler} {l : List (Value × TS2)} (h : QHds X hds l) : HdsOk X hds (l.map fun q => (q.1, fun _ _ _ => lfS X.K W0 q.2)) := by
  induction h with
  | nil => exact .nil
  | cons hc hsu r ih => exact .cons hc (fun a oe cls d pn _ _ => hsu a _) ih
theorem many_low {D : L2.Ends} {D' : Ends2} {H : Hp} (L : LkD X.K H W D' D) : ∀ {l : List (Value × TS2)} {cls : Value} {dd : Option Addr} {σ' : St2} {M : Ms} {σ : L2.St} {H1 : Hp}, Tx X.K H H1 → SimS X.K H1 σ' σ → SimM X.K H1 M → xMany (PySem.W.exmOne X.K) D' l cls dd σ' M →
    wMany X.K W D (l.map fun q => (q.1, fun _ _ _ => lfS X.K W0 q.2)) cls dd σ H1
  | [], cls, dd, σ', M, σ, H1, t1, s1, m1, h => L.ex cls dd σ' M σ H1 t1 s1 m1 h
  | (c, ts) :: r, cls, dd, σ', M, σ, H1, t1, s1, m1, ⟨b, eb, h1, h2⟩ => ⟨b, eb, fun e a _ => ⟨σ', M, _, s1, m1, h1 e, (L.mono t1).nx, (L.mono t1).rt, (L.mono t1).bk, (L.mono t1).ct, fun _ _ _ _ _ _ _ _ _ z => z⟩, fun e => many_low L t1 s1 m1 (h2 e)⟩
theorem qs_tryMany {h₀ : ExceptHandler} {hds : List ExceptHandler} {l : List (Value × TS2)} (hs : X.stack = X.env :: X.outer) (hf : X.env.frame = some X.env.locals) (tk : Takes X W)
    (hb : ∀ (W' : L2.WX) (pn : List (Addr × Obj)) (xe : Value → Shared → Prop), Takes (X.tr pn xe) W' → PassesOwn (model X.prog X.w) X.A X.env xe → QSs (X.tr pn xe) W' body tb)
    (hh : QHds X (h₀ :: hds) l) : QS X W (.Try body (h₀ :: hds) [] [] pos) (sTryMany (PySem.W.exmOne X.K) l tb) :=
  ps_weak (ps_try_many (tb := fun W' => lfS X.K W' tb) hs hf tk hb hh.low) fun D σ H ⟨σ', M, D', hs, hm, h, L⟩ =>
    ⟨σ', M, _, hs, hm, h, L.nx, L.rt, L.bk, L.ct, fun cls dd σ1' M1 σ1 H1 t1 s1 m1 q => many_low L t1 s1 m1 q⟩
end
end T

/-! T: errors with a field of their own; calls by names; a head with more facts. -/
namespace T
open PySem PySem.Spec PyProof.Rows L2

/-! ### a class of errors with an own __init__ that hands on to D's and sets one field -/
def oexA (K : PySem.W.Frag) (C : Addr) : Bool := match K.lookup C with
  | some ⟨.type t, _, .cls cd, sl⟩ => decide (t = "type") && (match cd.mro, sl.toList with
    | .ref C' :: bm, [_, _, _, _, some (.builtin n), _] => decide (C' = C) && (decide (n = "ValueError.__new__") && ((!cd.hasDel) && (cd.hasDict && PySem.HandSPX.refsVE bm)))
    | _, _ => false)
  | _ => false
theorem oexA_ok {K : PySem.W.Frag} {C : Addr} (h : oexA K C = true) :
    ∃ nm q N bs bm sn sub ab col dd k0 k1 k2 k3 k5, K.lookup C = some (excClassObj nm q C N bs bm true sn sub ab col dd k0 k1 k2 k3 k5 "ValueError.__new__") ∧ PySem.HandSPX.refsVE bm = true := by
  unfold oexA at h
  split at h
  · rename_i t dd cd sl ho
    obtain ⟨e1, h⟩ := He.ba h
    have e1 := of_decide_eq_true e1
    split at h
    · rename_i C' bm k0 k1 k2 k3 n k5 hm hs
      obtain ⟨e2, h⟩ := He.ba h
      obtain ⟨e3, h⟩ := He.ba h
      obtain ⟨e4, h⟩ := He.ba h
      obtain ⟨e5, e6⟩ := He.ba h
      have e2 := of_decide_eq_true e2
      have e3 := of_decide_eq_true e3
      obtain ⟨nm, bs, mro, ns, qn, hd, sn, sub, ab, col, dl⟩ := cd
      dsimp only at hm e4 e5
      have e4 : dl = false := by
        cases dl with
        | false => rfl
        | true => cases e4
      subst e1 e2 e3 e4 e5 hm
      have hsl : sl = #[k0, k1, k2, k3, some (.builtin "ValueError.__new__"), k5] := by
        obtain ⟨l⟩ := sl
        simp only at hs
        rw [hs]
      subst hsl
      exact ⟨nm, qn, ns, bs, bm, sn, sub, ab, col, dd, k0, k1, k2, k3, k5, ho, e6⟩
    · cases h
  · cases h
structure InitC (K : PySem.W.Frag) (C D fI : Addr) (f : Str) : Prop where
  oex : OexC K C
  iC : PySem.W.findIn K (.ref C) "__init__" = some (some (.ref fI))
  tI : PySem.W.typeIn K (.ref fI) = some (.type "function")
  no : PySem.W.findIn K (.ref C) f = some none
  gD : PySem.W.specialIn K (.ref D) "__getattribute__" = some (some (.builtin "type.__getattribute__"))
  rD : PySem.W.readsIn K D (.type "type") = true
  vD : PySem.W.findCls K (.ref D) (.type "type") "__init__" = some (.val (.builtin "ValueError.__init__"))
  xf : XfC K C
def isVal : Option PySem.W.CFound → String → Bool
  | some (.val (.builtin n)), m => decide (n = m)
  | _, _ => false
theorem isVal_ok {o : Option PySem.W.CFound} {m : String} (h : isVal o m = true) : o = some (.val (.builtin m)) := by
  unfold isVal at h
  split at h
  · rw [of_decide_eq_true h]
  · cases h
def initB (K : PySem.W.Frag) (C D fI : Addr) (f : Str) : Bool :=
  oexA K C && (He.eqO (PySem.W.findIn K (.ref C) "__setattr__") (some (some (.builtin "object.__setattr__"))) && (decide (PySem.W.subIn K (.ref C) (.type "BaseException") = some true) && (decide (PySem.W.typeIn K (.ref C) = some (.type "type")) && (PySem.W.keepIn K (.ref C) &&
  (He.eqO (PySem.W.findIn K (.ref C) "__init__") (some (some (.ref fI))) && (decide (PySem.W.typeIn K (.ref fI) = some (.type "function")) && (He.eqO (PySem.W.findIn K (.ref C) f) (some none) &&
  (He.eqO (PySem.W.specialIn K (.ref D) "__getattribute__") (some (some (.builtin "type.__getattribute__"))) && (PySem.W.readsIn K D (.type "type") && (isVal (PySem.W.findCls K (.ref D) (.type "type") "__init__") "ValueError.__init__" && xfB K C))))))))))
theorem initB_ok {K : PySem.W.Frag} {C D fI : Addr} {f : Str} (h : initB K C D fI f = true) : InitC K C D fI f := by
  obtain ⟨h1, h⟩ := He.ba h
  obtain ⟨h2, h⟩ := He.ba h
  obtain ⟨h3, h⟩ := He.ba h
  obtain ⟨h4, h⟩ := He.ba h
  obtain ⟨h5, h⟩ := He.ba h
  obtain ⟨h6, h⟩ := He.ba h
  obtain ⟨h7, h⟩ := He.ba h
  obtain ⟨h8, h⟩ := He.ba h
  obtain ⟨h9, h⟩ := He.ba h
  obtain ⟨h10, h⟩ := He.ba h
  obtain ⟨h11, h12⟩ := He.ba h
  exact ⟨⟨oexA_ok h1, He.eqO_ok h2, of_decide_eq_true h3, of_decide_eq_true h4, h5⟩, He.eqO_ok h6, of_decide_eq_true h7, He.eqO_ok h8, He.eqO_ok h9, h10, isVal_ok h11, xfB_ok h12⟩
section
variable {X : Cx} {e : Expr} {es : List Expr} {ta : TA} {p1 p2 pos : Pos} {x : Str} {D : Addr}
theorem pe_meinit {pl : Sem Bool} (hg : Gl X x) (hm : X.mg x = some (.ref D)) (gD : PySem.W.specialIn X.K (.ref D) "__getattribute__" = some (some (.builtin "type.__getattribute__"))) (rD : PySem.W.readsIn X.K D (.type "type") = true)
    (vD : PySem.W.findCls X.K (.ref D) (.type "type") "__init__" = some (.val (.builtin "ValueError.__init__"))) (ha : PA X (e :: es) ta) (hdb : (x == ("__debug__" : Str)) = false := by decide)
    (hc : eval (.Call (.Attribute (.Name x p1) "__init__" p2) (e :: es) [] pos) X.env = (do
      let ov ← eval (.Name x p1) X.env
      standAt p2.atName
      let (f, first) ← holding [ov] (getMethod ov "__init__" pl)
      callWith pos f first (backTo pos (starEach (e :: es) X.env)) (backToKw pos (keywordEach [] X.env))) := by rfl)
    (he : starEach (e :: es) X.env = (false, eval e X.env) :: starEach es X.env := by rfl) (hpl : (backTo pos (starEach es X.env)).any (·.1) = false := by rfl) :
    PE X (.Call (.Attribute (.Name x p1) "__init__" p2) (e :: es) [] pos) (tVeI X.K ta) := by
  refine ⟨fun pins s σ H Q I h => ?_⟩
  refine PySem.W.methodCall_KW (ld_glob I hg hm ?_ hdb) hc
  refine PySem.W.method_cls I.kIn gD (PySem.W.cls_value I.kIn rD vD (by decide +kernel) ?_)
  refine PyProof.Rows.callWith_method1 (thn (ha.run pos pins _ σ H _ (I.tok _) h) fun us s1 ⟨vs, H1, I1, r1, a, C, ws, ev, hl, T, ea, q⟩ => ?_) he hpl
  subst ev
  cases r1 with
  | @cons _ u0 _ ur ra rw' =>
    obtain rfl : u0 = Value.ref a := ra
    exact oinit_ok T I1 ea (by rw [← Paired.length rw', sizeLine_eq]; omega) fun s' J => ⟨.non, H1, J, rfl, q⟩
end
/-- the promise of such an __init__ -/
def spI (C : Addr) (f : Str) : L2.Sp := fun vs H Q _ => ∃ a y, vs = [.ref a, y] ∧ H a = some (exo a C none) ∧ ∀ dx, H dx = none → dx ≠ a → Q .non (upd (upd H dx (exd dx [(f, y)])) a (exo a C (some dx)))
theorem spI_len {C : Addr} {f : Str} : ∀ vs H Q E, spI C f vs H Q E → vs.length = ([("self" : Str), f] : List Str).length := fun _ _ _ _ ⟨_, _, e, _⟩ => by rw [e] <;> rfl
def rdI (K : PySem.W.Frag) (f m : Str) : TS := tSeq (tDrop (tVeI K (tCons (tVar 0) (tCons (tC (.str m)) tNil)))) (tOst K f (tVar 0) (tVar 1))
theorem initSem {K : PySem.W.Frag} {C D fI : Addr} {f m : Str} {vs : List V} {H : Hp} {Q : VK} {E : XK} (T : InitC K C D fI f) (h : spI C f vs H Q E) : rdI K f m { nx := fun _ H' => Q .non H', rt := Q } (L2.start ["self", f] vs) H := by
  obtain ⟨a, y, rfl, ha, hq⟩ := h
  refine ⟨.ref a, rfl, a, C, [.str m], rfl, by simp, T.oex, ha, ?_⟩
  exact ⟨y, rfl, .ref a, rfl, a, C, rfl, T.oex, T.no, .inl ⟨ha, hq⟩⟩
/-- the class at C has such an __init__, of level k -/
structure IniF (P : Program) (w : World) (K : PySem.W.Frag) (mg : Str → Option Value) (base : Heap) (k : Nat) (x : Str) (C : Addr) (f : Str) : Prop where
  mg_ : mg x = some (.ref C)
  ex : ∃ D fI fd, InitC K C D fI f ∧ FnOk P w K mg base (L2.CX P w) k fI fd ["self", f] (spI C f) ∧ Binds K fd ["self", f] []
theorem iniF_of {P : Program} {w : World} {K : PySem.W.Frag} {mg : Str → Option Value} {base : Heap} {C D fI : Addr} {f m y : Str} {fd : FuncData} {x qual : Str} {params : Arguments} {body : List Stmt} {scope : Scope}
    (hC : mg y = some (.ref C)) (F : FunD K x qual params body scope [] [] fI fd) (S : FnScope ["self", f] ["self", f] scope) (T : InitC K C D fI f) (hb : Binds K fd ["self", f] [])
    (der : ∀ (cdv : Value) (A : Around) (outer : List Env) (s : Shared) (H : Hp) (E : XK), PSs (cxOf (L2.CX P w) P w K mg base ["self", f] qual scope fI cdv A outer s H E) body (rdI K f m)) : IniF P w K mg base 2 y C f :=
  ⟨hC, D, fI, fd, T, F.ok S spI_len fun cdv A outer s H vs Q E hr hsp => ⟨_, der cdv A outer s H E, initSem T hsp⟩, hb⟩
/-- raise C(e) -/
def sRaiseI (C : Value) (f : Str) (te : TE2) : TS2 := fun D σ M => te σ M (fun d M1 => ∀ dx, M1 dx = none → D.ex C (some dx) σ (up M1 dx (.xd [(f, d)]))) (D.xx σ)
theorem del_up {H : Hp} {a dx : Addr} {o u v : HO} (ha : H a = none) (ne : dx ≠ a) : del (upd (upd (upd H a o) dx u) a v) a = upd H dx u := by
  funext b
  by_cases hb : b = a
  · subst hb
    rw [del_same, upd_ne ne.symm, ha]
  · rw [del_ne hb, upd_ne hb]
    by_cases hd : b = dx
    · subst hd
      rw [upd_same, upd_same]
    · rw [upd_ne hd, upd_ne hd, upd_ne hb]
theorem upd_upd' {H : Hp} {a : Addr} {o u : HO} : upd (upd H a o) a u = upd H a u := by
  funext b
  by_cases hb : b = a
  · subst hb
    rw [upd_same, upd_same]
  · rw [upd_ne hb, upd_ne hb, upd_ne hb]
section
variable {X : Cx} {W : L2.WX} {x f : Str} {C : Addr} {e : Expr} {te : TE2} {p pos pos2 : Pos} {k : Nat}
theorem qs_raiseI (hc : X.calm = true) (tk : Takes X W) (I : IniF X.prog X.w X.K X.mg X.base k x C f) (hr : Room (k + 1) X.A) (he : QE X W e te) (hg : Gl X x := by rfl) (hdb : (x == ("__debug__" : Str)) = false := by decide)
    (hs : starEach [e] X.env = (false, eval e X.env) :: starEach [] X.env := by rfl) :
    QS X W (.Raise (some (.Call (.Name x p) [e] [] pos)) none pos2) (sRaiseI (.ref C) f te) := by
  obtain ⟨hm, D, fI, fd, T, F, hb⟩ := I
  refine ps_weak (ps_raise hc tk (pmk_oex (CX := L2.CX X.prog X.w) T.oex T.iC T.tI F hr hb .nil (fun _ _ _ _ _ _ _ z => by
    obtain ⟨_, _, _, _, _, _, _, _, _, _, _, _, z⟩ := z
    exact z.elim) hg hm (show QA X W [e] (aCons te aNil) from qa_cons he qa_nil hs) hdb hs)) fun D σ H ⟨σ', M, D', hs, hm, h, L⟩ => ?_
  refine ⟨σ', M, fun ds M1 => (match ds with
    | [d] => ∀ dx, M1 dx = none → D'.ex (.ref C) (some dx) σ' (up M1 dx (.xd [(f, d)]))
    | _ => False), D'.xx σ', hs, hm, h, fun ds M1 vs H1 t1 r1 m1 q1 => ?_, L.x hs⟩
  match ds, q1 with
  | [d], q1 =>
    obtain ⟨v, rfl, r2⟩ := one_of r1
    refine ⟨by simp, fun a ha => ⟨a, v, rfl, upd_same, fun dx hdx ne => ⟨rfl, dx, [(f, v)], upd_same, by rw [upd_ne ne]; exact upd_same, by rw [upd_ne ne] at hdx; exact hdx, ?_⟩⟩⟩
    rw [upd_ne ne] at hdx
    have e : upd (del (upd (upd (upd H1 a (exo a C none)) dx (exd dx [(f, v)])) a (exo a C (some dx))) a) dx (.xd [(f, v)]) = upd H1 dx (.xd [(f, v)]) := by
      rw [del_up ha ne, upd_upd']
    rw [e]
    have T2 : Tx X.K H1 (upd H1 dx (.xd [(f, v)])) := Tx.new hdx
    exact L.ex _ _ σ' _ σ _ (t1.trans T2) (hs.mono (t1.trans T2)) (m1.put (m := .xd [(f, d)]) T2 ⟨_, upd_same, rfl, (RepL.one r2).mono T2⟩) (q1 dx (m1.free hdx))
/-- err.f -/
def XfS (C : Value) (f : Str) (d : Tr) (M : Ms) (Q : Q2) (_ : Fx Q) : Prop := ∃ a dx v, d = .loc a ∧ M a = some (.exc C (some dx)) ∧ M dx = some (.xd [(f, v)]) ∧ Q v M
def eXf (C : Value) (f : Str) (te : TE2) : TE2 := fun σ M Q E => te σ M (fun d M1 => XfS C f d M1 Q .mk) E
theorem qe_xf {D fI : Addr} {n : Str} (Tc : InitC X.K C D fI n) (he : QE X W e te) (hb : attributeBase e n X.env (eval e X.env) = eval e X.env := by rfl) : QE X W (.Attribute e n pos) (eXf (.ref C) n te) := by
  refine ⟨fun pins s σ H Q I ⟨σ', M, Q', E', hs, hm, q, hq, hx⟩ => ?_⟩
  refine attr_of hb (thn (he.run pins s σ H (fun x H1 => ∃ d M1, Tx X.K H H1 ∧ Rep X.K H1 d x ∧ SimM X.K H1 M1 ∧ XfS (.ref C) n d M1 Q' .mk) I ⟨σ', M, _, E', hs, hm, q, fun d M1 x H1 t1 r1 s1 q1 => ⟨d, M1, t1, r1, s1, q1⟩, hx⟩) fun u s1 hh => ?_)
  obtain ⟨x, H1, I1, rx, d, M1, t1, r1, sm1, a, dx, v, rfl, ea, ed, q1⟩ := hh
  cases r1
  cases (show u = Value.ref a from rx)
  have z : H1 a = some (exT (.ref C) (some dx) a) := sm1 a _ ea
  obtain ⟨⟨oe, vs, ho, hz, hd⟩, _, _⟩ := (show ObjOk X.prog X.w H1 s1.heap a (exT (.ref C) (some dx) a) from I1.hok a _ z)
  obtain ⟨xs, hxs, ke, rl⟩ := sm1 dx _ ed
  match xs, ke, rl with
  | [(g, y)], ke, rl =>
    obtain rfl : g = n := by simpa using ke
    have ry : Rep X.K H1 v y := by
      obtain ⟨y', _, e1, r2, _⟩ := rl
      cases e1
      exact r2
    have hX : ObjOk X.prog X.w H1 s1.heap dx (.xd [(g, y)]) := I1.hok dx _ hxs
    obtain ⟨mA, hns, hr⟩ := hX
    obtain ⟨od, hod, hl⟩ := lookIn_ns hns
    obtain ⟨u, hu, ru⟩ := RelO.some_of (v := y) (o := mA g) (by have := hr g; simpa [List.lookup] using this)
    have J : PySem.W.InstAt s1.heap a oe C (some od) := ⟨ho, hz.1, by unfold PySem.W.notCls; rw [hd] <;> rfl, by rw [hz.2]; exact hod⟩
    exact HandSPX.exc_get I1.kIn J Tc.xf.ga Tc.xf.gg Tc.xf.exC (PySem.W.findObj_own Tc.xf.hdC Tc.no rfl (by rw [hl, hu])) (handed_of ru) ⟨y, H1, I1.tok _, ru, hq v M1 y H1 t1 ry sm1 q1⟩
end
@[simp ↓] theorem sRaiseI_ap {C : Value} {f : Str} {te : TE2} {D : Ends2} {σ : St2} {M : Ms} : sRaiseI C f te D σ M = te σ M (fun d M1 => ∀ dx, M1 dx = none → D.ex C (some dx) σ (up M1 dx (.xd [(f, d)]))) (D.xx σ) := rfl
@[simp ↓] theorem eXf_ap {C : Value} {f : Str} {te : TE2} {σ : St2} {M : Ms} {Q : Q2} {E : X2} : eXf C f te σ M Q E = te σ M (fun d M1 => XfS C f d M1 Q .mk) E := rfl

/-! ### calls by names -/
structure KBt (K : PySem.W.Frag) (fd : FuncData) (ps : List Str) (n : Nat) (ks : List Str) (g : {α : Type} → List α → List α → List α) : Prop where
  to : ∀ (s : Shared) (us ws : List Value), K.In s.heap → us.length = n → ws.length = ks.length → BindsTo s fd ⟨us, ks.zip ws⟩ (ps.zip (g us ws))
  rel : ∀ {vs zs : List V} {us ws : List Value}, vs.length = n → zs.length = ks.length → Vals vs us → Vals zs ws → Vals (g vs zs) (g us ws)
  rep : ∀ {H : Hp} {ds es : List Tr} {vs zs : List V}, ds.length = n → es.length = ks.length → RepL K H ds vs → RepL K H es zs → RepL K H (g ds es) (g vs zs)
def eCallK (n m : Nat) (sp : Sp2) (g : List Tr → List Tr → List Tr) (t tk : TA2) : TE2 := fun σ M Q E => t σ M (fun ds M1 => tk σ M1 (fun es M2 => ds.length = n ∧ es.length = m ∧ sp (g ds es) M2 Q E) E) E
section
variable {X : Cx} {W : L2.WX} {k n : Nat} {f : Addr} {fd : FuncData} {ps ks : List Str} {sp : Sp2} {x : Str} {p pos : Pos} {e : Expr} {es : List Expr} {kws : List Keyword} {t tk : TA2} {g : {α : Type} → List α → List α → List α}
theorem run_fnK {pins : List (Addr × Obj)} {σ : L2.St} {H0 H : Hp} {s : Shared} {Q : VK} {us ws : List Value} {vs zs : List V} {ds es : List Tr} {M : Ms} {Q' : Q2} {E' : X2} (F : FnT X.prog X.w X.K X.mg X.base k f fd ps sp) (hr : Room k X.A) (hgd : X.A.guards = some []) (hb : KBt X.K fd ps n ks g)
    (hl : Lets X W) (I : L2.Inv X pins σ H s) (r : Vals vs us) (rz : Vals zs ws) (rt : RepL X.K H ds vs) (re : RepL X.K H es zs) (l1 : ds.length = n) (l2 : es.length = ks.length) (sm : SimM X.K H M) (t0 : Tx X.K H0 H) (h : sp (g ds es) M Q' E') (hq : LkQ X.K H0 Q' Q) (hx : LkX X.K H0 E' W σ) :
    wpAny (model X.prog X.w) X.A (call (.ref f) us (ks.zip ws)) (EP X pins σ Q) X.xe s := by
  have lv : vs.length = n := by rw [← rt.len]; exact l1
  have lz : zs.length = ks.length := by rw [← re.len]; exact l2
  have r2 := hb.rel lv lz r rz
  have rt2 := hb.rep l1 l2 rt re
  refine wpAny_call (codeAny_mono (F.run X.A X.stack s H ⟨us, ks.zip ws⟩ (g us ws) (g vs zs) (g ds es) M Q' E' hr hgd I.env0 (hb.to s us ws I.kIn (r.length.symm.trans lv) (rz.length.symm.trans lz)) r2 rt2 sm h) fun r s' hq' => ?_)
  cases r with
  | error e => exact hl σ pins H s e s' I (cx_imp (fun c d H' ⟨M', tx, sm', q⟩ => hx c d M' H' (t0.trans tx) sm' q) hq')
  | ok fl =>
    cases fl with
    | ret u =>
      obtain ⟨v, H', os, bare, un, hok, rv, d, M', rd, sm', q⟩ := hq'
      exact I.after ⟨v, H', os, bare, un, hok, rv, hq d M' v H' (t0.trans (Tx.un un)) rd sm' q⟩
    | next => exact False.elim hq'
    | brk => exact False.elim hq'
    | cont => exact False.elim hq'
/-- f(e, .., k = v, ..) -/
theorem qe_callK (F : FnT X.prog X.w X.K X.mg X.base k f fd ps sp) (hr : Room k X.A) (hgd : X.A.guards = some []) (hm : X.mg x = some (.ref f)) (hk : PySem.W.keepIn X.K (.ref f) = true) (hb : KBt X.K fd ps n ks g) (hl : Lets X W)
    (ha : QA X W (e :: es) t) (hkw : QK X W kws tk) (hg : Gl X x := by rfl) (hall : (backToKw pos (keywordEach kws X.env)).all (·.1.isSome) = true := by rfl) (hks : (backToKw pos (keywordEach kws X.env)).filterMap (·.1) = ks := by rfl)
    (hdb : (x == ("__debug__" : Str)) = false := by decide) (he : starEach (e :: es) X.env = (false, eval e X.env) :: starEach es X.env := by rfl)
    (hpl : ((backTo pos (starEach (e :: es) X.env)).any (·.1) || (backToKw pos (keywordEach kws X.env)).any (·.1.isNone)) = false := by rfl) :
    QE X W (.Call (.Name x p) (e :: es) kws pos) (eCallK n ks.length sp g t tk) := by
  refine ⟨fun pins s σ H Q I ⟨σ', M, Q', E', hs, hm', q, hq, hx⟩ => ?_⟩
  refine wpAny_Call_Name_kw (ld_glob I hg hm ?_ hdb)
  refine PySem.W.callWith_KW (h₀ := X.base) I.ok.mod.kin hk hall (thn (ha.run pos pins s σ H (fun vs H1 => ∃ ds M1, Tx X.K H H1 ∧ RepL X.K H1 ds vs ∧ SimM X.K H1 M1 ∧ tk σ' M1 (fun es M2 => ds.length = n ∧ es.length = ks.length ∧ sp (g ds es) M2 Q' E') E') I
    ⟨σ', M, _, E', hs, hm', q, fun ds M1 vs H1 t1 r1 s1 q1 => ⟨ds, M1, t1, r1, s1, q1⟩, hx⟩) fun us s1 ⟨vs, H1, I1, r, ds, M1, t1, r1, sm1, q1⟩ => ?_) hpl he
  refine thn (hkw.run pos pins s1 σ H1 (fun zs H2 => ∃ es M2, Tx X.K H1 H2 ∧ RepL X.K H2 es zs ∧ SimM X.K H2 M2 ∧ ds.length = n ∧ es.length = ks.length ∧ sp (g ds es) M2 Q' E') I1
    ⟨σ', M1, _, E', hs.mono t1, sm1, q1, fun es M2 zs H2 t2 r2 s2 q2 => ⟨es, M2, t2, r2, s2, q2⟩, hx.mono t1⟩) fun ws s2 ⟨zs, H2, I2, rz, es, M2, t2, re, sm2, l1, l2, q2⟩ => ⟨I2.kIn, ?_⟩
  rw [hks]
  exact run_fnK F hr hgd hb hl I2 r rz (r1.mono t2) re l1 l2 sm2 (t1.trans t2) q2 hq hx
theorem qe_callK0 (F : FnT X.prog X.w X.K X.mg X.base k f fd ps sp) (hr : Room k X.A) (hgd : X.A.guards = some []) (hm : X.mg x = some (.ref f)) (hk : PySem.W.keepIn X.K (.ref f) = true) (hb : KBt X.K fd ps 0 ks g) (hl : Lets X W)
    (hkw : QK X W kws tk) (hg : Gl X x := by rfl) (hall : (backToKw pos (keywordEach kws X.env)).all (·.1.isSome) = true := by rfl) (hks : (backToKw pos (keywordEach kws X.env)).filterMap (·.1) = ks := by rfl)
    (hdb : (x == ("__debug__" : Str)) = false := by decide) (hpl : ((backTo pos (starEach [] X.env)).any (·.1) || (backToKw pos (keywordEach kws X.env)).any (·.1.isNone)) = false := by rfl) :
    QE X W (.Call (.Name x p) [] kws pos) (eCallK 0 ks.length sp g aNil tk) := by
  refine ⟨fun pins s σ H Q I ⟨σ', M, Q', E', hs, hm', q, hq, hx⟩ => ?_⟩
  refine wpAny_Call_Name_kw (ld_glob I hg hm ?_ hdb)
  refine PySem.W.callWith_KW0 (h₀ := X.base) I.ok.mod.kin hk hall ?_ hpl
  refine thn (hkw.run pos pins s σ H (fun zs H2 => ∃ es M2, Tx X.K H H2 ∧ RepL X.K H2 es zs ∧ SimM X.K H2 M2 ∧ ([] : List Tr).length = 0 ∧ es.length = ks.length ∧ sp (g [] es) M2 Q' E') I
    ⟨σ', M, _, E', hs, hm', q, fun es M2 zs H2 t2 r2 s2 q2 => ⟨es, M2, t2, r2, s2, q2⟩, hx⟩) fun ws s2 ⟨zs, H2, I2, rz, es, M2, t2, re, sm2, l1, l2, q2⟩ => ⟨I2.kIn, ?_⟩
  rw [hks]
  exact run_fnK (us := []) (vs := []) (ds := []) F hr hgd hb hl I2 .nil rz RepL.nil re l1 l2 sm2 t2 q2 hq hx
end
/-- a def without defaults, called by names -/
theorem kbt_of {K : PySem.W.Frag} {x qual : Str} {params : Arguments} {body : List Stmt} {scope : Scope} {f : Addr} {fd : FuncData} {ps ks : List Str} {n : Nat} {g : {α : Type} → List α → List α → List α} (F : FunD K x qual params body scope [] [] f fd)
    (h : ∀ (kV doc pm : Value) (an : Option Addr) (cdv ct : Value) (us ws : List Value), us.length = n → ws.length = ks.length → bindArgs (PySem.W.fnOf x qual params body scope .none kV doc pm an cdv ct) ⟨us, ks.zip ws⟩ = pure (ps.zip (g us ws)))
    (rel : ∀ {vs zs : List V} {us ws : List Value}, vs.length = n → zs.length = ks.length → Vals vs us → Vals zs ws → Vals (g vs zs) (g us ws))
    (rep : ∀ {H : Hp} {ds es : List Tr} {vs zs : List V}, ds.length = n → es.length = ks.length → RepL K H ds vs → RepL K H es zs → RepL K H (g ds es) (g vs zs)) : KBt K fd ps n ks g := by
  obtain ⟨oc, od, dV, kV, doc, pm, an, cdv, ct, osl, rfl, lk, hcd, hD, hK⟩ := F.ex
  rcases hD with ⟨_, rfl⟩ | ⟨e, _⟩
  · exact ⟨fun s us ws _ l1 l2 => .of_eq (h kV doc pm an cdv ct us ws l1 l2), rel, rep⟩
  · exact absurd rfl e
/-- the values by names, in the sequence is -/
def gK (is : List Nat) {α : Type} (us ws : List α) : List α := us ++ is.filterMap fun i => ws[i]?
theorem Vals.back {xs : List V} {us : List Value} (h : Vals xs us) : ∀ i : Nat, (xs[i]? = none ∧ us[i]? = none) ∨ ∃ x u, xs[i]? = some x ∧ us[i]? = some u ∧ RelV x u := by
  induction h with
  | nil => intro i; exact .inl ⟨rfl, rfl⟩
  | cons r _ ih =>
    intro i
    cases i with
    | zero => exact .inr ⟨_, _, rfl, rfl, r⟩
    | succ i => simpa using ih i
theorem gK_vals {zs : List V} {ws : List Value} (r : Vals zs ws) : ∀ is : List Nat, Vals (is.filterMap fun i => zs[i]?) (is.filterMap fun i => ws[i]?)
  | [] => .nil
  | i :: is => by
    rcases Vals.back r i with ⟨e1, e2⟩ | ⟨x, u, e1, e2, q⟩
    · rw [List.filterMap_cons_none e1, List.filterMap_cons_none e2]
      exact gK_vals r is
    · rw [List.filterMap_cons_some e1, List.filterMap_cons_some e2]
      exact .cons q (gK_vals r is)
theorem gK_rep {K : PySem.W.Frag} {H : Hp} {es : List Tr} {zs : List V} (r : RepL K H es zs) : ∀ is : List Nat, RepL K H (is.filterMap fun i => es[i]?) (is.filterMap fun i => zs[i]?)
  | [] => RepL.nil
  | i :: is => by
    cases e1 : es[i]? with
    | none =>
      have e2 : zs[i]? = none := by
        rw [List.getElem?_eq_none_iff] at e1 ⊢
        rw [← r.len]; exact e1
      rw [List.filterMap_cons_none e1, List.filterMap_cons_none e2]
      exact gK_rep r is
    | some d =>
      obtain ⟨x, e2, q⟩ := r.get e1
      rw [List.filterMap_cons_some e1, List.filterMap_cons_some e2]
      exact .cons q (gK_rep r is)
theorem kbt_gK {K : PySem.W.Frag} {x qual : Str} {params : Arguments} {body : List Stmt} {scope : Scope} {f : Addr} {fd : FuncData} {ps ks : List Str} {n : Nat} (is : List Nat) (F : FunD K x qual params body scope [] [] f fd)
    (h : ∀ (kV doc pm : Value) (an : Option Addr) (cdv ct : Value) (us ws : List Value), us.length = n → ws.length = ks.length → bindArgs (PySem.W.fnOf x qual params body scope .none kV doc pm an cdv ct) ⟨us, ks.zip ws⟩ = pure (ps.zip (gK is us ws))) : KBt K fd ps n ks (gK is) :=
  kbt_of F h (fun _ _ r rz => r.append (gK_vals rz is)) fun _ _ r rz => r.app (gK_rep rz is)
@[simp ↓] theorem eCallK_ap {n m : Nat} {sp : Sp2} {g : List Tr → List Tr → List Tr} {t tk : TA2} {σ : St2} {M : Ms} {Q : Q2} {E : X2} : eCallK n m sp g t tk σ M Q E = t σ M (fun ds M1 => tk σ M1 (fun es M2 => ds.length = n ∧ es.length = m ∧ CallS sp (g ds es) M2 Q E .mk) E) E := rfl

theorem okF_fn {P : Program} {w : World} {K : PySem.W.Frag} {mg : Str → Option Value} {base : Heap} {k : Nat} {f : Addr} {fd : FuncData} {x qual : Str} {params : Arguments} {body : List Stmt} {scope : Scope} {ps : List Str} {sp : Sp2}
    (F : FunD K x qual params body scope [] [] f fd) (T : FnT P w K mg base k f fd ps sp) (hm : mg x = some (.ref f)) (hb : Binds K fd ps []) : OkF P w K mg base k x ps [] sp :=
  ⟨f, fd, [], [], T, hm, F.kp, hb, .nil, fun _ => RepL.nil⟩
theorem bt_ValueError : bootBuiltins "ValueError" = some (.type "ValueError") := by decide +kernel
/-- a class's body -/
def clsB (s : Stmt) : List Stmt := match s with
  | .ClassDef (body := b) .. => b
  | _ => []
/-! ### a head with more facts -/
inductive Fb where
  | isx (t c : He.Dv) (b : Bool)
  | ini (x y f : Str)
  | mk0 (x : Str)
def cvD (K : PySem.W.Frag) : He.Dv → Value
  | .ty n => .type n
  | .glo x => .ref (He.ga K x)
  | _ => .none
def Fb.ok (K : PySem.W.Frag) : Fb → Bool
  | .isx t c b => decide (isxK K (cvD K t) (cvD K c) = some b)
  | .ini x y f => initB K (He.ga K x) (He.ga K y) (He.ma K (He.ga K x) "__init__") f
  | .mk0 x => PySem.W.makesIn K (He.ga K x) && (He.eqO (PySem.W.findIn K (.ref (He.ga K x)) "__init__") (some (some (.builtin "object.__init__"))) && PySem.W.keepIn K (.ref (He.ga K x)))
abbrev AlM : Type := He.AlD × Bool
def frM (n : Nat) (g : Addr → Option Obj) : PySem.W.Frag := He.frG g (cStatics :: He.asD g n)
def obsM (n : Nat) (fa : List He.Fa) (fn : List He.DefD) (fb : List Fb) (g : Addr → Option Obj) : AlM := (He.obsD fa fn (frM n g), fb.all fun f => f.ok (frM n g))
structure SaysM (fa : List He.Fa) (fn : List He.DefD) (fb : List Fb) (K : PySem.W.Frag) : Prop where
  d : He.SaysD fa fn K
  b : (fb.all fun f => f.ok K) = true
def hookM (n : Nat) (fa : List He.Fa) (fn : List He.DefD) (fb : List Fb) : PySem.W.Hook where
  α := AlM
  obs := fun s => obsM n fa fn fb s.heap.get?
  val := fun _ => (He.valD fn, true)
  says := fun _ h => ∃ K : PySem.W.Frag, K.In h ∧ SaysM fa fn fb K
  of := fun _ _ e => ⟨_, He.frG_in, congrArg (fun z : AlM => z.1) e, congrArg (fun z : AlM => z.2) e⟩
  keeps := fun _ _ _ ⟨K, hK, c⟩ k => ⟨K, PySem.W.Frag.In.keeps hK k, c⟩
theorem obsM_eq {n : Nat} {fa : List He.Fa} {fn : List He.DefD} {fb : List Fb} {g : Addr → Option Obj} {s : Shared} (h : ∀ a, g a = s.heap.get? a) : obsM n fa fn fb g = (hookM n fa fn fb).obs s := by
  have e : g = s.heap.get? := funext h
  rw [e] <;> rfl
theorem SaysM.fb {fa : List He.Fa} {fn : List He.DefD} {fb : List Fb} {K : PySem.W.Frag} (c : SaysM fa fn fb K) (i : Nat) {f : Fb} (h : fb[i]? = some f := by rfl) : f.ok K = true := List.all_eq_true.mp c.b f (List.mem_of_getElem? h)
theorem isx_ok {K : PySem.W.Frag} {t c : He.Dv} {b : Bool} (h : (Fb.isx t c b).ok K = true) : isxK K (cvD K t) (cvD K c) = some b := of_decide_eq_true h
end T

/-! T: the head's run in parts: what it looks at is asked by several theorems, each a run of its own (the kernel's memory). -/
namespace T
open PySem PySem.Spec PyProof.Rows L2
noncomputable def runO (r : PySem.W.OpenRow) (M : Nat) (w : World) (os : OsState) : Option PySem.W.SharedT := HandSHeadRun.endF (HandSHeadRun.stepQ (HandSHeadRun.denQ HandSHeadRun.tabQ) r.prog w) M r.prog w os
def RunM (r : PySem.W.OpenRow) (n M : Nat) (w : World) (fa : List He.Fa) (fn : List He.DefD) (fb : List Fb) : Prop := ∀ os : OsState, (runO r M w os).map (fun s => obsM n fa fn fb (HandSHeadRun.getT s)) = some (He.valD fn, true)
theorem RunM.append {r : PySem.W.OpenRow} {n M : Nat} {w : World} {fa fa' : List He.Fa} {fn fn' : List He.DefD} {fb fb' : List Fb} (a : RunM r n M w fa fn fb) (b : RunM r n M w fa' fn' fb') : RunM r n M w (fa ++ fa') (fn ++ fn') (fb ++ fb') := by
  intro os
  have a := a os
  have b := b os
  cases h : runO r M w os with
  | none => rw [h] at a; cases a
  | some s =>
    rw [h] at a b
    simp only [Option.map_some, Option.some.injEq, obsM, He.obsD, He.valD, Prod.mk.injEq, Bool.and_eq_true] at a b ⊢
    obtain ⟨⟨⟨a1, a2⟩, a3⟩, a4⟩ := a
    obtain ⟨⟨⟨b1, b2⟩, b3⟩, b4⟩ := b
    refine ⟨⟨⟨?_, ?_⟩, ?_⟩, ?_⟩
    · rw [List.all_append, a1, b1]; rfl
    · rw [List.all_append, a2, b2]; rfl
    · rw [List.map_append, List.map_append, a3, b3]
    · rw [List.all_append, a4, b4]; rfl
theorem run_join {r : PySem.W.OpenRow} {q : Program} {n M : Nat} {loose : List Str} {w : World} {fa : List He.Fa} {fn : List He.DefD} {fb : List Fb}
    (a : HandSHeadRun.RunEq r q (hookM n [] [] []) (fun s => obsM n [] [] [] (HandSHeadRun.getT s)) M loose w) (b : RunM r n M w fa fn fb) :
    HandSHeadRun.RunEq r q (hookM n fa fn fb) (fun s => obsM n fa fn fb (HandSHeadRun.getT s)) M loose w := by
  intro os
  have a := a os
  have b := b os
  unfold runO at b
  generalize HandSHeadRun.endF (HandSHeadRun.stepQ (HandSHeadRun.denQ HandSHeadRun.tabQ) r.prog w) M r.prog w os = o at a b ⊢
  cases o with
  | none => cases a
  | some s =>
    have e := Option.some.inj a
    have f := Option.some.inj b
    have a1 := congrArg (fun z => z.1) e
    have a2 := congrArg (fun z => z.2.1) e
    exact congrArg some (Prod.ext a1 (Prod.ext a2 f))
end T

namespace G
open PySem PySem.Spec PyProof.Rows L2 T
def top (i : Nat) : Stmt := PySem.Challenge.pw_lawfulpages_k62_joined_shapes_and_rows_o.main.body.getD i (.Pass ⟨0, 0, 0, 0⟩)
def d_is_integer : He.DefD := ⟨("is_integer", none), "is_integer", "is_integer", defArgs (top 7), defBody (top 7), defScope (top 7), [], []⟩
def d_need_count : He.DefD := ⟨("need_count", none), "need_count", "need_count", defArgs (top 8), defBody (top 8), defScope (top 8), [.non], []⟩
def st_Stem___init__ : Stmt := (clsB (top 11)).getD 0 (.Pass ⟨0, 0, 0, 0⟩)
def d_Stem___init__ : He.DefD := ⟨("Stem", some "__init__"), "__init__", "Stem.__init__", defArgs st_Stem___init__, defBody st_Stem___init__, defScope st_Stem___init__, [], []⟩
def st_Builder_pair : Stmt := (clsB (top 12)).getD 0 (.Pass ⟨0, 0, 0, 0⟩)
def d_Builder_pair : He.DefD := ⟨("Builder", some "pair"), "pair", "Builder.pair", defArgs st_Builder_pair, defBody st_Builder_pair, defScope st_Builder_pair, [], []⟩
def st_Builder_sides : Stmt := (clsB (top 12)).getD 1 (.Pass ⟨0, 0, 0, 0⟩)
def d_Builder_sides : He.DefD := ⟨("Builder", some "sides"), "sides", "Builder.sides", defArgs st_Builder_sides, defBody st_Builder_sides, defScope st_Builder_sides, [], []⟩
def d_tallest_of : He.DefD := ⟨("tallest_of", none), "tallest_of", "tallest_of", defArgs (top 13), defBody (top 13), defScope (top 13), [], []⟩
def d_width_in : He.DefD := ⟨("width_in", none), "width_in", "width_in", defArgs (top 14), defBody (top 14), defScope (top 14), [], []⟩
def d_height_in : He.DefD := ⟨("height_in", none), "height_in", "height_in", defArgs (top 15), defBody (top 15), defScope (top 15), [], []⟩
def d_balanced_height : He.DefD := ⟨("balanced_height", none), "balanced_height", "balanced_height", defArgs (top 16), defBody (top 16), defScope (top 16), [], []⟩
def d_stem_of : He.DefD := ⟨("stem_of", none), "stem_of", "stem_of", defArgs (top 17), defBody (top 17), defScope (top 17), [], []⟩
def d_shape_of : He.DefD := ⟨("shape_of", none), "shape_of", "shape_of", defArgs (top 18), defBody (top 18), defScope (top 18), [], []⟩
def d_even_pair : He.DefD := ⟨("even_pair", none), "even_pair", "even_pair", defArgs (top 19), defBody (top 19), defScope (top 19), [], []⟩
def d_row_joined : He.DefD := ⟨("row_joined", none), "row_joined", "row_joined", defArgs (top 20), defBody (top 20), defScope (top 20), [], []⟩
def d_row_cut : He.DefD := ⟨("row_cut", none), "row_cut", "row_cut", defArgs (top 21), defBody (top 21), defScope (top 21), [], []⟩
def d_row_with : He.DefD := ⟨("row_with", none), "row_with", "row_with", defArgs (top 22), defBody (top 22), defScope (top 22), [], []⟩
def d_row_without : He.DefD := ⟨("row_without", none), "row_without", "row_without", defArgs (top 23), defBody (top 23), defScope (top 23), [], []⟩
def d_need_shape : He.DefD := ⟨("need_shape", none), "need_shape", "need_shape", defArgs (top 25), defBody (top 25), defScope (top 25), [], []⟩
def d_need_balanced : He.DefD := ⟨("need_balanced", none), "need_balanced", "need_balanced", defArgs (top 26), defBody (top 26), defScope (top 26), [], []⟩
def d_is_shape : He.DefD := ⟨("is_shape", none), "is_shape", "is_shape", defArgs (top 27), defBody (top 27), defScope (top 27), [], []⟩
def d_is_balanced : He.DefD := ⟨("is_balanced", none), "is_balanced", "is_balanced", defArgs (top 28), defBody (top 28), defScope (top 28), [], []⟩
def d_width_of : He.DefD := ⟨("width_of", none), "width_of", "width_of", defArgs (top 29), defBody (top 29), defScope (top 29), [], []⟩
def d_height_of : He.DefD := ⟨("height_of", none), "height_of", "height_of", defArgs (top 30), defBody (top 30), defScope (top 30), [], []⟩
def d_tallest : He.DefD := ⟨("tallest", none), "tallest", "tallest", defArgs (top 31), defBody (top 31), defScope (top 31), [], []⟩
def d_joined_shapes : He.DefD := ⟨("joined_shapes", none), "joined_shapes", "joined_shapes", defArgs (top 32), defBody (top 32), defScope (top 32), [], []⟩
def d_cut_shape : He.DefD := ⟨("cut_shape", none), "cut_shape", "cut_shape", defArgs (top 33), defBody (top 33), defScope (top 33), [], []⟩
def d_put_shape : He.DefD := ⟨("put_shape", none), "put_shape", "put_shape", defArgs (top 34), defBody (top 34), defScope (top 34), [], []⟩
def d_taken_shape : He.DefD := ⟨("taken_shape", none), "taken_shape", "taken_shape", defArgs (top 35), defBody (top 35), defScope (top 35), [], []⟩
def d__law_feed : He.DefD := ⟨("_law_feed", none), "_law_feed", "_law_feed", defArgs (top 37), defBody (top 37), defScope (top 37), [], []⟩
def d__law_draw : He.DefD := ⟨("_law_draw", none), "_law_draw", "_law_draw", defArgs (top 38), defBody (top 38), defScope (top 38), [], []⟩
def d__law_one : He.DefD := ⟨("_law_one", none), "_law_one", "_law_one", defArgs (top 39), defBody (top 39), defScope (top 39), [], []⟩
def d__law_least : He.DefD := ⟨("_law_least", none), "_law_least", "_law_least", defArgs (top 40), defBody (top 40), defScope (top 40), [], []⟩
def d__law_tallest : He.DefD := ⟨("_law_tallest", none), "_law_tallest", "_law_tallest", defArgs (top 41), defBody (top 41), defScope (top 41), [], []⟩
def d__law_balanced : He.DefD := ⟨("_law_balanced", none), "_law_balanced", "_law_balanced", defArgs (top 42), defBody (top 42), defScope (top 42), [], []⟩
def d__law_any_balanced : He.DefD := ⟨("_law_any_balanced", none), "_law_any_balanced", "_law_any_balanced", defArgs (top 43), defBody (top 43), defScope (top 43), [], []⟩
def d__law_grown : He.DefD := ⟨("_law_grown", none), "_law_grown", "_law_grown", defArgs (top 44), defBody (top 44), defScope (top 44), [], []⟩
def d__law_shape : He.DefD := ⟨("_law_shape", none), "_law_shape", "_law_shape", defArgs (top 45), defBody (top 45), defScope (top 45), [], []⟩
def d__law_trouble : He.DefD := ⟨("_law_trouble", none), "_law_trouble", "_law_trouble", defArgs (top 46), defBody (top 46), defScope (top 46), [], []⟩
def d__law_sizes : He.DefD := ⟨("_law_sizes", none), "_law_sizes", "_law_sizes", defArgs (top 47), defBody (top 47), defScope (top 47), [], []⟩
def d__law_is_shape : He.DefD := ⟨("_law_is_shape", none), "_law_is_shape", "_law_is_shape", defArgs (top 48), defBody (top 48), defScope (top 48), [], []⟩
def d__law_even : He.DefD := ⟨("_law_even", none), "_law_even", "_law_even", defArgs (top 49), defBody (top 49), defScope (top 49), [], []⟩
def d__law_joined : He.DefD := ⟨("_law_joined", none), "_law_joined", "_law_joined", defArgs (top 50), defBody (top 50), defScope (top 50), [], []⟩
def d__law_right : He.DefD := ⟨("_law_right", none), "_law_right", "_law_right", defArgs (top 51), defBody (top 51), defScope (top 51), [], []⟩
def d__law_asked_one : He.DefD := ⟨("_law_asked_one", none), "_law_asked_one", "_law_asked_one", defArgs (top 52), defBody (top 52), defScope (top 52), [], []⟩
def d__law_held : He.DefD := ⟨("_law_held", none), "_law_held", "_law_held", defArgs (top 53), defBody (top 53), defScope (top 53), [], []⟩
def d__law_deed : He.DefD := ⟨("_law_deed", none), "_law_deed", "_law_deed", defArgs (top 54), defBody (top 54), defScope (top 54), [], []⟩
def d__law_all_joined : He.DefD := ⟨("_law_all_joined", none), "_law_all_joined", "_law_all_joined", defArgs (top 55), defBody (top 55), defScope (top 55), [], []⟩
def d__law_asked_two : He.DefD := ⟨("_law_asked_two", none), "_law_asked_two", "_law_asked_two", defArgs (top 56), defBody (top 56), defScope (top 56), [], []⟩
def d_law : He.DefD := ⟨("law", none), "law", "law", defArgs (top 57), defBody (top 57), defScope (top 57), [], []⟩
def fn : List He.DefD := d_is_integer :: d_need_count :: d_Stem___init__ :: d_Builder_pair :: d_Builder_sides :: d_tallest_of :: d_width_in :: d_height_in :: d_balanced_height :: d_stem_of :: d_shape_of :: d_even_pair :: d_row_joined :: d_row_cut :: d_row_with :: d_row_without :: d_need_shape :: d_need_balanced :: d_is_shape :: d_is_balanced :: d_width_of :: d_height_of :: d_tallest :: d_joined_shapes :: d_cut_shape :: d_put_shape :: d_taken_shape :: d__law_feed :: d__law_draw :: d__law_one :: d__law_least :: d__law_tallest :: d__law_balanced :: d__law_any_balanced :: d__law_grown :: d__law_shape :: d__law_trouble :: d__law_sizes :: d__law_is_shape :: d__law_even :: d__law_joined :: d__law_right :: d__law_asked_one :: d__law_held :: d__law_deed :: d__law_all_joined :: d__law_asked_two :: d_law :: []
def fa : List He.Fa := .glo "is_integer" :: .glo "need_count" :: .glo "tallest_of" :: .glo "width_in" :: .glo "height_in" :: .glo "balanced_height" :: .glo "stem_of" :: .glo "shape_of" :: .glo "even_pair" :: .glo "row_joined" :: .glo "row_cut" :: .glo "row_with" :: .glo "row_without" :: .glo "need_shape" :: .glo "need_balanced" :: .glo "is_shape" :: .glo "is_balanced" :: .glo "width_of" :: .glo "height_of" :: .glo "tallest" :: .glo "joined_shapes" :: .glo "cut_shape" :: .glo "put_shape" :: .glo "taken_shape" :: .glo "_law_feed" :: .glo "_law_draw" :: .glo "_law_one" :: .glo "_law_least" :: .glo "_law_tallest" :: .glo "_law_balanced" :: .glo "_law_any_balanced" :: .glo "_law_grown" :: .glo "_law_shape" :: .glo "_law_trouble" :: .glo "_law_sizes" :: .glo "_law_is_shape" :: .glo "_law_even" :: .glo "_law_joined" :: .glo "_law_right" :: .glo "_law_asked_one" :: .glo "_law_held" :: .glo "_law_deed" :: .glo "_law_all_joined" :: .glo "_law_asked_two" :: .glo "law" :: .free "abs" :: .free "bool" :: .free "int" :: .free "isinstance" :: .free "len" :: .free "list" :: .free "max" :: .free "min" :: .free "range" :: .free "sum" :: .free "tuple" :: .free "zip" :: .glo "BadShape" :: .exc "BadShape" :: .glo "BadCount" :: .exc "BadCount" :: .glo "BadBalance" :: .exc "BadBalance" :: .glo "Builder" :: .exm "BadShape" "BadShape" true :: .exm "BadBalance" "BadShape" false :: .exm "BadBalance" "BadBalance" true :: .glo "Stem" :: .cls "Stem" :: .mkr "Stem" :: .noat "Stem" "left" :: .noat "Stem" "right" :: .noat "Stem" "width" :: .noat "Stem" "height" :: .cls "Builder" :: .meth "Builder" "pair" :: .meth "Builder" "sides" :: .int "MOST_NODES" 20000 :: .int "MOST_HEIGHT" 40 :: []
def fb : List Fb := .mk0 "Builder" :: []
def loose : List Str := "MatchError" :: "BadShape" :: "BadCount" :: "BadBalance" :: "MOST_NODES" :: "is_integer" :: "need_count" :: "MOST_HEIGHT" :: "Stem" :: "Builder" :: "tallest_of" :: "width_in" :: "height_in" :: "balanced_height" :: "stem_of" :: "shape_of" :: "even_pair" :: "row_joined" :: "row_cut" :: "row_with" :: "row_without" :: "need_shape" :: "need_balanced" :: "is_shape" :: "is_balanced" :: "width_of" :: "height_of" :: "tallest" :: "joined_shapes" :: "cut_shape" :: "put_shape" :: "taken_shape" :: "_law_feed" :: "_law_draw" :: "_law_one" :: "_law_least" :: "_law_tallest" :: "_law_balanced" :: "_law_any_balanced" :: "_law_grown" :: "_law_shape" :: "_law_trouble" :: "_law_sizes" :: "_law_is_shape" :: "_law_even" :: "_law_joined" :: "_law_right" :: "_law_asked_one" :: "_law_held" :: "_law_deed" :: "_law_all_joined" :: "_law_asked_two" :: []
abbrev R : PySem.W.OpenRow := PySem.W.OpenLaw.row PySem.Challenge.rw_lawfulpages_k62_joined_shapes_and_rows_o
abbrev hk : PySem.W.Hook := hookM 4 fa fn fb
def ob (s : PySem.W.SharedT) : AlM := obsM 4 fa fn fb (HandSHeadRun.getT s)
theorem ob_eq (s : PySem.W.SharedT) : ob s = hk.obs s.abs := obsM_eq (HandSHeadRun.getT_eq s)
theorem run (w : World) : HandSHeadRun.RunEq R (PySem.W.view R.prog [57]) hk ob 4800 loose w := by
  intro os
  kernel_rfl
end G

/-! T: xs[::-1] of lists. -/
namespace T
open PySem PySem.Spec PyProof.Rows L2
variable {X : Cx} {W : L2.WX} {e : Expr} {ta : TE2}
def rRvS : Tr → Ms → Q2 → Prop := fun d M Q => match d with
  | .loc a => ∃ ds, seqT (.loc a) M = some ds ∧ ∀ p, M p = none → Q (.loc p) (up M p (.lst ds.reverse))
  | _ => False
def eRvS (ta : TE2) : TE2 := fun σ M Q E => ta σ M (fun d M1 => rRvS d M1 Q) E
theorem qe_revS {k : Nat} {p1 p2 p3 pos : Pos} (he : QE X W e ta) : QE X W (.Subscript e (.Slice none none (some (.UnaryOp .USub (.Constant (.int 1) k p1) p2)) p3) pos) (eRvS ta) :=
  pe_weak (pe_revL he) fun σ H Q ⟨σ', M, Q', E', hs, hm, q, hq, hx⟩ => ⟨σ', M, _, E', hs, hm, q, fun d M1 x H1 t1 r1 s1 q1 => by
    cases d with
    | loc a =>
      obtain ⟨ds, e1, q⟩ := q1
      cases r1
      obtain ⟨xs, q2, rl⟩ := s1 a _ (seqT_loc e1)
      exact ⟨a, xs, rfl, SqL.of q2, fun p hp => new_lst (hq.mono t1) rl.rev s1 hp q⟩
    | _ => exact q1.elim, hx⟩
@[simp ↓] theorem eRvS_ap {σ : St2} {M : Ms} {Q : Q2} {E : X2} : eRvS ta σ M Q E = ta σ M (fun d M1 => rRvS d M1 Q) E := rfl
@[simp ↓] theorem rRvS_loc {a : Addr} {M : Ms} {Q : Q2} : rRvS (.loc a) M Q = kS (.loc a) M fun l => NewL M l.reverse Q .mk := by
  have e : rRvS (.loc a) M Q = ∃ ds, seqT (.loc a) M = some ds ∧ NewL M ds.reverse Q .mk := rfl
  rw [e, kS_of]
section
variable {g : TG2} {t : TT2} {te : TE2} {vs : List Nat} {σ : St2} {M1 : Ms} {Q : Q2}
theorem le_put {M1 M' : Ms} {p : Addr} {o : MO} (hp : M1 p = none) (h : Le M1 M') : Le M1 (up M' p o) := fun a u e => by rw [up_ne (m_ne e hp)]; exact h a u e
/-- a comprehension whose turns let the store grow -/
theorem lc_leR {lo : Int} {n : Nat} {fx : Fx (itR lo n, g, t, te, σ, Q)} (ys : Nat → Tr) (hn : n ≤ 100000)
    (hs : ∀ (i : Nat) M (KY : Tr → Ms → Prop) (KN : Ms → Prop), i < n → Le M1 M → (∀ M', Le M M' → KY (ys i) M') → g (.int (lo + i)) (wipe2 σ vs) M fun σ2 M2 => t σ2 M2 (fun b M3 => if b = true then te σ2 M3 KY X0 else KN M3) X0)
    (hd : ∀ p M', M1 p = none → Le M1 M' → M' p = some (.lst ((List.range n).map ys)) → Q (.loc p) M') : LcS (itR lo n) g t te vs σ M1 Q fx := by
  intro p hp
  refine lc_itR (fun i M => M p = some (.lst ((List.range i).map ys)) ∧ Le M1 M) ⟨up_same, Le.new hp⟩ (fun i M hi ⟨h1, h2⟩ => ?_) fun M ⟨h1, h2⟩ => hd p M hp h2 h1
  refine hs i M _ _ hi h2 fun M' hl => ⟨_, hl _ _ h1, by rw [List.length_map, List.length_range, sizeLine_eq]; omega, ?_, le_put hp (h2.trans hl)⟩
  rw [up_same, List.range_succ, List.map_append]
  rfl
theorem lc_leL {ds : List Tr} {ok : Ms → Prop} {fx : Fx (itL ds ok, g, t, te, σ, Q)} (ys : Nat → Tr) (hn : ds.length ≤ 100000) (hok : ∀ M, Le M1 M → ok M)
    (hs : ∀ (i : Nat) d M (KY : Tr → Ms → Prop) (KN : Ms → Prop), ds[i]? = some d → Le M1 M → (∀ M', Le M M' → KY (ys i) M') → g d (wipe2 σ vs) M fun σ2 M2 => t σ2 M2 (fun b M3 => if b = true then te σ2 M3 KY X0 else KN M3) X0)
    (hd : ∀ p M', M1 p = none → Le M1 M' → M' p = some (.lst ((List.range ds.length).map ys)) → Q (.loc p) M') : LcS (itL ds ok) g t te vs σ M1 Q fx := by
  intro p hp
  refine lc_itL (fun i M => M p = some (.lst ((List.range i).map ys)) ∧ Le M1 M) ⟨up_same, Le.new hp⟩ (fun i M _ ⟨_, h⟩ => hok M h) (fun i d M hi ⟨h1, h2⟩ => ?_) fun M ⟨h1, h2⟩ => hd p M hp h2 h1
  have hi2 := (List.getElem?_eq_some_iff.mp hi).1
  refine hs i d M _ _ hi h2 fun M' hl => ⟨_, hl _ _ h1, by rw [List.length_map, List.length_range, sizeLine_eq]; omega, ?_, le_put hp (h2.trans hl)⟩
  rw [up_same, List.range_succ, List.map_append]
  rfl
end
theorem newL_cut {M : Ms} {ds : List Tr} {Q : Q2} {fx : Fx Q} (h : ∀ p M', Le M M' → M' p = some (.lst ds) → Q (.loc p) M') : NewL M ds Q fx := fun p hp => h p _ (Le.new hp) up_same
@[simp ↓] theorem gK_one {x : Tr} : gK [0] ([] : List Tr) [x] = [x] := rfl
@[simp ↓] theorem gK_swap {x y : Tr} : gK [1, 0] ([] : List Tr) [x, y] = [y, x] := rfl
@[simp ↓] theorem gK_two {x y : Tr} : gK [0, 1] ([] : List Tr) [x, y] = [x, y] := rfl
@[simp ↓] theorem gK_012 {x y z : Tr} : gK [0, 1, 2] ([] : List Tr) [x, y, z] = [x, y, z] := rfl
@[simp ↓] theorem gK_120 {x y z : Tr} : gK [1, 2, 0] ([] : List Tr) [x, y, z] = [y, z, x] := rfl
@[simp ↓] theorem gK_a1 {a x : Tr} : gK [0] [a] [x] = [a, x] := rfl
@[simp ↓] theorem gK_a2 {a b x : Tr} : gK [0] [a, b] [x] = [a, b, x] := rfl
end T

/-! T: classes of the program: instances, fields, methods. -/
namespace T
open PySem PySem.Spec PyProof.Rows L2
def putFT (f : Str) (d : Tr) : List (Str × Tr) → List (Str × Tr)
  | [] => [(f, d)]
  | (g, x) :: r => if g = f then (g, d) :: r else (g, x) :: putFT f d r
section
variable {K : PySem.W.Frag} {H : Hp}
theorem fld_of {f : Str} {d : Tr} : ∀ {fs : List (Str × Tr)} {xs : List (Str × V)}, xs.map (·.1) = fs.map (·.1) → RepL K H (fs.map (·.2)) (xs.map (·.2)) → fs.lookup f = some d → ∃ v, xs.lookup f = some v ∧ Rep K H d v
  | [], _, _, _, e => by cases e
  | (g, x) :: fs, [], k, _, _ => by simp at k
  | (g, x) :: fs, (g', y) :: xs, k, r, e => by
    simp only [List.map_cons, List.cons.injEq] at k
    obtain ⟨k1, k2⟩ := k
    obtain ⟨y', r', e1, h1, h2⟩ := r
    cases e1
    subst k1
    by_cases c : (f == g') = true
    · simp only [List.lookup, c] at e ⊢
      cases e
      exact ⟨y, rfl, h1⟩
    · have c : (f == g') = false := by simpa using c
      simp only [List.lookup, c] at e ⊢
      exact fld_of k2 h2 e
theorem fld_no {f : Str} : ∀ {fs : List (Str × Tr)} {xs : List (Str × V)}, xs.map (·.1) = fs.map (·.1) → fs.lookup f = none → xs.lookup f = none
  | [], [], _, _ => rfl
  | [], _ :: _, k, _ => by simp at k
  | (g, x) :: fs, [], k, _ => by simp at k
  | (g, x) :: fs, (g', y) :: xs, k, e => by
    simp only [List.map_cons, List.cons.injEq] at k
    obtain ⟨k1, k2⟩ := k
    subst k1
    by_cases c : (f == g') = true
    · simp only [List.lookup, c] at e
      cases e
    · have c : (f == g') = false := by simpa using c
      simp only [List.lookup, c] at e ⊢
      exact fld_no k2 e
theorem fld_put {f : Str} {d : Tr} {v : V} (rv : Rep K H d v) : ∀ {fs : List (Str × Tr)} {xs : List (Str × V)}, xs.map (·.1) = fs.map (·.1) → RepL K H (fs.map (·.2)) (xs.map (·.2)) →
    (putF f v xs).map (·.1) = (putFT f d fs).map (·.1) ∧ RepL K H ((putFT f d fs).map (·.2)) ((putF f v xs).map (·.2))
  | [], [], _, _ => ⟨rfl, RepL.one rv⟩
  | [], _ :: _, k, _ => by simp at k
  | (g, x) :: fs, [], k, _ => by simp at k
  | (g, x) :: fs, (g', y) :: xs, k, r => by
    simp only [List.map_cons, List.cons.injEq] at k
    obtain ⟨k1, k2⟩ := k
    obtain ⟨y', r', e1, h1, h2⟩ := r
    cases e1
    subst k1
    unfold putF putFT
    by_cases c : g' = f
    · rw [if_pos c, if_pos c]
      exact ⟨by simp [k2], RepL.cons rv h2⟩
    · rw [if_neg c, if_neg c]
      obtain ⟨a, b⟩ := fld_put rv k2 h2
      exact ⟨by simp [a], RepL.cons h1 b⟩
end
variable {X : Cx} {W : L2.WX} {e o value : Expr} {es : List Expr} {x f m : Str} {p pos pos' apos : Pos} {te to tv : TE2} {t : TA2} {σ : St2} {M : Ms} {Q : Q2} {E : X2} {k : Nat}
/-! e.f -/
def FldS (x f : Str) (d : Tr) (M : Ms) (Q : Q2) (_ : Fx Q) : Prop := ∃ a fs v, d = .loc a ∧ M a = some (.ino x fs) ∧ fs.lookup f = some v ∧ Q v M
def eFld (x f : Str) (te : TE2) : TE2 := fun σ M Q E => te σ M (fun d M1 => FldS x f d M1 Q .mk) E
theorem qe_fld (c : Cls X.K (He.ga X.K x)) (n : NoAttr X.K (He.ga X.K x) f) (he : QE X W e te) (hb : attributeBase e f X.env (eval e X.env) = eval e X.env := by rfl) : QE X W (.Attribute e f pos) (eFld x f te) :=
  pe_weak (pe_fld he hb) fun σ H Q ⟨σ', M, Q', E', hs, hm, q, hq, hx⟩ => ⟨σ', M, _, E', hs, hm, q, fun d M1 v H1 t1 r1 s1 q1 => by
    obtain ⟨a, fs, w, rfl, ea, el, q2⟩ := q1
    cases r1
    obtain ⟨dx, xs, eh, ek, er⟩ := s1 a _ ea
    obtain ⟨y, ey, ry⟩ := fld_of ek er el
    exact ⟨a, _, dx, xs, y, rfl, eh, c, n, ey, hq w M1 y H1 t1 ry s1 q2⟩, hx⟩
@[simp ↓] theorem eFld_ap : eFld x f te σ M Q E = te σ M (fun d M1 => FldS x f d M1 Q .mk) E := rfl
theorem fldS_of {a : Addr} {fs : List (Str × Tr)} {v : Tr} {fx : Fx Q} (h : M a = some (.ino x fs)) (hv : fs.lookup f = some v) : FldS x f (.loc a) M Q fx = Q v M := by
  unfold FldS
  refine propext ⟨?_, fun q => ⟨a, fs, v, rfl, h, hv, q⟩⟩
  rintro ⟨a', fs', v', e1, e2, e3, q⟩
  cases e1
  rw [h] at e2
  cases e2
  rw [hv] at e3
  cases e3
  exact q
/-! o.f = e -/
def SetFS (x f : Str) (o v : Tr) (M : Ms) (N : Ms → Prop) (_ : Fx N) : Prop := ∃ a fs, o = .loc a ∧ M a = some (.ino x fs) ∧ fs.length < 1000 ∧ N (up M a (.ino x (putFT f v fs)))
def sFldP (x f : Str) (to tv : TE2) : TS2 := fun D σ M => tv σ M (fun v M1 => to σ M1 (fun o M2 => SetFS x f o v M2 (fun M3 => D.nx σ M3) .mk) (D.xx σ)) (D.xx σ)
theorem qs_fldP (c : Cls X.K (He.ga X.K x)) (n : NoAttr X.K (He.ga X.K x) f) (ho : QE X W o to) (hv : QE X W value tv) (hs : swapsWith value (some (.Attribute o f pos')) pos.line X.env = pure false := by rfl) : QS X W (.Assign [.Attribute o f pos'] value pos) (sFldP x f to tv) :=
  ps_weak (ps_fld ho hv hs) fun D σ H ⟨σ', M, D', hs, hm, q, L⟩ => ⟨σ', M, _, _, hs, hm, q, fun v M1 y H1 t1 r1 s1 q1 => ⟨σ', M1, _, _, hs.mono t1, s1, q1, fun d M2 z H2 t2 r2 s2 q2 => by
    obtain ⟨a, fs, rfl, ea, hl, q3⟩ := q2
    cases r2
    obtain ⟨dx, xs, eh, ek, er⟩ := s2 a _ ea
    have T3 : Tx X.K H2 (upd H2 a (.ins (He.ga X.K x) dx (putF f y xs))) := Tx.ins eh
    have ll : xs.length = fs.length := by
      have := congrArg List.length ek
      simpa using this
    obtain ⟨k1, k2⟩ := fld_put (f := f) (r1.mono t2) ek er
    exact ⟨a, _, dx, xs, rfl, eh, c, n, by omega, L.nx σ' _ σ _ ((t1.trans t2).trans T3) (((hs.mono t1).mono t2).mono T3) (s2.put (m := .ino x (putFT f v fs)) T3 ⟨dx, _, upd_same, k1, k2.mono T3⟩) q3⟩, (L.mono t1).x (hs.mono t1)⟩, L.x hs⟩
@[simp ↓] theorem sFldP_ap {D : Ends2} : sFldP x f to tv D σ M = tv σ M (fun v M1 => to σ M1 (fun o M2 => SetFS x f o v M2 (fun M3 => D.nx σ M3) .mk) (D.xx σ)) (D.xx σ) := rfl
theorem setFS_of {a : Addr} {fs : List (Str × Tr)} {v : Tr} {N : Ms → Prop} {fx : Fx N} (h : M a = some (.ino x fs)) (hl : fs.length < 1000) (hn : N (up M a (.ino x (putFT f v fs)))) : SetFS x f (.loc a) v M N fx := ⟨a, fs, rfl, h, hl, hn⟩
/-! methods -/
structure OkM (P : Program) (w : World) (K : PySem.W.Frag) (mg : Str → Option Value) (base : Heap) (k : Nat) (x m : Str) (ps : List Str) (sp : Sp2) : Prop where
  cl : Cls K (He.ga K x)
  ex : ∃ (f : Addr) (fd : FuncData), FnT P w K mg base k f fd ps sp ∧ Meth K (He.ga K x) m f ∧ Binds K fd ps []
theorem OkM.mono {P : Program} {w : World} {K : PySem.W.Frag} {mg : Str → Option Value} {base : Heap} {j k : Nat} {x m : Str} {ps : List Str} {sp : Sp2} (F : OkM P w K mg base j x m ps sp) (h : j ≤ k) : OkM P w K mg base k x m ps sp := by
  obtain ⟨f, fd, a, r⟩ := F.ex
  exact ⟨F.cl, f, fd, a.mono h, r⟩
/-- the object of a method call -/
def MethO (x m : Str) (d : Tr) (M : Ms) : Prop := ∃ a fs, d = .loc a ∧ M a = some (.ino x fs) ∧ fs.lookup m = none
def eMeth (x m : Str) (sp : Sp2) (to : TE2) (t : TA2) : TE2 := fun σ M Q E => to σ M (fun d M1 => MethO x m d M1 ∧ t σ M1 (fun ds M2 => sp (d :: ds) M2 Q E) E) E
section
variable {ps : List Str} {sp : Sp2}
theorem qe_meth {pl : Sem Bool} (F : OkM X.prog X.w X.K X.mg X.base k x m ps sp) (hr : Room k X.A) (hgd : X.A.guards = some []) (hl : Lets X W) (ho : QE X W o to) (ha : QA X W (e :: es) t)
    (hst : starEach (e :: es) X.env = (false, eval e X.env) :: starEach es X.env := by rfl) (hpl : (backTo pos (starEach es X.env)).any (·.1) = false := by rfl)
    (ht : eval (.Call (.Attribute o m apos) (e :: es) [] pos) X.env = (do
      let ov ← eval o X.env
      standAt apos.atName
      let (f, first) ← holding [ov] (getMethod ov m pl)
      callWith pos f first (backTo pos (starEach (e :: es) X.env)) (backToKw pos (keywordEach [] X.env))) := by rfl) :
    QE X W (.Call (.Attribute o m apos) (e :: es) [] pos) (eMeth x m sp to t) := by
  obtain ⟨c, f, fd, F, hmt, hb⟩ := F
  refine ⟨fun pins s σ H Q I ⟨σ', M, Q', E', hs, hm', q, hq, hx⟩ => ?_⟩
  refine PySem.W.methodCall_KW (pl := pl) (thn (ho.run pins s σ H (fun v H1 => ∃ d M1, Tx X.K H H1 ∧ Rep X.K H1 d v ∧ SimM X.K H1 M1 ∧ MethO x m d M1 ∧ t σ' M1 (fun ds M2 => sp (d :: ds) M2 Q' E') E') I
    ⟨σ', M, _, E', hs, hm', q, fun d M1 v H1 t1 r1 s1 q1 => ⟨d, M1, t1, r1, s1, q1.1, q1.2⟩, hx⟩) fun u s1 ⟨v, H1, I1, rx, d, M1, t1, r1, sm1, ⟨a, fs, ed, ea, el⟩, q1⟩ => ?_) ht
  subst ed
  cases r1
  obtain rfl : u = Value.ref a := rx
  obtain ⟨dx, xs, eh, ek, er⟩ := sm1 a _ ea
  refine getmeth_ok I1 eh c hmt (fld_no ek el) ?_
  refine PySem.W.callWith_K (first := [.ref a]) (h₀ := X.base) I.ok.mod.kin hmt.kp (thn (ha.run pos pins s1 σ H1 (fun vs H2 => ∃ ds M2, Tx X.K H1 H2 ∧ RepL X.K H2 ds vs ∧ SimM X.K H2 M2 ∧ sp (.loc a :: ds) M2 Q' E') I1
    ⟨σ', M1, _, E', hs.mono t1, sm1, q1, fun ds M2 vs H2 t2 r2 s2 q2 => ⟨ds, M2, t2, r2, s2, q2⟩, hx.mono t1⟩) fun us s2 ⟨vs, H2, I2, r, ds, M2, t2, r2, sm2, q2⟩ => ⟨I2.kIn, ?_⟩) hst hpl
  have rr : RepL X.K H2 ((Tr.loc a :: ds) ++ []) (V.ref a :: vs) := by rw [List.append_nil]; exact RepL.cons rfl r2
  exact run_fnT (us := .ref a :: us) (vs := .ref a :: vs) (trs := .loc a :: ds) (dvs := []) (dus := []) (ds := []) F hr hgd hb .nil (fun _ => RepL.nil) hl I2 (.cons rfl r) (RepL.cons rfl r2) sm2 (t1.trans t2) (by rw [List.append_nil]; exact q2) hq hx
end
@[simp ↓] theorem eMeth_ap {sp : Sp2} : eMeth x m sp to t σ M Q E = to σ M (fun d M1 => MethO x m d M1 ∧ t σ M1 (fun ds M2 => CallS sp (d :: ds) M2 Q E .mk) E) E := rfl
/-! C(..) -/
structure OkI (P : Program) (w : World) (K : PySem.W.Frag) (mg : Str → Option Value) (base : Heap) (k : Nat) (x : Str) (ps : List Str) (sp : Sp2) : Prop where
  gl : mg x = some (.ref (He.ga K x))
  ex : ∃ (f : Addr) (fd : FuncData), FnT P w K mg base k f fd ps sp ∧ Mk K (He.ga K x) f ∧ Binds K fd ps []
theorem OkI.mono {P : Program} {w : World} {K : PySem.W.Frag} {mg : Str → Option Value} {base : Heap} {j k : Nat} {x : Str} {ps : List Str} {sp : Sp2} (F : OkI P w K mg base j x ps sp) (h : j ≤ k) : OkI P w K mg base k x ps sp := by
  obtain ⟨f, fd, a, r⟩ := F.ex
  exact ⟨F.gl, f, fd, a.mono h, r⟩
/-- the new instance, then its __init__ -/
def MakeS (x : Str) (sp : Sp2) (ds : List Tr) (M : Ms) (Q : Q2) (E : X2) (_ : Fx (Q, E)) : Prop := ∀ a, M a = none → sp (.loc a :: ds) (up M a (.ino x [])) (fun r M2 => r = .non ∧ Q (.loc a) M2) E
def eMake (x : Str) (sp : Sp2) (t : TA2) : TE2 := fun σ M Q E => t σ M (fun ds M1 => MakeS x sp ds M1 Q E .mk) E
section
variable {ps : List Str} {sp : Sp2}
theorem run_makeT {pins : List (Addr × Obj)} {σ : L2.St} {H0 H : Hp} {s : Shared} {Q : VK} {us : List Value} {vs : List V} {ds : List Tr} {M : Ms} {Q' : Q2} {E' : X2} (F : OkI X.prog X.w X.K X.mg X.base k x ps sp) (hr : Room (k + 1) X.A) (hgd : X.A.guards = some []) (hl : Lets X W)
    (I : L2.Inv X pins σ H s) (r : Vals vs us) (rt : RepL X.K H ds vs) (sm : SimM X.K H M) (t0 : Tx X.K H0 H) (h : MakeS x sp ds M Q' E' .mk) (hq : LkQ X.K H0 Q' Q) (hx : LkX X.K H0 E' W σ) :
    wpAny (model X.prog X.w) X.A (call (.ref (He.ga X.K x)) us) (EP X pins σ Q) X.xe s := by
  obtain ⟨gl, f, fd, F, Mk, hb⟩ := F
  have f1 : H (s.heap.objs.size + 1) = none := I.hok.fresh (Nat.le_succ _)
  have f2 : H s.heap.objs.size = none := I.hok.fresh (Nat.le_refl _)
  have hq0 := h (s.heap.objs.size + 1) (sm.free f1)
  have I2 := Inv.made (C := He.ga X.K x) I
  have r2 : Vals (V.ref (s.heap.objs.size + 1) :: vs) (Value.ref (s.heap.objs.size + 1) :: us) := .cons rfl r
  have ne : s.heap.objs.size ≠ s.heap.objs.size + 1 := Nat.ne_of_lt (Nat.lt_succ_self _)
  have T1 : Tx X.K H (upd H s.heap.objs.size (.own (s.heap.objs.size + 1))) := Tx.new f2
  have f3 : upd H s.heap.objs.size (.own (s.heap.objs.size + 1)) (s.heap.objs.size + 1) = none := by rw [upd_ne ne.symm]; exact f1
  have T2 : Tx X.K (upd H s.heap.objs.size (.own (s.heap.objs.size + 1))) (upd (upd H s.heap.objs.size (.own (s.heap.objs.size + 1))) (s.heap.objs.size + 1) (.ins (He.ga X.K x) s.heap.objs.size [])) := Tx.new f3
  have sm2 : SimM X.K (upd (upd H s.heap.objs.size (.own (s.heap.objs.size + 1))) (s.heap.objs.size + 1) (.ins (He.ga X.K x) s.heap.objs.size [])) (up M (s.heap.objs.size + 1) (.ino x [])) :=
    (sm.hid f2).put T2 ⟨s.heap.objs.size, [], upd_same, rfl, RepL.nil⟩
  have rt2 : RepL X.K (upd (upd H s.heap.objs.size (.own (s.heap.objs.size + 1))) (s.heap.objs.size + 1) (.ins (He.ga X.K x) s.heap.objs.size [])) (.loc (s.heap.objs.size + 1) :: ds) (V.ref (s.heap.objs.size + 1) :: vs) :=
    RepL.cons rfl (rt.mono (T1.trans T2))
  have hlen : (Value.ref (s.heap.objs.size + 1) :: us).length = ps.length := by rw [← r2.length, ← rt2.len]; exact F.len _ _ _ _ hq0
  have hb2 : BindsTo { s with heap := (s.heap.push PySem.W.emptyDict).push (PySem.W.instObj (He.ga X.K x) s.heap.objs.size) } fd ⟨Value.ref (s.heap.objs.size + 1) :: us, []⟩ (ps.zip (Value.ref (s.heap.objs.size + 1) :: us)) := by
    have := hb _ (Value.ref (s.heap.objs.size + 1) :: us) I2.kIn (by rw [List.append_nil]; exact hlen)
    rwa [List.append_nil] at this
  refine wpAny_call (make_map (f := f) I.kIn Mk.makes Mk.init (beq_iff_eq.mp Mk.fn) (codeAny_mono (F.run _ X.stack _ _ ⟨Value.ref (s.heap.objs.size + 1) :: us, []⟩ (Value.ref (s.heap.objs.size + 1) :: us) _ _ _ _ E' (hr.make (He.ga X.K x) us []) hgd
    (I2.env0.make (He.ga X.K x) us []) hb2 r2 rt2 sm2 hq0) fun r s' hq' => ?_))
  cases r with
  | error e => exact hl σ pins _ _ e s' I2 (cx_imp (fun c d H' ⟨M', tx, sm', q⟩ => hx c d M' H' (((t0.trans T1).trans T2).trans tx) sm' q) hq')
  | ok fl =>
    cases fl with
    | ret u =>
      obtain ⟨v, H', os, bare, un, hok, rv, d, M', rd, sm', ed, q⟩ := hq'
      subst ed
      cases rd
      obtain rfl : u = Value.none := rv
      have hq2 : CE X.stack X.prog X.w (upd (upd H s.heap.objs.size (.own (s.heap.objs.size + 1))) (s.heap.objs.size + 1) (.ins (He.ga X.K x) s.heap.objs.size [])) { s with heap := (s.heap.push PySem.W.emptyDict).push (PySem.W.instObj (He.ga X.K x) s.heap.objs.size) } (fun v H' => v = .non ∧ Q (.ref (s.heap.objs.size + 1)) H') Value.none s' :=
        ⟨V.non, H', os, bare, un, hok, rfl, rfl, hq (.loc (s.heap.objs.size + 1)) M' (.ref (s.heap.objs.size + 1)) H' (((t0.trans T1).trans T2).trans (Tx.un un)) rfl sm' q⟩
      obtain ⟨v3, H3, I3, rv3, ev3, q3⟩ := I2.after hq2
      exact ⟨rfl, ⟨V.ref (s.heap.objs.size + 1), H3, I3, rfl, q3⟩⟩
    | next => exact False.elim hq'
    | brk => exact False.elim hq'
    | cont => exact False.elim hq'
theorem qe_make (F : OkI X.prog X.w X.K X.mg X.base k x ps sp) (hr : Room (k + 1) X.A) (hgd : X.A.guards = some []) (hl : Lets X W) (ha : QA X W (e :: es) t) (hg : Gl X x := by rfl) (hdb : (x == ("__debug__" : Str)) = false := by decide)
    (he : starEach (e :: es) X.env = (false, eval e X.env) :: starEach es X.env := by rfl) (hpl : (backTo pos (starEach es X.env)).any (·.1) = false := by rfl) : QE X W (.Call (.Name x p) (e :: es) [] pos) (eMake x sp t) := by
  have hm := F.gl
  obtain ⟨f, fd, F0, Mk, hb⟩ := F.ex
  refine ⟨fun pins s σ H Q I ⟨σ', M, Q', E', hs, hm', q, hq, hx⟩ => ?_⟩
  refine wpAny_Call_Name_kw (ld_glob I hg hm ?_ hdb)
  refine PySem.W.callWith_K (h₀ := X.base) I.ok.mod.kin Mk.kp (thn (ha.run pos pins s σ H (fun vs H1 => ∃ ds M1, Tx X.K H H1 ∧ RepL X.K H1 ds vs ∧ SimM X.K H1 M1 ∧ MakeS x sp ds M1 Q' E' .mk) I
    ⟨σ', M, _, E', hs, hm', q, fun ds M1 vs H1 t1 r1 s1 q1 => ⟨ds, M1, t1, r1, s1, q1⟩, hx⟩) fun us s1 ⟨vs, H1, I1, r, ds, M1, t1, r1, sm1, q1⟩ => ⟨I1.kIn, ?_⟩) he hpl
  exact run_makeT F hr hgd hl I1 r r1 sm1 t1 q1 hq hx
end
@[simp ↓] theorem eMake_ap {sp : Sp2} : eMake x sp t σ M Q E = t σ M (fun ds M1 => MakeS x sp ds M1 Q E .mk) E := rfl
/-! C() of a class without an __init__ of its own -/
structure Mk0 (K : PySem.W.Frag) (C : Addr) : Prop where
  makes : PySem.W.makesIn K C = true
  ini : PySem.W.findIn K (.ref C) "__init__" = some (some (.builtin "object.__init__"))
  kp : PySem.W.keepIn K (.ref C) = true
def MakeN (x : Str) (M : Ms) (Q : Q2) (_ : Fx Q) : Prop := ∀ a, M a = none → Q (.loc a) (up M a (.ino x []))
def eMake0 (x : Str) : TE2 := fun _ M Q _ => MakeN x M Q .mk
theorem qe_make0 (gl : X.mg x = some (.ref (He.ga X.K x))) (mk : Mk0 X.K (He.ga X.K x)) (hg : Gl X x := by rfl) (hdb : (x == ("__debug__" : Str)) = false := by decide) : QE X W (.Call (.Name x p) [] [] pos) (eMake0 x) := by
  refine ⟨fun pins s σ H Q I ⟨σ', M, Q', E', hs, sm, q, hq, hx⟩ => ?_⟩
  refine wpAny_Call_Name_kw (ld_glob I hg gl ?_ hdb)
  refine PySem.W.callWith_K0 I.kIn mk.kp ?_
  have f1 : H (s.heap.objs.size + 1) = none := I.hok.fresh (Nat.le_succ _)
  have f2 : H s.heap.objs.size = none := I.hok.fresh (Nat.le_refl _)
  have I2 := Inv.made (C := He.ga X.K x) I
  have ne : s.heap.objs.size ≠ s.heap.objs.size + 1 := Nat.ne_of_lt (Nat.lt_succ_self _)
  have T1 : Tx X.K H (upd H s.heap.objs.size (.own (s.heap.objs.size + 1))) := Tx.new f2
  have f3 : upd H s.heap.objs.size (.own (s.heap.objs.size + 1)) (s.heap.objs.size + 1) = none := by rw [upd_ne ne.symm]; exact f1
  have T2 : Tx X.K (upd H s.heap.objs.size (.own (s.heap.objs.size + 1))) (upd (upd H s.heap.objs.size (.own (s.heap.objs.size + 1))) (s.heap.objs.size + 1) (.ins (He.ga X.K x) s.heap.objs.size [])) := Tx.new f3
  have sm2 : SimM X.K (upd (upd H s.heap.objs.size (.own (s.heap.objs.size + 1))) (s.heap.objs.size + 1) (.ins (He.ga X.K x) s.heap.objs.size [])) (up M (s.heap.objs.size + 1) (.ino x [])) :=
    (sm.hid f2).put T2 ⟨s.heap.objs.size, [], upd_same, rfl, RepL.nil⟩
  have Y := PySem.W.makes_of (M := model X.prog X.w) I.kIn mk.makes
  have e1 : (s.heap.push PySem.W.emptyDict).get? s.heap.objs.size = some PySem.W.emptyDict := Heap.get?_push_size s.heap rfl
  have e2 : ((s.heap.push PySem.W.emptyDict).push (PySem.W.instObj (He.ga X.K x) s.heap.objs.size)).get? (s.heap.objs.size + 1) = some (PySem.W.instObj (He.ga X.K x) s.heap.objs.size) := by
    have := Heap.get?_push_size (s.heap.push PySem.W.emptyDict) (o := PySem.W.instObj (He.ga X.K x) s.heap.objs.size) rfl
    rwa [Heap.size_push] at this
  have t1 : PySem.W.Looks (model X.prog X.w) ((s.heap.push PySem.W.emptyDict).push (PySem.W.instObj (He.ga X.K x) s.heap.objs.size)) (typeOf (.ref (s.heap.objs.size + 1))) (.ref (He.ga X.K x)) := (PySem.W.Looks.ld e2).andThen .now
  have t2 : PySem.W.Looks (model X.prog X.w) ((s.heap.push PySem.W.emptyDict).push (PySem.W.instObj (He.ga X.K x) s.heap.objs.size)) (isInstance (.ref (s.heap.objs.size + 1)) (.type "object")) true :=
    t1.andThen (Y.top.keeps fun b o e => Heap.get?_push_of_some _ (Heap.get?_push_of_some _ e))
  refine wpAny_call (make_map0 I.kIn mk.makes mk.ini (fun self => PySem.W.Looks.of_pure (PySem.W.oi_bind self)) ?_)
  refine codeAny_call_builtin PySem.W.oi_plain PySem.W.entry_oi (@PySem.W.check_slot (model X.prog X.w) _ _ _ "object.__init__" "object" "__init__" (.ref (s.heap.objs.size + 1)) [] [] _ PySem.W.oi_kind PySem.W.oi_split t2 (PySem.W.oi_args (.ref (s.heap.objs.size + 1))) ?_)
  rw [PySem.W.oi_run]
  exact wpAny_pure (And.intro rfl ⟨V.ref (s.heap.objs.size + 1), _, I2, rfl, hq (.loc (s.heap.objs.size + 1)) _ (.ref (s.heap.objs.size + 1)) _ (T1.trans T2) rfl sm2 (q _ (sm.free f1))⟩)
@[simp ↓] theorem eMake0_ap : eMake0 x σ M Q E = MakeN x M Q .mk := rfl
theorem mk0_ok {K : PySem.W.Frag} {x : Str} (h : (Fb.mk0 x).ok K = true) : Mk0 K (He.ga K x) := by
  obtain ⟨h1, h⟩ := He.ba h
  obtain ⟨h2, h3⟩ := He.ba h
  exact ⟨h1, He.eqO_ok h2, h3⟩
section
variable {P : Program} {w : World} {K : PySem.W.Frag} {mg : Str → Option Value} {base : Heap} {k : Nat} {f : Addr} {fd : FuncData} {x y m qual : Str} {params : Arguments} {body : List Stmt} {scope : Scope} {N ps : List Str} {sp : Sp2} {t : TS2}
theorem okM_of (c : Cls K (He.ga K x)) (F : FunD K y qual params body scope [] [] f fd) (hm : Meth K (He.ga K x) m f) (hb : Binds K fd ps []) (S : FnScope N ps scope) (len : ∀ ds M Q E, sp ds M Q E → ds.length = ps.length)
    (sem : ∀ ds M Q E, sp ds M Q E → t (fEnds Q E) (start2 N ds) M) (der : Der P w K mg base k f qual scope N body t) : OkM P w K mg base (k + 1) x m ps sp := ⟨c, f, fd, fnT_by F S len sem der, hm, hb⟩
theorem okI_of (gl : mg x = some (.ref (He.ga K x))) (F : FunD K y qual params body scope [] [] f fd) (hm : Mk K (He.ga K x) f) (hb : Binds K fd ps []) (S : FnScope N ps scope) (len : ∀ ds M Q E, sp ds M Q E → ds.length = ps.length)
    (sem : ∀ ds M Q E, sp ds M Q E → t (fEnds Q E) (start2 N ds) M) (der : Der P w K mg base k f qual scope N body t) : OkI P w K mg base (k + 1) x ps sp := ⟨gl, f, fd, fnT_by F S len sem der, hm, hb⟩
end
/-! i.bit_length() -/
section
variable {X : Cx} {W : L2.WX} {o : Expr} {to : TE2} {pos apos : Pos} {σ : St2} {M : Ms} {Q : Q2} {E : X2}
def eBits (to : TE2) : TE2 := fun σ M Q E => to σ M (fun d M1 => ∃ i, d = .int i ∧ Q (.int (Builtin.Int.intBits i : Nat)) M1) E
theorem qe_bits (ho : QE X W o to) (hbase : attributeBase o "bit_length" X.env (eval o X.env) = eval o X.env := by rfl) (hline : (apos.endLine == pos.line) = true := by rfl) : QE X W (.Call (.Attribute o "bit_length" apos) [] [] pos) (eBits to) :=
  pe_weak (pe_bits ho hbase hline) fun σ H Q ⟨σ', M, Q', E', hs, hm, q, hq, hx⟩ => ⟨σ', M, _, E', hs, hm, q, fun d M1 x H1 t1 r1 s1 ⟨i, ed, q1⟩ => by
    subst ed
    cases r1
    exact ⟨i, rfl, hq (.int (Builtin.Int.intBits i : Nat)) M1 _ H1 t1 rfl s1 q1⟩, hx⟩
@[simp ↓] theorem eBits_ap : eBits to σ M Q E = to σ M (fun d M1 => kI d fun i => Q (.int (Builtin.Int.intBits i : Nat)) M1) E := by
  unfold eBits
  simp only [kI_of]
end
end T

/-! T: what a draw keeps. -/
namespace T
open PySem PySem.Spec PyProof.Rows L2
def Kf (f : Addr) (M M' : Ms) : Prop := ∀ a u, a ≠ f → M a = some u → M' a = some u
theorem Kf.refl {f : Addr} {M : Ms} : Kf f M M := fun _ _ _ h => h
theorem Kf.trans {f : Addr} {M M1 M2 : Ms} (a : Kf f M M1) (b : Kf f M1 M2) : Kf f M M2 := fun x u hx h => b x u hx (a x u hx h)
theorem Le.kf {f : Addr} {M M' : Ms} (l : Le M M') : Kf f M M' := fun a u _ h => l a u h
theorem Kf.feed {f : Addr} {M : Ms} {o : MO} : Kf f M (up M f o) := fun a u ha h => by rw [up_ne ha]; exact h
theorem Kf.le {f : Addr} {M M' : Ms} {o : MO} (k : Kf f M M') (h : M' f = some o) : Le (up M f o) M' := fun a u e => by
  by_cases c : a = f
  · subst c; rw [up_same] at e; rw [h, ← e]
  · rw [up_ne c] at e; exact k a u c e
theorem Kf.up {f : Addr} {M M' : Ms} (h : M f = none) (k : Kf f M M') : Le M M' := fun a u e => k a u (m_ne e h) e
end T

/-! T: a slice of a list put anew. -/
namespace T
open PySem PySem.Spec PyProof.Rows L2
section
variable {X : Cx} {o : Expr} {lo hi : Option Expr} {pos p2 : Pos}
/-- o[lo:hi] = a list, by values -/
def vSlP (H : Hp) (o v : V) (l h : Option Int) (Q : Hp → Prop) : Prop := ∃ a b xs ys i k, o = .ref a ∧ v = .ref b ∧ a ≠ b ∧ l = some i ∧ h = some k ∧ 0 ≤ i ∧ i ≤ k ∧ k ≤ (xs.length : Int) ∧ H a = some (.lst xs) ∧ H b = some (.lst ys) ∧ xs.length + ys.length ≤ sizeLine ∧ Q (upd H a (.lst (xs.take i.toNat ++ ys ++ xs.drop k.toNat)))
def gSlV (to : TE) (tl th : TO) : TG := fun v σ H Q => to σ H fun o H1 => tl σ H1 fun l H2 => th σ H2 fun u H3 => vSlP H3 o v l u fun H4 => Q σ H4
theorem pg_slc {to : TE} {tl th : TO} (ho : PE X o to) (hl : PO X lo tl) (hu : PO X hi th)
    (ha : ∀ v, assign (.Subscript o (.Slice lo hi none p2) pos) X.env v = (do
      let ov ← holding [v] (eval o X.env)
      let iv ← holding [v, ov] (eval (.Slice lo hi none p2) X.env)
      standAt pos
      holding [v, ov, iv] (setItem ov iv v)
      release [iv, v, ov] []) := by intro _; rfl) : PG X (.Subscript o (.Slice lo hi none p2) pos) (gSlV to tl th) := by
  refine ⟨fun pins s σ H v u Q I r h => ?_⟩
  rw [ha]
  refine wpAny_bind (wpAny_holding (thn (ho.run pins s σ H _ I h) fun ov s1 ⟨x, H1, I1, r1, q1⟩ => ?_))
  refine wpAny_bind (wpAny_holding ?_)
  refine wpAny_Slice (thn (hl.run pins s1 σ H1 _ I1 q1) fun vl s2 ⟨l, H2, I2, pl, q2⟩ => thn (hu.run pins s2 σ H2 _ I2 q2) fun vu s3 ⟨k, H3, I3, pu, q3⟩ => ?_)
  rw [evalPart_none]
  refine wpAny_pure ?_
  obtain ⟨a, b, xs, ys, i, k2, e1, e2, hne, e3, e4, h0, h1, h2, ea, eb, hz, q⟩ := q3
  subst e1; subst e2; subst e3; subst e4
  cases r1; cases r
  cases pl with
  | int _ tl =>
    cases pu with
    | int _ tu =>
      have I4 : Inv X pins σ H3 { s3 with heap := s3.heap.push { cls := .type "slice", data := .fields #[.int i tl, .int k2 tu, .none] } } := I3.kept (t' := s3.toks) fun b ob q => Heap.get?_push_of_some _ q
      refine wpAny_bind (wpAny_standAt (wpAny_bind (wpAny_holding ?_)))
      refine set_slice I4 ea eb hne (Heap.IsSliceOf.new ..) ⟨tl, rfl⟩ ⟨tu, rfl⟩ h0 h1 h2 hz fun s' I' => ?_
      exact wpAny_release ⟨σ, _, I', q⟩
end
/-- o[lo:hi] = a list -/
def SetSl (o v : Tr) (l h : Option Int) (M : Ms) (Q : Ms → Prop) : Prop := ∃ a b xs ys i k, o = .loc a ∧ v = .loc b ∧ a ≠ b ∧ l = some i ∧ h = some k ∧ 0 ≤ i ∧ i ≤ k ∧ k ≤ (xs.length : Int) ∧ M a = some (.lst xs) ∧ M b = some (.lst ys) ∧ xs.length + ys.length ≤ sizeLine ∧ Q (up M a (.lst (xs.take i.toNat ++ ys ++ xs.drop k.toNat)))
def SetSlS (o v : Tr) (l h : Option Int) (M : Ms) (Q : Ms → Prop) (_ : Fx Q) : Prop := SetSl o v l h M Q
def gSlc (to : TE2) (tl th : TO2) : TG2 := fun v σ M Q => to σ M (fun o M1 => tl σ M1 (fun l M2 => th σ M2 (fun h M3 => SetSlS o v l h M3 (fun M4 => Q σ M4) .mk) X0) X0) X0
section
variable {X : Cx} {o : Expr} {lo hi : Option Expr} {pos p2 : Pos} {to : TE2} {tl th : TO2}
theorem qg_slc (ha : PG X (.Subscript o (.Slice lo hi none p2) pos) (gSlV (lfE X.K W0 to) (lfO X.K W0 tl) (lfO X.K W0 th))) : QG X (.Subscript o (.Slice lo hi none p2) pos) (gSlc to tl th) [] :=
  pg_weak ha fun v σ H Q ⟨d, σ', M, Q', r, hs, hm, q, hq⟩ => ⟨σ', M, _, X0, hs, hm, q, fun o M1 x H1 t1 r1 s1 q1 => ⟨σ', M1, _, X0, hs.mono t1, s1, q1, fun l M2 H2 t2 s2 q2 => ⟨σ', M2, _, X0, (hs.mono t1).mono t2, s2, q2, fun k M3 H3 t3 s3 q3 => by
    obtain ⟨a, b, xs, ys, i, k2, e1, e2, hne, e3, e4, h0, h1, h2, ea, eb, hz, q9⟩ := q3
    subst e1; subst e2; subst e3; subst e4
    cases r1; cases r
    obtain ⟨us, hu, ru⟩ := s3 a _ ea
    obtain ⟨vs, hv, rv⟩ := s3 b _ eb
    have l1 := ru.len
    have l2 := rv.len
    refine ⟨a, b, us, vs, i, k2, rfl, rfl, hne, rfl, rfl, h0, h1, by omega, hu, hv, by omega, ?_⟩
    exact hq σ' _ σ _ (((t1.trans t2).trans t3).trans (Tx.lst hu)) ((((hs.mono t1).mono t2).mono t3).mono (Tx.lst hu)) (s3.setL hu (((ru.take _).app rv).app (ru.drop _))) Agr.refl q9, fun _ _ _ _ _ _ z => False.elim z⟩, fun _ _ _ _ _ _ z => False.elim z⟩, fun _ _ _ _ _ _ z => False.elim z⟩
end
section
variable {to : TE2} {tl th : TO2} {σ : St2} {M : Ms} {d : Tr} {N : St2 → Ms → Prop}
@[simp ↓] theorem gSlc_ap : gSlc to tl th d σ M N = to σ M (fun o M1 => tl σ M1 (fun l M2 => th σ M2 (fun h M3 => SetSlS o d l h M3 (fun M4 => N σ M4) .mk) X0) X0) X0 := rfl
theorem setSl_of {a b : Addr} {xs ys : List Tr} {i k : Int} {M : Ms} {Q : Ms → Prop} (hne : a ≠ b) (h0 : 0 ≤ i) (h1 : i ≤ k) (h2 : k ≤ (xs.length : Int)) (ea : M a = some (.lst xs)) (eb : M b = some (.lst ys)) (hz : xs.length + ys.length ≤ sizeLine) (q : Q (up M a (.lst (xs.take i.toNat ++ ys ++ xs.drop k.toNat)))) : SetSlS (.loc a) (.loc b) (some i) (some k) M Q .mk :=
  ⟨a, b, xs, ys, i, k, rfl, rfl, hne, rfl, rfl, h0, h1, h2, ea, eb, hz, q⟩
end
end T

/-! T: list.count, tuple(range), a dict of texts written down, dicts with None or ints for keys. -/
namespace T
open PySem PySem.Spec PyProof.Rows L2
variable {X : Cx} {W : L2.WX} {e f : Expr} {es : List Expr} {pos apos p : Pos} {ta tb tc : TE2} {σ : St2} {M : Ms} {Q : Q2} {E : X2}
/-! list.count -/
def rCntL2 : RM2 := fun d ds M Q => ∃ (a : Addr) (ns : List Int) (k : Int), d = .loc a ∧ ds = [.int k] ∧ M a = some (.lst (ns.map Tr.int)) ∧ Q (.int (ns.count k : Nat)) M
theorem m_lcount : MtR X "list.count" (lfM X.K rCntL2) := by
  intro pins s σ H x xs v us Q I rx rs ⟨d, ds, M, Q', rd, rds, sm, ⟨a, ns, k, e1, e2, e3, q⟩, hq⟩
  subst e1 e2
  obtain ⟨y, rfl, r1⟩ := one_of rds
  cases r1
  cases rd
  obtain ⟨ys, hy, ry⟩ := sm a _ e3
  have ey := ints_back ry
  subst ey
  exact mt_lcount pins s σ H _ _ v us Q I rx rs ⟨a, ns, k, rfl, rfl, SqL.of hy, hq (.int _) M _ H Tx.refl rfl sm q⟩
def CntS (a : Addr) (k : Int) (M : Ms) (Q : Q2) (_ : Fx Q) : Prop := ∃ ns : List Int, M a = some (.lst (ns.map Tr.int)) ∧ Q (.int (ns.count k : Nat)) M
@[simp ↓] theorem rCntL2_ap {a : Addr} {k : Int} : rCntL2 (.loc a) [.int k] M Q = CntS a k M Q .mk := propext ⟨fun ⟨a', ns, k', e1, e2, e3, q⟩ => by
  injection e1 with e1
  injection e2 with e2 _
  injection e2 with e2
  subst e1 e2
  exact ⟨ns, e3, q⟩, fun ⟨ns, e3, q⟩ => ⟨a, ns, k, rfl, rfl, e3, q⟩⟩
/-! tuple(range(n)) -/
def eTR1 (ta : TE2) : TE2 := fun σ M Q E => ta σ M (fun d M1 => ∃ n, d = .int n ∧ RgOk 0 n ∧ Q (.tup (rgT 0 n)) M1) E
theorem qe_tupRg1 {a : Expr} {p2 pos2 : Pos} (hc : X.calm = true) (hm : X.mg "tuple" = none) (hm2 : X.mg "range" = none) (ha : QE X W a ta) (hg : Gl X "tuple" := by rfl) (hg2 : Gl X "range" := by rfl)
    (na : starEach [Expr.Call (.Name "range" p2) [a] [] pos2] X.env = (false, eval (Expr.Call (.Name "range" p2) [a] [] pos2) X.env) :: starEach [] X.env := by rfl) (nb : starEach [a] X.env = (false, eval a X.env) :: starEach [] X.env := by rfl) : QE X W (.Call (.Name "tuple" p) [.Call (.Name "range" p2) [a] [] pos2] [] pos) (eTR1 ta) :=
  pe_weak (pe_tupRg hc hg hm (prg_1 hg2 hm2 ha nb) na) fun σ H Q ⟨σ', M, Q', E', hs, hm, q, hq, hx⟩ => by
    refine ⟨σ', M, _, E', hs, hm, q, fun d M1 x H1 t1 r1 s1 ⟨n, e, rg, q1⟩ => ?_, hx⟩
    subst e
    exact ⟨n, r1, rg, fun l hl => new_tup (hq.mono t1) rgT_ok s1 hl q1⟩
@[simp ↓] theorem eTR1_ap : eTR1 ta σ M Q E = ta σ M (fun d M1 => kI d fun n => RgOk 0 n ∧ Q (.tup (rgT 0 n)) M1) E := by
  unfold eTR1
  simp only [kI_of]
/-! {'a': 'b', ..} of four -/
def d4 (k1 v1 k2 v2 k3 v3 k4 v4 : Str) : List (Key × Tr) := [(.inr k1, .str v1), (.inr k2, .str v2), (.inr k3, .str v3), (.inr k4, .str v4)]
def eD4 (kvs : List (Key × Tr)) : TE2 := fun _ M Q _ => ∀ p, M p = none → Q (.loc p) (up M p (.dic kvs))
theorem qe_d4 {k1 v1 k2 v2 k3 v3 k4 v4 : Str} {j1 j2 j3 j4 j5 j6 j7 j8 : Nat} {p1 p2 p3 p4 p5 p6 p7 p8 : Pos}
    (hm : mergeK [] [((.inr k1 : Key), V.str v1), (.inr k2, .str v2), (.inr k3, .str v3), (.inr k4, .str v4)] = [(.inr k1, .str v1), (.inr k2, .str v2), (.inr k3, .str v3), (.inr k4, .str v4)] := by rfl) :
    QE X W (.Dict [some (.Constant (.str k1) j1 p1), some (.Constant (.str k2) j2 p2), some (.Constant (.str k3) j3 p3), some (.Constant (.str k4) j4 p4)] [.Constant (.str v1) j5 p5, .Constant (.str v2) j6 p6, .Constant (.str v3) j7 p7, .Constant (.str v4) j8 p8] pos) (eD4 (d4 k1 v1 k2 v2 k3 v3 k4 v4)) :=
  pe_weak (pe_disp (pps_cons pe_str pe_str (pps_cons pe_str pe_str (pps_cons pe_str pe_str (pps_cons pe_str pe_str pps_nil)))) rfl rfl (by simp) (by simp)) fun σ H Q ⟨σ', M, Q', E', hs, hm', q, hq, hx⟩ p hp => by
    refine ⟨upd_same, [(.inr k1, .str v1), (.inr k2, .str v2), (.inr k3, .str v3), (.inr k4, .str v4)], rfl, by simp, ?_⟩
    rw [hm]
    have T3 : Tx X.K (upd H p (.dK [])) (upd (upd H p (.dK [])) p (.dK [((.inr k1 : Key), V.str v1), (.inr k2, .str v2), (.inr k3, .str v3), (.inr k4, .str v4)])) := Tx.dic upd_same
    have s1 : SimM X.K (upd H p (.dK [])) M := hm'.hid hp
    refine hq (.loc p) (up M p (.dic (d4 k1 v1 k2 v2 k3 v3 k4 v4))) (.ref p) _ ((Tx.new hp).trans T3) rfl (s1.put (m := .dic (d4 k1 v1 k2 v2 k3 v3 k4 v4)) T3 ⟨_, upd_same, rfl, ?_⟩) (q p (hm'.free hp))
    exact ⟨_, _, rfl, rfl, _, _, rfl, rfl, _, _, rfl, rfl, _, _, rfl, rfl, rfl⟩
@[simp ↓] theorem eD4_ap {kvs : List (Key × Tr)} : eD4 kvs σ M Q E = NewD M kvs Q .mk := rfl
/-! dicts whose keys are None or ints -/
def eDn : TE2 := fun _ M Q _ => ∀ p, M p = none → Q (.loc p) (up M p (.dcn []))
theorem pe_dnewN {t : TE} (h : ∀ σ H Q, t σ H Q → ∀ p, H p = none → Q (.ref p) (upd H p (dnT [] p))) : PE X (.Dict [] [] pos) t := ⟨fun pins s σ H Q I q =>
  wpAny_Dict_empty ⟨.ref s.heap.objs.size, _, I.laid (a := s.heap.objs.size) (o := dnT [] s.heap.objs.size) (t' := s.toks) (fun _ _ q => Heap.get?_push_of_some _ q) (Nat.le_refl _)
    (dn_ok (Nat.zero_le _) (beq_eq_false_iff_ne.mpr (Ne.symm (Nat.ne_of_lt I.big))) .nil (Heap.DictOf.new s.heap)), rfl, h _ _ _ q _ (I.hok.fresh (Nat.le_refl _))⟩⟩
theorem qe_dn : QE X W (.Dict [] [] pos) eDn := pe_dnewN fun σ H Q ⟨σ', M, Q', E', hs, hm, q, hq, hx⟩ p hp =>
  hq (.loc p) _ (.ref p) _ (Tx.new hp) rfl (hm.put (m := .dcn []) (Tx.new hp) upd_same) (q p (hm.free hp))
def NewN (M : Ms) (kvs : List (Option Int × Int)) (Q : Q2) (_ : Fx Q) : Prop := ∀ p, M p = none → Q (.loc p) (up M p (.dcn kvs))
@[simp ↓] theorem eDn_ap : eDn σ M Q E = NewN M [] Q .mk := rfl
/-- the value at k -/
def getN (kvs : List (Option Int × Int)) (k : Option Int) : Option Int := (kvs.find? fun kv => decide (kv.1 = k)).map (·.2)
def putN (kvs : List (Option Int × Int)) (k : Option Int) (v : Int) : List (Option Int × Int) := if kvs.any (fun kv => decide (kv.1 = k)) then kvs.map (fun kv => if kv.1 = k then (kv.1, v) else kv) else kvs ++ [(k, v)]
def oiT : Option Int → Tr
  | none => .non
  | some i => .int i
theorem oi_is {K : PySem.W.Frag} {H : Hp} {k : Option Int} {y : V} {u : Value} {P : Program} {w : World} (r : Rep K H (oiT k) y) (ru : RelV y u) : (oiKind P w).is k u = true := by
  cases k with
  | none => cases r; cases ru; rfl
  | some i =>
    cases r
    obtain ⟨t, rfl⟩ := ru
    show Value.isInt i (.int i t) = true
    exact beq_self_eq_true i
theorem valV_oi {kvs : List (Option Int × Int)} {k : Option Int} : valV (oiV kvs) k = (getN kvs k).map V.int := by
  unfold valV getN oiV
  rw [List.find?_map, Option.map_map, Option.map_map]
  rfl
theorem putK_oi {kvs : List (Option Int × Int)} {k : Option Int} {v : Int} : putK (oiV kvs) k (.int v) = oiV (putN kvs k v) := by
  unfold putK putN oiV
  rw [List.any_map]
  have e : ((fun kv : Option Int × V => decide (kv.1 = k)) ∘ fun p : Option Int × Int => (p.1, V.int p.2)) = fun p => decide (p.1 = k) := rfl
  rw [e]
  split
  · rw [List.map_map, List.map_map]
    refine List.map_congr_left fun p _ => ?_
    show (if p.1 = k then (p.1, V.int v) else (p.1, V.int p.2)) = _
    by_cases c : p.1 = k
    · simp [c]
    · simp [c]
  · rw [List.map_append]; rfl
theorem getN_len {kvs : List (Option Int × Int)} {k : Option Int} {v : Int} : (putN kvs k v).length ≤ kvs.length + 1 := by
  unfold putN
  split
  · simp
  · simp
def defN (o : Option Int) (x : Tr) : Tr := match o with
  | some v => .int v
  | none => x
/-- d.get(k, x) -/
def GetNS (d : Tr) (tk tx : TE2) (σ : St2) (M1 : Ms) (Q : Q2) (_ : Fx (d, tk, tx, σ, Q)) : Prop := ∃ a kvs, d = .loc a ∧ M1 a = some (.dcn kvs) ∧ tk σ M1 (fun k M2 => tx σ M2 (fun x M3 => ∃ kvs o, M3 a = some (.dcn kvs) ∧ k = oiT o ∧ Q (defN (getN kvs o) x) M3) X0) X0
def eGet2 (td tk tx : TE2) : TE2 := fun σ M Q E => td σ M (fun d M1 => GetNS d tk tx σ M1 Q .mk) E
theorem isDN {pins : List (Addr × Obj)} {σ : L2.St} {H : Hp} {s : Shared} {a : Addr} {kvs : List (Option Int × Int)} (I : Inv X pins σ H s) (e : H a = some (dnT kvs a)) :
    s.TypeIs (.ref a) "dict" ∧ (∀ b, Value.ref a = .ref b → ∃ ob, s.heap.get? b = some ob ∧ ob.dict = none) := by
  obtain ⟨_, hd, vs, _, dd⟩ := dn_of I.hok e
  refine ⟨dd.typeIs, fun b q => ?_⟩
  cases q
  obtain ⟨ob, _, _, h1, h2, _⟩ := dd
  exact ⟨ob, h1, h2.2.1⟩
theorem pe_dgetN {o : Expr} {td ty tx : TE} (ho : PE X o td) (he : PE X e ty) (hf : PE X f tx) (m : M2 X o "get" apos e f pos) : PE X (.Call (.Attribute o "get" apos) [e, f] [] pos) (fun σ H Q => td σ H fun x H1 => ∃ a kvs, x = .ref a ∧ H1 a = some (dnT kvs a) ∧ ty σ H1 fun y H2 => tx σ H2 fun z H3 =>
    ∃ kvs k, H3 a = some (dnT kvs a) ∧ (∀ u, RelV y u → ∀ P w, (oiKind P w).is k u = true) ∧ Q (((getN kvs k).map V.int).getD z) H3) := by
  refine ⟨fun pins s σ H Q I h => ?_⟩
  refine wpAny_Call_method m.base m.few m.line PySem.F.plainAttrs_dict PySem.F.slot_dict_get PySem.F.type_dict_get (thn (ho.run pins s σ H _ I h) fun u s1 ⟨x, H1, I1, rx, a, kvs0, ex, d, q1⟩ => ?_)
  subst ex
  obtain rfl : u = Value.ref a := rx
  obtain ⟨t1, t2⟩ := isDN I1 d
  refine ⟨t1, t2, ?_⟩
  rw [m.trees]
  refine Calls.callWith_builtin rfl (Calls.evalArgs_plain (Calls.spliced_cons (thn (he.run pins s1 σ H1 _ I1 q1) fun iv s2 ⟨y, H2, I2, ry, q2⟩ =>
    Calls.spliced_cons (thn (hf.run pins s2 σ H2 _ I2 q2) fun fv s3 ⟨z, H3, I3, rz, kvs, k, e3, hk, q3⟩ => Calls.spliced_nil ?_))))
  obtain ⟨_, hd, vs, rel, dd⟩ := dn_of I3.hok e3
  refine call_meetsIn PySem.F.slot_dict_get dd.typeIs PySem.F.entry_dict_get (PySem.F.args_dict_get_3 _ _ _) (meets_dict_get_default (oiKind X.prog X.w) a (hk iv ry _ _) hd fv) ⟨_, dd.mapOf, ⟨_, H3, I3.tok _, ?_, q3⟩⟩
  rw [← valV_oi]
  exact (rel.val k).getD rz
theorem qe_dgetN {o : Expr} {td tk tx : TE2} (ho : QE X W o td) (he : QE X W0 e tk) (hf : QE X W0 f tx) (m : M2 X o "get" apos e f pos) : QE X W (.Call (.Attribute o "get" apos) [e, f] [] pos) (eGet2 td tk tx) :=
  pe_weak (pe_dgetN ho he hf m) fun σ H Q ⟨σ', M, Q', E', hs, hm, q, hq, hx⟩ => ⟨σ', M, _, E', hs, hm, q, fun d M1 x H1 t1 r1 s1 q1 => by
    obtain ⟨a, kvs, e0, e1, q2⟩ := q1
    subst e0
    cases r1
    refine ⟨a, kvs, rfl, s1 a _ e1, σ', M1, _, X0, hs.mono t1, s1, q2, fun k M2 y H2 t2 r2 s2 q3 => ⟨σ', M2, _, X0, (hs.mono t1).mono t2, s2, q3, fun x M3 z H3 t3 r3 s3 ⟨kvs, o, e3, ek, q4⟩ => ⟨kvs, o, s3 a _ e3, fun u ru P w => oi_is (H := H2) (by rw [← ek]; exact r2) ru, ?_⟩, fun _ _ _ _ _ _ z => False.elim z⟩, fun _ _ _ _ _ _ z => False.elim z⟩
    refine hq _ M3 _ H3 ((t1.trans t2).trans t3) ?_ s3 q4
    unfold defN
    cases getN kvs o with
    | none => exact r3
    | some v => exact rfl, hx⟩
@[simp ↓] theorem eGet2_ap {td tk tx : TE2} : eGet2 td tk tx σ M Q E = td σ M (fun d M1 => GetNS d tk tx σ M1 Q .mk) E := rfl
/-- d[k] = v -/
def rPutN : TSet2 := fun o i v M Q => ∃ a kvs k j, o = .loc a ∧ i = oiT k ∧ v = .int j ∧ M a = some (.dcn kvs) ∧ kvs.length < sizeLine ∧ Q (up M a (.dcn (putN kvs k j)))
theorem p_setN : PSet X (lfPut X.K rPutN) := by
  intro pins s σ H o i v ov iv u Q I ro ri rv ⟨d, e, f, M, Q', rd, re, rf, sm, q, hq⟩
  obtain ⟨a, kvs, k, j, rfl, rfl, rfl, el, hz, q⟩ := q
  cases rd
  cases rf
  have hy : H a = some (dnT kvs a) := sm a _ el
  cases ro
  obtain ⟨z, hd, vs, rel, dd⟩ := dn_of I.hok hy
  have hlv : (oiV kvs).length = kvs.length := by simp [oiV]
  have hl2 : vs.length ≤ sizeLine := by rw [← rel.length, hlv]; exact z
  have hl : (putN kvs k j).length ≤ sizeLine := Nat.le_trans getN_len hz
  refine wpAny_setItem_pairs (hsz := hl2) (oi_is re ri) dd fun h' dd' hs => ?_
  have he : ∃ q, h'.get? a = some q := let ⟨q, _, _, hq, _⟩ := dd'; ⟨q, hq⟩
  have rel2 : KV (oiV (putN kvs k j)) (stored vs k u) := by
    have := rel.put k (y := .int j) rv
    rwa [putK_oi] at this
  have T3 : Tx X.K H (upd H a (dnT (putN kvs k j) a)) := Tx.mut hy (fun _ e => nomatch e) fun _ _ e => nomatch e
  exact ⟨_, d_write I (by rw [hy]; exact True.intro) hs he (dn_ok hl hd rel2 dd'), hq _ _ T3 (sm.put (m := .dcn (putN kvs k j)) T3 upd_same) q⟩
theorem p_setNh (hu : X.A.units + 1 < cLine) : PSet X (lfPut X.K rPutN) := p_setN
theorem q_subN {o i : Expr} {to ti : TE2} (ha : PG X (.Subscript o i pos) (gSub (lfE X.K W0 to) (lfE X.K W0 ti) (lfPut X.K rPutN))) : QG X (.Subscript o i pos) (gSb rPutN to ti) [] :=
  pg_weak ha fun v σ H Q ⟨d, σ', M, Q', r, hs, hm, q, hq⟩ => ⟨σ', M, _, X0, hs, hm, q, fun o M1 x H1 t1 r1 s1 q1 => ⟨σ', M1, _, X0, hs.mono t1, s1, q1, fun i M2 y H2 t2 r2 s2 q2 =>
    ⟨o, i, d, M2, _, r1.mono t2, r2, (r.mono t1).mono t2, s2, q2, fun M3 H3 t3 s3 q3 => hq σ' M3 σ H3 ((t1.trans t2).trans t3) (((hs.mono t1).mono t2).mono t3) s3 Agr.refl q3⟩, fun _ _ _ _ _ _ z => False.elim z⟩, fun _ _ _ _ _ _ z => False.elim z⟩
theorem qg_subN {o i : Expr} {to ti : TE2} (ho : QE X W o to) (hi : QE X W i ti)
    (ha : PG X (.Subscript o i pos) (gSub (lfE X.K W to) (lfE X.K W ti) (lfPut X.K rPutN)) := by exact pg_sub (by assumption) (by assumption) p_setN) : QG X (.Subscript o i pos) (gSb rPutN to ti) [] :=
  pg_weak ha fun v σ H Q ⟨d, σ', M, Q', r, hs, hm, q, hq⟩ => ⟨σ', M, _, X0, hs, hm, q, fun o M1 x H1 t1 r1 s1 q1 => ⟨σ', M1, _, X0, hs.mono t1, s1, q1, fun i M2 y H2 t2 r2 s2 q2 =>
    ⟨o, i, d, M2, _, r1.mono t2, r2, (r.mono t1).mono t2, s2, q2, fun M3 H3 t3 s3 q3 => hq σ' M3 σ H3 ((t1.trans t2).trans t3) (((hs.mono t1).mono t2).mono t3) s3 Agr.refl q3⟩, fun _ _ _ _ _ _ z => False.elim z⟩, fun _ _ _ _ _ _ z => False.elim z⟩
def PutNS (o i v : Tr) (M : Ms) (Q : Ms → Prop) (_ : Fx Q) : Prop := ∃ a kvs k j, o = .loc a ∧ i = oiT k ∧ v = .int j ∧ M a = some (.dcn kvs) ∧ kvs.length < sizeLine ∧ Q (up M a (.dcn (putN kvs k j)))
@[simp ↓] theorem gSbN_ap {to ti : TE2} {d : Tr} {N : St2 → Ms → Prop} : gSb rPutN to ti d σ M N = to σ M (fun o M1 => ti σ M1 (fun i M2 => PutNS o i d M2 (fun M3 => N σ M3) .mk) X0) X0 := rfl
@[simp ↓] theorem rPutN_ap {o i v : Tr} {M : Ms} {Q : Ms → Prop} : rPutN o i v M Q = PutNS o i v M Q .mk := rfl
end T

/-! T: isinstance of an error, of several classes. -/
namespace T
open PySem PySem.Spec PyProof.Rows L2
def isxA (f : Value → Value → Option Bool) (M : Ms) (d : Tr) : List Tr → Option Bool
  | [] => some false
  | c :: r => match isxC f M d c with
    | some true => some true
    | some false => isxA f M d r
    | none => none
def rIsxT (f : Value → Value → Option Bool) : RC2 := c2 fun d e M Q => ∃ a D c l b, d = .loc a ∧ M a = some (.exc (.ref D) none) ∧ e = .tup (c :: l) ∧ isxA f M d (c :: l) = some b ∧ Q (.bl b) M
section
variable {X : Cx}
theorem isxA_kit {K : PySem.W.Frag} {M : Ms} {H : Hp} {a D : Addr} (ha : M a = some (.exc (.ref D) none)) (hD : excB K D = true) : ∀ {l : List Tr} {xs : List V} {us : List Value} {b : Bool},
    RepL K H l xs → Vals xs us → isxA (isxK K) M (.loc a) l = some b → PySem.W.kitAny K (.ref D) us = some b
  | [], xs, us, b, r, v, h => by
    cases (show xs = [] from r)
    cases v
    exact h
  | c :: l, xs, us, b, r, v, h => by
    obtain ⟨x, xr, rfl, r1, r2⟩ := r
    cases v with
    | cons v1 v2 =>
    rename_i u ur
    have one : ∀ b1, isxC (isxK K) M (.loc a) c = some b1 → PySem.W.kitOne K (.ref D) u = some b1 := fun b1 e => by
      cases c with
      | loc C =>
        cases r1
        cases (show u = Value.ref C from v1)
        have e2 : isxT (isxK K) (.ref C) M (.loc a) = some b1 := e
        rw [isxT_of ha] at e2
        have e3 : (if excB K D = true then PySem.W.kitOne K (.ref D) (.ref C) else none) = some b1 := e2
        rwa [if_pos hD] at e3
      | ty n =>
        cases r1
        cases (show u = Value.type n from v1)
        have e2 : isxT (isxK K) (.type n) M (.loc a) = some b1 := e
        rw [isxT_of ha] at e2
        have e3 : (if excB K D = true then PySem.W.kitOne K (.ref D) (.type n) else none) = some b1 := e2
        rwa [if_pos hD] at e3
      | _ => cases e
    have h' : (match isxC (isxK K) M (.loc a) c with | some true => some true | some false => isxA (isxK K) M (.loc a) l | none => none) = some b := h
    unfold PySem.W.kitAny
    cases hc : isxC (isxK K) M (.loc a) c with
    | none => rw [hc] at h'; cases h'
    | some b1 =>
      rw [hc] at h'
      rw [one b1 hc]
      cases b1 with
      | true => exact h'
      | false => exact isxA_kit ha hD r2 v2 h'
theorem isxA_exc {K : PySem.W.Frag} {M : Ms} {a D : Addr} (ha : M a = some (.exc (.ref D) none)) {c : Tr} {l : List Tr} {b : Bool} (h : isxA (isxK K) M (.loc a) (c :: l) = some b) : excB K D = true := by
  have h' : (match isxC (isxK K) M (.loc a) c with | some true => some true | some false => isxA (isxK K) M (.loc a) l | none => none) = some b := h
  cases hc : isxC (isxK K) M (.loc a) c with
  | none => rw [hc] at h'; cases h'
  | some b1 =>
    have key : ∀ v, isxT (isxK K) v M (.loc a) = some b1 → excB K D = true := fun v e => by
      rw [isxT_of ha] at e
      have e3 : (if excB K D = true then PySem.W.kitOne K (.ref D) v else none) = some b1 := e
      split at e3
      · assumption
      · cases e3
    cases c with
    | loc C => exact key _ hc
    | ty n => exact key _ hc
    | _ => cases hc
theorem b_isxT : CallR X (.builtin "isinstance") (lfC X.K (rIsxT (isxK X.K))) := by
  intro pins s σ H xs us Q I rv ⟨ds, M, Q', rd, sm, q, hq⟩
  match ds, q with
  | [d, e], q =>
    obtain ⟨x, y, rfl, r1, r2⟩ := two_of rd
    obtain ⟨a, D, c, l, b, rfl, ha, rfl, e1, q⟩ := q
    obtain ⟨u1, u2, rfl, v1, v2⟩ := vals2 rv
    have fin : ∀ tk, (EP X pins σ Q) (.bool b) { s with toks := tk } := fun tk => ⟨.bl b, H, I.tok tk, rfl, hq (.bl _) M _ H Tx.refl rfl sm q⟩
    cases r1
    cases (show u1 = Value.ref a from v1)
    obtain ⟨tp, xs, rfl, hsq, rl⟩ := r2
    cases (show u2 = Value.ref tp from v2)
    obtain ⟨its, vs, ⟨o, ho, hcl, n, hdt⟩, _⟩ := I.tuple hsq
    have z : H a = some (exT (.ref D) none a) := sm a _ ha
    obtain ⟨⟨oe, ve, heo, hz, hd⟩, _, _⟩ := (show ObjOk X.prog X.w H s.heap a (exT (.ref D) none a) from I.hok a _ z)
    have hD := isxA_exc ha e1
    have C := excB_ok hD
    have J : PySem.W.InstAt s.heap a oe D none := by
      obtain ⟨oc, od, oda, osl⟩ := oe
      obtain ⟨h1, h2⟩ := hz
      dsimp only at h1 h2 hd
      subst h1 h2 hd
      exact ⟨heo, rfl, rfl, trivial⟩
    obtain ⟨oc, od, oda, osl⟩ := o
    dsimp only at hcl hdt
    subst hcl hdt
    exact PySem.W.kia_tup (PySem.W.handS_kitx_exc C.hg C.hk C.hs C.hd C.ha C.hn C.ht C.hm) I.kIn J ho (isxA_kit ha hD rl vs e1) (fun z => nomatch z) fin
end
/-- isinstance, of several classes: one stops here -/
def IsxTS (f : Value → Value → Option Bool) (d e : Tr) (M : Ms) (Q : Q2) (_ : Fx Q) : Prop := rIsxT f [d, e] M Q
@[simp ↓] theorem rIsxT_ap {f : Value → Value → Option Bool} {d e : Tr} {M : Ms} {Q : Q2} : rIsxT f [d, e] M Q = IsxTS f d e M Q .mk := rfl
theorem isxT3 {cn : Cn} {y x1 x2 x3 : Str} {a : Addr} {M : Ms} {Q : Q2} {z : Fx Q} (e : M a = some (.exc (cn.cl y) none)) (h1 : cn.isx (cn.cl y) (cn.cl x1) = some false) (h2 : cn.isx (cn.cl y) (cn.cl x2) = some false) (h3 : cn.isx (cn.cl y) (cn.cl x3) = some false) (q : Q (.bl false) M) :
    IsxTS cn.isx (.loc a) (.tup [.loc (cn.ad x1), .loc (cn.ad x2), .loc (cn.ad x3)]) M Q z := by
  refine ⟨a, cn.ad y, _, _, false, rfl, e, rfl, ?_, q⟩
  have k1 : isxC cn.isx M (.loc a) (.loc (cn.ad x1)) = some false := (isxT_of e).trans h1
  have k2 : isxC cn.isx M (.loc a) (.loc (cn.ad x2)) = some false := (isxT_of e).trans h2
  have k3 : isxC cn.isx M (.loc a) (.loc (cn.ad x3)) = some false := (isxT_of e).trans h3
  unfold isxA; rw [k1]
  show isxA _ _ _ _ = _
  unfold isxA; rw [k2]
  show isxA _ _ _ _ = _
  unfold isxA; rw [k3]
  rfl
end T

/-! T: xs[:0:-1]. -/
namespace T
open PySem PySem.Spec PyProof.Rows L2
theorem rv1_idx (n : Nat) : sliceRange (sliceBounds none (some 0) (some (-1)) n).1 (sliceBounds none (some 0) (some (-1)) n).2.1 (sliceBounds none (some 0) (some (-1)) n).2.2 = (List.range (n - 1)).map fun k => n - 1 - k := by
  have e1 : (sliceBounds none (some 0) (some (-1)) n).1 = (n : Int) - 1 := by simp [sliceBounds]
  have e2 : (sliceBounds none (some 0) (some (-1)) n).2.1 = max (-1) (min 0 ((n : Int) - 1)) := by simp [sliceBounds]
  have e3 : (sliceBounds none (some 0) (some (-1)) n).2.2 = -1 := by simp [sliceBounds]
  rw [e1, e2, e3]
  unfold sliceRange
  have ec : ((if (-1 : Int) > 0 then (if ((n : Int) - 1) < max (-1) (min 0 ((n : Int) - 1)) then (max (-1) (min 0 ((n : Int) - 1)) - ((n : Int) - 1) + (-1) - 1) / (-1) else 0)
    else (if ((n : Int) - 1) > max (-1) (min 0 ((n : Int) - 1)) then (((n : Int) - 1) - max (-1) (min 0 ((n : Int) - 1)) - (-1) - 1) / (-(-1)) else 0)) : Int).toNat = n - 1 := by
    rw [if_neg (by decide)]
    split
    · rw [show (-(-1) : Int) = 1 from rfl, Int.ediv_one]; omega
    · omega
  dsimp only
  rw [ec]
  refine List.map_congr_left fun k hk => ?_
  have := List.mem_range.mp hk
  omega
theorem fm_map {α β : Type} {f : α → Option β} {g : α → β} : ∀ {l : List α}, (∀ x ∈ l, f x = some (g x)) → l.filterMap f = l.map g
  | [], _ => rfl
  | x :: l, h => by
    rw [List.filterMap_cons, h x (List.mem_cons_self ..), List.map_cons, fm_map fun y hy => h y (List.mem_cons_of_mem _ hy)]
theorem rv1_get {α : Type} (l : List α) : ((List.range (l.length - 1)).map fun k => l.length - 1 - k).filterMap (fun i => l[i]?) = (l.drop 1).reverse := by
  cases l with
  | nil => rfl
  | cons a r =>
    rw [List.length_cons, Nat.add_sub_cancel, List.drop_one, List.tail_cons, List.filterMap_map]
    apply List.ext_getElem?
    intro i
    have e : ∀ m, m ≤ r.length → (List.range m).filterMap ((fun i => (a :: r)[i]?) ∘ fun k => r.length - k) = (List.range m).map fun k => r.reverse[k]?.getD a := by
      intro m hm
      refine fm_map fun k hk => ?_
      have hk := List.mem_range.mp hk
      have h1 : r.length - k = (r.length - 1 - k) + 1 := by omega
      have h2 : r.length - 1 - k < r.length := by omega
      show (a :: r)[r.length - k]? = some (r.reverse[k]?.getD a)
      rw [h1, List.getElem?_cons_succ, List.getElem?_reverse (by omega), List.getElem?_eq_getElem h2]
      rfl
    rw [e _ (Nat.le_refl _), List.getElem?_map]
    by_cases hi : i < r.length
    · have hi2 : i < r.reverse.length := by rw [List.length_reverse]; exact hi
      rw [List.getElem?_range hi, List.getElem?_eq_getElem hi2]
      show some (r.reverse[i]?.getD a) = _
      rw [List.getElem?_eq_getElem hi2]; rfl
    · rw [List.getElem?_eq_none (by rw [List.length_range]; omega), List.getElem?_eq_none (by rw [List.length_reverse]; omega)]; rfl
theorem rv1_pick (its : List Value) : slicePick its.toArray none (some 0) (some (-1)) = ((its.drop 1).reverse).toArray := by
  unfold slicePick
  rw [rv1_idx]
  have e : (fun x : Nat => its.toArray[x]?) = fun i => its[i]? := by funext i; simp
  rw [e, List.size_toArray, rv1_get]
section
variable {X : Cx} {W : L2.WX} {e : Expr} {ta : TE2}
def tRv1 (K : PySem.W.Frag) (te : TE) : TE := fun σ H Q => te σ H fun x H1 => ∃ a xs, x = .ref a ∧ SqL K H1 a xs ∧ ∀ p, H1 p = none → Q (.ref p) (upd H1 p (.lst (xs.drop 1).reverse))
theorem pe_rv1 {te : TE} {k k0 : Nat} {p0 p1 p2 p3 pos : Pos} (he : PE X e te) : PE X (.Subscript e (.Slice none (some (.Constant (.int 0) k0 p0)) (some (.UnaryOp .USub (.Constant (.int 1) k p1) p2)) p3) pos) (tRv1 X.K te) := by
  refine ⟨fun pins s σ H Q I h => ?_⟩
  refine Subscript_ (thn (he.run pins s σ H _ I h) fun v s1 ⟨x, H1, I1, r1, q1⟩ => ?_)
  obtain ⟨a, xs, ex, hx, q⟩ := q1
  subst ex
  cases r1
  have hst : PO X (some (.UnaryOp .USub (.Constant (.int 1) k p1) p2)) (tPart (tUn (rU fun i => .int (-i)) (tC (.int 1)))) := po_some (pe_un un_neg pe_int)
  have hup : PO X (some (.Constant (.int 0) k0 p0)) (tPart (tC (.int 0))) := po_some pe_int
  refine wpAny_Slice (thn (po_none.run pins s1 σ H1 (fun o H2 => o = none ∧ H2 = H1) I1 ⟨rfl, rfl⟩) fun vl s2 ⟨l, H2, I2, pl, el, e2⟩ => ?_)
  subst el e2
  refine thn (hup.run pins s2 σ H2 (fun o H3 => o = some 0 ∧ H3 = H2) I2 ⟨0, rfl, rfl, rfl⟩) fun vu s3 ⟨u, H3, I3, pu, eu, e3⟩ => ?_
  subst eu e3
  refine thn (hst.run pins s3 σ H3 (fun o H4 => o = some (-1) ∧ H4 = H3) I3 ⟨1, rfl, -1, rfl, rfl, rfl⟩) fun vs s4 ⟨o, H4, I4, ps, eo, e4⟩ => ?_
  subst eo e4
  have I5 : Inv X pins σ H4 { s4 with heap := s4.heap.push { cls := .type "slice", data := .fields #[vl, vu, vs] } } := I4.kept (t' := s4.toks) fun b ob q => Heap.get?_push_of_some _ q
  obtain ⟨its, r, ht, hz⟩ := I5.list hx
  have hlen := r.length
  show wpAny (model X.prog X.w) X.A (subscriptTail e (.Slice none (some (.Constant (.int 0) k0 p0)) (some (.UnaryOp .USub (.Constant (.int 1) k p1) p2)) p3) (.ref a) (.ref s4.heap.objs.size)) (EP X pins σ Q) X.xe { s4 with heap := s4.heap.push { cls := .type "slice", data := .fields #[vl, vu, vs] } }
  refine tail_any (ops := [.ref a, .ref s4.heap.objs.size]) ht.isList.typeIs (PySem.slot_list_getitem.lookup) ?_ (by with_unfolding_all rfl)
  refine wpAny_getItem_list_slice ht.isList (Heap.IsSliceOf.new _ vl vu vs) pl pu ps (by decide) ?_ (by rw [List.size_toArray]; omega)
  rw [rv1_pick]
  refine ⟨.ref _, _, I5.laid (t' := s4.toks) (o := .lst (xs.drop 1).reverse) (fun b ob q => Heap.get?_push_of_some _ q) (Nat.le_refl _) ?_, rfl, q _ (I5.hok.fresh (Nat.le_refl _))⟩
  exact ⟨by rw [List.length_reverse, List.length_drop]; omega, _, 0, (r.drop 1).reverse, Heap.get?_push_size _ rfl⟩
def rRv1 : Tr → Ms → Q2 → Prop := fun d M Q => match d with
  | .loc a => ∃ ds, seqT (.loc a) M = some ds ∧ ∀ p, M p = none → Q (.loc p) (up M p (.lst (ds.drop 1).reverse))
  | _ => False
def eRv1 (ta : TE2) : TE2 := fun σ M Q E => ta σ M (fun d M1 => rRv1 d M1 Q) E
theorem qe_rv1 {k k0 : Nat} {p0 p1 p2 p3 pos : Pos} (he : QE X W e ta) : QE X W (.Subscript e (.Slice none (some (.Constant (.int 0) k0 p0)) (some (.UnaryOp .USub (.Constant (.int 1) k p1) p2)) p3) pos) (eRv1 ta) :=
  pe_weak (pe_rv1 he) fun σ H Q ⟨σ', M, Q', E', hs, hm, q, hq, hx⟩ => ⟨σ', M, _, E', hs, hm, q, fun d M1 x H1 t1 r1 s1 q1 => by
    cases d with
    | loc a =>
      obtain ⟨ds, e1, q⟩ := q1
      cases r1
      obtain ⟨xs, q2, rl⟩ := s1 a _ (seqT_loc e1)
      exact ⟨a, xs, rfl, SqL.of q2, fun p hp => new_lst (hq.mono t1) (rl.drop 1).rev s1 hp q⟩
    | _ => exact q1.elim, hx⟩
@[simp ↓] theorem eRv1_ap {σ : St2} {M : Ms} {Q : Q2} {E : X2} : eRv1 ta σ M Q E = ta σ M (fun d M1 => rRv1 d M1 Q) E := rfl
@[simp ↓] theorem rRv1_loc {a : Addr} {M : Ms} {Q : Q2} : rRv1 (.loc a) M Q = kS (.loc a) M fun l => NewL M (l.drop 1).reverse Q .mk := by
  have e : rRv1 (.loc a) M Q = ∃ ds, seqT (.loc a) M = some ds ∧ NewL M (ds.drop 1).reverse Q .mk := rfl
  rw [e, kS_of]
end
end T

/-! S: what the shared defs do. -/
namespace T
open PySem PySem.Spec PyProof.Rows L2
theorem tyT_mem {d : Tr} {M : Ms} {t : String} (h : tyT d M = some t) : t = "NoneType" ∨ t = "bool" ∨ t = "int" ∨ t = "str" ∨ t = "tuple" ∨ t = "list" ∨ t = "dict" := by
  cases d with
  | loc a =>
    simp only [tyT] at h
    split at h
    · cases h; simp
    · cases h; simp
    · cases h
  | ty n => cases h
  | _ => cases h; simp
theorem tyT_int {d : Tr} {M : Ms} (h : tyT d M = some "int") : ∃ i, d = .int i := by
  cases d with
  | loc a =>
    simp only [tyT] at h
    split at h <;> simp at h
  | int i => exact ⟨i, rfl⟩
  | _ => simp [tyT] at h
theorem tyT_str {d : Tr} {M : Ms} (h : tyT d M = some "str") : ∃ i, d = .str i := by
  cases d with
  | loc a =>
    simp only [tyT] at h
    split at h <;> simp at h
  | str i => exact ⟨i, rfl⟩
  | _ => simp [tyT] at h
/-! ### is_integer, is_below, is_mark -/
def sp_is_integer : Sp2 := A1 fun a M Q _ => ∃ t, tyT a M = some t ∧ Q (.bl (decide (t = "int"))) M
def n_is_integer : List Str := "thing" :: []
def b_is_integer : TS2 := (sRt (eAn (eB rIsi2 (aCons (eVar 0) (aCons (eC (.ty "int")) aNil))) (eNo (eB rIsi2 (aCons (eVar 0) (aCons (eC (.ty "bool")) aNil))))))
theorem sem_is_integer : ∀ ds M Q E, sp_is_integer ds M Q E → b_is_integer (fEnds Q E) (start2 n_is_integer ds) M := by
  rintro ds M Q E ⟨a, rfl, t, ht, hq⟩
  have hk : ∃ b, kitB t "int" = some b ∧ (b = true → ∃ b2, kitB t "bool" = some b2 ∧ (!b2) = decide (t = "int")) ∧ (b = false → decide (t = "int") = false) := by
    rcases tyT_mem ht with h | h | h | h | h | h | h <;> subst h
    · exact ⟨false, rfl, by simp, by decide⟩
    · exact ⟨true, rfl, fun _ => ⟨true, rfl, by decide⟩, by simp⟩
    · exact ⟨true, rfl, fun _ => ⟨false, rfl, by decide⟩, by simp⟩
    · exact ⟨false, rfl, by simp, by decide⟩
    · exact ⟨false, rfl, by simp, by decide⟩
    · exact ⟨false, rfl, by simp, by decide⟩
    · exact ⟨false, rfl, by simp, by decide⟩
  obtain ⟨b, hb, h1, h2⟩ := hk
  simp only [b_is_integer, start2, n_is_integer]
  cases b with
  | true =>
    obtain ⟨b2, hb2, e⟩ := h1 rfl
    simp [↓kY_of ht hb, ↓kY_of ht hb2, e]
    exact Fg.same hq
  | false =>
    have e := h2 rfl
    rw [e] at hq
    simp [↓kY_of ht hb]
    exact Fg.same hq
def blw (a : Tr) (j : Int) : Bool := match a with
  | .int i => decide (0 ≤ i ∧ i < j)
  | _ => false
@[simp] theorem blw_int {i j : Int} : blw (.int i) j = decide (0 ≤ i ∧ i < j) := rfl
theorem blw_no {a : Tr} {j : Int} {M : Ms} {t : String} (h : tyT a M = some t) (n : t ≠ "int") : blw a j = false := by
  cases a <;> first | rfl | (exfalso; apply n; cases h; rfl)
def sp_is_below : Sp2 := A2 fun a b M Q _ => ∃ t j, tyT a M = some t ∧ b = .int j ∧ Q (.bl (blw a j)) M
def n_is_below : List Str := "thing" :: "bound" :: []
def b_is_below : TS2 := (sRt (eAn (eCall sp_is_integer [] (aCons (eVar 0) aNil)) (eChain rLeI rLtI (eC (.int 0)) (eVar 0) (eVar 1))))
theorem sem_is_below : ∀ ds M Q E, sp_is_below ds M Q E → b_is_below (fEnds Q E) (start2 n_is_below ds) M := by
  rintro ds M Q E ⟨a, b, rfl, t, j, ht, rfl, hq⟩
  simp only [b_is_below, start2, n_is_below]
  simp
  refine ⟨_, rfl, t, ht, ?_⟩
  by_cases c : t = "int"
  · subst c
    obtain ⟨i, rfl⟩ := tyT_int ht
    simp
    by_cases h0 : 0 ≤ i
    · simp [h0] at hq ⊢
      exact Fg.same hq
    · simp [h0] at hq ⊢
      exact Fg.same hq
  · rw [blw_no ht c] at hq
    simp [c]
    exact Fg.same hq
/-- a mark -/
def isMk (a : Tr) : Bool := match a with
  | .str z => decide (z.length = 1) && strIn z "abcdefgh"
  | _ => false
def sp_is_mark : Sp2 := A1 fun a M Q _ => ∃ t, tyT a M = some t ∧ (∀ z, a = .str z → z.length ≤ sizeLine) ∧ Q (.bl (isMk a)) M
def n_is_mark : List Str := "thing" :: []
def b_is_mark : TS2 := (sRt (eAn (eB rIsi2 (aCons (eVar 0) (aCons (eC (.ty "str")) aNil))) (eAn (eOp (rEqG id) (eB rLen2 (aCons (eVar 0) aNil)) (eC (.int 1))) (eOp (rInX id) (eVar 0) (eC (.str "abcdefgh"))))))
theorem sem_is_mark : ∀ ds M Q E, sp_is_mark ds M Q E → b_is_mark (fEnds Q E) (start2 n_is_mark ds) M := by
  rintro ds M Q E ⟨a, rfl, t, ht, hz, hq⟩
  simp only [b_is_mark, start2, n_is_mark]
  by_cases c : t = "str"
  · subst c
    obtain ⟨z, rfl⟩ := tyT_str ht
    have kb : kitB "str" "str" = some true := rfl
    simp [↓kY_of ht kb, ↓kL_str (hz z rfl)]
    by_cases h1 : z.length = 1
    · simp [isMk, h1] at hq
      simp [h1]
      exact Fg.same hq
    · simp [isMk, h1] at hq
      have h2 : ¬ ((z.length : Int) = 1) := by omega
      simp [h2]
      exact Fg.same hq
  · have e : isMk a = false := by
      cases a <;> first | rfl | (exfalso; apply c; cases ht; rfl)
    have kb : kitB t "str" = some false := by
      rcases tyT_mem ht with h | h | h | h | h | h | h <;> subst h <;> first | rfl | exact absurd rfl c
    rw [e] at hq
    simp [↓kY_of ht kb]
    exact Fg.same hq
/-! ### documents -/
abbrev Doc := List (Str × Nat)
def entT (e : Str × Nat) : Tr := .tup [.str e.1, .int e.2]
def docT (d : Doc) : Tr := .tup (d.map entT)
def Vd : Nat → Doc → Prop
  | _, [] => True
  | m, e :: r => isMk (.str e.1) = true ∧ e.2 ≤ m ∧ Vd (e.2 + 1) r
def Val (d : Doc) : Prop := Vd 0 d ∧ d.length ≤ 20000
theorem isMk_len {z : Str} (h : isMk (.str z) = true) : z.length ≤ sizeLine := by
  simp only [isMk, Bool.and_eq_true, decide_eq_true_eq] at h
  rw [sizeLine_eq]; omega
theorem small_line {n : Nat} (h : n ≤ 100000) : n ≤ sizeLine := by rw [sizeLine_eq]; omega
theorem small_lt {n : Nat} (h : n ≤ 100000) : n < sizeLine := by rw [sizeLine_eq]; omega
/-- trees of tuples over things of known types -/
inductive Wf (M : Ms) : Tr → Prop where
  | leaf (t : Tr) (s : String) (h : tyT t M = some s) (hz : ∀ z, t = .str z → z.length ≤ 100000) (hn : s ≠ "tuple") : Wf M t
  | tup (l : List Tr) (h : ∀ x ∈ l, Wf M x) (hl : l.length ≤ 100000) : Wf M (.tup l)
theorem Wf.ty {M : Ms} {t : Tr} (h : Wf M t) : ∃ s, tyT t M = some s := by
  cases h with
  | leaf _ s h _ _ => exact ⟨s, h⟩
  | tup l _ _ => exact ⟨_, rfl⟩
theorem Wf.str {M : Ms} {t : Tr} (h : Wf M t) : ∀ z, t = .str z → z.length ≤ sizeLine := fun z e => by
  cases h with
  | leaf _ s _ hz _ => exact small_line (hz z e)
  | tup l _ _ => cases e
theorem tyT_le {M M' : Ms} (l : ∀ a o, M a = some o → M' a = some o) {t : Tr} {s : String} (h : tyT t M = some s) : tyT t M' = some s := by
  cases t with
  | loc a =>
    simp only [tyT] at h ⊢
    cases hc : M a with
    | none => rw [hc] at h; cases h
    | some o => rw [l a o hc]; rw [hc] at h; exact h
  | _ => exact h
theorem Wf.le {M M' : Ms} (l : ∀ a o, M a = some o → M' a = some o) {t : Tr} (h : Wf M t) : Wf M' t := by
  induction h with
  | leaf t s h hz hn => exact .leaf t s (tyT_le l h) hz hn
  | tup ls _ hl ih => exact .tup ls ih hl
theorem kY_ntup {t : Tr} {M : Ms} {s : String} {P : Bool → Prop} (h : tyT t M = some s) (hn : s ≠ "tuple") : kY t M "tuple" P = P false := kY_of h (by
  rcases tyT_mem h with q | q | q | q | q | q | q <;> subst q <;> first | rfl | exact absurd rfl hn)
def entsB : Nat → List Tr → Bool
  | _, [] => true
  | m, .tup [a, .int z] :: r => isMk a && (decide (0 ≤ z) && (decide (z ≤ m) && entsB (z.toNat + 1) r))
  | _, _ :: _ => false
def docB : Tr → Bool
  | .tup l => decide (l.length ≤ 20000) && entsB 0 l
  | _ => false
theorem entsB_iff : ∀ {l : List Tr} {m : Nat}, entsB m l = true ↔ ∃ d, l = d.map entT ∧ Vd m d := by
  intro l
  induction l with
  | nil => intro m; exact ⟨fun _ => ⟨[], rfl, trivial⟩, fun _ => rfl⟩
  | cons e r ih =>
    intro m
    constructor
    · intro h
      unfold entsB at h
      split at h
      · rename_i h0; cases h0
      · rename_i a z r' h0
        cases h0
        simp only [Bool.and_eq_true, decide_eq_true_eq] at h
        obtain ⟨h1, h2, h3, h4⟩ := h
        obtain ⟨d, rfl, hd⟩ := ih.mp h4
        cases a with
        | str x => exact ⟨(x, z.toNat) :: d, by simp [entT]; omega, h1, by omega, hd⟩
        | _ => cases h1
      · cases h
    · rintro ⟨d, hd, hv⟩
      cases d with
      | nil => cases hd
      | cons x d =>
        simp only [List.map_cons, List.cons.injEq] at hd
        obtain ⟨rfl, rfl⟩ := hd
        obtain ⟨h1, h2, h3⟩ := hv
        have : entsB (x.2 + 1) (d.map entT) = true := ih.mpr ⟨d, rfl, h3⟩
        simp [entT, entsB, h1, this]
        omega
theorem docB_iff {t : Tr} : docB t = true ↔ ∃ d, t = docT d ∧ Val d := by
  constructor
  · intro h
    cases t with
    | tup l =>
      simp only [docB, Bool.and_eq_true, decide_eq_true_eq] at h
      obtain ⟨d, rfl, hd⟩ := entsB_iff.mp h.2
      exact ⟨d, rfl, hd, by simpa using h.1⟩
    | _ => cases h
  · rintro ⟨d, rfl, hv, hl⟩
    simp only [docT, docB, Bool.and_eq_true, decide_eq_true_eq]
    exact ⟨by simpa using hl, entsB_iff.mpr ⟨d, rfl, hv⟩⟩
def entOk (m : Nat) (e : Tr) : Prop := ∃ a z, e = .tup [a, .int z] ∧ isMk a = true ∧ 0 ≤ z ∧ z ≤ (m : Int)
theorem entsB_yes {m : Nat} {a : Tr} {z : Int} {r : List Tr} (h1 : isMk a = true) (h2 : 0 ≤ z) (h3 : z ≤ (m : Int)) : entsB m (.tup [a, .int z] :: r) = entsB (z.toNat + 1) r := by
  simp [entsB, h1, h2, h3]
theorem entsB_no {m : Nat} {e : Tr} {r : List Tr} (h : ¬ entOk m e) : entsB m (e :: r) = false := by
  unfold entsB
  split
  · rename_i h0; cases h0
  · rename_i a z r' h0
    cases h0
    rw [Bool.eq_false_iff]
    intro hc
    simp only [Bool.and_eq_true, decide_eq_true_eq] at hc
    exact h ⟨a, z, rfl, hc.1, hc.2.1, hc.2.2.1⟩
  · rfl
def sp_is_forest : Sp2 := A1 fun a M Q _ => (∃ d, a = docT d ∧ Val d ∧ Q (.bl true) M) ∨ (Wf M a ∧ Q (.bl (docB a)) M)
def n_is_forest : List Str := "thing" :: "most" :: "entry" :: []
def b_is_forest : TS2 := (sSq (sIf (tOrr (tNo (tTr (eB rIsi2 (aCons (eVar 0) (aCons (eC (.ty "tuple")) aNil))))) (tCm (eOp rGtI (eB rLen2 (aCons (eVar 0) aNil)) (eC (.int 20000))))) (sRt (eC (.bl false))) sNx)
  (sSq (sAs (eC (.int 0)) (gN 1))
  (sSq (sFo (iSq (eVar 0)) (gN 2) (sSq (sIf (tOrr (tNo (tTr (eB rIsi2 (aCons (eVar 2) (aCons (eC (.ty "tuple")) aNil))))) (tCm (eOp (rEqG not) (eB rLen2 (aCons (eVar 2) aNil)) (eC (.int 2))))) (sRt (eC (.bl false))) sNx)
  (sSq (sIf (tOrr (tNo (tTr (eCall sp_is_mark [] (aCons (eOp rIx2 (eVar 2) (eC (.int 0))) aNil)))) (tNo (tTr (eCall sp_is_below [] (aCons (eOp rIx2 (eVar 2) (eC (.int 1))) (aCons (eOp rAdd2 (eVar 1) (eC (.int 1))) aNil)))))) (sRt (eC (.bl false))) sNx)
  (sAs (eOp rAdd2 (eOp rIx2 (eVar 2) (eC (.int 1))) (eC (.int 1))) (gN 1)))))
  (sRt (eC (.bl true))))))
theorem kY_tup {l : List Tr} {M : Ms} {P : Bool → Prop} : kY (.tup l) M "tuple" P = P true := kY_of rfl rfl
theorem is_forest_any {M : Ms} {Q : Q2} {E : X2} {a : Tr} (hw : Wf M a) (hq : Q (.bl (docB a)) M) : b_is_forest (fEnds Q E) (start2 n_is_forest [a]) M := by
  have hq := Fg.same hq
  simp only [b_is_forest, start2, n_is_forest]
  cases hw with
  | leaf _ s h hz hn =>
    have e : docB a = false := by cases a <;> first | rfl | exact absurd (by cases h; rfl) hn
    rw [e] at hq
    simp [↓kY_ntup h hn]
    exact hq
  | tup l hw hl =>
    by_cases c : l.length ≤ 20000
    · have e : docB (.tup l) = entsB 0 l := by simp [docB, c]
      rw [e] at hq
      have hn : ¬ ((20000 : Int) < l.length) := by omega
      simp [↓kY_tup, hn]
      refine for_itL (fun i σ M' => M' = M ∧ ∃ (m : Nat) (x : Option Tr), σ = [some (.tup l), some (.int m), x] ∧ entsB m (l.drop i) = entsB 0 l) ⟨rfl, 0, none, rfl, rfl⟩ ?_ ?_ ?_
      · rintro i σ M' _ ⟨rfl, _⟩
        rfl
      · rintro i e σ M' he ⟨rfl, m, x, rfl, hd⟩
        obtain ⟨hi, he2⟩ := List.getElem?_eq_some_iff.mp he
        rw [List.drop_eq_getElem_cons hi, he2] at hd
        have he3 := hw e (List.mem_of_getElem? he)
        by_cases ce : entOk m e
        · obtain ⟨a, z, rfl, h1, h2, h3⟩ := ce
          rw [entsB_yes h1 h2 h3] at hd
          have hb : blw (.int z) ((m : Int) + 1) = true := by simp; omega
          cases he3 with
          | leaf _ s h hz hn => exact absurd (by cases h; rfl) hn
          | tup _ hw2 _ =>
          obtain ⟨sa, ha⟩ := (hw2 a (by simp)).ty
          simp [↓kY_tup]
          refine ⟨_, rfl, sa, ha, (hw2 a (by simp)).str, ?_⟩
          simp [h1]
          refine ⟨_, _, rfl, "int", _, rfl, rfl, ?_⟩
          rw [hb]
          simp
          exact ⟨z.toNat + 1, by omega, hd⟩
        · rw [← hd, entsB_no ce] at hq
          cases he3 with
          | leaf _ s h hz hn =>
            simp [↓kY_ntup h hn]
            exact hq
          | tup es hw2 hl2 =>
            simp [↓kY_tup]
            match es, hw2, ce with
            | [a, b], hw2, ce =>
              obtain ⟨sa, ha⟩ := (hw2 a (by simp)).ty
              obtain ⟨sb, hb⟩ := (hw2 b (by simp)).ty
              simp
              refine ⟨_, rfl, sa, ha, (hw2 a (by simp)).str, ?_⟩
              by_cases c1 : isMk a = true
              · simp [c1]
                refine ⟨_, _, rfl, sb, _, hb, rfl, ?_⟩
                have c2 : blw b ((m : Int) + 1) = true → False := fun h2 => by
                  cases b with
                  | int z =>
                    simp at h2
                    exact ce ⟨a, z, rfl, c1, h2.1, by omega⟩
                  | _ => cases h2
                have c3 : blw b ((m : Int) + 1) = false := by
                  cases h : blw b ((m : Int) + 1) with
                  | true => exact (c2 h).elim
                  | false => rfl
                rw [c3]
                simp
                exact hq
              · simp [c1]
                exact hq
            | [], _, _ => simp; exact hq
            | [a], _, _ => simp; exact hq
            | a :: b :: c :: r, _, _ =>
              have : ¬ ((r.length : Int) + 1 + 1 + 1 = 2) := by omega
              simp [this]
              exact hq
      · rintro σ M' ⟨rfl, m, x, rfl, hd⟩
        have : l.drop l.length = [] := List.drop_length
        rw [this] at hd
        have hd : true = entsB 0 l := hd
        rw [← hd] at hq
        simp
        exact hq
    · have e : docB (.tup l) = false := by simp [docB, c]
      rw [e] at hq
      have hn : ((20000 : Int) < l.length) := by omega
      simp [↓kY_tup, hn]
      exact hq
theorem sem_is_forest : ∀ ds M Q E, sp_is_forest ds M Q E → b_is_forest (fEnds Q E) (start2 n_is_forest ds) M := by
  rintro ds M Q E ⟨a, rfl, h⟩
  rcases h with ⟨d, rfl, ⟨hv, hl⟩, hq⟩ | ⟨hw, hq⟩
  rotate_left
  · exact is_forest_any hw hq
  have hn : ¬ ((20000 : Int) < d.length) := by omega
  simp only [b_is_forest, start2, n_is_forest]
  simp [docT, ↓kY_tup, hn]
  refine for_itL (fun i σ M' => M' = M ∧ ∃ (m : Nat) (x : Option Tr), σ = [some (docT d), some (.int m), x] ∧ Vd m (d.drop i)) ⟨rfl, 0, none, rfl, hv⟩ ?_ ?_ ?_
  · rintro i σ M' _ ⟨rfl, _⟩
    rfl
  · rintro i e σ M' he ⟨rfl, m, x, rfl, hd⟩
    rw [List.getElem?_map] at he
    cases hc : d[i]? with
    | none => rw [hc] at he; cases he
    | some en =>
      rw [hc] at he
      cases he
      have hi := (List.getElem?_eq_some_iff.mp hc)
      obtain ⟨hi, he⟩ := hi
      rw [List.drop_eq_getElem_cons hi, he] at hd
      obtain ⟨h1, h2, h3⟩ := hd
      have hb : blw (.int en.2) ((m : Int) + 1) = true := by
        simp; omega
      simp [entT, ↓kY_tup]
      refine ⟨_, rfl, "str", rfl, fun z e => by cases e; exact isMk_len h1, ?_⟩
      simp [h1]
      refine ⟨_, _, rfl, "int", _, rfl, rfl, ?_⟩
      rw [hb]
      simp
      exact ⟨en.2 + 1, by simp, h3⟩
  · rintro σ M' ⟨rfl, m, x, rfl, _⟩
    simp
    exact Fg.same hq
def sp_need_document : Sp2 := A1 fun a M Q _ => ∃ d, a = docT d ∧ Val d ∧ Q .non M
def n_need_document : List Str := "document" :: []
def b_need_document : TS2 := (sIf (tNo (tTr (eCall sp_is_forest [] (aCons (eVar 0) aNil)))) sNv sNx)
theorem sem_need_document : ∀ ds M Q E, sp_need_document ds M Q E → b_need_document (fEnds Q E) (start2 n_need_document ds) M := by
  rintro ds M Q E ⟨a, rfl, d, rfl, hv, hq⟩
  simp only [b_need_document, start2, n_need_document]
  simp
  refine ⟨_, rfl, .inl ⟨d, rfl, hv, ?_⟩⟩
  simp
  exact Fg.same hq
/-! ### the size of ints -/
def Bd (n : Nat) (z : Int) : Prop := z.natAbs < 2 ^ n
theorem bits_le {n : Nat} {z : Int} (h : Bd n z) : Builtin.Int.intBits z ≤ n := by
  unfold Builtin.Int.intBits
  by_cases c : z = 0
  · subst c; simp
  · have h0 : z.natAbs ≠ 0 := by omega
    have := (Nat.log2_lt h0).mpr h
    simp [c]; omega
theorem Bd.of_bits {n : Nat} {z : Int} (h : Builtin.Int.intBits z ≤ n) : Bd n z := by
  unfold Builtin.Int.intBits at h
  by_cases c : z = 0
  · subst c; unfold Bd; simp; exact Nat.pow_pos (by decide)
  · have h0 : z.natAbs ≠ 0 := by omega
    simp [c] at h
    exact (Nat.log2_lt h0).mp (by omega)
theorem Bd.mono {n m : Nat} {z : Int} (h : Bd n z) (l : n ≤ m) : Bd m z := Nat.lt_of_lt_of_le h (Nat.pow_le_pow_right (by decide) l)
theorem Bd.add {n : Nat} {y z : Int} (h : Bd n y) (h' : Bd n z) : Bd (n + 1) (y + z) := by
  unfold Bd at *
  rw [Nat.pow_succ]
  have := Int.natAbs_add_le y z
  omega
theorem Bd.mul {n m : Nat} {y z : Int} (h : Bd n y) (h' : Bd m z) : Bd (n + m) (y * z) := by
  unfold Bd at *
  rw [Int.natAbs_mul, Nat.pow_add]
  exact Nat.mul_lt_mul'' h h'
theorem Bd.le {n : Nat} {y z : Int} (h : Bd n z) (h0 : 0 ≤ y) (l : y ≤ z) : Bd n y := by
  unfold Bd at *
  omega
theorem Bd.lt64 {y : Int} (h0 : 0 ≤ y) (l : y < 18446744073709551616) : Bd 64 y := by
  unfold Bd
  have : (2 : Nat) ^ 64 = 18446744073709551616 := by decide
  omega
theorem CMulX.of {n m : Nat} {y z : Int} (h : Bd n y) (h' : Bd m z) (l : n + m ≤ 134217728) : CMulX y z := by
  have a := bits_le h
  have b := bits_le h'
  unfold CMulX
  omega
/-! ### what a feed is -/
/-- the feed's list: n draws at most, since it was made -/
def FeedO (n : Nat) (o : MO) : Prop := ∃ a b c : Int, o = .lst [.int a, .int b, .int c] ∧ 0 ≤ a ∧ Bd 2000000 a ∧ 0 ≤ b ∧ b < 1000000000000000000000000000000000000023 ∧ 0 ≤ c ∧ c ≤ n
theorem FeedO.mono {n m : Nat} {o : MO} (h : FeedO n o) (l : n ≤ m) : FeedO m o := by
  obtain ⟨a, b, c, h1, h2, h3, h4, h5, h6, h7⟩ := h
  exact ⟨a, b, c, h1, h2, h3, h4, h5, h6, by omega⟩
def Script (ns : List Int) : Prop := ns.length ≤ 63 ∧ ∀ z ∈ ns, Builtin.Int.intBits z ≤ 1048576
abbrev scT (ns : List Int) : Tr := .fro (ns.map Tr.int)
end T

/-! S: draws. -/
namespace T
open PySem PySem.Spec PyProof.Rows L2
@[simp] theorem cpow18 : CPow 10 18 := by unfold CPow; decide
@[simp] theorem cpow39 : CPow 10 39 := by unfold CPow; decide
@[simp] theorem cpow43 : CPow 10 43 := by unfold CPow; decide
@[simp] theorem cpow38 : CPow 10 38 := by unfold CPow; decide
@[simp] theorem cpow9 : CPow 10 9 := by unfold CPow; decide
@[simp] theorem sl2' : 2 ≤ sizeLine := small_line (by decide)
@[simp] theorem sl3' : 3 ≤ sizeLine := small_line (by decide)
@[simp] theorem sl4' : 4 ≤ sizeLine := small_line (by decide)
@[simp] theorem sl5' : 5 ≤ sizeLine := small_line (by decide)
@[simp] theorem sl6' : 6 ≤ sizeLine := small_line (by decide)
@[simp] theorem sl7' : 7 ≤ sizeLine := small_line (by decide)
theorem feed_fin {cell : Int} {k : Nat} (h : Bd 1048577 cell) : FeedO 0 (.lst [.int (if 1000000000000000000 < cell then cell - 1000000000000000000 else 0), .int ((cell * 19 + 7 * (k : Int)) % 1000000000000000000000000000000000000023), .int 0]) := by
  refine ⟨_, _, _, rfl, ?_, ?_, Int.emod_nonneg _ (by decide), Int.emod_lt_of_pos _ (by decide), Int.le_refl 0, Int.le_refl _⟩
  · split <;> omega
  · split
    · exact (Bd.le (h.mono (by decide : 1048577 ≤ 2000000)) (by omega) (by omega))
    · exact (Bd.lt64 (by decide) (by decide)).mono (by decide)
theorem bd_take {ns : List Int} (hs : ∀ z ∈ ns, Builtin.Int.intBits z ≤ 1048576) : Bd 1048576 (ns.take 1).sum := by
  cases ns with
  | nil => exact (Bd.lt64 (y := 0) (by decide) (by decide)).mono (by decide)
  | cons n r =>
    have : ((n :: r).take 1).sum = n := by simp
    rw [this]
    exact .of_bits (hs n List.mem_cons_self)
def sp__law_feed : Sp2 := A2 fun a b M Q _ => ∃ (ns : List Int) (k : Nat), a = scT ns ∧ b = .int k ∧ Script ns ∧ k ≤ 1000000 ∧ ∀ p o, M p = none → FeedO 0 o → Q (.loc p) (up M p o)
def n__law_feed : List Str := "script" :: "k" :: "cell" :: []
def b__law_feed : TS2 := (sSq (sAs (eOp rAdd2 (eOp rMul2 (eC (.int 977)) (eVar 1)) (eB rSum2 (aCons (eSl rSl2 (eVar 0) oNo (oPart (eC (.int 1)))) aNil))) (gN 2))
  (sSq (sIf (tCm (eOp rLtI (eVar 1) (eB rLen2 (aCons (eVar 0) aNil)))) (sAs (eOp rIx2 (eVar 0) (eVar 1)) (gN 2)) sNx)
  (sRt (eLst (aCons (eB rMax2 (aCons (eC (.int 0)) (aCons (eOp rSub2 (eVar 2) (eOp rPow2 (eC (.int 10)) (eC (.int 18)))) aNil))) (aCons (eOp rMod2 (eB rInt2 (aCons (eOp rAdd2 (eOp rMul2 (eVar 2) (eC (.int 19))) (eOp rMul2 (eC (.int 7)) (eVar 1))) aNil)) (eOp rAdd2 (eOp rPow2 (eC (.int 10)) (eC (.int 39))) (eC (.int 23)))) (aCons (eC (.int 0)) aNil)))))))
theorem sem__law_feed : ∀ ds M Q E, sp__law_feed ds M Q E → b__law_feed (fEnds Q E) (start2 n__law_feed ds) M := by
  rintro ds M Q E ⟨a, b, rfl, ns, k, rfl, rfl, ⟨hl, hs⟩, h1, hq⟩
  have hk : Bd 64 (k : Int) := Bd.lt64 (by omega) (by omega)
  have l977 : Bd 64 977 := Bd.lt64 (y := 977) (by decide) (by decide)
  have l7 : Bd 64 7 := Bd.lt64 (y := 7) (by decide) (by decide)
  have l19 : Bd 64 19 := Bd.lt64 (y := 19) (by decide) (by decide)
  have c1 : CMulX 977 (k : Int) := CMulX.of l977 hk (by decide)
  have c7 : CMulX 7 (k : Int) := CMulX.of l7 hk (by decide)
  have fin : ∀ (M' : Ms) (cell : Int), Le M M' → Bd 1048577 cell → ∀ p, M' p = none → Fg Q (Tr.loc p) (up M' p (.lst [.int (if 1000000000000000000 < cell then cell - 1000000000000000000 else 0), .int ((cell * 19 + 7 * (k : Int)) % 1000000000000000000000000000000000000023), .int 0])) :=
    fun M' cell l b p hp => Fg.le l.up (hq p _ (l.none hp) (feed_fin b))
  simp only [b__law_feed, start2, n__law_feed]
  simp [c1]
  intro p hp
  have hc : cutT (ns.map Tr.int) none (some 1) = (ns.take 1).map Tr.int := by
    rw [show (some (1 : Int)) = some ((1 : Nat) : Int) from rfl, cutT_hi, List.map_take]
  rw [hc]
  have hb0 := bd_take hs
  have hs2 : Bd 1048577 (977 * (k : Int) + (ns.take 1).sum) := ((l977.mul hk).mono (by decide)).add hb0
  have cx0 : CMulX (977 * (k : Int) + (ns.take 1).sum) 19 := CMulX.of hs2 l19 (by decide)
  refine ⟨ns.take 1, seqT_lst up_same, (fun _ e => nomatch e), ?_⟩
  simp
  split
  · rename_i hk2
    have hk3 : k < ns.length := by omega
    have hb : Bd 1048576 ns[k] := .of_bits (hs _ (List.getElem_mem hk3))
    have cx : CMulX ns[k] 19 := CMulX.of hb l19 (by decide)
    have ea : (ns.map Tr.int)[k]? = some (.int ns[k]) := by simp [hk3]
    simp [↓kAt_get ea, cx, c7]
    intro p2 hp2
    exact fin _ _ (Le.new hp) (hb.mono (by decide)) p2 hp2
  · simp [cx0, c7]
    intro p2 hp2
    exact fin _ _ (Le.new hp) hs2 p2 hp2
def sp__law_draw : Sp2 := A2 fun a b M Q _ => ∃ (f : Addr) (m : Int) (n : Nat) (o : MO), a = .loc f ∧ b = .int m ∧ 1 ≤ m ∧ m ≤ 1000000000000000000000000000000000000000000000000000000000000 ∧ n ≤ 1000000000 ∧ M f = some o ∧ FeedO n o ∧ ∀ r o', 0 ≤ r → r < m → FeedO (n + 1) o' → Q (.int r) (up M f o')
def n__law_draw : List Str := "feed" :: "many" :: "rest" :: "got" :: "stir" :: []
def b__law_draw : TS2 := (sSq (sIf (tCm (eOp rGtI (eOp rIx2 (eVar 0) (eC (.int 0))) (eC (.int 0)))) (sSq (sAs (eOp rDiv2 (eOp rIx2 (eVar 0) (eC (.int 0))) (eVar 1)) (gN 2))
  (sSq (sAs (eOp rSub2 (eOp rIx2 (eVar 0) (eC (.int 0))) (eOp rMul2 (eVar 2) (eVar 1))) (gN 3))
  (sSq (sAs (eVar 2) (gSb rPut2 (eVar 0) (eC (.int 0))))
  (sRt (eVar 3))))) sNx)
  (sSq (sAs (eOp rAdd2 (eOp rIx2 (eVar 0) (eC (.int 2))) (eC (.int 1))) (gSb rPut2 (eVar 0) (eC (.int 2))))
  (sSq (sAs (eOp rAdd2 (eOp rIx2 (eVar 0) (eC (.int 1))) (eOp rMul2 (eC (.int 6700417)) (eOp rIx2 (eVar 0) (eC (.int 2))))) (gN 4))
  (sSq (sAs (eOp rMod2 (eB rInt2 (aCons (eOp rAdd2 (eOp rMul2 (eOp rMul2 (eVar 4) (eVar 4)) (eVar 4)) (eOp rMul2 (eC (.int 15485863)) (eOp rIx2 (eVar 0) (eC (.int 2))))) aNil)) (eOp rAdd2 (eOp rPow2 (eC (.int 10)) (eC (.int 43))) (eC (.int 57)))) (gN 4))
  (sSq (sAs (eOp rMod2 (eB rInt2 (aCons (eOp rAdd2 (eOp rMul2 (eVar 4) (eVar 4)) (eC (.int 32452843))) aNil)) (eOp rAdd2 (eOp rPow2 (eC (.int 10)) (eC (.int 38))) (eC (.int 133)))) (gN 4))
  (sRt (eOp rMod2 (eB rInt2 (aCons (eOp rDiv2 (eVar 4) (eOp rPow2 (eC (.int 10)) (eC (.int 9)))) aNil)) (eVar 1))))))))
theorem sem__law_draw : ∀ ds M Q E, sp__law_draw ds M Q E → b__law_draw (fEnds Q E) (start2 n__law_draw ds) M := by
  rintro ds M Q E ⟨a0, b0, rfl, f, m, n, o, rfl, rfl, m1, m2, hn, hf, ⟨a, b, c, rfl, ha, hab, hb, hb2, hc, hcn⟩, hq⟩
  have hs : ∀ M : Ms, ∀ l, M f = some (.lst l) → seqT (.loc f) M = some l := fun M l h => seqT_lst h
  have hm : CDv a m := ⟨by omega, by
    have : m.natAbs < 2 ^ 200 := by
      have : (2 : Nat) ^ 200 = 1606938044258990275541962092341162602522202993782792835301376 := by decide
      omega
    have h0 : m.natAbs ≠ 0 := by omega
    have := (Nat.log2_lt h0).mpr this
    omega⟩
  have bm : Bd 200 m := by
    unfold Bd
    have : (2 : Nat) ^ 200 = 1606938044258990275541962092341162602522202993782792835301376 := by decide
    omega
  have e1 := Int.mul_ediv_add_emod a m
  have p1 := Int.emod_nonneg a (show m ≠ 0 by omega)
  have p2 := Int.emod_lt_of_pos a (show 0 < m by omega)
  have p3 : 0 ≤ a / m := Int.ediv_nonneg ha (by omega)
  have p4 : a / m ≤ a := Int.ediv_le_self m ha
  have cm : CMulX (a / m) m := CMulX.of (hab.le p3 p4) bm (by decide)
  simp only [b__law_draw, start2, n__law_draw]
  simp [hf]
  by_cases h0 : 0 < a
  · simp [h0, hm, cm]
    have e2 : a - a / m * m = a % m := by
      have : a / m * m = m * (a / m) := Int.mul_comm _ _
      omega
    rw [e2]
    exact Fg.same (hq _ _ p1 p2 ⟨_, _, _, rfl, p3, hab.le p3 p4, hb, hb2, hc, by omega⟩)
  · have l1 : Bd 64 6700417 := Bd.lt64 (y := 6700417) (by decide) (by decide)
    have l2 : Bd 64 15485863 := Bd.lt64 (y := 15485863) (by decide) (by decide)
    have l3 : Bd 64 (c + 1) := Bd.lt64 (by omega) (by omega)
    have bb : Bd 180 b := by
      unfold Bd
      have : (2 : Nat) ^ 180 = 1532495540865888858358347027150309183618739122183602176 := by decide
      omega
    have bS : Bd 190 (b + 6700417 * (c + 1)) := (bb.add ((l1.mul l3).mono (by decide))).mono (by decide)
    have c1 : CMulX 6700417 (c + 1) := CMulX.of l1 l3 (by decide)
    have c2 : CMulX (b + 6700417 * (c + 1)) (b + 6700417 * (c + 1)) := CMulX.of bS bS (by decide)
    have c3 : CMulX ((b + 6700417 * (c + 1)) * (b + 6700417 * (c + 1))) (b + 6700417 * (c + 1)) := CMulX.of (bS.mul bS) bS (by decide)
    have c4 : CMulX 15485863 (c + 1) := CMulX.of l2 l3 (by decide)
    have t1 := Int.emod_nonneg ((b + 6700417 * (c + 1)) * (b + 6700417 * (c + 1)) * (b + 6700417 * (c + 1)) + 15485863 * (c + 1)) (show (10000000000000000000000000000000000000000057 : Int) ≠ 0 by decide)
    have t2 := Int.emod_lt_of_pos ((b + 6700417 * (c + 1)) * (b + 6700417 * (c + 1)) * (b + 6700417 * (c + 1)) + 15485863 * (c + 1)) (show (0 : Int) < 10000000000000000000000000000000000000000057 by decide)
    have tb : Bd 180 (((b + 6700417 * (c + 1)) * (b + 6700417 * (c + 1)) * (b + 6700417 * (c + 1)) + 15485863 * (c + 1)) % 10000000000000000000000000000000000000000057) := by
      unfold Bd
      generalize ((b + 6700417 * (c + 1)) * (b + 6700417 * (c + 1)) * (b + 6700417 * (c + 1)) + 15485863 * (c + 1)) % 10000000000000000000000000000000000000000057 = T at t1 t2
      have : (2 : Nat) ^ 180 = 1532495540865888858358347027150309183618739122183602176 := by decide
      omega
    have c5 := CMulX.of tb tb (by decide)
    have c6 : ∀ z, CDv z 1000000000 := fun z => ⟨by decide, by decide⟩
    have hm0 : 0 < m := by omega
    simp [h0, c1, c2, c3, c4, c5, c6, hm0]
    exact Fg.same (hq _ _ (Int.emod_nonneg _ (by omega)) (Int.emod_lt_of_pos _ hm0) ⟨_, _, _, rfl, ha, hab, hb, hb2, by omega, by omega⟩)
def sp__law_one : Sp2 := A2 fun a b M Q _ => ∃ (f : Addr) (l : List Tr) (n : Nat) (o : MO), a = .loc f ∧ lenT b M = some l.length ∧ seqS b M = some l ∧ b ≠ .loc f ∧ 0 < l.length ∧ l.length ≤ 1000000 ∧ n ≤ 1000000000 ∧ M f = some o ∧ FeedO n o ∧ ∀ r o', r ∈ l → FeedO (n + 1) o' → Q r (up M f o')
theorem kChr_get {z : Str} {i : Nat} {c : Nat} {P : Tr → Prop} (h : z.cps.toList[i]? = some c) : kChr z (i : Int) P = P (.str ⟨#[c]⟩) := by
  unfold kChr
  rw [atI_nat, h]
def n__law_one : List Str := "feed" :: "things" :: []
def b__law_one : TS2 := (sRt (eOp rIx2 (eVar 1) (eCall sp__law_draw [] (aCons (eVar 0) (aCons (eB rLen2 (aCons (eVar 1) aNil)) aNil)))))
theorem sem__law_one : ∀ ds M Q E, sp__law_one ds M Q E → b__law_one (fEnds Q E) (start2 n__law_one ds) M := by
  rintro ds M Q E ⟨a, b, rfl, f, l, n, o, rfl, hl, hs, hne, h0, h6, hn, hf, hF, hq⟩
  simp only [b__law_one, start2, n__law_one]
  simp
  unfold kL
  rw [hl]
  simp
  refine ⟨_, _, rfl, f, _, n, o, rfl, rfl, by omega, by omega, hn, hf, hF, fun r o' r0 r1 ho => ?_⟩
  obtain ⟨k, rfl⟩ : ∃ k : Nat, r = (k : Int) := ⟨r.toNat, by omega⟩
  have hk : k < l.length := by omega
  have go := Fg.same (hq l[k] o' (List.getElem_mem hk) ho)
  have hlk : l[k]? = some l[k] := by simp [hk]
  generalize l[k] = xk at go hlk
  cases b with
  | str z =>
    have e : (z.cps.toList.map fun k => Tr.str ⟨#[k]⟩) = l := Option.some.inj hs
    have hz : z.length ≤ sizeLine := by
      simp only [lenT] at hl
      split at hl
      · assumption
      · cases hl
    rw [← e, List.getElem?_map] at hlk
    cases hc : z.cps.toList[k]? with
    | none => rw [hc] at hlk; cases hlk
    | some ch =>
      rw [hc] at hlk
      have e3 : Tr.str ⟨#[ch]⟩ = xk := Option.some.inj hlk
      simp [hz]
      rw [kChr_get hc, e3]
      exact go
  | tup ds =>
    have e : ds = l := Option.some.inj hs
    subst e
    simp
    rw [kAt_get hlk]
    exact go
  | fro ds =>
    have e : ds = l := Option.some.inj hs
    subst e
    simp
    rw [kAt_get hlk]
    exact go
  | loc g =>
    have hg : g ≠ f := fun e => hne (by rw [e])
    have e : M g = some (.lst l) := seqT_loc hs
    simp [up_ne hg, e]
    rw [kAt_get hlk]
    exact go
  | _ => cases hs
/-! ### documents drawn -/
theorem atI_mem {α : Type} {l : List α} {i : Nat} {x : α} (h : l[i]? = some x) : x ∈ l := List.mem_of_getElem? h
def mkW (z : Str) : Prop := z = "a" ∨ z = "ab" ∨ z = "abc" ∨ z = "abcdefgh"
theorem mkW_len {z : Str} (h : mkW z) : z.length ≤ 8 ∧ 0 < z.length ∧ z.cps.toList.length = z.length := by
  rcases h with h | h | h | h <;> subst h <;> decide
theorem mkW_mem {z : Str} (h : mkW z) : ∀ r ∈ z.cps.toList.map (fun k => Tr.str ⟨#[k]⟩), ∃ m, r = .str m ∧ isMk (.str m) = true := by
  have key : ∀ k ∈ ("abcdefgh" : Str).cps.toList, isMk (.str ⟨#[k]⟩) = true := by decide +kernel
  have sub : ∀ k ∈ z.cps.toList, k ∈ ("abcdefgh" : Str).cps.toList := by
    rcases h with h | h | h | h <;> subst h <;> decide +kernel
  intro r hr
  obtain ⟨k, hk, rfl⟩ := List.mem_map.mp hr
  exact ⟨_, rfl, key k (sub k hk)⟩
theorem Vd.snoc {d : Doc} {m : Nat} {e : Str × Nat} (h : Vd m d) (h1 : isMk (.str e.1) = true) (h2 : e.2 ≤ ((d.map fun e => e.2 + 1).getLast?.getD m)) : Vd m (d ++ [e]) := by
  induction d generalizing m with
  | nil => exact ⟨h1, h2, trivial⟩
  | cons x r ih =>
    refine ⟨h.1, h.2.1, ih h.2.2 ?_⟩
    cases r with
    | nil => simpa using h2
    | cons y r =>
      simp only [List.map_cons, List.getLast?_cons, Option.getD_some] at h2 ⊢
      exact h2
theorem Vd.last {d : Doc} {m : Nat} (h : Vd m d) : ((d.map fun e => e.2 + 1).getLast?.getD m) ≤ m + d.length := by
  induction d generalizing m with
  | nil => simp
  | cons x r ih =>
    have := ih h.2.2
    have h2 := h.2.1
    cases r with
    | nil => simp; omega
    | cons y r =>
      simp only [List.map_cons, List.getLast?_cons, Option.getD_some, List.length_cons] at this ⊢
      omega
theorem CDv.of {z j : Int} (h : 0 < j) (l : j ≤ 1000000000) : CDv z j := ⟨h, by
  have : j.natAbs < 2 ^ 64 := by
    have : (2 : Nat) ^ 64 = 18446744073709551616 := by decide
    omega
  have h0 : j.natAbs ≠ 0 := by omega
  have := (Nat.log2_lt h0).mpr this
  omega⟩
def nextD (d : Doc) : Nat := ((d.map fun e => e.2 + 1).getLast?.getD 0)
theorem nextD_le {d : Doc} (h : Vd 0 d) : nextD d ≤ d.length := by have := h.last; unfold nextD; omega
theorem mark8 (k : Nat) (h : k < 8) : ∃ c, ("abcdefgh" : Str).cps.toList[k]? = some c ∧ isMk (.str ⟨#[c]⟩) = true := by
  have e : ("abcdefgh" : Str).cps.toList.length = 8 := by decide +kernel
  have hk : k < ("abcdefgh" : Str).cps.toList.length := by omega
  obtain ⟨m, e1, e2⟩ := mkW_mem (z := "abcdefgh") (.inr (.inr (.inr rfl))) (.str ⟨#[("abcdefgh" : Str).cps.toList[k]]⟩) (List.mem_map.mpr ⟨_, List.getElem_mem hk, rfl⟩)
  cases e1
  exact ⟨_, by simp [hk], e2⟩
theorem nextD_snoc {d : Doc} {e : Str × Nat} : nextD (d ++ [e]) = e.2 + 1 := by unfold nextD; simp
theorem Val.snoc {d : Doc} {e : Str × Nat} (h : Vd 0 d) (h1 : isMk (.str e.1) = true) (h2 : e.2 ≤ nextD d) : Vd 0 (d ++ [e]) := Vd.snoc h h1 h2
end T

/-! S: documents drawn; their ways. -/
namespace T
open PySem PySem.Spec PyProof.Rows L2
/-! ### parents -/
/-- the last place below n where p holds -/
def lastI (p : Nat → Bool) : Nat → Option Nat
  | 0 => none
  | n + 1 => if p n then some n else lastI p n
def depA (d : Doc) (i : Nat) : Nat := (d[i]?.map (·.2)).getD 0
def parA (d : Doc) (i : Nat) : Option Nat := lastI (fun j => decide (depA d j + 1 = depA d i)) i
def optT : Option Nat → Tr
  | none => .non
  | some n => .int n
def parsT (d : Doc) (n : Nat) : List Tr := (List.range n).map fun i => optT (parA d i)
theorem lastI_some {p : Nat → Bool} : ∀ {n k : Nat}, k < n → p k = true → (∀ j, k < j → j < n → p j = false) → lastI p n = some k
  | 0, _, h, _, _ => absurd h (Nat.not_lt_zero _)
  | n + 1, k, h, hp, hj => by
    unfold lastI
    by_cases c : k = n
    · subst c; rw [hp]; rfl
    · rw [hj n (by omega) (by omega)]
      exact lastI_some (by omega) hp fun j a b => hj j a (by omega)
theorem lastI_none {p : Nat → Bool} : ∀ {n : Nat}, (∀ j, j < n → p j = false) → lastI p n = none
  | 0, _ => rfl
  | n + 1, h => by
    unfold lastI
    rw [h n (by omega)]
    exact lastI_none fun j a => h j (by omega)
theorem lastI_spec {p : Nat → Bool} : ∀ {n k : Nat}, lastI p n = some k → k < n ∧ p k = true ∧ ∀ j, k < j → j < n → p j = false
  | 0, _, h => nomatch h
  | n + 1, k, h => by
    unfold lastI at h
    split at h
    · rename_i c
      cases h
      exact ⟨by omega, c, fun j a b => by omega⟩
    · rename_i c
      obtain ⟨h1, h2, h3⟩ := lastI_spec h
      refine ⟨by omega, h2, fun j a b => ?_⟩
      by_cases e : j = n
      · subst e; simpa using c
      · exact h3 j a (by omega)
/-- the path: what stands open before node n; the last of each depth -/
structure Path (d : Doc) (n : Nat) (st : List Nat) : Prop where
  at_ : ∀ i k, st[i]? = some k → k < n ∧ depA d k = i ∧ ∀ j, k < j → j < n → i < depA d j
theorem Vd.dep {m : Nat} {d : Doc} (h : Vd m d) : ∀ i e, d[i]? = some e → isMk (.str e.1) = true ∧ e.2 ≤ (if i = 0 then m else (depA d (i - 1)) + 1) := by
  induction d generalizing m with
  | nil => intro i e h; simp at h
  | cons x r ih =>
    intro i e he
    cases i with
    | zero => simp at he; subst he; exact ⟨h.1, by simpa using h.2.1⟩
    | succ i =>
      have he' : r[i]? = some e := by simpa using he
      have := ih h.2.2 i e he'
      refine ⟨this.1, ?_⟩
      have h2 := this.2
      cases i with
      | zero => simpa [depA] using h2
      | succ i => simpa [depA] using h2
/-- the path's length: one more than the depth before -/
def pathN (d : Doc) (n : Nat) : Nat := if n = 0 then 0 else depA d (n - 1) + 1
theorem Path.pop {d : Doc} {n : Nat} {st : List Nat} (h : Path d n st) (m : Nat) : Path d n (st.take m) := ⟨fun i k e => by
  rw [List.getElem?_take] at e
  split at e
  · exact h.at_ i k e
  · cases e⟩
theorem Path.push {d : Doc} {n : Nat} {st : List Nat} (h : Path d n st) (hl : st.length = depA d n) : Path d (n + 1) (st ++ [n]) := ⟨fun i k e => by
  by_cases c : i < st.length
  · rw [List.getElem?_append_left c] at e
    obtain ⟨h1, h2, h3⟩ := h.at_ i k e
    refine ⟨by omega, h2, fun j a b => ?_⟩
    by_cases q : j = n
    · subst q; omega
    · exact h3 j a (by omega)
  · rw [List.getElem?_append_right (by omega)] at e
    have : i - st.length = 0 := by
      cases q : i - st.length with
      | zero => rfl
      | succ z => rw [q] at e; simp at e
    rw [this] at e
    cases e
    exact ⟨by omega, by omega, fun j a b => by omega⟩⟩
/-- the parent of the next node, by the path cut at its depth -/
theorem Path.par {d : Doc} {n : Nat} {st : List Nat} (h : Path d n st) (hl : st.length = depA d n) : parA d n = if depA d n = 0 then none else st[st.length - 1]? := by
  unfold parA
  by_cases c : depA d n = 0
  · rw [if_pos c]
    exact lastI_none fun j hj => by simp; omega
  · rw [if_neg c]
    have hk : st.length - 1 < st.length := by omega
    have e : st[st.length - 1]? = some st[st.length - 1] := by simp [hk]
    rw [e]
    obtain ⟨h1, h2, h3⟩ := h.at_ _ _ e
    refine lastI_some h1 (by simp; omega) fun j a b => ?_
    have := h3 j a b
    simp; omega
end T

/-! S: the ways of documents. -/
namespace T
open PySem PySem.Spec PyProof.Rows L2
theorem depA_at {d : Doc} {i : Nat} {e : Str × Nat} (h : d[i]? = some e) : depA d i = e.2 := by unfold depA; rw [h]; rfl
theorem Val.dep_le {d : Doc} (h : Vd 0 d) {i : Nat} (hi : i < d.length) : depA d i ≤ pathN d i := by
  have e : d[i]? = some d[i] := by simp [hi]
  have := (h.dep i _ e).2
  unfold pathN
  rw [depA_at e]
  split at this <;> rename_i c
  · rw [if_pos c]; exact this
  · rw [if_neg c]; exact this
theorem Val.path_le {d : Doc} (h : Vd 0 d) : ∀ {i : Nat}, i ≤ d.length → pathN d i ≤ i
  | 0, _ => Nat.le_refl _
  | i + 1, hi => by
    have h1 := Val.dep_le h (i := i) (by omega)
    have h2 := Val.path_le h (i := i) (by omega)
    have : pathN d (i + 1) = depA d i + 1 := by simp [pathN]
    omega
theorem Val.dep_lt {d : Doc} (h : Vd 0 d) {i : Nat} (hi : i < d.length) : depA d i ≤ i := Nat.le_trans (Val.dep_le h hi) (Val.path_le h (by omega))
theorem ent_at {d : Doc} {i : Nat} {x : Tr} (h : (d.map entT)[i]? = some x) : ∃ e, d[i]? = some e ∧ x = .tup [.str e.1, .int (depA d i)] := by
  rw [List.getElem?_map] at h
  cases hc : d[i]? with
  | none => rw [hc] at h; cases h
  | some e =>
    rw [hc] at h
    cases h
    exact ⟨e, rfl, by rw [depA_at hc]; rfl⟩
theorem take_pop {α : Type} {l : List α} {m : Nat} (h : m ≤ l.length) : (l.take m).dropLast = l.take (m - 1) := by
  rw [List.dropLast_eq_take, List.length_take, Nat.min_eq_left h, List.take_take, Nat.min_eq_left (by omega)]
theorem kLast_of {l : List Tr} {x : Tr} {P : Tr → Prop} (h : l[l.length - 1]? = some x) : kLast l P = P x := by unfold kLast; rw [h]
abbrev natT (k : Nat) : Tr := .int k
def sp_parents_of : Sp2 := A1 fun a M Q _ => ∃ d, a = docT d ∧ Val d ∧ ∀ p, M p = none → Q (.loc p) (up M p (.lst (parsT d d.length)))
def n_parents_of : List Str := "document" :: "parents" :: "above" :: "node" :: "mark" :: "depth" :: []
def b_parents_of : TS2 := (sSq (sAs (eLst aNil) (gN 1))
  (sSq (sAs (eLst aNil) (gN 2))
  (sSq (sFo (iEn (aCons (eVar 0) aNil)) (gT 2 (gCo (gN 3) (gCo (gT 2 (gCo (gN 4) (gCo (gN 5) gNil2))) gNil2))) (sSq (sWh (tCm (eOp rGtI (eB rLen2 (aCons (eVar 2) aNil)) (eVar 5))) (sDr (eM0 "list" rPop2 (eVar 2))))
  (sSq (sDr (eM "list" rApp2 (eVar 1) (aCons (eIf (tCm (eOp rGtI (eVar 5) (eC (.int 0)))) (eOp rIx2 (eVar 2) (eUn rNeg2 (eC (.int 1)))) (eC .non)) aNil)))
  (sDr (eM "list" rApp2 (eVar 2) (aCons (eVar 3) aNil))))))
  (sRt (eVar 1)))))
theorem sem_parents_of : ∀ ds M Q E, sp_parents_of ds M Q E → b_parents_of (fEnds Q E) (start2 n_parents_of ds) M := by
  rintro ds M Q E ⟨a, rfl, d, rfl, ⟨hv, hl⟩, hq⟩
  simp only [b_parents_of, start2, n_parents_of]
  simp
  intro p hp
  simp
  intro g hg
  have gp : g ≠ p := by intro e; subst e; rw [up_same] at hg; cases hg
  have hg2 : M g = none := by rw [up_ne gp] at hg; exact hg
  have pg : p ≠ g := fun e => gp e.symm
  simp [docT]
  refine for_itE (fun i σ M' => ∃ (st : List Nat) (x y z : Option Tr), σ = [some (docT d), some (.loc p), some (.loc g), x, y, z] ∧ M' p = some (.lst (parsT d i)) ∧ M' g = some (.lst (st.map natT)) ∧ (∀ a, a ≠ p → a ≠ g → M' a = M a) ∧ Path d i st ∧ st.length = pathN d i) ?_ ?_ ?_ ?_
  · exact ⟨[], none, none, none, rfl, by rw [up_ne pg, up_same]; rfl, up_same, fun a h1 h2 => by rw [up_ne h2, up_ne h1], ⟨fun i k e => by simp at e⟩, rfl⟩
  · rintro i σ M' _ ⟨st, x, y, z, rfl, _⟩
    rfl
  · rintro i e σ M' he ⟨st, x, y, z, rfl, ep, eg, fr, hP, hst⟩
    obtain ⟨en, hen, rfl⟩ := ent_at he
    have hi : i < d.length := (List.getElem?_eq_some_iff.mp hen).1
    have hdl := Val.dep_le hv hi
    rw [← hst] at hdl
    have hdi := Val.dep_lt hv hi
    simp only [gT_ap, gCo_ap, gN_3, gN_4, gN_5, gNil2_ap, List.length_cons, List.length_nil, true_and]
    refine seq_cut (fun σ1 M1 => σ1 = [some (docT d), some (.loc p), some (.loc g), some (.int i), some (.str en.1), some (.int (depA d i))] ∧ M1 p = some (.lst (parsT d i)) ∧ M1 g = some (.lst ((st.take (depA d i)).map natT)) ∧ ∀ a, a ≠ p → a ≠ g → M1 a = M a) (fun NX hN => ?_) ?_
    · refine sWh_of (fun m σ1 M1 => m ≤ st.length ∧ depA d i ≤ m ∧ σ1 = [some (docT d), some (.loc p), some (.loc g), some (.int i), some (.str en.1), some (.int (depA d i))] ∧ M1 p = some (.lst (parsT d i)) ∧ M1 g = some (.lst ((st.take m).map natT)) ∧ ∀ a, a ≠ p → a ≠ g → M1 a = M a) st.length ⟨Nat.le_refl _, hdl, rfl, ep, by rw [List.take_length]; exact eg, fr⟩ ?_
      rintro m σ1 M1 ⟨h1, h2, rfl, ep1, eg1, fr1⟩
      simp [-List.map_take, eg1]
      by_cases c : depA d i < m
      · rw [if_pos (by omega)]
        refine WhT.of fun N2 hN2 => ?_
        have hk : m - 1 < st.length := by omega
        have e2 : ((st.take m).map natT)[((st.take m).map natT).length - 1]? = some (natT st[m - 1]) := by
          rw [List.length_map, List.length_take, Nat.min_eq_left h1, List.getElem?_map, List.getElem?_take, if_pos (by omega)]
          simp [hk]
        simp [-List.map_take, eg1, ↓kLast_of e2]
        exact hN2 (m - 1) _ _ (by omega) ⟨by omega, by omega, rfl, by rw [up_ne pg]; exact ep1, by rw [up_same, ← List.map_dropLast, take_pop h1], fun a h3 h4 => by rw [up_ne h4]; exact fr1 a h3 h4⟩
      · rw [if_neg (by omega)]
        have : m = depA d i := by omega
        subst this
        exact hN _ _ ⟨rfl, ep1, eg1, fr1⟩
    · rintro σ1 M1 ⟨rfl, ep1, eg1, fr1⟩
      have hP2 := hP.pop (depA d i)
      have hl2 : (st.take (depA d i)).length = depA d i := by rw [List.length_take]; omega
      have hpar := hP2.par hl2
      have hps : (parsT d i).length = i := by simp [parsT]
      have e1 : parsT d (i + 1) = parsT d i ++ [optT (parA d i)] := by simp [parsT, List.range_succ]
      have e3 : pathN d (i + 1) = depA d i + 1 := by simp [pathN]
      have fin : ∀ M2 : Ms, M2 p = some (.lst (parsT d i ++ [optT (parA d i)])) → M2 g = some (.lst ((st.take (depA d i)).map natT ++ [natT i])) → (∀ a, a ≠ p → a ≠ g → M2 a = M a) → ∃ (st' : List Nat) (x y z : Option Tr), [some (docT d), some (.loc p), some (.loc g), some (Tr.int i), some (.str en.1), some (.int (depA d i))] = [some (docT d), some (.loc p), some (.loc g), x, y, z] ∧
          M2 p = some (.lst (parsT d (i + 1))) ∧ M2 g = some (.lst (st'.map natT)) ∧ (∀ a, a ≠ p → a ≠ g → M2 a = M a) ∧ Path d (i + 1) st' ∧ st'.length = pathN d (i + 1) := fun M2 q1 q2 q3 =>
        ⟨st.take (depA d i) ++ [i], _, _, _, rfl, by rw [e1]; exact q1, by rw [List.map_append]; exact q2, q3, hP2.push hl2, by rw [List.length_append, hl2, e3]; rfl⟩
      refine nx_cut fun NX hN => ?_
      by_cases c0 : depA d i = 0
      · rw [if_pos c0] at hpar
        simp [-List.map_take, up_ne pg, up_ne gp, ep1, eg1, hps, c0]
        rw [c0] at fin eg1
        refine ⟨small_lt (by omega), small_lt (by omega), hN _ _ (fin _ ?_ ?_ fun a h3 h4 => ?_)⟩
        · rw [up_ne pg, up_same, hpar]; rfl
        · rw [up_same]; rfl
        · rw [up_ne h4, up_ne h3]; exact fr1 a h3 h4
      · rw [if_neg c0, hl2] at hpar
        have hk : depA d i - 1 < (st.take (depA d i)).length := by omega
        have e2 : (st.take (depA d i))[depA d i - 1]? = some (st.take (depA d i))[depA d i - 1] := by simp only [List.getElem?_eq_getElem hk]
        rw [e2] at hpar
        have e4 : ((st.take (depA d i)).map natT)[((st.take (depA d i)).map natT).length - 1]? = some (natT (st.take (depA d i))[depA d i - 1]) := by
          rw [List.length_map, hl2, List.getElem?_map, e2]; rfl
        have c1 : 0 < depA d i := by omega
        simp [-List.map_take, up_ne pg, up_ne gp, ep1, eg1, hps, c1, ↓kAt_last e4, Nat.min_eq_left hdl]
        refine ⟨small_lt (by omega), small_lt (by omega), hN _ _ (fin _ ?_ ?_ fun a h3 h4 => ?_)⟩
        · rw [up_ne pg, up_same, hpar]; simp [optT]
        · rw [up_same]
        · rw [up_ne h4, up_ne h3]; exact fr1 a h3 h4
  · rintro σ M' ⟨st, x, y, z, rfl, ep, eg, fr, _⟩
    simp
    refine Fg.le (M := up M p (.lst (parsT d d.length))) (fun a u e => ?_) (hq p hp)
    by_cases c : a = p
    · subst c; rw [up_same] at e; rw [← e]; simpa using ep
    · rw [up_ne c] at e
      rw [fr a c (fun h => by subst h; rw [hg2] at e; cases e)]; exact e
/-! ### ends -/
structure IsEnd (d : Doc) (k e : Nat) : Prop where
  lt : k < e
  le : e ≤ d.length
  deep : ∀ j, k < j → j < e → depA d k < depA d j
  stop : e < d.length → depA d e ≤ depA d k
theorem IsEnd.uniq {d : Doc} {k e f : Nat} (h : IsEnd d k e) (g : IsEnd d k f) : e = f := by
  rcases Nat.lt_trichotomy e f with c | c | c
  · have := h.stop (by have := g.le; omega)
    have := g.deep e h.lt c
    omega
  · exact c
  · have := g.stop (by have := h.le; omega)
    have := h.deep f g.lt c
    omega
def endF (d : Doc) (k : Nat) : Nat → Nat → Nat
  | 0, e => e
  | f + 1, e => if e < d.length ∧ depA d k < depA d e then endF d k f (e + 1) else e
def endA (d : Doc) (k : Nat) : Nat := endF d k d.length (k + 1)
theorem endF_ok {d : Doc} {k : Nat} : ∀ {f e : Nat}, k < e → e ≤ d.length → d.length ≤ f + e → (∀ j, k < j → j < e → depA d k < depA d j) → IsEnd d k (endF d k f e)
  | 0, e, h1, h2, h3, h4 => ⟨h1, h2, h4, fun h => absurd h (by show ¬ e < _; omega)⟩
  | f + 1, e, h1, h2, h3, h4 => by
    unfold endF
    split
    · rename_i c
      refine endF_ok (by omega) (by omega) (by omega) fun j a b => ?_
      by_cases q : j = e
      · subst q; exact c.2
      · exact h4 j a (by omega)
    · rename_i c
      exact ⟨h1, h2, h4, fun h => by omega⟩
theorem endA_ok {d : Doc} {k : Nat} (h : k < d.length) : IsEnd d k (endA d k) := endF_ok (by omega) (by omega) (by omega) fun j a b => by omega
theorem IsEnd.eq {d : Doc} {k e : Nat} (h : IsEnd d k e) : e = endA d k := h.uniq (endA_ok (by have := h.lt; have := h.le; omega))
theorem doc_at {d : Doc} {i : Nat} (h : i < d.length) : (d.map entT)[i]? = some (.tup [.str d[i].1, .int (depA d i)]) := by
  have e : d[i]? = some d[i] := by simp [h]
  rw [List.getElem?_map, e]
  show some (entT d[i]) = _
  rw [depA_at e]; rfl
theorem kAt_doc {d : Doc} {i : Nat} {P : Tr → Prop} (h : i < d.length) : kAt (d.map entT) (i : Int) P = P (.tup [.str d[i].1, .int (depA d i)]) := kAt_get (doc_at h)
def sp_end_of : Sp2 := A2 fun a b M Q _ => ∃ (d : Doc) (k : Nat), a = docT d ∧ b = .int k ∧ k < d.length ∧ Q (.int (endA d k)) M
def n_end_of : List Str := "document" :: "node" :: "end" :: []
def b_end_of : TS2 := (sSq (sAs (eOp rAdd2 (eVar 1) (eC (.int 1))) (gN 2))
  (sSq (sWh (tAn (tCm (eOp rLtI (eVar 2) (eB rLen2 (aCons (eVar 0) aNil)))) (tCm (eOp rGtI (eOp rIx2 (eOp rIx2 (eVar 0) (eVar 2)) (eC (.int 1))) (eOp rIx2 (eOp rIx2 (eVar 0) (eVar 1)) (eC (.int 1)))))) (sAu 2 rIpA (eC (.int 1))))
  (sRt (eVar 2))))
theorem sem_end_of : ∀ ds M Q E, sp_end_of ds M Q E → b_end_of (fEnds Q E) (start2 n_end_of ds) M := by
  rintro ds M Q E ⟨a, b, rfl, d, k, rfl, rfl, hk, hq⟩
  simp only [b_end_of, start2, n_end_of]
  simp
  refine sWh_of (fun m σ1 M1 => ∃ e : Nat, e + m = d.length ∧ k < e ∧ σ1 = [some (docT d), some (.int k), some (.int e)] ∧ M1 = M ∧ ∀ j, k < j → j < e → depA d k < depA d j) (d.length - (k + 1)) ⟨k + 1, by omega, by omega, rfl, rfl, fun j a b => by omega⟩ ?_
  rintro m σ1 M1 ⟨e, h1, h2, rfl, rfl, h3⟩
  simp [docT]
  by_cases c : e < d.length
  · rw [if_pos (by omega)]
    simp [↓kAt_doc c, ↓kAt_doc hk]
    by_cases c2 : depA d k < depA d e
    · rw [if_pos (by omega)]
      refine WhT.of fun N hN => ?_
      simp
      exact hN (m - 1) _ _ (by omega) ⟨e + 1, by omega, by omega, rfl, rfl, fun j a b => by
        by_cases q : j = e
        · subst q; exact c2
        · exact h3 j a (by omega)⟩
    · rw [if_neg (by omega)]
      rw [(show IsEnd d k e from ⟨h2, by omega, h3, fun _ => by omega⟩).eq]
      exact Fg.same hq
  · rw [if_neg (by omega)]
    rw [(show IsEnd d k e from ⟨h2, by omega, h3, fun _ => by omega⟩).eq]
    exact Fg.same hq
/-! ### children -/
def chA (d : Doc) (o : Option Nat) : List Nat := (List.range d.length).filter fun c => decide (parA d c = o)
theorem par_none {d : Doc} (h : Vd 0 d) {c : Nat} (hc : c < d.length) : parA d c = none ↔ depA d c = 0 := by
  constructor
  · intro e
    by_cases z : depA d c = 0
    · exact z
    · exfalso
      -- the path has a place of that depth
      have key : ∀ (n : Nat), n ≤ d.length → ∀ i, i < pathN d n → ∃ k, k < n ∧ depA d k = i ∧ ∀ j, k < j → j < n → i < depA d j := by
        intro n
        induction n with
        | zero => intro _ i hi; simp [pathN] at hi
        | succ n ih =>
          intro hn i hi
          have e1 : pathN d (n + 1) = depA d n + 1 := by simp [pathN]
          by_cases q : i = depA d n
          · exact ⟨n, by omega, q.symm, fun j a b => by omega⟩
          · have hd := Val.dep_le h (i := n) (by omega)
            obtain ⟨k, h1, h2, h3⟩ := ih (by omega) i (by omega)
            refine ⟨k, by omega, h2, fun j a b => ?_⟩
            by_cases q2 : j = n
            · subst q2; omega
            · exact h3 j a (by omega)
      obtain ⟨k, h1, h2, h3⟩ := key c (by omega) (depA d c - 1) (by have := Val.dep_le h hc; omega)
      have : parA d c = some k := by
        unfold parA
        refine lastI_some h1 (by simp; omega) fun j a b => ?_
        have := h3 j a b
        simp; omega
      rw [e] at this; cases this
  · intro e
    unfold parA
    exact lastI_none fun j hj => by simp; omega
theorem par_some {d : Doc} (h : Vd 0 d) {c k : Nat} (hc : c < d.length) (hk : k < d.length) : parA d c = some k ↔ k < c ∧ c < endA d k ∧ depA d c = depA d k + 1 := by
  have E := endA_ok hk
  constructor
  · intro e
    obtain ⟨h1, h2, h3⟩ := lastI_spec e
    have h2' : depA d k + 1 = depA d c := by simpa using h2
    refine ⟨h1, ?_, h2'.symm⟩
    by_cases q : c < endA d k
    · exact q
    · exfalso
      have s := E.stop (by omega)
      have l := E.lt
      -- from endA on down to c some node has the depth of k
      have key : ∀ n, endA d k ≤ n → n < c → (∃ j, endA d k ≤ j ∧ j ≤ n ∧ depA d j = depA d k) ∨ depA d n < depA d k := by
        intro n
        induction n with
        | zero => intro h1 h2; omega
        | succ n ih =>
          intro h1 h2
          by_cases q1 : endA d k = n + 1
          · rw [← q1]
            by_cases q2 : depA d (endA d k) = depA d k
            · exact .inl ⟨endA d k, by omega, by omega, q2⟩
            · exact .inr (by omega)
          · rcases ih (by omega) (by omega) with ⟨j, a, b, e⟩ | r
            · exact .inl ⟨j, a, by omega, e⟩
            · have := Val.dep_le h (i := n + 1) (by omega)
              have e1 : pathN d (n + 1) = depA d n + 1 := by simp [pathN]
              by_cases q2 : depA d (n + 1) = depA d k
              · exact .inl ⟨n + 1, by omega, by omega, q2⟩
              · exact .inr (by omega)
      by_cases q3 : endA d k = c
      · rw [q3] at s; omega
      · rcases key (c - 1) (by omega) (by omega) with ⟨j, a, b, e⟩ | r
        · have := h3 j (by omega) (by omega)
          simp at this; omega
        · have := Val.dep_le h hc
          have e1 : pathN d c = depA d (c - 1) + 1 := by unfold pathN; rw [if_neg (by omega)]
          omega
  · rintro ⟨h1, h2, h3⟩
    unfold parA
    refine lastI_some h1 (by simp; omega) fun j a b => ?_
    have := E.deep j a (by omega)
    simp; omega
theorem filter_range {n a b : Nat} {p q : Nat → Bool} (h1 : a ≤ b) (h2 : b ≤ n) (h : ∀ c, c < n → q c = (decide (a ≤ c) && decide (c < b) && p c)) : (List.range n).filter q = (List.range' a (b - a)).filter p := by
  have e : List.range n = List.range' 0 a ++ (List.range' a (b - a) ++ List.range' b (n - b)) := by
    rw [List.range_eq_range']
    have e1 := List.range'_append_1 (s := a) (m := b - a) (n := n - b)
    rw [show a + (b - a) = b by omega, show b - a + (n - b) = n - a by omega] at e1
    rw [e1]
    have e2 := List.range'_append_1 (s := 0) (m := a) (n := n - a)
    rw [show 0 + a = a by omega, show a + (n - a) = n by omega] at e2
    rw [e2]
  rw [e, List.filter_append, List.filter_append]
  have z1 : (List.range' 0 a).filter q = [] := List.filter_eq_nil_iff.mpr fun c hc => by
    simp at hc
    rw [h c (by omega)]; simp; omega
  have z2 : (List.range' b (n - b)).filter q = [] := List.filter_eq_nil_iff.mpr fun c hc => by
    simp at hc
    rw [h c (by omega)]; simp; omega
  rw [z1, z2, List.nil_append, List.append_nil]
  refine List.filter_congr fun c hc => ?_
  simp at hc
  rw [h c (by omega)]
  have : decide (a ≤ c) = true ∧ decide (c < b) = true := by simp; omega
  rw [this.1, this.2]; rfl
end T

/-! S: rows, ends. -/
namespace T
open PySem PySem.Spec PyProof.Rows L2
def chT (d : Doc) (o : Option Nat) : List Tr := (chA d o).map natT
theorem rg_doc {d : Doc} (h : d.length ≤ 20000) {j : Int} (h0 : 0 ≤ j) (h1 : j ≤ 20001) : Rg j := ⟨by omega, by omega⟩
def sp_row_of : Sp2 := A2 fun a b M Q _ => ∃ (d : Doc) (o : Option Nat), a = docT d ∧ b = optT o ∧ Val d ∧ (∀ k, o = some k → k < d.length) ∧ ∀ p, M p = none → Q (.loc p) (up M p (.lst (chT d o)))
def n_row_of : List Str := "document" :: "node" :: "below" :: "child" :: "mark" :: "depth" :: []
def b_row_of : TS2 := (sSq (sIf (tCm (eOp (rIsG id) (eVar 1) (eC .non))) (sRt (eLc (iEn (aCons (eVar 0) aNil)) (gT 2 (gCo (gN 3) (gCo (gT 2 (gCo (gN 4) (gCo (gN 5) gNil2))) gNil2))) (tCm (eOp (rEqG id) (eVar 5) (eC (.int 0)))) (eVar 3) [3, 4, 5])) sNx)
  (sSq (sAs (eOp rAdd2 (eOp rIx2 (eOp rIx2 (eVar 0) (eVar 1)) (eC (.int 1))) (eC (.int 1))) (gN 2))
  (sRt (eLc (iRg2 (aCons (eOp rAdd2 (eVar 1) (eC (.int 1))) (aCons (eCall sp_end_of [] (aCons (eVar 0) (aCons (eVar 1) aNil))) aNil))) (gN 3) (tCm (eOp (rEqG id) (eOp rIx2 (eOp rIx2 (eVar 0) (eVar 3)) (eC (.int 1))) (eVar 2))) (eVar 3) [3]))))
theorem sem_row_of : ∀ ds M Q E, sp_row_of ds M Q E → b_row_of (fEnds Q E) (start2 n_row_of ds) M := by
  rintro ds M Q E ⟨a, b, rfl, d, o, rfl, rfl, ⟨hv, hl⟩, ho, hq⟩
  simp only [b_row_of, start2, n_row_of]
  cases o with
  | none =>
    simp [optT]
    simp [docT]
    refine fun p hp => lc_fmE (fun i => if decide (depA d i = 0) = true then some (natT i) else none) (by simp; omega) (fun M' _ => rfl) (Fg.same ?_) ?_
    · rw [List.length_map, fm_if]
      have e : (List.range d.length).filter (fun i => decide (depA d i = 0)) = chA d none := List.filter_congr fun c hc => by
        have := par_none hv (c := c) (by simpa using hc)
        simp [this]
      rw [e]
      exact hq p hp
    · intro i e M' he fr KY KN h1 h2
      obtain ⟨en, hen, rfl⟩ := ent_at he
      simp [wipe2]
      by_cases c : depA d i = 0
      · simp [c]
        exact h1 _ (by simp [c])
      · simp [c]
        exact h2 (by simp [c])
  | some k =>
    have hk := ho k rfl
    have E1 := endA_ok hk
    have hle := E1.le
    have hlt := E1.lt
    simp [optT, docT, ↓kAt_doc hk]
    refine ⟨_, _, rfl, d, k, rfl, rfl, hk, ?_⟩
    simp
    refine ⟨ rg_doc hl (by omega) (by omega), rg_doc hl (by omega) (by omega), fun p hp => lc_fmR (fun i => if decide (depA d (k + 1 + i) = depA d k + 1) = true then some (natT (k + 1 + i)) else none) (by omega) (Fg.same ?_) ?_⟩
    · have e : ((endA d k : Int) - ((k : Int) + 1)).toNat = endA d k - (k + 1) := by omega
      rw [e, fm_if (h := fun i => natT (k + 1 + i))]
      have e2 : ((List.range (endA d k - (k + 1))).filter fun i => decide (depA d (k + 1 + i) = depA d k + 1)).map (fun i => natT (k + 1 + i)) = chT d (some k) := by
        unfold chT chA
        have e3 := filter_range (n := d.length) (a := k + 1) (b := endA d k) (p := fun c => decide (depA d c = depA d k + 1)) (q := fun c => decide (parA d c = some k)) (by omega) (by omega) (fun c hc => by
          have := par_some hv hc hk
          rw [Bool.eq_iff_iff]
          simp [this]
          omega)
        rw [e3, List.range'_eq_map_range, List.filter_map, List.map_map]
        rfl
      rw [e2]
      exact hq p hp
    · intro i M' hi fr KY KN h1 h2
      have hi2 : k + 1 + i < d.length := by omega
      have e3 : ((k : Int) + 1 + (i : Int)) = ((k + 1 + i : Nat) : Int) := by omega
      rw [e3]
      simp only [wipe2, List.set_cons_succ, List.set_cons_zero]
      simp [↓kAt_doc hi2]
      by_cases c : depA d (k + 1 + i) = depA d k + 1
      · rw [if_pos (by omega), e3]
        exact h1 _ (if_pos (by simp [c]))
      · rw [if_neg (by omega)]
        exact h2 (if_neg (by simp [c]))
/-! ### ends -/
def endsT (d : Doc) : List Tr := (List.range d.length).map fun k => natT (endA d k)
theorem Path.mem {d : Doc} {n k : Nat} {st : List Nat} (h : Path d n st) (hk : k ∈ st) : st[depA d k]? = some k := by
  obtain ⟨i, hi, rfl⟩ := List.getElem_of_mem hk
  have e : st[i]? = some st[i] := by simp [hi]
  obtain ⟨_, h2, _⟩ := h.at_ i _ e
  rw [h2]; exact e
def sp_ends_of : Sp2 := A1 fun a M Q _ => ∃ d, a = docT d ∧ Val d ∧ ∀ p, M p = none → Q (.loc p) (up M p (.lst (endsT d)))
def n_ends_of : List Str := "document" :: "ends" :: "open_nodes" :: "node" :: "mark" :: "depth" :: []
def b_ends_of : TS2 := (sSq (sAs (eOp rMul2 (eLst (aCons (eB rLen2 (aCons (eVar 0) aNil)) aNil)) (eB rLen2 (aCons (eVar 0) aNil))) (gN 1))
  (sSq (sAs (eLst aNil) (gN 2))
  (sSq (sFo (iEn (aCons (eVar 0) aNil)) (gT 2 (gCo (gN 3) (gCo (gT 2 (gCo (gN 4) (gCo (gN 5) gNil2))) gNil2))) (sSq (sWh (tCm (eOp rGtI (eB rLen2 (aCons (eVar 2) aNil)) (eVar 5))) (sAs (eVar 3) (gSb rPut2 (eVar 1) (eM0 "list" rPop2 (eVar 2)))))
  (sDr (eM "list" rApp2 (eVar 2) (aCons (eVar 3) aNil)))))
  (sRt (eVar 1)))))
theorem sem_ends_of : ∀ ds M Q E, sp_ends_of ds M Q E → b_ends_of (fEnds Q E) (start2 n_ends_of ds) M := by
  rintro ds M Q E ⟨a, rfl, d, rfl, ⟨hv, hl⟩, hq⟩
  simp only [b_ends_of, start2, n_ends_of]
  simp [docT]
  refine ⟨small_line (by decide), fun p0 hp0 => ?_⟩
  simp
  refine ⟨by omega, small_line (by omega), fun p hp => ?_⟩
  simp
  intro g hg
  have hp2 : M p = none := Le.none (Le.new hp0) hp
  have gp : g ≠ p := by intro e; subst e; rw [up_same] at hg; cases hg
  have pg : p ≠ g := fun e => gp e.symm
  simp
  have g0 : g ≠ p0 := by intro e; subst e; rw [up_ne gp, up_same] at hg; cases hg
  have p00 : p ≠ p0 := by intro e; subst e; rw [up_same] at hp; cases hp
  have hg2 : M g = none := by rw [up_ne gp, up_ne g0] at hg; exact hg
  refine for_itE (fun i σ M' => ∃ (st E : List Nat) (x y z : Option Tr), σ = [some (docT d), some (.loc p), some (.loc g), x, y, z] ∧ M' p = some (.lst (E.map natT)) ∧ M' g = some (.lst (st.map natT)) ∧ (∀ a o, a ≠ p → a ≠ g → M a = some o → M' a = some o) ∧ Path d i st ∧ st.length = pathN d i ∧
    E.length = d.length ∧ (∀ k, k < d.length → k ∈ st ∨ i ≤ k → E[k]? = some d.length) ∧ ∀ k, k < i → k ∉ st → ∃ e, E[k]? = some e ∧ IsEnd d k e) ?_ ?_ ?_ ?_
  · refine ⟨[], List.replicate d.length d.length, none, none, none, rfl, ?_, up_same, fun a o h1 h2 h3 => ?_, ⟨fun i k e => by simp at e⟩, rfl, by simp, fun k hk _ => by simp [hk], fun k hk => by omega⟩
    · rw [up_ne pg, up_same]
      congr 2
      rw [List.map_replicate]
    · rw [up_ne h2, up_ne h1, up_ne (m_ne h3 hp0)]; exact h3
  · rintro i σ M' _ ⟨st, E, x, y, z, rfl, _⟩
    rfl
  · rintro i e σ M' he ⟨st, E, x, y, z, rfl, ep, eg, fr, hP, hst, hE, hE1, hE2⟩
    obtain ⟨en, hen, rfl⟩ := ent_at he
    have hi : i < d.length := (List.getElem?_eq_some_iff.mp hen).1
    have hdl := Val.dep_le hv hi
    rw [← hst] at hdl
    have hdi := Val.dep_lt hv hi
    simp only [gT_ap, gCo_ap, gN_3, gN_4, gN_5, gNil2_ap, List.length_cons, List.length_nil, true_and]
    refine seq_cut (fun σ1 M1 => ∃ E : List Nat, σ1 = [some (docT d), some (.loc p), some (.loc g), some (.int i), some (.str en.1), some (.int (depA d i))] ∧ M1 p = some (.lst (E.map natT)) ∧ M1 g = some (.lst ((st.take (depA d i)).map natT)) ∧ (∀ a o, a ≠ p → a ≠ g → M a = some o → M1 a = some o) ∧
      E.length = d.length ∧ (∀ k, k < d.length → k ∈ st.take (depA d i) ∨ i ≤ k → E[k]? = some d.length) ∧ ∀ k, k < i → k ∉ st.take (depA d i) → ∃ e, E[k]? = some e ∧ IsEnd d k e) (fun NX hN => ?_) ?_
    · refine sWh_of (fun m σ1 M1 => ∃ E : List Nat, m ≤ st.length ∧ depA d i ≤ m ∧ σ1 = [some (docT d), some (.loc p), some (.loc g), some (.int i), some (.str en.1), some (.int (depA d i))] ∧ M1 p = some (.lst (E.map natT)) ∧ M1 g = some (.lst ((st.take m).map natT)) ∧ (∀ a o, a ≠ p → a ≠ g → M a = some o → M1 a = some o) ∧
        E.length = d.length ∧ (∀ k, k < d.length → k ∈ st.take m ∨ i ≤ k → E[k]? = some d.length) ∧ ∀ k, k < i → k ∉ st.take m → ∃ e, E[k]? = some e ∧ IsEnd d k e) st.length ⟨E, Nat.le_refl _, hdl, rfl, ep, by rw [List.take_length]; exact eg, fr, hE, by rw [List.take_length]; exact hE1, by rw [List.take_length]; exact hE2⟩ ?_
      rintro m σ1 M1 ⟨E, h1, h2, rfl, ep1, eg1, fr1, hE, hE1, hE2⟩
      simp [-List.map_take, eg1]
      by_cases c : depA d i < m
      · rw [if_pos (by omega)]
        refine WhT.of fun N2 hN2 => ?_
        have hk : m - 1 < st.length := by omega
        have ek : st[m - 1]? = some st[m - 1] := by simp [hk]
        obtain ⟨q1, q2, q3⟩ := hP.at_ _ _ ek
        have e2 : ((st.take m).map natT)[((st.take m).map natT).length - 1]? = some (natT st[m - 1]) := by
          rw [List.length_map, List.length_take, Nat.min_eq_left h1, List.getElem?_map, List.getElem?_take, if_pos (by omega)]
          simp [hk]
        have hkE : st[m - 1] < (E.map natT).length := by rw [List.length_map, hE]; omega
        simp [-List.map_take, eg1, ↓kLast_of e2, up_ne pg, ep1, ↓kIx_nat hkE]
        have tk : st.take m = st.take (m - 1) ++ [st[m - 1]] := by
          have := List.take_concat_get (l := st) (i := m - 1) hk
          rw [List.concat_eq_append] at this
          rw [this, show m - 1 + 1 = m by omega]
        have notin : ∀ k, k ∈ st.take (m - 1) → k ≠ st[m - 1] := by
          rintro k hk2 rfl
          have := (hP.pop (m - 1)).mem hk2
          rw [q2] at this
          have := (List.getElem?_eq_some_iff.mp this).1
          simp at this; omega
        refine hN2 (m - 1) _ _ (by omega) ⟨E.set st[m - 1] i, by omega, by omega, rfl, ?_, ?_, fun a o h3 h4 h5 => ?_, by simp [hE], fun k hk2 hk3 => ?_, fun k hk2 hk3 => ?_⟩
        · rw [up_same, List.map_set]
        · rw [up_ne gp, up_same, ← List.map_dropLast, take_pop h1]
        · rw [up_ne h3, up_ne h4]; exact fr1 a o h3 h4 h5
        · have ne : st[m - 1] ≠ k := by
            rcases hk3 with h | h
            · exact fun e => notin k h e.symm
            · omega
          rw [List.getElem?_set_ne ne]
          refine hE1 k hk2 ?_
          rcases hk3 with h | h
          · exact .inl (by rw [tk]; exact List.mem_append_left _ h)
          · exact .inr h
        · by_cases ne : st[m - 1] = k
          · subst ne
            refine ⟨i, by rw [List.getElem?_set_self (by omega)], q1, by omega, fun j a b => by have := q3 j a b; omega, fun _ => by omega⟩
          · rw [List.getElem?_set_ne ne]
            refine hE2 k hk2 fun h => hk3 ?_
            rw [tk] at h
            rcases List.mem_append.mp h with h | h
            · exact h
            · exact absurd (List.mem_singleton.mp h).symm ne
      · rw [if_neg (by omega)]
        have : m = depA d i := by omega
        subst this
        exact hN _ _ ⟨E, rfl, ep1, eg1, fr1, hE, hE1, hE2⟩
    · rintro σ1 M1 ⟨E, rfl, ep1, eg1, fr1, hE, hE1, hE2⟩
      have hP2 := hP.pop (depA d i)
      have hl2 : (st.take (depA d i)).length = depA d i := by rw [List.length_take]; omega
      have e3 : pathN d (i + 1) = depA d i + 1 := by simp [pathN]
      refine nx_cut fun NX hN => ?_
      simp [-List.map_take, eg1, Nat.min_eq_left hdl]
      refine ⟨small_lt (by omega), hN _ _ ⟨st.take (depA d i) ++ [i], E, _, _, _, rfl, by rw [up_ne pg]; exact ep1, by rw [up_same, List.map_append]; rfl, fun a o h3 h4 h5 => by rw [up_ne h4]; exact fr1 a o h3 h4 h5, hP2.push hl2, by rw [List.length_append, hl2, e3]; rfl, hE, fun k hk h => ?_, fun k hk h => ?_⟩⟩
      · refine hE1 k hk ?_
        rcases h with h | h
        · rcases List.mem_append.mp h with h | h
          · exact .inl h
          · exact .inr (by have := List.mem_singleton.mp h; omega)
        · exact .inr (by omega)
      · have h1 : k ∉ st.take (depA d i) := fun z => h (List.mem_append_left _ z)
        have h2 : k ≠ i := fun z => h (List.mem_append_right _ (List.mem_singleton.mpr z))
        exact hE2 k (by omega) h1
  · rintro σ M' ⟨st, E, x, y, z, rfl, ep, eg, fr, hP, hst, hE, hE1, hE2⟩
    simp at hP hE1 hE2 ⊢
    have ee : E.map natT = endsT d := by
      unfold endsT
      apply List.ext_getElem?
      intro k
      rw [List.getElem?_map, List.getElem?_map]
      by_cases hk : k < d.length
      · rw [List.getElem?_range hk]
        by_cases hm : k ∈ st
        · rw [hE1 k hk (.inl hm)]
          have e := hP.mem hm
          obtain ⟨_, _, q3⟩ := hP.at_ _ _ e
          have : IsEnd d k d.length := ⟨hk, Nat.le_refl _, fun j a b => q3 j a b, fun h => absurd h (Nat.lt_irrefl _)⟩
          simp [← this.eq]
        · obtain ⟨e, h1, h2⟩ := hE2 k hk hm
          rw [h1]
          simp [h2.eq]
      · rw [List.getElem?_eq_none (by omega), List.getElem?_eq_none (by simp; omega)]; rfl
    rw [ee] at ep
    refine Fg.le (M := up M p (.lst (endsT d))) (fun a u e => ?_) (hq p hp2)
    by_cases c : a = p
    · subst c; rw [up_same] at e; rw [← e]; exact ep
    · rw [up_ne c] at e
      exact fr a u c (m_ne e hg2) e
/-! ### rows -/
/-- whose row a node stands in: its parent's, or the last for the roots -/
def slotA (d : Doc) (c : Nat) : Nat := (parA d c).getD d.length
def rowI (d : Doc) (k i : Nat) : List Tr := ((List.range i).filter fun c => decide (slotA d c = k)).map natT
theorem slot_le {d : Doc} {c : Nat} (hc : c < d.length) : slotA d c ≤ d.length := by
  unfold slotA
  cases h : parA d c with
  | none => exact Nat.le_refl _
  | some k =>
    obtain ⟨h1, _⟩ := lastI_spec h
    show k ≤ _
    omega
theorem rowI_succ {d : Doc} {k i : Nat} : rowI d k (i + 1) = if slotA d i = k then rowI d k i ++ [natT i] else rowI d k i := by
  unfold rowI
  rw [List.range_succ, List.filter_append, List.map_append]
  by_cases c : slotA d i = k <;> simp [c]
theorem rowI_len {d : Doc} {k i : Nat} : (rowI d k i).length ≤ i := by
  unfold rowI
  rw [List.length_map]
  have := List.length_filter_le (fun c => decide (slotA d c = k)) (List.range i)
  simpa using this
def sp_rows_of : Sp2 := A1 fun a M Q _ => ∃ d, a = docT d ∧ Val d ∧ ∀ M' p (qs : List Addr), M p = none → qs.length = d.length + 1 → qs.Nodup → (∀ q ∈ qs, M q = none ∧ q ≠ p) → M' p = some (.lst (qs.map .loc)) → (∀ k q, qs[k]? = some q → M' q = some (.lst (rowI d k d.length))) → Le M M' → Q (.loc p) M'
def n_rows_of : List Str := "document" :: "rows" :: "node" :: "parent" :: "row" :: "k" :: []
def b_rows_of : TS2 := (sSq (sAs (eLc (iRg1 (aCons (eOp rAdd2 (eB rLen2 (aCons (eVar 0) aNil)) (eC (.int 1))) aNil)) (gN 5) tYes2 (eLst aNil) [5]) (gN 1))
  (sSq (sFo (iEn (aCons (eCall sp_parents_of [] (aCons (eVar 0) aNil)) aNil)) (gT 2 (gCo (gN 2) (gCo (gN 3) gNil2))) (sSq (sAs (eOp rIx2 (eVar 1) (eIf (tCm (eOp (rIsG id) (eVar 3) (eC .non))) (eB rLen2 (aCons (eVar 0) aNil)) (eVar 3))) (gN 4))
  (sDr (eM "list" rApp2 (eVar 4) (aCons (eVar 2) aNil)))))
  (sRt (eVar 1))))
theorem sem_rows_of : ∀ ds M Q E, sp_rows_of ds M Q E → b_rows_of (fEnds Q E) (start2 n_rows_of ds) M := by
  rintro ds M Q E ⟨a, rfl, d, rfl, hval, hq⟩
  have ⟨hv, hl⟩ := hval
  simp only [b_rows_of, start2, n_rows_of]
  simp [docT]
  refine ⟨⟨by omega, by omega⟩, fun p hp => lc_itR (fun i M' => ∃ qs : List Addr, qs.length = i ∧ qs.Nodup ∧ (∀ q ∈ qs, M q = none ∧ q ≠ p ∧ M' q = some (.lst [])) ∧ M' p = some (.lst (qs.map .loc)) ∧ ∀ a o, M a = some o → M' a = some o) ?_ ?_ ?_⟩
  · exact ⟨[], rfl, by simp, fun q hq => by simp at hq, up_same, fun a o h => by rw [up_ne (m_ne h hp)]; exact h⟩
  · rintro i M' hi ⟨qs, h1, h2, h3, h4, h5⟩
    rw [List.length_map] at hi
    simp [wipe2]
    intro q hq1
    have qp : q ≠ p := by intro e; subst e; rw [h4] at hq1; cases hq1
    have qn : q ∉ qs := fun h => by rw [(h3 q h).2.2] at hq1; cases hq1
    have mq : M q = none := Le.none h5 hq1
    refine ⟨qs.map .loc, by rw [up_ne (fun e => qp e.symm)]; exact h4, by rw [List.length_map, h1]; exact small_lt (by omega), qs ++ [q], by simp [h1], ?_, ?_, by rw [up_same, List.map_append]; rfl, ?_⟩
    · rw [List.nodup_append]
      exact ⟨h2, by simp, fun a ha b hb e => by rw [List.mem_singleton] at hb; subst hb; subst e; exact qn ha⟩
    · intro z hz
      rcases List.mem_append.mp hz with hz | hz
      · obtain ⟨a1, a2, a3⟩ := h3 z hz
        exact ⟨a1, a2, by rw [up_ne a2, up_ne (fun e : z = q => qn (by rw [← e]; exact hz))]; exact a3⟩
      · have e := List.mem_singleton.mp hz
        subst e
        exact ⟨mq, qp, by rw [up_ne qp, up_same]⟩
    · intro a o ha
      rw [up_ne (m_ne ha hp), up_ne (m_ne ha mq)]; exact h5 a o ha
  · rintro M1 ⟨qs, h1, h2, h3, h4, h5⟩
    have h1' : qs.length = d.length + 1 := by rw [h1, List.length_map]
    simp
    refine ⟨_, rfl, d, rfl, hval, fun pl hpl => ?_⟩
    have pp : p ≠ pl := m_ne h4 hpl
    have ql : ∀ q ∈ qs, q ≠ pl := fun q hq1 => m_ne (h3 q hq1).2.2 hpl
    have ml : M pl = none := Le.none h5 hpl
    simp
    refine for_itE (fun i σ M' => ∃ (x y z w : Option Tr), σ = [some (docT d), some (.loc p), x, y, z, w] ∧ M' pl = some (.lst (parsT d d.length)) ∧ M' p = some (.lst (qs.map .loc)) ∧ (∀ k q, qs[k]? = some q → M' q = some (.lst (rowI d k i))) ∧ Le M M') ?_ ?_ ?_ ?_
    · refine ⟨_, _, _, _, rfl, up_same, by rw [up_ne pp]; exact h4, fun k q hk => ?_, fun a o h => by rw [up_ne (m_ne h ml)]; exact h5 a o h⟩
      have hm := List.mem_of_getElem? hk
      rw [up_ne (ql q hm)]
      exact (h3 q hm).2.2
    · rintro i σ M' _ ⟨x, y, z, w, rfl, e1, _⟩
      exact seqT_lst e1
    · rintro i e σ M' he ⟨x, y, z, w, rfl, e1, e2, e3, e4⟩
      have hi : i < d.length := by
        have := (List.getElem?_eq_some_iff.mp he).1
        simpa [parsT] using this
      have ee : e = optT (parA d i) := by
        have : (parsT d d.length)[i]? = some (optT (parA d i)) := by simp [parsT, hi]
        rw [this] at he
        exact (Option.some.inj he).symm
      subst ee
      have hs := slot_le hi
      have hsq : slotA d i < qs.length := by omega
      have eq0 : (qs.map Tr.loc)[slotA d i]? = some (.loc qs[slotA d i]) := by simp [hsq]
      have eqs : qs[slotA d i]? = some qs[slotA d i] := by simp [hsq]
      have eq1 := e3 _ _ eqs
      have hm := List.getElem_mem hsq
      have qp := (h3 _ hm).2.1
      have rl := @rowI_len d (slotA d i) i
      simp only [gT_ap, gCo_ap, gN_2, gN_3, gNil2_ap, List.length_cons, List.length_nil, true_and]
      refine nx_cut fun NX hN => ?_
      have fin : ∀ (x y z w : Option Tr), NX [some (docT d), some (.loc p), x, y, z, w] (up M' qs[slotA d i] (.lst (rowI d (slotA d i) i ++ [natT i]))) := fun x y z w => by
        refine hN _ _ ⟨x, y, z, w, rfl, by rw [up_ne (fun e => ql _ hm e.symm)]; exact e1, by rw [up_ne (fun e => qp e.symm)]; exact e2, fun k q hk => ?_, fun a o h => by rw [up_ne (m_ne h (h3 _ hm).1)]; exact e4 a o h⟩
        rw [rowI_succ]
        by_cases c : slotA d i = k
        · subst c
          have : q = qs[slotA d i] := by rw [eqs] at hk; exact (Option.some.inj hk).symm
          subst this
          rw [if_pos rfl, up_same]
        · rw [if_neg c]
          have ne : q ≠ qs[slotA d i] := by
            intro e
            subst e
            have hk' := (List.getElem?_eq_some_iff.mp hk)
            obtain ⟨hk1, hk2⟩ := hk'
            exact c ((List.getElem_inj h2).mp hk2).symm
          rw [up_ne ne]
          exact e3 k q hk
      have ks : kAt (qs.map Tr.loc) ((slotA d i : Nat) : Int) = fun P => P (.loc qs[slotA d i]) := by funext P; exact kAt_get eq0
      cases hp0 : parA d i with
      | none =>
        have es : ((d.length : Nat) : Int) = ((slotA d i : Nat) : Int) := by simp [slotA, hp0]
        simp [optT, docT, e2]
        rw [es, ks]
        simp [eq1]
        exact ⟨small_lt (by omega), fin _ _ _ _⟩
      | some k =>
        have es : ((k : Nat) : Int) = ((slotA d i : Nat) : Int) := by simp [slotA, hp0]
        simp [optT, docT, e2]
        rw [es, ks]
        simp [eq1]
        exact ⟨small_lt (by omega), fin _ _ _ _⟩
    · rintro σ M' ⟨x, y, z, w, rfl, e1, e2, e3, e4⟩
      simp [parsT] at e3
      simp
      exact Fg.same (hq M' p qs hp h1' h2 (fun q hq1 => ⟨(h3 q hq1).1, (h3 q hq1).2.1⟩) e2 e3 e4)
end T

/-! S: texts of data; the package's own answers. -/
namespace T
open PySem PySem.Spec PyProof.Rows L2
theorem shownAll_eq : ∀ l : List Tr, PyData.shownAll (toPs l) = l.map fun t => (toP t).shown
  | [] => rfl
  | t :: r => by
    show (toP t).shown :: PyData.shownAll (toPs r) = _
    rw [shownAll_eq r]; rfl
theorem piled_le {k : Nat} : ∀ {ts : List Str}, (∀ t ∈ ts, t.length ≤ k) → piled ts ≤ ts.length * (k + 2)
  | [], _ => by simp [piled]
  | t :: r, h => by
    have h1 := h t List.mem_cons_self
    have h2 := piled_le (ts := r) fun x hx => h x (List.mem_cons_of_mem _ hx)
    rw [piled_cons, List.length_cons, Nat.add_mul]
    omega
theorem tupleText_le {k : Nat} {ts : List Str} (h : ∀ t ∈ ts, t.length ≤ k) : (tupleText ts).length ≤ ts.length * (k + 2) + 3 := by
  have hp := piled_le h
  have hj : (Str.join ", " ts).length ≤ piled ts := by
    cases ts with
    | nil => exact Nat.zero_le _
    | cons t r => have := join_length_add (t :: r) (by simp); omega
  unfold tupleText
  rw [strLen_append, strLen_append]
  have e1 : (("(" : String) : Str).length = 1 := rfl
  have e2 : ((if (ts.length == 1) = true then ",)" else ")" : String) : Str).length ≤ 2 := by split <;> decide
  omega
/-- what a text of data may hold here -/
def smallT (t : Tr) : Prop := (∃ i, t = .int i ∧ i.natAbs.log2 < 1920) ∨ t = .non
theorem smallT_sh {t : Tr} (h : smallT t) : (toP t).showable = true ∧ (toP t).hasDict = false ∧ (toP t).depth = 0 ∧ (toP t).shown.length ≤ 1921 ∧ pureT t = true := by
  rcases h with ⟨i, rfl, h⟩ | rfl
  · exact ⟨decide_eq_true h, rfl, rfl, int_text_len_1921 h, rfl⟩
  · exact ⟨rfl, rfl, rfl, by decide, rfl⟩
theorem smallL {l : List Tr} (h : ∀ t ∈ l, smallT t) : PyData.showableAll (toPs l) = true ∧ PyData.hasDictAll (toPs l) = false ∧ PyData.depthAll (toPs l) = 0 ∧ pureL l = true := by
  induction l with
  | nil => exact ⟨rfl, rfl, rfl, rfl⟩
  | cons t r ih =>
    obtain ⟨a, b, c, d, e⟩ := smallT_sh (h t List.mem_cons_self)
    obtain ⟨a', b', c', e'⟩ := ih fun x hx => h x (List.mem_cons_of_mem _ hx)
    refine ⟨?_, ?_, ?_, ?_⟩
    · show ((toP t).showable && PyData.showableAll (toPs r)) = true
      rw [a, a']; rfl
    · show ((toP t).hasDict || PyData.hasDictAll (toPs r)) = false
      rw [b, b']; rfl
    · show max (toP t).depth (PyData.depthAll (toPs r)) = 0
      rw [c, c']; rfl
    · show (pureT t && pureL r) = true
      rw [e, e']; rfl
theorem reprS_tup {l : List Tr} {M : Ms} {Q : Q2} {fx : Fx Q} (h : ∀ t ∈ l, smallT t) (hl : l.length ≤ 1000) (hq : Q (.str (toP (.tup l)).shown) M) : ReprS (.tup l) M Q fx := by
  obtain ⟨a, b, c, e⟩ := smallL h
  refine ⟨toP (.tup l), dat_pure e, a, b, ?_, ?_, hq⟩
  · show PyData.depthAll (toPs l) + 1 ≤ 50
    rw [c]; decide
  · show (tupleText (PyData.shownAll (toPs l))).length ≤ _
    rw [shownAll_eq]
    have := tupleText_le (k := 1921) (ts := l.map fun t => (toP t).shown) fun t ht => by
      obtain ⟨x, hx, rfl⟩ := List.mem_map.mp ht
      exact (smallT_sh (h x hx)).2.2.2.1
    rw [List.length_map] at this
    rw [sizeLine_eq]
    omega
theorem reprS_int {i : Int} {M : Ms} {Q : Q2} {fx : Fx Q} (h : i.natAbs.log2 < 1920) (hq : Q (.str (toP (.int i)).shown) M) : ReprS (.int i) M Q fx :=
  ⟨.int i, rfl, decide_eq_true h, rfl, Nat.zero_le 50, by have := int_text_len_1921 h; rw [sizeLine_eq]; exact Nat.le_trans this (by decide), hq⟩
theorem log_small {i : Int} (h0 : -1000000 ≤ i) (h : i ≤ 1000000) : i.natAbs.log2 < 1920 := by
  by_cases c : i.natAbs = 0
  · rw [c]; decide
  · have : i.natAbs < 2 ^ 20 := by omega
    have := (Nat.log2_lt c).mpr this
    omega
theorem small_nat {k : Nat} (h : k ≤ 1000000) : smallT (natT k) := .inl ⟨k, rfl, log_small (by omega) (by omega)⟩
theorem small_opt {o : Option Nat} (h : ∀ k, o = some k → k ≤ 1000000) : smallT (optT o) := by
  cases o with
  | none => exact .inr rfl
  | some k => exact small_nat (h k rfl)
theorem par_lt {d : Doc} {c k : Nat} (h : parA d c = some k) : k < c := (lastI_spec h).1
theorem small_pars {d : Doc} (h : d.length ≤ 1000) : ∀ t ∈ parsT d d.length, smallT t := by
  intro t ht
  obtain ⟨i, hi, rfl⟩ := List.mem_map.mp ht
  exact small_opt fun k hk => by have := par_lt hk; simp at hi; omega
/-! ### the package's answers -/
def sp_parents : Sp2 := A1 fun a M Q _ => ∃ d, a = docT d ∧ Val d ∧ Q (.tup (parsT d d.length)) M
def n_parents : List Str := "document" :: []
def b_parents : TS2 := (sSq (sDr (eCall sp_need_document [] (aCons (eVar 0) aNil)))
  (sRt (eB rTuple2 (aCons (eCall sp_parents_of [] (aCons (eVar 0) aNil)) aNil))))
theorem sem_parents : ∀ ds M Q E, sp_parents ds M Q E → b_parents (fEnds Q E) (start2 n_parents ds) M := by
  rintro ds M Q E ⟨a, rfl, d, rfl, hv, hq⟩
  simp only [b_parents, start2, n_parents]
  simp
  refine ⟨_, rfl, d, rfl, hv, ?_⟩
  simp
  refine ⟨_, rfl, d, rfl, hv, fun p hp => ?_⟩
  simp
  exact Fg.le (Le.new hp) hq
def sp_children : Sp2 := A2 fun a b M Q _ => ∃ (d : Doc) (o : Option Nat), a = docT d ∧ b = optT o ∧ Val d ∧ (∀ k, o = some k → k < d.length) ∧ Q (.tup (chT d o)) M
def n_children : List Str := "document" :: "node" :: []
def b_children : TS2 := (sSq (sDr (eCall sp_need_document [] (aCons (eVar 0) aNil)))
  (sSq (sIf (tAn (tCm (eOp (rIsG not) (eVar 1) (eC .non))) (tNo (tTr (eCall sp_is_below [] (aCons (eVar 1) (aCons (eB rLen2 (aCons (eVar 0) aNil)) aNil)))))) sNv sNx)
  (sRt (eB rTuple2 (aCons (eCall sp_row_of [] (aCons (eVar 0) (aCons (eVar 1) aNil))) aNil)))))
theorem sem_children : ∀ ds M Q E, sp_children ds M Q E → b_children (fEnds Q E) (start2 n_children ds) M := by
  rintro ds M Q E ⟨a, b, rfl, d, o, rfl, rfl, hv, ho, hq⟩
  simp only [b_children, start2, n_children]
  simp
  refine ⟨_, rfl, d, rfl, hv, ?_⟩
  cases o with
  | none =>
    simp [optT]
    exact ⟨_, _, rfl, d, none, rfl, rfl, hv, ho, fun p hp => by simp; exact Fg.le (Le.new hp) hq⟩
  | some k =>
    have hk := ho k rfl
    simp [optT, docT]
    refine ⟨_, _, rfl, "int", d.length, rfl, rfl, ?_⟩
    have e : blw (.int k) (d.length : Int) = true := by simp; omega
    rw [e]
    simp
    exact ⟨_, _, rfl, d, some k, rfl, rfl, hv, ho, fun p hp => by simp; exact Fg.le (Le.new hp) hq⟩
def sizT (d : Doc) : List Tr := (List.range d.length).map fun k => .int ((endA d k : Int) - k)
def sp_sizes : Sp2 := A1 fun a M Q _ => ∃ d, a = docT d ∧ Val d ∧ Q (.tup (sizT d)) M
def n_sizes : List Str := "document" :: "node" :: "end" :: []
def b_sizes : TS2 := (sSq (sDr (eCall sp_need_document [] (aCons (eVar 0) aNil)))
  (sRt (eB rTuple2 (aCons (eLc (iEn (aCons (eCall sp_ends_of [] (aCons (eVar 0) aNil)) aNil)) (gT 2 (gCo (gN 1) (gCo (gN 2) gNil2))) tYes2 (eOp rSub2 (eVar 2) (eVar 1)) [1, 2]) aNil))))
theorem sem_sizes : ∀ ds M Q E, sp_sizes ds M Q E → b_sizes (fEnds Q E) (start2 n_sizes ds) M := by
  rintro ds M Q E ⟨a, rfl, d, rfl, hv, hq⟩
  simp only [b_sizes, start2, n_sizes]
  simp
  refine ⟨_, rfl, d, rfl, hv, ?_⟩
  simp
  refine ⟨_, rfl, d, rfl, hv, fun g hg => ?_⟩
  simp
  have hl := hv.2
  have el : (endsT d).length = d.length := by simp [endsT]
  refine fun p hp => lc_fmE (fun k => some (.int ((endA d k : Int) - k))) (by rw [el]; omega) (fun M' fr => seqT_lst (by rw [fr g (by intro e; subst e; rw [up_same] at hp; cases hp)]; exact up_same)) ?_ ?_
  · rw [fm_all, el]
    simp
    exact Fg.le ((Le.new hg).trans (Le.new hp)) hq
  · intro i e M' he fr KY KN h1 h2
    have hi : i < d.length := by have := (List.getElem?_eq_some_iff.mp he).1; omega
    have : (endsT d)[i]? = some (natT (endA d i)) := by simp [endsT, hi]
    rw [this] at he
    cases he
    simp [wipe2]
    exact h1 _ rfl
def depL (d : Doc) : List Int := d.map fun e => ((e.2 : Int) + 1)
def sp_depth_of : Sp2 := A1 fun a M Q _ => ∃ d, a = docT d ∧ Val d ∧ Q (.int (mxD (depL d) 0)) M
def n_depth_of : List Str := "document" :: "mark" :: "depth" :: []
def b_depth_of : TS2 := (sSq (sDr (eCall sp_need_document [] (aCons (eVar 0) aNil)))
  (sRt (eBK rMaxD (aCons (eLc (iSq (eVar 0)) (gT 2 (gCo (gN 1) (gCo (gN 2) gNil2))) tYes2 (eOp rAdd2 (eVar 2) (eC (.int 1))) [1, 2]) aNil) (aCons (eC (.int 0)) aNil))))
theorem sem_depth_of : ∀ ds M Q E, sp_depth_of ds M Q E → b_depth_of (fEnds Q E) (start2 n_depth_of ds) M := by
  rintro ds M Q E ⟨a, rfl, d, rfl, hv, hq⟩
  have hl := hv.2
  simp only [b_depth_of, start2, n_depth_of]
  simp
  refine ⟨_, rfl, d, rfl, hv, ?_⟩
  simp [docT]
  refine fun p hp => lc_fmL (fun k => some (.int ((depA d k : Int) + 1))) (by rw [List.length_map]; omega) (fun M' fr => rfl) ?_ ?_
  · simp only [aNil_ap, eC_ap, aCons_ap]
    rw [fm_all, List.length_map]
    simp
    refine ⟨depL d, seqT_lst ?_, (fun _ e => nomatch e), Fg.le (Le.new hp) hq⟩
    rw [up_same]
    congr 2
    apply List.ext_getElem?
    intro k
    rw [List.getElem?_map, List.getElem?_map]
    unfold depL
    rw [List.getElem?_map]
    by_cases hk : k < d.length
    · rw [List.getElem?_range hk]
      have : d[k]? = some d[k] := by simp [hk]
      rw [this, Option.map_some, Option.map_some, Option.map_some, depA_at this]
    · rw [List.getElem?_eq_none (by simp; omega), List.getElem?_eq_none (by omega)]; rfl
  · intro i e M' he fr KY KN h1 h2
    obtain ⟨en, hen, rfl⟩ := ent_at he
    simp [wipe2]
    exact h1 _ rfl
/-- the widest row -/
def IsMx (ns : List Int) (m : Int) : Prop := m ∈ ns ∧ ∀ y ∈ ns, y ≤ m
def rowsL (d : Doc) : List Int := (List.range (d.length + 1)).map fun k => ((rowI d k d.length).length : Int)
def sp_breadth_of : Sp2 := A1 fun a M Q _ => ∃ d, a = docT d ∧ Val d ∧ ∀ m, IsMx (rowsL d) m → Q (.int m) M
def n_breadth_of : List Str := "document" :: "row" :: []
def b_breadth_of : TS2 := (sSq (sDr (eCall sp_need_document [] (aCons (eVar 0) aNil)))
  (sRt (eB (rMaxL fun y m => y ≤ m) (aCons (eLc (iSq (eCall sp_rows_of [] (aCons (eVar 0) aNil))) (gN 1) tYes2 (eB rLen2 (aCons (eVar 1) aNil)) [1]) aNil))))
theorem sem_breadth_of : ∀ ds M Q E, sp_breadth_of ds M Q E → b_breadth_of (fEnds Q E) (start2 n_breadth_of ds) M := by
  rintro ds M Q E ⟨a, rfl, d, rfl, hv, hq⟩
  have hl := hv.2
  simp only [b_breadth_of, start2, n_breadth_of]
  simp
  refine ⟨_, rfl, d, rfl, hv, ?_⟩
  simp
  refine ⟨_, rfl, d, rfl, hv, fun M' p qs hp h1 h2 h3 h4 h5 h6 => ?_⟩
  simp [h4]
  refine fun g hg => lc_fmL (fun k => some (.int ((rowI d k d.length).length : Int))) (by rw [List.length_map]; omega) (fun M2 fr => seqT_lst (by rw [fr p (m_ne h4 hg)]; exact h4)) ?_ ?_
  · rw [fm_all, List.length_map, h1]
    simp
    refine ⟨rowsL d, seqT_lst ?_, (fun _ e => nomatch e), ?_, fun m m1 m2 => Fg.le (h6.trans (Le.new hg)) (hq m ⟨m1, m2⟩)⟩
    · rw [up_same]; simp [rowsL]
    · simp [rowsL]
  · intro i e M2 he fr KY KN h7 h8
    rw [List.getElem?_map] at he
    cases hc : qs[i]? with
    | none => rw [hc] at he; cases he
    | some q =>
      rw [hc] at he
      cases he
      have e5 := h5 i q hc
      have : M2 q = some (.lst (rowI d i d.length)) := by rw [fr q (m_ne e5 hg)]; exact e5
      simp [wipe2, this]
      exact h7 _ rfl
end T

/-! U: reprs of pure trees: how long, of which signs. -/
namespace T
open PySem PySem.Spec PyProof.Rows L2
theorem cpsA {x y : Str} : (x ++ y).cps.toList = x.cps.toList ++ y.cps.toList := by
  show (x.cps ++ y.cps).toList = _
  simp
/-- signs that there are -/
def cB (z : Str) : Prop := ∀ c ∈ z.cps.toList, c < 0x110000
theorem cB_ok {z : Str} (h : cB z) : PyData.strOk z = true := by
  unfold PyData.strOk
  rw [← Array.all_toList, List.all_eq_true]
  intro c hc
  exact decide_eq_true (h c hc)
theorem cB_lit (s : String) : cB (Str.ofString s) := by
  intro c hc
  rw [PySem.Str.ofString_eq_toList] at hc
  simp only [List.mem_map] at hc
  obtain ⟨d, _, rfl⟩ := hc
  rcases d.valid with h | h
  · have : d.val.toNat < 0xd800 := h
    show d.val.toNat < _
    omega
  · exact h.2
theorem cB_app {x y : Str} (h : cB x) (h' : cB y) : cB (x ++ y) := by
  intro c hc
  rw [cpsA] at hc
  rcases List.mem_append.mp hc with hc | hc
  · exact h c hc
  · exact h' c hc
theorem cB_join {s : Str} (hs : cB s) : ∀ {ts : List Str}, (∀ t ∈ ts, cB t) → cB (Str.join s ts)
  | [], _ => by intro c hc; have : c ∈ ([] : List Nat) := hc; simp at this
  | [x], h => h x List.mem_cons_self
  | x :: y :: r, h => by
    show cB (x ++ s ++ Str.join s (y :: r))
    exact cB_app (cB_app (h x List.mem_cons_self) hs) (cB_join hs fun t ht => h t (List.mem_cons_of_mem _ ht))
theorem cB_digits {c : Nat} : ∀ x ∈ ((Nat.toDigits 16 c).map Char.toNat), x < 0x110000 := by
  intro x hx
  obtain ⟨d, _, rfl⟩ := List.mem_map.mp hx
  rcases d.valid with h | h
  · have : d.val.toNat < 0xd800 := h
    show d.val.toNat < _
    omega
  · exact h.2
theorem cB_char {q c : Nat} (h : c < 0x110000) : ∀ x ∈ Builtin.Str.reprChar q c, x < 0x110000 := by
  intro x hx
  have hex : ∀ w : Nat, x ∈ (List.replicate (w - ((Nat.toDigits 16 c).map Char.toNat).length) 48 ++ (Nat.toDigits 16 c).map Char.toNat) → x < 0x110000 := fun w hx => by
    rcases List.mem_append.mp hx with hx | hx
    · have := List.eq_of_mem_replicate hx; omega
    · exact cB_digits x hx
  unfold Builtin.Str.reprChar at hx
  dsimp only at hx
  split at hx
  · simp at hx; omega
  split at hx
  · simp at hx; omega
  split at hx
  · simp at hx; omega
  split at hx
  · simp at hx; omega
  split at hx
  · simp at hx; omega
  split at hx
  · rcases List.mem_append.mp hx with hx | hx
    · simp at hx; omega
    · exact hex 2 hx
  split at hx
  · rcases List.mem_append.mp hx with hx | hx
    · simp at hx; omega
    · exact hex 4 hx
  · rcases List.mem_append.mp hx with hx | hx
    · simp at hx; omega
    · exact hex 8 hx
theorem cB_fold {q : Nat} : ∀ (l : List Nat) (acc : Array Nat), (∀ c ∈ l, c < 0x110000) → (∀ x ∈ acc.toList, x < 0x110000) → ∀ x ∈ (l.foldl (fun out c => out ++ (Builtin.Str.reprChar q c).toArray) acc).toList, x < 0x110000
  | [], acc, _, h => h
  | c :: r, acc, hl, h => by
    rw [List.foldl_cons]
    refine cB_fold r _ (fun x hx => hl x (List.mem_cons_of_mem _ hx)) fun x hx => ?_
    rw [Array.toList_append] at hx
    rcases List.mem_append.mp hx with hx | hx
    · exact h x hx
    · exact cB_char (hl c List.mem_cons_self) x hx
theorem cB_reprText {z : Str} (h : cB z) : cB (reprText z) := by
  have hq : reprQuote z < 0x110000 := by
    unfold reprQuote
    split <;> decide
  intro c hc
  unfold reprText at hc
  rw [Array.toList_push] at hc
  rcases List.mem_append.mp hc with hc | hc
  · rw [← Array.foldl_toList] at hc
    exact cB_fold z.cps.toList _ h (fun x hx => by
      have : x = reprQuote z := by simpa using hx
      omega) c hc
  · have : c = reprQuote z := by simpa using hc
    omega
mutual
/-- a tree whose text is told -/
def shB : Tr → Bool
  | .non => true
  | .bl _ => true
  | .int i => decide (i.natAbs.log2 < 1920)
  | .str z => z.cps.toList.all fun c => decide (c < 0x110000)
  | .tup ds => shL ds
  | .fro ds => shL ds
  | _ => false
def shL : List Tr → Bool
  | [] => true
  | d :: r => shB d && shL r
end
mutual
/-- at most so long -/
def wT : Tr → Nat
  | .non => 4
  | .bl _ => 5
  | .int i => if i.natAbs < 1000000 then 7 else 1921
  | .str z => 10 * z.length + 2
  | .tup ds => wL ds + 3
  | .fro ds => wL ds + 3
  | _ => 0
def wL : List Tr → Nat
  | [] => 0
  | d :: r => wT d + 2 + wL r
end
theorem shL_mem : ∀ {ds : List Tr}, shL ds = true ↔ ∀ d ∈ ds, shB d = true
  | [] => by simp [shL]
  | d :: r => by
    show (shB d && shL r) = true ↔ _
    rw [Bool.and_eq_true, shL_mem (ds := r)]
    simp
theorem wL_le {k : Nat} : ∀ {ds : List Tr}, (∀ d ∈ ds, wT d ≤ k) → wL ds ≤ ds.length * (k + 2)
  | [], _ => by simp [wL]
  | d :: r, h => by
    have h1 := h d List.mem_cons_self
    have h2 := wL_le (ds := r) fun x hx => h x (List.mem_cons_of_mem _ hx)
    show wT d + 2 + wL r ≤ _
    rw [List.length_cons, Nat.add_mul]
    omega
theorem cB_of_all {z : Str} (h : (z.cps.toList.all fun c => decide (c < 0x110000)) = true) : cB z := fun c hc => of_decide_eq_true (List.all_eq_true.mp h c hc)
theorem listText_eq (ts : List Str) : ∃ u : Str, listText ts = u ∧ ((∀ t ∈ ts, cB t) → cB u) := by
  refine ⟨_, rfl, fun h => ?_⟩
  have key : ∀ (ts : List Str) (k : Nat) (acc : Str), cB acc → (∀ t ∈ ts, cB t) → cB (textFrom k acc ts) := by
    intro ts
    induction ts with
    | nil => intro k acc ha _; exact ha
    | cons t r ih =>
      intro k acc ha ht
      show cB (textFrom (k + 1) (acc ++ (if k > 0 then ", " else "" : String) ++ t) r)
      exact ih _ _ (cB_app (cB_app ha (cB_lit _)) (ht t List.mem_cons_self)) fun x hx => ht x (List.mem_cons_of_mem _ hx)
  exact cB_app (key ts 0 "[" (cB_lit _) h) (cB_lit _)
mutual
theorem sh_ok : ∀ {t : Tr}, shB t = true → pureT t = true ∧ (toP t).showable = true ∧ (toP t).hasDict = false ∧ cB (toP t).shown ∧ (toP t).shown.length ≤ wT t
  | .non, _ => ⟨rfl, rfl, rfl, cB_lit "None", by decide⟩
  | .bl b, _ => ⟨rfl, rfl, rfl, by cases b <;> exact cB_lit _, by cases b <;> decide⟩
  | .int i, h => by
    have h' : i.natAbs.log2 < 1920 := of_decide_eq_true h
    refine ⟨rfl, decide_eq_true h', rfl, cB_lit (toString i), ?_⟩
    show (PySem.Str.ofString (toString i)).length ≤ if i.natAbs < 1000000 then 7 else 1921
    split
    · rename_i q
      rw [PySem.ofString_length]
      exact PySem.int_text_length_le10 (k := 6) (by decide) (by have : (10 : Nat) ^ 6 = 1000000 := by decide
                                                                omega)
    · exact int_text_len_1921 h'
  | .str z, h => by
    have hz := cB_of_all h
    refine ⟨rfl, rfl, rfl, cB_reprText hz, ?_⟩
    exact PySem.StrLaws.reprText_len z fun c hc => by
      have := hz c hc
      have e : (16 : Nat) ^ 8 = 4294967296 := by decide
      omega
  | .tup ds, h => by
    obtain ⟨a, b, c, d, e⟩ := shL_ok (ds := ds) h
    refine ⟨a, b, c, ?_, ?_⟩
    · show cB (("(" : Str) ++ Str.join ", " (PyData.shownAll (toPs ds)) ++ (if (PyData.shownAll (toPs ds)).length == 1 then ",)" else ")" : String))
      exact cB_app (cB_app (cB_lit _) (cB_join (cB_lit _) d)) (cB_lit _)
    · show (tupleText (PyData.shownAll (toPs ds))).length ≤ wL ds + 3
      have hj : (Str.join ", " (PyData.shownAll (toPs ds))).length ≤ piled (PyData.shownAll (toPs ds)) := by
        cases hc : PyData.shownAll (toPs ds) with
        | nil => exact Nat.zero_le _
        | cons t r => have := join_length_add (t :: r) (by simp); omega
      unfold tupleText
      rw [strLen_append, strLen_append]
      have e1 : (("(" : String) : Str).length = 1 := rfl
      have e2 : ((if ((PyData.shownAll (toPs ds)).length == 1) = true then ",)" else ")" : String) : Str).length ≤ 2 := by split <;> decide
      omega
  | .fro ds, h => by
    obtain ⟨a, b, c, d, e⟩ := shL_ok (ds := ds) h
    obtain ⟨u, hu, hc⟩ := listText_eq (PyData.shownAll (toPs ds))
    refine ⟨a, b, c, ?_, ?_⟩
    · show cB (listText (PyData.shownAll (toPs ds)))
      rw [hu]; exact hc d
    · show (listText (PyData.shownAll (toPs ds))).length ≤ wL ds + 3
      have h1 := listText_len_le (PyData.shownAll (toPs ds))
      have h2 : ((PyData.shownAll (toPs ds)).map (·.length)).sum + 2 * (PyData.shownAll (toPs ds)).length = piled (PyData.shownAll (toPs ds)) := by
        generalize PyData.shownAll (toPs ds) = ts
        induction ts with
        | nil => rfl
        | cons t r ih => rw [piled_cons, List.map_cons, List.sum_cons, List.length_cons]; omega
      omega
  | .loc _, h => by cases h
  | .ty _, h => by cases h
theorem shL_ok : ∀ {ds : List Tr}, shL ds = true → pureL ds = true ∧ PyData.showableAll (toPs ds) = true ∧ PyData.hasDictAll (toPs ds) = false ∧ (∀ t ∈ PyData.shownAll (toPs ds), cB t) ∧ piled (PyData.shownAll (toPs ds)) ≤ wL ds
  | [], _ => ⟨rfl, rfl, rfl, (fun _ h => nomatch (show _ ∈ ([] : List Str) from h)), Nat.le_refl _⟩
  | d :: r, h => by
    have h' : (shB d && shL r) = true := h
    rw [Bool.and_eq_true] at h'
    obtain ⟨a, b, c, e, l⟩ := sh_ok h'.1
    obtain ⟨a', b', c', e', l'⟩ := shL_ok h'.2
    refine ⟨?_, ?_, ?_, ?_, ?_⟩
    · show (pureT d && pureL r) = true
      rw [a, a']; rfl
    · show ((toP d).showable && PyData.showableAll (toPs r)) = true
      rw [b, b']; rfl
    · show ((toP d).hasDict || PyData.hasDictAll (toPs r)) = false
      rw [c, c']; rfl
    · intro t ht
      have ht' : t ∈ (toP d).shown :: PyData.shownAll (toPs r) := ht
      rcases List.mem_cons.mp ht' with rfl | ht'
      · exact e
      · exact e' t ht'
    · show piled ((toP d).shown :: PyData.shownAll (toPs r)) ≤ wT d + 2 + wL r
      rw [piled_cons]; omega
end
theorem reprS_sh {t : Tr} {M : Ms} {Q : Q2} {fx : Fx Q} (h : shB t = true) (hd : hT t ≤ 50) (hw : wT t ≤ 16000000) (hq : Q (.str (toP t).shown) M) : ReprS t M Q fx := by
  obtain ⟨a, b, c, d, e⟩ := sh_ok h
  exact ⟨toP t, dat_pure a, b, c, by rw [hT_ok]; exact hd, by rw [sizeLine_eq]; omega, hq⟩
theorem reprS_shL {a : Addr} {l : List Tr} {M : Ms} {Q : Q2} {fx : Fx Q} (ea : M a = some (.lst l)) (h : shL l = true) (hd : hL l ≤ 49) (hw : wL l ≤ 16000000) (hq : Q (.str (PyData.list (toPs l)).shown) M) : ReprS (.loc a) M Q fx := by
  obtain ⟨p1, p2, p3, p4, p5⟩ := shL_ok h
  obtain ⟨_, _, _, _, e⟩ := sh_ok (t := .fro l) h
  refine ⟨.list (toPs l), ⟨_, seqT_lst ea, (fun _ e => nomatch e), datL_pure p1⟩, p2, p3, ?_, ?_, hq⟩
  · show PyData.depthAll (toPs l) + 1 ≤ 50
    rw [hL_ok]; omega
  · have e2 : (PyData.list (toPs l)).shown.length ≤ wL l + 3 := e
    rw [sizeLine_eq]; omega
theorem wT_int {i : Int} (h : i.natAbs < 1000000) : wT (.int i) = 7 := if_pos h
theorem sh_nat {i : Int} (h : i.natAbs < 1000000) : shB (.int i) = true := decide_eq_true (by
  by_cases c : i.natAbs = 0
  · rw [c]; decide
  · have : i.natAbs < 2 ^ 20 := by omega
    have := (Nat.log2_lt c).mpr this
    omega)
/-- what is shown is a text that can be compared -/
theorem nb_shown {t : Tr} (h : shB t = true) : nbT (.str (toP t).shown) = true := cB_ok (sh_ok h).2.2.2.1
end T

/-! H: shapes, plain. -/
namespace T
open PySem PySem.Spec PyProof.Rows L2
inductive Sh where
  | leaf | pair (l r : Sh)
namespace Sh
def width : Sh → Nat
  | leaf => 1
  | pair l r => l.width + r.width
def height : Sh → Nat
  | leaf => 0
  | pair l r => 1 + max l.height r.height
/-- of each pair the sides' heights differ by at most one -/
def bal : Sh → Bool
  | leaf => true
  | pair l r => l.bal && r.bal && decide (l.height ≤ r.height + 1) && decide (r.height ≤ l.height + 1)
theorem width_pos : ∀ s : Sh, 1 ≤ s.width
  | leaf => Nat.le_refl 1
  | pair l r => by have := width_pos l; show 1 ≤ l.width + r.width; omega
theorem width_le : ∀ s : Sh, s.width ≤ 2 ^ s.height
  | leaf => Nat.le_refl 1
  | pair l r => by
    have a := width_le l
    have b := width_le r
    have c : 2 ^ l.height ≤ 2 ^ max l.height r.height := Nat.pow_le_pow_right (by decide) (Nat.le_max_left ..)
    have d : 2 ^ r.height ≤ 2 ^ max l.height r.height := Nat.pow_le_pow_right (by decide) (Nat.le_max_right ..)
    show l.width + r.width ≤ 2 ^ (1 + max l.height r.height)
    rw [Nat.add_comm 1, Nat.pow_succ]
    omega
theorem height_lt : ∀ s : Sh, s.height < s.width
  | leaf => Nat.zero_lt_one
  | pair l r => by
    have a := height_lt l
    have b := height_lt r
    have c := width_pos l
    have d := width_pos r
    show 1 + max l.height r.height < l.width + r.width
    omega
theorem height_0 {s : Sh} : s.height = 0 ↔ s = leaf := by
  cases s with
  | leaf => simp [height]
  | pair l r => simp [height]
end Sh
/-- the tuple of a shape -/
def shT : Sh → Tr
  | .leaf => .non
  | .pair l r => .tup [shT l, shT r]
theorem shT_nb : ∀ s : Sh, nbT (shT s) = true ∧ hT (shT s) = s.height
  | .leaf => ⟨rfl, rfl⟩
  | .pair l r => by
    obtain ⟨a1, a2⟩ := shT_nb l
    obtain ⟨b1, b2⟩ := shT_nb r
    constructor
    · show (nbT (shT l) && (nbT (shT r) && true)) = true
      rw [a1, b1]; rfl
    · show hL [shT l, shT r] + 1 = _
      show max (hT (shT l)) (max (hT (shT r)) 0) + 1 = 1 + max l.height r.height
      rw [a2, b2]; omega
theorem shT_inj : ∀ {s t : Sh}, shT s = shT t ↔ s = t
  | .leaf, .leaf => by simp
  | .leaf, .pair _ _ => by simp [shT]
  | .pair _ _, .leaf => by simp [shT]
  | .pair a b, .pair c d => by
    simp only [shT, Tr.tup.injEq, List.cons.injEq, and_true, Sh.pair.injEq]
    rw [shT_inj (s := a), shT_inj (s := b)]
/-! least widths -/
def leastN : Nat → Nat
  | 0 => 1
  | 1 => 2
  | n + 2 => leastN (n + 1) + leastN n
theorem leastN_pos : ∀ n, 1 ≤ leastN n
  | 0 => by decide
  | 1 => by decide
  | n + 2 => by have := leastN_pos (n + 1); show 1 ≤ leastN (n + 1) + leastN n; omega
theorem leastN_lt : ∀ n, leastN n < leastN (n + 1)
  | 0 => by decide
  | n + 1 => by have := leastN_pos n; show leastN (n + 1) < leastN (n + 1) + leastN n; omega
theorem leastN_mono {a b : Nat} (h : a ≤ b) : leastN a ≤ leastN b := by
  induction h with
  | refl => exact Nat.le_refl _
  | step _ ih => exact Nat.le_trans ih (Nat.le_of_lt (leastN_lt _))
theorem leastN_gt (n : Nat) : n < leastN n := by
  induction n with
  | zero => decide
  | succ n ih => have := leastN_lt n; omega
theorem leastN_20 : leastN 20 = 17711 ∧ leastN 21 = 28657 := by decide +kernel
theorem Sh.least : ∀ {s : Sh}, s.bal = true → leastN s.height ≤ s.width
  | .leaf, _ => Nat.le_refl 1
  | .pair l r, h => by
    simp only [Sh.bal, Bool.and_eq_true, decide_eq_true_eq] at h
    obtain ⟨⟨⟨h1, h2⟩, h3⟩, h4⟩ := h
    have a := Sh.least h1
    have b := Sh.least h2
    show leastN (1 + max l.height r.height) ≤ l.width + r.width
    rcases Nat.lt_or_ge l.height r.height with c | c
    · have e : max l.height r.height = l.height + 1 := by omega
      have e2 : r.height = l.height + 1 := by omega
      rw [e, show 1 + (l.height + 1) = l.height + 2 by omega]
      rw [e2] at b
      show leastN (l.height + 1) + leastN l.height ≤ _
      omega
    · rcases Nat.lt_or_ge r.height l.height with c2 | c2
      · have e : max l.height r.height = r.height + 1 := by omega
        have e2 : l.height = r.height + 1 := by omega
        rw [e, show 1 + (r.height + 1) = r.height + 2 by omega]
        rw [e2] at a
        show leastN (r.height + 1) + leastN r.height ≤ _
        omega
      · have e : l.height = r.height := by omega
        rw [e, Nat.max_self, Nat.add_comm]
        rw [e] at a
        cases hr : r.height with
        | zero =>
          have := Sh.width_pos l
          have := Sh.width_pos r
          show 2 ≤ _
          omega
        | succ n =>
          rw [hr] at a b
          show leastN (n + 1) + leastN n ≤ _
          have := leastN_lt n
          omega
theorem leastN_pow : ∀ n, leastN n ≤ 2 ^ n
  | 0 => by decide
  | 1 => by decide
  | n + 2 => by
    have a := leastN_pow (n + 1)
    have b := leastN_pow n
    have e : 2 ^ (n + 2) = 2 ^ (n + 1) + 2 ^ n + 2 ^ n := by rw [Nat.pow_succ, Nat.pow_succ]; omega
    show leastN (n + 1) + leastN n ≤ _
    omega
theorem leastN_two : ∀ n, 2 * leastN (n + 1) ≤ 2 ^ (n + 1) + 2 ^ n + 1
  | 0 => by decide
  | 1 => by decide
  | n + 2 => by
    have a := leastN_two (n + 1)
    have b := leastN_two n
    have e1 : 2 ^ (n + 3) = 8 * 2 ^ n := by rw [Nat.pow_succ, Nat.pow_succ, Nat.pow_succ]; omega
    have e2 : 2 ^ (n + 2) = 4 * 2 ^ n := by rw [Nat.pow_succ, Nat.pow_succ]; omega
    have e3 : 2 ^ (n + 1) = 2 * 2 ^ n := by rw [Nat.pow_succ]; omega
    have p := Nat.two_pow_pos n
    show 2 * (leastN (n + 2) + leastN (n + 1)) ≤ 2 ^ (n + 3) + 2 ^ (n + 2) + 1
    rw [show n + 1 + 1 = n + 2 from rfl] at a
    omega
/-- the greatest height of a balanced shape of so many children -/
structure IsTall (w t : Nat) : Prop where
  lo : t = 0 ∨ leastN t ≤ w
  hi : w < leastN (t + 1)
theorem IsTall.uniq {w t t' : Nat} (h : IsTall w t) (h' : IsTall w t') : t = t' := by
  rcases Nat.lt_trichotomy t t' with c | c | c
  · have := leastN_mono (show t + 1 ≤ t' by omega)
    have := h.hi
    rcases h'.lo with e | e <;> omega
  · exact c
  · have := leastN_mono (show t' + 1 ≤ t by omega)
    have := h'.hi
    rcases h.lo with e | e <;> omega
theorem IsTall.le {w t : Nat} (h : IsTall w t) (hw : w ≤ 20000) : t ≤ 20 := by
  rcases Nat.lt_or_ge 20 t with c | c
  · have a := leastN_mono (show 21 ≤ t by omega)
    have b := leastN_20.2
    rcases h.lo with e | e <;> omega
  · exact c
/-! halves -/
/-- the even shape: n + 1 children -/
def evenF : Nat → Nat → Sh
  | 0, _ => .leaf
  | f + 1, n => if n ≤ 1 then .leaf else .pair (evenF f ((n + 1) / 2)) (evenF f (n / 2))
def evenS (n : Nat) : Sh := evenF n n
theorem evenF_stable : ∀ {f g n : Nat}, n ≤ f + 1 → n ≤ g + 1 → evenF f n = evenF g n
  | 0, 0, _, _, _ => rfl
  | 0, g + 1, n, h, _ => by
    show Sh.leaf = if n ≤ 1 then .leaf else _
    rw [if_pos (by omega)]
  | f + 1, 0, n, _, h => by
    show (if n ≤ 1 then Sh.leaf else _) = .leaf
    rw [if_pos (by omega)]
  | f + 1, g + 1, n, h, h' => by
    show (if n ≤ 1 then Sh.leaf else _) = if n ≤ 1 then Sh.leaf else _
    by_cases c : n ≤ 1
    · rw [if_pos c, if_pos c]
    · rw [if_neg c, if_neg c, evenF_stable (f := f) (g := g) (n := (n + 1) / 2) (by omega) (by omega), evenF_stable (f := f) (g := g) (n := n / 2) (by omega) (by omega)]
theorem evenS_one : evenS 1 = .leaf := rfl
theorem evenS_eq {n : Nat} (h : 2 ≤ n) : evenS n = .pair (evenS ((n + 1) / 2)) (evenS (n / 2)) := by
  have e : evenS n = evenF (n - 1 + 1) n := by unfold evenS; exact evenF_stable (by omega) (by omega)
  rw [e]
  show (if n ≤ 1 then Sh.leaf else _) = _
  rw [if_neg (by omega)]
  unfold evenS
  rw [evenF_stable (f := n - 1) (g := (n + 1) / 2) (by omega) (by omega), evenF_stable (f := n - 1) (g := n / 2) (by omega) (by omega)]
theorem evenS_width : ∀ {k n : Nat}, n ≤ k → 1 ≤ n → (evenS n).width = n := by
  intro k
  induction k with
  | zero => intro n h h1; omega
  | succ k ih =>
    intro n h h1
    by_cases c : n = 1
    · subst c; rfl
    · rw [evenS_eq (by omega)]
      show (evenS ((n + 1) / 2)).width + (evenS (n / 2)).width = n
      rw [ih (by omega) (by omega), ih (by omega) (by omega)]
      omega
/-- how many binary digits -/
def bitsN : Nat → Nat → Nat
  | 0, _ => 0
  | f + 1, n => if n = 0 then 0 else 1 + bitsN f (n / 2)
theorem evenS_height : ∀ {k n f : Nat}, n ≤ k → 1 ≤ n → n ≤ f + 1 → (evenS n).height = bitsN f (n - 1) ∧ ∀ j, n ≤ 2 ^ j ↔ (evenS n).height ≤ j := by
  intro k
  induction k with
  | zero => intro n f h h1; omega
  | succ k ih =>
    intro n f h h1 hf
    by_cases c : n = 1
    · subst c
      refine ⟨?_, fun j => ?_⟩
      · show 0 = bitsN f 0
        cases f <;> rfl
      · have := Nat.two_pow_pos j
        show 1 ≤ 2 ^ j ↔ 0 ≤ j
        omega
    · obtain ⟨a1, a2⟩ := ih (n := (n + 1) / 2) (f := f - 1) (by omega) (by omega) (by omega)
      obtain ⟨b1, b2⟩ := ih (n := n / 2) (f := f - 1) (by omega) (by omega) (by omega)
      have le : (evenS (n / 2)).height ≤ (evenS ((n + 1) / 2)).height := (b2 _).mp (by
        have := (a2 _).mpr (Nat.le_refl (evenS ((n + 1) / 2)).height)
        omega)
      have e : (evenS n).height = 1 + (evenS ((n + 1) / 2)).height := by
        rw [evenS_eq (by omega)]
        show 1 + max _ _ = _
        rw [Nat.max_eq_left le]
      refine ⟨?_, fun j => ?_⟩
      · rw [e, a1]
        cases f with
        | zero => omega
        | succ f =>
          show _ = if n - 1 = 0 then 0 else 1 + bitsN f ((n - 1) / 2)
          rw [if_neg (by omega), show (n - 1) / 2 = (n + 1) / 2 - 1 by omega]
          rfl
      · rw [e]
        cases j with
        | zero =>
          show n ≤ 1 ↔ _
          omega
        | succ j =>
          have := a2 j
          rw [Nat.pow_succ]
          omega
theorem evenS_bal : ∀ {k n : Nat}, n ≤ k → 1 ≤ n → (evenS n).bal = true := by
  intro k
  induction k with
  | zero => intro n h h1; omega
  | succ k ih =>
    intro n h h1
    by_cases c : n = 1
    · subst c; rfl
    · have a := (evenS_height (n := (n + 1) / 2) (f := n) (Nat.le_refl _) (by omega) (by omega)).2
      have b := (evenS_height (n := n / 2) (f := n) (Nat.le_refl _) (by omega) (by omega)).2
      have h1 : (evenS (n / 2)).height ≤ (evenS ((n + 1) / 2)).height := (b _).mp (by
        have := (a _).mpr (Nat.le_refl (evenS ((n + 1) / 2)).height)
        omega)
      have h2 : (evenS ((n + 1) / 2)).height ≤ (evenS (n / 2)).height + 1 := (a _).mp (by
        have := (b _).mpr (Nat.le_refl (evenS (n / 2)).height)
        have p := Nat.two_pow_pos (evenS (n / 2)).height
        rw [Nat.pow_succ]
        omega)
      rw [evenS_eq (by omega)]
      simp only [Sh.bal, Bool.and_eq_true, decide_eq_true_eq]
      exact ⟨⟨⟨ih (by omega) (by omega), ih (by omega) (by omega)⟩, h2⟩, by omega⟩
theorem evenS_le {n : Nat} (h1 : 1 ≤ n) (h : n ≤ 20001) : (evenS n).height ≤ 15 := by
  have := (evenS_height (n := n) (f := n) (Nat.le_refl _) h1 (by omega)).2 15
  rw [← this]
  have : (2 : Nat) ^ 15 = 32768 := by decide
  omega
end T

/-! I: balanced shapes joined, cut, with one child more or less, plain. -/
namespace T
open PySem PySem.Spec PyProof.Rows L2
open Sh
theorem bal_pair {l r : Sh} : (Sh.pair l r).bal = true ↔ l.bal = true ∧ r.bal = true ∧ l.height ≤ r.height + 1 ∧ r.height ≤ l.height + 1 := by
  simp only [Sh.bal, Bool.and_eq_true, decide_eq_true_eq, and_assoc]
theorem hp {l r : Sh} : (Sh.pair l r).height = 1 + max l.height r.height := rfl
theorem wp {l r : Sh} : (Sh.pair l r).width = l.width + r.width := rfl
/-- two side by side whose heights differ by at most two -/
def evenP (l r : Sh) : Sh :=
  if l.height + 1 < r.height then
    match r with
    | .pair i o => if i.height ≤ o.height then .pair (.pair l i) o else
      match i with
      | .pair x y => .pair (.pair l x) (.pair y o)
      | .leaf => .leaf
    | .leaf => .leaf
  else if r.height + 1 < l.height then
    match l with
    | .pair o i => if i.height ≤ o.height then .pair o (.pair i r) else
      match i with
      | .pair x y => .pair (.pair o x) (.pair y r)
      | .leaf => .leaf
    | .leaf => .leaf
  else .pair l r
theorem evenP_ok {l r : Sh} (hl : l.bal = true) (hr : r.bal = true) (h1 : l.height ≤ r.height + 2) (h2 : r.height ≤ l.height + 2) :
    (evenP l r).bal = true ∧ (evenP l r).width = l.width + r.width ∧ max l.height r.height ≤ (evenP l r).height ∧ (evenP l r).height ≤ max l.height r.height + 1 := by
  unfold evenP
  by_cases c1 : l.height + 1 < r.height
  · rw [if_pos c1]
    cases r with
    | leaf => have : Sh.leaf.height = 0 := rfl; omega
    | pair i o =>
      obtain ⟨b1, b2, b3, b4⟩ := bal_pair.mp hr
      rw [hp] at c1 h2 ⊢
      dsimp only
      by_cases c2 : i.height ≤ o.height
      · rw [if_pos c2]
        refine ⟨bal_pair.mpr ⟨bal_pair.mpr ⟨hl, b1, by omega, by omega⟩, b2, by rw [hp]; omega, by rw [hp]; omega⟩, by simp only [wp]; omega, by simp only [hp]; omega, by simp only [hp]; omega⟩
      · rw [if_neg c2]
        cases i with
        | leaf => have : Sh.leaf.height = 0 := rfl; omega
        | pair x y =>
          obtain ⟨a1, a2, a3, a4⟩ := bal_pair.mp b1
          rw [hp] at b3 b4 c1 c2 h2
          dsimp only
          refine ⟨bal_pair.mpr ⟨bal_pair.mpr ⟨hl, a1, by omega, by omega⟩, bal_pair.mpr ⟨a2, b2, by omega, by omega⟩, by simp only [hp]; omega, by simp only [hp]; omega⟩, by simp only [wp]; omega, by simp only [hp]; omega, by simp only [hp]; omega⟩
  · rw [if_neg c1]
    by_cases c3 : r.height + 1 < l.height
    · rw [if_pos c3]
      cases l with
      | leaf => have : Sh.leaf.height = 0 := rfl; omega
      | pair o i =>
        obtain ⟨b1, b2, b3, b4⟩ := bal_pair.mp hl
        rw [hp] at c3 h1 c1 ⊢
        dsimp only
        by_cases c2 : i.height ≤ o.height
        · rw [if_pos c2]
          refine ⟨bal_pair.mpr ⟨b1, bal_pair.mpr ⟨b2, hr, by omega, by omega⟩, by rw [hp]; omega, by rw [hp]; omega⟩, by simp only [wp]; omega, by simp only [hp]; omega, by simp only [hp]; omega⟩
        · rw [if_neg c2]
          cases i with
          | leaf => have : Sh.leaf.height = 0 := rfl; omega
          | pair x y =>
            obtain ⟨a1, a2, a3, a4⟩ := bal_pair.mp b2
            rw [hp] at b3 b4 c1 c2 c3 h1
            dsimp only
            refine ⟨bal_pair.mpr ⟨bal_pair.mpr ⟨b1, a1, by omega, by omega⟩, bal_pair.mpr ⟨a2, hr, by omega, by omega⟩, by simp only [hp]; omega, by simp only [hp]; omega⟩, by simp only [wp]; omega, by simp only [hp]; omega, by simp only [hp]; omega⟩
    · rw [if_neg c3]
      exact ⟨bal_pair.mpr ⟨hl, hr, by omega, by omega⟩, rfl, by rw [hp]; omega, by rw [hp]; omega⟩
theorem evenP_p {l r : Sh} (h1 : l.height ≤ r.height + 1) (h2 : r.height ≤ l.height + 1) : evenP l r = .pair l r := by
  unfold evenP
  rw [if_neg (by omega), if_neg (by omega)]
/-- two side by side -/
def joinF : Nat → Sh → Sh → Sh
  | 0, l, r => .pair l r
  | f + 1, l, r =>
    if r.height + 1 < l.height then
      match l with
      | .pair a b => evenP a (joinF f b r)
      | .leaf => .leaf
    else if l.height + 1 < r.height then
      match r with
      | .pair a b => evenP (joinF f l a) b
      | .leaf => .leaf
    else .pair l r
theorem joinF_ok : ∀ (f : Nat) {l r : Sh}, max l.height r.height ≤ f + 1 → l.bal = true → r.bal = true → (joinF f l r).bal = true ∧ (joinF f l r).width = l.width + r.width ∧ max l.height r.height ≤ (joinF f l r).height ∧ (joinF f l r).height ≤ max l.height r.height + 1
  | 0, l, r, hf, hl, hr => ⟨bal_pair.mpr ⟨hl, hr, by omega, by omega⟩, rfl, by show _ ≤ (Sh.pair l r).height; rw [hp]; omega, by show (Sh.pair l r).height ≤ _; rw [hp]; omega⟩
  | f + 1, l, r, hf, hl, hr => by
    unfold joinF
    by_cases c1 : r.height + 1 < l.height
    · simp only [if_pos c1]
      cases l with
      | leaf => have : Sh.leaf.height = 0 := rfl; omega
      | pair a b =>
        obtain ⟨b1, b2, b3, b4⟩ := bal_pair.mp hl
        rw [hp] at c1 hf ⊢
        dsimp only
        obtain ⟨j1, j2, j3, j4⟩ := joinF_ok f (l := b) (r := r) (by omega) b2 hr
        obtain ⟨e1, e2, e3, e4⟩ := evenP_ok b1 j1 (by omega) (by omega)
        refine ⟨e1, by rw [e2, j2, wp]; omega, ?_, ?_⟩
        · by_cases d : (joinF f b r).height ≤ a.height + 1
          · rw [evenP_p (by omega) d, hp]; omega
          · omega
        · by_cases d : (joinF f b r).height ≤ a.height + 1
          · rw [evenP_p (by omega) d, hp]; omega
          · omega
    · simp only [if_neg c1]
      by_cases c2 : l.height + 1 < r.height
      · simp only [if_pos c2]
        cases r with
        | leaf => have : Sh.leaf.height = 0 := rfl; omega
        | pair a b =>
          obtain ⟨b1, b2, b3, b4⟩ := bal_pair.mp hr
          rw [hp] at c2 hf ⊢
          dsimp only
          obtain ⟨j1, j2, j3, j4⟩ := joinF_ok f (l := l) (r := a) (by omega) hl b1
          obtain ⟨e1, e2, e3, e4⟩ := evenP_ok j1 b2 (by omega) (by omega)
          refine ⟨e1, by rw [e2, j2, wp]; omega, ?_, ?_⟩
          · by_cases d : (joinF f l a).height ≤ b.height + 1
            · rw [evenP_p d (by omega), hp]; omega
            · omega
          · by_cases d : (joinF f l a).height ≤ b.height + 1
            · rw [evenP_p d (by omega), hp]; omega
            · omega
      · simp only [if_neg c2]
        exact ⟨bal_pair.mpr ⟨hl, hr, by omega, by omega⟩, rfl, by rw [hp]; omega, by rw [hp]; omega⟩
theorem joinF_stable : ∀ (f g : Nat) {l r : Sh}, max l.height r.height ≤ f + 1 → max l.height r.height ≤ g + 1 → joinF f l r = joinF g l r
  | 0, 0, _, _, _, _ => rfl
  | 0, g + 1, l, r, h, _ => by
    show Sh.pair l r = if r.height + 1 < l.height then _ else _
    rw [if_neg (by omega), if_neg (by omega)]
  | f + 1, 0, l, r, _, h => by
    show (if r.height + 1 < l.height then _ else _) = Sh.pair l r
    rw [if_neg (by omega), if_neg (by omega)]
  | f + 1, g + 1, l, r, h, h' => by
    unfold joinF
    by_cases c1 : r.height + 1 < l.height
    · simp only [if_pos c1]
      cases l with
      | leaf => rfl
      | pair a b =>
        rw [hp] at c1 h h'
        dsimp only
        rw [joinF_stable f g (l := b) (r := r) (by omega) (by omega)]
    · simp only [if_neg c1]
      by_cases c2 : l.height + 1 < r.height
      · simp only [if_pos c2]
        cases r with
        | leaf => rfl
        | pair a b =>
          rw [hp] at c2 h h'
          dsimp only
          rw [joinF_stable f g (l := l) (r := a) (by omega) (by omega)]
      · simp only [if_neg c2]
def joinS (l r : Sh) : Sh := joinF 100 l r
theorem joinS_l {a b r : Sh} (c : r.height + 1 < (Sh.pair a b).height) (h : (Sh.pair a b).height ≤ 90) : joinS (.pair a b) r = evenP a (joinS b r) := by
  rw [hp] at c h
  unfold joinS
  rw [joinF_stable 100 101 (l := .pair a b) (r := r) (by rw [hp]; omega) (by rw [hp]; omega)]
  show (if r.height + 1 < (Sh.pair a b).height then evenP a (joinF 100 b r) else _) = _
  rw [if_pos (by rw [hp]; omega)]
theorem joinS_r {a b l : Sh} (c : l.height + 1 < (Sh.pair a b).height) (h : (Sh.pair a b).height ≤ 90) : joinS l (.pair a b) = evenP (joinS l a) b := by
  rw [hp] at c h
  unfold joinS
  rw [joinF_stable 100 101 (l := l) (r := .pair a b) (by rw [hp]; omega) (by rw [hp]; omega)]
  show (if (Sh.pair a b).height + 1 < l.height then _ else if l.height + 1 < (Sh.pair a b).height then evenP (joinF 100 l a) b else _) = _
  rw [if_neg (by rw [hp]; omega), if_pos (by rw [hp]; omega)]
theorem joinS_p {l r : Sh} (c1 : l.height ≤ r.height + 1) (c2 : r.height ≤ l.height + 1) : joinS l r = .pair l r := by
  show (if r.height + 1 < l.height then _ else if l.height + 1 < r.height then _ else Sh.pair l r) = _
  rw [if_neg (by omega), if_neg (by omega)]
theorem joinS_ok {l r : Sh} (h1 : l.height ≤ 90) (h2 : r.height ≤ 90) (hl : l.bal = true) (hr : r.bal = true) : (joinS l r).bal = true ∧ (joinS l r).width = l.width + r.width ∧ max l.height r.height ≤ (joinS l r).height ∧ (joinS l r).height ≤ max l.height r.height + 1 :=
  joinF_ok 100 (by omega) hl hr
/-! perhaps no child -/
def owid : Option Sh → Nat
  | none => 0
  | some s => s.width
def obal : Option Sh → Bool
  | none => true
  | some s => s.bal
def ohei : Option Sh → Nat
  | none => 0
  | some s => s.height
def joinO : Option Sh → Option Sh → Option Sh
  | none, r => r
  | some l, none => some l
  | some l, some r => some (joinS l r)
theorem joinO_ok {l r : Option Sh} (h1 : ohei l ≤ 90) (h2 : ohei r ≤ 90) (hl : obal l = true) (hr : obal r = true) : obal (joinO l r) = true ∧ owid (joinO l r) = owid l + owid r ∧ ohei (joinO l r) ≤ max (ohei l) (ohei r) + 1 := by
  cases l with
  | none => cases r <;> exact ⟨hr, (Nat.zero_add _).symm, by simp only [joinO]; omega⟩
  | some l =>
    cases r with
    | none => exact ⟨hl, rfl, by simp only [joinO]; omega⟩
    | some r =>
      obtain ⟨a, b, c, d⟩ := joinS_ok h1 h2 hl hr
      exact ⟨a, b, d⟩
/-- a shape of at least one child has balance enough -/
theorem bal_small {s : Sh} (hb : s.bal = true) (hw : s.width ≤ 20000) : s.height ≤ 20 := by
  rcases Nat.lt_or_ge 20 s.height with c | c
  · have a := leastN_mono (show 21 ≤ s.height by omega)
    have b := leastN_20.2
    have := Sh.least hb
    omega
  · exact c
def cutSh : Sh → Nat → Option Sh × Option Sh
  | .leaf, n => if n = 0 then (none, some .leaf) else (some .leaf, none)
  | .pair l r, n => if n = 0 then (none, some (.pair l r)) else if n = (Sh.pair l r).width then (some (.pair l r), none) else
    if n ≤ l.width then ((cutSh l n).1, joinO (cutSh l n).2 (some r)) else (joinO (some l) (cutSh r (n - l.width)).1, (cutSh r (n - l.width)).2)
theorem cutSh_ok : ∀ {s : Sh} {n : Nat}, s.bal = true → s.width ≤ 20000 → n ≤ s.width → obal (cutSh s n).1 = true ∧ obal (cutSh s n).2 = true ∧ owid (cutSh s n).1 = n ∧ owid (cutSh s n).2 = s.width - n
  | .leaf, n, _, _, hn => by
    have hn : n ≤ 1 := hn
    unfold cutSh
    by_cases c : n = 0
    · rw [if_pos c, c]; exact ⟨rfl, rfl, rfl, rfl⟩
    · have : n = 1 := by omega
      rw [if_neg c, this]; exact ⟨rfl, rfl, rfl, rfl⟩
  | .pair l r, n, hb, hw, hn => by
    obtain ⟨b1, b2, b3, b4⟩ := bal_pair.mp hb
    rw [wp] at hw hn ⊢
    have hl := bal_small b1 (by omega)
    have hr := bal_small b2 (by omega)
    have small : ∀ o : Option Sh, obal o = true → owid o ≤ 20000 → ohei o ≤ 90 := fun o h1 h2 => by
      cases o with
      | none => exact Nat.zero_le _
      | some s => have := bal_small (s := s) h1 h2; show s.height ≤ 90; omega
    unfold cutSh
    by_cases c : n = 0
    · rw [if_pos c, c]; exact ⟨rfl, hb, rfl, by show (Sh.pair l r).width = _; rw [wp]; omega⟩
    · rw [if_neg c]
      by_cases c2 : n = (Sh.pair l r).width
      · rw [if_pos c2]
        rw [wp] at c2
        exact ⟨hb, rfl, by show (Sh.pair l r).width = _; rw [wp]; omega, by show 0 = _; omega⟩
      · rw [if_neg c2]
        rw [wp] at c2
        by_cases c3 : n ≤ l.width
        · rw [if_pos c3]
          obtain ⟨a1, a2, a3, a4⟩ := cutSh_ok (s := l) (n := n) b1 (by omega) c3
          obtain ⟨j1, j2, j3⟩ := joinO_ok (l := (cutSh l n).2) (r := some r) (small _ a2 (by omega)) (by show r.height ≤ 90; omega) a2 b2
          exact ⟨a1, j1, a3, by rw [j2, a4]; show l.width - n + r.width = _; omega⟩
        · rw [if_neg c3]
          obtain ⟨a1, a2, a3, a4⟩ := cutSh_ok (s := r) (n := n - l.width) b2 (by omega) (by omega)
          obtain ⟨j1, j2, j3⟩ := joinO_ok (l := some l) (r := (cutSh r (n - l.width)).1) (by show l.height ≤ 90; omega) (small _ a1 (by omega)) b1 a1
          exact ⟨j1, a2, by rw [j2, a3]; show l.width + (n - l.width) = n; omega, by rw [a4]; omega⟩
/-- with a child more -/
def withS : Sh → Nat → Sh
  | .leaf, _ => .pair .leaf .leaf
  | .pair l r, n => if n ≤ l.width then evenP (withS l n) r else evenP l (withS r (n - l.width))
theorem withS_ok : ∀ {s : Sh} {n : Nat}, s.bal = true → (withS s n).bal = true ∧ (withS s n).width = s.width + 1 ∧ s.height ≤ (withS s n).height ∧ (withS s n).height ≤ s.height + 1
  | .leaf, n, _ => ⟨rfl, rfl, Nat.zero_le _, by show 1 + max 0 0 ≤ 0 + 1; decide⟩
  | .pair l r, n, hb => by
    obtain ⟨b1, b2, b3, b4⟩ := bal_pair.mp hb
    unfold withS
    rw [hp, wp]
    by_cases c : n ≤ l.width
    · rw [if_pos c]
      obtain ⟨a1, a2, a3, a4⟩ := withS_ok (s := l) (n := n) b1
      obtain ⟨e1, e2, e3, e4⟩ := evenP_ok a1 b2 (by omega) (by omega)
      refine ⟨e1, by rw [e2, a2]; omega, ?_, ?_⟩
      · by_cases d : (withS l n).height = l.height
        · have : evenP (withS l n) r = .pair (withS l n) r := by
            unfold evenP
            rw [if_neg (by omega), if_neg (by omega)]
          rw [this, hp]; omega
        · by_cases d2 : l.height ≤ r.height
          · have : evenP (withS l n) r = .pair (withS l n) r := by
              unfold evenP
              rw [if_neg (by omega), if_neg (by omega)]
            rw [this, hp]; omega
          · omega
      · by_cases d2 : l.height ≤ r.height
        · have : evenP (withS l n) r = .pair (withS l n) r := by
            unfold evenP
            rw [if_neg (by omega), if_neg (by omega)]
          rw [this, hp]; omega
        · omega
    · rw [if_neg c]
      obtain ⟨a1, a2, a3, a4⟩ := withS_ok (s := r) (n := n - l.width) b2
      obtain ⟨e1, e2, e3, e4⟩ := evenP_ok b1 a1 (by omega) (by omega)
      refine ⟨e1, by rw [e2, a2]; omega, ?_, ?_⟩
      · by_cases d : (withS r (n - l.width)).height = r.height
        · have : evenP l (withS r (n - l.width)) = .pair l (withS r (n - l.width)) := by
            unfold evenP
            rw [if_neg (by omega), if_neg (by omega)]
          rw [this, hp]; omega
        · by_cases d2 : r.height ≤ l.height
          · have : evenP l (withS r (n - l.width)) = .pair l (withS r (n - l.width)) := by
              unfold evenP
              rw [if_neg (by omega), if_neg (by omega)]
            rw [this, hp]; omega
          · omega
      · by_cases d2 : r.height ≤ l.height
        · have : evenP l (withS r (n - l.width)) = .pair l (withS r (n - l.width)) := by
            unfold evenP
            rw [if_neg (by omega), if_neg (by omega)]
          rw [this, hp]; omega
        · omega
/-- with a child less -/
def lessS : Sh → Nat → Option Sh
  | .leaf, _ => none
  | .pair l r, n => if n < l.width then (match lessS l n with | none => some r | some x => some (evenP x r)) else (match lessS r (n - l.width) with | none => some l | some x => some (evenP l x))
theorem lessS_ok : ∀ {s : Sh} {n : Nat}, s.bal = true → n < s.width → obal (lessS s n) = true ∧ owid (lessS s n) + 1 = s.width ∧ (lessS s n = none → s = .leaf) ∧ ∀ x, lessS s n = some x → s.height ≤ x.height + 1 ∧ x.height ≤ s.height
  | .leaf, n, _, _ => ⟨rfl, rfl, fun _ => rfl, fun x h => by cases h⟩
  | .pair l r, n, hb, hn => by
    obtain ⟨b1, b2, b3, b4⟩ := bal_pair.mp hb
    rw [wp] at hn
    unfold lessS
    by_cases c : n < l.width
    · rw [if_pos c]
      obtain ⟨a1, a2, a3, a4⟩ := lessS_ok (s := l) (n := n) b1 c
      cases e : lessS l n with
      | none =>
        have := a3 e
        subst this
        have h0 : Sh.leaf.height = 0 := rfl
        have h1 : Sh.leaf.width = 1 := rfl
        dsimp only
        refine ⟨b2, by show r.width + 1 = _; rw [wp, h1]; omega, (fun h => nomatch h), fun x h => ?_⟩
        cases h
        rw [hp]; omega
      | some x =>
        rw [e] at a1 a2
        obtain ⟨a5, a6⟩ := a4 x e
        have a1 : x.bal = true := a1
        have a2 : x.width + 1 = l.width := a2
        obtain ⟨e1, e2, e3, e4⟩ := evenP_ok a1 b2 (by omega) (by omega)
        dsimp only
        refine ⟨e1, by show (evenP x r).width + 1 = _; rw [e2, wp]; omega, (fun h => nomatch h), fun y h => ?_⟩
        cases h
        rw [hp]
        by_cases d : r.height ≤ x.height + 1
        · have : evenP x r = .pair x r := by
            unfold evenP
            rw [if_neg (by omega), if_neg (by omega)]
          rw [this, hp]
          exact ⟨by omega, by omega⟩
        · exact ⟨by omega, by omega⟩
    · rw [if_neg c]
      obtain ⟨a1, a2, a3, a4⟩ := lessS_ok (s := r) (n := n - l.width) b2 (by omega)
      cases e : lessS r (n - l.width) with
      | none =>
        have := a3 e
        subst this
        have h0 : Sh.leaf.height = 0 := rfl
        have h1 : Sh.leaf.width = 1 := rfl
        dsimp only
        refine ⟨b1, by show l.width + 1 = _; rw [wp, h1], (fun h => nomatch h), fun x h => ?_⟩
        cases h
        rw [hp]; omega
      | some x =>
        rw [e] at a1 a2
        obtain ⟨a5, a6⟩ := a4 x e
        have a1 : x.bal = true := a1
        have a2 : x.width + 1 = r.width := a2
        obtain ⟨e1, e2, e3, e4⟩ := evenP_ok b1 a1 (by omega) (by omega)
        dsimp only
        refine ⟨e1, by show (evenP l x).width + 1 = _; rw [e2, wp]; omega, (fun h => nomatch h), fun y h => ?_⟩
        cases h
        rw [hp]
        by_cases d : l.height ≤ x.height + 1
        · have : evenP l x = .pair l x := by
            unfold evenP
            rw [if_neg (by omega), if_neg (by omega)]
          rw [this, hp]
          exact ⟨by omega, by omega⟩
        · exact ⟨by omega, by omega⟩
end T

/-! H: what a shape's functions tell. -/
namespace T
open PySem PySem.Spec PyProof.Rows L2
/-- the width of a thing, 0 of what is no shape -/
def widT : Nat → Tr → Nat
  | _, .non => 1
  | 0, _ => 0
  | n + 1, .tup [a, b] => if (if widT n a = 0 then 0 else widT n b) = 0 ∨ 20000 < widT n a + (if widT n a = 0 then 0 else widT n b) then 0 else widT n a + (if widT n a = 0 then 0 else widT n b)
  | _ + 1, _ => 0
theorem widT_non {n : Nat} : widT n .non = 1 := by cases n <;> rfl
theorem widT_le : ∀ {n : Nat} {d : Tr}, widT n d ≤ 20000 := by
  have k : ∀ l r : Nat, (if r = 0 ∨ 20000 < l + r then 0 else l + r) ≤ 20000 := fun l r => by split <;> omega
  intro n
  cases n with
  | zero => intro d; cases d <;> first | (show 1 ≤ 20000; decide) | exact Nat.zero_le _
  | succ n =>
    intro d
    unfold widT
    split
    · decide
    · exact Nat.zero_le _
    · exact k _ _
    · exact Nat.zero_le _
theorem widT_sh : ∀ {s : Sh} {n : Nat}, s.height ≤ n → s.width ≤ 20000 → widT n (shT s) = s.width
  | .leaf, n, _, _ => widT_non
  | .pair l r, 0, h, _ => by
    have : 1 + max l.height r.height ≤ 0 := h
    omega
  | .pair l r, n + 1, h, hw => by
    have h : 1 + max l.height r.height ≤ n + 1 := h
    have hw : l.width + r.width ≤ 20000 := hw
    have p1 := Sh.width_pos l
    have p2 := Sh.width_pos r
    have a := widT_sh (s := l) (n := n) (by omega) (by omega)
    have b := widT_sh (s := r) (n := n) (by omega) (by omega)
    show (if (if widT n (shT l) = 0 then 0 else widT n (shT r)) = 0 ∨ 20000 < widT n (shT l) + (if widT n (shT l) = 0 then 0 else widT n (shT r)) then 0 else widT n (shT l) + (if widT n (shT l) = 0 then 0 else widT n (shT r))) = l.width + r.width
    rw [a, b, if_neg (by omega : ¬ l.width = 0), if_neg (by omega)]
theorem wf_sh {M : Ms} : ∀ s : Sh, Wf M (shT s)
  | .leaf => Wf.leaf _ "NoneType" rfl (fun _ e => by cases e) (by decide)
  | .pair l r => Wf.tup _ (fun x hx => by
    simp at hx
    rcases hx with rfl | rfl
    · exact wf_sh l
    · exact wf_sh r) (by show 2 ≤ 100000; decide)
abbrev mx_width_in : Nat := 41
def sp_width_in (rn : Nat) : Sp2 := A2 fun a b M Q _ => ∃ n : Nat, b = .int n ∧ Wf M a ∧ n < rn ∧ Q (.int (widT n a)) M
theorem zero_width_in : ∀ ds M Q E, ¬ sp_width_in 0 ds M Q E := by
  rintro ds M Q E ⟨a, b, rfl, n, rfl, _, h, _⟩
  omega
def n_width_in : List Str := "thing" :: "most" :: "left" :: "right" :: []
def b_width_in_1 (rn : Nat) : TS2 := (sSq (sIf (tOrr (tCm (eOp (rEqG id) (eVar 3) (eC (.int 0)))) (tCm (eOp rGtI (eOp rAdd2 (eVar 2) (eVar 3)) (eC (.int 20000))))) (sRt (eC (.int 0))) sNx)
  (sRt (eOp rAdd2 (eVar 2) (eVar 3))))
def b_width_in_2 (rn : Nat) : TS2 := (sSq (sAs (eIf (tCm (eOp (rEqG id) (eVar 2) (eC (.int 0)))) (eC (.int 0)) (eCall (sp_width_in rn) [] (aCons (eOp rIx2 (eVar 0) (eC (.int 1))) (aCons (eOp rSub2 (eVar 1) (eC (.int 1))) aNil)))) (gN 3))
  (b_width_in_1 rn))
def b_width_in_3 (rn : Nat) : TS2 := (sSq (sAs (eCall (sp_width_in rn) [] (aCons (eOp rIx2 (eVar 0) (eC (.int 0))) (aCons (eOp rSub2 (eVar 1) (eC (.int 1))) aNil))) (gN 2))
  (b_width_in_2 rn))
def b_width_in_4 (rn : Nat) : TS2 := (sSq (sIf (tOrr (tCm (eOp (rEqG id) (eVar 1) (eC (.int 0)))) (tOrr (tNo (tTr (eB rIsi2 (aCons (eVar 0) (aCons (eC (.ty "tuple")) aNil))))) (tCm (eOp (rEqG not) (eB rLen2 (aCons (eVar 0) aNil)) (eC (.int 2)))))) (sRt (eC (.int 0))) sNx)
  (b_width_in_3 rn))
def b_width_in (rn : Nat) : TS2 := (sSq (sIf (tCm (eOp (rIsG id) (eVar 0) (eC .non))) (sRt (eC (.int 1))) sNx)
  (b_width_in_4 rn))
theorem sem_width_in : ∀ (rn : Nat) ds M Q E, sp_width_in (rn + 1) ds M Q E → b_width_in rn (fEnds Q E) (start2 n_width_in ds) M := by
  rintro rn ds M Q E ⟨d, b, rfl, n, rfl, hw, hn, hq⟩
  simp only [b_width_in, start2, n_width_in]
  cases hw with
  | leaf _ s hs hz hnt =>
    by_cases c : d = .non
    · subst c
      rw [widT_non] at hq
      simp
      exact Fg.same hq
    · have e : widT n d = 0 := by
        cases n with
        | zero => cases d <;> first | rfl | exact absurd rfl c
        | succ n => cases d <;> first | rfl | exact absurd rfl c | exact absurd (Option.some.inj hs).symm hnt
      rw [e] at hq
      have kb : kitB s "tuple" = some false := by
        rcases tyT_mem hs with h | h | h | h | h | h | h <;> subst h <;> first | rfl | exact absurd rfl hnt
      have hnn : isNon d = false := by
        cases d <;> first | rfl | exact absurd rfl c
      simp [hnn]
      simp only [b_width_in_4]
      simp
      by_cases c0 : n = 0
      · simp [c0]
        exact Fg.same hq
      · simp [c0, ↓kY_of hs kb]
        exact Fg.same hq
  | tup l hl hll =>
    simp
    simp only [b_width_in_4]
    simp
    by_cases c0 : n = 0
    · subst c0
      simp
      exact Fg.same hq
    · obtain ⟨n, rfl⟩ : ∃ k, n = k + 1 := ⟨n - 1, by omega⟩
      simp [c0, ↓kY_tup]
      by_cases c2 : l.length = 2
      · obtain ⟨a, b, rfl⟩ : ∃ a b, l = [a, b] := by
          match l, c2 with
          | [a, b], _ => exact ⟨a, b, rfl⟩
        simp
        simp only [b_width_in_3]
        simp
        have e1 : ((n : Int) + 1 - 1) = (n : Int) := by omega
        refine ⟨_, _, rfl, n, by congr 1, hl a (by simp), by omega, ?_⟩
        simp
        simp only [b_width_in_2]
        simp
        have la := @widT_le n a
        have lb := @widT_le n b
        have fin : ∀ r : Nat, r = (if widT n a = 0 then 0 else widT n b) → b_width_in_1 rn (fEnds Q E) [some (.tup [a, b]), some (.int ((n : Int) + 1)), some (.int (widT n a : Nat)), some (.int (r : Nat))] M := by
          intro r hr
          have hq : Q (.int ((if r = 0 ∨ 20000 < widT n a + r then 0 else widT n a + r : Nat) : Int)) M := by
            rw [hr]; exact hq
          simp only [b_width_in_1]
          simp
          by_cases c1 : r = 0
          · rw [if_pos (.inl c1)] at hq
            simp [c1]
            exact Fg.same hq
          · by_cases c3 : 20000 < widT n a + r
            · rw [if_pos (.inr c3)] at hq
              have c4 : 20000 < (widT n a : Int) + (r : Int) := by omega
              simp [c1, c4]
              exact Fg.same hq
            · rw [if_neg (fun z => z.elim c1 c3)] at hq
              have c4 : ¬ 20000 < (widT n a : Int) + (r : Int) := by omega
              simp [c1, c4]
              have : ((widT n a + r : Nat) : Int) = (widT n a : Int) + (r : Int) := by omega
              rw [this] at hq
              exact Fg.same hq
        by_cases c1 : widT n a = 0
        · simp [c1]
          have := fin 0 (by rw [if_pos c1])
          rw [c1] at this
          exact this
        · simp [c1]
          refine ⟨_, _, rfl, n, by congr 1, hl b (by simp), by omega, ?_⟩
          exact fin _ (by rw [if_neg c1])
      · have e : widT (n + 1) (.tup l) = 0 := by
          match l, c2 with
          | [], _ => rfl
          | [_], _ => rfl
          | _ :: _ :: _ :: _, _ => rfl
        rw [e] at hq
        have c3 : ¬ ((l.length : Int) = 2) := by omega
        simp [c3]
        exact Fg.same hq
end T

/-! H: heights; counts that are needed; the tallest. -/
namespace T
open PySem PySem.Spec PyProof.Rows L2
abbrev mx_height_in : Nat := 41
def sp_height_in (rn : Nat) : Sp2 := A1 fun a M Q _ => ∃ s : Sh, a = shT s ∧ s.height < rn ∧ Q (.int s.height) M
theorem zero_height_in : ∀ ds M Q E, ¬ sp_height_in 0 ds M Q E := by
  rintro ds M Q E ⟨a, rfl, s, rfl, h, _⟩
  omega
def n_height_in : List Str := "shape" :: []
def b_height_in_1 (rn : Nat) : TS2 := (sRt (eOp rAdd2 (eC (.int 1)) (eB rMax2 (aCons (eCall (sp_height_in rn) [] (aCons (eOp rIx2 (eVar 0) (eC (.int 0))) aNil)) (aCons (eCall (sp_height_in rn) [] (aCons (eOp rIx2 (eVar 0) (eC (.int 1))) aNil)) aNil)))))
def b_height_in (rn : Nat) : TS2 := (sSq (sIf (tCm (eOp (rIsG id) (eVar 0) (eC .non))) (sRt (eC (.int 0))) sNx)
  (b_height_in_1 rn))
theorem sem_height_in : ∀ (rn : Nat) ds M Q E, sp_height_in (rn + 1) ds M Q E → b_height_in rn (fEnds Q E) (start2 n_height_in ds) M := by
  rintro rn ds M Q E ⟨a, rfl, s, rfl, h, hq⟩
  simp only [b_height_in, start2, n_height_in]
  cases s with
  | leaf =>
    simp [shT]
    exact Fg.same hq
  | pair l r =>
    have h : 1 + max l.height r.height < rn + 1 := h
    have hq : Q (.int ((1 + max l.height r.height : Nat) : Int)) M := hq
    simp [shT]
    simp only [b_height_in_1]
    simp
    refine ⟨_, rfl, l, rfl, by omega, ?_⟩
    simp
    refine ⟨_, rfl, r, rfl, by omega, ?_⟩
    simp
    have e : (1 : Int) + (if l.height < r.height then (r.height : Int) else (l.height : Int)) = ((1 + max l.height r.height : Nat) : Int) := by split <;> omega
    rw [e]
    exact Fg.same hq
/-- the height of a balanced shape, -1 of any other one -/
def balH (s : Sh) : Int := if s.bal = true then (s.height : Int) else -1
theorem balH_pair {l r : Sh} : balH (.pair l r) = if (balH l < 0 ∨ balH r < 0) ∨ (balH l - balH r).natAbs > 1 then -1 else 1 + max (balH l) (balH r) := by
  unfold balH
  have e : (Sh.pair l r).bal = (l.bal && r.bal && decide (l.height ≤ r.height + 1) && decide (r.height ≤ l.height + 1)) := rfl
  have e2 : (Sh.pair l r).height = 1 + max l.height r.height := rfl
  rw [e, e2]
  cases hl : l.bal with
  | false => simp
  | true =>
    cases hr : r.bal with
    | false => simp
    | true =>
      by_cases c : l.height ≤ r.height + 1
      · by_cases c2 : r.height ≤ l.height + 1
        · have e3 : (true && true && decide (l.height ≤ r.height + 1) && decide (r.height ≤ l.height + 1)) = true := by simp [c, c2]
          rw [if_pos e3]
          simp only [if_true]
          rw [if_neg (by omega)]
          omega
        · have e3 : (true && true && decide (l.height ≤ r.height + 1) && decide (r.height ≤ l.height + 1)) = false := by simp [c2]
          rw [e3, if_neg (by decide)]
          simp only [if_true]
          rw [if_pos (by omega)]
      · have e3 : (true && true && decide (l.height ≤ r.height + 1) && decide (r.height ≤ l.height + 1)) = false := by simp [c]
        rw [e3, if_neg (by decide)]
        simp only [if_true]
        rw [if_pos (by omega)]
theorem balH_ge {s : Sh} : -1 ≤ balH s := by unfold balH; split <;> omega
theorem balH_le {s : Sh} : balH s ≤ s.height := by unfold balH; split <;> omega
abbrev mx_balanced_height : Nat := 41
def sp_balanced_height (rn : Nat) : Sp2 := A1 fun a M Q _ => ∃ s : Sh, a = shT s ∧ s.height < rn ∧ Q (.int (balH s)) M
theorem zero_balanced_height : ∀ ds M Q E, ¬ sp_balanced_height 0 ds M Q E := by
  rintro ds M Q E ⟨a, rfl, s, rfl, h, _⟩
  omega
def n_balanced_height : List Str := "shape" :: "left" :: "right" :: []
def b_balanced_height_1 (rn : Nat) : TS2 := (sRt (eOp rAdd2 (eC (.int 1)) (eB rMax2 (aCons (eVar 1) (aCons (eVar 2) aNil)))))
def b_balanced_height_2 (rn : Nat) : TS2 := (sSq (sIf (tOrr (tCm (eOp rLtI (eB rMin2 (aCons (eVar 1) (aCons (eVar 2) aNil))) (eC (.int 0)))) (tCm (eOp rGtI (eB rAbs2 (aCons (eOp rSub2 (eVar 1) (eVar 2)) aNil)) (eC (.int 1))))) (sRt (eUn rNeg2 (eC (.int 1)))) sNx)
  (b_balanced_height_1 rn))
def b_balanced_height_3 (rn : Nat) : TS2 := (sSq (sAs (eCall (sp_balanced_height rn) [] (aCons (eOp rIx2 (eVar 0) (eC (.int 1))) aNil)) (gN 2))
  (b_balanced_height_2 rn))
def b_balanced_height_4 (rn : Nat) : TS2 := (sSq (sAs (eCall (sp_balanced_height rn) [] (aCons (eOp rIx2 (eVar 0) (eC (.int 0))) aNil)) (gN 1))
  (b_balanced_height_3 rn))
def b_balanced_height (rn : Nat) : TS2 := (sSq (sIf (tCm (eOp (rIsG id) (eVar 0) (eC .non))) (sRt (eC (.int 0))) sNx)
  (b_balanced_height_4 rn))
theorem sem_balanced_height : ∀ (rn : Nat) ds M Q E, sp_balanced_height (rn + 1) ds M Q E → b_balanced_height rn (fEnds Q E) (start2 n_balanced_height ds) M := by
  rintro rn ds M Q E ⟨a, rfl, s, rfl, h, hq⟩
  simp only [b_balanced_height, start2, n_balanced_height]
  cases s with
  | leaf =>
    simp [shT]
    exact Fg.same hq
  | pair l r =>
    have h : 1 + max l.height r.height < rn + 1 := h
    rw [balH_pair] at hq
    simp [shT]
    simp only [b_balanced_height_4]
    simp
    refine ⟨_, rfl, l, rfl, by omega, ?_⟩
    simp
    simp only [b_balanced_height_3]
    simp
    refine ⟨_, rfl, r, rfl, by omega, ?_⟩
    simp
    have a1 := @balH_ge l
    have a2 := @balH_ge r
    generalize balH l = x at hq a1
    generalize balH r = y at hq a2
    simp only [b_balanced_height_2]
    simp
    simp only [b_balanced_height_1]
    simp
    by_cases c1 : x < 0 ∨ y < 0
    · rw [if_pos (.inl c1)] at hq
      rw [if_pos (by split <;> omega)]
      exact Fg.same hq
    · rw [if_neg (by split <;> omega)]
      by_cases c2 : (x - y).natAbs > 1
      · rw [if_pos (.inr c2)] at hq
        rw [if_pos (by split <;> omega)]
        exact Fg.same hq
      · rw [if_neg (fun z => z.elim c1 c2)] at hq
        rw [if_neg (by split <;> omega)]
        have e : (1 : Int) + (if x < y then y else x) = 1 + max x y := by split <;> omega
        rw [e]
        exact Fg.same hq
def cntOk (a : Tr) (m : Int) : Bool := match a with
  | .int i => decide (0 ≤ i ∧ i ≤ m)
  | _ => false
def spx_need_count (cn : Cn) : Sp2 := A2 fun a b M Q E => ∃ (t : String) (m : Int), tyT a M = some t ∧ b = .int m ∧ (cntOk a m = true → Q .non M) ∧ (cntOk a m = false → E (cn.cl "BadCount") none M)
def n_need_count : List Str := "thing" :: "most" :: []
def bx_need_count_1 (cn : Cn) : TS2 := (sIf (tAn (tCm (eOp (rIsG not) (eVar 1) (eC .non))) (tCm (eOp rGtI (eVar 0) (eVar 1)))) (sRaise (cn.cl "BadCount")) sNx)
def bx_need_count (cn : Cn) : TS2 := (sSq (sIf (tOrr (tNo (tTr (eCall sp_is_integer [] (aCons (eVar 0) aNil)))) (tCm (eOp rLtI (eVar 0) (eC (.int 0))))) (sRaise (cn.cl "BadCount")) sNx)
  (bx_need_count_1 cn))
theorem semx_need_count (cn : Cn) : ∀ ds M Q E, spx_need_count cn ds M Q E → bx_need_count cn (fEnds Q E) (start2 n_need_count ds) M := by
  rintro ds M Q E ⟨a, b, rfl, t, m, ht, rfl, h1, h2⟩
  simp only [bx_need_count, start2, n_need_count]
  simp
  refine ⟨_, rfl, t, ht, ?_⟩
  by_cases c : t = "int"
  · subst c
    obtain ⟨i, rfl⟩ := tyT_int ht
    simp
    by_cases h0 : i < 0
    · simp [h0]
      exact FgX.same (h2 (by show decide _ = false; rw [decide_eq_false_iff_not]; omega))
    · simp [h0]
      simp only [bx_need_count_1]
      simp
      by_cases h3 : m < i
      · simp [h3]
        exact FgX.same (h2 (by show decide _ = false; rw [decide_eq_false_iff_not]; omega))
      · simp [h3]
        exact Fg.same (h1 (by show decide _ = true; rw [decide_eq_true_eq]; omega))
  · have e : cntOk a m = false := by cases a <;> first | rfl | (exfalso; apply c; cases ht; rfl)
    simp [c]
    exact FgX.same (h2 e)
def sp_tallest_of : Sp2 := A1 fun a M Q _ => ∃ w : Nat, a = .int w ∧ w ≤ 20000 ∧ ∀ t : Nat, IsTall w t → Q (.int t) M
def n_tallest_of : List Str := "width" :: "height" :: "least" :: "more" :: []
def b_tallest_of_1 : TS2 := (sPr3 1 2 3 (aCons (eOp rAdd2 (eVar 1) (eC (.int 1))) (aCons (eVar 3) (aCons (eOp rAdd2 (eVar 2) (eVar 3)) aNil))))
def b_tallest_of_2 : TS2 := (sSq (sWh (tCm (eOp rLeI (eVar 3) (eVar 0))) b_tallest_of_1)
  (sRt (eVar 1)))
def b_tallest_of : TS2 := (sSq (sAs (eTup (aCons (eC (.int 0)) (aCons (eC (.int 1)) (aCons (eC (.int 2)) aNil)))) (gT 3 (gCo (gN 1) (gCo (gN 2) (gCo (gN 3) gNil2)))))
  b_tallest_of_2)
theorem sem_tallest_of : ∀ ds M Q E, sp_tallest_of ds M Q E → b_tallest_of (fEnds Q E) (start2 n_tallest_of ds) M := by
  rintro ds M Q E ⟨a, rfl, w, rfl, hw, hq⟩
  simp only [b_tallest_of, start2, n_tallest_of]
  simp
  simp only [b_tallest_of_2]
  simp
  refine sWh_of (fun m σ1 M1 => ∃ h : Nat, σ1 = [some (.int w), some (.int h), some (.int (leastN h)), some (.int (leastN (h + 1)))] ∧ h + m = w ∧ (h = 0 ∨ leastN h ≤ w) ∧ M1 = M) w ⟨0, rfl, by omega, .inl rfl, rfl⟩ ?_
  rintro m σ1 M1 ⟨h, rfl, hm, hl, rfl⟩
  simp
  by_cases c : leastN (h + 1) ≤ w
  · rw [if_pos (by omega)]
    refine WhT.of fun N hN => ?_
    simp only [b_tallest_of_1]
    simp
    have := leastN_gt (h + 1)
    refine hN (m - 1) _ _ (by omega) ⟨h + 1, ?_, by omega, .inr c, rfl⟩
    have e : leastN (h + 1 + 1) = leastN (h + 1) + leastN h := rfl
    have e2 : ((leastN h : Nat) : Int) + ((leastN (h + 1) : Nat) : Int) = ((leastN (h + 1 + 1) : Nat) : Int) := by omega
    rw [e2]; rfl
  · rw [if_neg (by omega)]
    exact Fg.same (hq h ⟨hl, by omega⟩)
def sp_need_shape : Sp2 := A1 fun a M Q _ => ∃ s : Sh, a = shT s ∧ s.height ≤ 40 ∧ s.width ≤ 20000 ∧ Q (.int s.width) M
def n_need_shape : List Str := "shape" :: "width" :: []
def b_need_shape_1 : TS2 := (sSq (sIf (tCm (eOp (rEqG id) (eVar 1) (eC (.int 0)))) sNv sNx)
  (sRt (eVar 1)))
def b_need_shape : TS2 := (sSq (sAs (eCall (sp_width_in mx_width_in) [] (aCons (eVar 0) (aCons (eC (.int 40)) aNil))) (gN 1))
  b_need_shape_1)
theorem sem_need_shape : ∀ ds M Q E, sp_need_shape ds M Q E → b_need_shape (fEnds Q E) (start2 n_need_shape ds) M := by
  rintro ds M Q E ⟨a, rfl, s, rfl, h, hw, hq⟩
  have p := Sh.width_pos s
  simp only [b_need_shape, start2, n_need_shape]
  simp
  refine ⟨_, _, rfl, 40, rfl, wf_sh s, by decide, ?_⟩
  rw [widT_sh h hw]
  simp
  simp only [b_need_shape_1]
  have c : ¬ (s.width = 0) := by omega
  simp [c]
  exact Fg.same hq
def sp_is_balanced : Sp2 := A1 fun a M Q _ => ∃ s : Sh, a = shT s ∧ s.height ≤ 40 ∧ s.width ≤ 20000 ∧ Q (.bl s.bal) M
def n_is_balanced : List Str := "shape" :: []
def b_is_balanced_1 : TS2 := (sRt (eOp rGeI (eCall (sp_balanced_height mx_balanced_height) [] (aCons (eVar 0) aNil)) (eC (.int 0))))
def b_is_balanced : TS2 := (sSq (sDr (eCall sp_need_shape [] (aCons (eVar 0) aNil)))
  b_is_balanced_1)
theorem sem_is_balanced : ∀ ds M Q E, sp_is_balanced ds M Q E → b_is_balanced (fEnds Q E) (start2 n_is_balanced ds) M := by
  rintro ds M Q E ⟨a, rfl, s, rfl, h, hw, hq⟩
  simp only [b_is_balanced, start2, n_is_balanced]
  simp
  refine ⟨_, rfl, s, rfl, h, hw, ?_⟩
  simp only [b_is_balanced_1]
  simp
  refine ⟨_, rfl, s, rfl, by show s.height < 41; omega, ?_⟩
  have e : decide (0 ≤ balH s) = s.bal := by
    unfold balH
    cases s.bal with
    | true => simp
    | false => rfl
  simp [e]
  exact Fg.same hq
def sp_width_of : Sp2 := A1 fun a M Q _ => ∃ s : Sh, a = shT s ∧ s.height ≤ 40 ∧ s.width ≤ 20000 ∧ Q (.int s.width) M
def n_width_of : List Str := "shape" :: []
def b_width_of : TS2 := (sRt (eCall sp_need_shape [] (aCons (eVar 0) aNil)))
theorem sem_width_of : ∀ ds M Q E, sp_width_of ds M Q E → b_width_of (fEnds Q E) (start2 n_width_of ds) M := by
  rintro ds M Q E ⟨a, rfl, s, rfl, h, hw, hq⟩
  simp only [b_width_of, start2, n_width_of]
  simp
  exact ⟨_, rfl, s, rfl, h, hw, Fg.same hq⟩
def sp_height_of : Sp2 := A1 fun a M Q _ => ∃ s : Sh, a = shT s ∧ s.height ≤ 40 ∧ s.width ≤ 20000 ∧ Q (.int s.height) M
def n_height_of : List Str := "shape" :: []
def b_height_of : TS2 := (sSq (sDr (eCall sp_need_shape [] (aCons (eVar 0) aNil)))
  (sRt (eCall (sp_height_in mx_height_in) [] (aCons (eVar 0) aNil))))
theorem sem_height_of : ∀ ds M Q E, sp_height_of ds M Q E → b_height_of (fEnds Q E) (start2 n_height_of ds) M := by
  rintro ds M Q E ⟨a, rfl, s, rfl, h, hw, hq⟩
  simp only [b_height_of, start2, n_height_of]
  simp
  refine ⟨_, rfl, s, rfl, h, hw, ?_⟩
  simp
  exact ⟨_, rfl, s, rfl, by show s.height < 41; omega, Fg.same hq⟩
def spx_tallest (cn : Cn) : Sp2 := A1 fun a M Q E => ∃ t : String, tyT a M = some t ∧ (cntOk a 20000 = true → ∀ w k : Nat, a = .int w → IsTall w k → Q (.int k) M) ∧ (cntOk a 20000 = false → E (cn.cl "BadCount") none M)
def n_tallest : List Str := "width" :: []
def bx_tallest (cn : Cn) : TS2 := (sSq (sDr (eCall (spx_need_count cn) [] (aCons (eVar 0) (aCons (eC (.int 20000)) aNil))))
  (sRt (eCall sp_tallest_of [] (aCons (eVar 0) aNil))))
theorem semx_tallest (cn : Cn) : ∀ ds M Q E, spx_tallest cn ds M Q E → bx_tallest cn (fEnds Q E) (start2 n_tallest ds) M := by
  rintro ds M Q E ⟨a, rfl, t, ht, h1, h2⟩
  simp only [bx_tallest, start2, n_tallest]
  simp
  refine ⟨_, _, rfl, t, 20000, ht, rfl, fun c => ?_, fun c => FgX.same (h2 c)⟩
  obtain ⟨w, rfl, hw⟩ : ∃ w : Nat, a = .int w ∧ w ≤ 20000 := by
    cases a with
    | int i =>
      have c' := of_decide_eq_true c
      exact ⟨i.toNat, by congr 1; omega, by omega⟩
    | _ => cases c
  simp
  refine ⟨_, rfl, w, rfl, hw, fun k hk => Fg.same (h1 c w k rfl hk)⟩
end T

/-! H: stems. -/
namespace T
open PySem PySem.Spec PyProof.Rows L2
def stemO (l r : Tr) (w h : Nat) : MO := .ino "Stem" [("left", l), ("right", r), ("width", .int w), ("height", .int h)]
/-- at a: a stem of the shape s -/
def StemAt (M : Ms) : Sh → Addr → Prop
  | .leaf, a => M a = some (stemO .non .non 1 0)
  | .pair l r, a => ∃ b c, M a = some (stemO (.loc b) (.loc c) (l.width + r.width) (1 + max l.height r.height)) ∧ StemAt M l b ∧ StemAt M r c
theorem StemAt.le {M M' : Ms} (l : Le M M') : ∀ {s : Sh} {a : Addr}, StemAt M s a → StemAt M' s a
  | .leaf, a, h => l _ _ h
  | .pair x y, a, ⟨b, c, h1, h2, h3⟩ => ⟨b, c, l _ _ h1, StemAt.le l h2, StemAt.le l h3⟩
theorem StemAt.at_ {M : Ms} : ∀ {s : Sh} {a : Addr}, StemAt M s a → ∃ x y, M a = some (stemO x y s.width s.height)
  | .leaf, a, h => ⟨_, _, h⟩
  | .pair x y, a, ⟨b, c, h1, _, _⟩ => ⟨_, _, h1⟩
section
variable {M : Ms} {a : Addr} {l r : Tr} {w h : Nat} {Q : Q2} {fx : Fx Q}
theorem stem_l (e : M a = some (stemO l r w h)) : FldS "Stem" "left" (.loc a) M Q fx = Q l M := fldS_of e rfl
theorem stem_r (e : M a = some (stemO l r w h)) : FldS "Stem" "right" (.loc a) M Q fx = Q r M := fldS_of e rfl
theorem stem_w (e : M a = some (stemO l r w h)) : FldS "Stem" "width" (.loc a) M Q fx = Q (.int w) M := fldS_of e rfl
theorem stem_h (e : M a = some (stemO l r w h)) : FldS "Stem" "height" (.loc a) M Q fx = Q (.int h) M := fldS_of e rfl
end
theorem put_1 {l : Tr} : putFT "left" l [] = [(("left" : Str), l)] := rfl
theorem put_2 {l r : Tr} : putFT "right" r [(("left" : Str), l)] = [(("left" : Str), l), (("right" : Str), r)] := by
  have n : ¬ ("left" : Str) = "right" := by decide
  unfold putFT
  rw [if_neg n]; rfl
theorem put_3 {l r w : Tr} : putFT "width" w [(("left" : Str), l), (("right" : Str), r)] = [(("left" : Str), l), (("right" : Str), r), (("width" : Str), w)] := by
  have n : ¬ ("left" : Str) = "width" := by decide
  have n2 : ¬ ("right" : Str) = "width" := by decide
  unfold putFT
  rw [if_neg n]
  unfold putFT
  rw [if_neg n2]; rfl
theorem put_4 {l r w h : Tr} : putFT "height" h [(("left" : Str), l), (("right" : Str), r), (("width" : Str), w)] = [(("left" : Str), l), (("right" : Str), r), (("width" : Str), w), (("height" : Str), h)] := by
  have n : ¬ ("left" : Str) = "height" := by decide
  have n2 : ¬ ("right" : Str) = "height" := by decide
  have n3 : ¬ ("width" : Str) = "height" := by decide
  unfold putFT
  rw [if_neg n]
  unfold putFT
  rw [if_neg n2]
  unfold putFT
  rw [if_neg n3]; rfl
def sp_Stem___init__ : Sp2 := A3 fun x l r M Q _ => ∃ a, x = .loc a ∧ M a = some (.ino "Stem" []) ∧
  ((l = .non ∧ r = .non ∧ Q .non (up M a (stemO .non .non 1 0))) ∨
    ∃ b c s t, l = .loc b ∧ r = .loc c ∧ b ≠ a ∧ c ≠ a ∧ StemAt M s b ∧ StemAt M t c ∧ Q .non (up M a (stemO (.loc b) (.loc c) (s.width + t.width) (1 + max s.height t.height))))
def n_Stem___init__ : List Str := "self" :: "left" :: "right" :: []
def b_Stem___init___1 : TS2 := (sFldP "Stem" "height" (eVar 0) (eIf (tCm (eOp (rIsG id) (eVar 1) (eC .non))) (eC (.int 0)) (eOp rAdd2 (eC (.int 1)) (eB rMax2 (aCons (eFld "Stem" "height" (eVar 1)) (aCons (eFld "Stem" "height" (eVar 2)) aNil))))))
def b_Stem___init___2 : TS2 := (sSq (sFldP "Stem" "width" (eVar 0) (eIf (tCm (eOp (rIsG id) (eVar 1) (eC .non))) (eC (.int 1)) (eOp rAdd2 (eFld "Stem" "width" (eVar 1)) (eFld "Stem" "width" (eVar 2)))))
  b_Stem___init___1)
def b_Stem___init__ : TS2 := (sSq (sFldP "Stem" "left" (eVar 0) (eVar 1))
  (sSq (sFldP "Stem" "right" (eVar 0) (eVar 2))
  b_Stem___init___2))
theorem sem_Stem___init__ : ∀ ds M Q E, sp_Stem___init__ ds M Q E → b_Stem___init__ (fEnds Q E) (start2 n_Stem___init__ ds) M := by
  rintro ds M Q E ⟨x, l, r, rfl, a, rfl, ea, h⟩
  simp only [b_Stem___init__, start2, n_Stem___init__]
  simp
  refine setFS_of ea (by decide) ?_
  rw [put_1]
  simp
  refine setFS_of up_same (by show 1 < 1000; decide) ?_
  rw [up_up, put_2]
  simp only [b_Stem___init___2]
  rcases h with ⟨rfl, rfl, hq⟩ | ⟨b, c, s, t, rfl, rfl, hb, hc, h1, h2, hq⟩
  · simp
    refine setFS_of up_same (by show 2 < 1000; decide) ?_
    rw [up_up, put_3]
    simp only [b_Stem___init___1]
    simp
    refine setFS_of up_same (by show 3 < 1000; decide) ?_
    rw [up_up, put_4]
    exact Fg.same hq
  · obtain ⟨x1, y1, e1⟩ := h1.at_
    obtain ⟨x2, y2, e2⟩ := h2.at_
    have f1 : ∀ o, up M a o b = some (stemO x1 y1 s.width s.height) := fun o => by rw [up_ne hb]; exact e1
    have f2 : ∀ o, up M a o c = some (stemO x2 y2 t.width t.height) := fun o => by rw [up_ne hc]; exact e2
    simp [↓stem_w (f1 _), ↓stem_w (f2 _)]
    refine setFS_of up_same (by show 2 < 1000; decide) ?_
    rw [up_up, put_3]
    simp only [b_Stem___init___1]
    simp [↓stem_h (f1 _), ↓stem_h (f2 _)]
    refine setFS_of up_same (by show 3 < 1000; decide) ?_
    rw [up_up, put_4]
    have ew : ((s.width : Nat) : Int) + ((t.width : Nat) : Int) = ((s.width + t.width : Nat) : Int) := by omega
    have eh : (1 : Int) + (if s.height < t.height then (t.height : Int) else (s.height : Int)) = ((1 + max s.height t.height : Nat) : Int) := by split <;> omega
    rw [ew, eh]
    exact Fg.same hq
def BuildAt (M : Ms) (b : Addr) : Prop := M b = some (.ino "Builder" [])
theorem make_stem {M : Ms} {Q : Q2} {E : X2} {fx : Fx (Q, E)} {b c : Addr} {s t : Sh} (h1 : StemAt M s b) (h2 : StemAt M t c) (hq : ∀ M' a, Le M M' → StemAt M' (.pair s t) a → Q (.loc a) M') : MakeS "Stem" sp_Stem___init__ [.loc b, .loc c] M Q E fx := by
  intro a ha
  obtain ⟨_, _, e1⟩ := h1.at_
  obtain ⟨_, _, e2⟩ := h2.at_
  have nb : b ≠ a := m_ne e1 ha
  have nc : c ≠ a := m_ne e2 ha
  have L : Le M (up M a (.ino "Stem" [])) := Le.new ha
  refine ⟨_, _, _, rfl, a, rfl, up_same, .inr ⟨b, c, s, t, rfl, rfl, nb, nc, h1.le L, h2.le L, rfl, ?_⟩⟩
  rw [up_up]
  have L2 : Le M (up M a (stemO (.loc b) (.loc c) (s.width + t.width) (1 + max s.height t.height))) := Le.new ha
  exact hq _ a L2 ⟨b, c, up_same, h1.le L2, h2.le L2⟩
theorem make_leaf {M : Ms} {Q : Q2} {E : X2} {fx : Fx (Q, E)} (hq : ∀ M' a, Le M M' → StemAt M' .leaf a → Q (.loc a) M') : MakeS "Stem" sp_Stem___init__ [.non, .non] M Q E fx := by
  intro a ha
  refine ⟨_, _, _, rfl, a, rfl, up_same, .inl ⟨rfl, rfl, rfl, ?_⟩⟩
  rw [up_up]
  exact hq _ a (Le.new ha) up_same
def sp_Builder_pair : Sp2 := A3 fun x l r M Q _ => ∃ b c s t, l = .loc b ∧ r = .loc c ∧ StemAt M s b ∧ StemAt M t c ∧ ∀ M' a, Le M M' → StemAt M' (.pair s t) a → Q (.loc a) M'
def n_Builder_pair : List Str := "self" :: "left" :: "right" :: []
def b_Builder_pair : TS2 := (sRt (eMake "Stem" sp_Stem___init__ (aCons (eVar 1) (aCons (eVar 2) aNil))))
theorem sem_Builder_pair : ∀ ds M Q E, sp_Builder_pair ds M Q E → b_Builder_pair (fEnds Q E) (start2 n_Builder_pair ds) M := by
  rintro ds M Q E ⟨x, l, r, rfl, b, c, s, t, rfl, rfl, h1, h2, hq⟩
  simp only [b_Builder_pair, start2, n_Builder_pair]
  simp
  exact make_stem h1 h2 fun M' a L h => Fg.same (hq M' a L h)
def sp_Builder_sides : Sp2 := A2 fun x l M Q _ => ∃ a s t, l = .loc a ∧ StemAt M (.pair s t) a ∧ ∀ b c, StemAt M s b → StemAt M t c → Q (.tup [.loc b, .loc c]) M
def n_Builder_sides : List Str := "self" :: "tree" :: []
def b_Builder_sides : TS2 := (sRt (eTup (aCons (eFld "Stem" "left" (eVar 1)) (aCons (eFld "Stem" "right" (eVar 1)) aNil))))
theorem sem_Builder_sides : ∀ ds M Q E, sp_Builder_sides ds M Q E → b_Builder_sides (fEnds Q E) (start2 n_Builder_sides ds) M := by
  rintro ds M Q E ⟨x, l, rfl, a, s, t, rfl, ⟨b, c, e, h1, h2⟩, hq⟩
  have l2 : 2 ≤ sizeLine := by rw [sizeLine_eq]; decide
  simp only [b_Builder_sides, start2, n_Builder_sides]
  simp [↓stem_l e, ↓stem_r e, l2]
  exact Fg.same (hq b c h1 h2)
abbrev mx_stem_of : Nat := 41
def sp_stem_of (rn : Nat) : Sp2 := A1 fun a M Q _ => ∃ s : Sh, a = shT s ∧ s.height < rn ∧ ∀ M' p, Le M M' → StemAt M' s p → Q (.loc p) M'
theorem zero_stem_of : ∀ ds M Q E, ¬ sp_stem_of 0 ds M Q E := by
  rintro ds M Q E ⟨a, rfl, s, rfl, h, _⟩
  omega
def n_stem_of : List Str := "shape" :: []
def b_stem_of_1 (rn : Nat) : TS2 := (sRt (eMake "Stem" sp_Stem___init__ (aCons (eC .non) (aCons (eC .non) aNil))))
def b_stem_of_2 (rn : Nat) : TS2 := (sRt (eMake "Stem" sp_Stem___init__ (aCons (eCall (sp_stem_of rn) [] (aCons (eOp rIx2 (eVar 0) (eC (.int 0))) aNil)) (aCons (eCall (sp_stem_of rn) [] (aCons (eOp rIx2 (eVar 0) (eC (.int 1))) aNil)) aNil))))
def b_stem_of (rn : Nat) : TS2 := (sSq (sIf (tCm (eOp (rIsG id) (eVar 0) (eC .non))) (b_stem_of_1 rn) sNx)
  (b_stem_of_2 rn))
theorem sem_stem_of : ∀ (rn : Nat) ds M Q E, sp_stem_of (rn + 1) ds M Q E → b_stem_of rn (fEnds Q E) (start2 n_stem_of ds) M := by
  rintro rn ds M Q E ⟨a, rfl, s, rfl, h, hq⟩
  simp only [b_stem_of, start2, n_stem_of]
  cases s with
  | leaf =>
    simp [shT]
    simp only [b_stem_of_1]
    simp
    exact make_leaf fun M' a L h => Fg.same (hq M' a L h)
  | pair l r =>
    have h : 1 + max l.height r.height < rn + 1 := h
    simp [shT]
    simp only [b_stem_of_2]
    simp
    refine ⟨_, rfl, l, rfl, by omega, fun M1 b L1 h1 => ?_⟩
    simp
    refine ⟨_, rfl, r, rfl, by omega, fun M2 c L2 h2 => ?_⟩
    simp
    exact make_stem (h1.le L2) h2 fun M' a L h => Fg.same (hq M' a ((L1.trans L2).trans L) h)
abbrev mx_shape_of : Nat := 41
def sp_shape_of (rn : Nat) : Sp2 := A1 fun a M Q _ => (a = .non ∧ 1 ≤ rn ∧ Q (.tup []) M) ∨ ∃ p s, a = .loc p ∧ StemAt M s p ∧ s.height < rn ∧ Q (shT s) M
theorem zero_shape_of : ∀ ds M Q E, ¬ sp_shape_of 0 ds M Q E := by
  rintro ds M Q E ⟨a, rfl, ⟨rfl, h, _⟩ | ⟨p, s, rfl, _, h, _⟩⟩ <;> omega
def n_shape_of : List Str := "tree" :: []
def b_shape_of_1 (rn : Nat) : TS2 := (sRt (eTup (aCons (eCall (sp_shape_of rn) [] (aCons (eFld "Stem" "left" (eVar 0)) aNil)) (aCons (eCall (sp_shape_of rn) [] (aCons (eFld "Stem" "right" (eVar 0)) aNil)) aNil))))
def b_shape_of_2 (rn : Nat) : TS2 := (sSq (sIf (tCm (eOp (rEqG id) (eFld "Stem" "height" (eVar 0)) (eC (.int 0)))) (sRt (eC .non)) sNx)
  (b_shape_of_1 rn))
def b_shape_of (rn : Nat) : TS2 := (sSq (sIf (tCm (eOp (rIsG id) (eVar 0) (eC .non))) (sRt (eTup aNil)) sNx)
  (b_shape_of_2 rn))
theorem sem_shape_of : ∀ (rn : Nat) ds M Q E, sp_shape_of (rn + 1) ds M Q E → b_shape_of rn (fEnds Q E) (start2 n_shape_of ds) M := by
  rintro rn ds M Q E ⟨a, rfl, ⟨rfl, _, hq⟩ | ⟨p, s, rfl, hs, h, hq⟩⟩
  · simp only [b_shape_of, start2, n_shape_of]
    simp
    exact Fg.same hq
  · have l2 : 2 ≤ sizeLine := by rw [sizeLine_eq]; decide
    simp only [b_shape_of, start2, n_shape_of]
    simp
    simp only [b_shape_of_2]
    cases s with
    | leaf =>
      have hs : M p = some (stemO .non .non 1 0) := hs
      simp [↓stem_h hs]
      exact Fg.same hq
    | pair l r =>
      obtain ⟨b, c, e, h1, h2⟩ := hs
      have h : 1 + max l.height r.height < rn + 1 := h
      have c0 : ¬ (1 + max l.height r.height = 0) := by omega
      have c1 : ¬ ((1 : Int) + (max l.height r.height : Nat) = 0) := by omega
      simp [↓stem_h e, c0, c1]
      simp only [b_shape_of_1]
      simp [↓stem_l e]
      refine ⟨_, rfl, .inr ⟨b, l, rfl, h1, by omega, ?_⟩⟩
      simp [↓stem_r e]
      refine ⟨_, rfl, .inr ⟨c, r, rfl, h2, by omega, ?_⟩⟩
      simp [l2]
      exact Fg.same hq
end T

/-! I: stems side by side, and cut. -/
namespace T
open PySem PySem.Spec PyProof.Rows L2
open Sh
theorem BuildAt.m {M : Ms} {bd : Addr} (h : BuildAt M bd) (m : Str) : MethO "Builder" m (.loc bd) M := ⟨bd, _, rfl, h, rfl⟩
def sp_even_pair : Sp2 := A3 fun x l r M Q _ => ∃ bd b c s t, x = .loc bd ∧ BuildAt M bd ∧ l = .loc b ∧ r = .loc c ∧ StemAt M s b ∧ StemAt M t c ∧ s.height ≤ t.height + 2 ∧ t.height ≤ s.height + 2 ∧ ∀ M' a, Le M M' → StemAt M' (evenP s t) a → Q (.loc a) M'
def n_even_pair : List Str := "builder" :: "left" :: "right" :: "inner" :: "outer" :: "one" :: "other" :: []
def b_even_pair_1 : TS2 := (sRt (eMeth "Builder" "pair" sp_Builder_pair (eVar 0) (aCons (eMeth "Builder" "pair" sp_Builder_pair (eVar 0) (aCons (eVar 1) (aCons (eVar 3) aNil))) (aCons (eVar 4) aNil))))
def b_even_pair_2 : TS2 := (sRt (eMeth "Builder" "pair" sp_Builder_pair (eVar 0) (aCons (eMeth "Builder" "pair" sp_Builder_pair (eVar 0) (aCons (eVar 1) (aCons (eVar 5) aNil))) (aCons (eMeth "Builder" "pair" sp_Builder_pair (eVar 0) (aCons (eVar 6) (aCons (eVar 4) aNil))) aNil))))
def b_even_pair_3 : TS2 := (sSq (sAs (eMeth "Builder" "sides" sp_Builder_sides (eVar 0) (aCons (eVar 3) aNil)) (gT 2 (gCo (gN 5) (gCo (gN 6) gNil2))))
  b_even_pair_2)
def b_even_pair_4 : TS2 := (sSq (sIf (tCm (eOp rLeI (eFld "Stem" "height" (eVar 3)) (eFld "Stem" "height" (eVar 4)))) b_even_pair_1 sNx)
  b_even_pair_3)
def b_even_pair_5 : TS2 := (sSq (sAs (eMeth "Builder" "sides" sp_Builder_sides (eVar 0) (aCons (eVar 2) aNil)) (gT 2 (gCo (gN 3) (gCo (gN 4) gNil2))))
  b_even_pair_4)
def b_even_pair_6 : TS2 := (sRt (eMeth "Builder" "pair" sp_Builder_pair (eVar 0) (aCons (eVar 4) (aCons (eMeth "Builder" "pair" sp_Builder_pair (eVar 0) (aCons (eVar 3) (aCons (eVar 2) aNil))) aNil))))
def b_even_pair_7 : TS2 := (sRt (eMeth "Builder" "pair" sp_Builder_pair (eVar 0) (aCons (eMeth "Builder" "pair" sp_Builder_pair (eVar 0) (aCons (eVar 4) (aCons (eVar 5) aNil))) (aCons (eMeth "Builder" "pair" sp_Builder_pair (eVar 0) (aCons (eVar 6) (aCons (eVar 2) aNil))) aNil))))
def b_even_pair_8 : TS2 := (sSq (sAs (eMeth "Builder" "sides" sp_Builder_sides (eVar 0) (aCons (eVar 3) aNil)) (gT 2 (gCo (gN 5) (gCo (gN 6) gNil2))))
  b_even_pair_7)
def b_even_pair_9 : TS2 := (sSq (sIf (tCm (eOp rLeI (eFld "Stem" "height" (eVar 3)) (eFld "Stem" "height" (eVar 4)))) b_even_pair_6 sNx)
  b_even_pair_8)
def b_even_pair_10 : TS2 := (sSq (sAs (eMeth "Builder" "sides" sp_Builder_sides (eVar 0) (aCons (eVar 1) aNil)) (gT 2 (gCo (gN 4) (gCo (gN 3) gNil2))))
  b_even_pair_9)
def b_even_pair_11 : TS2 := (sRt (eMeth "Builder" "pair" sp_Builder_pair (eVar 0) (aCons (eVar 1) (aCons (eVar 2) aNil))))
def b_even_pair_12 : TS2 := (sSq (sIf (tCm (eOp rGtI (eFld "Stem" "height" (eVar 1)) (eOp rAdd2 (eFld "Stem" "height" (eVar 2)) (eC (.int 1))))) b_even_pair_10 sNx)
  b_even_pair_11)
def b_even_pair : TS2 := (sSq (sIf (tCm (eOp rGtI (eFld "Stem" "height" (eVar 2)) (eOp rAdd2 (eFld "Stem" "height" (eVar 1)) (eC (.int 1))))) b_even_pair_5 sNx)
  b_even_pair_12)
theorem sem_even_pair : ∀ ds M Q E, sp_even_pair ds M Q E → b_even_pair (fEnds Q E) (start2 n_even_pair ds) M := by
  rintro ds M Q E ⟨x, l, r, rfl, bd, b, c, s, t, rfl, hb, rfl, rfl, h1, h2, g1, g2, hq⟩
  obtain ⟨_, _, e1⟩ := h1.at_
  obtain ⟨_, _, e2⟩ := h2.at_
  simp only [b_even_pair, start2, n_even_pair]
  simp [↓stem_h e1, ↓stem_h e2]
  by_cases c1 : s.height + 1 < t.height
  · have c1' : (s.height : Int) + 1 < (t.height : Int) := by omega
    rw [if_pos (by omega)]
    cases t with
    | leaf => exact absurd c1 (by show ¬ s.height + 1 < 0; omega)
    | pair i o =>
      simp only [b_even_pair_5]
      simp
      refine ⟨hb.m _, _, _, rfl, c, i, o, rfl, h2, fun ic oc hi ho => ?_⟩
      obtain ⟨_, _, e3⟩ := hi.at_
      obtain ⟨_, _, e4⟩ := ho.at_
      simp
      simp only [b_even_pair_4]
      simp [↓stem_h e3, ↓stem_h e4]
      by_cases c2 : i.height ≤ o.height
      · have c2' : (i.height : Int) ≤ (o.height : Int) := by omega
        rw [if_pos (by omega)]
        simp only [b_even_pair_1]
        simp
        refine ⟨hb.m _, _, _, _, rfl, b, ic, s, i, rfl, rfl, h1, hi, fun M1 a L1 ha => ?_⟩
        simp
        refine ⟨_, _, _, rfl, a, oc, _, o, rfl, rfl, ha, ho.le L1, fun M2 a2 L2 ha2 => Fg.same (hq M2 a2 (L1.trans L2) ?_)⟩
        unfold evenP
        rw [if_pos c1]
        dsimp only
        rw [if_pos c2]
        exact ha2
      · have c2' : ¬ (i.height : Int) ≤ (o.height : Int) := by omega
        rw [if_neg (by omega)]
        cases i with
        | leaf => exact absurd c2 (by show ¬ ¬ 0 ≤ o.height; omega)
        | pair x y =>
          simp only [b_even_pair_3]
          simp
          refine ⟨hb.m _, _, _, rfl, ic, x, y, rfl, hi, fun xc yc hx hy => ?_⟩
          simp
          simp only [b_even_pair_2]
          simp
          refine ⟨hb.m _, _, _, _, rfl, b, xc, s, x, rfl, rfl, h1, hx, fun M1 a L1 ha => ?_⟩
          simp
          refine ⟨BuildAt.m (L1 _ _ hb) _, _, _, _, rfl, yc, oc, y, o, rfl, rfl, hy.le L1, ho.le L1, fun M2 a2 L2 ha2 => ?_⟩
          simp
          refine ⟨_, _, _, rfl, a, a2, _, _, rfl, rfl, ha.le L2, ha2, fun M3 a3 L3 ha3 => Fg.same (hq M3 a3 ((L1.trans L2).trans L3) ?_)⟩
          unfold evenP
          rw [if_pos c1]
          dsimp only
          rw [if_neg c2]
          exact ha3
  · have c1' : ¬ (s.height : Int) + 1 < (t.height : Int) := by omega
    rw [if_neg (by omega)]
    simp only [b_even_pair_12]
    simp [↓stem_h e1, ↓stem_h e2]
    by_cases c3 : t.height + 1 < s.height
    · have c3' : (t.height : Int) + 1 < (s.height : Int) := by omega
      rw [if_pos (by omega)]
      cases s with
      | leaf => exact absurd c3 (by show ¬ t.height + 1 < 0; omega)
      | pair o i =>
        simp only [b_even_pair_10]
        simp
        refine ⟨hb.m _, _, _, rfl, b, o, i, rfl, h1, fun oc ic ho hi => ?_⟩
        obtain ⟨_, _, e3⟩ := hi.at_
        obtain ⟨_, _, e4⟩ := ho.at_
        simp
        simp only [b_even_pair_9]
        simp [↓stem_h e3, ↓stem_h e4]
        by_cases c2 : i.height ≤ o.height
        · have c2' : (i.height : Int) ≤ (o.height : Int) := by omega
          rw [if_pos (by omega)]
          simp only [b_even_pair_6]
          simp
          refine ⟨hb.m _, _, _, _, rfl, ic, c, i, t, rfl, rfl, hi, h2, fun M1 a L1 ha => ?_⟩
          simp
          refine ⟨_, _, _, rfl, oc, a, o, _, rfl, rfl, ho.le L1, ha, fun M2 a2 L2 ha2 => Fg.same (hq M2 a2 (L1.trans L2) ?_)⟩
          unfold evenP
          rw [if_neg c1, if_pos c3]
          dsimp only
          rw [if_pos c2]
          exact ha2
        · have c2' : ¬ (i.height : Int) ≤ (o.height : Int) := by omega
          rw [if_neg (by omega)]
          cases i with
          | leaf => exact absurd c2 (by show ¬ ¬ 0 ≤ o.height; omega)
          | pair x y =>
            simp only [b_even_pair_8]
            simp
            refine ⟨hb.m _, _, _, rfl, ic, x, y, rfl, hi, fun xc yc hx hy => ?_⟩
            simp
            simp only [b_even_pair_7]
            simp
            refine ⟨hb.m _, _, _, _, rfl, oc, xc, o, x, rfl, rfl, ho, hx, fun M1 a L1 ha => ?_⟩
            simp
            refine ⟨BuildAt.m (L1 _ _ hb) _, _, _, _, rfl, yc, c, y, t, rfl, rfl, hy.le L1, h2.le L1, fun M2 a2 L2 ha2 => ?_⟩
            simp
            refine ⟨_, _, _, rfl, a, a2, _, _, rfl, rfl, ha.le L2, ha2, fun M3 a3 L3 ha3 => Fg.same (hq M3 a3 ((L1.trans L2).trans L3) ?_)⟩
            unfold evenP
            rw [if_neg c1, if_pos c3]
            dsimp only
            rw [if_neg c2]
            exact ha3
    · have c3' : ¬ (t.height : Int) + 1 < (s.height : Int) := by omega
      rw [if_neg (by omega)]
      simp only [b_even_pair_11]
      simp
      refine ⟨hb.m _, _, _, _, rfl, b, c, s, t, rfl, rfl, h1, h2, fun M1 a L1 ha => Fg.same (hq M1 a L1 ?_)⟩
      unfold evenP
      rw [if_neg c1, if_neg c3]
      exact ha
/-- perhaps a stem -/
def StemO (M : Ms) : Option Sh → Tr → Prop
  | none, x => x = .non
  | some s, x => ∃ a, x = .loc a ∧ StemAt M s a
theorem StemO.le {M M' : Ms} (L : Le M M') : ∀ {o : Option Sh} {x : Tr}, StemO M o x → StemO M' o x
  | none, _, h => h
  | some _, _, ⟨a, e, h⟩ => ⟨a, e, h.le L⟩
abbrev mx_row_joined : Nat := 41
def sp_row_joined (rn : Nat) : Sp2 := A3 fun x l r M Q _ => ∃ bd s t, x = .loc bd ∧ BuildAt M bd ∧ StemO M s l ∧ StemO M t r ∧ obal s = true ∧ obal t = true ∧ ohei s ≤ 40 ∧ ohei t ≤ 40 ∧ max (ohei s) (ohei t) < rn ∧ ∀ M' a, Le M M' → StemO M' (joinO s t) a → Q a M'
theorem zero_row_joined : ∀ ds M Q E, ¬ sp_row_joined 0 ds M Q E := by
  rintro ds M Q E ⟨_, _, _, rfl, bd, s, t, _, _, _, _, _, _, _, _, h, _⟩
  omega
def n_row_joined : List Str := "builder" :: "left" :: "right" :: "first" :: "last" :: []
def b_row_joined_1 (rn : Nat) : TS2 := (sRt (eCall sp_even_pair [] (aCons (eVar 0) (aCons (eVar 3) (aCons (eCall (sp_row_joined rn) [] (aCons (eVar 0) (aCons (eVar 4) (aCons (eVar 2) aNil)))) aNil)))))
def b_row_joined_2 (rn : Nat) : TS2 := (sSq (sAs (eMeth "Builder" "sides" sp_Builder_sides (eVar 0) (aCons (eVar 1) aNil)) (gT 2 (gCo (gN 3) (gCo (gN 4) gNil2))))
  (b_row_joined_1 rn))
def b_row_joined_3 (rn : Nat) : TS2 := (sRt (eCall sp_even_pair [] (aCons (eVar 0) (aCons (eCall (sp_row_joined rn) [] (aCons (eVar 0) (aCons (eVar 1) (aCons (eVar 3) aNil)))) (aCons (eVar 4) aNil)))))
def b_row_joined_4 (rn : Nat) : TS2 := (sSq (sAs (eMeth "Builder" "sides" sp_Builder_sides (eVar 0) (aCons (eVar 2) aNil)) (gT 2 (gCo (gN 3) (gCo (gN 4) gNil2))))
  (b_row_joined_3 rn))
def b_row_joined_5 (rn : Nat) : TS2 := (sRt (eMeth "Builder" "pair" sp_Builder_pair (eVar 0) (aCons (eVar 1) (aCons (eVar 2) aNil))))
def b_row_joined_6 (rn : Nat) : TS2 := (sSq (sIf (tCm (eOp rGtI (eFld "Stem" "height" (eVar 2)) (eOp rAdd2 (eFld "Stem" "height" (eVar 1)) (eC (.int 1))))) (b_row_joined_4 rn) sNx)
  (b_row_joined_5 rn))
def b_row_joined_7 (rn : Nat) : TS2 := (sSq (sIf (tCm (eOp rGtI (eFld "Stem" "height" (eVar 1)) (eOp rAdd2 (eFld "Stem" "height" (eVar 2)) (eC (.int 1))))) (b_row_joined_2 rn) sNx)
  (b_row_joined_6 rn))
def b_row_joined_8 (rn : Nat) : TS2 := (sSq (sIf (tCm (eOp (rIsG id) (eVar 2) (eC .non))) (sRt (eVar 1)) sNx)
  (b_row_joined_7 rn))
def b_row_joined (rn : Nat) : TS2 := (sSq (sIf (tCm (eOp (rIsG id) (eVar 1) (eC .non))) (sRt (eVar 2)) sNx)
  (b_row_joined_8 rn))
theorem sem_row_joined : ∀ (rn : Nat) ds M Q E, sp_row_joined (rn + 1) ds M Q E → b_row_joined rn (fEnds Q E) (start2 n_row_joined ds) M := by
  rintro rn ds M Q E ⟨x, l, r, rfl, bd, s, t, rfl, hb, hs, ht, b1, b2, m1, m2, hn, hq⟩
  simp only [b_row_joined, start2, n_row_joined]
  cases s with
  | none =>
    have hs : l = .non := hs
    subst hs
    simp
    exact Fg.same (hq M r Le.refl ht)
  | some s =>
    obtain ⟨b, rfl, hs⟩ := hs
    simp
    simp only [b_row_joined_8]
    cases t with
    | none =>
      have ht : r = .non := ht
      subst ht
      simp
      exact Fg.same (hq M _ Le.refl ⟨b, rfl, hs⟩)
    | some t =>
      obtain ⟨c, rfl, ht⟩ := ht
      have m1 : s.height ≤ 40 := m1
      have m2 : t.height ≤ 40 := m2
      have hn : max s.height t.height < rn + 1 := hn
      have b1 : s.bal = true := b1
      have b2 : t.bal = true := b2
      obtain ⟨_, _, e1⟩ := hs.at_
      obtain ⟨_, _, e2⟩ := ht.at_
      simp
      simp only [b_row_joined_7]
      simp [↓stem_h e1, ↓stem_h e2]
      have hq : ∀ M' a, Le M M' → StemAt M' (joinS s t) a → Q (.loc a) M' := fun M' a L h => hq M' _ L ⟨a, rfl, h⟩
      by_cases c1 : t.height + 1 < s.height
      · have c1' : (t.height : Int) + 1 < (s.height : Int) := by omega
        rw [if_pos (by omega)]
        cases s with
        | leaf => exact absurd c1 (by show ¬ t.height + 1 < 0; omega)
        | pair u v =>
          obtain ⟨a1, a2, a3, a4⟩ := bal_pair.mp b1
          rw [joinS_l c1 (by omega)] at hq
          rw [hp] at c1 m1 hn
          obtain ⟨j1, j2, j3, j4⟩ := joinS_ok (l := v) (r := t) (by omega) (by omega) a2 b2
          simp only [b_row_joined_2]
          simp
          refine ⟨hb.m _, _, _, rfl, b, u, v, rfl, hs, fun uc vc hu hv => ?_⟩
          simp
          simp only [b_row_joined_1]
          simp
          refine ⟨_, _, _, rfl, bd, some v, some t, rfl, hb, ⟨vc, rfl, hv⟩, ⟨c, rfl, ht⟩, a2, b2, by show v.height ≤ 40; omega, by show t.height ≤ 40; omega, by show max v.height t.height < rn; omega, fun M1 x L1 ⟨a, ex, ha⟩ => ?_⟩
          subst ex
          try simp
          refine ⟨_, _, _, rfl, bd, uc, a, u, _, rfl, L1 _ _ hb, rfl, rfl, hu.le L1, ha, by omega, by omega, fun M2 a2 L2 h2 => Fg.same (hq M2 a2 (L1.trans L2) h2)⟩
      · have c1' : ¬ (t.height : Int) + 1 < (s.height : Int) := by omega
        rw [if_neg (by omega)]
        simp only [b_row_joined_6]
        simp [↓stem_h e1, ↓stem_h e2]
        by_cases c2 : s.height + 1 < t.height
        · have c2' : (s.height : Int) + 1 < (t.height : Int) := by omega
          rw [if_pos (by omega)]
          cases t with
          | leaf => exact absurd c2 (by show ¬ s.height + 1 < 0; omega)
          | pair u v =>
            obtain ⟨a1, a2, a3, a4⟩ := bal_pair.mp b2
            rw [joinS_r c2 (by omega)] at hq
            rw [hp] at c2 m2 hn
            obtain ⟨j1, j2, j3, j4⟩ := joinS_ok (l := s) (r := u) (by omega) (by omega) b1 a1
            simp only [b_row_joined_4]
            simp
            refine ⟨hb.m _, _, _, rfl, c, u, v, rfl, ht, fun uc vc hu hv => ?_⟩
            simp
            simp only [b_row_joined_3]
            simp
            refine ⟨_, _, _, rfl, bd, some s, some u, rfl, hb, ⟨b, rfl, hs⟩, ⟨uc, rfl, hu⟩, b1, a1, by show s.height ≤ 40; omega, by show u.height ≤ 40; omega, by show max s.height u.height < rn; omega, fun M1 x L1 ⟨a, ex, ha⟩ => ?_⟩
            subst ex
            try simp
            refine ⟨_, _, _, rfl, bd, a, vc, _, v, rfl, L1 _ _ hb, rfl, rfl, ha, hv.le L1, by omega, by omega, fun M2 a2 L2 h2 => Fg.same (hq M2 a2 (L1.trans L2) h2)⟩
        · have c2' : ¬ (s.height : Int) + 1 < (t.height : Int) := by omega
          rw [if_neg (by omega)]
          simp only [b_row_joined_5]
          simp
          refine ⟨hb.m _, _, _, _, rfl, b, c, s, t, rfl, rfl, hs, ht, fun M1 a L1 ha => Fg.same (hq M1 a L1 ?_)⟩
          rw [joinS_p (by omega) (by omega)]
          exact ha
abbrev mx_row_cut : Nat := 41
def sp_row_cut (rn : Nat) : Sp2 := A3 fun x l n M Q _ => ∃ bd b s k, x = .loc bd ∧ BuildAt M bd ∧ l = .loc b ∧ StemAt M s b ∧ n = .int (k : Nat) ∧ k ≤ s.width ∧ s.width ≤ 20000 ∧ s.bal = true ∧ s.height < rn ∧ ∀ M' x y, Le M M' → StemO M' (cutSh s k).1 x → StemO M' (cutSh s k).2 y → Q (.tup [x, y]) M'
theorem zero_row_cut : ∀ ds M Q E, ¬ sp_row_cut 0 ds M Q E := by
  rintro ds M Q E ⟨_, _, _, rfl, _, _, _, _, _, _, _, _, _, _, _, _, h, _⟩
  omega
theorem o_small {o : Option Sh} (h : obal o = true) (hw : owid o ≤ 20000) : ohei o ≤ 20 := by
  cases o with
  | none => exact Nat.zero_le _
  | some s => exact bal_small (s := s) h hw
def n_row_cut : List Str := "builder" :: "tree" :: "many" :: "left" :: "right" :: "first" :: "last" :: []
def b_row_cut_1 (rn : Nat) : TS2 := (sRt (eTup (aCons (eVar 5) (aCons (eCall (sp_row_joined mx_row_joined) [] (aCons (eVar 0) (aCons (eVar 6) (aCons (eVar 4) aNil)))) aNil))))
def b_row_cut_2 (rn : Nat) : TS2 := (sSq (sAs (eCall (sp_row_cut rn) [] (aCons (eVar 0) (aCons (eVar 3) (aCons (eVar 2) aNil)))) (gT 2 (gCo (gN 5) (gCo (gN 6) gNil2))))
  (b_row_cut_1 rn))
def b_row_cut_3 (rn : Nat) : TS2 := (sRt (eTup (aCons (eCall (sp_row_joined mx_row_joined) [] (aCons (eVar 0) (aCons (eVar 3) (aCons (eVar 5) aNil)))) (aCons (eVar 6) aNil))))
def b_row_cut_4 (rn : Nat) : TS2 := (sSq (sAs (eCall (sp_row_cut rn) [] (aCons (eVar 0) (aCons (eVar 4) (aCons (eOp rSub2 (eVar 2) (eFld "Stem" "width" (eVar 3))) aNil)))) (gT 2 (gCo (gN 5) (gCo (gN 6) gNil2))))
  (b_row_cut_3 rn))
def b_row_cut_5 (rn : Nat) : TS2 := (sSq (sIf (tCm (eOp rLeI (eVar 2) (eFld "Stem" "width" (eVar 3)))) (b_row_cut_2 rn) sNx)
  (b_row_cut_4 rn))
def b_row_cut_6 (rn : Nat) : TS2 := (sSq (sAs (eMeth "Builder" "sides" sp_Builder_sides (eVar 0) (aCons (eVar 1) aNil)) (gT 2 (gCo (gN 3) (gCo (gN 4) gNil2))))
  (b_row_cut_5 rn))
def b_row_cut_7 (rn : Nat) : TS2 := (sSq (sIf (tCm (eOp (rEqG id) (eVar 2) (eFld "Stem" "width" (eVar 1)))) (sRt (eTup (aCons (eVar 1) (aCons (eC .non) aNil)))) sNx)
  (b_row_cut_6 rn))
def b_row_cut (rn : Nat) : TS2 := (sSq (sIf (tCm (eOp (rEqG id) (eVar 2) (eC (.int 0)))) (sRt (eTup (aCons (eC .non) (aCons (eVar 1) aNil)))) sNx)
  (b_row_cut_7 rn))
theorem sem_row_cut : ∀ (rn : Nat) ds M Q E, sp_row_cut (rn + 1) ds M Q E → b_row_cut rn (fEnds Q E) (start2 n_row_cut ds) M := by
  rintro rn ds M Q E ⟨x, l, r, rfl, bd, b, s, k, rfl, hb, rfl, hs, rfl, hk, hw, bs, hn, hq⟩
  have l2 : 2 ≤ sizeLine := by rw [sizeLine_eq]; decide
  obtain ⟨_, _, e1⟩ := hs.at_
  simp only [b_row_cut, start2, n_row_cut]
  by_cases c0 : k = 0
  · subst c0
    simp [l2]
    refine Fg.same (hq M _ _ Le.refl ?_ ?_)
    · cases s <;> exact rfl
    · cases s <;> exact ⟨b, rfl, hs⟩
  · simp [c0]
    simp only [b_row_cut_7]
    simp [↓stem_w e1]
    by_cases c1 : k = s.width
    · have c1' : (k : Int) = (s.width : Int) := by omega
      simp [c1', l2]
      refine Fg.same (hq M _ _ Le.refl ?_ ?_)
      · cases s with
        | leaf => unfold cutSh; rw [if_neg c0]; exact ⟨b, rfl, hs⟩
        | pair u v => unfold cutSh; rw [if_neg c0, if_pos c1]; exact ⟨b, rfl, hs⟩
      · cases s with
        | leaf => unfold cutSh; rw [if_neg c0]; exact rfl
        | pair u v => unfold cutSh; rw [if_neg c0, if_pos c1]; exact rfl
    · have c1' : ¬ (k : Int) = (s.width : Int) := by omega
      simp [c1']
      cases s with
      | leaf => exact absurd hk (by show ¬ k ≤ 1; have : ¬ k = 1 := c1; omega)
      | pair u v =>
        obtain ⟨a1, a2, a3, a4⟩ := bal_pair.mp bs
        have hcut : cutSh (.pair u v) k = if k ≤ u.width then ((cutSh u k).1, joinO (cutSh u k).2 (some v)) else (joinO (some u) (cutSh v (k - u.width)).1, (cutSh v (k - u.width)).2) := by
          conv => lhs; unfold cutSh
          rw [if_neg c0, if_neg c1]
        rw [hcut] at hq
        rw [wp] at hk hw c1
        rw [hp] at hn
        have su := bal_small a1 (by omega)
        have sv := bal_small a2 (by omega)
        simp only [b_row_cut_6]
        simp
        refine ⟨hb.m _, _, _, rfl, b, u, v, rfl, hs, fun uc vc hu hv => ?_⟩
        obtain ⟨_, _, e3⟩ := hu.at_
        simp
        simp only [b_row_cut_5]
        simp [↓stem_w e3]
        by_cases c2 : k ≤ u.width
        · have c2' : (k : Int) ≤ (u.width : Int) := by omega
          rw [if_pos (by omega)]
          rw [if_pos c2] at hq
          obtain ⟨p1, p2, p3, p4⟩ := cutSh_ok (s := u) (n := k) a1 (by omega) c2
          have q2 := o_small p2 (by omega)
          simp only [b_row_cut_2]
          simp
          refine ⟨_, _, _, rfl, bd, uc, u, k, rfl, hb, rfl, hu, rfl, c2, by omega, a1, by omega, fun M1 x y L1 hx hy => ?_⟩
          simp
          simp only [b_row_cut_1]
          simp
          refine ⟨_, _, _, rfl, bd, _, some v, rfl, L1 _ _ hb, hy, ⟨vc, rfl, hv.le L1⟩, p2, a2, by omega, by show v.height ≤ 40; omega, by show max _ v.height < 41; omega, fun M2 z L2 hz => ?_⟩
          simp [l2]
          exact Fg.same (hq M2 _ _ (L1.trans L2) (hx.le L2) hz)
        · have c2' : ¬ (k : Int) ≤ (u.width : Int) := by omega
          rw [if_neg (by omega)]
          rw [if_neg c2] at hq
          obtain ⟨p1, p2, p3, p4⟩ := cutSh_ok (s := v) (n := k - u.width) a2 (by omega) (by omega)
          have q1 := o_small p1 (by omega)
          simp only [b_row_cut_4]
          simp [↓stem_w e3]
          have ek : (k : Int) - (u.width : Int) = ((k - u.width : Nat) : Int) := by omega
          refine ⟨_, _, _, rfl, bd, vc, v, k - u.width, rfl, hb, rfl, hv, congrArg Tr.int ek, by omega, by omega, a2, by omega, fun M1 x y L1 hx hy => ?_⟩
          simp
          simp only [b_row_cut_3]
          simp
          refine ⟨_, _, _, rfl, bd, some u, _, rfl, L1 _ _ hb, ⟨uc, rfl, hu.le L1⟩, hx, a1, p1, by show u.height ≤ 40; omega, by omega, by show max u.height _ < 41; omega, fun M2 z L2 hz => ?_⟩
          simp [l2]
          exact Fg.same (hq M2 _ _ (L1.trans L2) hz (hy.le L2))
end T

/-! I: any thing, judged as a shape; shapes cut. -/
namespace T
open PySem PySem.Spec PyProof.Rows L2
open Sh
open Classical in
noncomputable def shO (d : Tr) : Option Sh := if h : ∃ s, d = shT s then some h.choose else none
theorem shO_sh (s : Sh) : shO (shT s) = some s := by
  have h : ∃ t, shT s = shT t := ⟨s, rfl⟩
  unfold shO
  rw [dif_pos h]
  exact congrArg some (shT_inj.mp h.choose_spec).symm
theorem shO_eq {d : Tr} {s : Sh} : shO d = some s ↔ d = shT s := by
  constructor
  · intro h
    unfold shO at h
    split at h
    · rename_i q
      cases h
      exact q.choose_spec
    · cases h
  · intro h
    rw [h]; exact shO_sh s
theorem shO_no {d : Tr} : shO d = none ↔ ∀ s, d ≠ shT s := by
  constructor
  · intro h s e
    rw [e, shO_sh] at h
    cases h
  · intro h
    cases e : shO d with
    | none => rfl
    | some s => exact absurd (shO_eq.mp e) (h s)
theorem shO_non : shO .non = some .leaf := shO_sh .leaf
theorem shO_odd {d : Tr} (h1 : d ≠ .non) (h2 : ∀ a b, d ≠ .tup [a, b]) : shO d = none := shO_no.mpr fun s e => by
  cases s with
  | leaf => exact h1 e
  | pair l r => exact h2 _ _ e
theorem shO_pair {a b : Tr} : shO (.tup [a, b]) = match shO a, shO b with
  | some x, some y => some (.pair x y)
  | _, _ => none := by
  cases ea : shO a with
  | none =>
    refine shO_no.mpr fun s e => ?_
    cases s with
    | leaf => cases e
    | pair l r =>
      simp only [shT, Tr.tup.injEq, List.cons.injEq, and_true] at e
      exact shO_no.mp ea l e.1
  | some x =>
    cases eb : shO b with
    | none =>
      refine shO_no.mpr fun s e => ?_
      cases s with
      | leaf => cases e
      | pair l r =>
        simp only [shT, Tr.tup.injEq, List.cons.injEq, and_true] at e
        exact shO_no.mp eb r e.2
    | some y =>
      rw [shO_eq.mp ea, shO_eq.mp eb]
      exact shO_sh (.pair x y)
theorem widT_no : ∀ {n : Nat} {d : Tr}, widT n d ≠ 0 → ∃ s, d = shT s := by
  intro n
  induction n with
  | zero => intro d h; cases d <;> first | exact ⟨.leaf, rfl⟩ | exact absurd rfl h
  | succ n ih =>
    intro d h
    unfold widT at h
    split at h
    · exact ⟨.leaf, rfl⟩
    · exact absurd rfl h
    · rename_i n' a b e
      obtain rfl : n = n' := Nat.succ.inj e
      by_cases c : widT n a = 0
      · rw [if_pos c] at h
        exact absurd rfl (by rw [if_pos (.inl rfl)] at h; exact h)
      · rw [if_neg c] at h
        by_cases c2 : widT n b = 0
        · rw [if_pos (.inl c2)] at h; exact absurd rfl h
        · obtain ⟨x, ex⟩ := ih c
          obtain ⟨y, ey⟩ := ih c2
          exact ⟨.pair x y, by rw [ex, ey]; rfl⟩
    · exact absurd rfl h
/-- a thing that is asked as a shape: small, if it is one -/
def ShOk (M : Ms) (d : Tr) : Prop := Wf M d ∧ ∀ s, d = shT s → s.height ≤ 40 ∧ s.width ≤ 20000
theorem ShOk.le {M M' : Ms} (l : Le M M') {d : Tr} (h : ShOk M d) : ShOk M' d := ⟨h.1.le l, h.2⟩
def spx_need_shape (cn : Cn) : Sp2 := A1 fun a M Q E => ShOk M a ∧ (∀ s, a = shT s → Q (.int s.width) M) ∧ ((∀ s, a ≠ shT s) → E (cn.cl "BadShape") none M)
def bx_need_shape_1 (cn : Cn) : TS2 := (sSq (sIf (tCm (eOp (rEqG id) (eVar 1) (eC (.int 0)))) (sRaise (cn.cl "BadShape")) sNx)
  (sRt (eVar 1)))
def bx_need_shape (cn : Cn) : TS2 := (sSq (sAs (eCall (sp_width_in mx_width_in) [] (aCons (eVar 0) (aCons (eC (.int 40)) aNil))) (gN 1))
  (bx_need_shape_1 cn))
theorem semx_need_shape (cn : Cn) : ∀ ds M Q E, spx_need_shape cn ds M Q E → bx_need_shape cn (fEnds Q E) (start2 n_need_shape ds) M := by
  rintro ds M Q E ⟨a, rfl, ⟨hw, hs⟩, h1, h2⟩
  simp only [bx_need_shape, start2, n_need_shape]
  simp
  refine ⟨_, _, rfl, 40, rfl, hw, by decide, ?_⟩
  by_cases h : ∃ s, a = shT s
  · obtain ⟨s, rfl⟩ := h
    have p := Sh.width_pos s
    rw [widT_sh (hs s rfl).1 (hs s rfl).2]
    simp
    simp only [bx_need_shape_1]
    have c : ¬ (s.width = 0) := by omega
    simp [c]
    exact Fg.same (h1 s rfl)
  · have e : widT 40 a = 0 := by
      by_cases e : widT 40 a = 0
      · exact e
      · exact absurd (widT_no e) h
    rw [e]
    simp
    simp only [bx_need_shape_1]
    simp
    exact FgX.same (h2 fun s e => h ⟨s, e⟩)
def spx_need_balanced (cn : Cn) : Sp2 := A1 fun a M Q E => ShOk M a ∧ (∀ s, a = shT s → s.bal = true → Q (.int s.width) M) ∧ (∀ s, a = shT s → s.bal = false → E (cn.cl "BadBalance") none M) ∧ ((∀ s, a ≠ shT s) → E (cn.cl "BadShape") none M)
def n_need_balanced : List Str := "shape" :: "width" :: []
def bx_need_balanced_1 (cn : Cn) : TS2 := (sSq (sIf (tCm (eOp rLtI (eCall (sp_balanced_height mx_balanced_height) [] (aCons (eVar 0) aNil)) (eC (.int 0)))) (sRaise (cn.cl "BadBalance")) sNx)
  (sRt (eVar 1)))
def bx_need_balanced (cn : Cn) : TS2 := (sSq (sAs (eCall (spx_need_shape cn) [] (aCons (eVar 0) aNil)) (gN 1))
  (bx_need_balanced_1 cn))
theorem semx_need_balanced (cn : Cn) : ∀ ds M Q E, spx_need_balanced cn ds M Q E → bx_need_balanced cn (fEnds Q E) (start2 n_need_balanced ds) M := by
  rintro ds M Q E ⟨a, rfl, hs, h1, h2, h3⟩
  simp only [bx_need_balanced, start2, n_need_balanced]
  simp
  refine ⟨_, rfl, hs, fun s e => ?_, fun h => FgX.same (h3 h)⟩
  subst e
  simp
  simp only [bx_need_balanced_1]
  simp
  refine ⟨_, rfl, s, rfl, by show s.height < 41; have := (hs.2 s rfl).1; omega, ?_⟩
  unfold balH
  cases hb : s.bal with
  | true =>
    simp
    exact Fg.same (h1 s rfl hb)
  | false =>
    simp
    exact FgX.same (h2 s rfl hb)
def oShT : Option Sh → Tr
  | none => .tup []
  | some s => shT s
def spx_cut_shape (cn : Cn) : Sp2 := A2 fun a n M Q E => ShOk M a ∧ ∃ t : String, tyT n M = some t ∧
  (∀ s (k : Nat), a = shT s → s.bal = true → n = .int k → k ≤ s.width → ∀ M', Le M M' → Q (.tup [oShT (cutSh s k).1, oShT (cutSh s k).2]) M') ∧
  (∀ s, a = shT s → s.bal = true → cntOk n s.width = false → E (cn.cl "BadCount") none M) ∧
  (∀ s, a = shT s → s.bal = false → E (cn.cl "BadBalance") none M) ∧ ((∀ s, a ≠ shT s) → E (cn.cl "BadShape") none M)
def n_cut_shape : List Str := "shape" :: "many" :: "first" :: "last" :: []
def bx_cut_shape_1 (cn : Cn) : TS2 := (sRt (eTup (aCons (eCall (sp_shape_of mx_shape_of) [] (aCons (eVar 2) aNil)) (aCons (eCall (sp_shape_of mx_shape_of) [] (aCons (eVar 3) aNil)) aNil))))
def bx_cut_shape_2 (cn : Cn) : TS2 := (sSq (sAs (eCall (sp_row_cut mx_row_cut) [] (aCons (eMake0 "Builder") (aCons (eCall (sp_stem_of mx_stem_of) [] (aCons (eVar 0) aNil)) (aCons (eVar 1) aNil)))) (gT 2 (gCo (gN 2) (gCo (gN 3) gNil2))))
  (bx_cut_shape_1 cn))
def bx_cut_shape (cn : Cn) : TS2 := (sSq (sDr (eCall (spx_need_count cn) [] (aCons (eVar 1) (aCons (eCall (spx_need_balanced cn) [] (aCons (eVar 0) aNil)) aNil))))
  (bx_cut_shape_2 cn))
theorem shape_o {M : Ms} {o : Option Sh} {x : Tr} {Q : Q2} {E : X2} (h : StemO M o x) (hn : ohei o ≤ 40) (hq : Q (oShT o) M) : sp_shape_of mx_shape_of [x] M Q E := by
  cases o with
  | none =>
    have h : x = .non := h
    subst h
    exact ⟨_, rfl, .inl ⟨rfl, by decide, hq⟩⟩
  | some s =>
    obtain ⟨a, rfl, ha⟩ := h
    have hn : s.height ≤ 40 := hn
    exact ⟨_, rfl, .inr ⟨a, s, rfl, ha, by show s.height < 41; omega, hq⟩⟩
theorem semx_cut_shape (cn : Cn) : ∀ ds M Q E, spx_cut_shape cn ds M Q E → bx_cut_shape cn (fEnds Q E) (start2 n_cut_shape ds) M := by
  rintro ds M Q E ⟨a, n, rfl, hs, t, ht, h1, h2, h3, h4⟩
  have l2 : 2 ≤ sizeLine := by rw [sizeLine_eq]; decide
  simp only [bx_cut_shape, start2, n_cut_shape]
  simp
  refine ⟨_, rfl, hs, fun s e hb => ?_, fun s e hb => FgX.same (h3 s e hb), fun h => FgX.same (h4 h)⟩
  subst e
  obtain ⟨g1, g2⟩ := hs.2 s rfl
  refine ⟨_, _, rfl, t, s.width, ht, rfl, fun c => ?_, fun c => FgX.same (h2 s rfl hb c)⟩
  obtain ⟨k, rfl, hk⟩ : ∃ k : Nat, n = .int k ∧ k ≤ s.width := by
    cases n with
    | int i =>
      have c' := of_decide_eq_true c
      exact ⟨i.toNat, by congr 1; omega, by omega⟩
    | _ => cases c
  simp
  simp only [bx_cut_shape_2]
  simp
  intro bd hbd
  have L1 : Le M (up M bd (.ino "Builder" [])) := Le.new hbd
  have eb : BuildAt (up M bd (.ino "Builder" [])) bd := up_same
  generalize up M bd (.ino "Builder" []) = M1 at L1 eb
  simp
  refine ⟨_, rfl, s, rfl, by show s.height < 41; omega, fun M2 p L2 hp => ?_⟩
  simp
  refine ⟨_, _, _, rfl, bd, p, s, k, rfl, L2 _ _ eb, rfl, hp, rfl, hk, g2, hb, by show s.height < 41; omega, fun M3 x y L3 hx hy => ?_⟩
  obtain ⟨p1, p2, p3, p4⟩ := cutSh_ok (s := s) (n := k) hb g2 hk
  have q1 := o_small p1 (by omega)
  have q2 := o_small p2 (by omega)
  simp
  simp only [bx_cut_shape_1]
  simp
  refine shape_o hx (by omega) ?_
  simp
  refine shape_o hy (by omega) ?_
  simp [l2]
  exact Fg.same (h1 s k rfl hb rfl hk M3 ((L1.trans L2).trans L3))
/-! the law's judging -/
noncomputable def szT (d : Tr) : Tr := match shO d with
  | some s => if s.bal = true then .tup [.int s.width, .int s.height] else .non
  | none => .non
theorem szT_sh {s : Sh} (h : s.bal = true) : szT (shT s) = .tup [.int s.width, .int s.height] := by
  unfold szT; rw [shO_sh]; exact if_pos h
theorem szT_cases (d : Tr) : (szT d = .non ∧ ∀ s, shO d = some s → s.bal = false) ∨ ∃ s, shO d = some s ∧ s.bal = true ∧ szT d = .tup [.int s.width, .int s.height] := by
  cases e : shO d with
  | none => exact .inl ⟨by unfold szT; rw [e], fun s h => by cases h⟩
  | some s =>
    cases hb : s.bal with
    | true => exact .inr ⟨s, rfl, hb, by unfold szT; rw [e]; exact if_pos hb⟩
    | false => exact .inl ⟨by unfold szT; rw [e]; exact if_neg (by rw [hb]; decide), fun s' h => by cases h; exact hb⟩
abbrev mx__law_sizes : Nat := 41
def sp__law_sizes (rn : Nat) : Sp2 := A1 fun a M Q _ => Wf M a ∧ hT a < rn ∧ Q (szT a) M
theorem zero__law_sizes : ∀ ds M Q E, ¬ sp__law_sizes 0 ds M Q E := by
  rintro ds M Q E ⟨a, rfl, _, h, _⟩
  omega
def n__law_sizes : List Str := "shape" :: "one" :: "other" :: []
def b__law_sizes_1 (rn : Nat) : TS2 := (sRt (eTup (aCons (eOp rAdd2 (eOp rIx2 (eVar 1) (eC (.int 0))) (eOp rIx2 (eVar 2) (eC (.int 0)))) (aCons (eOp rAdd2 (eC (.int 1)) (eB rMax2 (aCons (eOp rIx2 (eVar 1) (eC (.int 1))) (aCons (eOp rIx2 (eVar 2) (eC (.int 1))) aNil)))) aNil))))
def b__law_sizes_2 (rn : Nat) : TS2 := (sSq (sIf (tOrr (tCm (eOp (rIsG id) (eVar 1) (eC .non))) (tOrr (tCm (eOp (rIsG id) (eVar 2) (eC .non))) (tCm (eOp rGtI (eB rAbs2 (aCons (eOp rSub2 (eOp rIx2 (eVar 1) (eC (.int 1))) (eOp rIx2 (eVar 2) (eC (.int 1)))) aNil)) (eC (.int 1)))))) (sRt (eC .non)) sNx)
  (b__law_sizes_1 rn))
def b__law_sizes_3 (rn : Nat) : TS2 := (sSq (sPr 1 2 (aCons (eCall (sp__law_sizes rn) [] (aCons (eOp rIx2 (eVar 0) (eC (.int 0))) aNil)) (aCons (eCall (sp__law_sizes rn) [] (aCons (eOp rIx2 (eVar 0) (eC (.int 1))) aNil)) aNil)))
  (b__law_sizes_2 rn))
def b__law_sizes_4 (rn : Nat) : TS2 := (sSq (sIf (tOrr (tNo (tTr (eB rIsi2 (aCons (eVar 0) (aCons (eC (.ty "tuple")) aNil))))) (tCm (eOp (rEqG not) (eB rLen2 (aCons (eVar 0) aNil)) (eC (.int 2))))) (sRt (eC .non)) sNx)
  (b__law_sizes_3 rn))
def b__law_sizes (rn : Nat) : TS2 := (sSq (sIf (tCm (eOp (rIsG id) (eVar 0) (eC .non))) (sRt (eTup (aCons (eC (.int 1)) (aCons (eC (.int 0)) aNil)))) sNx)
  (b__law_sizes_4 rn))
theorem sem__law_sizes : ∀ (rn : Nat) ds M Q E, sp__law_sizes (rn + 1) ds M Q E → b__law_sizes rn (fEnds Q E) (start2 n__law_sizes ds) M := by
  rintro rn ds M Q E ⟨d, rfl, hw, hn, hq⟩
  have l2 : 2 ≤ sizeLine := by rw [sizeLine_eq]; decide
  simp only [b__law_sizes, start2, n__law_sizes]
  cases hw with
  | leaf _ s hs hz hnt =>
    by_cases c : d = .non
    · subst c
      have e : szT .non = .tup [.int 1, .int 0] := szT_sh (s := .leaf) rfl
      rw [e] at hq
      simp [l2]
      exact Fg.same hq
    · have e : szT d = .non := by
        unfold szT
        rw [shO_odd c fun a b e => by subst e; exact hnt (Option.some.inj hs).symm]
      rw [e] at hq
      have kb : kitB s "tuple" = some false := by
        rcases tyT_mem hs with h | h | h | h | h | h | h <;> subst h <;> first | rfl | exact absurd rfl hnt
      have hnn : isNon d = false := by
        cases d <;> first | rfl | exact absurd rfl c
      simp [hnn]
      simp only [b__law_sizes_4]
      simp
      simp [↓kY_of hs kb]
      exact Fg.same hq
  | tup l hl hll =>
    simp
    simp only [b__law_sizes_4]
    simp
    simp [↓kY_tup]
    by_cases c2 : l.length = 2
    · obtain ⟨a, b, rfl⟩ : ∃ a b, l = [a, b] := by
        match l, c2 with
        | [a, b], _ => exact ⟨a, b, rfl⟩
      have hn : max (hT a) (max (hT b) 0) + 1 < rn + 1 := hn
      simp
      simp only [b__law_sizes_3]
      simp
      refine ⟨_, rfl, hl a (by simp), by omega, ?_⟩
      simp
      refine ⟨_, rfl, hl b (by simp), by omega, ?_⟩
      simp
      simp only [b__law_sizes_2]
      rcases szT_cases a with ⟨ea, na⟩ | ⟨x, ea, xb, ex⟩
      · have e : szT (.tup [a, b]) = .non := by
          unfold szT
          rw [shO_pair]
          cases sa : shO a with
          | none => rfl
          | some x =>
            cases sb : shO b with
            | none => rfl
            | some y =>
              refine if_neg fun h => ?_
              have := (bal_pair.mp h).1
              rw [na x sa] at this
              cases this
        rw [e] at hq
        rw [ea]
        simp
        exact Fg.same hq
      · rcases szT_cases b with ⟨eb, nb⟩ | ⟨y, eb, yb, ey⟩
        · have e : szT (.tup [a, b]) = .non := by
            unfold szT
            rw [shO_pair, ea]
            cases sb : shO b with
            | none => rfl
            | some y =>
              refine if_neg fun h => ?_
              have := (bal_pair.mp h).2.1
              rw [nb y sb] at this
              cases this
          rw [e] at hq
          rw [eb, ex]
          simp
          exact Fg.same hq
        · rw [ex, ey]
          simp
          by_cases c : x.height ≤ y.height + 1 ∧ y.height ≤ x.height + 1
          · have e : szT (.tup [a, b]) = .tup [.int (Sh.pair x y).width, .int (Sh.pair x y).height] := by
              unfold szT
              rw [shO_pair, ea, eb]
              exact if_pos (bal_pair.mpr ⟨xb, yb, c.1, c.2⟩)
            rw [e, wp, hp] at hq
            rw [if_neg (by omega)]
            simp only [b__law_sizes_1]
            simp [l2]
            have e1 : (x.width : Int) + (y.width : Int) = ((x.width + y.width : Nat) : Int) := by omega
            have e2 : (1 : Int) + (if x.height < y.height then (y.height : Int) else (x.height : Int)) = ((1 + max x.height y.height : Nat) : Int) := by split <;> omega
            rw [e1, e2]
            exact Fg.same hq
          · have e : szT (.tup [a, b]) = .non := by
              unfold szT
              rw [shO_pair, ea, eb]
              exact if_neg fun h => c ⟨(bal_pair.mp h).2.2.1, (bal_pair.mp h).2.2.2⟩
            rw [e] at hq
            rw [if_pos (by omega)]
            exact Fg.same hq
    · have e : szT (.tup l) = .non := by
        unfold szT
        rw [shO_odd (fun e => by cases e) fun a b e => c2 (by cases e; rfl)]
      rw [e] at hq
      have c3 : ¬ ((l.length : Int) = 2) := by omega
      simp [c3]
      exact Fg.same hq
abbrev mx__law_is_shape : Nat := 41
def sp__law_is_shape (rn : Nat) : Sp2 := A1 fun a M Q _ => Wf M a ∧ hT a < rn ∧ Q (.bl (shO a).isSome) M
theorem zero__law_is_shape : ∀ ds M Q E, ¬ sp__law_is_shape 0 ds M Q E := by
  rintro ds M Q E ⟨a, rfl, _, h, _⟩
  omega
def n__law_is_shape : List Str := "thing" :: []
def b__law_is_shape_1 (rn : Nat) : TS2 := (sRt (eAn (eCall (sp__law_is_shape rn) [] (aCons (eOp rIx2 (eVar 0) (eC (.int 0))) aNil)) (eCall (sp__law_is_shape rn) [] (aCons (eOp rIx2 (eVar 0) (eC (.int 1))) aNil))))
def b__law_is_shape_2 (rn : Nat) : TS2 := (sSq (sIf (tOrr (tNo (tTr (eB rIsi2 (aCons (eVar 0) (aCons (eC (.ty "tuple")) aNil))))) (tCm (eOp (rEqG not) (eB rLen2 (aCons (eVar 0) aNil)) (eC (.int 2))))) (sRt (eC (.bl false))) sNx)
  (b__law_is_shape_1 rn))
def b__law_is_shape (rn : Nat) : TS2 := (sSq (sIf (tCm (eOp (rIsG id) (eVar 0) (eC .non))) (sRt (eC (.bl true))) sNx)
  (b__law_is_shape_2 rn))
theorem sem__law_is_shape : ∀ (rn : Nat) ds M Q E, sp__law_is_shape (rn + 1) ds M Q E → b__law_is_shape rn (fEnds Q E) (start2 n__law_is_shape ds) M := by
  rintro rn ds M Q E ⟨d, rfl, hw, hn, hq⟩
  simp only [b__law_is_shape, start2, n__law_is_shape]
  cases hw with
  | leaf _ s hs hz hnt =>
    by_cases c : d = .non
    · subst c
      rw [shO_non] at hq
      simp
      exact Fg.same hq
    · rw [shO_odd c fun a b e => by subst e; exact hnt (Option.some.inj hs).symm] at hq
      have kb : kitB s "tuple" = some false := by
        rcases tyT_mem hs with h | h | h | h | h | h | h <;> subst h <;> first | rfl | exact absurd rfl hnt
      have hnn : isNon d = false := by
        cases d <;> first | rfl | exact absurd rfl c
      simp [hnn]
      simp only [b__law_is_shape_2]
      simp
      simp [↓kY_of hs kb]
      exact Fg.same hq
  | tup l hl hll =>
    simp
    simp only [b__law_is_shape_2]
    simp
    simp [↓kY_tup]
    by_cases c2 : l.length = 2
    · obtain ⟨a, b, rfl⟩ : ∃ a b, l = [a, b] := by
        match l, c2 with
        | [a, b], _ => exact ⟨a, b, rfl⟩
      have hn : max (hT a) (max (hT b) 0) + 1 < rn + 1 := hn
      rw [shO_pair] at hq
      simp
      simp only [b__law_is_shape_1]
      simp
      refine ⟨_, rfl, hl a (by simp), by omega, ?_⟩
      cases sa : shO a with
      | none =>
        rw [sa] at hq
        simp
        exact Fg.same hq
      | some x =>
        simp
        refine ⟨_, rfl, hl b (by simp), by omega, ?_⟩
        rw [sa] at hq
        cases sb : shO b with
        | none => rw [sb] at hq; exact Fg.same hq
        | some y => rw [sb] at hq; exact Fg.same hq
    · rw [shO_odd (fun e => by cases e) fun a b e => c2 (by cases e; rfl)] at hq
      have c3 : ¬ ((l.length : Int) = 2) := by omega
      simp [c3]
      exact Fg.same hq
/-- the error that a thing raises, or "" -/
noncomputable def trb (d : Tr) : Str := match shO d with
  | some s => if s.bal = true then "" else "BadBalance"
  | none => "BadShape"
def sp__law_trouble : Sp2 := A1 fun a M Q _ => Wf M a ∧ hT a ≤ 40 ∧ Q (.str (trb a)) M
def n__law_trouble : List Str := "thing" :: []
def b__law_trouble_1 : TS2 := (sRt (eIf (tCm (eOp (rIsG id) (eCall (sp__law_sizes mx__law_sizes) [] (aCons (eVar 0) aNil)) (eC .non))) (eC (.str "BadBalance")) (eC (.str ""))))
def b__law_trouble : TS2 := (sSq (sIf (tNo (tTr (eCall (sp__law_is_shape mx__law_is_shape) [] (aCons (eVar 0) aNil)))) (sRt (eC (.str "BadShape"))) sNx)
  b__law_trouble_1)
theorem sem__law_trouble : ∀ ds M Q E, sp__law_trouble ds M Q E → b__law_trouble (fEnds Q E) (start2 n__law_trouble ds) M := by
  rintro ds M Q E ⟨a, rfl, hw, hn, hq⟩
  simp only [b__law_trouble, start2, n__law_trouble]
  simp
  refine ⟨_, rfl, hw, by show hT a < 41; omega, ?_⟩
  unfold trb at hq
  cases sa : shO a with
  | none =>
    rw [sa] at hq
    simp
    exact Fg.same hq
  | some x =>
    rw [sa] at hq
    simp
    simp only [b__law_trouble_1]
    simp
    refine ⟨_, rfl, hw, by show hT a < 41; omega, ?_⟩
    unfold szT
    rw [sa]
    cases hb : x.bal with
    | true =>
      simp [hb] at hq
      simp [hb]
      exact Fg.same hq
    | false =>
      simp [hb] at hq
      simp [hb]
      exact Fg.same hq
end T

/-! J: shapes joined, a child put, a child taken. -/
namespace T
open PySem PySem.Spec PyProof.Rows L2
open Sh
abbrev mx_row_with : Nat := 41
def sp_row_with (rn : Nat) : Sp2 := A4 fun x l n ch M Q _ => ∃ bd c, x = .loc bd ∧ BuildAt M bd ∧ ch = .loc c ∧ StemAt M .leaf c ∧
  ((l = .non ∧ 1 ≤ rn ∧ Q (.loc c) M) ∨ ∃ b s k, l = .loc b ∧ StemAt M s b ∧ n = .int (k : Nat) ∧ s.bal = true ∧ s.height < rn ∧ ∀ M' a, Le M M' → StemAt M' (withS s k) a → Q (.loc a) M')
theorem zero_row_with : ∀ ds M Q E, ¬ sp_row_with 0 ds M Q E := by
  rintro ds M Q E ⟨_, _, _, _, rfl, _, _, _, _, _, _, ⟨_, h, _⟩ | ⟨_, _, _, _, _, _, _, h, _⟩⟩ <;> omega
def n_row_with : List Str := "builder" :: "tree" :: "place" :: "child" :: "left" :: "right" :: []
def b_row_with_1 (rn : Nat) : TS2 := (sRt (eIf (tCm (eOp (rEqG id) (eVar 2) (eC (.int 0)))) (eMeth "Builder" "pair" sp_Builder_pair (eVar 0) (aCons (eVar 3) (aCons (eVar 1) aNil))) (eMeth "Builder" "pair" sp_Builder_pair (eVar 0) (aCons (eVar 1) (aCons (eVar 3) aNil)))))
def b_row_with_2 (rn : Nat) : TS2 := (sRt (eCall sp_even_pair [] (aCons (eVar 0) (aCons (eCall (sp_row_with rn) [] (aCons (eVar 0) (aCons (eVar 4) (aCons (eVar 2) (aCons (eVar 3) aNil))))) (aCons (eVar 5) aNil)))))
def b_row_with_3 (rn : Nat) : TS2 := (sRt (eCall sp_even_pair [] (aCons (eVar 0) (aCons (eVar 4) (aCons (eCall (sp_row_with rn) [] (aCons (eVar 0) (aCons (eVar 5) (aCons (eOp rSub2 (eVar 2) (eFld "Stem" "width" (eVar 4))) (aCons (eVar 3) aNil))))) aNil)))))
def b_row_with_4 (rn : Nat) : TS2 := (sSq (sIf (tCm (eOp rLeI (eVar 2) (eFld "Stem" "width" (eVar 4)))) (b_row_with_2 rn) sNx)
  (b_row_with_3 rn))
def b_row_with_5 (rn : Nat) : TS2 := (sSq (sAs (eMeth "Builder" "sides" sp_Builder_sides (eVar 0) (aCons (eVar 1) aNil)) (gT 2 (gCo (gN 4) (gCo (gN 5) gNil2))))
  (b_row_with_4 rn))
def b_row_with_6 (rn : Nat) : TS2 := (sSq (sIf (tCm (eOp (rEqG id) (eFld "Stem" "height" (eVar 1)) (eC (.int 0)))) (b_row_with_1 rn) sNx)
  (b_row_with_5 rn))
def b_row_with (rn : Nat) : TS2 := (sSq (sIf (tCm (eOp (rIsG id) (eVar 1) (eC .non))) (sRt (eVar 3)) sNx)
  (b_row_with_6 rn))
theorem sem_row_with : ∀ (rn : Nat) ds M Q E, sp_row_with (rn + 1) ds M Q E → b_row_with rn (fEnds Q E) (start2 n_row_with ds) M := by
  rintro rn ds M Q E ⟨x, l, n, ch, rfl, bd, c, rfl, hb, rfl, hc, h⟩
  simp only [b_row_with, start2, n_row_with]
  rcases h with ⟨rfl, _, hq⟩ | ⟨b, s, k, rfl, hs, rfl, bs, hn, hq⟩
  · simp
    exact Fg.same hq
  · obtain ⟨_, _, e1⟩ := hs.at_
    simp
    simp only [b_row_with_6]
    simp [↓stem_h e1]
    cases s with
    | leaf =>
      have e0 : Sh.leaf.height = 0 := rfl
      simp [e0]
      simp only [b_row_with_1]
      simp
      have hq : ∀ M' a, Le M M' → StemAt M' (.pair .leaf .leaf) a → Q (.loc a) M' := hq
      by_cases c0 : k = 0
      · simp [c0]
        exact ⟨hb.m _, _, _, _, rfl, c, b, _, _, rfl, rfl, hc, hs, fun M1 a L1 ha => Fg.same (hq M1 a L1 ha)⟩
      · simp [c0]
        exact ⟨hb.m _, _, _, _, rfl, b, c, _, _, rfl, rfl, hs, hc, fun M1 a L1 ha => Fg.same (hq M1 a L1 ha)⟩
    | pair u v =>
      obtain ⟨a1, a2, a3, a4⟩ := bal_pair.mp bs
      have hw : withS (.pair u v) k = if k ≤ u.width then evenP (withS u k) v else evenP u (withS v (k - u.width)) := rfl
      rw [hw] at hq
      rw [hp] at hn
      have c0 : ¬ (1 + max u.height v.height = 0) := by omega
      have c1 : ¬ ((1 : Int) + (max u.height v.height : Nat) = 0) := by omega
      rw [hp]
      simp [c0, c1]
      simp only [b_row_with_5]
      simp
      refine ⟨hb.m _, _, _, rfl, b, u, v, rfl, hs, fun uc vc hu hv => ?_⟩
      obtain ⟨_, _, e3⟩ := hu.at_
      simp
      simp only [b_row_with_4]
      simp [↓stem_w e3]
      by_cases c2 : k ≤ u.width
      · rw [if_pos (by omega)]
        rw [if_pos c2] at hq
        obtain ⟨w1, w2, w3, w4⟩ := withS_ok (s := u) (n := k) a1
        simp only [b_row_with_2]
        simp
        refine ⟨_, _, _, _, rfl, bd, c, rfl, hb, rfl, hc, .inr ⟨uc, u, k, rfl, hu, rfl, a1, by omega, fun M1 a L1 ha => ?_⟩⟩
        simp
        exact ⟨_, _, _, rfl, bd, a, vc, _, v, rfl, L1 _ _ hb, rfl, rfl, ha, hv.le L1, by omega, by omega, fun M2 a2 L2 h2 => Fg.same (hq M2 a2 (L1.trans L2) h2)⟩
      · rw [if_neg (by omega)]
        rw [if_neg c2] at hq
        obtain ⟨w1, w2, w3, w4⟩ := withS_ok (s := v) (n := k - u.width) a2
        simp only [b_row_with_3]
        simp [↓stem_w e3]
        have ek : (k : Int) - (u.width : Int) = ((k - u.width : Nat) : Int) := by omega
        refine ⟨_, _, _, _, rfl, bd, c, rfl, hb, rfl, hc, .inr ⟨vc, v, k - u.width, rfl, hv, congrArg Tr.int ek, a2, by omega, fun M1 a L1 ha => ?_⟩⟩
        simp
        exact ⟨_, _, _, rfl, bd, uc, a, u, _, rfl, L1 _ _ hb, rfl, rfl, hu.le L1, ha, by omega, by omega, fun M2 a2 L2 h2 => Fg.same (hq M2 a2 (L1.trans L2) h2)⟩
abbrev mx_row_without : Nat := 41
def sp_row_without (rn : Nat) : Sp2 := A3 fun x l n M Q _ => ∃ bd b s k, x = .loc bd ∧ BuildAt M bd ∧ l = .loc b ∧ StemAt M s b ∧ n = .int (k : Nat) ∧ k < s.width ∧ s.bal = true ∧ s.height < rn ∧ ∀ M' a, Le M M' → StemO M' (lessS s k) a → Q a M'
theorem zero_row_without : ∀ ds M Q E, ¬ sp_row_without 0 ds M Q E := by
  rintro ds M Q E ⟨_, _, _, rfl, _, _, _, _, _, _, _, _, _, _, _, h, _⟩
  omega
def n_row_without : List Str := "builder" :: "tree" :: "place" :: "left" :: "right" :: "less" :: []
def b_row_without_1 (rn : Nat) : TS2 := (sRt (eIf (tCm (eOp (rIsG id) (eVar 5) (eC .non))) (eVar 4) (eCall sp_even_pair [] (aCons (eVar 0) (aCons (eVar 5) (aCons (eVar 4) aNil))))))
def b_row_without_2 (rn : Nat) : TS2 := (sSq (sAs (eCall (sp_row_without rn) [] (aCons (eVar 0) (aCons (eVar 3) (aCons (eVar 2) aNil)))) (gN 5))
  (b_row_without_1 rn))
def b_row_without_3 (rn : Nat) : TS2 := (sRt (eIf (tCm (eOp (rIsG id) (eVar 5) (eC .non))) (eVar 3) (eCall sp_even_pair [] (aCons (eVar 0) (aCons (eVar 3) (aCons (eVar 5) aNil))))))
def b_row_without_4 (rn : Nat) : TS2 := (sSq (sAs (eCall (sp_row_without rn) [] (aCons (eVar 0) (aCons (eVar 4) (aCons (eOp rSub2 (eVar 2) (eFld "Stem" "width" (eVar 3))) aNil)))) (gN 5))
  (b_row_without_3 rn))
def b_row_without_5 (rn : Nat) : TS2 := (sSq (sIf (tCm (eOp rLtI (eVar 2) (eFld "Stem" "width" (eVar 3)))) (b_row_without_2 rn) sNx)
  (b_row_without_4 rn))
def b_row_without_6 (rn : Nat) : TS2 := (sSq (sAs (eMeth "Builder" "sides" sp_Builder_sides (eVar 0) (aCons (eVar 1) aNil)) (gT 2 (gCo (gN 3) (gCo (gN 4) gNil2))))
  (b_row_without_5 rn))
def b_row_without (rn : Nat) : TS2 := (sSq (sIf (tCm (eOp (rEqG id) (eFld "Stem" "height" (eVar 1)) (eC (.int 0)))) (sRt (eC .non)) sNx)
  (b_row_without_6 rn))
theorem sem_row_without : ∀ (rn : Nat) ds M Q E, sp_row_without (rn + 1) ds M Q E → b_row_without rn (fEnds Q E) (start2 n_row_without ds) M := by
  rintro rn ds M Q E ⟨x, l, n, rfl, bd, b, s, k, rfl, hb, rfl, hs, rfl, hk, bs, hn, hq⟩
  obtain ⟨_, _, e1⟩ := hs.at_
  simp only [b_row_without, start2, n_row_without]
  simp [↓stem_h e1]
  cases s with
  | leaf =>
    have e0 : Sh.leaf.height = 0 := rfl
    simp [e0]
    exact Fg.same (hq M _ Le.refl rfl)
  | pair u v =>
    obtain ⟨a1, a2, a3, a4⟩ := bal_pair.mp bs
    have hw : lessS (.pair u v) k = if k < u.width then (match lessS u k with | none => some v | some x => some (evenP x v)) else (match lessS v (k - u.width) with | none => some u | some x => some (evenP u x)) := rfl
    rw [hw] at hq
    rw [hp] at hn
    rw [wp] at hk
    have c0 : ¬ (1 + max u.height v.height = 0) := by omega
    have c1 : ¬ ((1 : Int) + (max u.height v.height : Nat) = 0) := by omega
    rw [hp]
    simp [c0, c1]
    simp only [b_row_without_6]
    simp
    refine ⟨hb.m _, _, _, rfl, b, u, v, rfl, hs, fun uc vc hu hv => ?_⟩
    obtain ⟨_, _, e3⟩ := hu.at_
    simp
    simp only [b_row_without_5]
    simp [↓stem_w e3]
    by_cases c2 : k < u.width
    · rw [if_pos (by omega)]
      rw [if_pos c2] at hq
      obtain ⟨w1, w2, w3, w4⟩ := lessS_ok (s := u) (n := k) a1 c2
      simp only [b_row_without_2]
      simp
      refine ⟨_, _, _, rfl, bd, uc, u, k, rfl, hb, rfl, hu, rfl, c2, a1, by omega, fun M1 a L1 ha => ?_⟩
      simp
      simp only [b_row_without_1]
      simp
      cases e : lessS u k with
      | none =>
        rw [e] at ha hq
        have ha : a = .non := ha
        subst ha
        simp
        exact Fg.same (hq M1 _ L1 ⟨vc, rfl, hv.le L1⟩)
      | some x =>
        rw [e] at ha hq w1
        obtain ⟨xa, rfl, hx⟩ := ha
        obtain ⟨w5, w6⟩ := w4 x e
        simp
        exact ⟨_, _, _, rfl, bd, xa, vc, x, v, rfl, L1 _ _ hb, rfl, rfl, hx, hv.le L1, by omega, by omega, fun M2 a2 L2 h2 => Fg.same (hq M2 _ (L1.trans L2) ⟨a2, rfl, h2⟩)⟩
    · rw [if_neg (by omega)]
      rw [if_neg c2] at hq
      obtain ⟨w1, w2, w3, w4⟩ := lessS_ok (s := v) (n := k - u.width) a2 (by omega)
      simp only [b_row_without_4]
      simp [↓stem_w e3]
      have ek : (k : Int) - (u.width : Int) = ((k - u.width : Nat) : Int) := by omega
      refine ⟨_, _, _, rfl, bd, vc, v, k - u.width, rfl, hb, rfl, hv, congrArg Tr.int ek, by omega, a2, by omega, fun M1 a L1 ha => ?_⟩
      simp
      simp only [b_row_without_3]
      simp
      cases e : lessS v (k - u.width) with
      | none =>
        rw [e] at ha hq
        have ha : a = .non := ha
        subst ha
        simp
        exact Fg.same (hq M1 _ L1 ⟨uc, rfl, hu.le L1⟩)
      | some x =>
        rw [e] at ha hq w1
        obtain ⟨xa, rfl, hx⟩ := ha
        obtain ⟨w5, w6⟩ := w4 x e
        simp
        exact ⟨_, _, _, rfl, bd, uc, xa, u, x, rfl, L1 _ _ hb, rfl, rfl, hu.le L1, hx, by omega, by omega, fun M2 a2 L2 h2 => Fg.same (hq M2 _ (L1.trans L2) ⟨a2, rfl, h2⟩)⟩
def sp_is_shape : Sp2 := A1 fun a M Q _ => ShOk M a ∧ Q (.bl (shO a).isSome) M
def n_is_shape : List Str := "thing" :: []
def b_is_shape : TS2 := (sRt (eOp rGtI (eCall (sp_width_in mx_width_in) [] (aCons (eVar 0) (aCons (eC (.int 40)) aNil))) (eC (.int 0))))
theorem sem_is_shape : ∀ ds M Q E, sp_is_shape ds M Q E → b_is_shape (fEnds Q E) (start2 n_is_shape ds) M := by
  rintro ds M Q E ⟨a, rfl, ⟨hw, hs⟩, hq⟩
  simp only [b_is_shape, start2, n_is_shape]
  simp
  refine ⟨_, _, rfl, 40, rfl, hw, by decide, ?_⟩
  cases e : shO a with
  | none =>
    have e2 : widT 40 a = 0 := by
      by_cases e2 : widT 40 a = 0
      · exact e2
      · obtain ⟨s, es⟩ := widT_no e2
        exact absurd es (shO_no.mp e s)
    rw [e] at hq
    rw [e2]
    simp
    exact Fg.same hq
  | some s =>
    have es := shO_eq.mp e
    subst es
    rw [e] at hq
    have p := Sh.width_pos s
    rw [widT_sh (hs s rfl).1 (hs s rfl).2]
    have p2 : 0 < s.width := by omega
    simp [p2]
    exact Fg.same hq
def spx_joined_shapes (cn : Cn) : Sp2 := A2 fun a b M Q E => ShOk M a ∧ ShOk M b ∧
  (∀ s t, a = shT s → b = shT t → s.bal = true → t.bal = true → s.width + t.width ≤ 20000 → ∀ M', Le M M' → Q (shT (joinS s t)) M') ∧
  (∀ s t, a = shT s → b = shT t → s.bal = true → t.bal = true → 20000 < s.width + t.width → E (cn.cl "BadBalance") none M) ∧
  (∀ s t, a = shT s → b = shT t → s.bal = true → t.bal = false → E (cn.cl "BadBalance") none M) ∧
  (∀ s, a = shT s → s.bal = true → (∀ t, b ≠ shT t) → E (cn.cl "BadShape") none M) ∧
  (∀ s, a = shT s → s.bal = false → E (cn.cl "BadBalance") none M) ∧ ((∀ s, a ≠ shT s) → E (cn.cl "BadShape") none M)
def n_joined_shapes : List Str := "shape" :: "other" :: "width" :: []
def bx_joined_shapes_1 (cn : Cn) : TS2 := (sRt (eCall (sp_shape_of mx_shape_of) [] (aCons (eCall (sp_row_joined mx_row_joined) [] (aCons (eMake0 "Builder") (aCons (eCall (sp_stem_of mx_stem_of) [] (aCons (eVar 0) aNil)) (aCons (eCall (sp_stem_of mx_stem_of) [] (aCons (eVar 1) aNil)) aNil)))) aNil)))
def bx_joined_shapes_2 (cn : Cn) : TS2 := (sSq (sIf (tCm (eOp rGtI (eOp rAdd2 (eVar 2) (eCall (spx_need_balanced cn) [] (aCons (eVar 1) aNil))) (eC (.int 20000)))) (sRaise (cn.cl "BadBalance")) sNx)
  (bx_joined_shapes_1 cn))
def bx_joined_shapes (cn : Cn) : TS2 := (sSq (sAs (eCall (spx_need_balanced cn) [] (aCons (eVar 0) aNil)) (gN 2))
  (bx_joined_shapes_2 cn))
theorem semx_joined_shapes (cn : Cn) : ∀ ds M Q E, spx_joined_shapes cn ds M Q E → bx_joined_shapes cn (fEnds Q E) (start2 n_joined_shapes ds) M := by
  rintro ds M Q E ⟨a, b, rfl, ha, hb, h1, h2, h3, h4, h5, h6⟩
  simp only [bx_joined_shapes, start2, n_joined_shapes]
  simp
  refine ⟨_, rfl, ha, fun s e bs => ?_, fun s e bs => FgX.same (h5 s e bs), fun h => FgX.same (h6 h)⟩
  subst e
  obtain ⟨g1, g2⟩ := ha.2 s rfl
  simp
  simp only [bx_joined_shapes_2]
  simp
  refine ⟨_, rfl, hb, fun t e bt => ?_, fun t e bt => FgX.same (h3 s t rfl e bs bt), fun h => FgX.same (h4 s rfl bs h)⟩
  subst e
  obtain ⟨g3, g4⟩ := hb.2 t rfl
  have s20 := bal_small bs g2
  have t20 := bal_small bt g4
  simp
  by_cases c : 20000 < s.width + t.width
  · rw [if_pos (by omega)]
    exact FgX.same (h2 s t rfl rfl bs bt c)
  · rw [if_neg (by omega)]
    simp only [bx_joined_shapes_1]
    simp
    intro bd hbd
    have L1 : Le M (up M bd (.ino "Builder" [])) := Le.new hbd
    have eb : BuildAt (up M bd (.ino "Builder" [])) bd := up_same
    generalize up M bd (.ino "Builder" []) = M1 at L1 eb
    try simp
    refine ⟨_, rfl, s, rfl, by show s.height < 41; omega, fun M2 p L2 hp2 => ?_⟩
    simp
    refine ⟨_, rfl, t, rfl, by show t.height < 41; omega, fun M3 q L3 hq3 => ?_⟩
    simp
    refine ⟨_, _, _, rfl, bd, some s, some t, rfl, (L2.trans L3) _ _ eb, ⟨p, rfl, hp2.le L3⟩, ⟨q, rfl, hq3⟩, bs, bt, by show s.height ≤ 40; omega, by show t.height ≤ 40; omega, by show max s.height t.height < 41; omega, fun M4 x L4 hx => ?_⟩
    obtain ⟨j1, j2, j3, j4⟩ := joinS_ok (l := s) (r := t) (by omega) (by omega) bs bt
    refine shape_o hx (by show (joinS s t).height ≤ 40; omega) ?_
    exact Fg.same (h1 s t rfl rfl bs bt (by omega) M4 (((L1.trans L2).trans L3).trans L4))
def withO : Option Sh → Nat → Sh
  | none, _ => .leaf
  | some s, k => withS s k
def spx_put_shape (cn : Cn) : Sp2 := A2 fun a n M Q _ => ∃ (o : Option Sh) (k : Nat), a = oShT o ∧ obal o = true ∧ owid o < 20000 ∧ n = .int k ∧ k ≤ owid o ∧ ∀ M', Le M M' → Q (shT (withO o k)) M'
def n_put_shape : List Str := "shape" :: "place" :: "width" :: "tree" :: []
def bx_put_shape_1 (cn : Cn) : TS2 := (sRt (eCall (sp_shape_of mx_shape_of) [] (aCons (eCall (sp_row_with mx_row_with) [] (aCons (eMake0 "Builder") (aCons (eVar 3) (aCons (eVar 1) (aCons (eCall (sp_stem_of mx_stem_of) [] (aCons (eC .non) aNil)) aNil))))) aNil)))
def bx_put_shape_2 (cn : Cn) : TS2 := (sSq (sAs (eIf (tCm (eOp (rEqG id) (eVar 0) (eTup aNil))) (eC .non) (eCall (sp_stem_of mx_stem_of) [] (aCons (eVar 0) aNil))) (gN 3))
  (bx_put_shape_1 cn))
def bx_put_shape_3 (cn : Cn) : TS2 := (sSq (sDr (eCall (spx_need_count cn) [] (aCons (eVar 1) (aCons (eVar 2) aNil))))
  (bx_put_shape_2 cn))
def bx_put_shape_4 (cn : Cn) : TS2 := (sSq (sIf (tCm (eOp (rEqG id) (eVar 2) (eC (.int 20000)))) (sRaise (cn.cl "BadBalance")) sNx)
  (bx_put_shape_3 cn))
def bx_put_shape (cn : Cn) : TS2 := (sSq (sAs (eIf (tCm (eOp (rEqG id) (eVar 0) (eTup aNil))) (eC (.int 0)) (eCall (spx_need_balanced cn) [] (aCons (eVar 0) aNil))) (gN 2))
  (bx_put_shape_4 cn))
theorem shok_b {M : Ms} {s : Sh} (hb : s.bal = true) (hw : s.width ≤ 20000) : ShOk M (shT s) := ⟨wf_sh s, fun t e => by
  have := shT_inj.mp e
  subst this
  have := bal_small hb hw
  exact ⟨by omega, hw⟩⟩
theorem semx_put_shape (cn : Cn) : ∀ ds M Q E, spx_put_shape cn ds M Q E → bx_put_shape cn (fEnds Q E) (start2 n_put_shape ds) M := by
  rintro ds M Q E ⟨a, n, rfl, o, k, rfl, hb, hw, rfl, hk, hq⟩
  have shE : ∀ (s : Sh) {f : Bool → Bool} {M : Ms} {Q : Q2}, s.height ≤ 40 → Q (.bl (f false)) M → rEqG f (shT s) (.tup []) M Q := fun s f M Q hs h => by
    obtain ⟨n1, n2⟩ := shT_nb s
    cases s with
    | leaf => exact eqS_pure (a := .non) (b := .tup []) (fx := .mk) false rfl rfl (by decide) (by decide) (by simp) h
    | pair l r => exact rEq_tup _ _ false rfl rfl n1 rfl (by rw [hT_ok]; omega) (by decide) (by simp [shT]) h
  have rest3 : ∀ (D : Ends2) (w : Nat), D.rt = Fg Q → w = owid o → bx_put_shape_3 cn D [some (oShT o), some (.int k), some (.int w), none] M := by
    intro D w hD e
    simp only [bx_put_shape_3]
    simp
    refine ⟨_, _, rfl, "int", (w : Int), rfl, rfl, fun c => ?_, fun c => ?_⟩
    · simp
      simp only [bx_put_shape_2]
      have fin : ∀ (D : Ends2) M1 x, D.rt = Fg Q → Le M M1 → StemO M1 o x → bx_put_shape_1 cn D [some (oShT o), some (.int k), some (.int w), some x] M1 := by
        intro D M1 x hD L1 hx
        simp only [bx_put_shape_1]
        simp
        intro bd hbd
        have L2 : Le M1 (up M1 bd (.ino "Builder" [])) := Le.new hbd
        have eb : BuildAt (up M1 bd (.ino "Builder" [])) bd := up_same
        generalize up M1 bd (.ino "Builder" []) = M2 at L2 eb
        try simp
        refine ⟨_, rfl, .leaf, rfl, by decide, fun M3 c L3 hc => ?_⟩
        simp
        have hx3 := hx.le (L2.trans L3)
        refine ⟨_, _, _, _, rfl, bd, c, rfl, L3 _ _ eb, rfl, hc, ?_⟩
        cases o with
        | none =>
          have hx3 : x = .non := hx3
          subst hx3
          refine .inl ⟨rfl, by decide, ?_⟩
          simp
          refine shape_o (o := some .leaf) ⟨c, rfl, hc⟩ (by decide) ?_
          rw [hD]
          exact Fg.same (hq M3 ((L1.trans L2).trans L3))
        | some s =>
          obtain ⟨b, rfl, hs⟩ := hx3
          have hb : s.bal = true := hb
          have hw : s.width < 20000 := hw
          have s20 := bal_small hb (by omega)
          obtain ⟨w1, w2, w3, w4⟩ := withS_ok (s := s) (n := k) hb
          refine .inr ⟨b, s, k, rfl, hs, rfl, hb, by show s.height < 41; omega, fun M4 a L4 ha => ?_⟩
          simp
          refine shape_o (o := some (withS s k)) ⟨a, rfl, ha⟩ (by show (withS s k).height ≤ 40; omega) ?_
          rw [hD]
          exact Fg.same (hq M4 (((L1.trans L2).trans L3).trans L4))
      simp
      cases o with
      | none =>
        refine rEq_tup [] [] true rfl rfl rfl rfl (by decide) (by decide) (by simp [oShT]) ?_
        simp
        exact fin _ _ _ hD Le.refl rfl
      | some s =>
        have hb : s.bal = true := hb
        have hw : s.width < 20000 := hw
        have s20 := bal_small hb (by omega)
        refine shE s (by omega) ?_
        simp
        refine ⟨_, rfl, s, rfl, by show s.height < 41; omega, fun M2 p L2 hp2 => ?_⟩
        exact fin _ _ _ hD L2 ⟨p, rfl, hp2⟩
    · exfalso
      have c : decide (0 ≤ (k : Int) ∧ (k : Int) ≤ (w : Int)) = false := c
      rw [decide_eq_false_iff_not] at c
      omega
  have rest : ∀ (D : Ends2) (w : Nat), D.rt = Fg Q → w = owid o → bx_put_shape_4 cn D [some (oShT o), some (.int k), some (.int w), none] M := by
    intro D w hD e
    simp only [bx_put_shape_4]
    have c : ¬ (w = 20000) := by omega
    have c' : ¬ ((w : Int) = 20000) := by omega
    simp [c, c']
    exact rest3 { D with } w hD e
  simp only [bx_put_shape, start2, n_put_shape]
  simp
  cases o with
  | none =>
    refine rEq_tup [] [] true rfl rfl rfl rfl (by decide) (by decide) (by simp [oShT]) ?_
    simp
    exact rest _ 0 rfl rfl
  | some s =>
    have hb' : s.bal = true := hb
    have hw' : s.width < 20000 := hw
    have s20 := bal_small hb' (by omega)
    refine shE s (by omega) ?_
    simp
    refine ⟨_, rfl, shok_b hb' (by omega), fun t e bt => ?_, fun t e bt => ?_, fun h => absurd rfl (h s)⟩
    · have := shT_inj.mp e
      subst this
      exact rest _ s.width rfl rfl
    · have := shT_inj.mp e
      subst this
      rw [hb'] at bt; cases bt
def spx_taken_shape (cn : Cn) : Sp2 := A2 fun a n M Q _ => ∃ (s : Sh) (k : Nat), a = shT s ∧ s.bal = true ∧ s.width ≤ 20000 ∧ n = .int k ∧ k < s.width ∧ ∀ M', Le M M' → Q (oShT (lessS s k)) M'
def n_taken_shape : List Str := "shape" :: "place" :: []
def bx_taken_shape_1 (cn : Cn) : TS2 := (sRt (eCall (sp_shape_of mx_shape_of) [] (aCons (eCall (sp_row_without mx_row_without) [] (aCons (eMake0 "Builder") (aCons (eCall (sp_stem_of mx_stem_of) [] (aCons (eVar 0) aNil)) (aCons (eVar 1) aNil)))) aNil)))
def bx_taken_shape (cn : Cn) : TS2 := (sSq (sDr (eCall (spx_need_count cn) [] (aCons (eVar 1) (aCons (eOp rSub2 (eCall (spx_need_balanced cn) [] (aCons (eVar 0) aNil)) (eC (.int 1))) aNil))))
  (bx_taken_shape_1 cn))
theorem semx_taken_shape (cn : Cn) : ∀ ds M Q E, spx_taken_shape cn ds M Q E → bx_taken_shape cn (fEnds Q E) (start2 n_taken_shape ds) M := by
  rintro ds M Q E ⟨a, n, rfl, s, k, rfl, hb, hw, rfl, hk, hq⟩
  have s20 := bal_small hb hw
  simp only [bx_taken_shape, start2, n_taken_shape]
  simp
  refine ⟨_, rfl, shok_b hb hw, fun t e bt => ?_, fun t e bt => ?_, fun h => absurd rfl (h s)⟩
  · have := shT_inj.mp e
    subst this
    simp
    refine ⟨_, _, rfl, "int", (s.width : Int) - 1, rfl, rfl, fun c => ?_, fun c => ?_⟩
    · simp
      simp only [bx_taken_shape_1]
      simp
      intro bd hbd
      have L1 : Le M (up M bd (.ino "Builder" [])) := Le.new hbd
      have eb : BuildAt (up M bd (.ino "Builder" [])) bd := up_same
      generalize up M bd (.ino "Builder" []) = M1 at L1 eb
      simp
      refine ⟨_, rfl, s, rfl, by show s.height < 41; omega, fun M2 p L2 hp2 => ?_⟩
      simp
      refine ⟨_, _, _, rfl, bd, p, s, k, rfl, L2 _ _ eb, rfl, hp2, rfl, hk, hb, by show s.height < 41; omega, fun M3 x L3 hx => ?_⟩
      simp
      refine shape_o hx ?_ (Fg.same (hq M3 ((L1.trans L2).trans L3)))
      obtain ⟨w1, w2, w3, w4⟩ := lessS_ok (s := s) (n := k) hb hk
      cases e : lessS s k with
      | none => exact Nat.zero_le _
      | some x => have := w4 x e; show x.height ≤ 40; omega
    · exfalso
      have c : decide (0 ≤ (k : Int) ∧ (k : Int) ≤ (s.width : Int) - 1) = false := c
      rw [decide_eq_false_iff_not] at c
      omega
  · have := shT_inj.mp e
    subst this
    rw [hb] at bt; cases bt
end T

/-! H: even shapes. -/
namespace T
open PySem PySem.Spec PyProof.Rows L2
abbrev mx_even_row : Nat := 41
def sp_even_row (rn : Nat) : Sp2 := A4 fun x l b e M Q _ => ∃ (bd p : Addr) (ms : List Tr) (i j : Nat), x = .loc bd ∧ BuildAt M bd ∧ l = .loc p ∧ M p = some (.lst ms) ∧ (∀ k, i ≤ k → k < j → ∃ a, ms[k]? = some (.loc a) ∧ StemAt M .leaf a) ∧ b = .int i ∧ e = .int j ∧ i < j ∧ 1 ≤ rn ∧ j - i ≤ 2 ^ (rn - 1) ∧
  ∀ M' a, Le M M' → StemAt M' (evenS (j - i)) a → Q (.loc a) M'
theorem zero_even_row : ∀ ds M Q E, ¬ sp_even_row 0 ds M Q E := by
  rintro ds M Q E ⟨_, _, _, _, rfl, _, _, _, _, _, _, _, _, _, _, _, _, _, h, _⟩
  omega
def n_even_row : List Str := "builder" :: "members" :: "begin" :: "end" :: "middle" :: []
def b_even_row_1 (rn : Nat) : TS2 := (sRt (eMeth "Builder" "pair" sp_Builder_pair (eVar 0) (aCons (eCall (sp_even_row rn) [] (aCons (eVar 0) (aCons (eVar 1) (aCons (eVar 2) (aCons (eVar 4) aNil))))) (aCons (eCall (sp_even_row rn) [] (aCons (eVar 0) (aCons (eVar 1) (aCons (eVar 4) (aCons (eVar 3) aNil))))) aNil))))
def b_even_row_2 (rn : Nat) : TS2 := (sSq (sAs (eOp rDiv2 (eOp rAdd2 (eOp rAdd2 (eVar 2) (eVar 3)) (eC (.int 1))) (eC (.int 2))) (gN 4))
  (b_even_row_1 rn))
def b_even_row (rn : Nat) : TS2 := (sSq (sIf (tCm (eOp (rEqG id) (eVar 3) (eOp rAdd2 (eVar 2) (eC (.int 1))))) (sRt (eOp rIx2 (eVar 1) (eVar 2))) sNx)
  (b_even_row_2 rn))
theorem sem_even_row : ∀ (rn : Nat) ds M Q E, sp_even_row (rn + 1) ds M Q E → b_even_row rn (fEnds Q E) (start2 n_even_row ds) M := by
  rintro rn ds M Q E ⟨x, l, b, e, rfl, bd, p, ms, i, j, rfl, hb, rfl, hp, hm, rfl, rfl, hij, _, hk, hq⟩
  rw [Nat.add_sub_cancel] at hk
  simp only [b_even_row, start2, n_even_row]
  simp
  by_cases c : j = i + 1
  · have c2 : (j : Int) = (i : Int) + 1 := by omega
    obtain ⟨a, ea, sa⟩ := hm i (Nat.le_refl _) (by omega)
    simp [c2, hp, ↓kAt_get ea]
    refine Fg.same (hq M a Le.refl ?_)
    rw [c, Nat.add_sub_cancel_left]
    exact sa
  · have c2 : ¬ (j : Int) = (i : Int) + 1 := by omega
    simp [c2]
    simp only [b_even_row_2]
    simp
    refine ⟨⟨by decide, by decide⟩, ?_⟩
    obtain ⟨mid, hmid, hm2⟩ : ∃ mid : Nat, ((i : Int) + j + 1) / 2 = mid ∧ mid = (i + j + 1) / 2 := ⟨(i + j + 1) / 2, by omega, rfl⟩
    rw [hmid]
    have d1 : mid - i = (j - i + 1) / 2 := by omega
    have d2 : j - mid = (j - i) / 2 := by omega
    obtain ⟨r, rfl⟩ : ∃ r, rn = r + 1 := by
      cases rn with
      | zero => omega
      | succ r => exact ⟨r, rfl⟩
    rw [Nat.pow_succ] at hk
    simp only [b_even_row_1]
    simp
    refine ⟨⟨bd, _, rfl, hb, rfl⟩, ?_⟩
    refine ⟨_, _, _, _, rfl, bd, p, ms, i, mid, rfl, hb, rfl, hp, fun k h1 h2 => hm k h1 (by omega), rfl, rfl, by omega, by omega, by rw [Nat.add_sub_cancel]; omega, fun M1 a L1 h1 => ?_⟩
    simp
    refine ⟨_, _, _, _, rfl, bd, p, ms, mid, j, rfl, L1 _ _ hb, rfl, L1 _ _ hp, fun k h1 h2 => ?_, rfl, rfl, by omega, by omega, by rw [Nat.add_sub_cancel]; omega, fun M2 a2 L2 h2 => ?_⟩
    · obtain ⟨a, ea, sa⟩ := hm k (by omega) h2
      exact ⟨a, ea, sa.le L1⟩
    · simp
      refine ⟨_, _, _, rfl, a, a2, _, _, rfl, rfl, h1.le L2, h2, fun M3 a3 L3 h3 => Fg.same (hq M3 a3 ((L1.trans L2).trans L3) ?_)⟩
      rw [evenS_eq (by omega), ← d1, ← d2]
      exact h3
def spx_even_shape (cn : Cn) : Sp2 := A1 fun a M Q E => ∃ t : String, tyT a M = some t ∧ (∀ w : Nat, a = .int w → 1 ≤ w → w ≤ 20000 → Q (shT (evenS w)) M) ∧ (cntOk a 20000 = false ∨ a = .int 0 → E (cn.cl "BadCount") none M)
def n_even_shape : List Str := "width" :: []
def bx_even_shape_1 (cn : Cn) : TS2 := (sRt (eCall (sp_shape_of mx_shape_of) [] (aCons (eCall (sp_even_row mx_even_row) [] (aCons (eMake0 "Builder") (aCons (eOp rMul2 (eLst (aCons (eCall (sp_stem_of mx_stem_of) [] (aCons (eC .non) aNil)) aNil)) (eVar 0)) (aCons (eC (.int 0)) (aCons (eVar 0) aNil))))) aNil)))
def bx_even_shape_2 (cn : Cn) : TS2 := (sSq (sIf (tCm (eOp (rEqG id) (eVar 0) (eC (.int 0)))) (sRaise (cn.cl "BadCount")) sNx)
  (bx_even_shape_1 cn))
def bx_even_shape (cn : Cn) : TS2 := (sSq (sDr (eCall (spx_need_count cn) [] (aCons (eVar 0) (aCons (eC (.int 20000)) aNil))))
  (bx_even_shape_2 cn))
theorem semx_even_shape (cn : Cn) : ∀ ds M Q E, spx_even_shape cn ds M Q E → bx_even_shape cn (fEnds Q E) (start2 n_even_shape ds) M := by
  rintro ds M Q E ⟨a, rfl, t, ht, h1, h2⟩
  simp only [bx_even_shape, start2, n_even_shape]
  simp
  refine ⟨_, _, rfl, t, 20000, ht, rfl, fun c => ?_, fun c => FgX.same (h2 (.inl c))⟩
  obtain ⟨w, rfl, hw⟩ : ∃ w : Nat, a = .int w ∧ w ≤ 20000 := by
    cases a with
    | int i =>
      have c' := of_decide_eq_true c
      exact ⟨i.toNat, by congr 1; omega, by omega⟩
    | _ => cases c
  simp
  simp only [bx_even_shape_2]
  by_cases c0 : w = 0
  · subst c0
    simp
    exact FgX.same (h2 (.inr rfl))
  · simp [c0]
    simp only [bx_even_shape_1]
    simp
    intro bd hbd
    have L1 : Le M (up M bd (.ino "Builder" [])) := Le.new hbd
    have eb : BuildAt (up M bd (.ino "Builder" [])) bd := up_same
    generalize up M bd (.ino "Builder" []) = M1 at L1 eb
    refine ⟨_, rfl, .leaf, rfl, by decide, fun M2 p L2 hp => ?_⟩
    have l1 : 1 ≤ sizeLine := by rw [sizeLine_eq]; decide
    simp [l1]
    refine newL_cut fun q M3 L3 eq3 => ?_
    simp [eq3]
    refine ⟨by omega, by rw [sizeLine_eq]; omega, ?_⟩
    refine newL_cut fun g M4 L4 eg4 => ?_
    simp
    have L24 := (L2.trans L3).trans L4
    refine ⟨_, _, _, _, rfl, bd, g, _, 0, w, rfl, L24 _ _ eb, rfl, eg4, fun k _ hk => ⟨p, by rw [List.getElem?_replicate, if_pos hk], hp.le (L3.trans L4)⟩, rfl, rfl, by omega, by decide, ?_, fun M5 a L5 h5 => ?_⟩
    · have : (2 : Nat) ^ 40 = 1099511627776 := by decide
      show w - 0 ≤ 2 ^ 40
      omega
    · simp
      have hl := evenS_le (n := w) (by omega) (by omega)
      refine ⟨_, rfl, .inr ⟨a, evenS w, rfl, h5, by show (evenS w).height < 41; omega, ?_⟩⟩
      exact Fg.le ((L1.trans L24).trans L5) (h1 w rfl (by omega) hw)
end T

/-! S: documents drawn. -/
namespace T
open PySem PySem.Spec PyProof.Rows L2
/-- a document is drawn with as many nodes as most, at the most -/
def sp__law_document : Sp2 := A2 fun a b M Q _ => ∃ (f : Addr) (m n : Nat) (o : MO), a = .loc f ∧ b = .int m ∧ m ≤ 1000 ∧ n ≤ 100000000 ∧ M f = some o ∧ FeedO n o ∧ ∀ (d : Doc) o', Val d → d.length ≤ m → FeedO (n + 5000) o' → Q (docT d) (up M f o')
def n__law_document : List Str := "feed" :: "most" :: "marks" :: "many" :: "way" :: "got" :: "depth" :: "turn" :: "steps" :: []
def b__law_document : TS2 := (sSq (sPr3 2 3 4 (aCons (eCall sp__law_one [] (aCons (eVar 0) (aCons (eLst (aCons (eC (.str "a")) (aCons (eC (.str "ab")) (aCons (eC (.str "ab")) (aCons (eC (.str "abc")) (aCons (eC (.str "abcdefgh")) aNil)))))) aNil))) (aCons (eCall sp__law_draw [] (aCons (eVar 0) (aCons (eOp rAdd2 (eVar 1) (eC (.int 1))) aNil))) (aCons (eCall sp__law_draw [] (aCons (eVar 0) (aCons (eC (.int 6)) aNil))) aNil))))
  (sSq (sPr 5 6 (aCons (eLst aNil) (aCons (eUn rNeg2 (eC (.int 1))) aNil)))
  (sSq (sFo (iRg1 (aCons (eVar 3) aNil)) (gN 7) (sSq (sIf (tCm (eOp (rEqG id) (eVar 4) (eC (.int 0)))) (sAs (eIf (tCm (eOp (rEqG id) (eVar 7) (eC (.int 0)))) (eC (.int 0)) (eC (.int 1))) (gN 6)) (sIf (tCm (eOp (rEqG id) (eVar 4) (eC (.int 1)))) (sAs (eIf (tCm (eOp rGtI (eCall sp__law_draw [] (aCons (eVar 0) (aCons (eC (.int 9)) aNil))) (eC (.int 0)))) (eOp rAdd2 (eVar 6) (eC (.int 1))) (eCall sp__law_draw [] (aCons (eVar 0) (aCons (eOp rAdd2 (eVar 6) (eC (.int 2))) aNil)))) (gN 6)) (sSq (sAs (eLst (aCons (eOp rAdd2 (eVar 6) (eC (.int 1))) (aCons (eOp rAdd2 (eVar 6) (eC (.int 1))) (aCons (eVar 6) (aCons (eVar 6) (aCons (eOp rSub2 (eVar 6) (eC (.int 1))) (aCons (eC (.int 0)) (aCons (eCall sp__law_draw [] (aCons (eVar 0) (aCons (eOp rAdd2 (eVar 6) (eC (.int 2))) aNil))) aNil)))))))) (gN 8))
  (sAs (eB rMax2 (aCons (eC (.int 0)) (aCons (eB rMin2 (aCons (eOp rAdd2 (eVar 6) (eC (.int 1))) (aCons (eCall sp__law_one [] (aCons (eVar 0) (aCons (eVar 8) aNil))) aNil))) aNil))) (gN 6)))))
  (sDr (eM "list" rApp2 (eVar 5) (aCons (eTup (aCons (eCall sp__law_one [] (aCons (eVar 0) (aCons (eVar 2) aNil))) (aCons (eVar 6) aNil))) aNil)))))
  (sRt (eB rTuple2 (aCons (eVar 5) aNil))))))
theorem sem__law_document : ∀ ds M Q E, sp__law_document ds M Q E → b__law_document (fEnds Q E) (start2 n__law_document ds) M := by
  rintro ds M Q E ⟨a, b, rfl, f, m, n, o, rfl, rfl, hm, hn, hf, hF, hq⟩
  simp only [b__law_document, start2, n__law_document]
  simp
  intro p hp
  have fp : f ≠ p := m_ne hf hp
  refine ⟨_, _, rfl, f, [.str "a", .str "ab", .str "ab", .str "abc", .str "abcdefgh"], n, o, rfl, ?_, ?_, ?_, by decide, by decide, by omega, by rw [up_ne fp]; exact hf, hF, ?_⟩
  · exact lenT_lst up_same
  · exact seqT_lst up_same
  · intro e; cases e; exact fp rfl
  intro r o1 hr hF1
  obtain ⟨z, rfl, hz⟩ : ∃ z, r = .str z ∧ mkW z := by
    simp at hr
    rcases hr with h | h | h | h <;> subst h
    · exact ⟨_, rfl, .inl rfl⟩
    · exact ⟨_, rfl, .inr (.inl rfl)⟩
    · exact ⟨_, rfl, .inr (.inr (.inl rfl))⟩
    · exact ⟨_, rfl, .inr (.inr (.inr rfl))⟩
  simp
  refine ⟨_, _, rfl, f, _, n + 1, o1, rfl, rfl, by omega, by omega, by omega, up_same, hF1, fun k o2 k0 k1 hF2 => ?_⟩
  simp
  refine ⟨_, _, rfl, f, _, n + 1 + 1, o2, rfl, rfl, by omega, by omega, by omega, up_same, hF2, fun way o3 w0 w1 hF3 => ?_⟩
  simp
  intro g hg
  have fg : f ≠ g := by
    intro e; subst e
    rw [up_same] at hg; cases hg
  have gp : g ≠ p := by
    intro e; subst e
    rw [up_ne (fun e => fp e.symm), up_same] at hg; cases hg
  have hg2 : M g = none := by rw [up_ne (fun e => fg e.symm), up_ne gp] at hg; exact hg
  simp
  refine ⟨⟨by omega, by omega⟩, for_itR (fun i σ M' => ∃ (d : Doc) (x y : Option Tr) (o : MO), σ = [some (.loc f), some (.int m), some (.str z), some (.int k), some (.int way), some (.loc g), some (.int ((nextD d : Int) - 1)), x, y] ∧
    M' f = some o ∧ FeedO (n + 3 + 3 * i) o ∧ M' g = some (.lst (d.map entT)) ∧ Vd 0 d ∧ d.length = i ∧ ∀ a o, a ≠ f → M a = some o → M' a = some o) ?_ ?_ ?_⟩
  · refine ⟨[], none, none, o3, rfl, ?_, hF3, up_same, trivial, rfl, fun a o ha h => ?_⟩
    · rw [up_ne fg]; exact up_same
    · have ag : a ≠ g := m_ne h hg2
      have ap : a ≠ p := m_ne h hp
      rw [up_ne ag, up_ne ha, up_ne ap]; exact h
  · rintro i σ M' hi ⟨d, x, y, o, rfl, hf', hF', hg', hv, hd, hk⟩
    have hn' := nextD_le hv
    simp only [gN_7]
    have dn : 0 < i → 1 ≤ nextD d := by
      intro h
      have : d ≠ [] := by intro e; subst e; simp at hd; omega
      obtain ⟨d0, e, rfl⟩ : ∃ d0 e, d = d0 ++ [e] := ⟨d.dropLast, d.getLast this, (List.dropLast_concat_getLast this).symm⟩
      rw [nextD_snoc]; omega
    refine seq_cut (fun σ1 M1 => ∃ (j : Nat) (x y : Option Tr) (o : MO), σ1 = [some (.loc f), some (.int m), some (.str z), some (.int k), some (.int way), some (.loc g), some (.int j), x, y] ∧ j ≤ nextD d ∧
      M1 f = some o ∧ FeedO (n + 3 + 3 * i + 2) o ∧ M1 g = some (.lst (d.map entT)) ∧ ∀ a o, a ≠ f → M a = some o → M1 a = some o) (fun NX hN => ?_) ?_
    · rcases Decidable.em (way = 0) with rfl | w0'
      · simp
        by_cases i0 : i = 0
        · simp [i0]
          exact hN _ _ ⟨0, _, _, o, rfl, by omega, hf', hF'.mono (by omega), hg', hk⟩
        · simp [i0]
          exact hN _ _ ⟨1, _, _, o, rfl, dn (by omega), hf', hF'.mono (by omega), hg', hk⟩
      · rcases Decidable.em (way = 1) with rfl | w1'
        · simp
          refine ⟨_, _, rfl, f, 9, _, o, rfl, rfl, by omega, by omega, by omega, hf', hF', fun r o1 r0 r1 hF1 => ?_⟩
          have fr : ∀ a o, a ≠ f → M a = some o → up M' f o1 a = some o := fun a o ha h => by rw [up_ne ha]; exact hk a o ha h
          have gg : up M' f o1 g = some (.lst (d.map entT)) := by rw [up_ne (fun e => fg e.symm)]; exact hg'
          by_cases r2 : 0 < r
          · simp [r2]
            exact hN _ _ ⟨nextD d, _, _, o1, rfl, by omega, up_same, hF1.mono (by omega), gg, fr⟩
          · simp [r2]
            refine ⟨_, _, rfl, f, _, _, o1, rfl, rfl, by omega, by omega, by omega, up_same, hF1, fun r' o2 r0' r1' hF2 => ?_⟩
            simp
            obtain ⟨j, rfl⟩ : ∃ j : Nat, r' = (j : Int) := ⟨r'.toNat, by omega⟩
            exact hN _ _ ⟨j, _, _, o2, rfl, by omega, up_same, hF2.mono (by omega), by rw [up_ne (fun e => fg e.symm)]; exact hg', fun a o ha h => by rw [up_ne ha]; exact hk a o ha h⟩
        · simp [w0', w1']
          refine ⟨_, _, rfl, f, _, _, o, rfl, rfl, by omega, by omega, by omega, hf', hF', fun r o1 r0 r1 hF1 => ?_⟩
          simp
          intro q hq1
          simp
          have fq : f ≠ q := m_ne up_same hq1
          have gq : g ≠ q := m_ne (o := .lst (d.map entT)) (by rw [up_ne (fun e => fg e.symm)]; exact hg') hq1
          refine ⟨_, _, rfl, f, _, _, o1, rfl, lenT_lst up_same, seqT_lst up_same, ?_, by simp, by simp, ?_, by rw [up_ne fq]; exact up_same, hF1, fun s o2 hs hF2 => ?_⟩
          · intro e; cases e; exact fq rfl
          · omega
          obtain ⟨v, rfl⟩ : ∃ v, s = .int v := by
            simp at hs
            rcases hs with h | h | h | h | h <;> exact ⟨_, h⟩
          simp
          obtain ⟨j, hj, hj2⟩ : ∃ j : Nat, (if 0 < (if v < (nextD d : Int) then v else (nextD d : Int)) then (if v < (nextD d : Int) then v else (nextD d : Int)) else 0) = (j : Int) ∧ j ≤ nextD d := by
            refine ⟨(if 0 < (if v < (nextD d : Int) then v else (nextD d : Int)) then (if v < (nextD d : Int) then v else (nextD d : Int)) else 0).toNat, ?_, ?_⟩
            · split <;> split <;> omega
            · split <;> split <;> omega
          rw [hj]
          refine hN _ _ ⟨j, _, _, o2, rfl, hj2, up_same, hF2.mono (by omega), ?_, fun a o ha h => ?_⟩
          · rw [up_ne (fun e => fg e.symm), up_ne gq, up_ne (fun e => fg e.symm)]; exact hg'
          · have aq : a ≠ q := m_ne (o := o) (by rw [up_ne ha]; exact hk a o ha h) hq1
            rw [up_ne ha, up_ne aq, up_ne ha]; exact hk a o ha h
    · rintro σ1 M1 ⟨j, x, y, o, rfl, hj, hf1, hF1, hg1, hk1⟩
      obtain ⟨z1, z2, z3⟩ := mkW_len hz
      simp [hg1]
      refine ⟨_, _, rfl, f, (z.cps.toList.map fun k => Tr.str ⟨#[k]⟩), _, o, rfl, ?_, rfl, (fun e => nomatch e), by rw [List.length_map]; omega, by rw [List.length_map]; omega, by omega, hf1, hF1, fun r o1 hr hF2 => ?_⟩
      · rw [lenT_str' (small_line (by omega)), List.length_map, z3]
      obtain ⟨mk, rfl, hmk⟩ := mkW_mem hz r hr
      simp [up_ne (fun e => fg e.symm : g ≠ f), hg1]
      refine ⟨small_lt (by omega), d ++ [(mk, j)], ?_, ?_⟩
      · rw [nextD_snoc]; simp
      · refine ⟨o1, by rw [up_ne fg]; exact up_same, hF2.mono (by omega), by simp [entT], Val.snoc hv hmk hj, by simp [hd], fun a o ha h => ?_⟩
        by_cases ag : a = g
        · subst ag
          rw [hg2] at h; cases h
        · rw [up_ne ag, up_ne ha]; exact hk1 a o ha h
  · rintro σ M' ⟨d, x, y, o, rfl, hf', hF', hg', hv, hd, hk⟩
    simp [hg']
    refine Fg.le (M := up M f o) (fun a u e => ?_) (hq d o ⟨hv, by omega⟩ (by omega) (hF'.mono (by omega)))
    by_cases c : a = f
    · subst c
      rw [up_same] at e
      rw [hf', ← e]
    · rw [up_ne c] at e
      exact hk a u c e
end T

/-! H: the law's own: least widths, balanced shapes drawn. -/
namespace T
open PySem PySem.Spec PyProof.Rows L2
def sp__law_least : Sp2 := A1 fun a M Q _ => ∃ h : Nat, a = .int h ∧ h ≤ 1000 ∧ Q (.int (leastN h)) M
def n__law_least : List Str := "height" :: "least" :: "more" :: "turn" :: []
def b__law_least_1 : TS2 := (sSq (sFo (iRg1 (aCons (eVar 0) aNil)) (gN 3) (sPr 1 2 (aCons (eVar 2) (aCons (eOp rAdd2 (eVar 1) (eVar 2)) aNil))))
  (sRt (eVar 1)))
def b__law_least : TS2 := (sSq (sAs (eTup (aCons (eC (.int 1)) (aCons (eC (.int 2)) aNil))) (gT 2 (gCo (gN 1) (gCo (gN 2) gNil2))))
  b__law_least_1)
theorem sem__law_least : ∀ ds M Q E, sp__law_least ds M Q E → b__law_least (fEnds Q E) (start2 n__law_least ds) M := by
  rintro ds M Q E ⟨a, rfl, h, rfl, hh, hq⟩
  simp only [b__law_least, start2, n__law_least]
  simp
  simp only [b__law_least_1]
  simp
  refine ⟨by unfold Rg; omega, ?_⟩
  refine for_itR (fun i σ M' => ∃ x3, σ = [some (.int h), some (.int (leastN i)), some (.int (leastN (i + 1))), x3] ∧ M' = M) ⟨_, rfl, rfl⟩ (fun i σ M' hi h => ?_) (fun σ M' h => ?_)
  · obtain ⟨x3, rfl, rfl⟩ := h
    simp
    have e : leastN (i + 1 + 1) = leastN (i + 1) + leastN i := rfl
    omega
  · obtain ⟨x3, rfl, rfl⟩ := h
    simp
    exact Fg.same hq
def sp__law_tallest : Sp2 := A1 fun a M Q _ => ∃ w : Nat, a = .int w ∧ w ≤ 20000 ∧ ∀ t : Nat, IsTall w t → Q (.int t) M
def n__law_tallest : List Str := "width" :: "height" :: []
def b__law_tallest_1 : TS2 := (sSq (sWh (tCm (eOp rLeI (eCall sp__law_least [] (aCons (eOp rAdd2 (eVar 1) (eC (.int 1))) aNil)) (eVar 0))) (sAs (eOp rAdd2 (eVar 1) (eC (.int 1))) (gN 1)))
  (sRt (eVar 1)))
def b__law_tallest : TS2 := (sSq (sAs (eC (.int 0)) (gN 1))
  b__law_tallest_1)
theorem sem__law_tallest : ∀ ds M Q E, sp__law_tallest ds M Q E → b__law_tallest (fEnds Q E) (start2 n__law_tallest ds) M := by
  rintro ds M Q E ⟨a, rfl, w, rfl, hw, hq⟩
  simp only [b__law_tallest, start2, n__law_tallest]
  simp
  simp only [b__law_tallest_1]
  simp
  refine sWh_of (fun m σ1 M1 => ∃ h : Nat, σ1 = [some (.int w), some (.int h)] ∧ h + m = w ∧ (h = 0 ∨ leastN h ≤ w) ∧ M1 = M) w ⟨0, rfl, by omega, .inl rfl, rfl⟩ ?_
  rintro m σ1 M1 ⟨h, rfl, hm, hl, rfl⟩
  have h20 : h ≤ 20 := by
    rcases Nat.lt_or_ge 20 h with c | c
    · have a := leastN_mono (show 21 ≤ h by omega)
      have b := leastN_20.2
      rcases hl with e | e <;> omega
    · exact c
  simp
  refine ⟨_, rfl, h + 1, rfl, by omega, ?_⟩
  simp
  by_cases c : leastN (h + 1) ≤ w
  · rw [if_pos (by omega)]
    refine WhT.of fun N hN => ?_
    simp
    have := leastN_gt (h + 1)
    exact hN (m - 1) _ _ (by omega) ⟨h + 1, rfl, by omega, .inr c, rfl⟩
  · rw [if_neg (by omega)]
    exact Fg.same (hq h ⟨hl, by omega⟩)
/-- one way of parting a width -/
def WayT (w h : Nat) (t : Tr) : Prop := ∃ l r lo hi : Nat, t = .tup [.int l, .int r, .int lo, .int hi] ∧ lo ≤ hi ∧ leastN l ≤ lo ∧ w ≤ lo + 2 ^ r ∧ hi ≤ 2 ^ l ∧ hi + leastN r ≤ w ∧ 1 + max l r = h ∧ l ≤ r + 1 ∧ r ≤ l + 1
abbrev mx__law_balanced : Nat := 41
def sp__law_balanced (rn : Nat) : Sp2 := A3 fun a b c M Q _ => ∃ (f : Addr) (w h n : Nat) (o : MO), a = .loc f ∧ b = .int w ∧ c = .int h ∧ h < rn ∧ h ≤ 40 ∧ leastN h ≤ w ∧ w ≤ 2 ^ h ∧ w ≤ 20000 ∧ n + 2 * w ≤ 100000000 ∧ M f = some o ∧ FeedO n o ∧
  ∀ s o', s.width = w → s.height = h → s.bal = true → FeedO (n + 2 * (w - 1)) o' → Q (shT s) (up M f o')
theorem zero__law_balanced : ∀ ds M Q E, ¬ sp__law_balanced 0 ds M Q E := by
  rintro ds M Q E ⟨_, _, _, rfl, _, _, _, _, _, _, _, _, h, _⟩
  omega
def n__law_balanced : List Str := "feed" :: "width" :: "height" :: "ways" :: "left" :: "right" :: "low" :: "high" :: "first" :: []
def b__law_balanced_1 (rn : Nat) : TS2 := (sDr (eM "list" rApp2 (eVar 3) (aCons (eTup (aCons (eVar 4) (aCons (eVar 5) (aCons (eVar 6) (aCons (eVar 7) aNil))))) aNil)))
def b__law_balanced_2 (rn : Nat) : TS2 := (sSq (sAs (eB rMin2 (aCons (eOp rShl2 (eC (.int 1)) (eVar 4)) (aCons (eOp rSub2 (eVar 1) (eCall sp__law_least [] (aCons (eVar 5) aNil))) aNil))) (gN 7))
  (sIf (tCm (eOp rLeI (eVar 6) (eVar 7))) (b__law_balanced_1 rn) sNx))
def b__law_balanced_3 (rn : Nat) : TS2 := (sSq (sAs (eB rMax2 (aCons (eCall sp__law_least [] (aCons (eVar 4) aNil)) (aCons (eOp rSub2 (eVar 1) (eOp rShl2 (eC (.int 1)) (eVar 5))) aNil))) (gN 6))
  (b__law_balanced_2 rn))
def b__law_balanced_4 (rn : Nat) : TS2 := (sIf (tCm (eOp rGeI (eB rMin2 (aCons (eVar 4) (aCons (eVar 5) aNil))) (eC (.int 0)))) (b__law_balanced_3 rn) sNx)
def b__law_balanced_5 (rn : Nat) : TS2 := (sRt (eTup (aCons (eCall (sp__law_balanced rn) [] (aCons (eVar 0) (aCons (eVar 8) (aCons (eVar 4) aNil)))) (aCons (eCall (sp__law_balanced rn) [] (aCons (eVar 0) (aCons (eOp rSub2 (eVar 1) (eVar 8)) (aCons (eVar 5) aNil)))) aNil))))
def b__law_balanced_6 (rn : Nat) : TS2 := (sSq (sAs (eOp rAdd2 (eVar 6) (eCall sp__law_draw [] (aCons (eVar 0) (aCons (eOp rAdd2 (eOp rSub2 (eVar 7) (eVar 6)) (eC (.int 1))) aNil)))) (gN 8))
  (b__law_balanced_5 rn))
def b__law_balanced_7 (rn : Nat) : TS2 := (sSq (sAs (eCall sp__law_one [] (aCons (eVar 0) (aCons (eVar 3) aNil))) (gT 4 (gCo (gN 4) (gCo (gN 5) (gCo (gN 6) (gCo (gN 7) gNil2))))))
  (b__law_balanced_6 rn))
def b__law_balanced_8 (rn : Nat) : TS2 := (sSq (sFo (iSq (eLst (aCons (eTup (aCons (eOp rSub2 (eVar 2) (eC (.int 1))) (aCons (eOp rSub2 (eVar 2) (eC (.int 1))) aNil))) (aCons (eTup (aCons (eOp rSub2 (eVar 2) (eC (.int 1))) (aCons (eOp rSub2 (eVar 2) (eC (.int 2))) aNil))) (aCons (eTup (aCons (eOp rSub2 (eVar 2) (eC (.int 2))) (aCons (eOp rSub2 (eVar 2) (eC (.int 1))) aNil))) aNil))))) (gT 2 (gCo (gN 4) (gCo (gN 5) gNil2))) (b__law_balanced_4 rn))
  (b__law_balanced_7 rn))
def b__law_balanced (rn : Nat) : TS2 := (sSq (sIf (tCm (eOp (rEqG id) (eVar 2) (eC (.int 0)))) (sRt (eC .non)) sNx)
  (sSq (sAs (eLst aNil) (gN 3))
  (b__law_balanced_8 rn)))
theorem bal_turn {rn w h : Nat} {f p : Addr} {l r : Nat} {x6 x7 x8 : Option Tr} {M : Ms} {ws : List Tr} {D : Ends2} (hw : w ≤ 20000) (hl : l ≤ 40) (hr : r ≤ 40) (h1 : 1 + max l r = h) (h2 : l ≤ r + 1) (h3 : r ≤ l + 1) (hp : M p = some (.lst ws)) (hs : ws.length ≤ 3) (hws : ∀ t ∈ ws, WayT w h t)
    (hd : ∀ x6 x7 M' ws', Kf p M M' → M' p = some (.lst ws') → ws'.length ≤ ws.length + 1 → (∀ t ∈ ws', WayT w h t) → (ws ≠ [] → ws' ≠ []) → (leastN l + leastN r ≤ w ∧ w ≤ 2 ^ l + 2 ^ r → ws' ≠ []) →
      D.nx [some (.loc f), some (.int w), some (.int h), some (.loc p), some (.int l), some (.int r), x6, x7, x8] M') :
    b__law_balanced_4 rn D [some (.loc f), some (.int w), some (.int h), some (.loc p), some (.int l), some (.int r), x6, x7, x8] M := by
  have l4 : 4 ≤ sizeLine := small_line (by decide)
  simp only [b__law_balanced_4]
  simp
  rw [if_pos (by split <;> omega)]
  simp only [b__law_balanced_3]
  simp
  refine ⟨_, rfl, l, rfl, by omega, ?_⟩
  simp
  refine ⟨L2.shl_ok (i := 1) (n := 1) (by decide) (by omega), ?_⟩
  simp only [b__law_balanced_2]
  simp
  refine ⟨L2.shl_ok (i := 1) (n := 1) (by decide) (by omega), ?_⟩
  refine ⟨_, rfl, r, rfl, by omega, ?_⟩
  simp
  have q1 := leastN_pow l
  have q2 := leastN_pow r
  have q3 := leastN_pos l
  have hws2 : ∀ lo hi : Nat, lo ≤ hi → leastN l ≤ lo → w ≤ lo + 2 ^ r → hi ≤ 2 ^ l → hi + leastN r ≤ w → WayT w h (.tup [.int l, .int r, .int lo, .int hi]) := fun lo hi a b c d e => ⟨l, r, lo, hi, rfl, a, b, c, d, e, h1, h2, h3⟩
  obtain ⟨pl, hpl⟩ : ∃ pl : Nat, 2 ^ l = pl := ⟨_, rfl⟩
  obtain ⟨pr, hpr⟩ : ∃ pr : Nat, 2 ^ r = pr := ⟨_, rfl⟩
  have hpl2 : (2 : Int) ^ l = (pl : Int) := by rw [← hpl]; simp
  have hpr2 : (2 : Int) ^ r = (pr : Int) := by rw [← hpr]; simp
  rw [hpl2, hpr2]
  rw [hpl] at q1 hd hws2
  rw [hpr] at q2 hd hws2
  have f1 : ((leastN l : Nat) : Int) ≤ (if ((leastN l : Nat) : Int) < (w : Int) - (pr : Int) then (w : Int) - (pr : Int) else ((leastN l : Nat) : Int)) ∧ (w : Int) - (pr : Int) ≤ (if ((leastN l : Nat) : Int) < (w : Int) - (pr : Int) then (w : Int) - (pr : Int) else ((leastN l : Nat) : Int)) := by
    constructor <;> split <;> omega
  have f2 : (if (w : Int) - ((leastN r : Nat) : Int) < (pl : Int) then (w : Int) - ((leastN r : Nat) : Int) else (pl : Int)) ≤ (pl : Int) ∧ (if (w : Int) - ((leastN r : Nat) : Int) < (pl : Int) then (w : Int) - ((leastN r : Nat) : Int) else (pl : Int)) ≤ (w : Int) - ((leastN r : Nat) : Int) := by
    constructor <;> split <;> omega
  have f3 : leastN l + leastN r ≤ w ∧ w ≤ pl + pr → (if ((leastN l : Nat) : Int) < (w : Int) - (pr : Int) then (w : Int) - (pr : Int) else ((leastN l : Nat) : Int)) ≤ (if (w : Int) - ((leastN r : Nat) : Int) < (pl : Int) then (w : Int) - ((leastN r : Nat) : Int) else (pl : Int)) := fun h => by
    split <;> split <;> omega
  generalize (if ((leastN l : Nat) : Int) < (w : Int) - (pr : Int) then (w : Int) - (pr : Int) else ((leastN l : Nat) : Int)) = low at f1 f3 ⊢
  generalize (if (w : Int) - ((leastN r : Nat) : Int) < (pl : Int) then (w : Int) - ((leastN r : Nat) : Int) else (pl : Int)) = high at f2 f3 ⊢
  by_cases c : low ≤ high
  · rw [if_pos c]
    obtain ⟨lo, rfl⟩ : ∃ lo : Nat, low = lo := ⟨low.toNat, by omega⟩
    obtain ⟨hi, rfl⟩ : ∃ hi : Nat, high = hi := ⟨high.toNat, by omega⟩
    simp only [b__law_balanced_1]
    simp [hp, l4]
    refine ⟨small_lt (by omega), ?_⟩
    refine hd _ _ _ (ws ++ [.tup [.int l, .int r, .int lo, .int hi]]) (fun a u ha e => by rw [up_ne ha]; exact e) up_same (by simp) (fun t ht => ?_) (fun _ => by simp) (fun _ => by simp)
    rcases List.mem_append.mp ht with ht | ht
    · exact hws t ht
    · rw [List.mem_singleton] at ht
      subst ht
      exact hws2 lo hi (by omega) (by omega) (by omega) (by omega) (by omega)
  · rw [if_neg c]
    exact hd _ _ M ws Kf.refl hp (by omega) hws (fun h => h) (fun h => absurd (f3 h) c)
/-- what the ways are behind i of three turns -/
structure BalI (f p : Addr) (w h : Nat) (M2 : Ms) (i : Nat) (σ : St2) (M' : Ms) : Prop where
  ex : ∃ x4 x5 x6 x7 x8 ws, σ = [some (.loc f), some (.int w), some (.int h), some (.loc p), x4, x5, x6, x7, x8] ∧ Kf p M2 M' ∧ M' p = some (.lst ws) ∧ ws.length ≤ i ∧ (∀ t ∈ ws, WayT w h t) ∧
        (1 ≤ i → leastN (h - 1) + leastN (h - 1) ≤ w ∧ w ≤ 2 ^ (h - 1) + 2 ^ (h - 1) → ws ≠ []) ∧ (2 ≤ i → 2 ≤ h ∧ leastN (h - 1) + leastN (h - 2) ≤ w ∧ w ≤ 2 ^ (h - 1) + 2 ^ (h - 2) → ws ≠ [])
theorem bal_skip {rn : Nat} {f p : Addr} {w h : Nat} {x y : Int} {x6 x7 x8 : Option Tr} {M : Ms} {D : Ends2} (c : x < 0 ∨ y < 0) (hd : D.nx [some (.loc f), some (.int w), some (.int h), some (.loc p), some (.int x), some (.int y), x6, x7, x8] M) :
    b__law_balanced_4 rn D [some (.loc f), some (.int w), some (.int h), some (.loc p), some (.int x), some (.int y), x6, x7, x8] M := by
  simp only [b__law_balanced_4]
  simp
  rw [if_neg (by split <;> omega)]
  exact hd
theorem ways_some {w h : Nat} (h0 : 1 ≤ h) (hl : leastN h ≤ w) (hw : w ≤ 2 ^ h) : (leastN (h - 1) + leastN (h - 1) ≤ w ∧ w ≤ 2 ^ (h - 1) + 2 ^ (h - 1)) ∨ (2 ≤ h ∧ leastN (h - 1) + leastN (h - 2) ≤ w ∧ w ≤ 2 ^ (h - 1) + 2 ^ (h - 2)) := by
  obtain ⟨k, rfl⟩ : ∃ k, h = k + 1 := ⟨h - 1, by omega⟩
  have e : 2 ^ (k + 1) = 2 ^ k + 2 ^ k := by rw [Nat.pow_succ]; omega
  rw [e] at hw
  rw [Nat.add_sub_cancel]
  by_cases c : 2 * leastN k ≤ w
  · exact .inl ⟨by omega, hw⟩
  · right
    cases k with
    | zero =>
      have : leastN (0 + 1) = 2 := rfl
      have : leastN 0 = 1 := rfl
      omega
    | succ k =>
      have a := leastN_two k
      have b : leastN (k + 1 + 1) = leastN (k + 1) + leastN k := rfl
      have e2 : 2 ^ (k + 1) = 2 ^ k + 2 ^ k := by rw [Nat.pow_succ]; omega
      rw [show k + 1 + 1 - 2 = k by omega]
      omega
theorem sem__law_balanced : ∀ (rn : Nat) ds M Q E, sp__law_balanced (rn + 1) ds M Q E → b__law_balanced rn (fEnds Q E) (start2 n__law_balanced ds) M := by
  rintro rn ds M Q E ⟨a, b, c, rfl, f, w, h, n, o, rfl, rfl, rfl, hr, h40, hl, hw, hw2, hn, hf, hF, hq⟩
  have l2 : 2 ≤ sizeLine := small_line (by decide)
  have l3 : 3 ≤ sizeLine := small_line (by decide)
  simp only [b__law_balanced, start2, n__law_balanced]
  by_cases h0 : h = 0
  · subst h0
    have e1 : w = 1 := by
      have : leastN 0 = 1 := rfl
      have : (2 : Nat) ^ 0 = 1 := rfl
      omega
    subst e1
    simp
    exact Fg.le (Kf.le Kf.refl hf) (hq .leaf o rfl rfl rfl hF)
  · simp [h0]
    intro p hp
    have fp : f ≠ p := m_ne hf hp
    have K1 : Kf f M (up M p (.lst [])) := (Le.new hp).kf
    have hf1 : up M p (.lst []) f = some o := by rw [up_ne fp]; exact hf
    have ep1 : up M p (.lst []) p = some (.lst []) := up_same
    generalize up M p (.lst []) = M1 at K1 hf1 ep1
    simp
    simp only [b__law_balanced_8]
    simp [l2, l3]
    refine newL_cut fun q M2 L2 eq2 => ?_
    have K2 : Kf f M M2 := K1.trans L2.kf
    have hf2 := L2 _ _ hf1
    have ep2 := L2 _ _ ep1
    simp [eq2]
    have qp : q ≠ p := by
      intro e
      subst e
      rw [eq2] at ep2
      cases ep2
    refine for_itL (BalI f p w h M2)
      ⟨⟨_, _, _, _, _, [], rfl, Kf.refl, ep2, Nat.le_refl _, by simp, fun h => by omega, fun h => by omega⟩⟩ (fun i σ M' hi hI => ?_) (fun i z σ M' hz hI => ?_) (fun σ M' hI => ?_)
    · obtain ⟨x4, x5, x6, x7, x8, ws, rfl, k1, k2, k3, k4, k5, k6⟩ := hI.ex
      exact seqT_lst (k1 _ _ qp eq2)
    · obtain ⟨x4, x5, x6, x7, x8, ws, rfl, k1, k2, k3, k4, k5, k6⟩ := hI.ex
      have e1 : ((h : Int) - 1) = ((h - 1 : Nat) : Int) := by omega
      rcases i with _ | _ | _ | i
      · simp at hz
        subst hz
        simp
        rw [e1]
        refine bal_turn hw2 (by omega) (by omega) (by omega) (by omega) (by omega) k2 (by omega) k4 fun x6 x7 M3 ws' m1 m2 m3 m4 m5 m6 => ?_
        exact ⟨⟨_, _, _, _, _, ws', rfl, k1.trans m1, m2, by omega, m4, fun _ c => m6 c, fun h => by omega⟩⟩
      · simp at hz
        subst hz
        simp
        rw [e1]
        by_cases c : 2 ≤ h
        · have e2 : ((h : Int) - 2) = ((h - 2 : Nat) : Int) := by omega
          rw [e2]
          refine bal_turn hw2 (by omega) (by omega) (by omega) (by omega) (by omega) k2 (by omega) k4 fun x6 x7 M3 ws' m1 m2 m3 m4 m5 m6 => ?_
          exact ⟨⟨_, _, _, _, _, ws', rfl, k1.trans m1, m2, by omega, m4, fun _ c => m5 (k5 (by omega) c), fun _ c => m6 c.2⟩⟩
        · refine bal_skip (.inr (by omega)) ?_
          exact ⟨⟨_, _, _, _, _, ws, rfl, k1, k2, by omega, k4, fun _ c => k5 (by omega) c, fun _ c' => absurd c'.1 c⟩⟩
      · simp at hz
        subst hz
        simp
        rw [e1]
        by_cases c : 2 ≤ h
        · have e2 : ((h : Int) - 2) = ((h - 2 : Nat) : Int) := by omega
          rw [e2]
          refine bal_turn hw2 (by omega) (by omega) (by omega) (by omega) (by omega) k2 (by omega) k4 fun x6 x7 M3 ws' m1 m2 m3 m4 m5 m6 => ?_
          exact ⟨⟨_, _, _, _, _, ws', rfl, k1.trans m1, m2, by omega, m4, fun _ c => m5 (k5 (by omega) c), fun _ c => m5 (k6 (by omega) c)⟩⟩
        · refine bal_skip (.inl (by omega)) ?_
          exact ⟨⟨_, _, _, _, _, ws, rfl, k1, k2, by omega, k4, fun _ c => k5 (by omega) c, fun _ c' => absurd c'.1 c⟩⟩
      · simp at hz
    · obtain ⟨x4, x5, x6, x7, x8, ws, rfl, k1, k2, k3, k4, k5, k6⟩ := hI.ex
      have hne : ws ≠ [] := by
        rcases ways_some (by omega) hl hw with c | c
        · exact k5 (by simp) c
        · exact k6 (by simp) c
      have hpos : 0 < ws.length := List.length_pos_iff.mpr hne
      have k3 : ws.length ≤ 3 := k3
      have hf3 : M' f = some o := k1 _ _ fp hf2
      have K3 : Kf f M M' := fun a u ha e => k1 a u (m_ne e hp) (K2 a u ha e)
      simp
      simp only [b__law_balanced_7]
      simp
      refine ⟨_, _, rfl, f, ws, n, o, rfl, lenT_lst k2, seqT_lst k2, (fun e => by cases e; exact fp rfl), hpos, by omega, by omega, hf3, hF, fun r o1 hr1 hF1 => ?_⟩
      obtain ⟨l, r2, lo, hi, rfl, g1, g2, g3, g4, g5, g6, g7, g8⟩ := k4 r hr1
      have hf4 : up M' f o1 f = some o1 := up_same
      have K4 : Kf f M (up M' f o1) := K3.trans Kf.feed
      generalize up M' f o1 = M4 at hf4 K4
      simp
      simp only [b__law_balanced_6]
      simp
      refine ⟨_, _, rfl, f, (hi : Int) - lo + 1, _, o1, rfl, rfl, by omega, by omega, by omega, hf4, hF1, fun x o2 hx1 hx2 hF2 => ?_⟩
      obtain ⟨first, hfi⟩ : ∃ first : Nat, (lo : Int) + x = first := ⟨((lo : Int) + x).toNat, by omega⟩
      simp [hfi]
      simp only [b__law_balanced_5]
      simp
      have hwf : (w : Int) - (first : Int) = ((w - first : Nat) : Int) := by omega
      have p2 := leastN_pos r2
      have p1 := leastN_pos l
      refine ⟨_, _, _, rfl, f, first, l, _, o2, rfl, rfl, rfl, by omega, by omega, by omega, by omega, by omega, by omega, up_same, hF2, fun s1 o3 s1w s1h s1b hF3 => ?_⟩
      rw [up_up]
      simp
      refine ⟨_, _, _, rfl, f, w - first, r2, _, o3, rfl, by rw [hwf], rfl, by omega, by omega, by omega, by omega, by omega, by omega, up_same, hF3, fun s2 o4 s2w s2h s2b hF4 => ?_⟩
      rw [up_up]
      simp [l2]
      refine Fg.le (Kf.le (K4.trans Kf.feed) up_same) (hq (.pair s1 s2) o4 ?_ ?_ ?_ (hF4.mono (by omega)))
      · show s1.width + s2.width = w
        omega
      · show 1 + max s1.height s2.height = h
        omega
      · simp only [Sh.bal, Bool.and_eq_true, decide_eq_true_eq]
        exact ⟨⟨⟨s1b, s2b⟩, by omega⟩, by omega⟩
end T

/-! I: shapes and things drawn. -/
namespace T
open PySem PySem.Spec PyProof.Rows L2
open Sh
theorem tall_fits : ∀ t, leastN (t + 1) ≤ 2 ^ t + 1
  | 0 => by decide
  | 1 => by decide
  | t + 2 => by
    have a := tall_fits (t + 1)
    have b := tall_fits t
    have e : 2 ^ (t + 2) = 2 ^ (t + 1) + 2 ^ t + 2 ^ t := by rw [Nat.pow_succ, Nat.pow_succ]; omega
    have p := Nat.two_pow_pos t
    show leastN (t + 2) + leastN (t + 1) ≤ _
    rw [show t + 1 + 1 = t + 2 from rfl] at a
    omega
def sp__law_any_balanced : Sp2 := A2 fun a b M Q _ => ∃ (f : Addr) (m n : Nat) (o : MO), a = .loc f ∧ b = .int m ∧ 1 ≤ m ∧ m ≤ 20000 ∧ n + 2 * m + 10 ≤ 100000000 ∧ M f = some o ∧ FeedO n o ∧ ∀ (s : Sh) o', s.bal = true → s.width ≤ m → s.height ≤ 20 → FeedO (n + 2 * m + 2) o' → Q (shT s) (up M f o')
def n__law_any_balanced : List Str := "feed" :: "most" :: "width" :: "low" :: []
def b__law_any_balanced_1 : TS2 := (sRt (eCall (sp__law_balanced mx__law_balanced) [] (aCons (eVar 0) (aCons (eVar 2) (aCons (eOp rAdd2 (eVar 3) (eCall sp__law_draw [] (aCons (eVar 0) (aCons (eOp rAdd2 (eOp rSub2 (eCall sp__law_tallest [] (aCons (eVar 2) aNil)) (eVar 3)) (eC (.int 1))) aNil)))) aNil)))))
def b__law_any_balanced_2 : TS2 := (sSq (sAs (eBits (eOp rSub2 (eVar 2) (eC (.int 1)))) (gN 3))
  b__law_any_balanced_1)
def b__law_any_balanced : TS2 := (sSq (sAs (eOp rAdd2 (eC (.int 1)) (eCall sp__law_draw [] (aCons (eVar 0) (aCons (eVar 1) aNil)))) (gN 2))
  b__law_any_balanced_2)
theorem sem__law_any_balanced : ∀ ds M Q E, sp__law_any_balanced ds M Q E → b__law_any_balanced (fEnds Q E) (start2 n__law_any_balanced ds) M := by
  rintro ds M Q E ⟨a, b, rfl, f, m, n, o, rfl, rfl, hm, hm2, hn, hf, hF, hq⟩
  simp only [b__law_any_balanced, start2, n__law_any_balanced]
  simp
  refine ⟨_, _, rfl, f, m, n, o, rfl, rfl, by omega, by omega, by omega, hf, hF, fun r o1 h1 h2 hF1 => ?_⟩
  obtain ⟨w, hw⟩ : ∃ w : Nat, (1 : Int) + r = w := ⟨(1 + r).toNat, by omega⟩
  simp [hw]
  simp only [b__law_any_balanced_2]
  simp
  have hlow : ∀ j, Builtin.Int.intBits ((w : Int) - 1) ≤ j ↔ w ≤ 2 ^ j := fun j => by
    rw [intBits_le_iff]
    have : ((w : Int) - 1).natAbs = w - 1 := by omega
    rw [this]
    have := Nat.two_pow_pos j
    omega
  generalize Builtin.Int.intBits ((w : Int) - 1) = low at hlow
  simp only [b__law_any_balanced_1]
  simp
  refine ⟨_, rfl, w, rfl, by omega, fun t ht => ?_⟩
  have t20 := ht.le (by omega)
  have lt : low ≤ t := (hlow t).mpr (by have := tall_fits t; have := ht.hi; omega)
  simp
  refine ⟨_, _, rfl, f, (t : Int) - low + 1, n + 1, o1, rfl, rfl, by omega, by omega, by omega, up_same, hF1, fun r2 o2 h3 h4 hF2 => ?_⟩
  rw [up_up]
  obtain ⟨h, hh⟩ : ∃ h : Nat, (low : Int) + r2 = h := ⟨((low : Int) + r2).toNat, by omega⟩
  simp [hh]
  have c1 : leastN h ≤ w := by
    have := leastN_mono (show h ≤ t by omega)
    rcases ht.lo with e | e
    · have : h = 0 := by omega
      subst this
      show 1 ≤ w
      omega
    · omega
  have c2 : w ≤ 2 ^ h := by
    have := (hlow low).mp (Nat.le_refl _)
    have : 2 ^ low ≤ 2 ^ h := Nat.pow_le_pow_right (by decide) (by omega)
    omega
  refine ⟨_, _, _, rfl, f, w, h, n + 1 + 1, o2, rfl, rfl, rfl, by show h < 41; omega, by omega, c1, c2, by omega, by omega, up_same, hF2, fun s o3 sw sh sb hF3 => ?_⟩
  rw [up_up]
  exact Fg.same (hq s o3 sb (by omega) (by omega) (hF3.mono (by omega)))
theorem wf_fd {M M' : Ms} {f : Addr} {n n' : Nat} {o o' : MO} (K : Kf f M M') (hf : M f = some o) (hF : FeedO n o) (hf' : M' f = some o') (hF' : FeedO n' o') {t : Tr} (h : Wf M t) : Wf M' t := by
  induction h with
  | leaf t s h hz hn =>
    refine .leaf t s ?_ hz hn
    cases t with
    | loc a =>
      by_cases c : a = f
      · subst c
        obtain ⟨_, _, _, h1, _⟩ := hF
        obtain ⟨_, _, _, h2, _⟩ := hF'
        subst h1 h2
        simp only [tyT, hf] at h
        simp only [tyT, hf']
        exact h
      · simp only [tyT] at h ⊢
        cases hc : M a with
        | none => rw [hc] at h; cases h
        | some u => rw [K a u c hc]; rw [hc] at h; exact h
    | _ => exact h
  | tup l _ hl ih => exact .tup l ih hl
theorem wf_up {M : Ms} {p : Addr} {l l' : List Tr} (hp : M p = some (.lst l)) {t : Tr} (h : Wf M t) : Wf (up M p (.lst l')) t := by
  induction h with
  | leaf t s h hz hn =>
    refine .leaf t s ?_ hz hn
    cases t with
    | loc a =>
      by_cases c : a = p
      · subst c
        simp only [tyT, hp] at h
        simp only [tyT, up_same]
        exact h
      · simp only [tyT] at h ⊢
        rw [up_ne c]; exact h
    | _ => exact h
  | tup l _ hl ih => exact .tup l ih hl
theorem Kf.put {f p : Addr} {M M' : Ms} {o : MO} (hp : M p = none) (K : Kf f M M') : Kf f M (T.up M' p o) := fun a u ha e => by rw [up_ne (m_ne e hp)]; exact K a u ha e
def sp__law_grown : Sp2 := A3 fun a b c M Q _ => ∃ (f : Addr) (m n : Nat) (k : Int) (o : MO), a = .loc f ∧ b = .int m ∧ c = .int k ∧ 1 ≤ m ∧ m ≤ 12 ∧ -1 ≤ k ∧ k < m ∧ n ≤ 100000000 ∧ M f = some o ∧ FeedO n o ∧
  ∀ (d : Tr) M' o', Kf f M M' → M' f = some o' → FeedO (n + 13) o' → Wf M' d → hT d ≤ 13 → Q d M'
def n__law_grown : List Str := "feed" :: "many" :: "spoil" :: "pool" :: "turn" :: "at" :: []
def b__law_grown_1 : TS2 := (sAs (eCall sp__law_one [] (aCons (eVar 0) (aCons (eLst (aCons (eC (.bl true)) (aCons (eC (.bl false)) (aCons (eC (.int 0)) (aCons (eC (.int 1)) (aCons (eC (.str "")) (aCons (eC (.str "a")) (aCons (eTup aNil) (aCons (eLst aNil) (aCons eD0 (aCons (eTup (aCons (eC .non) aNil)) (aCons (eLst (aCons (eC .non) (aCons (eC .non) aNil))) (aCons (eTup (aCons (eC .non) (aCons (eC .non) (aCons (eC .non) aNil)))) aNil))))))))))))) aNil))) (gSb rPut2 (eVar 3) (eVar 2)))
def b__law_grown_2 : TS2 := (sAs (eLst (aCons (eTup (aCons (eOp rIx2 (eVar 3) (eVar 5)) (aCons (eOp rIx2 (eVar 3) (eOp rAdd2 (eVar 5) (eC (.int 1)))) aNil))) aNil)) (gSlc (eVar 3) (oPart (eVar 5)) (oPart (eOp rAdd2 (eVar 5) (eC (.int 2))))))
def b__law_grown_3 : TS2 := (sSq (sAs (eCall sp__law_draw [] (aCons (eVar 0) (aCons (eOp rSub2 (eB rLen2 (aCons (eVar 3) aNil)) (eC (.int 1))) aNil))) (gN 5))
  b__law_grown_2)
def b__law_grown_4 : TS2 := (sSq (sFo (iRg1 (aCons (eOp rSub2 (eVar 1) (eC (.int 1))) aNil)) (gN 4) b__law_grown_3)
  (sRt (eOp rIx2 (eVar 3) (eC (.int 0)))))
def b__law_grown_5 : TS2 := (sSq (sIf (tCm (eOp rGeI (eVar 2) (eC (.int 0)))) b__law_grown_1 sNx)
  b__law_grown_4)
def b__law_grown : TS2 := (sSq (sAs (eOp rMul2 (eLst (aCons (eC .non) aNil)) (eVar 1)) (gN 3))
  b__law_grown_5)
theorem sem__law_grown : ∀ ds M Q E, sp__law_grown ds M Q E → b__law_grown (fEnds Q E) (start2 n__law_grown ds) M := by
  rintro ds M Q E ⟨a, b, c, rfl, f, m, n, k, o, rfl, rfl, rfl, hm, hm2, hk, hk2, hn, hf, hF, hq⟩
  have l1 : 1 ≤ sizeLine := small_line (by decide)
  have l2 : 2 ≤ sizeLine := small_line (by decide)
  have l3 : 3 ≤ sizeLine := small_line (by decide)
  have l12 : 12 ≤ sizeLine := small_line (by decide)
  simp only [b__law_grown, start2, n__law_grown]
  simp [l1]
  refine newL_cut fun q M1 L1 eq1 => ?_
  simp [eq1]
  refine ⟨by omega, by rw [sizeLine_eq]; omega, ?_⟩
  intro p hp
  have fp : f ≠ p := m_ne (L1 _ _ hf) hp
  have L2 : Le M1 (up M1 p (.lst (List.replicate m .non))) := Le.new hp
  have ep : up M1 p (.lst (List.replicate m .non)) p = some (.lst (List.replicate m .non)) := up_same
  have hpM : M p = none := L1.none hp
  have L12 := L1.trans L2
  have hf2 := L12 _ _ hf
  have fin : ∀ (M3 : Ms) (o3 : MO) (xs : List Tr), M3 p = some (.lst xs) → xs.length = m → (∀ x ∈ xs, Wf M3 x ∧ hT x ≤ 1) → Kf f M M3 → M3 f = some o3 → FeedO (n + 1) o3 → b__law_grown_4 (fEnds Q E) [some (.loc f), some (.int m), some (.int k), some (.loc p), none, none] M3 := by
    intro M3 o3 xs e3 hl hx K3 hf3 hF3
    simp only [b__law_grown_4]
    simp
    refine ⟨by unfold Rg; omega, ?_⟩
    have hK : (((m : Int) - 1).toNat) = m - 1 := by omega
    rw [hK]
    refine for_itR (fun i σ M' => ∃ z4 z5 ys o', σ = [some (.loc f), some (.int m), some (.int k), some (.loc p), z4, z5] ∧ M' p = some (.lst ys) ∧ ys.length = m - i ∧ (∀ x ∈ ys, Wf M' x ∧ hT x ≤ 1 + i) ∧ Kf f M M' ∧ M' f = some o' ∧ FeedO (n + 1 + i) o') ⟨_, _, xs, o3, rfl, e3, by omega, fun x h => hx x h, K3, hf3, hF3⟩ (fun i σ M0 hi h => ?_) (fun σ M0 h => ?_)
    · obtain ⟨z4, z5, ys, o', rfl, ey, hyl, hy, K0, hf0, hF0⟩ := h
      simp only [b__law_grown_3]
      simp [ey]
      refine ⟨_, _, rfl, f, (ys.length : Int) - 1, _, o', rfl, rfl, by omega, by omega, by omega, hf0, hF0, fun r o1 h1 h2 hF1 => ?_⟩
      obtain ⟨a, rfl⟩ : ∃ a : Nat, r = a := ⟨r.toNat, by omega⟩
      simp only [b__law_grown_2]
      have ey1 : up M0 f o1 p = some (.lst ys) := by rw [up_ne fp.symm]; exact ey
      have hf1 : up M0 f o1 f = some o1 := up_same
      have K1 : Kf f M (up M0 f o1) := K0.trans Kf.feed
      have hy1 : ∀ x ∈ ys, Wf (up M0 f o1) x ∧ hT x ≤ 1 + i := fun x h => ⟨wf_fd Kf.feed hf0 hF0 up_same hF1 (hy x h).1, (hy x h).2⟩
      generalize up M0 f o1 = M1 at ey1 hf1 K1 hy1
      simp [ey1]
      have lt1 : a < ys.length := by omega
      have lt2 : a + 1 < ys.length := by omega
      have g1 : ys[a]? = some ys[a] := List.getElem?_eq_getElem lt1
      have g2 : ys[a + 1]? = some ys[a + 1] := List.getElem?_eq_getElem lt2
      obtain ⟨w1, t1⟩ := hy1 ys[a] (List.getElem_mem lt1)
      obtain ⟨w2, t2⟩ := hy1 ys[a + 1] (List.getElem_mem lt2)
      generalize ys[a] = x at g1 w1 t1
      generalize ys[a + 1] = y at g2 w2 t2
      rw [kAt_get g1, show (a : Int) + 1 = ((a + 1 : Nat) : Int) from rfl, kAt_get g2]
      refine ⟨l1, fun q hq => ?_⟩
      have pq : p ≠ q := m_ne ey1 hq
      have eq2 : up M1 q (.lst [.tup [x, y]]) q = some (.lst [.tup [x, y]]) := up_same
      have ey2 : up M1 q (.lst [.tup [x, y]]) p = some (.lst ys) := by rw [up_ne pq]; exact ey1
      have L2 : Le M1 (up M1 q (.lst [.tup [x, y]])) := Le.new hq
      generalize up M1 q (.lst [.tup [x, y]]) = M2 at eq2 ey2 L2
      simp
      have ea : ((a : Int) + 2).toNat = a + 2 := by omega
      refine setSl_of (ys := [.tup [x, y]]) pq (by omega) (by omega) (by omega) ey2 eq2 (by rw [sizeLine_eq]; simp; omega) ?_
      rw [Int.toNat_natCast, ea]
      refine ⟨_, _, _, o1, rfl, up_same, ?_, fun z hz => ?_, Kf.put hpM (K1.trans L2.kf), by rw [up_ne fp]; exact L2 _ _ hf1, hF1.mono (by omega)⟩
      · simp
        omega
      · have old : ∀ z ∈ ys, Wf (up M2 p (.lst (ys.take a ++ [.tup [x, y]] ++ ys.drop (a + 2)))) z ∧ hT z ≤ 1 + (i + 1) := fun z hz => ⟨wf_up ey2 ((hy1 z hz).1.le L2), by have := (hy1 z hz).2; omega⟩
        rcases List.mem_append.mp hz with h | h
        · rcases List.mem_append.mp h with h | h
          · exact old z (List.mem_of_mem_take h)
          · rw [List.mem_singleton.mp h]
            refine ⟨.tup _ (fun u hu => ?_) (by show 2 ≤ 100000; decide), by show max (hT x) (max (hT y) 0) + 1 ≤ _; omega⟩
            simp at hu
            rcases hu with rfl | rfl
            · exact wf_up ey2 (w1.le L2)
            · exact wf_up ey2 (w2.le L2)
        · exact old z (List.mem_of_mem_drop h)
    · obtain ⟨z4, z5, ys, o', rfl, ey, hyl, hy, K0, hf0, hF0⟩ := h
      obtain ⟨x, rfl⟩ : ∃ x, ys = [x] := by
        match ys, hyl with
        | [x], _ => exact ⟨x, rfl⟩
        | [], h => exact absurd h (by show ¬ 0 = _; omega)
        | _ :: _ :: _, h => exact absurd h (by simp; omega)
      simp [ey]
      obtain ⟨w, ht⟩ := hy x (by simp)
      exact Fg.same (hq x M0 o' K0 hf0 (hF0.mono (by omega)) w (by omega))
  simp only [b__law_grown_5]
  simp
  by_cases c : 0 ≤ k
  · simp [c]
    simp only [b__law_grown_1]
    simp
    generalize up M1 p (.lst (List.replicate m .non)) = M3 at ep L2 L12 hf2
    have K3 := L12.kf (f := f)
    intro d1 hd1
    have L4 : Le M3 (up M3 d1 (.lst [])) := Le.new hd1
    have e1 : up M3 d1 (.lst []) d1 = some (.lst []) := up_same
    generalize up M3 d1 (.lst []) = M4 at L4 e1
    intro d2 hd2
    have L5 : Le M4 (up M4 d2 (.dic [])) := Le.new hd2
    have e2 : up M4 d2 (.dic []) d2 = some (.dic []) := up_same
    have e12 := L5 _ _ e1
    generalize up M4 d2 (.dic []) = M5 at L5 e2 e12
    refine ⟨l1, l2, fun d3 hd3 => ?_⟩
    have L6 : Le M5 (up M5 d3 (.lst [.non, .non])) := Le.new hd3
    have e3 : up M5 d3 (.lst [.non, .non]) d3 = some (.lst [.non, .non]) := up_same
    have e13 := L6 _ _ e12
    have e23 := L6 _ _ e2
    generalize up M5 d3 (.lst [.non, .non]) = M6 at L6 e3 e13 e23
    refine ⟨l3, l12, fun d4 hd4 => ?_⟩
    generalize ell : [Tr.bl true, Tr.bl false, Tr.int 0, Tr.int 1, Tr.str "", Tr.str "a", Tr.tup [], Tr.loc d1, Tr.loc d2, Tr.tup [Tr.non], Tr.loc d3, Tr.tup [Tr.non, Tr.non, Tr.non]] = ll
    have L7 : Le M6 (up M6 d4 (.lst ll)) := Le.new hd4
    have e4 : up M6 d4 (.lst ll) d4 = some (.lst ll) := up_same
    have L47 := ((L4.trans L5).trans L6).trans L7
    have hf7 := L47 _ _ hf2
    have ep7 := L47 _ _ ep
    have e17 := L7 _ _ e13
    have e27 := L7 _ _ e23
    have e37 := L7 _ _ e3
    have K7 : Kf f M (up M6 d4 (.lst ll)) := K3.trans L47.kf
    have f4 : f ≠ d4 := m_ne ((((L4.trans L5).trans L6)) _ _ hf2) hd4
    generalize up M6 d4 (.lst ll) = M7 at e4 L47 hf7 ep7 e17 e27 e37 K7
    have hw : ∀ x ∈ ll, Wf M7 x ∧ hT x ≤ 1 := by
      subst ell
      intro x hx
      simp at hx
      rcases hx with rfl | rfl | rfl | rfl | rfl | rfl | rfl | rfl | rfl | rfl | rfl | rfl
      · exact ⟨.leaf _ "bool" rfl (fun _ e => by cases e) (by decide), by decide⟩
      · exact ⟨.leaf _ "bool" rfl (fun _ e => by cases e) (by decide), by decide⟩
      · exact ⟨.leaf _ "int" rfl (fun _ e => by cases e) (by decide), by decide⟩
      · exact ⟨.leaf _ "int" rfl (fun _ e => by cases e) (by decide), by decide⟩
      · exact ⟨.leaf _ "str" rfl (fun _ e => by cases e; decide) (by decide), by decide⟩
      · exact ⟨.leaf _ "str" rfl (fun _ e => by cases e; decide) (by decide), by decide⟩
      · exact ⟨.tup _ (fun _ h => by cases h) (by decide), by decide⟩
      · exact ⟨.leaf _ "list" (by simp [tyT, e17]) (fun _ e => by cases e) (by decide), by show 0 ≤ 1; decide⟩
      · exact ⟨.leaf _ "dict" (by simp [tyT, e27]) (fun _ e => by cases e) (by decide), by show 0 ≤ 1; decide⟩
      · exact ⟨.tup _ (fun x h => by rw [List.mem_singleton.mp h]; exact wf_sh .leaf) (by decide), by decide⟩
      · exact ⟨.leaf _ "list" (by simp [tyT, e37]) (fun _ e => by cases e) (by decide), by show 0 ≤ 1; decide⟩
      · exact ⟨.tup _ (fun x h => by simp at h; rw [h]; exact wf_sh .leaf) (by decide), by decide⟩
    refine ⟨_, _, rfl, f, ll, n, o, rfl, lenT_lst e4, seqT_lst e4, (fun e => by cases e; exact f4 rfl), by subst ell; simp, by subst ell; simp, by omega, hf7, hF, fun r o1 hr hF1 => ?_⟩
    obtain ⟨wr, tr⟩ := hw r hr
    have wr1 := wf_fd Kf.feed hf7 hF up_same hF1 wr
    have ep8 : up M7 f o1 p = some (.lst (List.replicate m .non)) := by rw [up_ne fp.symm]; exact ep7
    have hf8 : up M7 f o1 f = some o1 := up_same
    have K8 : Kf f M (up M7 f o1) := K7.trans Kf.feed
    generalize up M7 f o1 = M8 at wr1 ep8 hf8 K8
    obtain ⟨j, rfl⟩ : ∃ j : Nat, k = j := ⟨k.toNat, by omega⟩
    simp [ep8]
    rw [kIx_nat (by omega)]
    refine fin _ o1 _ up_same (by simp) (fun x hx => ?_) (Kf.put hpM K8) (by rw [up_ne fp]; exact hf8) hF1
    rcases List.mem_or_eq_of_mem_set hx with h | h
    · rw [List.eq_of_mem_replicate h]; exact ⟨wf_sh .leaf, by decide⟩
    · rw [h]; exact ⟨wf_up ep8 wr1, tr⟩
  · simp [c]
    exact fin _ o _ ep (by simp) (fun x hx => by rw [List.eq_of_mem_replicate hx]; exact ⟨wf_sh .leaf, by decide⟩) L12.kf hf2 (hF.mono (by omega))
end T

/-! I: shapes drawn, perhaps none; what a perhaps-shape is. -/
namespace T
open PySem PySem.Spec PyProof.Rows L2
open Sh
theorem sh_h {d : Tr} {s : Sh} (e : d = shT s) : s.height = hT d := by rw [e]; exact (shT_nb s).2.symm
def sp__law_shape : Sp2 := A2 fun a b M Q _ => ∃ (f : Addr) (m n : Nat) (o : MO), a = .loc f ∧ b = .int m ∧ 1 ≤ m ∧ m ≤ 20000 ∧ n + 2 * m + 20 ≤ 100000000 ∧ M f = some o ∧ FeedO n o ∧
  ∀ (d : Tr) M' o', Kf f M M' → M' f = some o' → FeedO (n + 2 * m + 20) o' → ShOk M' d → hT d ≤ 20 → Q d M'
def n__law_shape : List Str := "feed" :: "most" :: "way" :: "many" :: []
def b__law_shape_1 : TS2 := (sRt (eCall sp__law_any_balanced [] (aCons (eVar 0) (aCons (eVar 1) aNil))))
def b__law_shape_2 : TS2 := (sRt (eCall sp__law_grown [] (aCons (eVar 0) (aCons (eVar 3) (aCons (eIf (tCm (eOp (rEqG id) (eVar 2) (eC (.int 6)))) (eCall sp__law_draw [] (aCons (eVar 0) (aCons (eVar 3) aNil))) (eUn rNeg2 (eC (.int 1)))) aNil)))))
def b__law_shape_3 : TS2 := (sSq (sAs (eOp rAdd2 (eC (.int 1)) (eCall sp__law_draw [] (aCons (eVar 0) (aCons (eC (.int 12)) aNil)))) (gN 3))
  b__law_shape_2)
def b__law_shape_4 : TS2 := (sSq (sIf (tCm (eOp rLtI (eVar 2) (eC (.int 6)))) b__law_shape_1 sNx)
  b__law_shape_3)
def b__law_shape : TS2 := (sSq (sAs (eCall sp__law_draw [] (aCons (eVar 0) (aCons (eC (.int 9)) aNil))) (gN 2))
  b__law_shape_4)
theorem sem__law_shape : ∀ ds M Q E, sp__law_shape ds M Q E → b__law_shape (fEnds Q E) (start2 n__law_shape ds) M := by
  rintro ds M Q E ⟨a, b, rfl, f, m, n, o, rfl, rfl, hm, hm2, hn, hf, hF, hq⟩
  simp only [b__law_shape, start2, n__law_shape]
  simp
  refine ⟨_, _, rfl, f, 9, n, o, rfl, rfl, by decide, by decide, by omega, hf, hF, fun way o1 h1 h2 hF1 => ?_⟩
  have hf1 : up M f o1 f = some o1 := up_same
  have K1 : Kf f M (up M f o1) := Kf.feed
  generalize up M f o1 = M1 at hf1 K1
  simp only [b__law_shape_4]
  simp
  by_cases c : way < 6
  · simp [c]
    simp only [b__law_shape_1]
    simp
    refine ⟨_, _, rfl, f, m, n + 1, o1, rfl, rfl, hm, hm2, by omega, hf1, hF1, fun s o2 sb sw sh hF2 => ?_⟩
    exact Fg.same (hq _ _ o2 (K1.trans Kf.feed) up_same (hF2.mono (by omega)) ⟨wf_sh s, fun t e => by rw [← shT_inj.mp e]; omega⟩ (by rw [(shT_nb s).2]; exact sh))
  · simp [c]
    simp only [b__law_shape_3]
    simp
    refine ⟨_, _, rfl, f, 12, n + 1, o1, rfl, rfl, by decide, by decide, by omega, hf1, hF1, fun r o2 h3 h4 hF2 => ?_⟩
    obtain ⟨many, hmany⟩ : ∃ many : Nat, (1 : Int) + r = many := ⟨(1 + r).toNat, by omega⟩
    have hf2 : up M1 f o2 f = some o2 := up_same
    have K2 : Kf f M (up M1 f o2) := K1.trans Kf.feed
    generalize up M1 f o2 = M2 at hf2 K2
    simp [hmany]
    simp only [b__law_shape_2]
    simp
    have go : ∀ (E0 : X2) (k : Int) M3 o3, -1 ≤ k → k < many → Kf f M M3 → M3 f = some o3 → FeedO (n + 3) o3 → sp__law_grown [.loc f, .int many, .int k] M3 (Fg Q) E0 := by
      intro E0 k M3 o3 k1 k2 K3 hf3 hF3
      refine ⟨_, _, _, rfl, f, many, n + 3, k, o3, rfl, rfl, rfl, by omega, by omega, k1, k2, by omega, hf3, hF3, fun d M4 o4 K4 hf4 hF4 w t => ?_⟩
      refine Fg.same (hq d M4 o4 (K3.trans K4) hf4 (hF4.mono (by omega)) ⟨w, fun s e => ?_⟩ (by omega))
      have := sh_h e
      have := width_le s
      have : 2 ^ s.height ≤ 2 ^ 13 := Nat.pow_le_pow_right (by decide) (by omega)
      have : (2 : Nat) ^ 13 = 8192 := by decide
      omega
    by_cases c6 : way = 6
    · simp [c6]
      refine ⟨_, _, rfl, f, many, _, o2, rfl, rfl, by omega, by omega, by omega, hf2, hF2, fun k o3 h5 h6 hF3 => ?_⟩
      subst c6
      exact go _ k _ o3 (by omega) h6 (K2.trans Kf.feed) up_same hF3
    · simp [c6]
      exact go _ (-1) _ o2 (by omega) (by omega) K2 hf2 (hF2.mono (by omega))
theorem nb_o (o : Option Sh) : nbT (oShT o) = true := by
  cases o with
  | none => rfl
  | some s => exact (shT_nb s).1
theorem hT_o {o : Option Sh} (h : ohei o ≤ 40) : hT (oShT o) ≤ 41 := by
  cases o with
  | none => show 0 + 1 ≤ 41; decide
  | some s =>
    have h : s.height ≤ 40 := h
    show hT (shT s) ≤ 41
    rw [(shT_nb s).2]; omega
theorem wf_o {M : Ms} (o : Option Sh) : Wf M (oShT o) := by
  cases o with
  | none => exact .tup _ (fun _ h => by cases h) (by decide)
  | some s => exact wf_sh s
theorem max_smallI {n : Nat} {a b : Int} (ha : 0 ≤ a) (hab : a ≤ b) (hb : b ≤ 100) :
    Rg (if a < (if (n : Int) < b then (n : Int) else b) then (if (n : Int) < b then (n : Int) else b) else a) := by unfold Rg; split <;> split <;> omega
theorem max_turnsI {n : Nat} {a b : Int} (ha : 0 ≤ a) (hab : a ≤ b) : (if (if (n : Int) < b then (n : Int) else b) > a then (if (n : Int) < b then (n : Int) else b) else a).toNat ≤ b.toNat := by split <;> split <;> omega
end T

/-! H: even shapes by the law. -/
namespace T
open PySem PySem.Spec PyProof.Rows L2
theorem valT_cons {x : Key × Tr} {kvs : List (Key × Tr)} {k : Key} : valT (x :: kvs) k = if x.1 = k then some x.2 else valT kvs k := by
  unfold valT
  rw [List.find?_cons]
  by_cases c : x.1 = k <;> simp [c]
theorem valT_map {kvs : List (Key × Tr)} {k j : Key} {v : Tr} : valT (kvs.map fun p => (p.1, if p.1 = k then v else p.2)) j = (valT kvs j).map fun y => if j = k then v else y := by
  induction kvs with
  | nil => rfl
  | cons x kvs ih =>
    rw [List.map_cons, valT_cons, valT_cons, ih]
    by_cases c : x.1 = j
    · rw [if_pos c, if_pos c]
      show some (if x.1 = k then v else x.2) = some (if j = k then v else x.2)
      rw [c]
    · rw [if_neg c, if_neg c]
theorem valT_any {kvs : List (Key × Tr)} {k : Key} : (kvs.any fun p => decide (p.1 = k)) = (valT kvs k).isSome := by
  induction kvs with
  | nil => rfl
  | cons x kvs ih =>
    rw [List.any_cons, ih, valT_cons]
    by_cases c : x.1 = k <;> simp [c]
theorem valT_app {kvs : List (Key × Tr)} {k j : Key} {v : Tr} (h : valT kvs k = none) : valT (kvs ++ [(k, v)]) j = if j = k then some v else valT kvs j := by
  induction kvs with
  | nil =>
    rw [List.nil_append, valT_cons]
    by_cases c : j = k
    · rw [if_pos c.symm, if_pos c]
    · rw [if_neg (fun z => c z.symm), if_neg c]
  | cons x kvs ih =>
    rw [valT_cons] at h
    by_cases c : x.1 = k
    · rw [if_pos c] at h; cases h
    · rw [if_neg c] at h
      rw [List.cons_append, valT_cons, valT_cons, ih h]
      by_cases c2 : x.1 = j
      · rw [if_pos c2, if_pos c2, if_neg (fun z => c (c2.trans z))]
      · rw [if_neg c2, if_neg c2]
theorem valT_put {kvs : List (Key × Tr)} {k j : Key} {v : Tr} : valT (putT kvs k v) j = if j = k then some v else valT kvs j := by
  unfold putT
  rw [valT_any]
  cases h : valT kvs k with
  | none => exact valT_app h
  | some y =>
    show valT (kvs.map fun p => (p.1, if p.1 = k then v else p.2)) j = _
    rw [valT_map]
    by_cases c : j = k
    · rw [if_pos c, c, h]; simp
    · rw [if_neg c]
      cases valT kvs j with
      | none => rfl
      | some z => simp [c]
theorem putT_len1 {kvs : List (Key × Tr)} {k : Key} {v : Tr} : (putT kvs k v).length ≤ kvs.length + 1 := by
  unfold putT
  split <;> simp
/-- what is known: even shapes by their widths, that of one child among them -/
structure KnI (kvs : List (Key × Tr)) : Prop where
  one : valT kvs (.inl 1) = some .non
  at_ : ∀ k v, valT kvs k = some v → ∃ n : Nat, k = .inl (n : Int) ∧ v = shT (evenS n)
abbrev mx__law_even : Nat := 41
def sp__law_even (rn : Nat) : Sp2 := A2 fun a b M Q _ => ∃ (w : Nat) (p : Addr) (kvs : List (Key × Tr)), a = .int w ∧ b = .loc p ∧ 1 ≤ w ∧ w ≤ 20000 ∧ 1 ≤ rn ∧ w ≤ 2 ^ (rn - 1) ∧ M p = some (.dic kvs) ∧ KnI kvs ∧ kvs.length + 2 * w ≤ 16000000 ∧
  ∀ M' kvs', Kf p M M' → M' p = some (.dic kvs') → KnI kvs' → kvs'.length + 1 ≤ kvs.length + w → Q (shT (evenS w)) M'
theorem zero__law_even : ∀ ds M Q E, ¬ sp__law_even 0 ds M Q E := by
  rintro ds M Q E ⟨_, _, rfl, _, _, _, _, _, _, _, h, _⟩
  omega
def n__law_even : List Str := "width" :: "known" :: []
def b__law_even_1 (rn : Nat) : TS2 := (sAs (eTup (aCons (eCall (sp__law_even rn) [] (aCons (eOp rDiv2 (eOp rAdd2 (eVar 0) (eC (.int 1))) (eC (.int 2))) (aCons (eVar 1) aNil))) (aCons (eCall (sp__law_even rn) [] (aCons (eOp rDiv2 (eVar 0) (eC (.int 2))) (aCons (eVar 1) aNil))) aNil))) (gSb rPut2 (eVar 1) (eVar 0)))
def b__law_even (rn : Nat) : TS2 := (sSq (sIf (tCm (eOp (rInX not) (eVar 0) (eVar 1))) (b__law_even_1 rn) sNx)
  (sRt (eOp rIxD2 (eVar 1) (eVar 0))))
theorem sem__law_even : ∀ (rn : Nat) ds M Q E, sp__law_even (rn + 1) ds M Q E → b__law_even rn (fEnds Q E) (start2 n__law_even ds) M := by
  rintro rn ds M Q E ⟨a, b, rfl, w, p, kvs, rfl, rfl, hw1, hw2, _, hwr, hp, hk, hl, hq⟩
  rw [Nat.add_sub_cancel] at hwr
  have l2 : 2 ≤ sizeLine := small_line (by decide)
  simp only [b__law_even, start2, n__law_even]
  simp
  refine rInX_dic hp rfl ?_
  cases hv : valT kvs (.inl (w : Int)) with
  | some v =>
    obtain ⟨n, e1, rfl⟩ := hk.at_ _ _ hv
    have e1 : n = w := by
      injection e1 with e1
      omega
    subst e1
    simp
    refine ⟨kvs, _, _, hp, rfl, hv, ?_⟩
    exact Fg.same (hq M kvs Kf.refl hp hk (by omega))
  | none =>
    have hw3 : 2 ≤ w := by
      rcases Nat.lt_or_ge w 2 with c | c
      · have : w = 1 := by omega
        subst this
        rw [show (((1 : Nat) : Int)) = 1 from rfl, hk.one] at hv
        cases hv
      · exact c
    obtain ⟨r, rfl⟩ : ∃ r, rn = r + 1 := by
      cases rn with
      | zero => have : (2 : Nat) ^ 0 = 1 := rfl; omega
      | succ r => exact ⟨r, rfl⟩
    rw [Nat.pow_succ] at hwr
    simp
    simp only [b__law_even_1]
    simp
    refine ⟨⟨by decide, by decide⟩, ?_⟩
    have d1 : ((w : Int) + 1) / 2 = (((w + 1) / 2 : Nat) : Int) := by omega
    have d2 : (w : Int) / 2 = ((w / 2 : Nat) : Int) := by omega
    rw [d1]
    refine ⟨_, _, rfl, (w + 1) / 2, p, kvs, rfl, rfl, by omega, by omega, by omega, by rw [Nat.add_sub_cancel]; omega, hp, hk, by omega, fun M1 k1 K1 hp1 hk1 hl1 => ?_⟩
    simp
    refine ⟨⟨by decide, by decide⟩, ?_⟩
    rw [d2]
    refine ⟨_, _, rfl, w / 2, p, k1, rfl, rfl, by omega, by omega, by omega, by rw [Nat.add_sub_cancel]; omega, hp1, hk1, by omega, fun M2 k2 K2 hp2 hk2 hl2 => ?_⟩
    simp [l2, hp2]
    have eS : shT (evenS w) = .tup [shT (evenS ((w + 1) / 2)), shT (evenS (w / 2))] := by rw [evenS_eq hw3]; rfl
    rw [← eS]
    have ln := @putT_len1 k2 (.inl (w : Int)) (shT (evenS w))
    have hk3 : KnI (putT k2 (.inl (w : Int)) (shT (evenS w))) := by
      refine ⟨?_, fun k v h => ?_⟩
      · rw [valT_put]
        by_cases c : (Sum.inl 1 : Key) = .inl (w : Int)
        · injection c with c; omega
        · rw [if_neg c]; exact hk2.one
      · rw [valT_put] at h
        by_cases c : k = .inl (w : Int)
        · rw [if_pos c] at h
          cases h
          exact ⟨w, c, rfl⟩
        · rw [if_neg c] at h
          exact hk2.at_ k v h
    refine ⟨by rw [sizeLine_eq]; omega, _, .inl (w : Int), shT (evenS w), up_same, rfl, by rw [valT_put, if_pos rfl], ?_⟩
    exact Fg.same (hq _ _ ((K1.trans K2).trans Kf.feed) up_same hk3 (by omega))
theorem rEq_sh {s : Sh} (hs : s.height ≤ 60) {f : Bool → Bool} {M : Ms} {Q : Q2} (h : Q (.bl (f true)) M) : rEqG f (shT s) (shT s) M Q := by
  obtain ⟨n1, n2⟩ := shT_nb s
  cases s with
  | leaf => simp [shT]; exact h
  | pair l r => exact rEq_tup _ _ true rfl rfl n1 n1 (by rw [hT_ok]; omega) (by rw [hT_ok]; omega) (by simp) h
end T

/-! J: the law k62, shapes joined. -/
namespace T
open PySem PySem.Spec PyProof.Rows L2
open Sh
abbrev ExF (cn : Cn) : Prop := cn.ex (cn.cl "BadShape") (cn.cl "BadShape") = some true ∧ cn.ex (cn.cl "BadBalance") (cn.cl "BadShape") = some false ∧ cn.ex (cn.cl "BadBalance") (cn.cl "BadBalance") = some true ∧ True
def spx__law_joined (cn : Cn) : Sp2 := A2 fun a b M Q _ => ShOk M a ∧ ShOk M b ∧
  (∀ s t, a = shT s → b = shT t → s.bal = true → t.bal = true → s.width + t.width ≤ 20000 → ∀ M', Le M M' → Q (.tup [.str "shape", shT (joinS s t)]) M') ∧
  (∀ s t, a = shT s → b = shT t → s.bal = true → t.bal = true → 20000 < s.width + t.width → Q (.tup [.str "BadBalance", .non]) M) ∧
  (trb a ≠ "" → Q (.tup [.str (trb a), .non]) M) ∧ (trb a = "" → trb b ≠ "" → Q (.tup [.str (trb b), .non]) M)
theorem trb_ok {s : Sh} (h : s.bal = true) : trb (shT s) = "" := by unfold trb; rw [shO_sh]; exact if_pos h
theorem trb_bal {s : Sh} (h : s.bal = false) : trb (shT s) = "BadBalance" := by unfold trb; rw [shO_sh]; exact if_neg (by rw [h]; decide)
theorem trb_no {a : Tr} (h : ∀ s, a ≠ shT s) : trb a = "BadShape" := by unfold trb; rw [shO_no.mpr h]
def n__law_joined : List Str := "one" :: "other" :: "got" :: []
def bx__law_joined_1 (cn : Cn) : TS2 := (sAs (eTup (aCons (eC (.str "shape")) (aCons (eCall (spx_joined_shapes cn) [] (aCons (eVar 0) (aCons (eVar 1) aNil))) aNil))) (gN 2))
def bx__law_joined_2 (cn : Cn) : TS2 := (sAs (eTup (aCons (eC (.str "BadBalance")) (aCons (eC .non) aNil))) (gN 2))
def bx__law_joined_3 (cn : Cn) : TS2 := (sAs (eTup (aCons (eC (.str "BadShape")) (aCons (eC .non) aNil))) (gN 2))
def bx__law_joined (cn : Cn) : TS2 := (sSq (sTryMany cn.ex ((cn.cl "BadShape", (bx__law_joined_3 cn)) :: ((cn.cl "BadBalance", (bx__law_joined_2 cn)) :: [])) (bx__law_joined_1 cn))
  (sRt (eVar 2)))
theorem semx__law_joined (cn : Cn) (hx : ExF cn) : ∀ ds M Q E, spx__law_joined cn ds M Q E → bx__law_joined cn (fEnds Q E) (start2 n__law_joined ds) M := by
  rintro ds M Q E ⟨a, b, rfl, ha, hb, h1, h2, h3, h4⟩
  obtain ⟨x1, x2, x3, _⟩ := hx
  have l2 : 2 ≤ sizeLine := small_line (by decide)
  have n1 : ¬ ("BadBalance" : Str) = "" := by decide
  have n2 : ¬ ("BadShape" : Str) = "" := by decide
  simp only [bx__law_joined, start2, n__law_joined]
  simp
  simp only [bx__law_joined_1]
  simp
  have bal : ∀ M0, Q (.tup [.str "BadBalance", .non]) M0 → xMany cn.ex { nx := sRt (eVar 2) (fEnds Q E), rt := Fg Q, bk := (fEnds Q E).bk, ct := (fEnds Q E).ct, ex := (fEnds Q E).ex } [(cn.cl "BadShape", bx__law_joined_3 cn), (cn.cl "BadBalance", bx__law_joined_2 cn)] (cn.cl "BadBalance") none [some a, some b, none] M0 := by
    intro M0 h
    refine ⟨false, x2, (fun h => by cases h), fun _ => ⟨true, x3, (fun _ => ?_), fun h => by cases h⟩⟩
    simp only [bx__law_joined_2]
    simp [l2]
    exact Fg.same h
  have shp : ∀ M0, Q (.tup [.str "BadShape", .non]) M0 → xMany cn.ex { nx := sRt (eVar 2) (fEnds Q E), rt := Fg Q, bk := (fEnds Q E).bk, ct := (fEnds Q E).ct, ex := (fEnds Q E).ex } [(cn.cl "BadShape", bx__law_joined_3 cn), (cn.cl "BadBalance", bx__law_joined_2 cn)] (cn.cl "BadShape") none [some a, some b, none] M0 := by
    intro M0 h
    refine ⟨true, x1, (fun _ => ?_), fun h => by cases h⟩
    simp only [bx__law_joined_3]
    simp [l2]
    exact Fg.same h
  refine ⟨_, _, rfl, ha, hb, fun s t e e2 bs bt hw M' L => ?_, fun s t e e2 bs bt hw => ?_, fun s t e e2 bs bt => ?_, fun s e bs hn => ?_, fun s e bs => ?_, fun hn => ?_⟩
  · simp [l2]
    exact Fg.same (h1 s t e e2 bs bt hw M' L)
  · exact bal _ (h2 s t e e2 bs bt hw)
  · have ta := trb_ok bs
    have tb := trb_bal bt
    rw [← e] at ta
    rw [← e2] at tb
    have := h4 ta (by rw [tb]; exact n1)
    rw [tb] at this
    exact bal _ this
  · have ta := trb_ok bs
    have tb := trb_no hn
    rw [← e] at ta
    have := h4 ta (by rw [tb]; exact n2)
    rw [tb] at this
    exact shp _ this
  · have ta := trb_bal bs
    rw [← e] at ta
    have := h3 (by rw [ta]; exact n1)
    rw [ta] at this
    exact bal _ this
  · have ta := trb_no hn
    have := h3 (by rw [ta]; exact n2)
    rw [ta] at this
    exact shp _ this
theorem trb_sh {a : Tr} (h : trb a = "") : ∃ s, a = shT s ∧ s.bal = true := by
  have n1 : ¬ ("BadBalance" : Str) = "" := by decide
  have n2 : ¬ ("BadShape" : Str) = "" := by decide
  unfold trb at h
  cases e : shO a with
  | none => rw [e] at h; exact absurd h n2
  | some s =>
    rw [e] at h
    cases hb : s.bal with
    | true => exact ⟨s, shO_eq.mp e, hb⟩
    | false =>
      have h : (if s.bal = true then ("" : Str) else "BadBalance") = "" := h
      rw [if_neg (by rw [hb]; decide)] at h
      exact absurd h n1
def spx__law_right (cn : Cn) : Sp2 := A2 fun a b M Q _ => ShOk M a ∧ ShOk M b ∧ hT a ≤ 40 ∧ hT b ≤ 40 ∧ ∀ M', Le M M' → Q (.bl true) M'
def n__law_right : List Str := "one" :: "other" :: "word" :: "shape" :: "thing" :: "width" :: "sizes" :: []
def bx__law_right_1 (cn : Cn) : TS2 := (sRt (eOp (rEqG id) (eVar 2) (eCall sp__law_trouble [] (aCons (eVar 4) aNil))))
def bx__law_right_2 (cn : Cn) : TS2 := (sIf (tCm (eOp (rEqG not) (eCall sp__law_trouble [] (aCons (eVar 4) aNil)) (eC (.str "")))) (bx__law_right_1 cn) sNx)
def bx__law_right_3 (cn : Cn) : TS2 := (sRt (eOp (rEqG id) (eCall (spx__law_joined cn) [] (aCons (eVar 0) (aCons (eVar 1) aNil))) (eTup (aCons (eC (.str "shape")) (aCons (eVar 3) aNil)))))
def bx__law_right_4 (cn : Cn) : TS2 := (sSq (sIf (tOrr (tCm (eOp (rEqG not) (eVar 2) (eC (.str "shape")))) (tOrr (tCm (eOp (rIsG id) (eVar 6) (eC .non))) (tCm (eOp (rEqG not) (eOp rIx2 (eVar 6) (eC (.int 0))) (eVar 5))))) (sRt (eC (.bl false))) sNx)
  (bx__law_right_3 cn))
def bx__law_right_5 (cn : Cn) : TS2 := (sSq (sAs (eCall (sp__law_sizes mx__law_sizes) [] (aCons (eVar 3) aNil)) (gN 6))
  (bx__law_right_4 cn))
def bx__law_right_6 (cn : Cn) : TS2 := (sSq (sIf (tCm (eOp rGtI (eVar 5) (eC (.int 20000)))) (sRt (eOp (rEqG id) (eVar 2) (eC (.str "BadBalance")))) sNx)
  (bx__law_right_5 cn))
def bx__law_right_7 (cn : Cn) : TS2 := (sSq (sAs (eOp rAdd2 (eOp rIx2 (eCall (sp__law_sizes mx__law_sizes) [] (aCons (eVar 0) aNil)) (eC (.int 0))) (eOp rIx2 (eCall (sp__law_sizes mx__law_sizes) [] (aCons (eVar 1) aNil)) (eC (.int 0)))) (gN 5))
  (bx__law_right_6 cn))
def bx__law_right_8 (cn : Cn) : TS2 := (sSq (sFo (iSq (eLst (aCons (eVar 0) (aCons (eVar 1) aNil)))) (gN 4) (bx__law_right_2 cn))
  (bx__law_right_7 cn))
def bx__law_right (cn : Cn) : TS2 := (sSq (sAs (eCall (spx__law_joined cn) [] (aCons (eVar 0) (aCons (eVar 1) aNil))) (gT 2 (gCo (gN 2) (gCo (gN 3) gNil2))))
  (bx__law_right_8 cn))
theorem semx__law_right (cn : Cn) : ∀ ds M Q E, spx__law_right cn ds M Q E → bx__law_right cn (fEnds Q E) (start2 n__law_right ds) M := by
  rintro ds M Q E ⟨a, b, rfl, ha, hb, h5, h6, hq⟩
  have l2 : 2 ≤ sizeLine := small_line (by decide)
  have clp : (PyData.str ("shape" : Str)).canLay0 = true := by decide +kernel
  simp only [bx__law_right, start2, n__law_right]
  simp
  have loop : ∀ (w : Str) (sh : Tr) M1, Le M M1 → (trb a ≠ "" → w = trb a) → (trb a = "" → trb b ≠ "" → w = trb b) → (trb a = "" → trb b = "" → ∀ z M2, Le M1 M2 → bx__law_right_7 cn (fEnds Q E) [some a, some b, some (.str w), some sh, z, none, none] M2) → bx__law_right_8 cn (fEnds Q E) [some a, some b, some (.str w), some sh, none, none, none] M1 := by
    intro w sh M1 L1 k1 k2 k3
    simp only [bx__law_right_8]
    simp [l2]
    intro p hp
    have ep : up M1 p (.lst [a, b]) p = some (.lst [a, b]) := up_same
    have L2 : Le M1 (up M1 p (.lst [a, b])) := Le.new hp
    generalize up M1 p (.lst [a, b]) = M2 at ep L2
    simp [ep]
    have L12 := L1.trans L2
    refine for_itL (fun i σ M' => ∃ z, σ = [some a, some b, some (.str w), some sh, z, none, none] ∧ M' = M2 ∧ (1 ≤ i → trb a = "") ∧ (2 ≤ i → trb b = "")) ?_ ?_ ?_ ?_
    · exact ⟨_, rfl, rfl, (fun h => by omega), fun h => by omega⟩
    · rintro i σ M' _ ⟨z, rfl, rfl, _⟩
      exact seqT_lst ep
    · rintro i e σ M' he ⟨z, rfl, rfl, c1, c2⟩
      simp
      refine nx_cut fun NX hN => ?_
      simp only [bx__law_right_2]
      simp
      have he' : (i = 0 ∧ e = a) ∨ (i = 1 ∧ e = b) := by
        match i, he with
        | 0, he => exact .inl ⟨rfl, by simpa using he.symm⟩
        | 1, he => exact .inr ⟨rfl, by simpa using he.symm⟩
        | n + 2, he => simp at he
      have hk : ShOk M' e ∧ hT e ≤ 40 := by
        rcases he' with ⟨_, rfl⟩ | ⟨_, rfl⟩
        · exact ⟨ha.le L12, h5⟩
        · exact ⟨hb.le L12, h6⟩
      refine ⟨_, rfl, hk.1.1, hk.2, ?_⟩
      simp
      by_cases c : trb e = ""
      · simp [c]
        refine hN _ _ ⟨⟨_, rfl⟩, rfl, ?_, fun h => ?_⟩
        · rcases he' with ⟨_, rfl⟩ | ⟨h1, rfl⟩
          · exact c
          · exact c1 (by omega)
        · rcases he' with ⟨h1, rfl⟩ | ⟨_, rfl⟩
          · omega
          · exact c
      · simp [c]
        simp only [bx__law_right_1]
        simp
        refine ⟨_, rfl, hk.1.1, hk.2, ?_⟩
        have : w = trb e := by
          rcases he' with ⟨_, rfl⟩ | ⟨h1, rfl⟩
          · exact k1 c
          · exact k2 (c1 (by omega)) c
        simp [this]
        exact Fg.same (hq _ L12)
    · rintro σ M' ⟨z, rfl, rfl, c1, c2⟩
      exact k3 (c1 (by show 1 ≤ 2; decide)) (c2 (by show 2 ≤ 2; decide)) z _ L2
  refine ⟨_, _, rfl, ha, hb, fun s t e e2 bs bt hw M1 L1 => ?_, fun s t e e2 bs bt hw => ?_, fun h => ?_, fun h h' => ?_⟩
  · subst e; subst e2
    have g2 := (ha.2 s rfl).2
    have g4 := (hb.2 t rfl).2
    have s20 := bal_small bs g2
    have t20 := bal_small bt g4
    obtain ⟨j1, j2, j3, j4⟩ := joinS_ok (l := s) (r := t) (by omega) (by omega) bs bt
    simp
    refine loop _ _ _ L1 (fun h => absurd (trb_ok bs) h) (fun _ h => absurd (trb_ok bt) h) fun _ _ z M2 L2 => ?_
    have L12 := L1.trans L2
    simp only [bx__law_right_7]
    simp
    refine ⟨_, rfl, wf_sh s, by show hT (shT s) < 41; omega, ?_⟩
    rw [szT_sh bs]
    simp
    refine ⟨_, rfl, wf_sh t, by show hT (shT t) < 41; omega, ?_⟩
    rw [szT_sh bt]
    simp
    simp only [bx__law_right_6]
    simp
    rw [if_neg (by omega)]
    simp only [bx__law_right_5]
    simp
    refine ⟨_, rfl, wf_sh _, by show hT (shT (joinS s t)) < 41; rw [(shT_nb _).2]; omega, ?_⟩
    rw [szT_sh j1]
    simp
    simp only [bx__law_right_4]
    have ew : ((joinS s t).width : Int) = (s.width : Int) + (t.width : Int) := by omega
    simp [ew]
    simp only [bx__law_right_3]
    simp
    refine ⟨_, _, rfl, ha.le L12, hb.le L12, fun s' t' e e2 bs' bt' hw' M3 L3 => ?_, fun s' t' e e2 bs' bt' hw' => ?_, fun h => absurd (trb_ok bs) h, fun _ h => absurd (trb_ok bt) h⟩
    · have := shT_inj.mp e
      subst this
      have := shT_inj.mp e2
      subst this
      simp [l2]
      refine rEq_tup _ _ true rfl rfl ?_ ?_ ?_ ?_ (by simp) ?_
      · simp [nbT, nbL, clp, (shT_nb (joinS s t)).1]
      · simp [nbT, nbL, clp, (shT_nb (joinS s t)).1]
      · rw [hT_ok]; simp [hT, hL, (shT_nb (joinS s t)).2]; omega
      · rw [hT_ok]; simp [hT, hL, (shT_nb (joinS s t)).2]; omega
      · exact Fg.same (hq _ (L12.trans L3))
    · have := shT_inj.mp e
      subst this
      have := shT_inj.mp e2
      subst this
      omega
  · subst e; subst e2
    simp
    refine loop _ _ _ Le.refl (fun h => absurd (trb_ok bs) h) (fun _ h => absurd (trb_ok bt) h) fun _ _ z M2 L2 => ?_
    simp only [bx__law_right_7]
    simp
    refine ⟨_, rfl, wf_sh s, by show hT (shT s) < 41; omega, ?_⟩
    rw [szT_sh bs]
    simp
    refine ⟨_, rfl, wf_sh t, by show hT (shT t) < 41; omega, ?_⟩
    rw [szT_sh bt]
    simp
    simp only [bx__law_right_6]
    simp
    rw [if_pos (by omega)]
    exact Fg.same (hq _ L2)
  · simp
    refine loop _ _ _ Le.refl (fun _ => rfl) (fun e => absurd e h) fun e => absurd e h
  · simp
    refine loop _ _ _ Le.refl (fun e => absurd h e) (fun _ _ => rfl) fun _ e => absurd e h'
end T

/-! J: the law k62, the first half. -/
namespace T
open PySem PySem.Spec PyProof.Rows L2
open Sh
theorem even_ok {M : Ms} {w : Nat} (h1 : 1 ≤ w) (h2 : w ≤ 20000) : ShOk M (shT (evenS w)) ∧ hT (shT (evenS w)) ≤ 40 := by
  have hl := evenS_le h1 (by omega)
  have hw := evenS_width (Nat.le_refl w) h1
  exact ⟨⟨wf_sh _, fun s e => by rw [← shT_inj.mp e]; omega⟩, by rw [(shT_nb _).2]; omega⟩
def spx__law_asked_one (cn : Cn) : Sp2 := A1 fun a M Q _ => ∃ ns, a = scT ns ∧ Script ns ∧ Q (.bl true) M
def n__law_asked_one : List Str := "script" :: "k" :: "feed" :: "wide" :: "one" :: "other" :: "known" :: "first" :: "both" :: []
def bx__law_asked_one_1 (cn : Cn) : TS2 := (sPr 4 5 (aCons (eCall (sp__law_even mx__law_even) [] (aCons (eVar 7) (aCons (eVar 6) aNil))) (aCons (eCall (sp__law_even mx__law_even) [] (aCons (eOp rSub2 (eVar 8) (eVar 7)) (aCons (eVar 6) aNil))) aNil)))
def bx__law_asked_one_2 (cn : Cn) : TS2 := (sSq (sPr 7 8 (aCons (eOp rAdd2 (eC (.int 2)) (eCall sp__law_draw [] (aCons (eVar 2) (aCons (eC (.int 19997)) aNil)))) (aCons (eOp rAdd2 (eC (.int 19999)) (eCall sp__law_draw [] (aCons (eVar 2) (aCons (eC (.int 4)) aNil)))) aNil)))
  (bx__law_asked_one_1 cn))
def bx__law_asked_one_3 (cn : Cn) : TS2 := (sSq (sAs (eD1 (eC (.int 1)) (eC .non)) (gN 6))
  (bx__law_asked_one_2 cn))
def bx__law_asked_one_4 (cn : Cn) : TS2 := (sIf (tNo (tTr (eCall (spx__law_right cn) [] (aCons (eVar 4) (aCons (eVar 5) aNil))))) (sRt (eC (.bl false))) sNx)
def bx__law_asked_one_5 (cn : Cn) : TS2 := (sSq (sIf (tAn (tCm (eOp (rEqG id) (eVar 3) (eC (.int 0)))) (tCm (eOp (rEqG id) (eVar 1) (eC (.int 0))))) (bx__law_asked_one_3 cn) sNx)
  (bx__law_asked_one_4 cn))
def bx__law_asked_one_6 (cn : Cn) : TS2 := (sSq (sPr 4 5 (aCons (eCall sp__law_shape [] (aCons (eVar 2) (aCons (eIf (tAn (tCm (eOp (rEqG id) (eVar 1) (eC (.int 0)))) (tCm (eOp (rEqG id) (eVar 3) (eC (.int 1))))) (eC (.int 1500)) (eC (.int 40))) aNil))) (aCons (eCall sp__law_shape [] (aCons (eVar 2) (aCons (eC (.int 40)) aNil))) aNil)))
  (bx__law_asked_one_5 cn))
def bx__law_asked_one_7 (cn : Cn) : TS2 := (sSq (sAs (eCall sp__law_draw [] (aCons (eVar 2) (aCons (eC (.int 6)) aNil))) (gN 3))
  (bx__law_asked_one_6 cn))
def bx__law_asked_one_8 (cn : Cn) : TS2 := (sSq (sAs (eCall sp__law_feed [] (aCons (eVar 0) (aCons (eVar 1) aNil))) (gN 2))
  (bx__law_asked_one_7 cn))
def bx__law_asked_one (cn : Cn) : TS2 := (sSq (sFo (iRg1 (aCons (eB rMax2 (aCons (eC (.int 3)) (aCons (eB rMin2 (aCons (eC (.int 63)) (aCons (eB rLen2 (aCons (eVar 0) aNil)) aNil))) aNil))) aNil)) (gN 1) (bx__law_asked_one_8 cn))
  (sRt (eC (.bl true))))
theorem semx__law_asked_one (cn : Cn) : ∀ ds M Q E, spx__law_asked_one cn ds M Q E → bx__law_asked_one cn (fEnds Q E) (start2 n__law_asked_one ds) M := by
  rintro ds M Q E ⟨a, rfl, ns, rfl, hs, hq⟩
  have hsl := hs.1
  simp only [bx__law_asked_one, start2, n__law_asked_one]
  simp
  refine ⟨max_smallI (by decide) (by decide) (by decide), ?_⟩
  have hKn := @max_turnsI (ns.map Tr.int).length 3 63 (by decide) (by decide)
  generalize (if (if ((ns.map Tr.int).length : Int) < 63 then ((ns.map Tr.int).length : Int) else 63) > 3 then (if ((ns.map Tr.int).length : Int) < 63 then ((ns.map Tr.int).length : Int) else 63) else 3).toNat = K at hKn
  have hKn : K ≤ 63 := hKn
  refine for_itR (fun i σ M' => ∃ z1 z2 z3 z4 z5 z6 z7 z8, σ = [some (scT ns), z1, z2, z3, z4, z5, z6, z7, z8] ∧ Le M M') ⟨_, _, _, _, _, _, _, _, rfl, Le.refl⟩ (fun i σ M0 hi h => ?_) (fun σ M0 h => ?_)
  · obtain ⟨z1, z2, z3, z4, z5, z6, z7, z8, rfl, K0⟩ := h
    simp
    refine nx_cut fun NX hN => ?_
    simp only [bx__law_asked_one_8]
    simp
    refine ⟨_, _, rfl, ns, i, rfl, rfl, hs, by omega, fun f o hf hF => ?_⟩
    have hMf : M f = none := K0.none hf
    have hf1 : up M0 f o f = some o := up_same
    have K1 : Kf f M (up M0 f o) := K0.kf.trans Kf.feed
    generalize up M0 f o = M1 at hf1 K1
    clear K0 hf
    simp only [bx__law_asked_one_7]
    simp
    refine ⟨_, _, rfl, f, 6, 0, o, rfl, rfl, by decide, by decide, by decide, hf1, hF, fun wide o2 h1 h2 hF2 => ?_⟩
    have hf2 : up M1 f o2 f = some o2 := up_same
    have K2 : Kf f M (up M1 f o2) := K1.trans Kf.feed
    generalize up M1 f o2 = M2 at hf2 K2
    simp only [bx__law_asked_one_6]
    have last : ∀ (D : Ends2), D.nx = NX → ∀ a b z6 z7 z8 M5, Kf f M M5 → ShOk M5 a → ShOk M5 b → hT a ≤ 40 → hT b ≤ 40 → bx__law_asked_one_4 cn D [some (scT ns), some (.int i), some (.loc f), some (.int wide), some a, some b, z6, z7, z8] M5 := by
      intro D e a b z6 z7 z8 M5 K5 ha hb h5 h6
      simp only [bx__law_asked_one_4]
      simp
      refine ⟨_, _, rfl, ha, hb, h5, h6, fun M6 L6 => ?_⟩
      simp
      rw [e]
      exact hN _ _ ⟨⟨_, _, _, _, _, _, _, _, rfl⟩, Kf.up hMf (K5.trans L6.kf)⟩
    have mid : ∀ (D : Ends2), D.nx = NX → ∀ a b M5 o5 n5, Kf f M M5 → M5 f = some o5 → FeedO n5 o5 → n5 ≤ 10000 → ShOk M5 a → ShOk M5 b → hT a ≤ 40 → hT b ≤ 40 → bx__law_asked_one_5 cn D [some (scT ns), some (.int i), some (.loc f), some (.int wide), some a, some b, z6, z7, z8] M5 := by
      intro D e a b M5 o5 n5 K5 hf5 hF5 hn5 ha hb h5 h6
      simp only [bx__law_asked_one_5]
      simp
      by_cases c : wide = 0
      · subst c
        simp
        by_cases c0 : i = 0
        · subst c0
          simp
          simp only [bx__law_asked_one_3]
          simp
          intro kn hkn
          have fk : f ≠ kn := m_ne hf5 hkn
          have ek : up M5 kn (.dic [(.inl 1, .non)]) kn = some (.dic [(.inl 1, .non)]) := up_same
          have hf6 : up M5 kn (.dic [(.inl 1, .non)]) f = some o5 := by rw [up_ne fk]; exact hf5
          have hMk : M kn = none := by
            cases e : M kn with
            | none => rfl
            | some u => rw [K5 kn u fk.symm e] at hkn; cases hkn
          have K6 : Kf f M (up M5 kn (.dic [(.inl 1, .non)])) := Kf.put hMk K5
          have hk0 : KnI [(.inl 1, .non)] := ⟨rfl, fun k v h => by
            rw [valT_cons] at h
            by_cases c : (Sum.inl 1 : Key) = k
            · rw [if_pos c] at h
              cases h
              exact ⟨1, c.symm, rfl⟩
            · rw [if_neg c] at h
              cases h⟩
          generalize up M5 kn (.dic [(.inl 1, .non)]) = M6 at ek hf6 K6
          simp only [bx__law_asked_one_2]
          simp
          refine ⟨_, _, rfl, f, 19997, n5, o5, rfl, rfl, by decide, by decide, by omega, hf6, hF5, fun r1 o7 h7 h8 hF7 => ?_⟩
          simp
          refine ⟨_, _, rfl, f, 4, _, o7, rfl, rfl, by decide, by decide, by omega, up_same, hF7, fun r2 o8 h9 h10 hF8 => ?_⟩
          obtain ⟨w, hw⟩ : ∃ w : Nat, (2 : Int) + r1 = w := ⟨((2 : Int) + r1).toNat, by omega⟩
          obtain ⟨v, hv⟩ : ∃ v : Nat, (19999 : Int) + r2 - w = v := ⟨((19999 : Int) + r2 - w).toNat, by omega⟩
          have ek8 : up M6 f o8 kn = some (.dic [(.inl 1, .non)]) := by rw [up_ne fk.symm]; exact ek
          have K8 : Kf f M (up M6 f o8) := K6.trans Kf.feed
          simp [up_up, hw]
          generalize up M6 f o8 = M8 at ek8 K8
          simp only [bx__law_asked_one_1]
          simp [hv]
          have e40 : (2 : Nat) ^ 40 = 1099511627776 := by decide
          refine ⟨_, _, rfl, w, kn, _, rfl, rfl, by omega, by omega, by decide, by show w ≤ 2 ^ 40; omega, ek8, hk0, by show 1 + 2 * w ≤ _; omega, fun M9 kv9 K9 ek9 hk9 hl9 => ?_⟩
          have hl9 : kv9.length + 1 ≤ 1 + w := hl9
          simp [hv]
          refine ⟨_, _, rfl, v, kn, kv9, rfl, rfl, by omega, by omega, by decide, by show v ≤ 2 ^ 40; omega, ek9, hk9, by omega, fun M10 kv10 K10 ek10 hk10 hl10 => ?_⟩
          simp
          have KK : Kf f M M10 := fun a u ha e => by
            have hak : a ≠ kn := fun h => by rw [h, hMk] at e; cases e
            exact K10 a u hak (K9 a u hak (K8 a u ha e))
          obtain ⟨g1, g2⟩ := even_ok (M := M10) (show 1 ≤ w by omega) (by omega)
          obtain ⟨g3, g4⟩ := even_ok (M := M10) (show 1 ≤ v by omega) (by omega)
          exact last _ e _ _ _ _ _ M10 KK g1 g3 g2 g4
        · have c1 : ¬ ((i : Int) = 0) := by omega
          simp [c0, c1]
          exact last _ e a b _ _ _ M5 K5 ha hb h5 h6
      · simp [c]
        exact last _ e a b _ _ _ M5 K5 ha hb h5 h6
    have draw : ∀ (D : Ends2) (E0 E1 : X2), D.nx = NX → ∀ m : Nat, 1 ≤ m → m ≤ 1500 → CallS sp__law_shape [.loc f, .int m] M2 (fun d M' => eCall sp__law_shape [] (aCons (eVar 2) (aCons (eC (.int 40)) aNil)) [some (scT ns), some (.int i), some (.loc f), some (.int wide), z4, z5, z6, z7, z8] M' (fun d2 M'' => bx__law_asked_one_5 cn D [some (scT ns), some (.int i), some (.loc f), some (.int wide), some d, some d2, z6, z7, z8] M'') E1) E0 .mk := by
      intro D E0 E1 e m hm1 hm2
      refine ⟨_, _, rfl, f, m, _, o2, rfl, rfl, hm1, by omega, by omega, hf2, hF2, fun d M3 o3 K3 hf3 hF3 hd hh => ?_⟩
      simp
      refine ⟨_, _, rfl, f, 40, _, o3, rfl, rfl, by decide, by decide, by omega, hf3, hF3, fun d2 M4 o4 K4 hf4 hF4 hd2 hh2 => ?_⟩
      exact mid D e d d2 M4 o4 _ ((K2.trans K3).trans K4) hf4 hF4 (by omega) ⟨wf_fd K4 hf3 hF3 hf4 hF4 hd.1, hd.2⟩ hd2 (by omega) (by omega)
    simp
    by_cases c0 : i = 0
    · subst c0
      simp
      by_cases c : wide = 1
      · simp [c]
        subst c
        exact draw _ _ _ (by rfl) 1500 (by decide) (by decide)
      · simp [c]
        exact draw _ _ _ (by rfl) 40 (by decide) (by decide)
    · have c1 : ¬ ((i : Int) = 0) := by omega
      simp [c0, c1]
      exact draw _ _ _ (by rfl) 40 (by decide) (by decide)
  · obtain ⟨z1, z2, z3, z4, z5, z6, z7, z8, rfl, K0⟩ := h
    simp
    exact Fg.le K0 hq
end T

/-! J: shapes held. -/
namespace T
open PySem PySem.Spec PyProof.Rows L2
open Sh
def spx_width_of (cn : Cn) : Sp2 := A1 fun a M Q _ => ∃ s : Sh, a = shT s ∧ ShOk M a ∧ Q (.int s.width) M
def bx_width_of (cn : Cn) : TS2 := (sRt (eCall (spx_need_shape cn) [] (aCons (eVar 0) aNil)))
theorem semx_width_of (cn : Cn) : ∀ ds M Q E, spx_width_of cn ds M Q E → bx_width_of cn (fEnds Q E) (start2 n_width_of ds) M := by
  rintro ds M Q E ⟨a, rfl, s, rfl, hs, hq⟩
  simp only [bx_width_of, start2, n_width_of]
  simp
  refine ⟨_, rfl, hs, fun t e => ?_, fun h => absurd rfl (h s)⟩
  rw [← shT_inj.mp e]
  exact Fg.same hq
def spx_height_of (cn : Cn) : Sp2 := A1 fun a M Q _ => ∃ s : Sh, a = shT s ∧ ShOk M a ∧ Q (.int s.height) M
def bx_height_of (cn : Cn) : TS2 := (sSq (sDr (eCall (spx_need_shape cn) [] (aCons (eVar 0) aNil)))
  (sRt (eCall (sp_height_in mx_height_in) [] (aCons (eVar 0) aNil))))
theorem semx_height_of (cn : Cn) : ∀ ds M Q E, spx_height_of cn ds M Q E → bx_height_of cn (fEnds Q E) (start2 n_height_of ds) M := by
  rintro ds M Q E ⟨a, rfl, s, rfl, hs, hq⟩
  simp only [bx_height_of, start2, n_height_of]
  simp
  refine ⟨_, rfl, hs, fun t e => ?_, fun h => absurd rfl (h s)⟩
  simp
  exact ⟨_, rfl, s, rfl, by show s.height < 41; have := (hs.2 s rfl).1; omega, Fg.same hq⟩
def spx_is_balanced (cn : Cn) : Sp2 := A1 fun a M Q _ => ∃ s : Sh, a = shT s ∧ ShOk M a ∧ Q (.bl s.bal) M
def bx_is_balanced_1 (cn : Cn) : TS2 := (sRt (eOp rGeI (eCall (sp_balanced_height mx_balanced_height) [] (aCons (eVar 0) aNil)) (eC (.int 0))))
def bx_is_balanced (cn : Cn) : TS2 := (sSq (sDr (eCall (spx_need_shape cn) [] (aCons (eVar 0) aNil)))
  (bx_is_balanced_1 cn))
theorem semx_is_balanced (cn : Cn) : ∀ ds M Q E, spx_is_balanced cn ds M Q E → bx_is_balanced cn (fEnds Q E) (start2 n_is_balanced ds) M := by
  rintro ds M Q E ⟨a, rfl, s, rfl, hs, hq⟩
  simp only [bx_is_balanced, start2, n_is_balanced]
  simp
  refine ⟨_, rfl, hs, fun t e => ?_, fun h => absurd rfl (h s)⟩
  simp only [bx_is_balanced_1]
  simp
  refine ⟨_, rfl, s, rfl, by show s.height < 41; have := (hs.2 s rfl).1; omega, ?_⟩
  have e : decide (0 ≤ balH s) = s.bal := by
    unfold balH
    cases s.bal with
    | true => simp
    | false => rfl
  simp [e]
  exact Fg.same hq
def spx__law_held (cn : Cn) : Sp2 := A2 fun a b M Q _ => ∃ o : Option Sh, a = oShT o ∧ obal o = true ∧ owid o ≤ 20000 ∧ b = .int (owid o : Nat) ∧ Q (.bl true) M
def n__law_held : List Str := "shape" :: "width" :: "sizes" :: []
def bx__law_held_1 (cn : Cn) : TS2 := (sRt (eAn (eOp (rEqG id) (eVar 0) (eTup aNil)) (eOp (rIsG id) (eCall sp_is_shape [] (aCons (eVar 0) aNil)) (eC (.bl false)))))
def bx__law_held_2 (cn : Cn) : TS2 := (sRt (eAn (eOp (rEqG id) (eCall (spx_width_of cn) [] (aCons (eVar 0) aNil)) (eVar 1)) (eOp (rEqG id) (eCall (spx_height_of cn) [] (aCons (eVar 0) aNil)) (eOp rIx2 (eVar 2) (eC (.int 1))))))
def bx__law_held_3 (cn : Cn) : TS2 := (sSq (sIf (tOrr (tCm (eOp (rIsG not) (eCall sp_is_shape [] (aCons (eVar 0) aNil)) (eC (.bl true)))) (tCm (eOp (rIsG not) (eCall (spx_is_balanced cn) [] (aCons (eVar 0) aNil)) (eC (.bl true))))) (sRt (eC (.bl false))) sNx)
  (bx__law_held_2 cn))
def bx__law_held_4 (cn : Cn) : TS2 := (sSq (sIf (tOrr (tCm (eOp (rIsG id) (eVar 2) (eC .non))) (tOrr (tCm (eOp (rEqG not) (eOp rIx2 (eVar 2) (eC (.int 0))) (eVar 1))) (tOrr (tCm (eOp rGtI (eOp rIx2 (eVar 2) (eC (.int 1))) (eCall sp__law_tallest [] (aCons (eVar 1) aNil)))) (tCm (eOp rLtI (eCall (spx_tallest cn) [] (aCons (eVar 1) aNil)) (eOp rIx2 (eVar 2) (eC (.int 1)))))))) (sRt (eC (.bl false))) sNx)
  (bx__law_held_3 cn))
def bx__law_held_5 (cn : Cn) : TS2 := (sSq (sAs (eCall (sp__law_sizes mx__law_sizes) [] (aCons (eVar 0) aNil)) (gN 2))
  (bx__law_held_4 cn))
def bx__law_held (cn : Cn) : TS2 := (sSq (sIf (tCm (eOp (rEqG id) (eVar 1) (eC (.int 0)))) (bx__law_held_1 cn) sNx)
  (bx__law_held_5 cn))
theorem semx__law_held (cn : Cn) : ∀ ds M Q E, spx__law_held cn ds M Q E → bx__law_held cn (fEnds Q E) (start2 n__law_held ds) M := by
  rintro ds M Q E ⟨a, b, rfl, o, rfl, hb, hw, rfl, hq⟩
  simp only [bx__law_held, start2, n__law_held]
  simp
  cases o with
  | none =>
    have e0 : owid none = 0 := rfl
    simp [e0]
    simp only [bx__law_held_1]
    simp
    refine rEq_tup [] [] true rfl rfl rfl rfl (by decide) (by decide) (by simp [oShT]) ?_
    simp
    have hs : ShOk M (.tup []) := ⟨.tup _ (fun _ h => by cases h) (by decide), fun s e => by cases s <;> cases e⟩
    refine ⟨_, rfl, hs, ?_⟩
    have e1 : shO (.tup []) = none := shO_odd (fun e => by cases e) fun a b e => by cases e
    rw [show oShT none = .tup [] from rfl, e1]
    simp
    exact Fg.same hq
  | some s =>
    have hb : s.bal = true := hb
    have hw : s.width ≤ 20000 := hw
    have e0 : owid (some s) = s.width := rfl
    have eo : oShT (some s) = shT s := rfl
    have p := width_pos s
    have s20 := bal_small hb hw
    have hs := shok_b (M := M) hb hw
    rw [e0, eo]
    have c0 : ¬ s.width = 0 := by omega
    have c1 : ¬ (s.width : Int) = 0 := by omega
    simp [c0, c1]
    simp only [bx__law_held_5]
    simp
    refine ⟨_, rfl, wf_sh s, by show hT (shT s) < 41; rw [(shT_nb s).2]; omega, ?_⟩
    rw [szT_sh hb]
    simp
    simp only [bx__law_held_4]
    simp
    have tall : ∀ t, IsTall s.width t → s.height ≤ t := fun t ht => by
      have h1 := Sh.least hb
      have h2 := ht.hi
      rcases Nat.lt_or_ge t s.height with c | c
      · have := leastN_mono (show t + 1 ≤ s.height by omega); omega
      · exact c
    refine ⟨_, rfl, s.width, rfl, hw, fun t ht => ?_⟩
    have ht1 := tall t ht
    have n1 : ¬ t < s.height := by omega
    have n2 : ¬ (t : Int) < (s.height : Int) := by omega
    simp [n1, n2]
    refine ⟨_, rfl, "int", rfl, fun _ w k e hk => ?_, fun c => ?_⟩
    · obtain rfl : s.width = w := by injection e; omega
      have ht2 := tall k hk
      have m1 : ¬ k < s.height := by omega
      have m2 : ¬ (k : Int) < (s.height : Int) := by omega
      simp [m1, m2]
      simp only [bx__law_held_3]
      simp
      refine ⟨_, rfl, hs, ?_⟩
      rw [shO_sh]
      simp
      refine ⟨_, rfl, s, rfl, hs, ?_⟩
      rw [hb]
      simp
      simp only [bx__law_held_2]
      simp
      refine ⟨_, rfl, s, rfl, hs, ?_⟩
      simp
      refine ⟨_, rfl, s, rfl, hs, ?_⟩
      simp
      exact Fg.same hq
    · exfalso
      have c : decide (0 ≤ (s.width : Int) ∧ (s.width : Int) ≤ 20000) = false := c
      rw [decide_eq_false_iff_not] at c
      omega
/-! all joined -/
def heldT (l : List Sh) : List Tr := l.map fun s => .tup [shT s, .int s.width]
def totW : List Sh → Nat
  | [] => 0
  | s :: r => s.width + totW r
theorem totW_app : ∀ {a b : List Sh}, totW (a ++ b) = totW a + totW b
  | [], b => (Nat.zero_add _).symm
  | s :: a, b => by show s.width + totW (a ++ b) = s.width + totW a + totW b; rw [totW_app]; omega
theorem totW_take {l : List Sh} {i : Nat} {s : Sh} (h : l[i]? = some s) : totW (l.take (i + 1)) = totW (l.take i) + s.width := by
  rw [List.take_add_one, totW_app, h]
  rfl
theorem totW_le {l : List Sh} {i : Nat} : totW (l.take i) ≤ totW l := by
  have : totW l = totW (l.take i) + totW (l.drop i) := by rw [← totW_app, List.take_append_drop]
  omega
def spx__law_all_joined (cn : Cn) : Sp2 := A1 fun a M Q _ => ∃ (p : Addr) (l : List Sh), a = .loc p ∧ M p = some (.lst (heldT l)) ∧ l ≠ [] ∧ l.length ≤ 1000 ∧ (∀ s ∈ l, s.bal = true) ∧ totW l ≤ 20000 ∧ ∀ M', Le M M' → Q (.bl true) M'
def n__law_all_joined : List Str := "held" :: "shape" :: "width" :: "other" :: "more" :: "parts" :: []
def bx__law_all_joined_1 (cn : Cn) : TS2 := (sIf (tNo (tTr (eCall (spx__law_held cn) [] (aCons (eVar 1) (aCons (eVar 2) aNil))))) (sRt (eC (.bl false))) sNx)
def bx__law_all_joined_2 (cn : Cn) : TS2 := (sSq (sPr 1 2 (aCons (eCall (spx_joined_shapes cn) [] (aCons (eVar 1) (aCons (eVar 3) aNil))) (aCons (eOp rAdd2 (eVar 2) (eVar 4)) aNil)))
  (bx__law_all_joined_1 cn))
def bx__law_all_joined_3 (cn : Cn) : TS2 := (sPr 1 2 (aCons (eOp rIx2 (eVar 5) (eC (.int 0))) (aCons (eOp rSub2 (eVar 2) (eVar 4)) aNil)))
def bx__law_all_joined_4 (cn : Cn) : TS2 := (sSq (sIf (tOrr (tNo (tTr (eCall (spx__law_held cn) [] (aCons (eOp rIx2 (eVar 5) (eC (.int 0))) (aCons (eOp rSub2 (eVar 2) (eVar 4)) aNil))))) (tNo (tTr (eCall (spx__law_held cn) [] (aCons (eOp rIx2 (eVar 5) (eC (.int 1))) (aCons (eVar 4) aNil)))))) (sRt (eC (.bl false))) sNx)
  (bx__law_all_joined_3 cn))
def bx__law_all_joined_5 (cn : Cn) : TS2 := (sSq (sAs (eCall (spx_cut_shape cn) [] (aCons (eVar 1) (aCons (eOp rSub2 (eVar 2) (eVar 4)) aNil))) (gN 5))
  (bx__law_all_joined_4 cn))
def bx__law_all_joined_6 (cn : Cn) : TS2 := (sSq (sFo (iSq (eRv1 (eVar 0))) (gT 2 (gCo (gN 3) (gCo (gN 4) gNil2))) (bx__law_all_joined_5 cn))
  (sRt (eC (.bl true))))
def bx__law_all_joined_7 (cn : Cn) : TS2 := (sSq (sFo (iSq (eSl rSl2 (eVar 0) (oPart (eC (.int 1))) oNo)) (gT 2 (gCo (gN 3) (gCo (gN 4) gNil2))) (bx__law_all_joined_2 cn))
  (bx__law_all_joined_6 cn))
def bx__law_all_joined (cn : Cn) : TS2 := (sSq (sAs (eOp rIx2 (eVar 0) (eC (.int 0))) (gT 2 (gCo (gN 1) (gCo (gN 2) gNil2))))
  (bx__law_all_joined_7 cn))
theorem semx__law_all_joined (cn : Cn) : ∀ ds M Q E, spx__law_all_joined cn ds M Q E → bx__law_all_joined cn (fEnds Q E) (start2 n__law_all_joined ds) M := by
  rintro ds M Q E ⟨a, rfl, p, l, rfl, hp1, hne, hl, hb, ht, hq⟩
  obtain ⟨s0, r, rfl⟩ : ∃ s0 r, l = s0 :: r := by
    cases l with
    | nil => exact absurd rfl hne
    | cons s0 r => exact ⟨s0, r, rfl⟩
  have l2 : 2 ≤ sizeLine := small_line (by decide)
  have h0 : (heldT (s0 :: r))[0]? = some (.tup [shT s0, .int s0.width]) := rfl
  have sub : ∀ {i : Nat} {s : Sh}, (s0 :: r)[i]? = some s → s.bal = true := fun {i s} h => hb s (List.mem_of_getElem? h)
  have hr0 : (heldT (s0 :: r)).drop 1 = heldT r := rfl
  have item : ∀ {i : Nat} {e : Tr}, (heldT r)[i]? = some e → ∃ s, r[i]? = some s ∧ e = .tup [shT s, .int s.width] := fun {i e} h => by
    unfold heldT at h
    rw [List.getElem?_map] at h
    cases c : r[i]? with
    | none => rw [c] at h; cases h
    | some s => rw [c] at h; cases h; exact ⟨s, rfl, rfl⟩
  have rl : r.length ≤ 1000 := by simp at hl; omega
  obtain ⟨pre, p0, p1, ps, p20⟩ : ∃ f : Nat → Nat, f 0 = s0.width ∧ (∀ i, 1 ≤ f i) ∧ (∀ i t, r[i]? = some t → f (i + 1) = f i + t.width) ∧ ∀ i, f i ≤ 20000 := by
    refine ⟨fun i => totW ((s0 :: r).take (i + 1)), by show s0.width + 0 = _; omega, fun i => ?_, fun i t h => ?_, fun i => Nat.le_trans totW_le ht⟩
    · have := width_pos s0
      show 1 ≤ s0.width + totW (r.take i)
      omega
    · exact totW_take (l := s0 :: r) (i := i + 1) (s := t) (by rw [List.getElem?_cons_succ]; exact h)
  simp only [bx__law_all_joined, start2, n__law_all_joined]
  simp [hp1]
  rw [show (0 : Int) = ((0 : Nat) : Int) from rfl, kAt_get h0]
  simp
  simp only [bx__law_all_joined_7]
  simp [hp1]
  have ec : cutT (heldT (s0 :: r)) (some 1) none = heldT r := by
    rw [show (some (1 : Int)) = some ((1 : Nat) : Int) from rfl, cutT_lo, hr0]
  rw [ec]
  intro q hq1
  have L1 : Le M (up M q (.lst (heldT r))) := Le.new hq1
  have eq1 : up M q (.lst (heldT r)) q = some (.lst (heldT r)) := up_same
  generalize up M q (.lst (heldT r)) = M1 at L1 eq1
  simp [eq1]
  refine for_itL (fun i σ M' => ∃ (s : Sh) (z3 z4 : Option Tr), σ = [some (.loc p), some (shT s), some (.int s.width), z3, z4, none] ∧ s.bal = true ∧ s.width = pre i ∧ Le M1 M') ?_ ?_ ?_ ?_
  · exact ⟨s0, _, _, rfl, sub (i := 0) rfl, p0.symm, Le.refl⟩
  · rintro i σ M' _ ⟨s, z3, z4, rfl, _, _, L⟩
    exact seqT_lst (L _ _ eq1)
  · rintro i e σ M' he ⟨s, z3, z4, rfl, sb, sw, L⟩
    obtain ⟨t, et, rfl⟩ := item he
    have tb := sub (i := i + 1) (by rw [List.getElem?_cons_succ]; exact et)
    have tw := ps i t et
    have tl := p20 (i + 1)
    have sw20 : s.width + t.width ≤ 20000 := by omega
    obtain ⟨j1, j2, j3, j4⟩ := joinS_ok (l := s) (r := t) (by have := bal_small sb (by omega); omega) (by have := bal_small tb (by omega); omega) sb tb
    simp
    refine nx_cut fun NX hN => ?_
    simp only [bx__law_all_joined_2]
    simp
    refine ⟨_, _, rfl, shok_b sb (by omega), shok_b tb (by omega), fun s' t' e e2 bs bt hw M2 L2 => ?_, fun s' t' e e2 bs bt hw => ?_, fun s' t' e e2 bs bt => ?_, fun s' e bs hn => absurd rfl (hn t), fun s' e bs => ?_, fun hn => absurd rfl (hn s)⟩
    · have := shT_inj.mp e
      subst this
      have := shT_inj.mp e2
      subst this
      simp
      simp only [bx__law_all_joined_1]
      simp
      refine ⟨_, _, rfl, some (joinS s t), rfl, j1, by show (joinS s t).width ≤ 20000; omega, by show Tr.int ((s.width : Int) + (t.width : Int)) = .int ((joinS s t).width : Nat); congr 1; omega, ?_⟩
      simp
      have ew : (s.width : Int) + (t.width : Int) = ((joinS s t).width : Int) := by omega
      rw [ew]
      exact hN _ _ ⟨joinS s t, ⟨_, _, rfl⟩, j1, by omega, L.trans L2⟩
    · have := shT_inj.mp e
      subst this
      have := shT_inj.mp e2
      subst this
      omega
    · have := shT_inj.mp e2
      subst this
      rw [tb] at bt; cases bt
    · have := shT_inj.mp e
      subst this
      rw [sb] at bs; cases bs
  · rintro σ M' ⟨s, z3, z4, rfl, sb, sw, L⟩
    have hp2 := (L1.trans L) _ _ hp1
    have lr : (heldT r).length = r.length := by unfold heldT; simp
    rw [lr] at sw
    show bx__law_all_joined_6 cn (fEnds Q E) _ _
    simp only [bx__law_all_joined_6]
    simp [hp2]
    have et : (heldT (s0 :: r)).tail = heldT r := rfl
    rw [et]
    intro q2 hq2
    have L2 : Le M' (up M' q2 (.lst (heldT r).reverse)) := Le.new hq2
    have eq2 : up M' q2 (.lst (heldT r).reverse) q2 = some (.lst (heldT r).reverse) := up_same
    generalize up M' q2 (.lst (heldT r).reverse) = M2 at L2 eq2
    have LM := (L1.trans L).trans L2
    simp [eq2]
    refine for_itL (fun i σ M' => ∃ (s : Sh) (z3 z4 z5 : Option Tr), σ = [some (.loc p), some (shT s), some (.int s.width), z3, z4, z5] ∧ s.bal = true ∧ s.width = pre (r.length - i) ∧ Le M2 M') ?_ ?_ ?_ ?_
    · exact ⟨s, _, _, _, rfl, sb, sw, Le.refl⟩
    · rintro i σ M' _ ⟨s, z3, z4, z5, rfl, _, _, L⟩
      exact seqT_lst (L _ _ eq2)
    · rintro i e σ M4 he ⟨s, z3, z4, z5, rfl, sb, sw, L4⟩
      have hi : i < r.length := by
        have := (List.getElem?_eq_some_iff.mp he).1
        rw [List.length_reverse, lr] at this
        exact this
      rw [List.getElem?_reverse (by rw [lr]; exact hi), lr] at he
      obtain ⟨t, et, rfl⟩ := item he
      have tb := sub (i := r.length - 1 - i + 1) (by rw [List.getElem?_cons_succ]; exact et)
      have tw := ps _ t et
      have t1 := p1 (r.length - 1 - i)
      have t20 := p20 (r.length - i)
      rw [show r.length - 1 - i + 1 = r.length - i by omega] at tw
      obtain ⟨k, hk⟩ : ∃ k : Nat, (s.width : Int) - (t.width : Int) = k := ⟨s.width - t.width, by omega⟩
      obtain ⟨c1, c2, c3, c4⟩ := cutSh_ok (s := s) (n := k) sb (by omega) (by omega)
      simp
      refine nx_cut fun NX hN => ?_
      simp only [bx__law_all_joined_5]
      simp [hk]
      refine ⟨_, _, rfl, shok_b sb (by omega), "int", rfl, fun s' k' e bs en hk' M5 L5 => ?_, fun s' e bs cc => ?_, fun s' e bs => ?_, fun h => absurd rfl (h s)⟩
      · have := shT_inj.mp e
        subst this
        obtain rfl : k = k' := by injection en; omega
        simp only [bx__law_all_joined_4]
        simp [hk]
        refine ⟨_, _, rfl, (cutSh s k).1, rfl, c1, by omega, by rw [c3], ?_⟩
        simp
        refine ⟨_, _, rfl, (cutSh s k).2, rfl, c2, by omega, by rw [c4]; congr 1; omega, ?_⟩
        simp
        simp only [bx__law_all_joined_3]
        simp [hk]
        cases e1 : (cutSh s k).1 with
        | none =>
          rw [e1] at c3
          have : 0 = k := c3
          omega
        | some u =>
          rw [e1] at c1 c3
          have c3 : u.width = k := c3
          rw [← c3]
          exact hN _ _ ⟨u, ⟨_, _, _, rfl⟩, c1, by rw [show r.length - (i + 1) = r.length - 1 - i by omega]; omega, L4.trans L5⟩
      · exfalso
        have := shT_inj.mp e
        subst this
        have cc : decide (0 ≤ (k : Int) ∧ (k : Int) ≤ s.width) = false := cc
        rw [decide_eq_false_iff_not] at cc
        omega
      · have := shT_inj.mp e
        subst this
        rw [sb] at bs; cases bs
    · rintro σ M4 ⟨s, z3, z4, z5, rfl, sb, sw, L4⟩
      simp
      exact Fg.same (hq _ (LM.trans L4))
end T

/-! J: deeds on shapes that are held. -/
namespace T
open PySem PySem.Spec PyProof.Rows L2
open Sh
section
variable {cn : Cn} {M : Ms} {Q : Q2} {E : X2}
theorem joined_call {s t : Sh} (sb : s.bal = true) (tb : t.bal = true) (hw : s.width + t.width ≤ 20000) (h : ∀ M', Le M M' → Q (shT (joinS s t)) M') : spx_joined_shapes cn [shT s, shT t] M Q E := by
  refine ⟨_, _, rfl, shok_b sb (by omega), shok_b tb (by omega), fun s' t' e e2 bs bt hw' M2 L2 => ?_, fun s' t' e e2 bs bt hw' => ?_, fun s' t' e e2 bs bt => ?_, fun s' e bs hn => absurd rfl (hn t), fun s' e bs => ?_, fun hn => absurd rfl (hn s)⟩
  · rw [← shT_inj.mp e, ← shT_inj.mp e2]
    exact h M2 L2
  · exfalso
    have := shT_inj.mp e
    subst this
    have := shT_inj.mp e2
    subst this
    omega
  · exfalso
    have := shT_inj.mp e2
    subst this
    rw [tb] at bt; cases bt
  · exfalso
    have := shT_inj.mp e
    subst this
    rw [sb] at bs; cases bs
theorem cut_call {s : Sh} {k : Nat} (sb : s.bal = true) (hw : s.width ≤ 20000) (hk : k ≤ s.width) (h : ∀ M', Le M M' → Q (.tup [oShT (cutSh s k).1, oShT (cutSh s k).2]) M') : spx_cut_shape cn [shT s, .int k] M Q E := by
  refine ⟨_, _, rfl, shok_b sb hw, "int", rfl, fun s' k' e bs en hk' M5 L5 => ?_, fun s' e bs cc => ?_, fun s' e bs => ?_, fun h => absurd rfl (h s)⟩
  · have := shT_inj.mp e
    subst this
    obtain rfl : k = k' := by injection en; omega
    exact h M5 L5
  · exfalso
    have := shT_inj.mp e
    subst this
    have cc : decide (0 ≤ (k : Int) ∧ (k : Int) ≤ s.width) = false := cc
    rw [decide_eq_false_iff_not] at cc
    omega
  · exfalso
    have := shT_inj.mp e
    subst this
    rw [sb] at bs; cases bs
theorem put_call {o : Option Sh} {k : Nat} (sb : obal o = true) (hw : owid o < 20000) (hk : k ≤ owid o) (h : ∀ M', Le M M' → Q (shT (withO o k)) M') : spx_put_shape cn [oShT o, .int k] M Q E := ⟨_, _, rfl, o, k, rfl, sb, hw, rfl, hk, h⟩
theorem taken_call {s : Sh} {k : Nat} (sb : s.bal = true) (hw : s.width ≤ 20000) (hk : k < s.width) (h : ∀ M', Le M M' → Q (oShT (lessS s k)) M') : spx_taken_shape cn [shT s, .int k] M Q E := ⟨_, _, rfl, s, k, rfl, sb, hw, rfl, hk, h⟩
end
def owT (o : Option Sh) : Tr := .int (owid o : Nat)
def spx__law_deed (cn : Cn) : Sp2 := A2 fun a b M Q _ => ∃ (f p : Addr) (n : Nat) (o : MO) (l : List Sh), a = .loc f ∧ b = .loc p ∧ f ≠ p ∧ M f = some o ∧ FeedO n o ∧ n ≤ 1000 ∧ M p = some (.lst (heldT l)) ∧ l ≠ [] ∧ l.length ≤ 1000 ∧ (∀ s ∈ l, s.bal = true ∧ s.width ≤ 90) ∧
  ∀ M' g m ag w (gs : List Int) (os : List (Option Sh)), Kf f M M' → M' g = some (.lst (gs.map Tr.int)) → M' m = some (.lst (os.map oShT)) → M' ag = some (.lst (os.map oShT)) → M' w = some (.lst (os.map owT)) → (∀ o ∈ os, obal o = true ∧ owid o ≤ 90) → os.length ≤ 2 → gs.length ≤ 2 → Q (.tup [.loc g, .loc m, .loc ag, .loc w]) M'
def n__law_deed : List Str := "feed" :: "held" :: "at" :: "shape" :: "width" :: "other" :: "way" :: "made" :: "many" :: "place" :: []
def bx__law_deed_1 (cn : Cn) : TS2 := (sRt (eTup (aCons (eLst (aCons (eVar 2) (aCons (eVar 5) aNil))) (aCons (eLst (aCons (eVar 7) aNil)) (aCons (eLst (aCons (eCall (spx_joined_shapes cn) [] (aCons (eVar 3) (aCons (eOp rIx2 (eOp rIx2 (eVar 1) (eVar 5)) (eC (.int 0))) aNil))) aNil)) (aCons (eLst (aCons (eOp rAdd2 (eVar 4) (eOp rIx2 (eOp rIx2 (eVar 1) (eVar 5)) (eC (.int 1)))) aNil)) aNil))))))
def bx__law_deed_2 (cn : Cn) : TS2 := (sSq (sAs (eCall (spx_joined_shapes cn) [] (aCons (eVar 3) (aCons (eOp rIx2 (eOp rIx2 (eVar 1) (eVar 5)) (eC (.int 0))) aNil))) (gN 7))
  (bx__law_deed_1 cn))
def bx__law_deed_3 (cn : Cn) : TS2 := (sRt (eTup (aCons (eLst (aCons (eVar 2) aNil)) (aCons (eB rList2 (aCons (eCall (spx_cut_shape cn) [] (aCons (eVar 3) (aCons (eVar 8) aNil))) aNil)) (aCons (eB rList2 (aCons (eCall (spx_cut_shape cn) [] (aCons (eVar 3) (aCons (eVar 8) aNil))) aNil)) (aCons (eLst (aCons (eVar 8) (aCons (eOp rSub2 (eVar 4) (eVar 8)) aNil))) aNil))))))
def bx__law_deed_4 (cn : Cn) : TS2 := (sSq (sAs (eCall sp__law_draw [] (aCons (eVar 0) (aCons (eOp rAdd2 (eVar 4) (eC (.int 1))) aNil))) (gN 8))
  (bx__law_deed_3 cn))
def bx__law_deed_5 (cn : Cn) : TS2 := (sRt (eTup (aCons (eLst aNil) (aCons (eLst (aCons (eCall (spx_put_shape cn) [] (aCons (eTup aNil) (aCons (eC (.int 0)) aNil))) aNil)) (aCons (eLst (aCons (eCall (spx_put_shape cn) [] (aCons (eTup aNil) (aCons (eC (.int 0)) aNil))) aNil)) (aCons (eLst (aCons (eC (.int 1)) aNil)) aNil))))))
def bx__law_deed_6 (cn : Cn) : TS2 := (sRt (eTup (aCons (eLst (aCons (eVar 2) aNil)) (aCons (eLst (aCons (eCall (spx_put_shape cn) [] (aCons (eVar 3) (aCons (eVar 9) aNil))) aNil)) (aCons (eLst (aCons (eCall (spx_put_shape cn) [] (aCons (eVar 3) (aCons (eVar 9) aNil))) aNil)) (aCons (eLst (aCons (eOp rAdd2 (eVar 4) (eC (.int 1))) aNil)) aNil))))))
def bx__law_deed_7 (cn : Cn) : TS2 := (sSq (sAs (eCall sp__law_draw [] (aCons (eVar 0) (aCons (eOp rAdd2 (eVar 4) (eC (.int 1))) aNil))) (gN 9))
  (bx__law_deed_6 cn))
def bx__law_deed_8 (cn : Cn) : TS2 := (sRt (eTup (aCons (eLst (aCons (eVar 2) aNil)) (aCons (eLst (aCons (eCall (spx_taken_shape cn) [] (aCons (eVar 3) (aCons (eVar 9) aNil))) aNil)) (aCons (eLst (aCons (eCall (spx_taken_shape cn) [] (aCons (eVar 3) (aCons (eVar 9) aNil))) aNil)) (aCons (eLst (aCons (eOp rSub2 (eVar 4) (eC (.int 1))) aNil)) aNil))))))
def bx__law_deed_9 (cn : Cn) : TS2 := (sSq (sAs (eCall sp__law_draw [] (aCons (eVar 0) (aCons (eVar 4) aNil))) (gN 9))
  (bx__law_deed_8 cn))
def bx__law_deed_10 (cn : Cn) : TS2 := (sSq (sIf (tAn (tCm (eOp rLtI (eVar 6) (eC (.int 4)))) (tCm (eOp rLtI (eVar 4) (eC (.int 90))))) (bx__law_deed_7 cn) sNx)
  (bx__law_deed_9 cn))
def bx__law_deed_11 (cn : Cn) : TS2 := (sSq (sIf (tAn (tCm (eOp (rEqG id) (eVar 6) (eC (.int 2)))) (tCm (eOp rLtI (eB rLen2 (aCons (eVar 1) aNil)) (eC (.int 8))))) (bx__law_deed_5 cn) sNx)
  (bx__law_deed_10 cn))
def bx__law_deed_12 (cn : Cn) : TS2 := (sSq (sIf (tAn (tCm (eOp (rEqG id) (eVar 6) (eC (.int 1)))) (tCm (eOp rLtI (eB rLen2 (aCons (eVar 1) aNil)) (eC (.int 8))))) (bx__law_deed_4 cn) sNx)
  (bx__law_deed_11 cn))
def bx__law_deed_13 (cn : Cn) : TS2 := (sSq (sIf (tAn (tCm (eOp (rEqG id) (eVar 6) (eC (.int 0)))) (tAn (tCm (eOp (rEqG not) (eVar 5) (eVar 2))) (tCm (eOp rLeI (eOp rAdd2 (eVar 4) (eOp rIx2 (eOp rIx2 (eVar 1) (eVar 5)) (eC (.int 1)))) (eC (.int 90)))))) (bx__law_deed_2 cn) sNx)
  (bx__law_deed_12 cn))
def bx__law_deed_14 (cn : Cn) : TS2 := (sSq (sAs (eCall sp__law_draw [] (aCons (eVar 0) (aCons (eC (.int 5)) aNil))) (gN 6))
  (bx__law_deed_13 cn))
def bx__law_deed_15 (cn : Cn) : TS2 := (sSq (sAs (eCall sp__law_draw [] (aCons (eVar 0) (aCons (eB rLen2 (aCons (eVar 1) aNil)) aNil))) (gN 5))
  (bx__law_deed_14 cn))
def bx__law_deed_16 (cn : Cn) : TS2 := (sSq (sAs (eOp rIx2 (eVar 1) (eVar 2)) (gT 2 (gCo (gN 3) (gCo (gN 4) gNil2))))
  (bx__law_deed_15 cn))
def bx__law_deed (cn : Cn) : TS2 := (sSq (sAs (eCall sp__law_draw [] (aCons (eVar 0) (aCons (eB rLen2 (aCons (eVar 1) aNil)) aNil))) (gN 2))
  (bx__law_deed_16 cn))
theorem semx__law_deed (cn : Cn) : ∀ ds M Q E, spx__law_deed cn ds M Q E → bx__law_deed cn (fEnds Q E) (start2 n__law_deed ds) M := by
  rintro ds M Q E ⟨a, b, rfl, f, p, n, o, l, rfl, rfl, fp, hf, hF, hn, hp1, hne, hl, hb, hq⟩
  have l1 : 1 ≤ sizeLine := small_line (by decide)
  have l2 : 2 ≤ sizeLine := small_line (by decide)
  have l4 : 4 ≤ sizeLine := small_line (by decide)
  have len : (heldT l).length = l.length := by unfold heldT; simp
  have lp : 0 < l.length := by cases l with
    | nil => exact absurd rfl hne
    | cons _ _ => exact Nat.succ_pos _
  have item : ∀ i : Nat, i < l.length → ∃ s, (heldT l)[i]? = some (.tup [shT s, .int s.width]) ∧ s.bal = true ∧ s.width ≤ 90 := fun i hi => by
    refine ⟨l[i], by unfold heldT; rw [List.getElem?_map, List.getElem?_eq_getElem hi]; rfl, hb _ (List.getElem_mem hi)⟩
  simp only [bx__law_deed, start2, n__law_deed]
  simp [hp1, len]
  refine ⟨_, _, rfl, f, l.length, n, o, rfl, rfl, by omega, by omega, by omega, hf, hF, fun r1 o1 h1 h2 hF1 => ?_⟩
  obtain ⟨i, rfl⟩ : ∃ i : Nat, r1 = i := ⟨r1.toNat, by omega⟩
  have p1 : up M f o1 p = some (.lst (heldT l)) := by rw [up_ne fp.symm]; exact hp1
  have hf1 : up M f o1 f = some o1 := up_same
  have K1 : Kf f M (up M f o1) := Kf.feed
  generalize up M f o1 = M1 at p1 hf1 K1
  obtain ⟨s, es, sb, sw⟩ := item i (by omega)
  have spos := width_pos s
  simp only [bx__law_deed_16]
  simp [p1, ↓kAt_get es]
  simp only [bx__law_deed_15]
  simp [p1, len]
  refine ⟨_, _, rfl, f, l.length, _, o1, rfl, rfl, by omega, by omega, by omega, hf1, hF1, fun r2 o2 h3 h4 hF2 => ?_⟩
  obtain ⟨j, rfl⟩ : ∃ j : Nat, r2 = j := ⟨r2.toNat, by omega⟩
  have p2 : up M1 f o2 p = some (.lst (heldT l)) := by rw [up_ne fp.symm]; exact p1
  have hf2 : up M1 f o2 f = some o2 := up_same
  have K2 : Kf f M (up M1 f o2) := K1.trans Kf.feed
  generalize up M1 f o2 = M2 at p2 hf2 K2
  obtain ⟨t, et, tb, tw⟩ := item j (by omega)
  simp only [bx__law_deed_14]
  simp
  refine ⟨_, _, rfl, f, 5, _, o2, rfl, rfl, by omega, by omega, by omega, hf2, hF2, fun way o3 h5 h6 hF3 => ?_⟩
  have p3 : up M2 f o3 p = some (.lst (heldT l)) := by rw [up_ne fp.symm]; exact p2
  have hf3 : up M2 f o3 f = some o3 := up_same
  have K3 : Kf f M (up M2 f o3) := K2.trans Kf.feed
  generalize up M2 f o3 = M3 at p3 hf3 K3
  clear hF hF1 hF2 hf1 hf2
  -- taking
  have take : ∀ (D : Ends2), D.rt = Fg Q → bx__law_deed_9 cn D [some (.loc f), some (.loc p), some (.int i), some (shT s), some (.int s.width), some (.int j), some (.int way), none, none, none] M3 := by
    intro D hD
    simp only [bx__law_deed_9]
    simp
    refine ⟨_, _, rfl, f, s.width, _, o3, rfl, rfl, by omega, by omega, by omega, hf3, hF3, fun r4 o4 h7 h8 hF4 => ?_⟩
    obtain ⟨k, rfl⟩ : ∃ k : Nat, r4 = k := ⟨r4.toNat, by omega⟩
    have K4 : Kf f M (up M3 f o4) := K3.trans Kf.feed
    generalize up M3 f o4 = M4 at K4
    obtain ⟨w1, w2, w3, w4⟩ := lessS_ok (s := s) (n := k) sb (by omega)
    simp only [bx__law_deed_8]
    simp [l1]
    refine newL_cut fun g M5 L5 eg => ?_
    simp
    refine taken_call (s := s) (k := k) sb (by omega) (by omega) fun M6 L6 => ?_
    simp [l1]
    refine newL_cut fun m M7 L7 em => ?_
    simp
    refine taken_call (s := s) (k := k) sb (by omega) (by omega) fun M8 L8 => ?_
    simp [l1]
    refine newL_cut fun ag M9 L9 eag => ?_
    simp [l1]
    refine newL_cut fun w M10 L10 ew => ?_
    simp [l4]
    rw [hD]
    have ewd : (s.width : Int) - 1 = (owid (lessS s k) : Nat) := by omega
    rw [ewd] at ew
    refine Fg.same (hq M10 g m ag w [(i : Int)] [lessS s k] ((K4.trans ((((L5.trans L6).trans L7).trans L8).trans L9).kf).trans L10.kf) ((((((L6.trans L7).trans L8).trans L9).trans L10)) _ _ eg) ((((L8.trans L9).trans L10)) _ _ em) (L10 _ _ eag) ew (fun o ho => ?_) (by simp) (by simp))
    rw [List.mem_singleton.mp ho]
    exact ⟨w1, by omega⟩
  have put : ∀ (D : Ends2), D.rt = Fg Q → s.width < 90 → bx__law_deed_7 cn D [some (.loc f), some (.loc p), some (.int i), some (shT s), some (.int s.width), some (.int j), some (.int way), none, none, none] M3 := by
    intro D hD hw
    simp only [bx__law_deed_7]
    simp
    refine ⟨_, _, rfl, f, (s.width : Int) + 1, _, o3, rfl, rfl, by omega, by omega, by omega, hf3, hF3, fun r4 o4 h7 h8 hF4 => ?_⟩
    obtain ⟨k, rfl⟩ : ∃ k : Nat, r4 = k := ⟨r4.toNat, by omega⟩
    have K4 : Kf f M (up M3 f o4) := K3.trans Kf.feed
    generalize up M3 f o4 = M4 at K4
    obtain ⟨w1, w2, w3, w4⟩ := withS_ok (s := s) (n := k) sb
    simp only [bx__law_deed_6]
    simp [l1]
    refine newL_cut fun g M5 L5 eg => ?_
    simp
    refine put_call (o := some s) (k := k) sb (by show s.width < 20000; omega) (by show k ≤ s.width; omega) fun M6 L6 => ?_
    simp [l1]
    refine newL_cut fun m M7 L7 em => ?_
    simp
    refine put_call (o := some s) (k := k) sb (by show s.width < 20000; omega) (by show k ≤ s.width; omega) fun M8 L8 => ?_
    simp [l1]
    refine newL_cut fun ag M9 L9 eag => ?_
    simp [l1]
    refine newL_cut fun w M10 L10 ew => ?_
    simp [l4]
    rw [hD]
    have ewd : (s.width : Int) + 1 = (owid (some (withS s k)) : Nat) := by show _ = ((withS s k).width : Int); omega
    rw [ewd] at ew
    refine Fg.same (hq M10 g m ag w [(i : Int)] [some (withS s k)] ((K4.trans ((((L5.trans L6).trans L7).trans L8).trans L9).kf).trans L10.kf) ((((((L6.trans L7).trans L8).trans L9).trans L10)) _ _ eg) ((((L8.trans L9).trans L10)) _ _ em) (L10 _ _ eag) ew (fun o ho => ?_) (by simp) (by simp))
    rw [List.mem_singleton.mp ho]
    exact ⟨w1, by show (withS s k).width ≤ 90; omega⟩
  have new : ∀ (D : Ends2), D.rt = Fg Q → bx__law_deed_5 cn D [some (.loc f), some (.loc p), some (.int i), some (shT s), some (.int s.width), some (.int j), some (.int way), none, none, none] M3 := by
    intro D hD
    simp only [bx__law_deed_5]
    simp
    refine newL_cut fun g M5 L5 eg => ?_
    simp
    refine put_call (o := none) (k := 0) rfl (by decide) (by decide) fun M6 L6 => ?_
    simp [l1]
    refine newL_cut fun m M7 L7 em => ?_
    simp
    refine put_call (o := none) (k := 0) rfl (by decide) (by decide) fun M8 L8 => ?_
    simp [l1]
    refine newL_cut fun ag M9 L9 eag => ?_
    simp [l1]
    refine newL_cut fun w M10 L10 ew => ?_
    simp [l4]
    rw [hD]
    refine Fg.same (hq M10 g m ag w [] [some .leaf] ((K3.trans ((((L5.trans L6).trans L7).trans L8).trans L9).kf).trans L10.kf) ((((((L6.trans L7).trans L8).trans L9).trans L10)) _ _ eg) ((((L8.trans L9).trans L10)) _ _ em) (L10 _ _ eag) ew (fun o ho => ?_) (by simp) (by simp))
    rw [List.mem_singleton.mp ho]
    exact ⟨rfl, by decide⟩
  have cut : ∀ (D : Ends2), D.rt = Fg Q → bx__law_deed_4 cn D [some (.loc f), some (.loc p), some (.int i), some (shT s), some (.int s.width), some (.int j), some (.int way), none, none, none] M3 := by
    intro D hD
    simp only [bx__law_deed_4]
    simp
    refine ⟨_, _, rfl, f, (s.width : Int) + 1, _, o3, rfl, rfl, by omega, by omega, by omega, hf3, hF3, fun r4 o4 h7 h8 hF4 => ?_⟩
    obtain ⟨k, rfl⟩ : ∃ k : Nat, r4 = k := ⟨r4.toNat, by omega⟩
    have K4 : Kf f M (up M3 f o4) := K3.trans Kf.feed
    generalize up M3 f o4 = M4 at K4
    obtain ⟨c1, c2, c3, c4⟩ := cutSh_ok (s := s) (n := k) sb (by omega) (by omega)
    simp only [bx__law_deed_3]
    simp [l1]
    refine newL_cut fun g M5 L5 eg => ?_
    simp
    refine cut_call (s := s) (k := k) sb (by omega) (by omega) fun M6 L6 => ?_
    simp
    refine newL_cut fun m M7 L7 em => ?_
    simp
    refine cut_call (s := s) (k := k) sb (by omega) (by omega) fun M8 L8 => ?_
    simp
    refine newL_cut fun ag M9 L9 eag => ?_
    simp [l2]
    refine newL_cut fun w M10 L10 ew => ?_
    simp [l4]
    rw [hD]
    have ew1 : (k : Int) = (owid (cutSh s k).1 : Nat) := by omega
    have ew2 : (s.width : Int) - (k : Int) = (owid (cutSh s k).2 : Nat) := by omega
    have ew : M10 w = some (.lst [owT (cutSh s k).1, owT (cutSh s k).2]) := by
      rw [ew, ew2]
      unfold owT
      rw [← ew1]
    refine Fg.same (hq M10 g m ag w [(i : Int)] [(cutSh s k).1, (cutSh s k).2] ((K4.trans ((((L5.trans L6).trans L7).trans L8).trans L9).kf).trans L10.kf) ((((((L6.trans L7).trans L8).trans L9).trans L10)) _ _ eg) ((((L8.trans L9).trans L10)) _ _ em) (L10 _ _ eag) ew (fun o ho => ?_) (by simp) (by simp))
    simp at ho
    rcases ho with rfl | rfl
    · exact ⟨c1, by omega⟩
    · exact ⟨c2, by omega⟩
  have join : ∀ (D : Ends2), D.rt = Fg Q → s.width + t.width ≤ 90 → bx__law_deed_2 cn D [some (.loc f), some (.loc p), some (.int i), some (shT s), some (.int s.width), some (.int j), some (.int way), none, none, none] M3 := by
    intro D hD hw
    obtain ⟨j1, j2, j3, j4⟩ := joinS_ok (l := s) (r := t) (by have := bal_small sb (by omega); omega) (by have := bal_small tb (by omega); omega) sb tb
    simp only [bx__law_deed_2]
    simp [p3, ↓kAt_get et]
    refine joined_call sb tb (by omega) fun M4 L4 => ?_
    simp only [bx__law_deed_1]
    simp [l2]
    refine newL_cut fun g M5 L5 eg => ?_
    simp [l1]
    refine newL_cut fun m M6 L6 em => ?_
    have p6 := (((L4.trans L5).trans L6)) _ _ p3
    simp [p6, ↓kAt_get et]
    refine joined_call sb tb (by omega) fun M7 L7 => ?_
    simp [l1]
    refine newL_cut fun ag M8 L8 eag => ?_
    have p8 := (((((L4.trans L5).trans L6).trans L7).trans L8)) _ _ p3
    simp [p8, ↓kAt_get et, l1]
    refine newL_cut fun w M9 L9 ew => ?_
    simp [l4]
    rw [hD]
    have ewd : (s.width : Int) + (t.width : Int) = (owid (some (joinS s t)) : Nat) := by show _ = ((joinS s t).width : Int); omega
    rw [ewd] at ew
    refine Fg.same (hq M9 g m ag w [(i : Int), (j : Int)] [some (joinS s t)] (K3.trans ((((((L4.trans L5).trans L6).trans L7).trans L8).trans L9).kf)) (((((L6.trans L7).trans L8).trans L9)) _ _ eg) ((((L7.trans L8).trans L9)) _ _ em) (L9 _ _ eag) ew (fun o ho => ?_) (by simp) (by simp))
    rw [List.mem_singleton.mp ho]
    exact ⟨j1, by show (joinS s t).width ≤ 90; omega⟩
  clear hq hf hp1 p1 p2
  have d10 : ∀ (D : Ends2), D.rt = Fg Q → bx__law_deed_10 cn D [some (.loc f), some (.loc p), some (.int i), some (shT s), some (.int s.width), some (.int j), some (.int way), none, none, none] M3 := by
    intro D hD
    simp only [bx__law_deed_10]
    simp
    by_cases c : way < 4
    · simp [c]
      by_cases c2 : s.width < 90
      · rw [if_pos (by omega)]
        exact put { D with nx := bx__law_deed_9 cn D } hD c2
      · rw [if_neg (by omega)]
        exact take { D with } hD
    · simp [c]
      exact take { D with } hD
  have d11 : ∀ (D : Ends2), D.rt = Fg Q → bx__law_deed_11 cn D [some (.loc f), some (.loc p), some (.int i), some (shT s), some (.int s.width), some (.int j), some (.int way), none, none, none] M3 := by
    intro D hD
    simp only [bx__law_deed_11]
    simp
    by_cases c : way = 2
    · subst c
      simp [p3, len]
      by_cases c2 : l.length < 8
      · rw [if_pos (by omega)]
        exact new { D with nx := bx__law_deed_10 cn D } hD
      · rw [if_neg (by omega)]
        exact d10 { D with } hD
    · simp [c]
      exact d10 { D with } hD
  have d12 : ∀ (D : Ends2), D.rt = Fg Q → bx__law_deed_12 cn D [some (.loc f), some (.loc p), some (.int i), some (shT s), some (.int s.width), some (.int j), some (.int way), none, none, none] M3 := by
    intro D hD
    simp only [bx__law_deed_12]
    simp
    by_cases c : way = 1
    · subst c
      simp [p3, len]
      by_cases c2 : l.length < 8
      · rw [if_pos (by omega)]
        exact cut { D with nx := bx__law_deed_11 cn D } hD
      · rw [if_neg (by omega)]
        exact d11 { D with } hD
    · simp [c]
      exact d11 { D with } hD
  simp only [bx__law_deed_13]
  simp
  by_cases c : way = 0
  · subst c
    simp [p3, ↓kAt_get et]
    by_cases c1 : j = i
    · rw [if_pos (by omega)]
      exact d12 _ rfl
    · rw [if_neg (by omega)]
      by_cases c2 : s.width + t.width ≤ 90
      · rw [if_pos (by omega)]
        exact join _ rfl c2
      · rw [if_neg (by omega)]
        exact d12 _ rfl
  · simp [c]
    exact d12 _ rfl
end T

/-! J: the law k62. -/
namespace T
open PySem PySem.Spec PyProof.Rows L2
open Sh
theorem held_ok : ∀ l : List Sh, (∀ s ∈ l, s.bal = true ∧ s.width ≤ 90) → nbL (heldT l) = true ∧ hL (heldT l) ≤ 42
  | [], _ => ⟨rfl, Nat.zero_le _⟩
  | s :: r, h => by
    obtain ⟨a, b⟩ := held_ok r fun x hx => h x (List.mem_cons_of_mem _ hx)
    obtain ⟨h1, h2⟩ := h s (List.mem_cons_self ..)
    have := bal_small h1 (by omega)
    obtain ⟨n1, n2⟩ := shT_nb s
    constructor
    · show ((nbT (shT s) && (nbT (.int s.width) && true)) && nbL (heldT r)) = true
      rw [n1, a]; rfl
    · show max (max (hT (shT s)) (max 0 0) + 1) (hL (heldT r)) ≤ 42
      rw [n2]; omega
theorem os_ok : ∀ l : List (Option Sh), (∀ o ∈ l, obal o = true ∧ owid o ≤ 90) → nbL (l.map oShT) = true ∧ hL (l.map oShT) ≤ 42
  | [], _ => ⟨rfl, Nat.zero_le _⟩
  | o :: r, h => by
    obtain ⟨a, b⟩ := os_ok r fun x hx => h x (List.mem_cons_of_mem _ hx)
    obtain ⟨h1, h2⟩ := h o (List.mem_cons_self ..)
    have n2 := hT_o (o := o) (by have := o_small h1 (by omega); omega)
    constructor
    · show (nbT (oShT o) && nbL (r.map oShT)) = true
      rw [nb_o, a]; rfl
    · show max (hT (oShT o)) (hL (r.map oShT)) ≤ 42
      omega
theorem totW_mul : ∀ l : List Sh, (∀ s ∈ l, s.bal = true ∧ s.width ≤ 90) → totW l ≤ 90 * l.length
  | [], _ => Nat.zero_le _
  | s :: r, h => by
    have a := totW_mul r fun x hx => h x (List.mem_cons_of_mem _ hx)
    have b := (h s (List.mem_cons_self ..)).2
    show s.width + totW r ≤ 90 * (r.length + 1)
    omega
theorem heldT_app {a b : List Sh} : heldT (a ++ b) = heldT a ++ heldT b := by unfold heldT; exact List.map_append
theorem heldT_len {l : List Sh} : (heldT l).length = l.length := by unfold heldT; simp
theorem heldT_nil {l : List Sh} (h : heldT l = []) : l = [] := by unfold heldT at h; exact List.map_eq_nil_iff.mp h
def spx__law_asked_two (cn : Cn) : Sp2 := A1 fun a M Q _ => ∃ ns, a = scT ns ∧ Script ns ∧ ∀ M', Le M M' → Q (.bl true) M'
def n__law_asked_two : List Str := "script" :: "feed" :: "held" :: "turn" :: "shape" :: "k" :: "gone" :: "made" :: "again" :: "widths" :: "width" :: "at" :: []
def bx__law_asked_two_1 (cn : Cn) : TS2 := (sDr (eM "list" rApp2 (eVar 2) (aCons (eTup (aCons (eVar 4) (aCons (eOp rIx2 (eCall (sp__law_sizes mx__law_sizes) [] (aCons (eVar 4) aNil)) (eC (.int 0))) aNil))) aNil)))
def bx__law_asked_two_2 (cn : Cn) : TS2 := (sSq (sAs (eCall sp__law_any_balanced [] (aCons (eVar 1) (aCons (eC (.int 20)) aNil))) (gN 4))
  (bx__law_asked_two_1 cn))
def bx__law_asked_two_3 (cn : Cn) : TS2 := (sDr (eM "list" rApp2 (eVar 2) (aCons (eTup (aCons (eVar 4) (aCons (eVar 10) aNil))) aNil)))
def bx__law_asked_two_4 (cn : Cn) : TS2 := (sIf (tCm (eOp rGtI (eVar 10) (eC (.int 0)))) (bx__law_asked_two_3 cn) sNx)
def bx__law_asked_two_5 (cn : Cn) : TS2 := (sSq (sIf (tNo (tTr (eCall (spx__law_held cn) [] (aCons (eVar 4) (aCons (eVar 10) aNil))))) (sRt (eC (.bl false))) sNx)
  (bx__law_asked_two_4 cn))
def bx__law_asked_two_6 (cn : Cn) : TS2 := (sDr (eM "list" rApp2 (eVar 2) (aCons (eTup (aCons (eC .non) (aCons (eC (.int 1)) aNil))) aNil)))
def bx__law_asked_two_7 (cn : Cn) : TS2 := (sIf (tCm (eOp (rEqG id) (eVar 2) (eLst aNil))) (bx__law_asked_two_6 cn) sNx)
def bx__law_asked_two_8 (cn : Cn) : TS2 := (sSq (sFo (iZp (aCons (eVar 7) (aCons (eVar 9) aNil))) (gT 2 (gCo (gN 4) (gCo (gN 10) gNil2))) (bx__law_asked_two_5 cn))
  (bx__law_asked_two_7 cn))
def bx__law_asked_two_9 (cn : Cn) : TS2 := (sSq (sAs (eLc (iRg1 (aCons (eB rLen2 (aCons (eVar 2) aNil)) aNil)) (gN 11) (tCm (eOp (rInX not) (eVar 11) (eVar 6))) (eOp rIx2 (eVar 2) (eVar 11)) [11]) (gN 2))
  (bx__law_asked_two_8 cn))
def bx__law_asked_two_10 (cn : Cn) : TS2 := (sSq (sIf (tOrr (tCm (eOp (rEqG not) (eVar 7) (eVar 8))) (tCm (eOp (rEqG not) (eB rLen2 (aCons (eVar 7) aNil)) (eB rLen2 (aCons (eVar 9) aNil))))) (sRt (eC (.bl false))) sNx)
  (bx__law_asked_two_9 cn))
def bx__law_asked_two_11 (cn : Cn) : TS2 := (sSq (sAs (eCall (spx__law_deed cn) [] (aCons (eCall sp__law_feed [] (aCons (eVar 0) (aCons (eVar 5) aNil))) (aCons (eVar 2) aNil))) (gT 4 (gCo (gN 6) (gCo (gN 7) (gCo (gN 8) (gCo (gN 9) gNil2))))))
  (bx__law_asked_two_10 cn))
def bx__law_asked_two_12 (cn : Cn) : TS2 := (sSq (sFo (iRg2 (aCons (eC (.int 1)) (aCons (eB rMax2 (aCons (eC (.int 7)) (aCons (eB rMin2 (aCons (eC (.int 63)) (aCons (eB rLen2 (aCons (eVar 0) aNil)) aNil))) aNil))) aNil))) (gN 5) (bx__law_asked_two_11 cn))
  (sRt (eCall (spx__law_all_joined cn) [] (aCons (eVar 2) aNil))))
def bx__law_asked_two_13 (cn : Cn) : TS2 := (sSq (sFo (iRg1 (aCons (eOp rAdd2 (eC (.int 1)) (eCall sp__law_draw [] (aCons (eVar 1) (aCons (eC (.int 2)) aNil)))) aNil)) (gN 3) (bx__law_asked_two_2 cn))
  (bx__law_asked_two_12 cn))
def bx__law_asked_two (cn : Cn) : TS2 := (sSq (sAs (eCall sp__law_feed [] (aCons (eVar 0) (aCons (eC (.int 0)) aNil))) (gN 1))
  (sSq (sAs (eLst aNil) (gN 2))
  (bx__law_asked_two_13 cn)))
theorem semx__law_asked_two (cn : Cn) : ∀ ds M Q E, spx__law_asked_two cn ds M Q E → bx__law_asked_two cn (fEnds Q E) (start2 n__law_asked_two ds) M := by
  rintro ds M Q E ⟨a, rfl, ns, rfl, hs, hq⟩
  have hsl := hs.1
  have l2 : 2 ≤ sizeLine := small_line (by decide)
  simp only [bx__law_asked_two, start2, n__law_asked_two]
  simp
  refine ⟨_, _, rfl, ns, 0, rfl, rfl, hs, by decide, fun f o hf hF => ?_⟩
  have hf1 : up M f o f = some o := up_same
  have L1 : Le M (up M f o) := Le.new hf
  generalize up M f o = M1 at hf1 L1
  simp
  intro p hp
  have fp : f ≠ p := m_ne hf1 hp
  have hMp : M p = none := L1.none hp
  have ep : up M1 p (.lst []) p = some (.lst (heldT [])) := up_same
  have hf2 := Le.new (o := .lst []) hp _ _ hf1
  have L2 := L1.trans (Le.new (o := .lst []) hp)
  generalize up M1 p (.lst []) = M2 at ep hf2 L2
  simp only [bx__law_asked_two_13]
  simp
  refine ⟨_, _, rfl, f, 2, 0, o, rfl, rfl, by decide, by decide, by decide, hf2, hF, fun r o3 h1 h2 hF3 => ?_⟩
  obtain ⟨n1, hn1⟩ : ∃ n1 : Nat, (1 : Int) + r = n1 := ⟨(1 + r).toNat, by omega⟩
  have hf3 : up M2 f o3 f = some o3 := up_same
  have ep3 : up M2 f o3 p = some (.lst (heldT [])) := by rw [up_ne fp.symm]; exact ep
  have L3 : Le M (up M2 f o3) := le_put hf L2
  generalize up M2 f o3 = M3 at hf3 ep3 L3
  simp [hn1]
  refine ⟨by unfold Rg; omega, ?_⟩
  refine for_itR (fun i σ M' => ∃ (l : List Sh) (o' : MO) (z3 z4 : Option Tr), σ = [some (scT ns), some (.loc f), some (.loc p), z3, z4, none, none, none, none, none, none, none] ∧ M' p = some (.lst (heldT l)) ∧ l.length = i ∧ (∀ s ∈ l, s.bal = true ∧ s.width ≤ 90) ∧ M' f = some o' ∧ FeedO (1 + 100 * i) o' ∧ Le M M') ?_ (fun i σ M4 hi h => ?_) (fun σ M4 h => ?_)
  · exact ⟨[], o3, _, _, rfl, ep3, rfl, (fun s h => by cases h), hf3, hF3.mono (by omega), L3⟩
  · obtain ⟨l, o4, z3, z4, rfl, e4, ll, hl, hf4, hF4, L4⟩ := h
    simp
    refine nx_cut fun NX hN => ?_
    simp only [bx__law_asked_two_2]
    simp
    refine ⟨_, _, rfl, f, 20, _, o4, rfl, rfl, by decide, by decide, by omega, hf4, hF4, fun s o5 sb sw sh hF5 => ?_⟩
    have hf5 : up M4 f o5 f = some o5 := up_same
    have ep5 : up M4 f o5 p = some (.lst (heldT l)) := by rw [up_ne fp.symm]; exact e4
    have L5 : Le M (up M4 f o5) := le_put hf L4
    generalize up M4 f o5 = M5 at hf5 ep5 L5
    simp only [bx__law_asked_two_1]
    simp [ep5]
    refine ⟨_, rfl, wf_sh s, by show hT (shT s) < 41; rw [(shT_nb s).2]; omega, ?_⟩
    rw [szT_sh sb]
    simp [l2, ep5, heldT_len]
    refine ⟨small_lt (by omega), ?_⟩
    refine hN _ _ ⟨⟨_, _, rfl⟩, l ++ [s], by rw [up_same, heldT_app]; rfl, by simp [ll], fun x hx => ?_, o5, by rw [up_ne fp]; exact hf5, hF5.mono (by omega), le_put hMp L5⟩
    rcases List.mem_append.mp hx with h | h
    · exact hl x h
    · rw [List.mem_singleton.mp h]; exact ⟨sb, by omega⟩
  · obtain ⟨l, o4, z3, z4, rfl, e4, ll, hl, hf4, hF4, L4⟩ := h
    have lne : l ≠ [] := fun h => by subst h; simp at ll; omega
    have ll2 : l.length ≤ 2 := by omega
    show bx__law_asked_two_12 cn (fEnds Q E) _ _
    simp only [bx__law_asked_two_12]
    simp
    refine ⟨by unfold Rg; omega, by unfold Rg; split <;> split <;> omega, ?_⟩
    obtain ⟨K, hK, hK2⟩ : ∃ K, ((if (if ((ns.map Tr.int).length : Int) < 63 then ((ns.map Tr.int).length : Int) else 63) > 7 then (if ((ns.map Tr.int).length : Int) < 63 then ((ns.map Tr.int).length : Int) else 63) else 7) - 1).toNat = K ∧ K ≤ 62 := ⟨_, rfl, by split <;> split <;> omega⟩
    rw [hK]
    refine for_itR (fun i σ M' => ∃ (l : List Sh) (ph : Addr) (z3 z4 z5 z6 z7 z8 z9 z10 z11 : Option Tr), σ = [some (scT ns), some (.loc f), some (.loc ph), z3, z4, z5, z6, z7, z8, z9, z10, z11] ∧ M' ph = some (.lst (heldT l)) ∧ l ≠ [] ∧ l.length ≤ 2 + 2 * i ∧ (∀ s ∈ l, s.bal = true ∧ s.width ≤ 90) ∧ Le M M') ?_ (fun i σ M5 hi h => ?_) (fun σ M5 h => ?_)
    · exact ⟨l, p, _, _, _, _, _, _, _, _, _, rfl, e4, lne, ll2, hl, L4⟩
    · obtain ⟨l, ph, z3, z4, z5, z6, z7, z8, z9, z10, z11, rfl, e5, lne, ll, hl, L5⟩ := h
      clear ep hf2 ep3 hf3 hF3 e4 hf4 hF4 L4 L3 L2
      simp
      refine nx_cut fun NX hN => ?_
      simp only [bx__law_asked_two_11]
      simp
      have ei : (1 : Int) + (i : Int) = ((1 + i : Nat) : Int) := by omega
      rw [ei]
      refine ⟨_, _, rfl, ns, 1 + i, rfl, rfl, hs, by omega, fun f2 o2 hf2 hF2 => ?_⟩
      have e6 : up M5 f2 o2 ph = some (.lst (heldT l)) := by rw [up_ne (m_ne e5 hf2)]; exact e5
      have hf6 : up M5 f2 o2 f2 = some o2 := up_same
      have L6 := L5.trans (Le.new (o := o2) hf2)
      have hMf : M f2 = none := L5.none hf2
      have f2p : f2 ≠ ph := (m_ne e5 hf2).symm
      generalize up M5 f2 o2 = M6 at e6 hf6 L6
      simp
      refine ⟨_, _, rfl, f2, ph, 0, o2, l, rfl, rfl, f2p, hf6, hF2, by decide, e6, lne, by omega, hl, fun M7 g m ag w gs os K7 eg em eag ew hos los lgs => ?_⟩
      have e7 := K7 _ _ f2p.symm e6
      have L7 : Le M M7 := Kf.up hMf (L6.kf.trans K7)
      clear e6 hf6 K7
      simp
      simp only [bx__law_asked_two_10]
      simp
      obtain ⟨nb1, nb2⟩ := os_ok os hos
      refine eqS_lists true em eag nb1 nb1 (by rw [hL_ok]; omega) (by rw [hL_ok]; omega) (by simp) ?_
      simp [em, ew]
      simp only [bx__law_asked_two_9]
      simp [e7, heldT_len]
      have eF : (List.range (heldT l).length).filterMap (fun j : Nat => if inT (.int (j : Int)) (gs.map Tr.int) = true then none else (heldT l)[j]?) = heldT ((List.range l.length).filterMap fun j : Nat => if inT (.int (j : Int)) (gs.map Tr.int) = true then none else l[j]?) := by
        unfold heldT
        rw [List.map_filterMap, List.length_map]
        refine congrArg (fun h => (List.range l.length).filterMap h) (funext fun j => ?_)
        split
        · rfl
        · rw [List.getElem?_map]
      refine ⟨by unfold Rg; omega, fun p2 hp2 => lc_fmR (fun j : Nat => if inT (.int (j : Int)) (gs.map Tr.int) = true then none else (heldT l)[j]?) (by rw [heldT_len]; omega) ?_ ?_⟩
      rotate_left
      · intro j M8 hj fr KY KN k1 k2
        rw [heldT_len] at hj
        have e0 : (0 : Int) + (j : Int) = (j : Int) := by omega
        rw [e0]
        have eg8 : M8 g = some (.lst (gs.map Tr.int)) := by rw [fr _ (m_ne eg hp2)]; exact eg
        have e8 : M8 ph = some (.lst (heldT l)) := by rw [fr _ (m_ne e7 hp2)]; exact e7
        obtain ⟨x, hx⟩ : ∃ x, (heldT l)[j]? = some x := ⟨_, List.getElem?_eq_getElem (by rw [heldT_len]; exact hj)⟩
        simp [wipe2]
        refine rInX_seq (seqT_lst eg8) rfl (by simp [flatT]) ?_
        by_cases c : inT (.int (j : Int)) (gs.map Tr.int) = true
        · simp [c]
          exact k2 (by rw [if_pos c])
        · have c' : inT (.int (j : Int)) (gs.map Tr.int) = false := by simpa using c
          simp [c', e8, ↓kAt_get hx]
          exact k1 _ (by rw [if_neg c, hx])
      rw [eF]
      obtain ⟨l1, hl1, hm1, hlen1⟩ : ∃ l1, ((List.range l.length).filterMap fun j : Nat => if inT (.int (j : Int)) (gs.map Tr.int) = true then none else l[j]?) = l1 ∧ (∀ s ∈ l1, s ∈ l) ∧ l1.length ≤ l.length := by
        refine ⟨_, rfl, fun s hs => ?_, by have := List.length_filterMap_le (fun j : Nat => if inT (.int (j : Int)) (gs.map Tr.int) = true then none else l[j]?) (List.range l.length); rwa [List.length_range] at this⟩
        obtain ⟨j, _, hj⟩ := List.mem_filterMap.mp hs
        split at hj
        · cases hj
        · exact List.mem_of_getElem? hj
      rw [hl1]
      have hl1 : ∀ s ∈ l1, s.bal = true ∧ s.width ≤ 90 := fun s h => hl s (hm1 s h)
      have hMp2 : M p2 = none := L7.none hp2
      have e8 : up M7 p2 (.lst (heldT l1)) p2 = some (.lst (heldT l1)) := up_same
      have L8 : Le M7 (up M7 p2 (.lst (heldT l1))) := Le.new hp2
      have em8 := L8 _ _ em
      have ew8 := L8 _ _ ew
      have mp2 : m ≠ p2 := m_ne em hp2
      have wp2 : w ≠ p2 := m_ne ew hp2
      have L8 := L7.trans L8
      generalize up M7 p2 (.lst (heldT l1)) = M8 at e8 L8 em8 ew8
      clear e7 eg em eag ew L7
      simp only [bx__law_asked_two_8]
      simp [em8, ew8]
      refine for_itL (fun j σ M' => ∃ (lx : List Sh) (z4 z10 : Option Tr), σ = [some (scT ns), some (.loc f), some (.loc p2), z3, z4, some (.int (1 + (i : Int))), some (.loc g), some (.loc m), some (.loc ag), some (.loc w), z10, z11] ∧ M' p2 = some (.lst (heldT lx)) ∧ lx.length ≤ l1.length + j ∧ (∀ s ∈ lx, s.bal = true ∧ s.width ≤ 90) ∧ M' m = some (.lst (os.map oShT)) ∧ M' w = some (.lst (os.map owT)) ∧ Le M M') ?_ ?_ ?_ ?_
      · exact ⟨l1, _, _, rfl, e8, Nat.le_refl _, hl1, em8, ew8, L8⟩
      · rintro j σ M9 _ ⟨lx, z4, z10, rfl, e9, ll9, hl9, em9, ew9, L9⟩
        exact ⟨seqT_lst em9, seqT_lst ew9⟩
      · rintro j e σ M9 he ⟨lx, z4, z10, rfl, e9, ll9, hl9, em9, ew9, L9⟩
        obtain ⟨x, y, hx, hy, rfl⟩ := zipT_get he
        obtain ⟨ox, ho, rfl, rfl⟩ : ∃ ox, os[j]? = some ox ∧ x = oShT ox ∧ y = owT ox := by
          rw [List.getElem?_map] at hx hy
          cases c : os[j]? with
          | none => rw [c] at hx; cases hx
          | some ox =>
            rw [c] at hx hy
            cases hx; cases hy
            exact ⟨ox, rfl, rfl, rfl⟩
        obtain ⟨ob, ow⟩ := hos ox (List.mem_of_getElem? ho)
        have hj : j < os.length := (List.getElem?_eq_some_iff.mp ho).1
        simp
        refine nx_cut fun NX2 hN2 => ?_
        simp only [bx__law_asked_two_5]
        simp
        refine ⟨_, _, rfl, ox, rfl, ob, by omega, rfl, ?_⟩
        simp
        simp only [bx__law_asked_two_4]
        cases ox with
        | none =>
          simp [owT, show owid none = 0 from rfl]
          exact hN2 _ _ ⟨⟨_, _, rfl⟩, lx, e9, by omega, hl9, em9, ew9, L9⟩
        | some s =>
          have sb : s.bal = true := ob
          have sw : s.width ≤ 90 := ow
          have spos := width_pos s
          have c1 : (0 : Int) < (s.width : Int) := by omega
          have c2 : 0 < s.width := by omega
          simp [owT, show owid (some s) = s.width from rfl, c1, c2]
          simp only [bx__law_asked_two_3]
          simp [e9, l2, heldT_len]
          refine ⟨small_lt (by omega), ?_⟩
          refine hN2 _ _ ⟨⟨_, _, rfl⟩, lx ++ [s], by rw [up_same, heldT_app]; rfl, by rw [List.length_append, List.length_singleton]; omega, fun z hz => ?_, by rw [up_ne mp2]; exact em9, by rw [up_ne wp2]; exact ew9, le_put hMp2 L9⟩
          rcases List.mem_append.mp hz with h | h
          · exact hl9 z h
          · rw [List.mem_singleton.mp h]; exact ⟨sb, sw⟩
      · rintro σ M9 ⟨lx, z4, z10, rfl, e9, ll9, hl9, em9, ew9, L9⟩
        have lz : (zipT (os.map oShT) (os.map owT)).length = os.length := by rw [zipT_len]; simp
        rw [lz] at ll9
        obtain ⟨nb3, nb4⟩ := held_ok lx hl9
        simp only [bx__law_asked_two_7]
        simp
        intro q hq1
        have L10 : Le M9 (up M9 q (.lst [])) := Le.new hq1
        have eq10 : up M9 q (.lst []) q = some (.lst []) := up_same
        have e10 := L10 _ _ e9
        generalize up M9 q (.lst []) = M10 at L10 eq10 e10
        simp
        refine eqS_lists (decide (lx = [])) e10 eq10 nb3 rfl (by rw [hL_ok]; omega) (by decide) (by rw [decide_eq_true_iff]; exact ⟨fun h => by rw [h]; rfl, heldT_nil⟩) ?_
        by_cases c : lx = []
        · simp [c]
          simp only [bx__law_asked_two_6]
          simp [e10, l2, heldT_len]
          refine ⟨small_lt (by omega), ?_⟩
          refine hN _ _ ⟨[.leaf], p2, ⟨_, _, _, _, _, _, _, _, _, rfl⟩, ?_, (by simp), by show 1 ≤ _; omega, fun z hz => ?_, le_put hMp2 (L9.trans L10)⟩
          · rw [up_same, c]; rfl
          · rw [List.mem_singleton.mp hz]; exact ⟨rfl, by decide⟩
        · simp [c]
          exact hN _ _ ⟨lx, p2, ⟨_, _, _, _, _, _, _, _, _, rfl⟩, e10, c, by omega, hl9, L9.trans L10⟩
    · obtain ⟨l, ph, z3, z4, z5, z6, z7, z8, z9, z10, z11, rfl, e5, lne, ll, hl, L5⟩ := h
      simp
      have := totW_mul l hl
      exact ⟨_, rfl, ph, l, rfl, e5, lne, by omega, fun s hs => (hl s hs).1, by omega, fun M' L' => Fg.same (hq _ (L5.trans L'))⟩
def n_law : List Str := "script" :: []
def bx_law (cn : Cn) : TS2 := (sRt (eAn (eCall (spx__law_asked_one cn) [] (aCons (eVar 0) aNil)) (eCall (spx__law_asked_two cn) [] (aCons (eVar 0) aNil))))
theorem semx_law (cn : Cn) : ∀ ds M Q E, spLaw ds M Q E → bx_law cn (fEnds Q E) (start2 n_law ds) M := by
  rintro ds M Q E ⟨ns, rfl, hl, hb, hq⟩
  simp only [bx_law, start2, n_law]
  simp
  refine ⟨_, rfl, ns, rfl, ⟨hl, hb⟩, ?_⟩
  simp
  exact ⟨_, rfl, ns, rfl, ⟨hl, hb⟩, fun M' L => Fg.same (hq _)⟩
end T

namespace G
open PySem PySem.Spec PyProof.Rows L2 T
section
variable {P : Program} {w : World} {K : PySem.W.Frag} {mg : Str → Option Value} {base h : Heap}
theorem sc_is_integer : FnScope n_is_integer ["thing"] (defScope (top 7)) := ⟨rfl, rfl, rfl, by decide +kernel, rfl, by decide +kernel, by decide +kernel⟩
theorem ok_is_integer (X : K.In h) (G : h.Ns mainGlobals mg) (c : SaysM fa fn fb K) : OkF P w K mg base 1 "is_integer" ["thing"] [] (sp_is_integer) := by
  obtain ⟨fd, F⟩ := c.d.def_ 0 (d := d_is_integer) rfl
  have m_bool := He.free_ok X G (c.d.fact 46 (f := .free "bool") rfl)
  have m_int := He.free_ok X G (c.d.fact 47 (f := .free "int") rfl)
  have m_isinstance := He.free_ok X G (c.d.fact 48 (f := .free "isinstance") rfl)
  refine okF_of F (He.glo_ok X G (c.d.fact 0 (f := .glo "is_integer") rfl)) (F.bindsN fun _ _ _ _ _ _ us hl => match us, hl with | [_], _ => rfl) sc_is_integer len1 (sem_is_integer) ?_
  intro cdv A outer s H E hr hgd tk hl hp
  have nd := (sc_is_integer).nd
  have hu := hu_of hr
  have hu64 := room_hu64 hr
  have hu65 := room_hu65 hr
  exact (qss_one (qs_ret (qe_and (qe_callB b_isi m_isinstance bt_isinstance (qa_cons (qv 0) (qa_cons (qe_bltn (.ty "int") (.ty "int") m_int bt_int rfl fun _ => rfl) qa_nil))) (qe_one (qe_not (qe_callB b_isi m_isinstance bt_isinstance (qa_cons (qv 0) (qa_cons (qe_bltn (.ty "bool") (.ty "bool") m_bool bt_bool rfl fun _ => rfl) qa_nil))))))))
theorem sc_need_count : FnScope n_need_count ["thing", "most"] (defScope (top 8)) := ⟨rfl, rfl, rfl, by decide +kernel, rfl, by decide +kernel, by decide +kernel⟩
theorem fn_need_count (X : K.In h) (G : h.Ns mainGlobals mg) (c : SaysM fa fn fb K) {fd : FuncData} (F : FunD K d_need_count.name d_need_count.qual d_need_count.params d_need_count.body d_need_count.scope (d_need_count.dvs K) (d_need_count.kws K) (He.fAd K d_need_count.at_) fd) : FnT P w K mg base 2 (He.fAd K d_need_count.at_) fd ["thing", "most"] (spx_need_count (cnOf K)) := by
  have c_is_integer := ok_is_integer (P := P) (w := w) (base := base) X G c
  have e_BadCount := He.exc_ok (c.d.fact 60 (f := .exc "BadCount") rfl)
  have o_BadCount := He.glo_ok X G (c.d.fact 59 (f := .glo "BadCount") rfl)
  refine fnT_by F sc_need_count len2 (semx_need_count (cnOf K)) ?_
  intro cdv A outer s H E hr hgd tk hl hp
  have nd := (sc_need_count).nd
  have hu := hu_of hr
  have hu64 := room_hu64 hr
  have hu65 := room_hu65 hr
  exact (qss_cons (qs_if (QW.pt (qw_or (qt_not (qt_tru (q_call c_is_integer (hr.mono (by first | decide | omega)) hgd hl (qa_cons (qv 0) qa_nil)))) (qw_or1 (qt_cmp o_ltI (qv 0) qe_int)))) (qss_one (qs_raise rfl tk e_BadCount o_BadCount)) qss_nil) (qss_one (qs_if (QW.pt (qw_and (qt_cmp o_isnot (qv 1) qe_non) (qw_and1 (qt_cmp o_gtI (qv 0) (qv 1))))) (qss_one (qs_raise rfl tk e_BadCount o_BadCount)) qss_nil)))
theorem ok_need_count_2 (X : K.In h) (G : h.Ns mainGlobals mg) (c : SaysM fa fn fb K) : OkF P w K mg base 2 "need_count" ["thing", "most"] [] (spx_need_count (cnOf K)) := by
  obtain ⟨fd, F⟩ := c.d.def_ 1 (d := d_need_count) rfl
  exact okF_dfl F (fn_need_count X G c F) (He.glo_ok X G (c.d.fact 1 (f := .glo "need_count") rfl)) (F.binds1 2 1 (by intro e; cases e) rfl fun _ _ _ _ _ _ _ us its hl hi => match us, its, hl, hi with | [_, _], [_], _, _ => ⟨_, rfl, rfl⟩) (fun _ => rfl)
theorem sc_Stem___init__ : FnScope n_Stem___init__ ["self", "left", "right"] (defScope st_Stem___init__) := ⟨rfl, rfl, rfl, by decide +kernel, rfl, by decide +kernel, by decide +kernel⟩
theorem oki_Stem___init__ (X : K.In h) (G : h.Ns mainGlobals mg) (c : SaysM fa fn fb K) : OkI P w K mg base 1 "Stem" ["self", "left", "right"] (sp_Stem___init__) := by
  obtain ⟨fd, F⟩ := c.d.def_ 2 (d := d_Stem___init__) rfl
  have cl_Stem := He.cls_ok (c.d.fact 68 (f := .cls "Stem") rfl)
  have m_max := He.free_ok X G (c.d.fact 51 (f := .free "max") rfl)
  have na_Stem_height := He.noat_ok (c.d.fact 73 (f := .noat "Stem" "height") rfl)
  have na_Stem_left := He.noat_ok (c.d.fact 70 (f := .noat "Stem" "left") rfl)
  have na_Stem_right := He.noat_ok (c.d.fact 71 (f := .noat "Stem" "right") rfl)
  have na_Stem_width := He.noat_ok (c.d.fact 72 (f := .noat "Stem" "width") rfl)
  refine okI_of (He.glo_ok X G (c.d.fact 67 (f := .glo "Stem") rfl)) F (He.mkr_ok (c.d.fact 69 (f := .mkr "Stem") rfl)) (F.bindsN fun _ _ _ _ _ _ us hl => match us, hl with | [_, _, _], _ => rfl) sc_Stem___init__ len3 (sem_Stem___init__) ?_
  intro cdv A outer s H E hr hgd tk hl hp
  have nd := (sc_Stem___init__).nd
  have hu := hu_of hr
  have hu64 := room_hu64 hr
  have hu65 := room_hu65 hr
  exact (qss_cons (qs_fldP cl_Stem na_Stem_left (qv 0) (qv 1)) (qss_cons (qs_fldP cl_Stem na_Stem_right (qv 0) (qv 2)) (qss_cons (qs_fldP cl_Stem na_Stem_width (qv 0) (qe_if (qt_cmp o_is (qv 1) qe_non) qe_int (qe_op o_add (qe_fld cl_Stem na_Stem_width (qv 1)) (qe_fld cl_Stem na_Stem_width (qv 2))))) (qss_one (qs_fldP cl_Stem na_Stem_height (qv 0) (qe_if (qt_cmp o_is (qv 1) qe_non) qe_int (qe_op o_add qe_int (qe_callB (b_max2 rfl) m_max bt_max (qa_cons (qe_fld cl_Stem na_Stem_height (qv 1)) (qa_cons (qe_fld cl_Stem na_Stem_height (qv 2)) qa_nil))))))))))
theorem sc_Builder_pair : FnScope n_Builder_pair ["self", "left", "right"] (defScope st_Builder_pair) := ⟨rfl, rfl, rfl, by decide +kernel, rfl, by decide +kernel, by decide +kernel⟩
theorem okm_Builder_pair (X : K.In h) (G : h.Ns mainGlobals mg) (c : SaysM fa fn fb K) : OkM P w K mg base 3 "Builder" "pair" ["self", "left", "right"] (sp_Builder_pair) := by
  obtain ⟨fd, F⟩ := c.d.def_ 3 (d := d_Builder_pair) rfl
  have mk_Stem := oki_Stem___init__ (P := P) (w := w) (base := base) X G c
  refine okM_of (He.cls_ok (c.d.fact 74 (f := .cls "Builder") rfl)) F (He.meth_ok (c.d.fact 75 (f := .meth "Builder" "pair") rfl)) (F.bindsN fun _ _ _ _ _ _ us hl => match us, hl with | [_, _, _], _ => rfl) sc_Builder_pair len3 (sem_Builder_pair) ?_
  intro cdv A outer s H E hr hgd tk hl hp
  have nd := (sc_Builder_pair).nd
  have hu := hu_of hr
  have hu64 := room_hu64 hr
  have hu65 := room_hu65 hr
  exact (qss_one (qs_ret (qe_make mk_Stem (hr.mono (by first | decide | omega)) hgd hl (qa_cons (qv 1) (qa_cons (qv 2) qa_nil)))))
theorem sc_Builder_sides : FnScope n_Builder_sides ["self", "tree"] (defScope st_Builder_sides) := ⟨rfl, rfl, rfl, by decide +kernel, rfl, by decide +kernel, by decide +kernel⟩
theorem okm_Builder_sides (X : K.In h) (G : h.Ns mainGlobals mg) (c : SaysM fa fn fb K) : OkM P w K mg base 1 "Builder" "sides" ["self", "tree"] (sp_Builder_sides) := by
  obtain ⟨fd, F⟩ := c.d.def_ 4 (d := d_Builder_sides) rfl
  have cl_Stem := He.cls_ok (c.d.fact 68 (f := .cls "Stem") rfl)
  have na_Stem_left := He.noat_ok (c.d.fact 70 (f := .noat "Stem" "left") rfl)
  have na_Stem_right := He.noat_ok (c.d.fact 71 (f := .noat "Stem" "right") rfl)
  refine okM_of (He.cls_ok (c.d.fact 74 (f := .cls "Builder") rfl)) F (He.meth_ok (c.d.fact 76 (f := .meth "Builder" "sides") rfl)) (F.bindsN fun _ _ _ _ _ _ us hl => match us, hl with | [_, _], _ => rfl) sc_Builder_sides len2 (sem_Builder_sides) ?_
  intro cdv A outer s H E hr hgd tk hl hp
  have nd := (sc_Builder_sides).nd
  have hu := hu_of hr
  have hu64 := room_hu64 hr
  have hu65 := room_hu65 hr
  exact (qss_one (qs_ret (qe_tup (qa_cons (qe_fld cl_Stem na_Stem_left (qv 1)) (qa_cons (qe_fld cl_Stem na_Stem_right (qv 1)) qa_nil)))))
theorem sc_tallest_of : FnScope n_tallest_of ["width"] (defScope (top 13)) := ⟨rfl, rfl, rfl, by decide +kernel, rfl, by decide +kernel, by decide +kernel⟩
theorem ok_tallest_of (X : K.In h) (G : h.Ns mainGlobals mg) (c : SaysM fa fn fb K) : OkF P w K mg base 1 "tallest_of" ["width"] [] (sp_tallest_of) := by
  obtain ⟨fd, F⟩ := c.d.def_ 5 (d := d_tallest_of) rfl
  refine okF_of F (He.glo_ok X G (c.d.fact 2 (f := .glo "tallest_of") rfl)) (F.bindsN fun _ _ _ _ _ _ us hl => match us, hl with | [_], _ => rfl) sc_tallest_of len1 (sem_tallest_of) ?_
  intro cdv A outer s H E hr hgd tk hl hp
  have nd := (sc_tallest_of).nd
  have hu := hu_of hr
  have hu64 := room_hu64 hr
  have hu65 := room_hu65 hr
  exact (qss_cons (qs_asg (qe_tup (qa_cons qe_int (qa_cons qe_int (qa_cons qe_int qa_nil)))) (qg_tup rfl (qgs_cons (qg_name nd) (qgs_cons (qg_name nd) (qgs_cons (qg_name nd) qgs_nil))))) (qss_cons (qs_while hp (qt_cmp o_leI (qv 3) (qv 0)) (qss_one (qs_par3 rfl nd (by decide) (by decide) (by decide) (qa_cons (qe_op o_add (qv 1) qe_int) (qa_cons (qv 3) (qa_cons (qe_op o_add (qv 2) (qv 3)) qa_nil)))))) (qss_one (qs_ret (qv 1)))))
theorem sc_width_in : FnScope n_width_in ["thing", "most"] (defScope (top 14)) := ⟨rfl, rfl, rfl, by decide +kernel, rfl, by decide +kernel, by decide +kernel⟩
theorem ok_width_in (X : K.In h) (G : h.Ns mainGlobals mg) (c : SaysM fa fn fb K) : ∀ rn : Nat, OkF P w K mg base (1 + rn) "width_in" ["thing", "most"] [] (sp_width_in rn)
  | 0 => by
    obtain ⟨fd, F⟩ := c.d.def_ 6 (d := d_width_in) rfl
    exact okF_zero F (He.glo_ok X G (c.d.fact 3 (f := .glo "width_in") rfl)) (F.bindsN fun _ _ _ _ _ _ us hl => match us, hl with | [_, _], _ => rfl) (zero_width_in)
  | rn + 1 => by
    have ih := ok_width_in X G c rn
    obtain ⟨fd, F⟩ := c.d.def_ 6 (d := d_width_in) rfl
    have m_isinstance := He.free_ok X G (c.d.fact 48 (f := .free "isinstance") rfl)
    have m_len := He.free_ok X G (c.d.fact 49 (f := .free "len") rfl)
    have m_tuple := He.free_ok X G (c.d.fact 55 (f := .free "tuple") rfl)
    obtain ⟨_, g_MOST_NODES⟩ := He.int_ok X G (c.d.fact 77 (f := .int "MOST_NODES" 20000) rfl)
    refine okF_of (k := 1 + rn) F (He.glo_ok X G (c.d.fact 3 (f := .glo "width_in") rfl)) (F.bindsN fun _ _ _ _ _ _ us hl => match us, hl with | [_, _], _ => rfl) sc_width_in len2 (sem_width_in rn) ?_
    intro cdv A outer s H E hr hgd tk hl hp
    have nd := (sc_width_in).nd
    have hu := hu_of hr
    have hu64 := room_hu64 hr
    have hu65 := room_hu65 hr
    exact (qss_cons (qs_if (qt_cmp o_is (qv 0) qe_non) (qss_one (qs_ret qe_int)) qss_nil) (qss_cons (qs_if (QW.pt (qw_or (qt_cmp (o_eq hu64) (qv 1) qe_int) (qw_or (qt_not (qt_tru (qe_callB b_isi m_isinstance bt_isinstance (qa_cons (qv 0) (qa_cons (qe_bltn (.ty "tuple") (.ty "tuple") m_tuple bt_tuple rfl fun _ => rfl) qa_nil))))) (qw_or1 (qt_cmp (o_ne hu64) (qe_callB b_len m_len bt_len (qa_cons (qv 0) qa_nil)) qe_int))))) (qss_one (qs_ret qe_int)) qss_nil) (qss_cons (qs_set nd (q_call ih (hr.mono (by first | decide | omega)) hgd hl (qa_cons (qe_ix (qv 0) qe_int) (qa_cons (qe_op o_sub (qv 1) qe_int) qa_nil)))) (qss_cons (qs_set nd (qe_if (qt_cmp (o_eq hu64) (qv 2) qe_int) qe_int (q_call ih (hr.mono (by first | decide | omega)) hgd hl (qa_cons (qe_ix (qv 0) qe_int) (qa_cons (qe_op o_sub (qv 1) qe_int) qa_nil))))) (qss_cons (qs_if (QW.pt (qw_or (qt_cmp (o_eq hu64) (qv 3) qe_int) (qw_or1 (qt_cmp o_gtI (qe_op o_add (qv 2) (qv 3)) (qe_glob (.int 20000) (.int 20000) g_MOST_NODES ⟨_, rfl⟩ fun _ => rfl))))) (qss_one (qs_ret qe_int)) qss_nil) (qss_one (qs_ret (qe_op o_add (qv 2) (qv 3)))))))))
theorem sc_height_in : FnScope n_height_in ["shape"] (defScope (top 15)) := ⟨rfl, rfl, rfl, by decide +kernel, rfl, by decide +kernel, by decide +kernel⟩
theorem ok_height_in (X : K.In h) (G : h.Ns mainGlobals mg) (c : SaysM fa fn fb K) : ∀ rn : Nat, OkF P w K mg base (1 + rn) "height_in" ["shape"] [] (sp_height_in rn)
  | 0 => by
    obtain ⟨fd, F⟩ := c.d.def_ 7 (d := d_height_in) rfl
    exact okF_zero F (He.glo_ok X G (c.d.fact 4 (f := .glo "height_in") rfl)) (F.bindsN fun _ _ _ _ _ _ us hl => match us, hl with | [_], _ => rfl) (zero_height_in)
  | rn + 1 => by
    have ih := ok_height_in X G c rn
    obtain ⟨fd, F⟩ := c.d.def_ 7 (d := d_height_in) rfl
    have m_max := He.free_ok X G (c.d.fact 51 (f := .free "max") rfl)
    refine okF_of (k := 1 + rn) F (He.glo_ok X G (c.d.fact 4 (f := .glo "height_in") rfl)) (F.bindsN fun _ _ _ _ _ _ us hl => match us, hl with | [_], _ => rfl) sc_height_in len1 (sem_height_in rn) ?_
    intro cdv A outer s H E hr hgd tk hl hp
    have nd := (sc_height_in).nd
    have hu := hu_of hr
    have hu64 := room_hu64 hr
    have hu65 := room_hu65 hr
    exact (qss_cons (qs_if (qt_cmp o_is (qv 0) qe_non) (qss_one (qs_ret qe_int)) qss_nil) (qss_one (qs_ret (qe_op o_add qe_int (qe_callB (b_max2 rfl) m_max bt_max (qa_cons (q_call ih (hr.mono (by first | decide | omega)) hgd hl (qa_cons (qe_ix (qv 0) qe_int) qa_nil)) (qa_cons (q_call ih (hr.mono (by first | decide | omega)) hgd hl (qa_cons (qe_ix (qv 0) qe_int) qa_nil)) qa_nil)))))))
theorem sc_balanced_height : FnScope n_balanced_height ["shape"] (defScope (top 16)) := ⟨rfl, rfl, rfl, by decide +kernel, rfl, by decide +kernel, by decide +kernel⟩
theorem ok_balanced_height (X : K.In h) (G : h.Ns mainGlobals mg) (c : SaysM fa fn fb K) : ∀ rn : Nat, OkF P w K mg base (1 + rn) "balanced_height" ["shape"] [] (sp_balanced_height rn)
  | 0 => by
    obtain ⟨fd, F⟩ := c.d.def_ 8 (d := d_balanced_height) rfl
    exact okF_zero F (He.glo_ok X G (c.d.fact 5 (f := .glo "balanced_height") rfl)) (F.bindsN fun _ _ _ _ _ _ us hl => match us, hl with | [_], _ => rfl) (zero_balanced_height)
  | rn + 1 => by
    have ih := ok_balanced_height X G c rn
    obtain ⟨fd, F⟩ := c.d.def_ 8 (d := d_balanced_height) rfl
    have m_abs := He.free_ok X G (c.d.fact 45 (f := .free "abs") rfl)
    have m_max := He.free_ok X G (c.d.fact 51 (f := .free "max") rfl)
    have m_min := He.free_ok X G (c.d.fact 52 (f := .free "min") rfl)
    refine okF_of (k := 1 + rn) F (He.glo_ok X G (c.d.fact 5 (f := .glo "balanced_height") rfl)) (F.bindsN fun _ _ _ _ _ _ us hl => match us, hl with | [_], _ => rfl) sc_balanced_height len1 (sem_balanced_height rn) ?_
    intro cdv A outer s H E hr hgd tk hl hp
    have nd := (sc_balanced_height).nd
    have hu := hu_of hr
    have hu64 := room_hu64 hr
    have hu65 := room_hu65 hr
    exact (qss_cons (qs_if (qt_cmp o_is (qv 0) qe_non) (qss_one (qs_ret qe_int)) qss_nil) (qss_cons (qs_set nd (q_call ih (hr.mono (by first | decide | omega)) hgd hl (qa_cons (qe_ix (qv 0) qe_int) qa_nil))) (qss_cons (qs_set nd (q_call ih (hr.mono (by first | decide | omega)) hgd hl (qa_cons (qe_ix (qv 0) qe_int) qa_nil))) (qss_cons (qs_if (QW.pt (qw_or (qt_cmp o_ltI (qe_callB (b_min2 rfl) m_min bt_min (qa_cons (qv 1) (qa_cons (qv 2) qa_nil))) qe_int) (qw_or1 (qt_cmp o_gtI (qe_callB b_abs m_abs bt_abs (qa_cons (qe_op o_sub (qv 1) (qv 2)) qa_nil)) qe_int)))) (qss_one (qs_ret (qe_un o_neg qe_int))) qss_nil) (qss_one (qs_ret (qe_op o_add qe_int (qe_callB (b_max2 rfl) m_max bt_max (qa_cons (qv 1) (qa_cons (qv 2) qa_nil))))))))))
theorem sc_stem_of : FnScope n_stem_of ["shape"] (defScope (top 17)) := ⟨rfl, rfl, rfl, by decide +kernel, rfl, by decide +kernel, by decide +kernel⟩
theorem ok_stem_of (X : K.In h) (G : h.Ns mainGlobals mg) (c : SaysM fa fn fb K) : ∀ rn : Nat, OkF P w K mg base (3 + rn) "stem_of" ["shape"] [] (sp_stem_of rn)
  | 0 => by
    obtain ⟨fd, F⟩ := c.d.def_ 9 (d := d_stem_of) rfl
    exact okF_zero F (He.glo_ok X G (c.d.fact 6 (f := .glo "stem_of") rfl)) (F.bindsN fun _ _ _ _ _ _ us hl => match us, hl with | [_], _ => rfl) (zero_stem_of)
  | rn + 1 => by
    have ih := ok_stem_of X G c rn
    obtain ⟨fd, F⟩ := c.d.def_ 9 (d := d_stem_of) rfl
    have mk_Stem := oki_Stem___init__ (P := P) (w := w) (base := base) X G c
    refine okF_of (k := 3 + rn) F (He.glo_ok X G (c.d.fact 6 (f := .glo "stem_of") rfl)) (F.bindsN fun _ _ _ _ _ _ us hl => match us, hl with | [_], _ => rfl) sc_stem_of len1 (sem_stem_of rn) ?_
    intro cdv A outer s H E hr hgd tk hl hp
    have nd := (sc_stem_of).nd
    have hu := hu_of hr
    have hu64 := room_hu64 hr
    have hu65 := room_hu65 hr
    exact (qss_cons (qs_if (qt_cmp o_is (qv 0) qe_non) (qss_one (qs_ret (qe_make mk_Stem (hr.mono (by first | decide | omega)) hgd hl (qa_cons qe_non (qa_cons qe_non qa_nil))))) qss_nil) (qss_one (qs_ret (qe_make mk_Stem (hr.mono (by first | decide | omega)) hgd hl (qa_cons (q_call ih (hr.mono (by first | decide | omega)) hgd hl (qa_cons (qe_ix (qv 0) qe_int) qa_nil)) (qa_cons (q_call ih (hr.mono (by first | decide | omega)) hgd hl (qa_cons (qe_ix (qv 0) qe_int) qa_nil)) qa_nil))))))
theorem sc_shape_of : FnScope n_shape_of ["tree"] (defScope (top 18)) := ⟨rfl, rfl, rfl, by decide +kernel, rfl, by decide +kernel, by decide +kernel⟩
theorem ok_shape_of (X : K.In h) (G : h.Ns mainGlobals mg) (c : SaysM fa fn fb K) : ∀ rn : Nat, OkF P w K mg base (1 + rn) "shape_of" ["tree"] [] (sp_shape_of rn)
  | 0 => by
    obtain ⟨fd, F⟩ := c.d.def_ 10 (d := d_shape_of) rfl
    exact okF_zero F (He.glo_ok X G (c.d.fact 7 (f := .glo "shape_of") rfl)) (F.bindsN fun _ _ _ _ _ _ us hl => match us, hl with | [_], _ => rfl) (zero_shape_of)
  | rn + 1 => by
    have ih := ok_shape_of X G c rn
    obtain ⟨fd, F⟩ := c.d.def_ 10 (d := d_shape_of) rfl
    have cl_Stem := He.cls_ok (c.d.fact 68 (f := .cls "Stem") rfl)
    have na_Stem_height := He.noat_ok (c.d.fact 73 (f := .noat "Stem" "height") rfl)
    have na_Stem_left := He.noat_ok (c.d.fact 70 (f := .noat "Stem" "left") rfl)
    have na_Stem_right := He.noat_ok (c.d.fact 71 (f := .noat "Stem" "right") rfl)
    refine okF_of (k := 1 + rn) F (He.glo_ok X G (c.d.fact 7 (f := .glo "shape_of") rfl)) (F.bindsN fun _ _ _ _ _ _ us hl => match us, hl with | [_], _ => rfl) sc_shape_of len1 (sem_shape_of rn) ?_
    intro cdv A outer s H E hr hgd tk hl hp
    have nd := (sc_shape_of).nd
    have hu := hu_of hr
    have hu64 := room_hu64 hr
    have hu65 := room_hu65 hr
    exact (qss_cons (qs_if (qt_cmp o_is (qv 0) qe_non) (qss_one (qs_ret (qe_tup qa_nil))) qss_nil) (qss_cons (qs_if (qt_cmp (o_eq hu64) (qe_fld cl_Stem na_Stem_height (qv 0)) qe_int) (qss_one (qs_ret qe_non)) qss_nil) (qss_one (qs_ret (qe_tup (qa_cons (q_call ih (hr.mono (by first | decide | omega)) hgd hl (qa_cons (qe_fld cl_Stem na_Stem_left (qv 0)) qa_nil)) (qa_cons (q_call ih (hr.mono (by first | decide | omega)) hgd hl (qa_cons (qe_fld cl_Stem na_Stem_right (qv 0)) qa_nil)) qa_nil)))))))
theorem sc_even_pair : FnScope n_even_pair ["builder", "left", "right"] (defScope (top 19)) := ⟨rfl, rfl, rfl, by decide +kernel, rfl, by decide +kernel, by decide +kernel⟩
theorem ok_even_pair (X : K.In h) (G : h.Ns mainGlobals mg) (c : SaysM fa fn fb K) : OkF P w K mg base 4 "even_pair" ["builder", "left", "right"] [] (sp_even_pair) := by
  obtain ⟨fd, F⟩ := c.d.def_ 11 (d := d_even_pair) rfl
  have me_Builder_sides := okm_Builder_sides (P := P) (w := w) (base := base) X G c
  have me_Builder_pair := okm_Builder_pair (P := P) (w := w) (base := base) X G c
  have cl_Stem := He.cls_ok (c.d.fact 68 (f := .cls "Stem") rfl)
  have na_Stem_height := He.noat_ok (c.d.fact 73 (f := .noat "Stem" "height") rfl)
  refine okF_of F (He.glo_ok X G (c.d.fact 8 (f := .glo "even_pair") rfl)) (F.bindsN fun _ _ _ _ _ _ us hl => match us, hl with | [_, _, _], _ => rfl) sc_even_pair len3 (sem_even_pair) ?_
  intro cdv A outer s H E hr hgd tk hl hp
  have nd := (sc_even_pair).nd
  have hu := hu_of hr
  have hu64 := room_hu64 hr
  have hu65 := room_hu65 hr
  exact (qss_cons (qs_if (qt_cmp o_gtI (qe_fld cl_Stem na_Stem_height (qv 2)) (qe_op o_add (qe_fld cl_Stem na_Stem_height (qv 1)) qe_int)) (qss_cons (qs_asg (qe_meth me_Builder_sides (hr.mono (by first | decide | omega)) hgd hl (qv 0) (qa_cons (qv 2) qa_nil)) (qg_tup rfl (qgs_cons (qg_name nd) (qgs_cons (qg_name nd) qgs_nil)))) (qss_cons (qs_if (qt_cmp o_leI (qe_fld cl_Stem na_Stem_height (qv 3)) (qe_fld cl_Stem na_Stem_height (qv 4))) (qss_one (qs_ret (qe_meth me_Builder_pair (hr.mono (by first | decide | omega)) hgd hl (qv 0) (qa_cons (qe_meth me_Builder_pair (hr.mono (by first | decide | omega)) hgd hl (qv 0) (qa_cons (qv 1) (qa_cons (qv 3) qa_nil))) (qa_cons (qv 4) qa_nil))))) qss_nil) (qss_cons (qs_asg (qe_meth me_Builder_sides (hr.mono (by first | decide | omega)) hgd hl (qv 0) (qa_cons (qv 3) qa_nil)) (qg_tup rfl (qgs_cons (qg_name nd) (qgs_cons (qg_name nd) qgs_nil)))) (qss_one (qs_ret (qe_meth me_Builder_pair (hr.mono (by first | decide | omega)) hgd hl (qv 0) (qa_cons (qe_meth me_Builder_pair (hr.mono (by first | decide | omega)) hgd hl (qv 0) (qa_cons (qv 1) (qa_cons (qv 5) qa_nil))) (qa_cons (qe_meth me_Builder_pair (hr.mono (by first | decide | omega)) hgd hl (qv 0) (qa_cons (qv 6) (qa_cons (qv 4) qa_nil))) qa_nil)))))))) qss_nil) (qss_cons (qs_if (qt_cmp o_gtI (qe_fld cl_Stem na_Stem_height (qv 1)) (qe_op o_add (qe_fld cl_Stem na_Stem_height (qv 2)) qe_int)) (qss_cons (qs_asg (qe_meth me_Builder_sides (hr.mono (by first | decide | omega)) hgd hl (qv 0) (qa_cons (qv 1) qa_nil)) (qg_tup rfl (qgs_cons (qg_name nd) (qgs_cons (qg_name nd) qgs_nil)))) (qss_cons (qs_if (qt_cmp o_leI (qe_fld cl_Stem na_Stem_height (qv 3)) (qe_fld cl_Stem na_Stem_height (qv 4))) (qss_one (qs_ret (qe_meth me_Builder_pair (hr.mono (by first | decide | omega)) hgd hl (qv 0) (qa_cons (qv 4) (qa_cons (qe_meth me_Builder_pair (hr.mono (by first | decide | omega)) hgd hl (qv 0) (qa_cons (qv 3) (qa_cons (qv 2) qa_nil))) qa_nil))))) qss_nil) (qss_cons (qs_asg (qe_meth me_Builder_sides (hr.mono (by first | decide | omega)) hgd hl (qv 0) (qa_cons (qv 3) qa_nil)) (qg_tup rfl (qgs_cons (qg_name nd) (qgs_cons (qg_name nd) qgs_nil)))) (qss_one (qs_ret (qe_meth me_Builder_pair (hr.mono (by first | decide | omega)) hgd hl (qv 0) (qa_cons (qe_meth me_Builder_pair (hr.mono (by first | decide | omega)) hgd hl (qv 0) (qa_cons (qv 4) (qa_cons (qv 5) qa_nil))) (qa_cons (qe_meth me_Builder_pair (hr.mono (by first | decide | omega)) hgd hl (qv 0) (qa_cons (qv 6) (qa_cons (qv 2) qa_nil))) qa_nil)))))))) qss_nil) (qss_one (qs_ret (qe_meth me_Builder_pair (hr.mono (by first | decide | omega)) hgd hl (qv 0) (qa_cons (qv 1) (qa_cons (qv 2) qa_nil)))))))
theorem sc_row_joined : FnScope n_row_joined ["builder", "left", "right"] (defScope (top 20)) := ⟨rfl, rfl, rfl, by decide +kernel, rfl, by decide +kernel, by decide +kernel⟩
theorem ok_row_joined (X : K.In h) (G : h.Ns mainGlobals mg) (c : SaysM fa fn fb K) : ∀ rn : Nat, OkF P w K mg base (5 + rn) "row_joined" ["builder", "left", "right"] [] (sp_row_joined rn)
  | 0 => by
    obtain ⟨fd, F⟩ := c.d.def_ 12 (d := d_row_joined) rfl
    exact okF_zero F (He.glo_ok X G (c.d.fact 9 (f := .glo "row_joined") rfl)) (F.bindsN fun _ _ _ _ _ _ us hl => match us, hl with | [_, _, _], _ => rfl) (zero_row_joined)
  | rn + 1 => by
    have ih := ok_row_joined X G c rn
    obtain ⟨fd, F⟩ := c.d.def_ 12 (d := d_row_joined) rfl
    have me_Builder_sides := okm_Builder_sides (P := P) (w := w) (base := base) X G c
    have c_even_pair := ok_even_pair (P := P) (w := w) (base := base) X G c
    have me_Builder_pair := okm_Builder_pair (P := P) (w := w) (base := base) X G c
    have cl_Stem := He.cls_ok (c.d.fact 68 (f := .cls "Stem") rfl)
    have na_Stem_height := He.noat_ok (c.d.fact 73 (f := .noat "Stem" "height") rfl)
    refine okF_of (k := 5 + rn) F (He.glo_ok X G (c.d.fact 9 (f := .glo "row_joined") rfl)) (F.bindsN fun _ _ _ _ _ _ us hl => match us, hl with | [_, _, _], _ => rfl) sc_row_joined len3 (sem_row_joined rn) ?_
    intro cdv A outer s H E hr hgd tk hl hp
    have nd := (sc_row_joined).nd
    have hu := hu_of hr
    have hu64 := room_hu64 hr
    have hu65 := room_hu65 hr
    exact (qss_cons (qs_if (qt_cmp o_is (qv 1) qe_non) (qss_one (qs_ret (qv 2))) qss_nil) (qss_cons (qs_if (qt_cmp o_is (qv 2) qe_non) (qss_one (qs_ret (qv 1))) qss_nil) (qss_cons (qs_if (qt_cmp o_gtI (qe_fld cl_Stem na_Stem_height (qv 1)) (qe_op o_add (qe_fld cl_Stem na_Stem_height (qv 2)) qe_int)) (qss_cons (qs_asg (qe_meth me_Builder_sides (hr.mono (by first | decide | omega)) hgd hl (qv 0) (qa_cons (qv 1) qa_nil)) (qg_tup rfl (qgs_cons (qg_name nd) (qgs_cons (qg_name nd) qgs_nil)))) (qss_one (qs_ret (q_call c_even_pair (hr.mono (by first | decide | omega)) hgd hl (qa_cons (qv 0) (qa_cons (qv 3) (qa_cons (q_call ih (hr.mono (by first | decide | omega)) hgd hl (qa_cons (qv 0) (qa_cons (qv 4) (qa_cons (qv 2) qa_nil)))) qa_nil))))))) qss_nil) (qss_cons (qs_if (qt_cmp o_gtI (qe_fld cl_Stem na_Stem_height (qv 2)) (qe_op o_add (qe_fld cl_Stem na_Stem_height (qv 1)) qe_int)) (qss_cons (qs_asg (qe_meth me_Builder_sides (hr.mono (by first | decide | omega)) hgd hl (qv 0) (qa_cons (qv 2) qa_nil)) (qg_tup rfl (qgs_cons (qg_name nd) (qgs_cons (qg_name nd) qgs_nil)))) (qss_one (qs_ret (q_call c_even_pair (hr.mono (by first | decide | omega)) hgd hl (qa_cons (qv 0) (qa_cons (q_call ih (hr.mono (by first | decide | omega)) hgd hl (qa_cons (qv 0) (qa_cons (qv 1) (qa_cons (qv 3) qa_nil)))) (qa_cons (qv 4) qa_nil))))))) qss_nil) (qss_one (qs_ret (qe_meth me_Builder_pair (hr.mono (by first | decide | omega)) hgd hl (qv 0) (qa_cons (qv 1) (qa_cons (qv 2) qa_nil)))))))))
theorem sc_row_cut : FnScope n_row_cut ["builder", "tree", "many"] (defScope (top 21)) := ⟨rfl, rfl, rfl, by decide +kernel, rfl, by decide +kernel, by decide +kernel⟩
theorem ok_row_cut (X : K.In h) (G : h.Ns mainGlobals mg) (c : SaysM fa fn fb K) : ∀ rn : Nat, OkF P w K mg base (47 + rn) "row_cut" ["builder", "tree", "many"] [] (sp_row_cut rn)
  | 0 => by
    obtain ⟨fd, F⟩ := c.d.def_ 13 (d := d_row_cut) rfl
    exact okF_zero F (He.glo_ok X G (c.d.fact 10 (f := .glo "row_cut") rfl)) (F.bindsN fun _ _ _ _ _ _ us hl => match us, hl with | [_, _, _], _ => rfl) (zero_row_cut)
  | rn + 1 => by
    have ih := ok_row_cut X G c rn
    obtain ⟨fd, F⟩ := c.d.def_ 13 (d := d_row_cut) rfl
    have me_Builder_sides := okm_Builder_sides (P := P) (w := w) (base := base) X G c
    have c_row_joined := ok_row_joined (P := P) (w := w) (base := base) X G c 41
    have cl_Stem := He.cls_ok (c.d.fact 68 (f := .cls "Stem") rfl)
    have na_Stem_width := He.noat_ok (c.d.fact 72 (f := .noat "Stem" "width") rfl)
    refine okF_of (k := 47 + rn) F (He.glo_ok X G (c.d.fact 10 (f := .glo "row_cut") rfl)) (F.bindsN fun _ _ _ _ _ _ us hl => match us, hl with | [_, _, _], _ => rfl) sc_row_cut len3 (sem_row_cut rn) ?_
    intro cdv A outer s H E hr hgd tk hl hp
    have nd := (sc_row_cut).nd
    have hu := hu_of hr
    have hu64 := room_hu64 hr
    have hu65 := room_hu65 hr
    exact (qss_cons (qs_if (qt_cmp (o_eq hu64) (qv 2) qe_int) (qss_one (qs_ret (qe_tup (qa_cons qe_non (qa_cons (qv 1) qa_nil))))) qss_nil) (qss_cons (qs_if (qt_cmp (o_eq hu64) (qv 2) (qe_fld cl_Stem na_Stem_width (qv 1))) (qss_one (qs_ret (qe_tup (qa_cons (qv 1) (qa_cons qe_non qa_nil))))) qss_nil) (qss_cons (qs_asg (qe_meth me_Builder_sides (hr.mono (by first | decide | omega)) hgd hl (qv 0) (qa_cons (qv 1) qa_nil)) (qg_tup rfl (qgs_cons (qg_name nd) (qgs_cons (qg_name nd) qgs_nil)))) (qss_cons (qs_if (qt_cmp o_leI (qv 2) (qe_fld cl_Stem na_Stem_width (qv 3))) (qss_cons (qs_asg (q_call ih (hr.mono (by first | decide | omega)) hgd hl (qa_cons (qv 0) (qa_cons (qv 3) (qa_cons (qv 2) qa_nil)))) (qg_tup rfl (qgs_cons (qg_name nd) (qgs_cons (qg_name nd) qgs_nil)))) (qss_one (qs_ret (qe_tup (qa_cons (qv 5) (qa_cons (q_call c_row_joined (hr.mono (by first | decide | omega)) hgd hl (qa_cons (qv 0) (qa_cons (qv 6) (qa_cons (qv 4) qa_nil)))) qa_nil)))))) qss_nil) (qss_cons (qs_asg (q_call ih (hr.mono (by first | decide | omega)) hgd hl (qa_cons (qv 0) (qa_cons (qv 4) (qa_cons (qe_op o_sub (qv 2) (qe_fld cl_Stem na_Stem_width (qv 3))) qa_nil)))) (qg_tup rfl (qgs_cons (qg_name nd) (qgs_cons (qg_name nd) qgs_nil)))) (qss_one (qs_ret (qe_tup (qa_cons (q_call c_row_joined (hr.mono (by first | decide | omega)) hgd hl (qa_cons (qv 0) (qa_cons (qv 3) (qa_cons (qv 5) qa_nil)))) (qa_cons (qv 6) qa_nil))))))))))
theorem sc_row_with : FnScope n_row_with ["builder", "tree", "place", "child"] (defScope (top 22)) := ⟨rfl, rfl, rfl, by decide +kernel, rfl, by decide +kernel, by decide +kernel⟩
theorem ok_row_with (X : K.In h) (G : h.Ns mainGlobals mg) (c : SaysM fa fn fb K) : ∀ rn : Nat, OkF P w K mg base (5 + rn) "row_with" ["builder", "tree", "place", "child"] [] (sp_row_with rn)
  | 0 => by
    obtain ⟨fd, F⟩ := c.d.def_ 14 (d := d_row_with) rfl
    exact okF_zero F (He.glo_ok X G (c.d.fact 11 (f := .glo "row_with") rfl)) (F.bindsN fun _ _ _ _ _ _ us hl => match us, hl with | [_, _, _, _], _ => rfl) (zero_row_with)
  | rn + 1 => by
    have ih := ok_row_with X G c rn
    obtain ⟨fd, F⟩ := c.d.def_ 14 (d := d_row_with) rfl
    have me_Builder_pair := okm_Builder_pair (P := P) (w := w) (base := base) X G c
    have me_Builder_sides := okm_Builder_sides (P := P) (w := w) (base := base) X G c
    have c_even_pair := ok_even_pair (P := P) (w := w) (base := base) X G c
    have cl_Stem := He.cls_ok (c.d.fact 68 (f := .cls "Stem") rfl)
    have na_Stem_height := He.noat_ok (c.d.fact 73 (f := .noat "Stem" "height") rfl)
    have na_Stem_width := He.noat_ok (c.d.fact 72 (f := .noat "Stem" "width") rfl)
    refine okF_of (k := 5 + rn) F (He.glo_ok X G (c.d.fact 11 (f := .glo "row_with") rfl)) (F.bindsN fun _ _ _ _ _ _ us hl => match us, hl with | [_, _, _, _], _ => rfl) sc_row_with len4 (sem_row_with rn) ?_
    intro cdv A outer s H E hr hgd tk hl hp
    have nd := (sc_row_with).nd
    have hu := hu_of hr
    have hu64 := room_hu64 hr
    have hu65 := room_hu65 hr
    exact (qss_cons (qs_if (qt_cmp o_is (qv 1) qe_non) (qss_one (qs_ret (qv 3))) qss_nil) (qss_cons (qs_if (qt_cmp (o_eq hu64) (qe_fld cl_Stem na_Stem_height (qv 1)) qe_int) (qss_one (qs_ret (qe_if (qt_cmp (o_eq hu64) (qv 2) qe_int) (qe_meth me_Builder_pair (hr.mono (by first | decide | omega)) hgd hl (qv 0) (qa_cons (qv 3) (qa_cons (qv 1) qa_nil))) (qe_meth me_Builder_pair (hr.mono (by first | decide | omega)) hgd hl (qv 0) (qa_cons (qv 1) (qa_cons (qv 3) qa_nil)))))) qss_nil) (qss_cons (qs_asg (qe_meth me_Builder_sides (hr.mono (by first | decide | omega)) hgd hl (qv 0) (qa_cons (qv 1) qa_nil)) (qg_tup rfl (qgs_cons (qg_name nd) (qgs_cons (qg_name nd) qgs_nil)))) (qss_cons (qs_if (qt_cmp o_leI (qv 2) (qe_fld cl_Stem na_Stem_width (qv 4))) (qss_one (qs_ret (q_call c_even_pair (hr.mono (by first | decide | omega)) hgd hl (qa_cons (qv 0) (qa_cons (q_call ih (hr.mono (by first | decide | omega)) hgd hl (qa_cons (qv 0) (qa_cons (qv 4) (qa_cons (qv 2) (qa_cons (qv 3) qa_nil))))) (qa_cons (qv 5) qa_nil)))))) qss_nil) (qss_one (qs_ret (q_call c_even_pair (hr.mono (by first | decide | omega)) hgd hl (qa_cons (qv 0) (qa_cons (qv 4) (qa_cons (q_call ih (hr.mono (by first | decide | omega)) hgd hl (qa_cons (qv 0) (qa_cons (qv 5) (qa_cons (qe_op o_sub (qv 2) (qe_fld cl_Stem na_Stem_width (qv 4))) (qa_cons (qv 3) qa_nil))))) qa_nil))))))))))
theorem sc_row_without : FnScope n_row_without ["builder", "tree", "place"] (defScope (top 23)) := ⟨rfl, rfl, rfl, by decide +kernel, rfl, by decide +kernel, by decide +kernel⟩
theorem ok_row_without (X : K.In h) (G : h.Ns mainGlobals mg) (c : SaysM fa fn fb K) : ∀ rn : Nat, OkF P w K mg base (5 + rn) "row_without" ["builder", "tree", "place"] [] (sp_row_without rn)
  | 0 => by
    obtain ⟨fd, F⟩ := c.d.def_ 15 (d := d_row_without) rfl
    exact okF_zero F (He.glo_ok X G (c.d.fact 12 (f := .glo "row_without") rfl)) (F.bindsN fun _ _ _ _ _ _ us hl => match us, hl with | [_, _, _], _ => rfl) (zero_row_without)
  | rn + 1 => by
    have ih := ok_row_without X G c rn
    obtain ⟨fd, F⟩ := c.d.def_ 15 (d := d_row_without) rfl
    have me_Builder_sides := okm_Builder_sides (P := P) (w := w) (base := base) X G c
    have c_even_pair := ok_even_pair (P := P) (w := w) (base := base) X G c
    have cl_Stem := He.cls_ok (c.d.fact 68 (f := .cls "Stem") rfl)
    have na_Stem_height := He.noat_ok (c.d.fact 73 (f := .noat "Stem" "height") rfl)
    have na_Stem_width := He.noat_ok (c.d.fact 72 (f := .noat "Stem" "width") rfl)
    refine okF_of (k := 5 + rn) F (He.glo_ok X G (c.d.fact 12 (f := .glo "row_without") rfl)) (F.bindsN fun _ _ _ _ _ _ us hl => match us, hl with | [_, _, _], _ => rfl) sc_row_without len3 (sem_row_without rn) ?_
    intro cdv A outer s H E hr hgd tk hl hp
    have nd := (sc_row_without).nd
    have hu := hu_of hr
    have hu64 := room_hu64 hr
    have hu65 := room_hu65 hr
    exact (qss_cons (qs_if (qt_cmp (o_eq hu64) (qe_fld cl_Stem na_Stem_height (qv 1)) qe_int) (qss_one (qs_ret qe_non)) qss_nil) (qss_cons (qs_asg (qe_meth me_Builder_sides (hr.mono (by first | decide | omega)) hgd hl (qv 0) (qa_cons (qv 1) qa_nil)) (qg_tup rfl (qgs_cons (qg_name nd) (qgs_cons (qg_name nd) qgs_nil)))) (qss_cons (qs_if (qt_cmp o_ltI (qv 2) (qe_fld cl_Stem na_Stem_width (qv 3))) (qss_cons (qs_set nd (q_call ih (hr.mono (by first | decide | omega)) hgd hl (qa_cons (qv 0) (qa_cons (qv 3) (qa_cons (qv 2) qa_nil))))) (qss_one (qs_ret (qe_if (qt_cmp o_is (qv 5) qe_non) (qv 4) (q_call c_even_pair (hr.mono (by first | decide | omega)) hgd hl (qa_cons (qv 0) (qa_cons (qv 5) (qa_cons (qv 4) qa_nil)))))))) qss_nil) (qss_cons (qs_set nd (q_call ih (hr.mono (by first | decide | omega)) hgd hl (qa_cons (qv 0) (qa_cons (qv 4) (qa_cons (qe_op o_sub (qv 2) (qe_fld cl_Stem na_Stem_width (qv 3))) qa_nil))))) (qss_one (qs_ret (qe_if (qt_cmp o_is (qv 5) qe_non) (qv 3) (q_call c_even_pair (hr.mono (by first | decide | omega)) hgd hl (qa_cons (qv 0) (qa_cons (qv 3) (qa_cons (qv 5) qa_nil)))))))))))
theorem sc_need_shape : FnScope n_need_shape ["shape"] (defScope (top 25)) := ⟨rfl, rfl, rfl, by decide +kernel, rfl, by decide +kernel, by decide +kernel⟩
theorem ok_need_shape (X : K.In h) (G : h.Ns mainGlobals mg) (c : SaysM fa fn fb K) : OkF P w K mg base 43 "need_shape" ["shape"] [] (spx_need_shape (cnOf K)) := by
  obtain ⟨fd, F⟩ := c.d.def_ 16 (d := d_need_shape) rfl
  have c_width_in := ok_width_in (P := P) (w := w) (base := base) X G c 41
  have e_BadShape := He.exc_ok (c.d.fact 58 (f := .exc "BadShape") rfl)
  have o_BadShape := He.glo_ok X G (c.d.fact 57 (f := .glo "BadShape") rfl)
  obtain ⟨_, g_MOST_HEIGHT⟩ := He.int_ok X G (c.d.fact 78 (f := .int "MOST_HEIGHT" 40) rfl)
  refine okF_of F (He.glo_ok X G (c.d.fact 13 (f := .glo "need_shape") rfl)) (F.bindsN fun _ _ _ _ _ _ us hl => match us, hl with | [_], _ => rfl) sc_need_shape len1 (semx_need_shape (cnOf K)) ?_
  intro cdv A outer s H E hr hgd tk hl hp
  have nd := (sc_need_shape).nd
  have hu := hu_of hr
  have hu64 := room_hu64 hr
  have hu65 := room_hu65 hr
  exact (qss_cons (qs_set nd (q_call c_width_in (hr.mono (by first | decide | omega)) hgd hl (qa_cons (qv 0) (qa_cons (qe_glob (.int 40) (.int 40) g_MOST_HEIGHT ⟨_, rfl⟩ fun _ => rfl) qa_nil)))) (qss_cons (qs_if (qt_cmp (o_eq hu64) (qv 1) qe_int) (qss_one (qs_raise rfl tk e_BadShape o_BadShape)) qss_nil) (qss_one (qs_ret (qv 1)))))
theorem sc_need_balanced : FnScope n_need_balanced ["shape"] (defScope (top 26)) := ⟨rfl, rfl, rfl, by decide +kernel, rfl, by decide +kernel, by decide +kernel⟩
theorem ok_need_balanced (X : K.In h) (G : h.Ns mainGlobals mg) (c : SaysM fa fn fb K) : OkF P w K mg base 44 "need_balanced" ["shape"] [] (spx_need_balanced (cnOf K)) := by
  obtain ⟨fd, F⟩ := c.d.def_ 17 (d := d_need_balanced) rfl
  have c_need_shape := ok_need_shape (P := P) (w := w) (base := base) X G c
  have c_balanced_height := ok_balanced_height (P := P) (w := w) (base := base) X G c 41
  have e_BadBalance := He.exc_ok (c.d.fact 62 (f := .exc "BadBalance") rfl)
  have o_BadBalance := He.glo_ok X G (c.d.fact 61 (f := .glo "BadBalance") rfl)
  refine okF_of F (He.glo_ok X G (c.d.fact 14 (f := .glo "need_balanced") rfl)) (F.bindsN fun _ _ _ _ _ _ us hl => match us, hl with | [_], _ => rfl) sc_need_balanced len1 (semx_need_balanced (cnOf K)) ?_
  intro cdv A outer s H E hr hgd tk hl hp
  have nd := (sc_need_balanced).nd
  have hu := hu_of hr
  have hu64 := room_hu64 hr
  have hu65 := room_hu65 hr
  exact (qss_cons (qs_set nd (q_call c_need_shape (hr.mono (by first | decide | omega)) hgd hl (qa_cons (qv 0) qa_nil))) (qss_cons (qs_if (qt_cmp o_ltI (q_call c_balanced_height (hr.mono (by first | decide | omega)) hgd hl (qa_cons (qv 0) qa_nil)) qe_int) (qss_one (qs_raise rfl tk e_BadBalance o_BadBalance)) qss_nil) (qss_one (qs_ret (qv 1)))))
theorem sc_is_shape : FnScope n_is_shape ["thing"] (defScope (top 27)) := ⟨rfl, rfl, rfl, by decide +kernel, rfl, by decide +kernel, by decide +kernel⟩
theorem ok_is_shape (X : K.In h) (G : h.Ns mainGlobals mg) (c : SaysM fa fn fb K) : OkF P w K mg base 43 "is_shape" ["thing"] [] (sp_is_shape) := by
  obtain ⟨fd, F⟩ := c.d.def_ 18 (d := d_is_shape) rfl
  have c_width_in := ok_width_in (P := P) (w := w) (base := base) X G c 41
  obtain ⟨_, g_MOST_HEIGHT⟩ := He.int_ok X G (c.d.fact 78 (f := .int "MOST_HEIGHT" 40) rfl)
  refine okF_of F (He.glo_ok X G (c.d.fact 15 (f := .glo "is_shape") rfl)) (F.bindsN fun _ _ _ _ _ _ us hl => match us, hl with | [_], _ => rfl) sc_is_shape len1 (sem_is_shape) ?_
  intro cdv A outer s H E hr hgd tk hl hp
  have nd := (sc_is_shape).nd
  have hu := hu_of hr
  have hu64 := room_hu64 hr
  have hu65 := room_hu65 hr
  exact (qss_one (qs_ret (qe_cmp o_gtI (q_call c_width_in (hr.mono (by first | decide | omega)) hgd hl (qa_cons (qv 0) (qa_cons (qe_glob (.int 40) (.int 40) g_MOST_HEIGHT ⟨_, rfl⟩ fun _ => rfl) qa_nil))) qe_int)))
theorem sc_is_balanced : FnScope n_is_balanced ["shape"] (defScope (top 28)) := ⟨rfl, rfl, rfl, by decide +kernel, rfl, by decide +kernel, by decide +kernel⟩
theorem ok_is_balanced (X : K.In h) (G : h.Ns mainGlobals mg) (c : SaysM fa fn fb K) : OkF P w K mg base 44 "is_balanced" ["shape"] [] (spx_is_balanced (cnOf K)) := by
  obtain ⟨fd, F⟩ := c.d.def_ 19 (d := d_is_balanced) rfl
  have c_need_shape := ok_need_shape (P := P) (w := w) (base := base) X G c
  have c_balanced_height := ok_balanced_height (P := P) (w := w) (base := base) X G c 41
  refine okF_of F (He.glo_ok X G (c.d.fact 16 (f := .glo "is_balanced") rfl)) (F.bindsN fun _ _ _ _ _ _ us hl => match us, hl with | [_], _ => rfl) sc_is_balanced len1 (semx_is_balanced (cnOf K)) ?_
  intro cdv A outer s H E hr hgd tk hl hp
  have nd := (sc_is_balanced).nd
  have hu := hu_of hr
  have hu64 := room_hu64 hr
  have hu65 := room_hu65 hr
  exact (qss_cons (qs_expr (q_call c_need_shape (hr.mono (by first | decide | omega)) hgd hl (qa_cons (qv 0) qa_nil))) (qss_one (qs_ret (qe_cmp o_geI (q_call c_balanced_height (hr.mono (by first | decide | omega)) hgd hl (qa_cons (qv 0) qa_nil)) qe_int))))
theorem sc_width_of : FnScope n_width_of ["shape"] (defScope (top 29)) := ⟨rfl, rfl, rfl, by decide +kernel, rfl, by decide +kernel, by decide +kernel⟩
theorem ok_width_of (X : K.In h) (G : h.Ns mainGlobals mg) (c : SaysM fa fn fb K) : OkF P w K mg base 44 "width_of" ["shape"] [] (spx_width_of (cnOf K)) := by
  obtain ⟨fd, F⟩ := c.d.def_ 20 (d := d_width_of) rfl
  have c_need_shape := ok_need_shape (P := P) (w := w) (base := base) X G c
  refine okF_of F (He.glo_ok X G (c.d.fact 17 (f := .glo "width_of") rfl)) (F.bindsN fun _ _ _ _ _ _ us hl => match us, hl with | [_], _ => rfl) sc_width_of len1 (semx_width_of (cnOf K)) ?_
  intro cdv A outer s H E hr hgd tk hl hp
  have nd := (sc_width_of).nd
  have hu := hu_of hr
  have hu64 := room_hu64 hr
  have hu65 := room_hu65 hr
  exact (qss_one (qs_ret (q_call c_need_shape (hr.mono (by first | decide | omega)) hgd hl (qa_cons (qv 0) qa_nil))))
theorem sc_height_of : FnScope n_height_of ["shape"] (defScope (top 30)) := ⟨rfl, rfl, rfl, by decide +kernel, rfl, by decide +kernel, by decide +kernel⟩
theorem ok_height_of (X : K.In h) (G : h.Ns mainGlobals mg) (c : SaysM fa fn fb K) : OkF P w K mg base 44 "height_of" ["shape"] [] (spx_height_of (cnOf K)) := by
  obtain ⟨fd, F⟩ := c.d.def_ 21 (d := d_height_of) rfl
  have c_need_shape := ok_need_shape (P := P) (w := w) (base := base) X G c
  have c_height_in := ok_height_in (P := P) (w := w) (base := base) X G c 41
  refine okF_of F (He.glo_ok X G (c.d.fact 18 (f := .glo "height_of") rfl)) (F.bindsN fun _ _ _ _ _ _ us hl => match us, hl with | [_], _ => rfl) sc_height_of len1 (semx_height_of (cnOf K)) ?_
  intro cdv A outer s H E hr hgd tk hl hp
  have nd := (sc_height_of).nd
  have hu := hu_of hr
  have hu64 := room_hu64 hr
  have hu65 := room_hu65 hr
  exact (qss_cons (qs_expr (q_call c_need_shape (hr.mono (by first | decide | omega)) hgd hl (qa_cons (qv 0) qa_nil))) (qss_one (qs_ret (q_call c_height_in (hr.mono (by first | decide | omega)) hgd hl (qa_cons (qv 0) qa_nil)))))
theorem sc_tallest : FnScope n_tallest ["width"] (defScope (top 31)) := ⟨rfl, rfl, rfl, by decide +kernel, rfl, by decide +kernel, by decide +kernel⟩
theorem ok_tallest (X : K.In h) (G : h.Ns mainGlobals mg) (c : SaysM fa fn fb K) : OkF P w K mg base 3 "tallest" ["width"] [] (spx_tallest (cnOf K)) := by
  obtain ⟨fd, F⟩ := c.d.def_ 22 (d := d_tallest) rfl
  have c_tallest_of := ok_tallest_of (P := P) (w := w) (base := base) X G c
  have c_need_count_2 := ok_need_count_2 (P := P) (w := w) (base := base) X G c
  obtain ⟨_, g_MOST_NODES⟩ := He.int_ok X G (c.d.fact 77 (f := .int "MOST_NODES" 20000) rfl)
  refine okF_of F (He.glo_ok X G (c.d.fact 19 (f := .glo "tallest") rfl)) (F.bindsN fun _ _ _ _ _ _ us hl => match us, hl with | [_], _ => rfl) sc_tallest len1 (semx_tallest (cnOf K)) ?_
  intro cdv A outer s H E hr hgd tk hl hp
  have nd := (sc_tallest).nd
  have hu := hu_of hr
  have hu64 := room_hu64 hr
  have hu65 := room_hu65 hr
  exact (qss_cons (qs_expr (q_call c_need_count_2 (hr.mono (by first | decide | omega)) hgd hl (qa_cons (qv 0) (qa_cons (qe_glob (.int 20000) (.int 20000) g_MOST_NODES ⟨_, rfl⟩ fun _ => rfl) qa_nil)))) (qss_one (qs_ret (q_call c_tallest_of (hr.mono (by first | decide | omega)) hgd hl (qa_cons (qv 0) qa_nil)))))
theorem sc_joined_shapes : FnScope n_joined_shapes ["shape", "other"] (defScope (top 32)) := ⟨rfl, rfl, rfl, by decide +kernel, rfl, by decide +kernel, by decide +kernel⟩
theorem ok_joined_shapes (X : K.In h) (G : h.Ns mainGlobals mg) (c : SaysM fa fn fb K) : OkF P w K mg base 47 "joined_shapes" ["shape", "other"] [] (spx_joined_shapes (cnOf K)) := by
  obtain ⟨fd, F⟩ := c.d.def_ 23 (d := d_joined_shapes) rfl
  have c_need_balanced := ok_need_balanced (P := P) (w := w) (base := base) X G c
  have c_shape_of := ok_shape_of (P := P) (w := w) (base := base) X G c 41
  have c_row_joined := ok_row_joined (P := P) (w := w) (base := base) X G c 41
  have c_stem_of := ok_stem_of (P := P) (w := w) (base := base) X G c 41
  have e_BadBalance := He.exc_ok (c.d.fact 62 (f := .exc "BadBalance") rfl)
  have o_BadBalance := He.glo_ok X G (c.d.fact 61 (f := .glo "BadBalance") rfl)
  have o_Builder := He.glo_ok X G (c.d.fact 63 (f := .glo "Builder") rfl)
  obtain ⟨_, g_MOST_NODES⟩ := He.int_ok X G (c.d.fact 77 (f := .int "MOST_NODES" 20000) rfl)
  have m0_Builder := mk0_ok (c.fb 0 (f := .mk0 "Builder") rfl)
  refine okF_of F (He.glo_ok X G (c.d.fact 20 (f := .glo "joined_shapes") rfl)) (F.bindsN fun _ _ _ _ _ _ us hl => match us, hl with | [_, _], _ => rfl) sc_joined_shapes len2 (semx_joined_shapes (cnOf K)) ?_
  intro cdv A outer s H E hr hgd tk hl hp
  have nd := (sc_joined_shapes).nd
  have hu := hu_of hr
  have hu64 := room_hu64 hr
  have hu65 := room_hu65 hr
  exact (qss_cons (qs_set nd (q_call c_need_balanced (hr.mono (by first | decide | omega)) hgd hl (qa_cons (qv 0) qa_nil))) (qss_cons (qs_if (qt_cmp o_gtI (qe_op o_add (qv 2) (q_call c_need_balanced (hr.mono (by first | decide | omega)) hgd hl (qa_cons (qv 1) qa_nil))) (qe_glob (.int 20000) (.int 20000) g_MOST_NODES ⟨_, rfl⟩ fun _ => rfl)) (qss_one (qs_raise rfl tk e_BadBalance o_BadBalance)) qss_nil) (qss_one (qs_ret (q_call c_shape_of (hr.mono (by first | decide | omega)) hgd hl (qa_cons (q_call c_row_joined (hr.mono (by first | decide | omega)) hgd hl (qa_cons (qe_make0 o_Builder m0_Builder) (qa_cons (q_call c_stem_of (hr.mono (by first | decide | omega)) hgd hl (qa_cons (qv 0) qa_nil)) (qa_cons (q_call c_stem_of (hr.mono (by first | decide | omega)) hgd hl (qa_cons (qv 1) qa_nil)) qa_nil)))) qa_nil))))))
theorem sc_cut_shape : FnScope n_cut_shape ["shape", "many"] (defScope (top 33)) := ⟨rfl, rfl, rfl, by decide +kernel, rfl, by decide +kernel, by decide +kernel⟩
theorem ok_cut_shape (X : K.In h) (G : h.Ns mainGlobals mg) (c : SaysM fa fn fb K) : OkF P w K mg base 89 "cut_shape" ["shape", "many"] [] (spx_cut_shape (cnOf K)) := by
  obtain ⟨fd, F⟩ := c.d.def_ 24 (d := d_cut_shape) rfl
  have c_need_balanced := ok_need_balanced (P := P) (w := w) (base := base) X G c
  have c_row_cut := ok_row_cut (P := P) (w := w) (base := base) X G c 41
  have c_stem_of := ok_stem_of (P := P) (w := w) (base := base) X G c 41
  have c_shape_of := ok_shape_of (P := P) (w := w) (base := base) X G c 41
  have c_need_count_2 := ok_need_count_2 (P := P) (w := w) (base := base) X G c
  have o_Builder := He.glo_ok X G (c.d.fact 63 (f := .glo "Builder") rfl)
  have m0_Builder := mk0_ok (c.fb 0 (f := .mk0 "Builder") rfl)
  refine okF_of F (He.glo_ok X G (c.d.fact 21 (f := .glo "cut_shape") rfl)) (F.bindsN fun _ _ _ _ _ _ us hl => match us, hl with | [_, _], _ => rfl) sc_cut_shape len2 (semx_cut_shape (cnOf K)) ?_
  intro cdv A outer s H E hr hgd tk hl hp
  have nd := (sc_cut_shape).nd
  have hu := hu_of hr
  have hu64 := room_hu64 hr
  have hu65 := room_hu65 hr
  exact (qss_cons (qs_expr (q_call c_need_count_2 (hr.mono (by first | decide | omega)) hgd hl (qa_cons (qv 1) (qa_cons (q_call c_need_balanced (hr.mono (by first | decide | omega)) hgd hl (qa_cons (qv 0) qa_nil)) qa_nil)))) (qss_cons (qs_asg (q_call c_row_cut (hr.mono (by first | decide | omega)) hgd hl (qa_cons (qe_make0 o_Builder m0_Builder) (qa_cons (q_call c_stem_of (hr.mono (by first | decide | omega)) hgd hl (qa_cons (qv 0) qa_nil)) (qa_cons (qv 1) qa_nil)))) (qg_tup rfl (qgs_cons (qg_name nd) (qgs_cons (qg_name nd) qgs_nil)))) (qss_one (qs_ret (qe_tup (qa_cons (q_call c_shape_of (hr.mono (by first | decide | omega)) hgd hl (qa_cons (qv 2) qa_nil)) (qa_cons (q_call c_shape_of (hr.mono (by first | decide | omega)) hgd hl (qa_cons (qv 3) qa_nil)) qa_nil)))))))
theorem sc_put_shape : FnScope n_put_shape ["shape", "place"] (defScope (top 34)) := ⟨rfl, rfl, rfl, by decide +kernel, rfl, by decide +kernel, by decide +kernel⟩
theorem ok_put_shape (X : K.In h) (G : h.Ns mainGlobals mg) (c : SaysM fa fn fb K) : OkF P w K mg base 47 "put_shape" ["shape", "place"] [] (spx_put_shape (cnOf K)) := by
  obtain ⟨fd, F⟩ := c.d.def_ 25 (d := d_put_shape) rfl
  have c_need_balanced := ok_need_balanced (P := P) (w := w) (base := base) X G c
  have c_stem_of := ok_stem_of (P := P) (w := w) (base := base) X G c 41
  have c_shape_of := ok_shape_of (P := P) (w := w) (base := base) X G c 41
  have c_row_with := ok_row_with (P := P) (w := w) (base := base) X G c 41
  have c_need_count_2 := ok_need_count_2 (P := P) (w := w) (base := base) X G c
  have e_BadBalance := He.exc_ok (c.d.fact 62 (f := .exc "BadBalance") rfl)
  have o_BadBalance := He.glo_ok X G (c.d.fact 61 (f := .glo "BadBalance") rfl)
  have o_Builder := He.glo_ok X G (c.d.fact 63 (f := .glo "Builder") rfl)
  obtain ⟨_, g_MOST_NODES⟩ := He.int_ok X G (c.d.fact 77 (f := .int "MOST_NODES" 20000) rfl)
  have m0_Builder := mk0_ok (c.fb 0 (f := .mk0 "Builder") rfl)
  refine okF_of F (He.glo_ok X G (c.d.fact 22 (f := .glo "put_shape") rfl)) (F.bindsN fun _ _ _ _ _ _ us hl => match us, hl with | [_, _], _ => rfl) sc_put_shape len2 (semx_put_shape (cnOf K)) ?_
  intro cdv A outer s H E hr hgd tk hl hp
  have nd := (sc_put_shape).nd
  have hu := hu_of hr
  have hu64 := room_hu64 hr
  have hu65 := room_hu65 hr
  exact (qss_cons (qs_set nd (qe_if (qt_cmp (o_eq hu64) (qv 0) (qe_tup qa_nil)) qe_int (q_call c_need_balanced (hr.mono (by first | decide | omega)) hgd hl (qa_cons (qv 0) qa_nil)))) (qss_cons (qs_if (qt_cmp (o_eq hu64) (qv 2) (qe_glob (.int 20000) (.int 20000) g_MOST_NODES ⟨_, rfl⟩ fun _ => rfl)) (qss_one (qs_raise rfl tk e_BadBalance o_BadBalance)) qss_nil) (qss_cons (qs_expr (q_call c_need_count_2 (hr.mono (by first | decide | omega)) hgd hl (qa_cons (qv 1) (qa_cons (qv 2) qa_nil)))) (qss_cons (qs_set nd (qe_if (qt_cmp (o_eq hu64) (qv 0) (qe_tup qa_nil)) qe_non (q_call c_stem_of (hr.mono (by first | decide | omega)) hgd hl (qa_cons (qv 0) qa_nil)))) (qss_one (qs_ret (q_call c_shape_of (hr.mono (by first | decide | omega)) hgd hl (qa_cons (q_call c_row_with (hr.mono (by first | decide | omega)) hgd hl (qa_cons (qe_make0 o_Builder m0_Builder) (qa_cons (qv 3) (qa_cons (qv 1) (qa_cons (q_call c_stem_of (hr.mono (by first | decide | omega)) hgd hl (qa_cons qe_non qa_nil)) qa_nil))))) qa_nil))))))))
theorem sc_taken_shape : FnScope n_taken_shape ["shape", "place"] (defScope (top 35)) := ⟨rfl, rfl, rfl, by decide +kernel, rfl, by decide +kernel, by decide +kernel⟩
theorem ok_taken_shape (X : K.In h) (G : h.Ns mainGlobals mg) (c : SaysM fa fn fb K) : OkF P w K mg base 47 "taken_shape" ["shape", "place"] [] (spx_taken_shape (cnOf K)) := by
  obtain ⟨fd, F⟩ := c.d.def_ 26 (d := d_taken_shape) rfl
  have c_need_balanced := ok_need_balanced (P := P) (w := w) (base := base) X G c
  have c_shape_of := ok_shape_of (P := P) (w := w) (base := base) X G c 41
  have c_row_without := ok_row_without (P := P) (w := w) (base := base) X G c 41
  have c_stem_of := ok_stem_of (P := P) (w := w) (base := base) X G c 41
  have c_need_count_2 := ok_need_count_2 (P := P) (w := w) (base := base) X G c
  have o_Builder := He.glo_ok X G (c.d.fact 63 (f := .glo "Builder") rfl)
  have m0_Builder := mk0_ok (c.fb 0 (f := .mk0 "Builder") rfl)
  refine okF_of F (He.glo_ok X G (c.d.fact 23 (f := .glo "taken_shape") rfl)) (F.bindsN fun _ _ _ _ _ _ us hl => match us, hl with | [_, _], _ => rfl) sc_taken_shape len2 (semx_taken_shape (cnOf K)) ?_
  intro cdv A outer s H E hr hgd tk hl hp
  have nd := (sc_taken_shape).nd
  have hu := hu_of hr
  have hu64 := room_hu64 hr
  have hu65 := room_hu65 hr
  exact (qss_cons (qs_expr (q_call c_need_count_2 (hr.mono (by first | decide | omega)) hgd hl (qa_cons (qv 1) (qa_cons (qe_op o_sub (q_call c_need_balanced (hr.mono (by first | decide | omega)) hgd hl (qa_cons (qv 0) qa_nil)) qe_int) qa_nil)))) (qss_one (qs_ret (q_call c_shape_of (hr.mono (by first | decide | omega)) hgd hl (qa_cons (q_call c_row_without (hr.mono (by first | decide | omega)) hgd hl (qa_cons (qe_make0 o_Builder m0_Builder) (qa_cons (q_call c_stem_of (hr.mono (by first | decide | omega)) hgd hl (qa_cons (qv 0) qa_nil)) (qa_cons (qv 1) qa_nil)))) qa_nil)))))
theorem sc__law_feed : FnScope n__law_feed ["script", "k"] (defScope (top 37)) := ⟨rfl, rfl, rfl, by decide +kernel, rfl, by decide +kernel, by decide +kernel⟩
theorem ok__law_feed (X : K.In h) (G : h.Ns mainGlobals mg) (c : SaysM fa fn fb K) : OkF P w K mg base 1 "_law_feed" ["script", "k"] [] (sp__law_feed) := by
  obtain ⟨fd, F⟩ := c.d.def_ 27 (d := d__law_feed) rfl
  have m_int := He.free_ok X G (c.d.fact 47 (f := .free "int") rfl)
  have m_len := He.free_ok X G (c.d.fact 49 (f := .free "len") rfl)
  have m_max := He.free_ok X G (c.d.fact 51 (f := .free "max") rfl)
  have m_sum := He.free_ok X G (c.d.fact 54 (f := .free "sum") rfl)
  refine okF_of F (He.glo_ok X G (c.d.fact 24 (f := .glo "_law_feed") rfl)) (F.bindsN fun _ _ _ _ _ _ us hl => match us, hl with | [_, _], _ => rfl) sc__law_feed len2 (sem__law_feed) ?_
  intro cdv A outer s H E hr hgd tk hl hp
  have nd := (sc__law_feed).nd
  have hu := hu_of hr
  have hu64 := room_hu64 hr
  have hu65 := room_hu65 hr
  exact (qss_cons (qs_set nd (qe_op o_add (qe_op o_mul qe_int (qv 1)) (qe_callB (b_sum rfl) m_sum bt_sum (qa_cons (qe_slice (qv 0) qo_none (qo_some qe_int)) qa_nil)))) (qss_cons (qs_if (qt_cmp o_ltI (qv 1) (qe_callB b_len m_len bt_len (qa_cons (qv 0) qa_nil))) (qss_one (qs_set nd (qe_ix (qv 0) (qv 1)))) qss_nil) (qss_one (qs_ret (qe_lst (qa_cons (qe_callB (b_max2 rfl) m_max bt_max (qa_cons qe_int (qa_cons (qe_op o_sub (qv 2) (qe_op o_pow qe_int qe_int)) qa_nil))) (qa_cons (qe_op o_mod (qe_callTy b_int m_int bt_int (qa_cons (qe_op o_add (qe_op o_mul (qv 2) qe_int) (qe_op o_mul qe_int (qv 1))) qa_nil)) (qe_op o_add (qe_op o_pow qe_int qe_int) qe_int)) (qa_cons qe_int qa_nil))))))))
theorem sc__law_draw : FnScope n__law_draw ["feed", "many"] (defScope (top 38)) := ⟨rfl, rfl, rfl, by decide +kernel, rfl, by decide +kernel, by decide +kernel⟩
theorem ok__law_draw (X : K.In h) (G : h.Ns mainGlobals mg) (c : SaysM fa fn fb K) : OkF P w K mg base 1 "_law_draw" ["feed", "many"] [] (sp__law_draw) := by
  obtain ⟨fd, F⟩ := c.d.def_ 28 (d := d__law_draw) rfl
  have m_int := He.free_ok X G (c.d.fact 47 (f := .free "int") rfl)
  refine okF_of F (He.glo_ok X G (c.d.fact 25 (f := .glo "_law_draw") rfl)) (F.bindsN fun _ _ _ _ _ _ us hl => match us, hl with | [_, _], _ => rfl) sc__law_draw len2 (sem__law_draw) ?_
  intro cdv A outer s H E hr hgd tk hl hp
  have nd := (sc__law_draw).nd
  have hu := hu_of hr
  have hu64 := room_hu64 hr
  have hu65 := room_hu65 hr
  exact (qss_cons (qs_if (qt_cmp o_gtI (qe_ix (qv 0) qe_int) qe_int) (qss_cons (qs_set nd (qe_op o_fdiv (qe_ix (qv 0) qe_int) (qv 1))) (qss_cons (qs_set nd (qe_op o_sub (qe_ix (qv 0) qe_int) (qe_op o_mul (qv 2) (qv 1)))) (qss_cons (qs_asg (qv 2) (q_sub (pg_sub (qv 0) qe_int (p_set hu)))) (qss_one (qs_ret (qv 3)))))) qss_nil) (qss_cons (qs_asg (qe_op o_add (qe_ix (qv 0) qe_int) qe_int) (q_sub (pg_sub (qv 0) qe_int (p_set hu)))) (qss_cons (qs_set nd (qe_op o_add (qe_ix (qv 0) qe_int) (qe_op o_mul qe_int (qe_ix (qv 0) qe_int)))) (qss_cons (qs_set nd (qe_op o_mod (qe_callTy b_int m_int bt_int (qa_cons (qe_op o_add (qe_op o_mul (qe_op o_mul (qv 4) (qv 4)) (qv 4)) (qe_op o_mul qe_int (qe_ix (qv 0) qe_int))) qa_nil)) (qe_op o_add (qe_op o_pow qe_int qe_int) qe_int))) (qss_cons (qs_set nd (qe_op o_mod (qe_callTy b_int m_int bt_int (qa_cons (qe_op o_add (qe_op o_mul (qv 4) (qv 4)) qe_int) qa_nil)) (qe_op o_add (qe_op o_pow qe_int qe_int) qe_int))) (qss_one (qs_ret (qe_op o_mod (qe_callTy b_int m_int bt_int (qa_cons (qe_op o_fdiv (qv 4) (qe_op o_pow qe_int qe_int)) qa_nil)) (qv 1)))))))))
theorem sc__law_one : FnScope n__law_one ["feed", "things"] (defScope (top 39)) := ⟨rfl, rfl, rfl, by decide +kernel, rfl, by decide +kernel, by decide +kernel⟩
theorem ok__law_one (X : K.In h) (G : h.Ns mainGlobals mg) (c : SaysM fa fn fb K) : OkF P w K mg base 2 "_law_one" ["feed", "things"] [] (sp__law_one) := by
  obtain ⟨fd, F⟩ := c.d.def_ 29 (d := d__law_one) rfl
  have c__law_draw := ok__law_draw (P := P) (w := w) (base := base) X G c
  have m_len := He.free_ok X G (c.d.fact 49 (f := .free "len") rfl)
  refine okF_of F (He.glo_ok X G (c.d.fact 26 (f := .glo "_law_one") rfl)) (F.bindsN fun _ _ _ _ _ _ us hl => match us, hl with | [_, _], _ => rfl) sc__law_one len2 (sem__law_one) ?_
  intro cdv A outer s H E hr hgd tk hl hp
  have nd := (sc__law_one).nd
  have hu := hu_of hr
  have hu64 := room_hu64 hr
  have hu65 := room_hu65 hr
  exact (qss_one (qs_ret (qe_ix (qv 1) (q_call c__law_draw (hr.mono (by first | decide | omega)) hgd hl (qa_cons (qv 0) (qa_cons (qe_callB b_len m_len bt_len (qa_cons (qv 1) qa_nil)) qa_nil))))))
theorem sc__law_least : FnScope n__law_least ["height"] (defScope (top 40)) := ⟨rfl, rfl, rfl, by decide +kernel, rfl, by decide +kernel, by decide +kernel⟩
theorem ok__law_least (X : K.In h) (G : h.Ns mainGlobals mg) (c : SaysM fa fn fb K) : OkF P w K mg base 1 "_law_least" ["height"] [] (sp__law_least) := by
  obtain ⟨fd, F⟩ := c.d.def_ 30 (d := d__law_least) rfl
  have m_range := He.free_ok X G (c.d.fact 53 (f := .free "range") rfl)
  refine okF_of F (He.glo_ok X G (c.d.fact 27 (f := .glo "_law_least") rfl)) (F.bindsN fun _ _ _ _ _ _ us hl => match us, hl with | [_], _ => rfl) sc__law_least len1 (sem__law_least) ?_
  intro cdv A outer s H E hr hgd tk hl hp
  have nd := (sc__law_least).nd
  have hu := hu_of hr
  have hu64 := room_hu64 hr
  have hu65 := room_hu65 hr
  exact (qss_cons (qs_asg (qe_tup (qa_cons qe_int (qa_cons qe_int qa_nil))) (qg_tup rfl (qgs_cons (qg_name nd) (qgs_cons (qg_name nd) qgs_nil)))) (qss_cons (qs_for hp rfl (qi_range1 m_range (qa_cons (qv 0) qa_nil)) (qg_name nd) (qss_one (qs_par rfl nd (by decide) (qa_cons (qv 2) (qa_cons (qe_op o_add (qv 1) (qv 2)) qa_nil))))) (qss_one (qs_ret (qv 1)))))
theorem sc__law_tallest : FnScope n__law_tallest ["width"] (defScope (top 41)) := ⟨rfl, rfl, rfl, by decide +kernel, rfl, by decide +kernel, by decide +kernel⟩
theorem ok__law_tallest (X : K.In h) (G : h.Ns mainGlobals mg) (c : SaysM fa fn fb K) : OkF P w K mg base 2 "_law_tallest" ["width"] [] (sp__law_tallest) := by
  obtain ⟨fd, F⟩ := c.d.def_ 31 (d := d__law_tallest) rfl
  have c__law_least := ok__law_least (P := P) (w := w) (base := base) X G c
  refine okF_of F (He.glo_ok X G (c.d.fact 28 (f := .glo "_law_tallest") rfl)) (F.bindsN fun _ _ _ _ _ _ us hl => match us, hl with | [_], _ => rfl) sc__law_tallest len1 (sem__law_tallest) ?_
  intro cdv A outer s H E hr hgd tk hl hp
  have nd := (sc__law_tallest).nd
  have hu := hu_of hr
  have hu64 := room_hu64 hr
  have hu65 := room_hu65 hr
  exact (qss_cons (qs_set nd qe_int) (qss_cons (qs_while hp (qt_cmp o_leI (q_call c__law_least (hr.mono (by first | decide | omega)) hgd hl (qa_cons (qe_op o_add (qv 1) qe_int) qa_nil)) (qv 0)) (qss_one (qs_set nd (qe_op o_add (qv 1) qe_int)))) (qss_one (qs_ret (qv 1)))))
theorem sc__law_balanced : FnScope n__law_balanced ["feed", "width", "height"] (defScope (top 42)) := ⟨rfl, rfl, rfl, by decide +kernel, rfl, by decide +kernel, by decide +kernel⟩
theorem ok__law_balanced (X : K.In h) (G : h.Ns mainGlobals mg) (c : SaysM fa fn fb K) : ∀ rn : Nat, OkF P w K mg base (3 + rn) "_law_balanced" ["feed", "width", "height"] [] (sp__law_balanced rn)
  | 0 => by
    obtain ⟨fd, F⟩ := c.d.def_ 32 (d := d__law_balanced) rfl
    exact okF_zero F (He.glo_ok X G (c.d.fact 29 (f := .glo "_law_balanced") rfl)) (F.bindsN fun _ _ _ _ _ _ us hl => match us, hl with | [_, _, _], _ => rfl) (zero__law_balanced)
  | rn + 1 => by
    have ih := ok__law_balanced X G c rn
    obtain ⟨fd, F⟩ := c.d.def_ 32 (d := d__law_balanced) rfl
    have c__law_least := ok__law_least (P := P) (w := w) (base := base) X G c
    have c__law_one := ok__law_one (P := P) (w := w) (base := base) X G c
    have c__law_draw := ok__law_draw (P := P) (w := w) (base := base) X G c
    have m_max := He.free_ok X G (c.d.fact 51 (f := .free "max") rfl)
    have m_min := He.free_ok X G (c.d.fact 52 (f := .free "min") rfl)
    refine okF_of (k := 3 + rn) F (He.glo_ok X G (c.d.fact 29 (f := .glo "_law_balanced") rfl)) (F.bindsN fun _ _ _ _ _ _ us hl => match us, hl with | [_, _, _], _ => rfl) sc__law_balanced len3 (sem__law_balanced rn) ?_
    intro cdv A outer s H E hr hgd tk hl hp
    have nd := (sc__law_balanced).nd
    have hu := hu_of hr
    have hu64 := room_hu64 hr
    have hu65 := room_hu65 hr
    exact (qss_cons (qs_if (qt_cmp (o_eq hu64) (qv 2) qe_int) (qss_one (qs_ret qe_non)) qss_nil) (qss_cons (qs_set nd (qe_lst qa_nil)) (qss_cons (qs_for hp rfl (qi_any (qe_lst (qa_cons (qe_tup (qa_cons (qe_op o_sub (qv 2) qe_int) (qa_cons (qe_op o_sub (qv 2) qe_int) qa_nil))) (qa_cons (qe_tup (qa_cons (qe_op o_sub (qv 2) qe_int) (qa_cons (qe_op o_sub (qv 2) qe_int) qa_nil))) (qa_cons (qe_tup (qa_cons (qe_op o_sub (qv 2) qe_int) (qa_cons (qe_op o_sub (qv 2) qe_int) qa_nil))) qa_nil))))) (qg_tup rfl (qgs_cons (qg_name nd) (qgs_cons (qg_name nd) qgs_nil))) (qss_one (qs_if (qt_cmp o_geI (qe_callB (b_min2 rfl) m_min bt_min (qa_cons (qv 4) (qa_cons (qv 5) qa_nil))) qe_int) (qss_cons (qs_set nd (qe_callB (b_max2 rfl) m_max bt_max (qa_cons (q_call c__law_least (hr.mono (by first | decide | omega)) hgd hl (qa_cons (qv 4) qa_nil)) (qa_cons (qe_op o_sub (qv 1) (qe_op o_shl qe_int (qv 5))) qa_nil)))) (qss_cons (qs_set nd (qe_callB (b_min2 rfl) m_min bt_min (qa_cons (qe_op o_shl qe_int (qv 4)) (qa_cons (qe_op o_sub (qv 1) (q_call c__law_least (hr.mono (by first | decide | omega)) hgd hl (qa_cons (qv 5) qa_nil))) qa_nil)))) (qss_one (qs_if (qt_cmp o_leI (qv 6) (qv 7)) (qss_one (qs_expr (q_bm (pe_bm PySem.F.plainAttrs_list PySem.F.slot_list_append PySem.F.type_list_append m_append (qv 3) (qa_cons (qe_tup (qa_cons (qv 4) (qa_cons (qv 5) (qa_cons (qv 6) (qa_cons (qv 7) qa_nil))))) qa_nil))))) qss_nil)))) qss_nil))) (qss_cons (qs_asg (q_call c__law_one (hr.mono (by first | decide | omega)) hgd hl (qa_cons (qv 0) (qa_cons (qv 3) qa_nil))) (qg_tup rfl (qgs_cons (qg_name nd) (qgs_cons (qg_name nd) (qgs_cons (qg_name nd) (qgs_cons (qg_name nd) qgs_nil)))))) (qss_cons (qs_set nd (qe_op o_add (qv 6) (q_call c__law_draw (hr.mono (by first | decide | omega)) hgd hl (qa_cons (qv 0) (qa_cons (qe_op o_add (qe_op o_sub (qv 7) (qv 6)) qe_int) qa_nil))))) (qss_one (qs_ret (qe_tup (qa_cons (q_call ih (hr.mono (by first | decide | omega)) hgd hl (qa_cons (qv 0) (qa_cons (qv 8) (qa_cons (qv 4) qa_nil)))) (qa_cons (q_call ih (hr.mono (by first | decide | omega)) hgd hl (qa_cons (qv 0) (qa_cons (qe_op o_sub (qv 1) (qv 8)) (qa_cons (qv 5) qa_nil)))) qa_nil))))))))))
theorem sc__law_any_balanced : FnScope n__law_any_balanced ["feed", "most"] (defScope (top 43)) := ⟨rfl, rfl, rfl, by decide +kernel, rfl, by decide +kernel, by decide +kernel⟩
theorem ok__law_any_balanced (X : K.In h) (G : h.Ns mainGlobals mg) (c : SaysM fa fn fb K) : OkF P w K mg base 45 "_law_any_balanced" ["feed", "most"] [] (sp__law_any_balanced) := by
  obtain ⟨fd, F⟩ := c.d.def_ 33 (d := d__law_any_balanced) rfl
  have c__law_draw := ok__law_draw (P := P) (w := w) (base := base) X G c
  have c__law_balanced := ok__law_balanced (P := P) (w := w) (base := base) X G c 41
  have c__law_tallest := ok__law_tallest (P := P) (w := w) (base := base) X G c
  refine okF_of F (He.glo_ok X G (c.d.fact 30 (f := .glo "_law_any_balanced") rfl)) (F.bindsN fun _ _ _ _ _ _ us hl => match us, hl with | [_, _], _ => rfl) sc__law_any_balanced len2 (sem__law_any_balanced) ?_
  intro cdv A outer s H E hr hgd tk hl hp
  have nd := (sc__law_any_balanced).nd
  have hu := hu_of hr
  have hu64 := room_hu64 hr
  have hu65 := room_hu65 hr
  exact (qss_cons (qs_set nd (qe_op o_add qe_int (q_call c__law_draw (hr.mono (by first | decide | omega)) hgd hl (qa_cons (qv 0) (qa_cons (qv 1) qa_nil))))) (qss_cons (qs_set nd (qe_bits (qe_op o_sub (qv 2) qe_int))) (qss_one (qs_ret (q_call c__law_balanced (hr.mono (by first | decide | omega)) hgd hl (qa_cons (qv 0) (qa_cons (qv 2) (qa_cons (qe_op o_add (qv 3) (q_call c__law_draw (hr.mono (by first | decide | omega)) hgd hl (qa_cons (qv 0) (qa_cons (qe_op o_add (qe_op o_sub (q_call c__law_tallest (hr.mono (by first | decide | omega)) hgd hl (qa_cons (qv 2) qa_nil)) (qv 3)) qe_int) qa_nil)))) qa_nil))))))))
theorem sc__law_grown : FnScope n__law_grown ["feed", "many", "spoil"] (defScope (top 44)) := ⟨rfl, rfl, rfl, by decide +kernel, rfl, by decide +kernel, by decide +kernel⟩
theorem ok__law_grown (X : K.In h) (G : h.Ns mainGlobals mg) (c : SaysM fa fn fb K) : OkF P w K mg base 3 "_law_grown" ["feed", "many", "spoil"] [] (sp__law_grown) := by
  obtain ⟨fd, F⟩ := c.d.def_ 34 (d := d__law_grown) rfl
  have c__law_one := ok__law_one (P := P) (w := w) (base := base) X G c
  have c__law_draw := ok__law_draw (P := P) (w := w) (base := base) X G c
  have m_len := He.free_ok X G (c.d.fact 49 (f := .free "len") rfl)
  have m_range := He.free_ok X G (c.d.fact 53 (f := .free "range") rfl)
  refine okF_of F (He.glo_ok X G (c.d.fact 31 (f := .glo "_law_grown") rfl)) (F.bindsN fun _ _ _ _ _ _ us hl => match us, hl with | [_, _, _], _ => rfl) sc__law_grown len3 (sem__law_grown) ?_
  intro cdv A outer s H E hr hgd tk hl hp
  have nd := (sc__law_grown).nd
  have hu := hu_of hr
  have hu64 := room_hu64 hr
  have hu65 := room_hu65 hr
  exact (qss_cons (qs_set nd (qe_op o_mul (qe_lst (qa_cons qe_non qa_nil)) (qv 1))) (qss_cons (qs_if (qt_cmp o_geI (qv 2) qe_int) (qss_one (qs_asg (q_call c__law_one (hr.mono (by first | decide | omega)) hgd hl (qa_cons (qv 0) (qa_cons (qe_lst (qa_cons qe_bl (qa_cons qe_bl (qa_cons qe_int (qa_cons qe_int (qa_cons qe_str (qa_cons qe_str (qa_cons (qe_tup qa_nil) (qa_cons (qe_lst qa_nil) (qa_cons qe_d0 (qa_cons (qe_tup (qa_cons qe_non qa_nil)) (qa_cons (qe_lst (qa_cons qe_non (qa_cons qe_non qa_nil))) (qa_cons (qe_tup (qa_cons qe_non (qa_cons qe_non (qa_cons qe_non qa_nil)))) qa_nil))))))))))))) qa_nil))) (q_sub (pg_sub (qv 3) (qv 2) (p_set hu))))) qss_nil) (qss_cons (qs_for hp rfl (qi_range1 m_range (qa_cons (qe_op o_sub (qv 1) qe_int) qa_nil)) (qg_name nd) (qss_cons (qs_set nd (q_call c__law_draw (hr.mono (by first | decide | omega)) hgd hl (qa_cons (qv 0) (qa_cons (qe_op o_sub (qe_callB b_len m_len bt_len (qa_cons (qv 3) qa_nil)) qe_int) qa_nil)))) (qss_one (qs_asg (qe_lst (qa_cons (qe_tup (qa_cons (qe_ix (qv 3) (qv 5)) (qa_cons (qe_ix (qv 3) (qe_op o_add (qv 5) qe_int)) qa_nil))) qa_nil)) (qg_slc (pg_slc (qv 3) (qo_some (qv 5)) (qo_some (qe_op o_add (qv 5) qe_int)))))))) (qss_one (qs_ret (qe_ix (qv 3) qe_int))))))
theorem sc__law_shape : FnScope n__law_shape ["feed", "most"] (defScope (top 45)) := ⟨rfl, rfl, rfl, by decide +kernel, rfl, by decide +kernel, by decide +kernel⟩
theorem ok__law_shape (X : K.In h) (G : h.Ns mainGlobals mg) (c : SaysM fa fn fb K) : OkF P w K mg base 46 "_law_shape" ["feed", "most"] [] (sp__law_shape) := by
  obtain ⟨fd, F⟩ := c.d.def_ 35 (d := d__law_shape) rfl
  have c__law_draw := ok__law_draw (P := P) (w := w) (base := base) X G c
  have c__law_any_balanced := ok__law_any_balanced (P := P) (w := w) (base := base) X G c
  have c__law_grown := ok__law_grown (P := P) (w := w) (base := base) X G c
  refine okF_of F (He.glo_ok X G (c.d.fact 32 (f := .glo "_law_shape") rfl)) (F.bindsN fun _ _ _ _ _ _ us hl => match us, hl with | [_, _], _ => rfl) sc__law_shape len2 (sem__law_shape) ?_
  intro cdv A outer s H E hr hgd tk hl hp
  have nd := (sc__law_shape).nd
  have hu := hu_of hr
  have hu64 := room_hu64 hr
  have hu65 := room_hu65 hr
  exact (qss_cons (qs_set nd (q_call c__law_draw (hr.mono (by first | decide | omega)) hgd hl (qa_cons (qv 0) (qa_cons qe_int qa_nil)))) (qss_cons (qs_if (qt_cmp o_ltI (qv 2) qe_int) (qss_one (qs_ret (q_call c__law_any_balanced (hr.mono (by first | decide | omega)) hgd hl (qa_cons (qv 0) (qa_cons (qv 1) qa_nil))))) qss_nil) (qss_cons (qs_set nd (qe_op o_add qe_int (q_call c__law_draw (hr.mono (by first | decide | omega)) hgd hl (qa_cons (qv 0) (qa_cons qe_int qa_nil))))) (qss_one (qs_ret (q_call c__law_grown (hr.mono (by first | decide | omega)) hgd hl (qa_cons (qv 0) (qa_cons (qv 3) (qa_cons (qe_if (qt_cmp (o_eq hu64) (qv 2) qe_int) (q_call c__law_draw (hr.mono (by first | decide | omega)) hgd hl (qa_cons (qv 0) (qa_cons (qv 3) qa_nil))) (qe_un o_neg qe_int)) qa_nil)))))))))
theorem sc__law_is_shape : FnScope n__law_is_shape ["thing"] (defScope (top 48)) := ⟨rfl, rfl, rfl, by decide +kernel, rfl, by decide +kernel, by decide +kernel⟩
theorem ok__law_is_shape (X : K.In h) (G : h.Ns mainGlobals mg) (c : SaysM fa fn fb K) : ∀ rn : Nat, OkF P w K mg base (1 + rn) "_law_is_shape" ["thing"] [] (sp__law_is_shape rn)
  | 0 => by
    obtain ⟨fd, F⟩ := c.d.def_ 38 (d := d__law_is_shape) rfl
    exact okF_zero F (He.glo_ok X G (c.d.fact 35 (f := .glo "_law_is_shape") rfl)) (F.bindsN fun _ _ _ _ _ _ us hl => match us, hl with | [_], _ => rfl) (zero__law_is_shape)
  | rn + 1 => by
    have ih := ok__law_is_shape X G c rn
    obtain ⟨fd, F⟩ := c.d.def_ 38 (d := d__law_is_shape) rfl
    have m_isinstance := He.free_ok X G (c.d.fact 48 (f := .free "isinstance") rfl)
    have m_len := He.free_ok X G (c.d.fact 49 (f := .free "len") rfl)
    have m_tuple := He.free_ok X G (c.d.fact 55 (f := .free "tuple") rfl)
    refine okF_of (k := 1 + rn) F (He.glo_ok X G (c.d.fact 35 (f := .glo "_law_is_shape") rfl)) (F.bindsN fun _ _ _ _ _ _ us hl => match us, hl with | [_], _ => rfl) sc__law_is_shape len1 (sem__law_is_shape rn) ?_
    intro cdv A outer s H E hr hgd tk hl hp
    have nd := (sc__law_is_shape).nd
    have hu := hu_of hr
    have hu64 := room_hu64 hr
    have hu65 := room_hu65 hr
    exact (qss_cons (qs_if (qt_cmp o_is (qv 0) qe_non) (qss_one (qs_ret qe_bl)) qss_nil) (qss_cons (qs_if (QW.pt (qw_or (qt_not (qt_tru (qe_callB b_isi m_isinstance bt_isinstance (qa_cons (qv 0) (qa_cons (qe_bltn (.ty "tuple") (.ty "tuple") m_tuple bt_tuple rfl fun _ => rfl) qa_nil))))) (qw_or1 (qt_cmp (o_ne hu64) (qe_callB b_len m_len bt_len (qa_cons (qv 0) qa_nil)) qe_int)))) (qss_one (qs_ret qe_bl)) qss_nil) (qss_one (qs_ret (qe_and (q_call ih (hr.mono (by first | decide | omega)) hgd hl (qa_cons (qe_ix (qv 0) qe_int) qa_nil)) (qe_one (q_call ih (hr.mono (by first | decide | omega)) hgd hl (qa_cons (qe_ix (qv 0) qe_int) qa_nil))))))))
theorem sc__law_sizes : FnScope n__law_sizes ["shape"] (defScope (top 47)) := ⟨rfl, rfl, rfl, by decide +kernel, rfl, by decide +kernel, by decide +kernel⟩
theorem ok__law_sizes (X : K.In h) (G : h.Ns mainGlobals mg) (c : SaysM fa fn fb K) : ∀ rn : Nat, OkF P w K mg base (1 + rn) "_law_sizes" ["shape"] [] (sp__law_sizes rn)
  | 0 => by
    obtain ⟨fd, F⟩ := c.d.def_ 37 (d := d__law_sizes) rfl
    exact okF_zero F (He.glo_ok X G (c.d.fact 34 (f := .glo "_law_sizes") rfl)) (F.bindsN fun _ _ _ _ _ _ us hl => match us, hl with | [_], _ => rfl) (zero__law_sizes)
  | rn + 1 => by
    have ih := ok__law_sizes X G c rn
    obtain ⟨fd, F⟩ := c.d.def_ 37 (d := d__law_sizes) rfl
    have m_abs := He.free_ok X G (c.d.fact 45 (f := .free "abs") rfl)
    have m_isinstance := He.free_ok X G (c.d.fact 48 (f := .free "isinstance") rfl)
    have m_len := He.free_ok X G (c.d.fact 49 (f := .free "len") rfl)
    have m_max := He.free_ok X G (c.d.fact 51 (f := .free "max") rfl)
    have m_tuple := He.free_ok X G (c.d.fact 55 (f := .free "tuple") rfl)
    refine okF_of (k := 1 + rn) F (He.glo_ok X G (c.d.fact 34 (f := .glo "_law_sizes") rfl)) (F.bindsN fun _ _ _ _ _ _ us hl => match us, hl with | [_], _ => rfl) sc__law_sizes len1 (sem__law_sizes rn) ?_
    intro cdv A outer s H E hr hgd tk hl hp
    have nd := (sc__law_sizes).nd
    have hu := hu_of hr
    have hu64 := room_hu64 hr
    have hu65 := room_hu65 hr
    exact (qss_cons (qs_if (qt_cmp o_is (qv 0) qe_non) (qss_one (qs_ret (qe_tup (qa_cons qe_int (qa_cons qe_int qa_nil))))) qss_nil) (qss_cons (qs_if (QW.pt (qw_or (qt_not (qt_tru (qe_callB b_isi m_isinstance bt_isinstance (qa_cons (qv 0) (qa_cons (qe_bltn (.ty "tuple") (.ty "tuple") m_tuple bt_tuple rfl fun _ => rfl) qa_nil))))) (qw_or1 (qt_cmp (o_ne hu64) (qe_callB b_len m_len bt_len (qa_cons (qv 0) qa_nil)) qe_int)))) (qss_one (qs_ret qe_non)) qss_nil) (qss_cons (qs_par rfl nd (by decide) (qa_cons (q_call ih (hr.mono (by first | decide | omega)) hgd hl (qa_cons (qe_ix (qv 0) qe_int) qa_nil)) (qa_cons (q_call ih (hr.mono (by first | decide | omega)) hgd hl (qa_cons (qe_ix (qv 0) qe_int) qa_nil)) qa_nil))) (qss_cons (qs_if (QW.pt (qw_or (qt_cmp o_is (qv 1) qe_non) (qw_or (qt_cmp o_is (qv 2) qe_non) (qw_or1 (qt_cmp o_gtI (qe_callB b_abs m_abs bt_abs (qa_cons (qe_op o_sub (qe_ix (qv 1) qe_int) (qe_ix (qv 2) qe_int)) qa_nil)) qe_int))))) (qss_one (qs_ret qe_non)) qss_nil) (qss_one (qs_ret (qe_tup (qa_cons (qe_op o_add (qe_ix (qv 1) qe_int) (qe_ix (qv 2) qe_int)) (qa_cons (qe_op o_add qe_int (qe_callB (b_max2 rfl) m_max bt_max (qa_cons (qe_ix (qv 1) qe_int) (qa_cons (qe_ix (qv 2) qe_int) qa_nil)))) qa_nil)))))))))
theorem sc__law_trouble : FnScope n__law_trouble ["thing"] (defScope (top 46)) := ⟨rfl, rfl, rfl, by decide +kernel, rfl, by decide +kernel, by decide +kernel⟩
theorem ok__law_trouble (X : K.In h) (G : h.Ns mainGlobals mg) (c : SaysM fa fn fb K) : OkF P w K mg base 43 "_law_trouble" ["thing"] [] (sp__law_trouble) := by
  obtain ⟨fd, F⟩ := c.d.def_ 36 (d := d__law_trouble) rfl
  have c__law_is_shape := ok__law_is_shape (P := P) (w := w) (base := base) X G c 41
  have c__law_sizes := ok__law_sizes (P := P) (w := w) (base := base) X G c 41
  refine okF_of F (He.glo_ok X G (c.d.fact 33 (f := .glo "_law_trouble") rfl)) (F.bindsN fun _ _ _ _ _ _ us hl => match us, hl with | [_], _ => rfl) sc__law_trouble len1 (sem__law_trouble) ?_
  intro cdv A outer s H E hr hgd tk hl hp
  have nd := (sc__law_trouble).nd
  have hu := hu_of hr
  have hu64 := room_hu64 hr
  have hu65 := room_hu65 hr
  exact (qss_cons (qs_if (qt_not (qt_tru (q_call c__law_is_shape (hr.mono (by first | decide | omega)) hgd hl (qa_cons (qv 0) qa_nil)))) (qss_one (qs_ret qe_str)) qss_nil) (qss_one (qs_ret (qe_if (qt_cmp o_is (q_call c__law_sizes (hr.mono (by first | decide | omega)) hgd hl (qa_cons (qv 0) qa_nil)) qe_non) qe_str qe_str))))
theorem sc__law_even : FnScope n__law_even ["width", "known"] (defScope (top 49)) := ⟨rfl, rfl, rfl, by decide +kernel, rfl, by decide +kernel, by decide +kernel⟩
theorem ok__law_even (X : K.In h) (G : h.Ns mainGlobals mg) (c : SaysM fa fn fb K) : ∀ rn : Nat, OkF P w K mg base (1 + rn) "_law_even" ["width", "known"] [] (sp__law_even rn)
  | 0 => by
    obtain ⟨fd, F⟩ := c.d.def_ 39 (d := d__law_even) rfl
    exact okF_zero F (He.glo_ok X G (c.d.fact 36 (f := .glo "_law_even") rfl)) (F.bindsN fun _ _ _ _ _ _ us hl => match us, hl with | [_, _], _ => rfl) (zero__law_even)
  | rn + 1 => by
    have ih := ok__law_even X G c rn
    obtain ⟨fd, F⟩ := c.d.def_ 39 (d := d__law_even) rfl
    refine okF_of (k := 1 + rn) F (He.glo_ok X G (c.d.fact 36 (f := .glo "_law_even") rfl)) (F.bindsN fun _ _ _ _ _ _ us hl => match us, hl with | [_, _], _ => rfl) sc__law_even len2 (sem__law_even rn) ?_
    intro cdv A outer s H E hr hgd tk hl hp
    have nd := (sc__law_even).nd
    have hu := hu_of hr
    have hu64 := room_hu64 hr
    have hu65 := room_hu65 hr
    exact (qss_cons (qs_if (qt_cmp (o_notinX hu65) (qv 0) (qv 1)) (qss_one (qs_asg (qe_tup (qa_cons (q_call ih (hr.mono (by first | decide | omega)) hgd hl (qa_cons (qe_op o_fdiv (qe_op o_add (qv 0) qe_int) qe_int) (qa_cons (qv 1) qa_nil))) (qa_cons (q_call ih (hr.mono (by first | decide | omega)) hgd hl (qa_cons (qe_op o_fdiv (qv 0) qe_int) (qa_cons (qv 1) qa_nil))) qa_nil))) (q_sub (pg_sub (qv 1) (qv 0) (p_set hu))))) qss_nil) (qss_one (qs_ret (qe_ixD hu (qv 1) (qv 0)))))
theorem sc__law_joined : FnScope n__law_joined ["one", "other"] (defScope (top 50)) := ⟨rfl, rfl, rfl, by decide +kernel, rfl, by decide +kernel, by decide +kernel⟩
theorem ok__law_joined (X : K.In h) (G : h.Ns mainGlobals mg) (c : SaysM fa fn fb K) : OkF P w K mg base 48 "_law_joined" ["one", "other"] [] (spx__law_joined (cnOf K)) := by
  obtain ⟨fd, F⟩ := c.d.def_ 40 (d := d__law_joined) rfl
  have c_joined_shapes := ok_joined_shapes (P := P) (w := w) (base := base) X G c
  have hx : ExF (cnOf K) := ⟨He.exm_ok (c.d.fact 64 (f := .exm "BadShape" "BadShape" true) rfl), He.exm_ok (c.d.fact 65 (f := .exm "BadBalance" "BadShape" false) rfl), He.exm_ok (c.d.fact 66 (f := .exm "BadBalance" "BadBalance" true) rfl), trivial⟩
  have o_BadBalance := He.glo_ok X G (c.d.fact 61 (f := .glo "BadBalance") rfl)
  have o_BadShape := He.glo_ok X G (c.d.fact 57 (f := .glo "BadShape") rfl)
  refine okF_of F (He.glo_ok X G (c.d.fact 37 (f := .glo "_law_joined") rfl)) (F.bindsN fun _ _ _ _ _ _ us hl => match us, hl with | [_, _], _ => rfl) sc__law_joined len2 (semx__law_joined (cnOf K) hx) ?_
  intro cdv A outer s H E hr hgd tk hl hp
  have nd := (sc__law_joined).nd
  have hu := hu_of hr
  have hu64 := room_hu64 hr
  have hu65 := room_hu65 hr
  exact (qss_cons (qs_tryMany rfl rfl tk (fun W2 pn xe tk hp => have hl := passAt tk; (qss_one (qs_set nd (qe_tup (qa_cons qe_str (qa_cons (q_call c_joined_shapes (hr.mono (by first | decide | omega)) hgd hl (qa_cons (qv 0) (qa_cons (qv 1) qa_nil))) qa_nil)))))) (.cons ⟨rfl, by decide, .inl o_BadShape⟩ (fun a pn => (qss_one (qs_set nd (qe_tup (qa_cons qe_str (qa_cons qe_non qa_nil)))))) (.cons ⟨rfl, by decide, .inl o_BadBalance⟩ (fun a pn => (qss_one (qs_set nd (qe_tup (qa_cons qe_str (qa_cons qe_non qa_nil)))))) .nil))) (qss_one (qs_ret (qv 2))))
theorem sc__law_right : FnScope n__law_right ["one", "other"] (defScope (top 51)) := ⟨rfl, rfl, rfl, by decide +kernel, rfl, by decide +kernel, by decide +kernel⟩
theorem ok__law_right (X : K.In h) (G : h.Ns mainGlobals mg) (c : SaysM fa fn fb K) : OkF P w K mg base 49 "_law_right" ["one", "other"] [] (spx__law_right (cnOf K)) := by
  obtain ⟨fd, F⟩ := c.d.def_ 41 (d := d__law_right) rfl
  have c__law_joined := ok__law_joined (P := P) (w := w) (base := base) X G c
  have c__law_trouble := ok__law_trouble (P := P) (w := w) (base := base) X G c
  have c__law_sizes := ok__law_sizes (P := P) (w := w) (base := base) X G c 41
  refine okF_of F (He.glo_ok X G (c.d.fact 38 (f := .glo "_law_right") rfl)) (F.bindsN fun _ _ _ _ _ _ us hl => match us, hl with | [_, _], _ => rfl) sc__law_right len2 (semx__law_right (cnOf K)) ?_
  intro cdv A outer s H E hr hgd tk hl hp
  have nd := (sc__law_right).nd
  have hu := hu_of hr
  have hu64 := room_hu64 hr
  have hu65 := room_hu65 hr
  exact (qss_cons (qs_asg (q_call c__law_joined (hr.mono (by first | decide | omega)) hgd hl (qa_cons (qv 0) (qa_cons (qv 1) qa_nil))) (qg_tup rfl (qgs_cons (qg_name nd) (qgs_cons (qg_name nd) qgs_nil)))) (qss_cons (qs_for hp rfl (qi_any (qe_lst (qa_cons (qv 0) (qa_cons (qv 1) qa_nil)))) (qg_name nd) (qss_one (qs_if (qt_cmp (o_ne hu64) (q_call c__law_trouble (hr.mono (by first | decide | omega)) hgd hl (qa_cons (qv 4) qa_nil)) qe_str) (qss_one (qs_ret (qe_cmp (o_eq hu64) (qv 2) (q_call c__law_trouble (hr.mono (by first | decide | omega)) hgd hl (qa_cons (qv 4) qa_nil))))) qss_nil))) (qss_cons (qs_set nd (qe_op o_add (qe_ix (q_call c__law_sizes (hr.mono (by first | decide | omega)) hgd hl (qa_cons (qv 0) qa_nil)) qe_int) (qe_ix (q_call c__law_sizes (hr.mono (by first | decide | omega)) hgd hl (qa_cons (qv 1) qa_nil)) qe_int))) (qss_cons (qs_if (qt_cmp o_gtI (qv 5) qe_int) (qss_one (qs_ret (qe_cmp (o_eq hu64) (qv 2) qe_str))) qss_nil) (qss_cons (qs_set nd (q_call c__law_sizes (hr.mono (by first | decide | omega)) hgd hl (qa_cons (qv 3) qa_nil))) (qss_cons (qs_if (QW.pt (qw_or (qt_cmp (o_ne hu64) (qv 2) qe_str) (qw_or (qt_cmp o_is (qv 6) qe_non) (qw_or1 (qt_cmp (o_ne hu64) (qe_ix (qv 6) qe_int) (qv 5)))))) (qss_one (qs_ret qe_bl)) qss_nil) (qss_one (qs_ret (qe_cmp (o_eq hu64) (q_call c__law_joined (hr.mono (by first | decide | omega)) hgd hl (qa_cons (qv 0) (qa_cons (qv 1) qa_nil))) (qe_tup (qa_cons qe_str (qa_cons (qv 3) qa_nil))))))))))))
theorem sc__law_asked_one : FnScope n__law_asked_one ["script"] (defScope (top 52)) := ⟨rfl, rfl, rfl, by decide +kernel, rfl, by decide +kernel, by decide +kernel⟩
theorem ok__law_asked_one (X : K.In h) (G : h.Ns mainGlobals mg) (c : SaysM fa fn fb K) : OkF P w K mg base 50 "_law_asked_one" ["script"] [] (spx__law_asked_one (cnOf K)) := by
  obtain ⟨fd, F⟩ := c.d.def_ 42 (d := d__law_asked_one) rfl
  have c__law_feed := ok__law_feed (P := P) (w := w) (base := base) X G c
  have c__law_draw := ok__law_draw (P := P) (w := w) (base := base) X G c
  have c__law_shape := ok__law_shape (P := P) (w := w) (base := base) X G c
  have c__law_even := ok__law_even (P := P) (w := w) (base := base) X G c 41
  have c__law_right := ok__law_right (P := P) (w := w) (base := base) X G c
  have m_len := He.free_ok X G (c.d.fact 49 (f := .free "len") rfl)
  have m_max := He.free_ok X G (c.d.fact 51 (f := .free "max") rfl)
  have m_min := He.free_ok X G (c.d.fact 52 (f := .free "min") rfl)
  have m_range := He.free_ok X G (c.d.fact 53 (f := .free "range") rfl)
  refine okF_of F (He.glo_ok X G (c.d.fact 39 (f := .glo "_law_asked_one") rfl)) (F.bindsN fun _ _ _ _ _ _ us hl => match us, hl with | [_], _ => rfl) sc__law_asked_one len1 (semx__law_asked_one (cnOf K)) ?_
  intro cdv A outer s H E hr hgd tk hl hp
  have nd := (sc__law_asked_one).nd
  have hu := hu_of hr
  have hu64 := room_hu64 hr
  have hu65 := room_hu65 hr
  exact (qss_cons (qs_for hp rfl (qi_range1 m_range (qa_cons (qe_callB (b_max2 rfl) m_max bt_max (qa_cons qe_int (qa_cons (qe_callB (b_min2 rfl) m_min bt_min (qa_cons qe_int (qa_cons (qe_callB b_len m_len bt_len (qa_cons (qv 0) qa_nil)) qa_nil))) qa_nil))) qa_nil)) (qg_name nd) (qss_cons (qs_set nd (q_call c__law_feed (hr.mono (by first | decide | omega)) hgd hl (qa_cons (qv 0) (qa_cons (qv 1) qa_nil)))) (qss_cons (qs_set nd (q_call c__law_draw (hr.mono (by first | decide | omega)) hgd hl (qa_cons (qv 2) (qa_cons qe_int qa_nil)))) (qss_cons (qs_par rfl nd (by decide) (qa_cons (q_call c__law_shape (hr.mono (by first | decide | omega)) hgd hl (qa_cons (qv 2) (qa_cons (qe_if (QW.pt (qw_and (qt_cmp (o_eq hu64) (qv 1) qe_int) (qw_and1 (qt_cmp (o_eq hu64) (qv 3) qe_int)))) qe_int qe_int) qa_nil))) (qa_cons (q_call c__law_shape (hr.mono (by first | decide | omega)) hgd hl (qa_cons (qv 2) (qa_cons qe_int qa_nil))) qa_nil))) (qss_cons (qs_if (QW.pt (qw_and (qt_cmp (o_eq hu64) (qv 3) qe_int) (qw_and1 (qt_cmp (o_eq hu64) (qv 1) qe_int)))) (qss_cons (qs_set nd (qe_d1 qe_int qe_non)) (qss_cons (qs_par rfl nd (by decide) (qa_cons (qe_op o_add qe_int (q_call c__law_draw (hr.mono (by first | decide | omega)) hgd hl (qa_cons (qv 2) (qa_cons qe_int qa_nil)))) (qa_cons (qe_op o_add qe_int (q_call c__law_draw (hr.mono (by first | decide | omega)) hgd hl (qa_cons (qv 2) (qa_cons qe_int qa_nil)))) qa_nil))) (qss_one (qs_par rfl nd (by decide) (qa_cons (q_call c__law_even (hr.mono (by first | decide | omega)) hgd hl (qa_cons (qv 7) (qa_cons (qv 6) qa_nil))) (qa_cons (q_call c__law_even (hr.mono (by first | decide | omega)) hgd hl (qa_cons (qe_op o_sub (qv 8) (qv 7)) (qa_cons (qv 6) qa_nil))) qa_nil)))))) qss_nil) (qss_one (qs_if (qt_not (qt_tru (q_call c__law_right (hr.mono (by first | decide | omega)) hgd hl (qa_cons (qv 4) (qa_cons (qv 5) qa_nil))))) (qss_one (qs_ret qe_bl)) qss_nil))))))) (qss_one (qs_ret qe_bl)))
theorem sc__law_held : FnScope n__law_held ["shape", "width"] (defScope (top 53)) := ⟨rfl, rfl, rfl, by decide +kernel, rfl, by decide +kernel, by decide +kernel⟩
theorem ok__law_held (X : K.In h) (G : h.Ns mainGlobals mg) (c : SaysM fa fn fb K) : OkF P w K mg base 45 "_law_held" ["shape", "width"] [] (spx__law_held (cnOf K)) := by
  obtain ⟨fd, F⟩ := c.d.def_ 43 (d := d__law_held) rfl
  have c_is_shape := ok_is_shape (P := P) (w := w) (base := base) X G c
  have c__law_sizes := ok__law_sizes (P := P) (w := w) (base := base) X G c 41
  have c_tallest := ok_tallest (P := P) (w := w) (base := base) X G c
  have c__law_tallest := ok__law_tallest (P := P) (w := w) (base := base) X G c
  have c_is_balanced := ok_is_balanced (P := P) (w := w) (base := base) X G c
  have c_height_of := ok_height_of (P := P) (w := w) (base := base) X G c
  have c_width_of := ok_width_of (P := P) (w := w) (base := base) X G c
  refine okF_of F (He.glo_ok X G (c.d.fact 40 (f := .glo "_law_held") rfl)) (F.bindsN fun _ _ _ _ _ _ us hl => match us, hl with | [_, _], _ => rfl) sc__law_held len2 (semx__law_held (cnOf K)) ?_
  intro cdv A outer s H E hr hgd tk hl hp
  have nd := (sc__law_held).nd
  have hu := hu_of hr
  have hu64 := room_hu64 hr
  have hu65 := room_hu65 hr
  exact (qss_cons (qs_if (qt_cmp (o_eq hu64) (qv 1) qe_int) (qss_one (qs_ret (qe_and (qe_cmp (o_eq hu64) (qv 0) (qe_tup qa_nil)) (qe_one (qe_cmp o_is (q_call c_is_shape (hr.mono (by first | decide | omega)) hgd hl (qa_cons (qv 0) qa_nil)) qe_bl))))) qss_nil) (qss_cons (qs_set nd (q_call c__law_sizes (hr.mono (by first | decide | omega)) hgd hl (qa_cons (qv 0) qa_nil))) (qss_cons (qs_if (QW.pt (qw_or (qt_cmp o_is (qv 2) qe_non) (qw_or (qt_cmp (o_ne hu64) (qe_ix (qv 2) qe_int) (qv 1)) (qw_or (qt_cmp o_gtI (qe_ix (qv 2) qe_int) (q_call c__law_tallest (hr.mono (by first | decide | omega)) hgd hl (qa_cons (qv 1) qa_nil))) (qw_or1 (qt_cmp o_ltI (q_call c_tallest (hr.mono (by first | decide | omega)) hgd hl (qa_cons (qv 1) qa_nil)) (qe_ix (qv 2) qe_int))))))) (qss_one (qs_ret qe_bl)) qss_nil) (qss_cons (qs_if (QW.pt (qw_or (qt_cmp o_isnot (q_call c_is_shape (hr.mono (by first | decide | omega)) hgd hl (qa_cons (qv 0) qa_nil)) qe_bl) (qw_or1 (qt_cmp o_isnot (q_call c_is_balanced (hr.mono (by first | decide | omega)) hgd hl (qa_cons (qv 0) qa_nil)) qe_bl)))) (qss_one (qs_ret qe_bl)) qss_nil) (qss_one (qs_ret (qe_and (qe_cmp (o_eq hu64) (q_call c_width_of (hr.mono (by first | decide | omega)) hgd hl (qa_cons (qv 0) qa_nil)) (qv 1)) (qe_one (qe_cmp (o_eq hu64) (q_call c_height_of (hr.mono (by first | decide | omega)) hgd hl (qa_cons (qv 0) qa_nil)) (qe_ix (qv 2) qe_int))))))))))
theorem sc__law_deed : FnScope n__law_deed ["feed", "held"] (defScope (top 54)) := ⟨rfl, rfl, rfl, by decide +kernel, rfl, by decide +kernel, by decide +kernel⟩
theorem ok__law_deed (X : K.In h) (G : h.Ns mainGlobals mg) (c : SaysM fa fn fb K) : OkF P w K mg base 90 "_law_deed" ["feed", "held"] [] (spx__law_deed (cnOf K)) := by
  obtain ⟨fd, F⟩ := c.d.def_ 44 (d := d__law_deed) rfl
  have c__law_draw := ok__law_draw (P := P) (w := w) (base := base) X G c
  have c_joined_shapes := ok_joined_shapes (P := P) (w := w) (base := base) X G c
  have c_cut_shape := ok_cut_shape (P := P) (w := w) (base := base) X G c
  have c_put_shape := ok_put_shape (P := P) (w := w) (base := base) X G c
  have c_taken_shape := ok_taken_shape (P := P) (w := w) (base := base) X G c
  have m_len := He.free_ok X G (c.d.fact 49 (f := .free "len") rfl)
  have m_list := He.free_ok X G (c.d.fact 50 (f := .free "list") rfl)
  refine okF_of F (He.glo_ok X G (c.d.fact 41 (f := .glo "_law_deed") rfl)) (F.bindsN fun _ _ _ _ _ _ us hl => match us, hl with | [_, _], _ => rfl) sc__law_deed len2 (semx__law_deed (cnOf K)) ?_
  intro cdv A outer s H E hr hgd tk hl hp
  have nd := (sc__law_deed).nd
  have hu := hu_of hr
  have hu64 := room_hu64 hr
  have hu65 := room_hu65 hr
  exact (qss_cons (qs_set nd (q_call c__law_draw (hr.mono (by first | decide | omega)) hgd hl (qa_cons (qv 0) (qa_cons (qe_callB b_len m_len bt_len (qa_cons (qv 1) qa_nil)) qa_nil)))) (qss_cons (qs_asg (qe_ix (qv 1) (qv 2)) (qg_tup rfl (qgs_cons (qg_name nd) (qgs_cons (qg_name nd) qgs_nil)))) (qss_cons (qs_set nd (q_call c__law_draw (hr.mono (by first | decide | omega)) hgd hl (qa_cons (qv 0) (qa_cons (qe_callB b_len m_len bt_len (qa_cons (qv 1) qa_nil)) qa_nil)))) (qss_cons (qs_set nd (q_call c__law_draw (hr.mono (by first | decide | omega)) hgd hl (qa_cons (qv 0) (qa_cons qe_int qa_nil)))) (qss_cons (qs_if (QW.pt (qw_and (qt_cmp (o_eq hu64) (qv 6) qe_int) (qw_and (qt_cmp (o_ne hu64) (qv 5) (qv 2)) (qw_and1 (qt_cmp o_leI (qe_op o_add (qv 4) (qe_ix (qe_ix (qv 1) (qv 5)) qe_int)) qe_int))))) (qss_cons (qs_set nd (q_call c_joined_shapes (hr.mono (by first | decide | omega)) hgd hl (qa_cons (qv 3) (qa_cons (qe_ix (qe_ix (qv 1) (qv 5)) qe_int) qa_nil)))) (qss_one (qs_ret (qe_tup (qa_cons (qe_lst (qa_cons (qv 2) (qa_cons (qv 5) qa_nil))) (qa_cons (qe_lst (qa_cons (qv 7) qa_nil)) (qa_cons (qe_lst (qa_cons (q_call c_joined_shapes (hr.mono (by first | decide | omega)) hgd hl (qa_cons (qv 3) (qa_cons (qe_ix (qe_ix (qv 1) (qv 5)) qe_int) qa_nil))) qa_nil)) (qa_cons (qe_lst (qa_cons (qe_op o_add (qv 4) (qe_ix (qe_ix (qv 1) (qv 5)) qe_int)) qa_nil)) qa_nil)))))))) qss_nil) (qss_cons (qs_if (QW.pt (qw_and (qt_cmp (o_eq hu64) (qv 6) qe_int) (qw_and1 (qt_cmp o_ltI (qe_callB b_len m_len bt_len (qa_cons (qv 1) qa_nil)) qe_int)))) (qss_cons (qs_set nd (q_call c__law_draw (hr.mono (by first | decide | omega)) hgd hl (qa_cons (qv 0) (qa_cons (qe_op o_add (qv 4) qe_int) qa_nil)))) (qss_one (qs_ret (qe_tup (qa_cons (qe_lst (qa_cons (qv 2) qa_nil)) (qa_cons (qe_callTy b_list m_list bt_list (qa_cons (q_call c_cut_shape (hr.mono (by first | decide | omega)) hgd hl (qa_cons (qv 3) (qa_cons (qv 8) qa_nil))) qa_nil)) (qa_cons (qe_callTy b_list m_list bt_list (qa_cons (q_call c_cut_shape (hr.mono (by first | decide | omega)) hgd hl (qa_cons (qv 3) (qa_cons (qv 8) qa_nil))) qa_nil)) (qa_cons (qe_lst (qa_cons (qv 8) (qa_cons (qe_op o_sub (qv 4) (qv 8)) qa_nil))) qa_nil)))))))) qss_nil) (qss_cons (qs_if (QW.pt (qw_and (qt_cmp (o_eq hu64) (qv 6) qe_int) (qw_and1 (qt_cmp o_ltI (qe_callB b_len m_len bt_len (qa_cons (qv 1) qa_nil)) qe_int)))) (qss_one (qs_ret (qe_tup (qa_cons (qe_lst qa_nil) (qa_cons (qe_lst (qa_cons (q_call c_put_shape (hr.mono (by first | decide | omega)) hgd hl (qa_cons (qe_tup qa_nil) (qa_cons qe_int qa_nil))) qa_nil)) (qa_cons (qe_lst (qa_cons (q_call c_put_shape (hr.mono (by first | decide | omega)) hgd hl (qa_cons (qe_tup qa_nil) (qa_cons qe_int qa_nil))) qa_nil)) (qa_cons (qe_lst (qa_cons qe_int qa_nil)) qa_nil))))))) qss_nil) (qss_cons (qs_if (QW.pt (qw_and (qt_cmp o_ltI (qv 6) qe_int) (qw_and1 (qt_cmp o_ltI (qv 4) qe_int)))) (qss_cons (qs_set nd (q_call c__law_draw (hr.mono (by first | decide | omega)) hgd hl (qa_cons (qv 0) (qa_cons (qe_op o_add (qv 4) qe_int) qa_nil)))) (qss_one (qs_ret (qe_tup (qa_cons (qe_lst (qa_cons (qv 2) qa_nil)) (qa_cons (qe_lst (qa_cons (q_call c_put_shape (hr.mono (by first | decide | omega)) hgd hl (qa_cons (qv 3) (qa_cons (qv 9) qa_nil))) qa_nil)) (qa_cons (qe_lst (qa_cons (q_call c_put_shape (hr.mono (by first | decide | omega)) hgd hl (qa_cons (qv 3) (qa_cons (qv 9) qa_nil))) qa_nil)) (qa_cons (qe_lst (qa_cons (qe_op o_add (qv 4) qe_int) qa_nil)) qa_nil)))))))) qss_nil) (qss_cons (qs_set nd (q_call c__law_draw (hr.mono (by first | decide | omega)) hgd hl (qa_cons (qv 0) (qa_cons (qv 4) qa_nil)))) (qss_one (qs_ret (qe_tup (qa_cons (qe_lst (qa_cons (qv 2) qa_nil)) (qa_cons (qe_lst (qa_cons (q_call c_taken_shape (hr.mono (by first | decide | omega)) hgd hl (qa_cons (qv 3) (qa_cons (qv 9) qa_nil))) qa_nil)) (qa_cons (qe_lst (qa_cons (q_call c_taken_shape (hr.mono (by first | decide | omega)) hgd hl (qa_cons (qv 3) (qa_cons (qv 9) qa_nil))) qa_nil)) (qa_cons (qe_lst (qa_cons (qe_op o_sub (qv 4) qe_int) qa_nil)) qa_nil))))))))))))))))
theorem sc__law_all_joined : FnScope n__law_all_joined ["held"] (defScope (top 55)) := ⟨rfl, rfl, rfl, by decide +kernel, rfl, by decide +kernel, by decide +kernel⟩
theorem ok__law_all_joined (X : K.In h) (G : h.Ns mainGlobals mg) (c : SaysM fa fn fb K) : OkF P w K mg base 90 "_law_all_joined" ["held"] [] (spx__law_all_joined (cnOf K)) := by
  obtain ⟨fd, F⟩ := c.d.def_ 45 (d := d__law_all_joined) rfl
  have c_joined_shapes := ok_joined_shapes (P := P) (w := w) (base := base) X G c
  have c__law_held := ok__law_held (P := P) (w := w) (base := base) X G c
  have c_cut_shape := ok_cut_shape (P := P) (w := w) (base := base) X G c
  refine okF_of F (He.glo_ok X G (c.d.fact 42 (f := .glo "_law_all_joined") rfl)) (F.bindsN fun _ _ _ _ _ _ us hl => match us, hl with | [_], _ => rfl) sc__law_all_joined len1 (semx__law_all_joined (cnOf K)) ?_
  intro cdv A outer s H E hr hgd tk hl hp
  have nd := (sc__law_all_joined).nd
  have hu := hu_of hr
  have hu64 := room_hu64 hr
  have hu65 := room_hu65 hr
  exact (qss_cons (qs_asg (qe_ix (qv 0) qe_int) (qg_tup rfl (qgs_cons (qg_name nd) (qgs_cons (qg_name nd) qgs_nil)))) (qss_cons (qs_for hp rfl (qi_any (qe_slice (qv 0) (qo_some qe_int) qo_none)) (qg_tup rfl (qgs_cons (qg_name nd) (qgs_cons (qg_name nd) qgs_nil))) (qss_cons (qs_par rfl nd (by decide) (qa_cons (q_call c_joined_shapes (hr.mono (by first | decide | omega)) hgd hl (qa_cons (qv 1) (qa_cons (qv 3) qa_nil))) (qa_cons (qe_op o_add (qv 2) (qv 4)) qa_nil))) (qss_one (qs_if (qt_not (qt_tru (q_call c__law_held (hr.mono (by first | decide | omega)) hgd hl (qa_cons (qv 1) (qa_cons (qv 2) qa_nil))))) (qss_one (qs_ret qe_bl)) qss_nil)))) (qss_cons (qs_for hp rfl (qi_any (qe_rv1 (qv 0))) (qg_tup rfl (qgs_cons (qg_name nd) (qgs_cons (qg_name nd) qgs_nil))) (qss_cons (qs_set nd (q_call c_cut_shape (hr.mono (by first | decide | omega)) hgd hl (qa_cons (qv 1) (qa_cons (qe_op o_sub (qv 2) (qv 4)) qa_nil)))) (qss_cons (qs_if (QW.pt (qw_or (qt_not (qt_tru (q_call c__law_held (hr.mono (by first | decide | omega)) hgd hl (qa_cons (qe_ix (qv 5) qe_int) (qa_cons (qe_op o_sub (qv 2) (qv 4)) qa_nil))))) (qw_or1 (qt_not (qt_tru (q_call c__law_held (hr.mono (by first | decide | omega)) hgd hl (qa_cons (qe_ix (qv 5) qe_int) (qa_cons (qv 4) qa_nil)))))))) (qss_one (qs_ret qe_bl)) qss_nil) (qss_one (qs_par rfl nd (by decide) (qa_cons (qe_ix (qv 5) qe_int) (qa_cons (qe_op o_sub (qv 2) (qv 4)) qa_nil))))))) (qss_one (qs_ret qe_bl)))))
theorem sc__law_asked_two : FnScope n__law_asked_two ["script"] (defScope (top 56)) := ⟨rfl, rfl, rfl, by decide +kernel, rfl, by decide +kernel, by decide +kernel⟩
theorem ok__law_asked_two (X : K.In h) (G : h.Ns mainGlobals mg) (c : SaysM fa fn fb K) : OkF P w K mg base 91 "_law_asked_two" ["script"] [] (spx__law_asked_two (cnOf K)) := by
  obtain ⟨fd, F⟩ := c.d.def_ 46 (d := d__law_asked_two) rfl
  have c__law_feed := ok__law_feed (P := P) (w := w) (base := base) X G c
  have c__law_draw := ok__law_draw (P := P) (w := w) (base := base) X G c
  have c__law_any_balanced := ok__law_any_balanced (P := P) (w := w) (base := base) X G c
  have c__law_sizes := ok__law_sizes (P := P) (w := w) (base := base) X G c 41
  have c__law_deed := ok__law_deed (P := P) (w := w) (base := base) X G c
  have c__law_held := ok__law_held (P := P) (w := w) (base := base) X G c
  have c__law_all_joined := ok__law_all_joined (P := P) (w := w) (base := base) X G c
  have m_len := He.free_ok X G (c.d.fact 49 (f := .free "len") rfl)
  have m_max := He.free_ok X G (c.d.fact 51 (f := .free "max") rfl)
  have m_min := He.free_ok X G (c.d.fact 52 (f := .free "min") rfl)
  have m_range := He.free_ok X G (c.d.fact 53 (f := .free "range") rfl)
  have m_zip := He.free_ok X G (c.d.fact 56 (f := .free "zip") rfl)
  refine okF_of F (He.glo_ok X G (c.d.fact 43 (f := .glo "_law_asked_two") rfl)) (F.bindsN fun _ _ _ _ _ _ us hl => match us, hl with | [_], _ => rfl) sc__law_asked_two len1 (semx__law_asked_two (cnOf K)) ?_
  intro cdv A outer s H E hr hgd tk hl hp
  have nd := (sc__law_asked_two).nd
  have hu := hu_of hr
  have hu64 := room_hu64 hr
  have hu65 := room_hu65 hr
  exact (qss_cons (qs_set nd (q_call c__law_feed (hr.mono (by first | decide | omega)) hgd hl (qa_cons (qv 0) (qa_cons qe_int qa_nil)))) (qss_cons (qs_set nd (qe_lst qa_nil)) (qss_cons (qs_for hp rfl (qi_range1 m_range (qa_cons (qe_op o_add qe_int (q_call c__law_draw (hr.mono (by first | decide | omega)) hgd hl (qa_cons (qv 1) (qa_cons qe_int qa_nil)))) qa_nil)) (qg_name nd) (qss_cons (qs_set nd (q_call c__law_any_balanced (hr.mono (by first | decide | omega)) hgd hl (qa_cons (qv 1) (qa_cons qe_int qa_nil)))) (qss_one (qs_expr (q_bm (pe_bm PySem.F.plainAttrs_list PySem.F.slot_list_append PySem.F.type_list_append m_append (qv 2) (qa_cons (qe_tup (qa_cons (qv 4) (qa_cons (qe_ix (q_call c__law_sizes (hr.mono (by first | decide | omega)) hgd hl (qa_cons (qv 4) qa_nil)) qe_int) qa_nil))) qa_nil))))))) (qss_cons (qs_for hp rfl (qi_range2 m_range (qa_cons qe_int (qa_cons (qe_callB (b_max2 rfl) m_max bt_max (qa_cons qe_int (qa_cons (qe_callB (b_min2 rfl) m_min bt_min (qa_cons qe_int (qa_cons (qe_callB b_len m_len bt_len (qa_cons (qv 0) qa_nil)) qa_nil))) qa_nil))) qa_nil))) (qg_name nd) (qss_cons (qs_asg (q_call c__law_deed (hr.mono (by first | decide | omega)) hgd hl (qa_cons (q_call c__law_feed (hr.mono (by first | decide | omega)) hgd hl (qa_cons (qv 0) (qa_cons (qv 5) qa_nil))) (qa_cons (qv 2) qa_nil))) (qg_tup rfl (qgs_cons (qg_name nd) (qgs_cons (qg_name nd) (qgs_cons (qg_name nd) (qgs_cons (qg_name nd) qgs_nil)))))) (qss_cons (qs_if (QW.pt (qw_or (qt_cmp (o_ne hu64) (qv 7) (qv 8)) (qw_or1 (qt_cmp (o_ne hu64) (qe_callB b_len m_len bt_len (qa_cons (qv 7) qa_nil)) (qe_callB b_len m_len bt_len (qa_cons (qv 9) qa_nil)))))) (qss_one (qs_ret qe_bl)) qss_nil) (qss_cons (qs_set nd (qe_lc (own := [("at", 11)]) (js := [11]) rfl nd (qi_range1 m_range (qa_cons (qe_callB b_len m_len bt_len (qa_cons (qv 2) qa_nil)) qa_nil)) (blkOk_by (N := n__law_asked_two) (sc := defScope (top 56)) (by decide +kernel)) (by decide) (fun _ _ _ _ _ => (qg_name nd)) (fun _ _ _ _ _ => (qts_one (qt_cmp (o_notinX hu65) (qv 11) (qv 6)))) (fun _ _ _ _ _ => (qe_ix (qv 2) (qv 11))))) (qss_cons (qs_for hp rfl (qi_zip m_zip (qa_cons (qv 7) (qa_cons (qv 9) qa_nil))) (qg_tup rfl (qgs_cons (qg_name nd) (qgs_cons (qg_name nd) qgs_nil))) (qss_cons (qs_if (qt_not (qt_tru (q_call c__law_held (hr.mono (by first | decide | omega)) hgd hl (qa_cons (qv 4) (qa_cons (qv 10) qa_nil))))) (qss_one (qs_ret qe_bl)) qss_nil) (qss_one (qs_if (qt_cmp o_gtI (qv 10) qe_int) (qss_one (qs_expr (q_bm (pe_bm PySem.F.plainAttrs_list PySem.F.slot_list_append PySem.F.type_list_append m_append (qv 2) (qa_cons (qe_tup (qa_cons (qv 4) (qa_cons (qv 10) qa_nil))) qa_nil))))) qss_nil)))) (qss_one (qs_if (qt_cmp (o_eq hu64) (qv 2) (qe_lst qa_nil)) (qss_one (qs_expr (q_bm (pe_bm PySem.F.plainAttrs_list PySem.F.slot_list_append PySem.F.type_list_append m_append (qv 2) (qa_cons (qe_tup (qa_cons qe_non (qa_cons qe_int qa_nil))) qa_nil))))) qss_nil))))))) (qss_one (qs_ret (q_call c__law_all_joined (hr.mono (by first | decide | omega)) hgd hl (qa_cons (qv 2) qa_nil))))))))
theorem sc_law : FnScope n_law ["script"] (defScope (top 57)) := ⟨rfl, rfl, rfl, by decide +kernel, rfl, by decide +kernel, by decide +kernel⟩
theorem fn_law (X : K.In h) (G : h.Ns mainGlobals mg) (c : SaysM fa fn fb K) {fd : FuncData} (F : FunD K d_law.name d_law.qual d_law.params d_law.body d_law.scope (d_law.dvs K) (d_law.kws K) (He.fAd K d_law.at_) fd) : FnT P w K mg base 92 (He.fAd K d_law.at_) fd ["script"] spLaw := by
  have c__law_asked_two := ok__law_asked_two (P := P) (w := w) (base := base) X G c
  have c__law_asked_one := ok__law_asked_one (P := P) (w := w) (base := base) X G c
  refine fnT_by F sc_law (fun _ _ _ _ ⟨_, e, _⟩ => by rw [e]; rfl) (semx_law (cnOf K)) ?_
  intro cdv A outer s H E hr hgd tk hl hp
  have nd := (sc_law).nd
  have hu := hu_of hr
  have hu64 := room_hu64 hr
  have hu65 := room_hu65 hr
  exact (qss_one (qs_ret (qe_and (q_call c__law_asked_one (hr.mono (by first | decide | omega)) hgd hl (qa_cons (qv 0) qa_nil)) (qe_one (q_call c__law_asked_two (hr.mono (by first | decide | omega)) hgd hl (qa_cons (qv 0) qa_nil))))))
end
theorem facts {P : Program} {w : World} {K : PySem.W.Frag} {h : Heap} {mg : Str → Option Value} {f : Addr} (X : K.In h) (G : h.Ns mainGlobals mg) (hfa : mg ("law" : Str) = some (.ref f)) (c : SaysM fa fn fb K) :
    ∃ fd : FuncData, (∀ (s : Shared) (v : Value), BindsTo s fd ⟨[v], []⟩ [("script", v)]) ∧ ∀ base : Heap, K.In base → base.Ns mainGlobals mg → FnT P w K mg base 92 f fd ["script"] spLaw := by
  obtain ⟨fd, F⟩ := c.d.def_ 47 (d := d_law) rfl
  have gl := He.glo_ok X G (c.d.fact 44 (f := .glo "law") rfl)
  have e := hfa.symm.trans gl
  have b := FunD.bindsA (ps := ["script"]) F fun _ _ _ _ _ _ us hl => match us, hl with | [_], _ => rfl
  cases e
  exact ⟨fd, fun s v => b s [v] rfl, fun base _ _ => fn_law X G c F⟩

end G
open PySem PySem.W PySem.Calls PyProof.Rows
theorem PySem.Challenge.cw_lawfulpages_k62_joined_shapes_and_rows_o_holds : PySem.Challenge.rw_lawfulpages_k62_joined_shapes_and_rows_o.Holds := by
  w_on; o_law
  refine HandSHeadRun.head_any (r := OpenLaw.row PySem.Challenge.rw_lawfulpages_k62_joined_shapes_and_rows_o) (q := view (OpenLaw.row PySem.Challenge.rw_lawfulpages_k62_joined_shapes_and_rows_o).prog [57]) (H := G.hk) (ob := G.ob) (M := 4800) (loose := G.loose) (d := HandSHeadRun.topDef (OpenLaw.row PySem.Challenge.rw_lawfulpages_k62_joined_shapes_and_rows_o).prog 57) (kwd := []) G.ob_eq
    (by kernel_rfl) (fun s => by kernel_rfl) G.run (by kernel_rfl) (by kernel_rfl) (by kernel_rfl) (by rfl) (by first | assumption | decide +kernel) (by decide +kernel) ⟨rfl, rfl, rfl, rfl, rfl, by decide +kernel⟩ ?hw ?hc
  case hw => w_witness2
  case hc =>
    refine T.walkT (l := PySem.Challenge.rw_lawfulpages_k62_joined_shapes_and_rows_o) (k := 92) (x := "script") rfl (by kernel_rfl) ⟨rfl, by decide, by decide⟩ ?F
    intro w mg fa h Y G0 hmg0
    obtain ⟨K, KX, c⟩ := Y
    have hmg : mg ("law" : PySem.Str) = some (.ref fa) := by
      have e : (HandSHeadRun.topDef (OpenLaw.row PySem.Challenge.rw_lawfulpages_k62_joined_shapes_and_rows_o).prog 57).name = ("law" : PySem.Str) := by kernel_rfl
      rw [← e]
      exact hmg0
    obtain ⟨fd, hb, hF⟩ := G.facts (P := (PySem.Challenge.rw_lawfulpages_k62_joined_shapes_and_rows_o).prog) (w := w) KX G0 hmg c
    exact ⟨K, fd, KX, hb, hF⟩
