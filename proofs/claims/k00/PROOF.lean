import PyProof.Rows.All
import Wide.All
import OpenK.AllK
import HandS.NoneIn
import Wide.FinOn
import HandS.ForMost
import HandS.ForExc
import HandS.IsInst
import HandS.TupAny
import HandS.TupMul
import HandS.Style
import HandS.Conv
import HandS.Wide
import HandS.WideBits
import HandS.EndBits
import HandS.Defaults
import HandS.Flow
import HandS.TupLe
import HandS.ExcOwn
import HandS.TryOnly
import HandS.HeadHook1
import PyProof.ReprRoads
import PyProof.CallFns
import KE.GoesMore
import KE.GoesEnum
import HandS.Zip
import HandS.Rev
import HandS.RevRange
import HandS.HeadHook2
import HandS.SortKw
import HandS.Text
import KE.DataMinMax
import KE.SortData
import PyProof.StrOps2
import HandS.Deep
import KE.DataAny
import HandS.More
import HandS.Replace
import HandS.ExcIs
import HandS.ExcField
import HandS.TryMany
import HandS.ExcInit
import HandS.Codes
import HandS.Head0
import HandS.Head1
import HandS.Head2
import HandS.HeadEnd
import KE.KExcIs
import HandS.ExcValue
import HandS.Dict
import PyProof.Rows.TupDisplay
import PyProof.Rows.RegStrFacts
import PyProof.StrLawsIn
import PyProof.StrLawsRepr
import PyProof.ReprLen
import KE.KIntText
import PySem.Challenge.RW_lawfulpages_k00_errors_and_places
set_option Elab.async false
set_option linter.all false
set_option maxRecDepth 100000
set_option maxHeartbeats 4000000
/-! T: dicts whose keys are None or ints. -/
namespace T
open PySem PySem.Spec PyProof.Rows L2
def oiIs (k : Option Int) (v : Value) : Bool := nkIs (k.map Sum.inl) v
theorem oi_inj {a b : Option Int} (h : (a.map Sum.inl : Option Key) = b.map Sum.inl) : a = b := by
  cases a with
  | none => cases b with
    | none => rfl
    | some j => cases h
  | some i => cases b with
    | none => cases h
    | some j => injection h with h; injection h with h; rw [h]
def oiKind (prog : Program) (w : World) : PySem.KeyKind prog w (Option Int) where
  is := oiIs
  hash := fun k => match k with
    | none => reduceHash 0xFCA86420
    | some i => hashInt i
  inj := fun v a b ha hb => oi_inj ((noneKind prog w).inj v (a.map Sum.inl) (b.map Sum.inl) ha hb)
  byValue := fun k v h => (noneKind prog w).byValue (k.map Sum.inl) v h
  pyHash := @fun A E s k v Q hv h => (noneKind prog w).pyHash (k := k.map Sum.inl) hv (by cases k <;> exact h)
  eqBool := @fun A E s a b u v Q hu hv h => (noneKind prog w).eqBool (a := a.map Sum.inl) (b := b.map Sum.inl) hu hv (by
    have e : decide ((a.map Sum.inl : Option Key) = b.map Sum.inl) = decide (a = b) := by
      by_cases c : a = b
      · rw [decide_eq_true c, c]; exact decide_eq_true rfl
      · rw [decide_eq_false c]; exact decide_eq_false fun z => c (oi_inj z)
    rw [e]; exact h)
  «strs» := fun k x t v h => (noneKind prog w).«strs» (k.map Sum.inl) x t v h
theorem oi_pairs {P P' : Program} {w w' : World} : ∀ {es : List DictEntry} {vs : List (Option Int × Value)}, Pairs (oiKind P w) es vs → Pairs (oiKind P' w') es vs
  | _, _, .nil => .nil
  | _, _, .cons h1 h2 h3 => .cons h1 h2 (oi_pairs h3)
theorem oi_conv {P P' : Program} {w w' : World} {h : Heap} {a : Addr} {vs : List (Option Int × Value)} (d : h.DictOf (oiKind P w) a vs) : h.DictOf (oiKind P' w') a vs := by
  obtain ⟨o, es, ep, ho, hx, hdt, hk, hp, hn⟩ := d
  exact ⟨o, es, ep, ho, hx, hdt, hk, oi_pairs hp, hn⟩
def oiV (kvs : List (Option Int × Int)) : List (Option Int × V) := kvs.map fun p => (p.1, V.int p.2)
/-- at a: a dict whose keys are None or ints, of ints -/
def dnT (kvs : List (Option Int × Int)) (a : Addr) : HO := .ext fun h => kvs.length ≤ sizeLine ∧ (a == sysModules) = false ∧ ∃ (P : Program) (w : World) (vs : List (Option Int × Value)), KV (oiV kvs) vs ∧ h.DictOf (oiKind P w) a vs
theorem dn_ok {P : Program} {w : World} {H' : Hp} {h' : Heap} {a : Addr} {kvs : List (Option Int × Int)} {vs : List (Option Int × Value)} (z : kvs.length ≤ sizeLine) (hd : (a == sysModules) = false) (rel : KV (oiV kvs) vs) (dd : h'.DictOf (oiKind P w) a vs) :
    ObjOk P w H' h' a (dnT kvs a) := by
  refine ⟨⟨z, hd, P, w, vs, rel, dd⟩, ?_, ?_⟩
  · obtain ⟨o, _, _, ho, _⟩ := dd
    exact ⟨o, ho⟩
  · rintro h1 h2 ⟨z, hd, P, w, vs, rel, o, es, ep, ho, r⟩ k
    exact ⟨z, hd, P, w, vs, rel, o, es, ep, k o ho, r⟩
theorem dn_of {P : Program} {w : World} {H : Hp} {h : Heap} {a : Addr} {kvs : List (Option Int × Int)} (ok : HOk P w H h) (e : H a = some (dnT kvs a)) : kvs.length ≤ sizeLine ∧ (a == sysModules) = false ∧ ∃ vs, KV (oiV kvs) vs ∧ h.DictOf (oiKind P w) a vs := by
  have q : ObjOk P w H h a (dnT kvs a) := rd_of ok (.inl e)
  obtain ⟨⟨z, hd, P', w', vs, rel, dd⟩, _⟩ := q
  exact ⟨z, hd, vs, rel, oi_conv dd⟩
/-! dicts whose keys are tuples of ints: the keys' own tuples are named -/
abbrev EnV := List (List Int × Addr × V)
def PrE : EnV → List (List Int × Addr × Value) → Prop := Paired fun p q => p.1 = q.1 ∧ p.2.1 = q.2.1 ∧ RelV p.2.2 q.2.2
/-- o at a is the dict of xs -/
def DTI (o : Obj) (xs : EnV) (h : Heap) (a : Addr) : Prop := xs.length ≤ sizeLine ∧ (a == sysModules) = false ∧ h.get? a = some o ∧ o.ExactDict ∧ ∃ (P : Program) (w : World) (ys : List (List Int × Addr × Value)) (es : Array DictEntry) (ep : Nat),
  PrE xs ys ∧ o.data = .dict es ep ∧ es.toList = ys.map (entryOfKey (tupleKind (intKind P w))) ∧ (ys.map (·.1)).Nodup
def dtE (xs : EnV) (a : Addr) : HO := .ext fun h => ∃ o, DTI o xs h a
/-- .. while no one writes it -/
def dtF (o : Obj) (xs : EnV) (a : Addr) : HO := .ext fun h => DTI o xs h a
theorem DTI.keep {o : Obj} {xs : EnV} {h1 h2 : Heap} {a : Addr} (x : DTI o xs h1 a) (k : ∀ o, h1.get? a = some o → h2.get? a = some o) : DTI o xs h2 a :=
  ⟨x.1, x.2.1, k o x.2.2.1, x.2.2.2⟩
theorem dtE_ok {P : Program} {w : World} {H' : Hp} {h' : Heap} {a : Addr} {xs : EnV} {o : Obj} (x : DTI o xs h' a) : ObjOk P w H' h' a (dtE xs a) :=
  ⟨⟨o, x⟩, ⟨o, x.2.2.1⟩, fun h1 h2 ⟨o, y⟩ k => ⟨o, y.keep k⟩⟩
theorem dtF_ok {P : Program} {w : World} {H' : Hp} {h' : Heap} {a : Addr} {xs : EnV} {o : Obj} (x : DTI o xs h' a) : ObjOk P w H' h' a (dtF o xs a) :=
  ⟨x, ⟨o, x.2.2.1⟩, fun h1 h2 y k => y.keep k⟩
theorem dtE_of {P : Program} {w : World} {H : Hp} {h : Heap} {a : Addr} {xs : EnV} (ok : HOk P w H h) (e : H a = some (dtE xs a)) : ∃ o, DTI o xs h a := by
  have q : ObjOk P w H h a (dtE xs a) := ok a _ e
  exact q.1
theorem dtF_of {P : Program} {w : World} {H : Hp} {h : Heap} {a : Addr} {xs : EnV} {o : Obj} (ok : HOk P w H h) (e : H a = some (dtF o xs a)) : DTI o xs h a := by
  have q : ObjOk P w H h a (dtF o xs a) := ok a _ e
  exact q.1
theorem ent_conv {P P' : Program} {w w' : World} : entryOfKey (tupleKind (intKind P w)) = entryOfKey (tupleKind (intKind P' w')) := rfl
/-- at a: a dict whose keys are None or ints, of anything -/
def dvT (kvs : List (Option Int × V)) (a : Addr) : HO := .ext fun h => kvs.length ≤ sizeLine ∧ (a == sysModules) = false ∧ ∃ (P : Program) (w : World) (vs : List (Option Int × Value)), KV kvs vs ∧ h.DictOf (oiKind P w) a vs
theorem dv_ok {P : Program} {w : World} {H' : Hp} {h' : Heap} {a : Addr} {kvs : List (Option Int × V)} {vs : List (Option Int × Value)} (z : kvs.length ≤ sizeLine) (hd : (a == sysModules) = false) (rel : KV kvs vs) (dd : h'.DictOf (oiKind P w) a vs) :
    ObjOk P w H' h' a (dvT kvs a) := by
  refine ⟨⟨z, hd, P, w, vs, rel, dd⟩, ?_, ?_⟩
  · obtain ⟨o, _, _, ho, _⟩ := dd
    exact ⟨o, ho⟩
  · rintro h1 h2 ⟨z, hd, P, w, vs, rel, o, es, ep, ho, r⟩ k
    exact ⟨z, hd, P, w, vs, rel, o, es, ep, k o ho, r⟩
theorem dv_of {P : Program} {w : World} {H : Hp} {h : Heap} {a : Addr} {kvs : List (Option Int × V)} (ok : HOk P w H h) (e : H a = some (dvT kvs a)) : kvs.length ≤ sizeLine ∧ (a == sysModules) = false ∧ ∃ vs, KV kvs vs ∧ h.DictOf (oiKind P w) a vs := by
  have q : ObjOk P w H h a (dvT kvs a) := ok a _ e
  obtain ⟨⟨z, hd, P', w', vs, rel, dd⟩, _⟩ := q
  exact ⟨z, hd, vs, rel, oi_conv dd⟩
end T

/-! T: values as trees over the kit's hand layer. -/
namespace T
open PySem PySem.Spec PyProof.Rows L2

/-- a value: what never changes is a tree, what may change is a place -/
inductive Tr where
  | non | bl (b : Bool) | int (i : Int) | str (x : Str) | tup (ds : List Tr) | fro (ds : List Tr) | loc (a : Addr) | ty (n : String)

/-- what may change, by its place -/
inductive MO where
  | lst (ds : List Tr) | dic (kvs : List (Key × Tr)) | ins (C dx : Addr) (fs : List (Str × Tr)) | xd (fs : List (Str × Tr)) | exc (cls : Value) (d : Option Addr) | dcn (kvs : List (Option Int × Int)) | dct (kvs : List (List Int × Tr)) | dcf (o : Obj) (xs : EnV) (kvs : List (List Int × Tr)) | dco (kvs : List (Option Int × Tr)) | ino (x : Str) (fs : List (Str × Tr)) | odd (xs : List (List Key × V))
/-- at a: an error of the class cls that is not in flight, its dict d -/
def exT (cls : Value) (d : Option Addr) (a : Addr) : HO := .ext fun h => ∃ (oe : Obj) (vs : Array Value), h.get? a = some oe ∧ Zc cls d oe ∧ oe.data = .fields vs
abbrev Ms := Addr → Option MO
def up (M : Ms) (a : Addr) (o : MO) : Ms := fun b => if b = a then some o else M b
theorem up_same {M : Ms} {a : Addr} {o : MO} : up M a o a = some o := by unfold up; rw [if_pos rfl]
theorem up_ne {M : Ms} {a b : Addr} {o : MO} (h : b ≠ a) : up M a o b = M b := by unfold up; rw [if_neg h]
theorem up_up {M : Ms} {a : Addr} {o u : MO} : up (up M a o) a u = up M a u := by
  funext b; unfold up; split <;> rfl
theorem m_ne {M : Ms} {a b : Addr} {o : MO} (h : M a = some o) (h' : M b = none) : a ≠ b := by
  intro e; subst e; rw [h] at h'; cases h'
theorem m_ne' {M : Ms} {a b : Addr} {o : MO} (h : M a = some o) (h' : M b = none) : b ≠ a := fun e => m_ne h h' e.symm

/-- a list of the written part -/
def KL (K : PySem.W.Frag) (a : Addr) (xs : List V) : Prop :=
  ∃ (ob : Obj) (vs : Array Value) (k : Nat), K.lookup a = some ob ∧ ob.cls = .type "list" ∧ ob.dict = none ∧ ob.data = .seq vs k ∧ vs.size ≤ sizeLine ∧ Vals xs vs.toList
/-- a list that no one writes -/
def FrL (K : PySem.W.Frag) (H : Hp) (a : Addr) (xs : List V) : Prop := (∃ o, H a = some (.frz o (.lst xs))) ∨ KL K a xs
theorem FrL.sq {K : PySem.W.Frag} {H : Hp} {a : Addr} {xs : List V} (h : FrL K H a xs) : SqL K H a xs := by
  rcases h with ⟨o, h⟩ | h
  · exact .inl (.inr ⟨o, h⟩)
  · exact .inr h

mutual
/-- the value v shows the tree -/
def Rep (K : PySem.W.Frag) (H : Hp) : Tr → V → Prop
  | .non, v => v = .non
  | .bl b, v => v = .bl b
  | .int i, v => v = .int i
  | .str x, v => v = .str x
  | .tup ds, v => ∃ a xs, v = .ref a ∧ SqT K H a xs ∧ RepL K H ds xs
  | .fro ds, v => ∃ a xs, v = .ref a ∧ FrL K H a xs ∧ RepL K H ds xs
  | .loc a, v => v = .ref a
  | .ty n, v => v = .ty n
def RepL (K : PySem.W.Frag) (H : Hp) : List Tr → List V → Prop
  | [], xs => xs = []
  | d :: ds, xs => ∃ x r, xs = x :: r ∧ Rep K H d x ∧ RepL K H ds r
end

/-- tuples and written lists stand as they stood -/
structure Tx (K : PySem.W.Frag) (H H' : Hp) : Prop where
  tup : ∀ a xs, SqT K H a xs → SqT K H' a xs
  fro : ∀ a xs, FrL K H a xs → FrL K H' a xs
section
variable {K : PySem.W.Frag} {H H' H1 H2 : Hp}
theorem Tx.refl : Tx K H H := ⟨fun _ _ h => h, fun _ _ h => h⟩
theorem Tx.trans (a : Tx K H H1) (b : Tx K H1 H2) : Tx K H H2 := ⟨fun x xs h => b.tup x xs (a.tup x xs h), fun x xs h => b.fro x xs (a.fro x xs h)⟩
theorem Tx.keep (h : ∀ a o, (∃ xs, o = HO.tup xs) ∨ (∃ ob u, o = HO.frz ob u) → H a = some o → H' a = some o) : Tx K H H' := by
  refine ⟨fun a xs q => ?_, fun a xs q => ?_⟩
  · rcases q with (q | ⟨o, q⟩) | q
    · exact .inl (.inl (h _ _ (.inl ⟨_, rfl⟩) q))
    · exact .inl (.inr ⟨o, h _ _ (.inr ⟨_, _, rfl⟩) q⟩)
    · exact .inr q
  · rcases q with ⟨o, q⟩ | q
    · exact .inl ⟨o, h _ _ (.inr ⟨_, _, rfl⟩) q⟩
    · exact .inr q
theorem Tx.same (h : ∀ a o, H a = some o → H' a = some o) : Tx K H H' := Tx.keep fun a o _ q => h a o q
theorem Tx.new {p : Addr} {o : HO} (h : H p = none) : Tx K H (upd H p o) := Tx.same fun a u q => by rw [upd_ne (ne_of_none q h)]; exact q
theorem Tx.mut {p : Addr} {o u : HO} (h : H p = some u) (h1 : ∀ xs, u ≠ .tup xs) (h2 : ∀ ob x, u ≠ .frz ob x) : Tx K H (upd H p o) := Tx.keep fun a v c q => by
  have ne : a ≠ p := by
    rintro rfl
    rw [h] at q; cases q
    rcases c with ⟨xs, e⟩ | ⟨ob, x, e⟩
    · exact h1 _ e
    · exact h2 _ _ e
  rw [upd_ne ne]; exact q
theorem Tx.lst {p : Addr} {xs : List V} {o : HO} (h : H p = some (.lst xs)) : Tx K H (upd H p o) := Tx.mut h (fun _ e => nomatch e) fun _ _ e => nomatch e
theorem Tx.dic {p : Addr} {xs : List (Key × V)} {o : HO} (h : H p = some (.dK xs)) : Tx K H (upd H p o) := Tx.mut h (fun _ e => nomatch e) fun _ _ e => nomatch e
theorem Tx.ins {p C dx : Addr} {fs : List (Str × V)} {o : HO} (h : H p = some (.ins C dx fs)) : Tx K H (upd H p o) := Tx.mut h (fun _ e => nomatch e) fun _ _ e => nomatch e
theorem Tx.un {fs ex : List Addr} {h h' : Heap} (u : Un fs ex H H' h h') : Tx K H H' := Tx.keep fun a o c q => by
  rcases c with ⟨xs, rfl⟩ | ⟨ob, x, rfl⟩
  · exact u.tups _ _ q
  · exact u.frzs _ _ _ q
end
mutual
theorem Rep.mono {K : PySem.W.Frag} {H H' : Hp} (t : Tx K H H') : ∀ {d : Tr} {v : V}, Rep K H d v → Rep K H' d v
  | .non, _, h => h
  | .bl _, _, h => h
  | .int _, _, h => h
  | .str _, _, h => h
  | .tup _, _, h => by
    obtain ⟨a, xs, e, q, r⟩ := h
    exact ⟨a, xs, e, t.tup _ _ q, RepL.mono t r⟩
  | .fro _, _, h => by
    obtain ⟨a, xs, e, q, r⟩ := h
    exact ⟨a, xs, e, t.fro _ _ q, RepL.mono t r⟩
  | .loc _, _, h => h
  | .ty _, _, h => h
theorem RepL.mono {K : PySem.W.Frag} {H H' : Hp} (t : Tx K H H') : ∀ {ds : List Tr} {xs : List V}, RepL K H ds xs → RepL K H' ds xs
  | [], _, h => h
  | _ :: _, _, h => by
    obtain ⟨x, r, e, h1, h2⟩ := h
    exact ⟨x, r, e, Rep.mono t h1, RepL.mono t h2⟩
end
section
variable {K : PySem.W.Frag} {H H' : Hp}
theorem RepL.len : ∀ {ds : List Tr} {xs : List V}, RepL K H ds xs → ds.length = xs.length
  | [], _, h => by
    have e : _ = [] := h
    subst e
    rfl
  | _ :: ds, _, h => by
    obtain ⟨x, r, e, h1, h2⟩ := h
    subst e
    rw [List.length_cons, List.length_cons, RepL.len h2]
theorem RepL.get : ∀ {ds : List Tr} {xs : List V} {i : Nat} {d : Tr}, RepL K H ds xs → ds[i]? = some d → ∃ x, xs[i]? = some x ∧ Rep K H d x
  | [], _, i, _, _, e => by simp at e
  | d :: ds, _, 0, _, h, e => by
    obtain ⟨x, r, e1, h1, h2⟩ := h
    subst e1
    have e : d = _ := Option.some.inj e
    subst e
    exact ⟨x, rfl, h1⟩
  | _ :: ds, _, i + 1, _, h, e => by
    obtain ⟨x, r, e1, h1, h2⟩ := h
    subst e1
    obtain ⟨y, a, b⟩ := RepL.get (i := i) h2 (by simpa using e)
    exact ⟨y, by simpa using a, b⟩
theorem RepL.of : ∀ {ds : List Tr} {xs : List V}, ds.length = xs.length → (∀ (i : Nat) (d : Tr) (x : V), ds[i]? = some d → xs[i]? = some x → Rep K H d x) → RepL K H ds xs
  | [], [], _, _ => rfl
  | [], _ :: _, e, _ => by simp at e
  | _ :: _, [], e, _ => by simp at e
  | d :: ds, x :: xs, e, h => ⟨x, xs, rfl, h 0 d x rfl rfl, RepL.of (by simpa using e) fun i d x h1 h2 => h (i + 1) d x (by simpa using h1) (by simpa using h2)⟩
theorem RepL.back {ds : List Tr} {xs : List V} {i : Nat} {x : V} (h : RepL K H ds xs) (e : xs[i]? = some x) : ∃ d, ds[i]? = some d ∧ Rep K H d x := by
  have hi : i < ds.length := by
    rw [h.len]; exact (List.getElem?_eq_some_iff.mp e).1
  obtain ⟨y, a, b⟩ := h.get (i := i) (d := ds[i]) (by simp [hi])
  rw [e] at a; cases a
  exact ⟨_, by simp [hi], b⟩
theorem RepL.at {ds : List Tr} {xs : List V} {i : Nat} {d : Tr} {x : V} (h : RepL K H ds xs) (e : ds[i]? = some d) (e' : xs[i]? = some x) : Rep K H d x := by
  obtain ⟨y, a, b⟩ := h.get e
  rw [e'] at a; cases a
  exact b
theorem RepL.app {ds es : List Tr} {xs ys : List V} (h : RepL K H ds xs) (h' : RepL K H es ys) : RepL K H (ds ++ es) (xs ++ ys) := by
  refine RepL.of (by rw [List.length_append, List.length_append, h.len, h'.len]) fun i d x e1 e2 => ?_
  by_cases c : i < ds.length
  · rw [List.getElem?_append_left c] at e1
    rw [List.getElem?_append_left (by rw [← h.len]; exact c)] at e2
    exact h.at e1 e2
  · rw [List.getElem?_append_right (by omega)] at e1
    rw [List.getElem?_append_right (by have := h.len; omega)] at e2
    rw [← h.len] at e2
    exact h'.at e1 e2
theorem RepL.one {d : Tr} {x : V} (h : Rep K H d x) : RepL K H [d] [x] := ⟨x, [], rfl, h, rfl⟩
theorem RepL.nil : RepL K H [] [] := rfl
theorem RepL.cons {d : Tr} {x : V} {ds : List Tr} {xs : List V} (h : Rep K H d x) (t : RepL K H ds xs) : RepL K H (d :: ds) (x :: xs) := ⟨x, xs, rfl, h, t⟩
theorem RepL.take {ds : List Tr} {xs : List V} (n : Nat) (h : RepL K H ds xs) : RepL K H (ds.take n) (xs.take n) := by
  refine RepL.of (by rw [List.length_take, List.length_take, h.len]) fun i d x e1 e2 => ?_
  rw [List.getElem?_take] at e1 e2
  split at e1
  · rename_i c
    rw [if_pos c] at e2
    exact h.at e1 e2
  · cases e1
theorem RepL.drop {ds : List Tr} {xs : List V} (n : Nat) (h : RepL K H ds xs) : RepL K H (ds.drop n) (xs.drop n) := by
  refine RepL.of (by rw [List.length_drop, List.length_drop, h.len]) fun i d x e1 e2 => ?_
  rw [List.getElem?_drop] at e1 e2
  exact h.at e1 e2
theorem RepL.set {ds : List Tr} {xs : List V} {d : Tr} {x : V} (n : Nat) (h : RepL K H ds xs) (r : Rep K H d x) : RepL K H (ds.set n d) (xs.set n x) := by
  refine RepL.of (by rw [List.length_set, List.length_set, h.len]) fun i e y e1 e2 => ?_
  rw [List.getElem?_set] at e1 e2
  by_cases c : n = i
  · rw [if_pos c] at e1 e2
    rw [← h.len] at e2
    split at e1
    · rename_i c2
      rw [if_pos c2] at e2
      cases e1; cases e2
      exact r
    · cases e1
  · rw [if_neg c] at e1 e2
    exact h.at e1 e2
theorem RepL.dropLast {ds : List Tr} {xs : List V} (h : RepL K H ds xs) : RepL K H ds.dropLast xs.dropLast := by
  rw [List.dropLast_eq_take, List.dropLast_eq_take, h.len]
  exact h.take _
theorem RepL.erase {ds : List Tr} {xs : List V} (n : Nat) (h : RepL K H ds xs) : RepL K H (ds.eraseIdx n) (xs.eraseIdx n) := by
  rw [List.eraseIdx_eq_take_drop_succ, List.eraseIdx_eq_take_drop_succ]
  exact (h.take _).app (h.drop _)
theorem RepL.rev {ds : List Tr} {xs : List V} (h : RepL K H ds xs) : RepL K H ds.reverse xs.reverse := by
  refine RepL.of (by rw [List.length_reverse, List.length_reverse, h.len]) fun i d x e1 e2 => ?_
  have hi : i < ds.length := by
    have := (List.getElem?_eq_some_iff.mp e1).1
    rwa [List.length_reverse] at this
  rw [List.getElem?_reverse hi] at e1
  rw [List.getElem?_reverse (by rw [← h.len]; exact hi), ← h.len] at e2
  exact h.at e1 e2
theorem RepL.rep {ds : List Tr} {xs : List V} (h : RepL K H ds xs) : ∀ k : Nat, RepL K H (List.replicate k ds).flatten (List.replicate k xs).flatten
  | 0 => rfl
  | k + 1 => by
    rw [List.replicate_succ, List.replicate_succ, List.flatten_cons, List.flatten_cons]
    exact h.app (RepL.rep h k)
theorem RepL.ints {ns : List Int} : RepL K H (ns.map Tr.int) (ns.map V.int) := by
  induction ns with
  | nil => rfl
  | cons n r ih => exact ⟨_, _, rfl, rfl, ih⟩
theorem RepL.cut {ds : List Tr} {xs : List V} (lo hi : Option Int) (h : RepL K H ds xs) :
    RepL K H ((ds.drop (HT.sIx ds.length 0 lo)).take (HT.sIx ds.length ds.length hi - HT.sIx ds.length 0 lo)) (cutV xs lo hi) := by
  unfold cutV
  rw [h.len]
  exact (h.drop _).take _
end

/-! ### the store, the slots -/
def EnR (K : PySem.W.Frag) (H : Hp) : List (List Int × Tr) → EnV → Prop := Paired fun p x => x.1 = p.1 ∧ SqT K H x.2.1 (p.1.map V.int) ∧ Rep K H p.2 x.2.2
theorem EnR.mono {K : PySem.W.Frag} {H H' : Hp} {kvs : List (List Int × Tr)} {xs : EnV} (r : EnR K H kvs xs) (t : Tx K H H') : EnR K H' kvs xs := Paired.mapP r fun _ _ z => ⟨z.1, t.tup _ _ z.2.1, z.2.2.mono t⟩
/-- a dict's entries, keys of None or ints -/
def OvR (K : PySem.W.Frag) (H : Hp) : List (Option Int × Tr) → List (Option Int × V) → Prop := Paired fun p x => x.1 = p.1 ∧ Rep K H p.2 x.2
theorem OvR.mono {K : PySem.W.Frag} {H H' : Hp} {kvs : List (Option Int × Tr)} {xs : List (Option Int × V)} (r : OvR K H kvs xs) (t : Tx K H H') : OvR K H' kvs xs := Paired.mapP r fun _ _ z => ⟨z.1, z.2.mono t⟩
def RepO (K : PySem.W.Frag) (H : Hp) (a : Addr) : MO → Prop
  | .lst ds => ∃ xs, H a = some (.lst xs) ∧ RepL K H ds xs
  | .dic kvs => ∃ xs, H a = some (.dK xs) ∧ xs.map (·.1) = kvs.map (·.1) ∧ RepL K H (kvs.map (·.2)) (xs.map (·.2))
  | .ins C dx fs => ∃ xs, H a = some (.ins C dx xs) ∧ xs.map (·.1) = fs.map (·.1) ∧ RepL K H (fs.map (·.2)) (xs.map (·.2))
  | .xd fs => ∃ xs, H a = some (.xd xs) ∧ xs.map (·.1) = fs.map (·.1) ∧ RepL K H (fs.map (·.2)) (xs.map (·.2))
  | .exc cls d => H a = some (exT cls d a)
  | .dcn kvs => H a = some (dnT kvs a)
  | .dct kvs => ∃ xs, H a = some (dtE xs a) ∧ EnR K H kvs xs
  | .dcf o xs kvs => H a = some (dtF o xs a) ∧ EnR K H kvs xs
  | .dco kvs => ∃ xs, H a = some (dvT xs a) ∧ OvR K H kvs xs
  | .ino x fs => ∃ dx xs, H a = some (.ins (He.ga K x) dx xs) ∧ xs.map (·.1) = fs.map (·.1) ∧ RepL K H (fs.map (·.2)) (xs.map (·.2))
  | .odd xs => H a = some (.dT xs)
def SimM (K : PySem.W.Frag) (H : Hp) (M : Ms) : Prop := ∀ a o, M a = some o → RepO K H a o
abbrev St2 := List (Option Tr)
structure SimS (K : PySem.W.Frag) (H : Hp) (σ' : St2) (σ : L2.St) : Prop where
  len : σ'.length = σ.length
  at_ : ∀ (i : Nat) (d : Tr), σ'[i]? = some (some d) → ∃ v, σ[i]? = some (some v) ∧ Rep K H d v
section
variable {K : PySem.W.Frag} {H H' : Hp} {M : Ms} {σ' : St2} {σ : L2.St} {d : Tr} {v : V} {a p : Addr}
theorem RepO.there {o : MO} (h : RepO K H a o) : ∃ u, H a = some u := by
  cases o with
  | lst ds => obtain ⟨xs, e, _⟩ := h; exact ⟨_, e⟩
  | dic ds => obtain ⟨xs, e, _⟩ := h; exact ⟨_, e⟩
  | ins C dx ds => obtain ⟨xs, e, _⟩ := h; exact ⟨_, e⟩
  | xd ds => obtain ⟨xs, e, _⟩ := h; exact ⟨_, e⟩
  | exc cls d => exact ⟨_, h⟩
  | dcn kvs => exact ⟨_, h⟩
  | dct kvs => obtain ⟨xs, e, _⟩ := h; exact ⟨_, e⟩
  | dcf o xs kvs => exact ⟨_, h.1⟩
  | dco kvs => obtain ⟨xs, e, _⟩ := h; exact ⟨_, e⟩
  | ino x fs => obtain ⟨dx, xs, e, _⟩ := h; exact ⟨_, e⟩
  | odd xs => exact ⟨_, h⟩
theorem RepO.mono {o : MO} (t : Tx K H H') (e : H' a = H a) (h : RepO K H a o) : RepO K H' a o := by
  cases o with
  | lst ds => obtain ⟨xs, q, r⟩ := h; exact ⟨xs, e.trans q, r.mono t⟩
  | dic ds => obtain ⟨xs, q, k, r⟩ := h; exact ⟨xs, e.trans q, k, r.mono t⟩
  | ins C dx ds => obtain ⟨xs, q, k, r⟩ := h; exact ⟨xs, e.trans q, k, r.mono t⟩
  | xd ds => obtain ⟨xs, q, k, r⟩ := h; exact ⟨xs, e.trans q, k, r.mono t⟩
  | exc cls d => exact e.trans h
  | dcn kvs => exact e.trans h
  | dct kvs => obtain ⟨xs, q, r⟩ := h; exact ⟨xs, e.trans q, r.mono t⟩
  | dcf o xs kvs => exact ⟨e.trans h.1, h.2.mono t⟩
  | dco kvs => obtain ⟨xs, q, r⟩ := h; exact ⟨xs, e.trans q, r.mono t⟩
  | ino x fs => obtain ⟨dx, xs, q, k, r⟩ := h; exact ⟨dx, xs, e.trans q, k, r.mono t⟩
  | odd xs => exact e.trans h
theorem SimM.free (h : SimM K H M) (e : H p = none) : M p = none := by
  cases q : M p with
  | none => rfl
  | some o =>
    obtain ⟨u, z⟩ := (h p o q).there
    rw [e] at z; cases z
theorem SimM.keep (h : SimM K H M) (k : ∀ b u, H b = some u → H' b = some u) : SimM K H' M := fun b o q => by
  obtain ⟨u, z⟩ := (h b o q).there
  exact (h b o q).mono (Tx.same k) ((k b u z).trans z.symm)
/-- a new thing that the store does not name -/
theorem SimM.hid {o : HO} (h : SimM K H M) (e : H p = none) : SimM K (upd H p o) M := h.keep fun b u q => by rw [upd_ne (ne_of_none q e)]; exact q
theorem SimM.put {o : HO} {m : MO} (h : SimM K H M) (t : Tx K H (upd H p o)) (n : RepO K (upd H p o) p m) : SimM K (upd H p o) (up M p m) := fun b u q => by
  by_cases c : b = p
  · subst c
    rw [up_same] at q; cases q
    exact n
  · rw [up_ne c] at q
    exact (h b u q).mono t (upd_ne c)
theorem SimM.newL {ds : List Tr} {xs : List V} (h : SimM K H M) (e : H p = none) (r : RepL K H ds xs) : SimM K (upd H p (.lst xs)) (up M p (.lst ds)) :=
  h.put (Tx.new e) ⟨xs, upd_same, r.mono (Tx.new e)⟩
theorem SimM.setL {ds : List Tr} {xs ys : List V} (h : SimM K H M) (e : H p = some (.lst ys)) (r : RepL K H ds xs) : SimM K (upd H p (.lst xs)) (up M p (.lst ds)) :=
  h.put (Tx.lst e) ⟨xs, upd_same, r.mono (Tx.lst e)⟩
theorem SimM.lst {ds : List Tr} (h : SimM K H M) (e : M a = some (.lst ds)) : ∃ xs, H a = some (.lst xs) ∧ RepL K H ds xs := h a _ e
theorem SimS.mono (h : SimS K H σ' σ) (t : Tx K H H') : SimS K H' σ' σ := ⟨h.len, fun i d e => by
  obtain ⟨v, a, b⟩ := h.at_ i d e
  exact ⟨v, a, b.mono t⟩⟩
theorem SimS.set (h : SimS K H σ' σ) (i : Nat) (r : Rep K H d v) : SimS K H (σ'.set i (some d)) (σ.set i (some v)) := ⟨by rw [List.length_set, List.length_set, h.len], fun j e q => by
  rw [List.getElem?_set] at q ⊢
  by_cases c : i = j
  · rw [if_pos c] at q ⊢
    rw [← h.len]
    split at q
    · rename_i c2
      rw [if_pos c2]
      cases q
      exact ⟨v, rfl, r⟩
    · cases q
  · rw [if_neg c] at q ⊢
    exact h.at_ j e q⟩
theorem SimS.none (h : SimS K H σ' σ) (i : Nat) : SimS K H (σ'.set i none) (σ.set i none) := ⟨by rw [List.length_set, List.length_set, h.len], fun j e q => by
  rw [List.getElem?_set] at q ⊢
  by_cases c : i = j
  · rw [if_pos c] at q
    split at q <;> cases q
  · rw [if_neg c] at q ⊢
    exact h.at_ j e q⟩
theorem SimS.none' (h : SimS K H σ' σ) (i : Nat) (o : Option V) : SimS K H (σ'.set i Option.none) (σ.set i o) := ⟨by rw [List.length_set, List.length_set, h.len], fun j e q => by
  rw [List.getElem?_set] at q ⊢
  by_cases c : i = j
  · rw [if_pos c] at q
    split at q <;> cases q
  · rw [if_neg c] at q ⊢
    exact h.at_ j e q⟩
end
def start2 (N : List Str) (ds : List Tr) : St2 := ds.map some ++ List.replicate (N.length - ds.length) none
theorem SimS.start {K : PySem.W.Frag} {H : Hp} {N : List Str} {ds : List Tr} {vs : List V} (r : RepL K H ds vs) : SimS K H (start2 N ds) (L2.start N vs) := by
  refine ⟨by unfold start2 L2.start; simp [r.len], fun i d e => ?_⟩
  unfold start2 at e
  unfold L2.start
  by_cases c : i < ds.length
  · rw [List.getElem?_append_left (by simpa using c), List.getElem?_map] at e
    cases q : ds[i]? with
    | none => rw [q] at e; cases e
    | some d' =>
      rw [q] at e
      cases e
      obtain ⟨x, a, b⟩ := r.get q
      refine ⟨x, ?_, b⟩
      rw [List.getElem?_append_left (by rw [List.length_map, ← r.len]; exact c), List.getElem?_map, a]
      rfl
  · rw [List.getElem?_append_right (by simpa using c), List.getElem?_replicate] at e
    split at e <;> cases e
end T

/-! T, second part: readings over trees; expressions. -/
namespace T
open PySem PySem.Spec L2

abbrev Q2 := Tr → Ms → Prop
abbrev X2 := Value → Option Addr → Ms → Prop
abbrev TE2 := St2 → Ms → Q2 → X2 → Prop
abbrev TT2 := St2 → Ms → (Bool → Ms → Prop) → X2 → Prop
abbrev TA2 := St2 → Ms → (List Tr → Ms → Prop) → X2 → Prop
/-- no exception is wished for -/
abbrev X0 : X2 := fun _ _ _ => False

section lifts
variable (K : PySem.W.Frag)
def LkQ (H : Hp) (Q' : Q2) (Q : VK) : Prop := ∀ d M v H', Tx K H H' → Rep K H' d v → SimM K H' M → Q' d M → Q v H'
def LkB (H : Hp) (Q' : Bool → Ms → Prop) (Q : Bool → Hp → Prop) : Prop := ∀ b M H', Tx K H H' → SimM K H' M → Q' b M → Q b H'
def LkA (H : Hp) (Q' : List Tr → Ms → Prop) (Q : List V → Hp → Prop) : Prop := ∀ ds M vs H', Tx K H H' → RepL K H' ds vs → SimM K H' M → Q' ds M → Q vs H'
def LkX (H : Hp) (E' : X2) (W : L2.WX) (σ : L2.St) : Prop := ∀ c dd M H', Tx K H H' → SimM K H' M → E' c dd M → W c dd σ H'
def lfE (W : L2.WX) (t : TE2) : TE := fun σ H Q => ∃ σ' M Q' E', SimS K H σ' σ ∧ SimM K H M ∧ t σ' M Q' E' ∧ LkQ K H Q' Q ∧ LkX K H E' W σ
def lfT (W : L2.WX) (t : TT2) : TT := fun σ H Q => ∃ σ' M Q' E', SimS K H σ' σ ∧ SimM K H M ∧ t σ' M Q' E' ∧ LkB K H Q' Q ∧ LkX K H E' W σ
def lfA (W : L2.WX) (t : TA2) : TA := fun σ H Q => ∃ σ' M Q' E', SimS K H σ' σ ∧ SimM K H M ∧ t σ' M Q' E' ∧ LkA K H Q' Q ∧ LkX K H E' W σ
end lifts
section
variable {K : PySem.W.Frag} {H H1 : Hp} {E' : X2} {W : L2.WX} {σ : L2.St} {Q' : Q2} {Q : VK} {QB' : Bool → Ms → Prop} {QB : Bool → Hp → Prop}
theorem LkX.mono (h : LkX K H E' W σ) (t : Tx K H H1) : LkX K H1 E' W σ := fun c dd M H' t' s q => h c dd M H' (t.trans t') s q
theorem LkQ.mono (h : LkQ K H Q' Q) (t : Tx K H H1) : LkQ K H1 Q' Q := fun d M v H' t' r s q => h d M v H' (t.trans t') r s q
theorem LkB.mono (h : LkB K H QB' QB) (t : Tx K H H1) : LkB K H1 QB' QB := fun d M H' t' s q => h d M H' (t.trans t') s q
end

theorem pe_weak {X : Cx} {e : Expr} {t t' : TE} (h : PE X e t) (w : ∀ σ H Q, t' σ H Q → t σ H Q) : PE X e t' := ⟨fun pins s σ H Q I q => h.run pins s σ H Q I (w σ H Q q)⟩
theorem pt_weak {X : Cx} {e : Expr} {t t' : TT} (h : PT X e t) (w : ∀ σ H Q, t' σ H Q → t σ H Q) : PT X e t' := ⟨fun pins s σ H Q I q => h.run pins s σ H Q I (w σ H Q q)⟩
theorem pw_weak {X : Cx} {e : Expr} {t t' : TT} (h : PW X e t) (w : ∀ σ H Q, t' σ H Q → t σ H Q) : PW X e t' := ⟨fun wh pins s σ H Q I q => h.run wh pins s σ H Q I (w σ H Q q)⟩
theorem pa_weak {X : Cx} {es : List Expr} {t t' : TA} (h : PA X es t) (w : ∀ σ H Q, t' σ H Q → t σ H Q) : PA X es t' := ⟨fun pos pins s σ H Q I q => h.run pos pins s σ H Q I (w σ H Q q)⟩

abbrev QE (X : Cx) (W : L2.WX) (e : Expr) (t : TE2) : Prop := PE X e (lfE X.K W t)
abbrev QT (X : Cx) (W : L2.WX) (e : Expr) (t : TT2) : Prop := PT X e (lfT X.K W t)
abbrev QW (X : Cx) (W : L2.WX) (e : Expr) (t : TT2) : Prop := PW X e (lfT X.K W t)
abbrev QA (X : Cx) (W : L2.WX) (es : List Expr) (t : TA2) : Prop := PA X es (lfA X.K W t)

/-! ### names, constants -/
def eVar (i : Nat) : TE2 := fun σ M Q _ => ∃ d, σ[i]? = some (some d) ∧ Q d M
def eC (d : Tr) : TE2 := fun _ M Q _ => Q d M
section
variable {X : Cx} {W : L2.WX} {pos : Pos}
theorem qv (i : Nat) {x : Str} (hN : X.N[i]? = some x := by rfl) (hv : Vis X.env.scope x := by first | exact Or.inl rfl | exact Or.inr (Or.inl rfl) | exact Or.inr (Or.inr rfl)) (hd : (x == ("__debug__" : Str)) = false := by decide)
    (hcd : (x == ("__classdict__" : Str)) = false := by decide) : QE X W (.Name x pos) (eVar i) :=
  pe_weak (pe_var hN hv hd hcd) fun σ H Q ⟨σ', M, Q', E', hs, hm, ⟨d, e, q⟩, hq, _⟩ => by
    obtain ⟨v, a, b⟩ := hs.at_ i d e
    exact ⟨v, a, hq d M v H Tx.refl b hm q⟩
theorem qc {e : Expr} {v : V} {d : Tr} (h : PE X e (tC v)) (r : ∀ H, Rep X.K H d v) : QE X W e (eC d) :=
  pe_weak h fun σ H Q ⟨σ', M, Q', E', hs, hm, q, hq, _⟩ => hq d M v H Tx.refl (r H) hm q
theorem qe_int {i j pos} : QE X W (.Constant (.int i) j pos) (eC (.int i)) := qc pe_int fun _ => rfl
theorem qe_bl {b j pos} : QE X W (.Constant (.bool b) j pos) (eC (.bl b)) := qc pe_bl fun _ => rfl
theorem qe_non {j pos} : QE X W (.Constant .none j pos) (eC .non) := qc pe_non fun _ => rfl
theorem qe_str {x j pos} : QE X W (.Constant (.str x) j pos) (eC (.str x)) := qc pe_str fun _ => rfl
/-- a constant of the module -/
theorem qe_glob {x : Str} {u : Value} (v : V) (d : Tr) (hm : X.mg x = some u) (r : RelV v u) (rd : ∀ H, Rep X.K H d v) (hg : Gl X x := by rfl) (hd : (x == ("__debug__" : Str)) = false := by decide) : QE X W (.Name x pos) (eC d) :=
  qc (pe_glob hg hm r hd) rd
theorem qe_bltn {x : Str} {u : Value} (v : V) (d : Tr) (hm : X.mg x = none) (hv : bootBuiltins x = some u) (r : RelV v u) (rd : ∀ H, Rep X.K H d v) (hg : Gl X x := by rfl) (hn : x ≠ "__name__" := by decide) (hd : (x == ("__debug__" : Str)) = false := by decide) :
    QE X W (.Name x pos) (eC d) := qc (pe_bltn hg hm hv r hn hd) rd

/-! ### operators -/
abbrev R22 := Tr → Tr → Ms → Q2 → Prop
def lfR (K : PySem.W.Frag) (r : R22) : R2 := fun x y H Q => ∃ d e M Q', Rep K H d x ∧ Rep K H e y ∧ SimM K H M ∧ r d e M Q' ∧ LkQ K H Q' Q
def eOp (r : R22) (ta tb : TE2) : TE2 := fun σ M Q E => ta σ M (fun d M1 => tb σ M1 (fun e M2 => r d e M2 Q) E) E
variable {a b c e : Expr} {es : List Expr} {ta tb tc : TE2} {t : TA2}
theorem op_low {K : PySem.W.Frag} {r : R22} {σ : L2.St} {H : Hp} {Q : VK} (h : lfE K W (eOp r ta tb) σ H Q) : tOp (lfR K r) (lfE K W ta) (lfE K W tb) σ H Q := by
  obtain ⟨σ', M, Q', E', hs, hm, q, hq, hx⟩ := h
  exact ⟨σ', M, _, E', hs, hm, q, fun d M1 x H1 t1 r1 s1 q1 => ⟨σ', M1, _, E', hs.mono t1, s1, q1, fun e M2 y H2 t2 r2 s2 q2 =>
    ⟨d, e, M2, Q', r1.mono t2, r2, s2, q2, hq.mono (t1.trans t2)⟩, hx.mono t1⟩, hx⟩
theorem qe_op {op : Operator} {r : R22} (ho : OpR X (binaryOp op) (lfR X.K r)) (ha : QE X W a ta) (hb : QE X W b tb) : QE X W (.BinOp a op b pos) (eOp r ta tb) :=
  pe_weak (pe_op ho ha hb) fun _ _ _ h => op_low h
theorem qe_cmp {op : CmpOp} {r : R22} (ho : OpR X (compareOp op) (lfR X.K r)) (ha : QE X W a ta) (hb : QE X W b tb) (hm : behindInMarks op b = false := by first | exact nomark _ | rfl) : QE X W (.Compare a [op] [b] pos) (eOp r ta tb) :=
  pe_weak (pe_cmpR ho ha hb hm) fun _ _ _ h => op_low h
/-- a test that a comparison is -/
def tCm (t : TE2) : TT2 := fun σ M Q E => t σ M (fun d M1 => ∃ b, d = .bl b ∧ Q b M1) E
theorem cm_link {K : PySem.W.Frag} {H : Hp} {Q' : Bool → Ms → Prop} {Q : Bool → Hp → Prop} (h : LkB K H Q' Q) : LkQ K H (fun d M1 => ∃ b, d = .bl b ∧ Q' b M1) (fun x H1 => ∃ k, x = .bl k ∧ Q k H1) :=
  fun d M v H' t r s ⟨b, e, q⟩ => by
    subst e
    exact ⟨b, r, h b M H' t s q⟩
theorem qt_cmp {op : CmpOp} {r : R22} (ho : OpR X (compareOp op) (lfR X.K r)) (ha : QE X W a ta) (hb : QE X W b tb) (hm : behindInMarks op b = false := by first | exact nomark _ | rfl) : QT X W (.Compare a [op] [b] pos) (tCm (eOp r ta tb)) :=
  pt_weak (pt_cmpR ho ha hb hm) fun σ H Q ⟨σ', M, Q', E', hs, hm, q, hq, hx⟩ => op_low ⟨σ', M, _, E', hs, hm, q, cm_link hq, hx⟩
/-- a < b < c -/
def eChain (r r' : R22) (ta tb tc : TE2) : TE2 := fun σ M Q E => ta σ M (fun d M1 => tb σ M1 (fun e M2 => r d e M2 fun z M3 => ∃ k, z = .bl k ∧ (if k = true then tc σ M3 (fun f M4 => r' e f M4 Q) E else Q (.bl false) M3)) E) E
theorem chain_low {K : PySem.W.Frag} {r r' : R22} {σ : L2.St} {H : Hp} {Q : VK} (h : lfE K W (eChain r r' ta tb tc) σ H Q) : tChain (lfR K r) (lfR K r') (lfE K W ta) (lfE K W tb) (lfE K W tc) σ H Q := by
  obtain ⟨σ', M, Q', E', hs, hm, q, hq, hx⟩ := h
  refine ⟨σ', M, _, E', hs, hm, q, fun d M1 x H1 t1 r1 s1 q1 => ⟨σ', M1, _, E', hs.mono t1, s1, q1, fun e M2 y H2 t2 r2 s2 q2 =>
    ⟨d, e, M2, _, r1.mono t2, r2, s2, q2, fun z M3 v H3 t3 r3 s3 ⟨k, ek, q3⟩ => ?_⟩, hx.mono t1⟩, hx⟩
  subst ek
  refine ⟨k, r3, ?_⟩
  cases k with
  | true =>
    have q3' : tc σ' M3 (fun f M4 => r' e f M4 Q') E' := q3
    exact ⟨σ', M3, _, E', hs.mono ((t1.trans t2).trans t3), s3, q3', fun f M4 z H4 t4 r4 s4 q4 => ⟨e, f, M4, Q', (r2.mono t3).mono t4, r4, s4, q4, hq.mono (((t1.trans t2).trans t3).trans t4)⟩, hx.mono ((t1.trans t2).trans t3)⟩
  | false => exact hq (.bl false) M3 (.bl false) H3 ((t1.trans t2).trans t3) rfl s3 q3
theorem qe_chain {op op' : CmpOp} {r r' : R22} (ho : OpR X (compareOp op) (lfR X.K r)) (ho' : OpR X (compareOp op') (lfR X.K r')) (ha : QE X W a ta) (hb : QE X W b tb) (hc : QE X W c tc)
    (h1 : PE X (.Compare a [op, op'] [b, c] pos) (tChain (lfR X.K r) (lfR X.K r') (lfE X.K W ta) (lfE X.K W tb) (lfE X.K W tc)) := by exact pe_chain (by assumption) (by assumption) (by assumption) (by assumption) (by assumption)) :
    QE X W (.Compare a [op, op'] [b, c] pos) (eChain r r' ta tb tc) := pe_weak h1 fun _ _ _ h => chain_low h
theorem qt_chain {op op' : CmpOp} {r r' : R22} (ho : OpR X (compareOp op) (lfR X.K r)) (ho' : OpR X (compareOp op') (lfR X.K r')) (ha : QE X W a ta) (hb : QE X W b tb) (hc : QE X W c tc)
    (h1 : PT X (.Compare a [op, op'] [b, c] pos) (tTest (tChain (lfR X.K r) (lfR X.K r') (lfE X.K W ta) (lfE X.K W tb) (lfE X.K W tc))) := by exact pt_chain (by assumption) (by assumption) (by assumption) (by assumption) (by assumption)) :
    QT X W (.Compare a [op, op'] [b, c] pos) (tCm (eChain r r' ta tb tc)) :=
  pt_weak h1 fun σ H Q ⟨σ', M, Q', E', hs, hm, q, hq, hx⟩ => chain_low ⟨σ', M, _, E', hs, hm, q, cm_link hq, hx⟩
def lfU (K : PySem.W.Frag) (r : Tr → Ms → Q2 → Prop) : V → Hp → VK → Prop := fun x H Q => ∃ d M Q', Rep K H d x ∧ SimM K H M ∧ r d M Q' ∧ LkQ K H Q' Q
def eUn (r : Tr → Ms → Q2 → Prop) (ta : TE2) : TE2 := fun σ M Q E => ta σ M (fun d M1 => r d M1 Q) E
theorem qe_un {op : UnaryOp} {r : Tr → Ms → Q2 → Prop} (ho : UnR X (unaryOp op) (lfU X.K r)) (ha : QE X W a ta) : QE X W (.UnaryOp op a pos) (eUn r ta) :=
  pe_weak (pe_un ho ha) fun σ H Q ⟨σ', M, Q', E', hs, hm, q, hq, hx⟩ => ⟨σ', M, _, E', hs, hm, q, fun d M1 x H1 t1 r1 s1 q1 => ⟨d, M1, Q', r1, s1, q1, hq.mono t1⟩, hx⟩

/-! ### truth, and, or, not, if .. else -/
def truT : Tr → Ms → Option Bool
  | .non, _ => some false
  | .bl b, _ => some b
  | .int i, _ => some (i != 0)
  | .str x, _ => if x.length ≤ sizeLine then some ((x.length : Int) != 0) else none
  | .tup ds, _ => some (!ds.isEmpty)
  | .fro ds, _ => some (!ds.isEmpty)
  | .loc a, M => match M a with
    | some (.lst ds) => some (!ds.isEmpty)
    | some (.dic kvs) => some (!kvs.isEmpty)
    | _ => none
  | .ty _, _ => none
theorem RepL.emp {K : PySem.W.Frag} {H : Hp} {ds : List Tr} {xs : List V} (h : RepL K H ds xs) : (!ds.isEmpty) = !xs.isEmpty := by
  have := h.len
  cases ds <;> cases xs <;> simp at this ⊢
theorem truT_ok {K : PySem.W.Frag} {H : Hp} {M : Ms} {d : Tr} {x : V} {k : Bool} (h : truT d M = some k) (r : Rep K H d x) (s : SimM K H M) : TruV K x H k := by
  cases d with
  | non => cases r; cases h; exact rfl
  | bl b => cases r; cases h; exact rfl
  | int i => cases r; cases h; exact rfl
  | str z =>
    cases r
    have h' : (if z.length ≤ sizeLine then some ((z.length : Int) != 0) else none) = some k := h
    split at h'
    · cases h'; exact ⟨by assumption, rfl⟩
    · cases h'
  | tup ds =>
    obtain ⟨a, xs, rfl, q, rl⟩ := r
    cases h
    exact .inr (.inl ⟨xs, q, rl.emp⟩)
  | fro ds =>
    obtain ⟨a, xs, rfl, q, rl⟩ := r
    cases h
    exact .inl ⟨xs, q.sq, rl.emp⟩
  | loc a =>
    cases r
    have h' : (match M a with | some (.lst ds) => some (!ds.isEmpty) | some (.dic kvs) => some (!kvs.isEmpty) | _ => none) = some k := h
    split at h'
    · rename_i ds e
      cases h'
      obtain ⟨xs, q, rl⟩ := s a _ e
      exact .inl ⟨xs, SqL.of q, rl.emp⟩
    · rename_i kvs e
      cases h'
      obtain ⟨xs, q, _, rl⟩ := s a _ e
      refine .inr (.inr ⟨xs, q, ?_⟩)
      have := rl.emp
      simpa [List.isEmpty_map] using this
    · cases h'
  | ty n => cases h
def tTr (t : TE2) : TT2 := fun σ M Q E => t σ M (fun d M1 => ∃ k, truT d M1 = some k ∧ Q k M1) E
theorem qt_tru (ha : QE X W a ta) (he : ∀ whole, isTrue a X.env whole = (do let v ← whole; standAt a.pos; holding [v] (truthy v)) := by intro _; rfl) : QT X W a (tTr ta) :=
  pt_weak (pt_truth ha he) fun σ H Q ⟨σ', M, Q', E', hs, hm, q, hq, hx⟩ => ⟨σ', M, _, E', hs, hm, q, fun d M1 x H1 t1 r1 s1 ⟨k, e, q1⟩ => ⟨k, truT_ok e r1 s1, hq k M1 H1 t1 s1 q1⟩, hx⟩
def tAn (t u : TT2) : TT2 := fun σ M Q E => t σ M (fun c M1 => if c = true then u σ M1 Q E else Q false M1) E
def tOrr (t u : TT2) : TT2 := fun σ M Q E => t σ M (fun c M1 => if c = true then Q true M1 else u σ M1 Q E) E
def tNo (t : TT2) : TT2 := fun σ M Q E => t σ M (fun c M1 => Q (!c) M1) E
variable {tA tB : TT2} {rest : List Expr}
theorem qw_and1 (ha : QT X W a tA) : QW X W (.BoolOp .And [a] pos) tA := pw_and1 ha
theorem qw_or1 (ha : QT X W a tA) : QW X W (.BoolOp .Or [a] pos) tA := pw_or1 ha
theorem qw_and (ha : QT X W a tA) (hb : QW X W (.BoolOp .And (b :: rest) pos) tB) : QW X W (.BoolOp .And (a :: b :: rest) pos) (tAn tA tB) :=
  pw_weak (pw_and ha hb) fun σ H Q ⟨σ', M, Q', E', hs, hm, q, hq, hx⟩ => ⟨σ', M, _, E', hs, hm, q, fun c M1 H1 t1 s1 q1 => by
    cases c with
    | true => exact ⟨σ', M1, Q', E', hs.mono t1, s1, q1, hq.mono t1, hx.mono t1⟩
    | false => exact hq false M1 H1 t1 s1 q1, hx⟩
theorem qw_or (ha : QT X W a tA) (hb : QW X W (.BoolOp .Or (b :: rest) pos) tB) : QW X W (.BoolOp .Or (a :: b :: rest) pos) (tOrr tA tB) :=
  pw_weak (pw_or ha hb) fun σ H Q ⟨σ', M, Q', E', hs, hm, q, hq, hx⟩ => ⟨σ', M, _, E', hs, hm, q, fun c M1 H1 t1 s1 q1 => by
    cases c with
    | true => exact hq true M1 H1 t1 s1 q1
    | false => exact ⟨σ', M1, Q', E', hs.mono t1, s1, q1, hq.mono t1, hx.mono t1⟩, hx⟩
theorem qt_not (ha : QT X W a tA) : QT X W (.UnaryOp .Not a pos) (tNo tA) :=
  pt_weak (pt_not ha) fun σ H Q ⟨σ', M, Q', E', hs, hm, q, hq, hx⟩ => ⟨σ', M, _, E', hs, hm, q, fun c M1 H1 t1 s1 q1 => hq _ M1 H1 t1 s1 q1, hx⟩
theorem QW.pt (h : QW X W a tA) : QT X W a tA := PW.pt h
/-- as values -/
def eAn (ta tb : TE2) : TE2 := fun σ M Q E => ta σ M (fun d M1 => ∃ k, truT d M1 = some k ∧ if k = true then tb σ M1 Q E else Q d M1) E
def eOrr (ta tb : TE2) : TE2 := fun σ M Q E => ta σ M (fun d M1 => ∃ k, truT d M1 = some k ∧ if k = true then Q d M1 else tb σ M1 Q E) E
def eNo (ta : TE2) : TE2 := fun σ M Q E => ta σ M (fun d M1 => ∃ k, truT d M1 = some k ∧ Q (.bl (!k)) M1) E
theorem qe_one {op} (h : QE X W a ta) : QE X W (.BoolOp op [a] pos) ta := pe_one h
theorem qe_and (ha : QE X W a ta) (hb : QE X W (.BoolOp .And (b :: rest) pos) tb) : QE X W (.BoolOp .And (a :: b :: rest) pos) (eAn ta tb) :=
  pe_weak (pe_andT ha hb) fun σ H Q ⟨σ', M, Q', E', hs, hm, q, hq, hx⟩ => ⟨σ', M, _, E', hs, hm, q, fun d M1 x H1 t1 r1 s1 ⟨k, e, q1⟩ => ⟨k, truT_ok e r1 s1, by
    cases k with
    | true => exact ⟨σ', M1, Q', E', hs.mono t1, s1, q1, hq.mono t1, hx.mono t1⟩
    | false => exact hq d M1 x H1 t1 r1 s1 q1⟩, hx⟩
theorem qe_or (ha : QE X W a ta) (hb : QE X W (.BoolOp .Or (b :: rest) pos) tb) : QE X W (.BoolOp .Or (a :: b :: rest) pos) (eOrr ta tb) :=
  pe_weak (pe_orT ha hb) fun σ H Q ⟨σ', M, Q', E', hs, hm, q, hq, hx⟩ => ⟨σ', M, _, E', hs, hm, q, fun d M1 x H1 t1 r1 s1 ⟨k, e, q1⟩ => ⟨k, truT_ok e r1 s1, by
    cases k with
    | true => exact hq d M1 x H1 t1 r1 s1 q1
    | false => exact ⟨σ', M1, Q', E', hs.mono t1, s1, q1, hq.mono t1, hx.mono t1⟩⟩, hx⟩
theorem qe_not (ha : QE X W a ta) : QE X W (.UnaryOp .Not a pos) (eNo ta) :=
  pe_weak (pe_notT ha) fun σ H Q ⟨σ', M, Q', E', hs, hm, q, hq, hx⟩ => ⟨σ', M, _, E', hs, hm, q, fun d M1 x H1 t1 r1 s1 ⟨k, e, q1⟩ => ⟨k, truT_ok e r1 s1, hq (.bl _) M1 _ H1 t1 rfl s1 q1⟩, hx⟩
def eIf (t : TT2) (ta tb : TE2) : TE2 := fun σ M Q E => t σ M (fun c M1 => if c = true then ta σ M1 Q E else tb σ M1 Q E) E
theorem qe_if (hc : QT X W c tA) (ha : QE X W a ta) (hb : QE X W b tb) : QE X W (.IfExp c a b pos) (eIf tA ta tb) :=
  pe_weak (pe_ifExp hc ha hb) fun σ H Q ⟨σ', M, Q', E', hs, hm, q, hq, hx⟩ => ⟨σ', M, _, E', hs, hm, q, fun c M1 H1 t1 s1 q1 => by
    cases c with
    | true => exact ⟨σ', M1, Q', E', hs.mono t1, s1, q1, hq.mono t1, hx.mono t1⟩
    | false => exact ⟨σ', M1, Q', E', hs.mono t1, s1, q1, hq.mono t1, hx.mono t1⟩, hx⟩

/-! ### argument lists, displays -/
def aNil : TA2 := fun _ M Q _ => Q [] M
def aCons (ta : TE2) (tr : TA2) : TA2 := fun σ M Q E => ta σ M (fun d M1 => tr σ M1 (fun ds M2 => Q (d :: ds) M2) E) E
theorem qa_nil : QA X W [] aNil := pa_weak pa_nil fun σ H Q ⟨σ', M, Q', E', hs, hm, q, hq, hx⟩ => hq [] M [] H Tx.refl RepL.nil hm q
theorem qa_cons (ha : QE X W e ta) (hr : QA X W es t) (hs : starEach (e :: es) X.env = (false, eval e X.env) :: starEach es X.env := by rfl) : QA X W (e :: es) (aCons ta t) :=
  pa_weak (pa_cons ha hr hs) fun σ H Q ⟨σ', M, Q', E', hs, hm, q, hq, hx⟩ => ⟨σ', M, _, E', hs, hm, q, fun d M1 x H1 t1 r1 s1 q1 => ⟨σ', M1, _, E', hs.mono t1, s1, q1, fun ds M2 xs H2 t2 r2 s2 q2 =>
    hq (d :: ds) M2 (x :: xs) H2 (t1.trans t2) (.cons (r1.mono t2) r2) s2 q2, hx.mono t1⟩, hx⟩
def eTup (t : TA2) : TE2 := fun σ M Q E => t σ M (fun ds M1 => ds.length ≤ sizeLine ∧ Q (.tup ds) M1) E
def eLst (t : TA2) : TE2 := fun σ M Q E => t σ M (fun ds M1 => ds.length ≤ sizeLine ∧ ∀ p, M1 p = none → Q (.loc p) (up M1 p (.lst ds))) E
/-- a new tuple -/
theorem new_tup {K : PySem.W.Frag} {H : Hp} {M : Ms} {Q' : Q2} {Q : VK} {ds : List Tr} {xs : List V} {p : Addr} (hq : LkQ K H Q' Q) (r : RepL K H ds xs) (s : SimM K H M) (hp : H p = none) (q : Q' (.tup ds) M) : Q (.ref p) (upd H p (.tup xs)) :=
  hq (.tup ds) M (.ref p) _ (Tx.new hp) ⟨p, xs, rfl, SqT.of upd_same, r.mono (Tx.new hp)⟩ (s.hid hp) q
theorem new_lst {K : PySem.W.Frag} {H : Hp} {M : Ms} {Q' : Q2} {Q : VK} {ds : List Tr} {xs : List V} {p : Addr} (hq : LkQ K H Q' Q) (r : RepL K H ds xs) (s : SimM K H M) (hp : H p = none) (q : ∀ p, M p = none → Q' (.loc p) (up M p (.lst ds))) : Q (.ref p) (upd H p (.lst xs)) :=
  hq (.loc p) _ (.ref p) _ (Tx.new hp) rfl (s.newL hp r) (q p (s.free hp))
theorem qe_tup {x1} (h : QA X W es t) : QE X W (.Tuple es x1 pos) (eTup t) :=
  pe_weak (pe_tup h) fun σ H Q ⟨σ', M, Q', E', hs, hm, q, hq, hx⟩ => ⟨σ', M, _, E', hs, hm, q, fun ds M1 xs H1 t1 r1 s1 ⟨z, q1⟩ => ⟨by rw [← r1.len]; exact z, fun p hp => new_tup (hq.mono t1) r1 s1 hp q1⟩, hx⟩
theorem qe_lst (h : QA X W es t) : QE X W (.List es pos) (eLst t) :=
  pe_weak (pe_lst h) fun σ H Q ⟨σ', M, Q', E', hs, hm, q, hq, hx⟩ => ⟨σ', M, _, E', hs, hm, q, fun ds M1 xs H1 t1 r1 s1 ⟨z, q1⟩ => ⟨by rw [← r1.len]; exact z, fun p hp => new_lst (hq.mono t1) r1 s1 hp q1⟩, hx⟩

/-! ### subscripts, slices -/
def seqT : Tr → Ms → Option (List Tr)
  | .tup ds, _ => some ds
  | .fro ds, _ => some ds
  | .loc a, M => match M a with
    | some (.lst ds) => some ds
    | _ => none
  | _, _ => none
theorem seqT_loc {M : Ms} {a : Addr} {ds : List Tr} (h : seqT (.loc a) M = some ds) : M a = some (.lst ds) := by
  have h' : (match M a with | some (.lst ds) => some ds | _ => none) = some ds := h
  split at h'
  · rename_i es e
    cases h'
    exact e
  · cases h'
theorem seqT_ok {K : PySem.W.Frag} {H : Hp} {M : Ms} {d : Tr} {x : V} {ds : List Tr} (h : seqT d M = some ds) (r : Rep K H d x) (s : SimM K H M) : ∃ a xs, x = .ref a ∧ (SqL K H a xs ∨ SqT K H a xs) ∧ RepL K H ds xs := by
  cases d with
  | tup es =>
    obtain ⟨a, xs, rfl, q, rl⟩ := r
    cases h
    exact ⟨a, xs, rfl, .inr q, rl⟩
  | fro es =>
    obtain ⟨a, xs, rfl, q, rl⟩ := r
    cases h
    exact ⟨a, xs, rfl, .inl q.sq, rl⟩
  | loc a =>
    cases r
    obtain ⟨xs, q, rl⟩ := s a _ (seqT_loc h)
    exact ⟨a, xs, rfl, .inl (SqL.of q), rl⟩
  | _ => cases h
theorem atI_rep {K : PySem.W.Frag} {H : Hp} {ds : List Tr} {xs : List V} {i : Int} {d : Tr} (r : RepL K H ds xs) (h : atI ds i = some d) : ∃ x, atI xs i = some x ∧ Rep K H d x := by
  unfold atI at h ⊢
  rw [← r.len]
  cases q : ixN ds.length i with
  | none => rw [q] at h; cases h
  | some j =>
    rw [q] at h
    exact r.get h
/-- x[i] -/
def rIx2 : R22 := fun d e M Q => match d, e with
  | .str z, .int i => z.length ≤ sizeLine ∧ ∃ c, atI z.cps.toList i = some c ∧ Q (.str ⟨#[c]⟩) M
  | d, .int i => ∃ ds f, seqT d M = some ds ∧ atI ds i = some f ∧ Q f M
  | _, _ => False
theorem ix2 : IxR X (lfR X.K rIx2) := by
  intro value slice pins s σ H x y v u Q I rx ry h hsub
  obtain ⟨d, e, M, Q', rd, re, sm, h, hq⟩ := h
  cases e with
  | int i =>
    cases re
    have go : (∃ ds f, seqT d M = some ds ∧ atI ds i = some f ∧ Q' f M) → rIx X.K x (.int i) H Q := fun ⟨ds, f, e1, e2, q⟩ => by
      obtain ⟨a, xs, rfl, sq, rl⟩ := seqT_ok e1 rd sm
      obtain ⟨z, e3, rz⟩ := atI_rep rl e2
      rcases sq with sq | sq
      · exact .inl ⟨a, xs, i, z, rfl, rfl, sq, e3, hq f M z H Tx.refl rz sm q⟩
      · exact .inr (.inl ⟨a, xs, i, z, rfl, rfl, sq, e3, hq f M z H Tx.refl rz sm q⟩)
    refine ix_seq value slice pins s σ H x _ v u Q I rx ry ?_ hsub
    cases d with
    | str z =>
      cases rd
      obtain ⟨hz, c, e1, q⟩ := h
      exact .inr (.inr ⟨z, i, c, rfl, rfl, hz, e1, hq (.str _) M _ H Tx.refl rfl sm q⟩)
    | _ => exact go h
  | _ => cases d <;> exact h.elim
theorem qe_ix (ha : QE X W a ta) (hb : QE X W b tb) (hs : PlainIx b := by exact fun _ _ => rfl) : QE X W (.Subscript a b pos) (eOp rIx2 ta tb) :=
  pe_weak (pe_ix ix2 ha hb hs) fun _ _ _ h => op_low h
/-! slices -/
abbrev TO2 := St2 → Ms → (Option Int → Ms → Prop) → X2 → Prop
def LkO (K : PySem.W.Frag) (H : Hp) (Q' : Option Int → Ms → Prop) (Q : Option Int → Hp → Prop) : Prop := ∀ b M H', Tx K H H' → SimM K H' M → Q' b M → Q b H'
def lfO (K : PySem.W.Frag) (W : L2.WX) (t : TO2) : TO := fun σ H Q => ∃ σ' M Q' E', SimS K H σ' σ ∧ SimM K H M ∧ t σ' M Q' E' ∧ LkO K H Q' Q ∧ LkX K H E' W σ
abbrev QO (X : Cx) (W : L2.WX) (e : Option Expr) (t : TO2) : Prop := PO X e (lfO X.K W t)
def oNo : TO2 := fun _ M Q _ => Q none M
def oPart (t : TE2) : TO2 := fun σ M Q E => t σ M (fun d M1 => ∃ i, d = .int i ∧ Q (some i) M1) E
theorem po_weak {e : Option Expr} {t t' : TO} (h : PO X e t) (w : ∀ σ H Q, t' σ H Q → t σ H Q) : PO X e t' := ⟨fun s pins σ H Q I q => h.run s pins σ H Q I (w σ H Q q)⟩
theorem qo_none : QO X W none oNo := po_weak po_none fun σ H Q ⟨σ', M, Q', E', hs, hm, q, hq, hx⟩ => hq none M H Tx.refl hm q
theorem qo_some (h : QE X W e ta) : QO X W (some e) (oPart ta) := po_weak (po_some h) fun σ H Q ⟨σ', M, Q', E', hs, hm, q, hq, hx⟩ =>
  ⟨σ', M, _, E', hs, hm, q, fun d M1 x H1 t1 r1 s1 ⟨i, e, q1⟩ => by subst e; exact ⟨i, r1, hq (some i) M1 H1 t1 s1 q1⟩, hx⟩
def cutT (ds : List Tr) (lo hi : Option Int) : List Tr := (ds.drop (HT.sIx ds.length 0 lo)).take (HT.sIx ds.length ds.length hi - HT.sIx ds.length 0 lo)
def rSl2 : Tr → Option Int → Option Int → Ms → Q2 → Prop := fun d lo hi M Q => match d with
  | .tup ds => Q (.tup (cutT ds lo hi)) M
  | .str z => z.length ≤ sizeLine ∧ Q (.str (cutS z lo hi)) M
  | d => ∃ ds, seqT d M = some ds ∧ ∀ p, M p = none → Q (.loc p) (up M p (.lst (cutT ds lo hi)))
theorem cut_all {xs : List Tr} {lo hi : Option Int} (h : HT.sIx xs.length 0 lo = 0 ∧ HT.sIx xs.length xs.length hi = xs.length) : cutT xs lo hi = xs := by
  unfold cutT
  rw [h.1, h.2]
  simp
def lfSl (K : PySem.W.Frag) (r : Tr → Option Int → Option Int → Ms → Q2 → Prop) : V → Option Int → Option Int → Hp → VK → Prop := fun x lo hi H Q => ∃ d M Q', Rep K H d x ∧ SimM K H M ∧ r d lo hi M Q' ∧ LkQ K H Q' Q
theorem sl2 : SlR X (lfSl X.K rSl2) := by
  intro pins s σ H x v vl vu lo hi sl Q I rx hs pl pu h
  obtain ⟨d, M, Q', rd, sm, h, hq⟩ := h
  have golist : (∃ ds, seqT d M = some ds ∧ ∀ p, M p = none → Q' (.loc p) (up M p (.lst (cutT ds lo hi)))) → (∀ es, d ≠ .tup es) → ∃ a xs, x = .ref a ∧ SqL X.K H a xs ∧ ∀ p, H p = none → Q (.ref p) (upd H p (.lst (cutV xs lo hi))) := fun ⟨ds, e1, q⟩ nt => by
    have go2 : ∀ a xs, x = .ref a → SqL X.K H a xs → RepL X.K H ds xs → ∃ a xs, x = .ref a ∧ SqL X.K H a xs ∧ ∀ p, H p = none → Q (.ref p) (upd H p (.lst (cutV xs lo hi))) := fun a xs ex sq rl => ⟨a, xs, ex, sq, fun p hp => new_lst hq (rl.cut lo hi) sm hp q⟩
    cases d with
    | tup es => exact absurd rfl (nt es)
    | fro es =>
      obtain ⟨a, xs, ex, q, rl⟩ := rd
      cases e1
      exact go2 a xs ex q.sq rl
    | loc a =>
      cases rd
      obtain ⟨xs, q, rl⟩ := sm a _ (seqT_loc e1)
      exact go2 a xs rfl (SqL.of q) rl
    | _ => cases e1
  cases d with
  | tup ds =>
    obtain ⟨a, xs, rfl, q, rl⟩ := rd
    refine sl_tupA pins s σ H _ v vl vu lo hi sl Q I rx hs pl pu ⟨a, xs, rfl, q, fun c => ?_, fun _ p hp => new_tup hq (rl.cut lo hi) sm hp h⟩
    refine hq (.tup (cutT ds lo hi)) M (.ref a) H Tx.refl ⟨a, xs, rfl, q, ?_⟩ sm h
    rw [cut_all (by rw [rl.len]; exact c)]
    exact rl
  | str z =>
    cases rd
    exact sl_str pins s σ H _ v vl vu lo hi sl Q I rx hs pl pu ⟨z, rfl, h.1, hq (.str _) M _ H Tx.refl rfl sm h.2⟩
  | fro ds => exact sl_list pins s σ H _ v vl vu lo hi sl Q I rx hs pl pu (golist h fun _ e => nomatch e)
  | loc a => exact sl_list pins s σ H _ v vl vu lo hi sl Q I rx hs pl pu (golist h fun _ e => nomatch e)
  | _ => obtain ⟨_, e, _⟩ := h; cases e
def eSl (r : Tr → Option Int → Option Int → Ms → Q2 → Prop) (ta : TE2) (tl th : TO2) : TE2 := fun σ M Q E => ta σ M (fun d M1 => tl σ M1 (fun lo M2 => th σ M2 (fun hi M3 => r d lo hi M3 Q) E) E) E
theorem qe_slice {lo hi : Option Expr} {tl th : TO2} {p2 : Pos} (he : QE X W e ta) (hl : QO X W lo tl) (hu : QO X W hi th) : QE X W (.Subscript e (.Slice lo hi none p2) pos) (eSl rSl2 ta tl th) :=
  pe_weak (pe_slice sl2 he hl hu) fun σ H Q ⟨σ', M, Q', E', hs, hm, q, hq, hx⟩ => ⟨σ', M, _, E', hs, hm, q, fun d M1 x H1 t1 r1 s1 q1 => ⟨σ', M1, _, E', hs.mono t1, s1, q1, fun l M2 H2 t2 s2 q2 =>
    ⟨σ', M2, _, E', hs.mono (t1.trans t2), s2, q2, fun u M3 H3 t3 s3 q3 => ⟨d, M3, Q', (r1.mono t2).mono t3, s3, q3, hq.mono ((t1.trans t2).trans t3)⟩, hx.mono (t1.trans t2)⟩, hx.mono t1⟩, hx⟩

/-! ### built-ins by name, methods of built-in types -/
abbrev RC2 := List Tr → Ms → Q2 → Prop
def lfC (K : PySem.W.Frag) (r : RC2) : List V → Hp → VK → Prop := fun xs H Q => ∃ ds M Q', RepL K H ds xs ∧ SimM K H M ∧ r ds M Q' ∧ LkQ K H Q' Q
def eB (r : RC2) (t : TA2) : TE2 := fun σ M Q E => t σ M (fun ds M1 => r ds M1 Q) E
variable {x : Str} {p : Pos} {id Ty : String} {r : RC2}
theorem b_low {K : PySem.W.Frag} {σ : L2.St} {H : Hp} {Q : VK} (h : lfE K W (eB r t) σ H Q) : tCB (lfC K r) (lfA K W t) σ H Q := by
  obtain ⟨σ', M, Q', E', hs, hm, q, hq, hx⟩ := h
  exact ⟨σ', M, _, E', hs, hm, q, fun ds M1 xs H1 t1 r1 s1 q1 => ⟨ds, M1, Q', r1, s1, q1, hq.mono t1⟩, hx⟩
theorem qe_callB (hc : CallR X (.builtin id) (lfC X.K r)) (hm : X.mg x = none) (hv : bootBuiltins x = some (.builtin id)) (ha : QA X W (e :: es) t) (hg : Gl X x := by rfl) (hn : x ≠ "__name__" := by decide) (hdb : (x == ("__debug__" : Str)) = false := by decide)
    (he : starEach (e :: es) X.env = (false, eval e X.env) :: starEach es X.env := by rfl) (hpl : (backTo pos (starEach es X.env)).any (·.1) = false := by rfl) : QE X W (.Call (.Name x p) (e :: es) [] pos) (eB r t) :=
  pe_weak (pe_callB hc hg hm hv ha hn hdb he hpl) fun _ _ _ h => b_low h
theorem qe_callTy (hc : CallR X (.type Ty) (lfC X.K r)) (hm : X.mg x = none) (hv : bootBuiltins x = some (.type Ty)) (ha : QA X W (e :: es) t) (hg : Gl X x := by rfl) (hn : x ≠ "__name__" := by decide) (hdb : (x == ("__debug__" : Str)) = false := by decide)
    (he : starEach (e :: es) X.env = (false, eval e X.env) :: starEach es X.env := by rfl) (hpl : (backTo pos (starEach es X.env)).any (·.1) = false := by rfl) : QE X W (.Call (.Name x p) (e :: es) [] pos) (eB r t) :=
  pe_weak (pe_callTy hc hg hm hv ha hn hdb he hpl) fun _ _ _ h => b_low h
/-- the type of a value, by its name -/
def isT (Ty : String) (d : Tr) (M : Ms) : Prop := match d with
  | .str _ => Ty = "str"
  | .int _ => Ty = "int"
  | .fro _ => Ty = "list"
  | .loc a => (Ty = "list" ∧ ∃ ds, M a = some (.lst ds)) ∨ (Ty = "dict" ∧ ∃ kvs, M a = some (.dic kvs))
  | _ => False
theorem isT_ok {K : PySem.W.Frag} {H : Hp} {M : Ms} {d : Tr} {x : V} (h : isT Ty d M) (r : Rep K H d x) (s : SimM K H M) : tyV K Ty x H := by
  cases d with
  | str z => cases r; exact h
  | int z => cases r; exact h
  | fro ds =>
    obtain ⟨a, xs, rfl, q, rl⟩ := r
    exact .inl ⟨h, xs, q.sq⟩
  | loc a =>
    cases r
    rcases h with ⟨e, ds, h⟩ | ⟨e, ds, h⟩
    · obtain ⟨xs, q, _⟩ := s a _ h
      exact .inl ⟨e, xs, SqL.of q⟩
    · obtain ⟨xs, q, _⟩ := s a _ h
      exact .inr (.inr (.inl ⟨e, .inl ⟨xs, q⟩⟩))
  | _ => exact h.elim
abbrev RM2 := Tr → List Tr → Ms → Q2 → Prop
def lfM (K : PySem.W.Frag) (r : RM2) : V → List V → Hp → VK → Prop := fun x xs H Q => ∃ d ds M Q', Rep K H d x ∧ RepL K H ds xs ∧ SimM K H M ∧ r d ds M Q' ∧ LkQ K H Q' Q
def eM0 (Ty : String) (r : RM2) (to : TE2) : TE2 := fun σ M Q E => to σ M (fun d M1 => isT Ty d M1 ∧ r d [] M1 Q) E
def eM (Ty : String) (r : RM2) (to : TE2) (t : TA2) : TE2 := fun σ M Q E => to σ M (fun d M1 => isT Ty d M1 ∧ t σ M1 (fun ds M2 => r d ds M2 Q) E) E
variable {o : Expr} {to : TE2} {name : Str} {rm : RM2}
theorem m0_low {K : PySem.W.Frag} {σ : L2.St} {H : Hp} {Q : VK} (h : lfE K W (eM0 Ty rm to) σ H Q) : tBM0 K Ty (lfM K rm) (lfE K W to) σ H Q := by
  obtain ⟨σ', M, Q', E', hs, hm, q, hq, hx⟩ := h
  exact ⟨σ', M, _, E', hs, hm, q, fun d M1 x H1 t1 r1 s1 ⟨ty, q1⟩ => ⟨isT_ok ty r1 s1, d, [], M1, Q', r1, RepL.nil, s1, q1, hq.mono t1⟩, hx⟩
theorem m_low {K : PySem.W.Frag} {σ : L2.St} {H : Hp} {Q : VK} (h : lfE K W (eM Ty rm to t) σ H Q) : tBM K Ty (lfM K rm) (lfE K W to) (lfA K W t) σ H Q := by
  obtain ⟨σ', M, Q', E', hs, hm, q, hq, hx⟩ := h
  exact ⟨σ', M, _, E', hs, hm, q, fun d M1 x H1 t1 r1 s1 ⟨ty, q1⟩ => ⟨isT_ok ty r1 s1, σ', M1, _, E', hs.mono t1, s1, q1, fun ds M2 xs H2 t2 r2 s2 q2 =>
    ⟨d, ds, M2, Q', r1.mono t2, r2, s2, q2, hq.mono (t1.trans t2)⟩, hx.mono t1⟩, hx⟩
end
end T

/-! T, third part: operators, built-ins, methods over trees. -/
namespace T
open PySem PySem.Spec L2
section
variable {X : Cx}
/-- two ints in, an int or a truth out -/
def rII (C : Int → Int → Prop) (g : Int → Int → Int) : R22 := fun d e M Q => match d, e with
  | .int i, .int j => C i j ∧ Q (.int (g i j)) M
  | _, _ => False
theorem opII {f : Value → Value → Sem Value} {C : Int → Int → Prop} {g : Int → Int → Int} (h : OpR X f (rI C fun i j => .int (g i j))) : OpR X f (lfR X.K (rII C g)) := by
  intro pins s σ H x y v u Q I rx ry ⟨d, e, M, Q', rd, re, sm, q, hq⟩
  cases d with
  | int i =>
    cases e with
    | int j =>
      cases rd; cases re
      exact h pins s σ H _ _ v u Q I rx ry ⟨i, j, rfl, rfl, q.1, hq (.int _) M _ H Tx.refl rfl sm q.2⟩
    | _ => exact q.elim
  | _ => cases e <;> exact q.elim
theorem rI0_rI {f : Value → Value → Sem Value} {g : Int → Int → V} (h : OpR X f (rI0 g)) : OpR X f (rI (fun _ _ => True) g) := fun pins s σ H x y v u Q I rx ry ⟨i, j, a, b, _, q⟩ => h pins s σ H x y v u Q I rx ry ⟨i, j, a, b, q⟩
abbrev rSub2 : R22 := rII (fun _ _ => True) (fun i j => i - j)
theorem o_sub : OpR X (binaryOp .Sub) (lfR X.K rSub2) := opII (rI0_rI op_sub)
def CDv (i j : Int) : Prop := 0 < j ∧ j.natAbs.log2 < 9000
abbrev rDiv2 : R22 := rII CDv (fun i j => i / j)
theorem o_fdiv : OpR X (binaryOp .FloorDiv) (lfR X.K rDiv2) := opII op_fdivW
abbrev rMod2 : R22 := rII (fun _ j => 0 < j) (fun i j => i % j)
theorem o_mod : OpR X (binaryOp .Mod) (lfR X.K rMod2) := opII op_mod
abbrev rPow2 : R22 := rII CPow (fun i j => i ^ j.toNat)
theorem o_pow : OpR X (binaryOp .Pow) (lfR X.K rPow2) := opII op_pow
abbrev rShl2 : R22 := rII CShl (fun i j => i * 2 ^ j.toNat)
theorem o_shl : OpR X (binaryOp .LShift) (lfR X.K rShl2) := opII op_shlW
abbrev rShr2 : R22 := rII (fun _ j => 0 ≤ j) (fun i j => i / 2 ^ j.toNat)
theorem o_shr : OpR X (binaryOp .RShift) (lfR X.K rShr2) := opII op_shr
abbrev rAnd2 : R22 := rII (fun _ _ => True) Builtin.bitAnd
theorem o_and : OpR X (binaryOp .BitAnd) (lfR X.K rAnd2) := opII (rI0_rI op_and)
abbrev rOr2 : R22 := rII (fun _ _ => True) Builtin.bitOr
theorem o_or : OpR X (binaryOp .BitOr) (lfR X.K rOr2) := opII (rI0_rI op_or)
abbrev rXor2 : R22 := rII (fun _ _ => True) Builtin.bitXor
theorem o_xor : OpR X (binaryOp .BitXor) (lfR X.K rXor2) := opII (rI0_rI op_xor)
/-- x + y -/
def rAdd2 : R22 := fun d e M Q => match d, e with
  | .int i, .int j => Q (.int (i + j)) M
  | .str a, .str b => a.length + b.length ≤ sizeLine ∧ Q (.str (a ++ b)) M
  | .tup a, .tup b => a.length + b.length ≤ sizeLine ∧ Q (.tup (a ++ b)) M
  | .loc a, .loc b => ∃ la lb, M a = some (.lst la) ∧ M b = some (.lst lb) ∧ la.length + lb.length ≤ sizeLine ∧ ∀ p, M p = none → Q (.loc p) (up M p (.lst (la ++ lb)))
  | _, _ => False
theorem o_add : OpR X (binaryOp .Add) (lfR X.K rAdd2) := by
  intro pins s σ H x y v u Q I rx ry ⟨d, e, M, Q', rd, re, sm, q, hq⟩
  cases d with
  | int i =>
    cases e with
    | int j =>
      cases rd; cases re
      exact op_add pins s σ H _ _ v u Q I rx ry ⟨i, j, rfl, rfl, hq (.int _) M _ H Tx.refl rfl sm q⟩
    | _ => exact q.elim
  | str i =>
    cases e with
    | str j =>
      cases rd; cases re
      exact op_add_str pins s σ H _ _ v u Q I rx ry ⟨i, j, rfl, rfl, q.1, hq (.str _) M _ H Tx.refl rfl sm q.2⟩
    | _ => exact q.elim
  | tup i =>
    cases e with
    | tup j =>
      obtain ⟨a, xs, rfl, ha, ra⟩ := rd
      obtain ⟨b, ys, rfl, hb, rb⟩ := re
      obtain ⟨z, q⟩ := q
      refine op_catA pins s σ H _ _ v u Q I rx ry ⟨a, b, xs, ys, rfl, rfl, ha, hb, by rw [← ra.len, ← rb.len]; exact z, fun e0 => ?_, fun _ e0 => ?_, fun _ _ p hp => new_tup hq (ra.app rb) sm hp q⟩
      · subst e0
        have e1 : i = [] := List.eq_nil_of_length_eq_zero ra.len
        subst e1
        exact hq (.tup j) M _ H Tx.refl ⟨b, ys, rfl, hb, rb⟩ sm q
      · subst e0
        have e1 : j = [] := List.eq_nil_of_length_eq_zero rb.len
        subst e1
        rw [List.append_nil] at q
        exact hq (.tup i) M _ H Tx.refl ⟨a, xs, rfl, ha, ra⟩ sm q
    | _ => exact q.elim
  | loc a =>
    cases e with
    | loc b =>
      cases rd; cases re
      obtain ⟨la, lb, ea, eb, z, q⟩ := q
      obtain ⟨xs, ha, ra⟩ := sm a _ ea
      obtain ⟨ys, hb, rb⟩ := sm b _ eb
      exact op_cat pins s σ H _ _ v u Q I rx ry ⟨a, b, xs, ys, rfl, rfl, ha, hb, by rw [← ra.len, ← rb.len]; exact z, fun p hp => new_lst hq (ra.app rb) sm hp q⟩
    | _ => exact q.elim
  | _ => cases e <;> exact q.elim
/-- x * y -/
def rMul2 : R22 := fun d e M Q => match d, e with
  | .int i, .int j => CMulX i j ∧ Q (.int (i * j)) M
  | .loc a, .int k => ∃ la, M a = some (.lst la) ∧ -(2 ^ 63) ≤ k ∧ k < 2 ^ 63 ∧ la.length * k.toNat ≤ sizeLine ∧ ∀ p, M p = none → Q (.loc p) (up M p (.lst (List.replicate k.toNat la).flatten))
  | _, _ => False
theorem o_mul : OpR X (binaryOp .Mult) (lfR X.K rMul2) := by
  intro pins s σ H x y v u Q I rx ry ⟨d, e, M, Q', rd, re, sm, q, hq⟩
  cases d with
  | int i =>
    cases e with
    | int j =>
      cases rd; cases re
      exact op_mulX pins s σ H _ _ v u Q I rx ry ⟨i, j, rfl, rfl, q.1, hq (.int _) M _ H Tx.refl rfl sm q.2⟩
    | _ => exact q.elim
  | loc a =>
    cases e with
    | int k =>
      cases rd; cases re
      obtain ⟨la, ea, h1, h2, z, q⟩ := q
      obtain ⟨xs, ha, ra⟩ := sm a _ ea
      exact op_rep pins s σ H _ _ v u Q I rx ry ⟨a, k, xs, rfl, rfl, ha, h1, h2, by rw [← ra.len]; exact z, fun p hp => new_lst hq (ra.rep _) sm hp q⟩
    | _ => exact q.elim
  | _ => cases e <;> exact q.elim
/-! comparisons -/
def rCmp2 (p : Int → Int → Bool) (ps : Str → Str → Bool) : R22 := fun d e M Q => match d, e with
  | .int i, .int j => Q (.bl (p i j)) M
  | .str a, .str b => Q (.bl (ps a b)) M
  | _, _ => False
theorem o_cmp {op : CmpOp} {p : Int → Int → Bool} {ps : Str → Str → Bool} (h : OpR X (compareOp op) (rI0 fun i j => .bl (p i j))) (h' : OpR X (compareOp op) (fun x y H Q => ∃ i j, x = .str i ∧ y = .str j ∧ Q (.bl (ps i j)) H)) : OpR X (compareOp op) (lfR X.K (rCmp2 p ps)) := by
  intro pins s σ H x y v u Q I rx ry ⟨d, e, M, Q', rd, re, sm, q, hq⟩
  cases d with
  | int i =>
    cases e with
    | int j =>
      cases rd; cases re
      exact h pins s σ H _ _ v u Q I rx ry ⟨i, j, rfl, rfl, hq (.bl _) M _ H Tx.refl rfl sm q⟩
    | _ => exact q.elim
  | str i =>
    cases e with
    | str j =>
      cases rd; cases re
      exact h' pins s σ H _ _ v u Q I rx ry ⟨i, j, rfl, rfl, hq (.bl _) M _ H Tx.refl rfl sm q⟩
    | _ => exact q.elim
  | _ => cases e <;> exact q.elim
def strLt (a b : Str) : Bool := decide (a.cps.toList < b.cps.toList)
def strLe (a b : Str) : Bool := decide (a.cps.toList ≤ b.cps.toList)
abbrev rLt2 : R22 := rCmp2 (fun i j => decide (i < j)) strLt
theorem o_lt : OpR X (compareOp .Lt) (lfR X.K rLt2) := o_cmp op_lt op_lt_str
abbrev rLe2 : R22 := rCmp2 (fun i j => decide (i ≤ j)) (fun i j => decide (i.cps.toList ≤ j.cps.toList))
abbrev rGt2 : R22 := rCmp2 (fun i j => decide (j < i)) (fun i j => decide (j.cps.toList < i.cps.toList))
abbrev rGe2 : R22 := rCmp2 (fun i j => decide (j ≤ i)) (fun i j => decide (j.cps.toList ≤ i.cps.toList))
end
/-! data -/
mutual
def Dat (M : Ms) : PyData → Tr → Prop
  | .none, d => d = .non
  | .bool b, d => d = .bl b
  | .int i, d => d = .int i
  | .str x, d => d = .str x
  | .list ps, d => ∃ ds, seqT d M = some ds ∧ (∀ es, d ≠ .tup es) ∧ DatL M ps ds
  | .tuple ps, d => ∃ ds, d = .tup ds ∧ DatL M ps ds
  | .dict _, _ => False
def DatL (M : Ms) : List PyData → List Tr → Prop
  | [], ds => ds = []
  | p :: ps, ds => ∃ d r, ds = d :: r ∧ Dat M p d ∧ DatL M ps r
end
mutual
theorem Dat.dp {K : PySem.W.Frag} {H : Hp} {M : Ms} (sm : SimM K H M) : ∀ {p : PyData} {d : Tr} {v : V}, Dat M p d → Rep K H d v → Dp K H v p
  | .none, _, _, h, r => by have e : _ = Tr.non := h; subst e; cases r; exact .non
  | .bool b, _, _, h, r => by have e : _ = Tr.bl b := h; subst e; cases r; exact .bl b
  | .int b, _, _, h, r => by have e : _ = Tr.int b := h; subst e; cases r; exact .int b
  | .str b, _, _, h, r => by have e : _ = Tr.str b := h; subst e; cases r; exact .str b
  | .list ps, d, v, h, r => by
    obtain ⟨ds, e, nt, h⟩ := h
    cases d with
    | tup es => exact absurd rfl (nt es)
    | fro es =>
      obtain ⟨a, xs, rfl, q, rl⟩ := r
      cases e
      exact .lst q.sq (DatL.dp sm h rl)
    | loc a =>
      cases r
      obtain ⟨xs, q, rl⟩ := sm a _ (seqT_loc e)
      exact .lst (SqL.of q) (DatL.dp sm h rl)
    | _ => cases e
  | .tuple ps, _, _, h, r => by
    obtain ⟨ds, e, h⟩ := h
    subst e
    obtain ⟨a, xs, rfl, q, rl⟩ := r
    exact .tup q (DatL.dp sm h rl)
  | .dict _, _, _, h, _ => False.elim h
theorem DatL.dp {K : PySem.W.Frag} {H : Hp} {M : Ms} (sm : SimM K H M) : ∀ {ps : List PyData} {ds : List Tr} {vs : List V}, DatL M ps ds → RepL K H ds vs → DpAll K H vs ps
  | [], _, _, h, r => by
    have e : _ = ([] : List Tr) := h
    subst e
    have e2 : _ = ([] : List V) := r
    subst e2
    exact .nil
  | p :: ps, _, _, h, r => by
    obtain ⟨d, r', e, h1, h2⟩ := h
    subst e
    obtain ⟨x, xs, e, r1, r2⟩ := r
    subst e
    exact .cons (Dat.dp sm h1 r1) (DatL.dp sm h2 r2)
end
mutual
/-- the data that a tree without places is -/
def toP : Tr → PyData
  | .non => .none
  | .bl b => .bool b
  | .int i => .int i
  | .str x => .str x
  | .tup ds => .tuple (toPs ds)
  | .fro ds => .list (toPs ds)
  | .loc _ => .none
  | .ty _ => .none
def toPs : List Tr → List PyData
  | [] => []
  | d :: r => toP d :: toPs r
end
mutual
def pureT : Tr → Bool
  | .tup ds => pureL ds
  | .fro ds => pureL ds
  | .loc _ => false
  | .ty _ => false
  | _ => true
def pureL : List Tr → Bool
  | [] => true
  | d :: r => pureT d && pureL r
end
mutual
theorem dat_pure {M : Ms} : ∀ {d : Tr}, pureT d = true → Dat M (toP d) d
  | .non, _ => rfl
  | .bl _, _ => rfl
  | .int _, _ => rfl
  | .str _, _ => rfl
  | .tup ds, h => ⟨ds, rfl, datL_pure h⟩
  | .fro ds, h => ⟨ds, rfl, (fun _ e => nomatch e), datL_pure h⟩
  | .loc _, h => nomatch h
  | .ty _, h => nomatch h
theorem datL_pure {M : Ms} : ∀ {ds : List Tr}, pureL ds = true → DatL M (toPs ds) ds
  | [], _ => rfl
  | d :: r, h => by
    have h' : (pureT d && pureL r) = true := h
    rw [Bool.and_eq_true] at h'
    exact ⟨d, r, rfl, dat_pure h'.1, datL_pure h'.2⟩
end
section
variable {X : Cx}
/-- x == y -/
def rEqG (f : Bool → Bool) : R22 := fun d e M Q => match d, e with
  | .int i, .int j => Q (.bl (f (decide (i = j)))) M
  | .str i, .str j => Q (.bl (f (decide (i = j)))) M
  | .bl i, .bl j => Q (.bl (f (decide (i = j)))) M
  | .non, .non => Q (.bl (f true)) M
  | .non, .int _ => Q (.bl (f false)) M
  | .int _, .non => Q (.bl (f false)) M
  | .non, .str _ => Q (.bl (f false)) M
  | .str _, .non => Q (.bl (f false)) M
  | .int _, .str _ => Q (.bl (f false)) M
  | .str _, .int _ => Q (.bl (f false)) M
  | d, e => ∃ p q, Dat M p d ∧ Dat M q e ∧ SeqAt.shaped p = true ∧ SeqAt.shaped q = true ∧ Q (.bl (f (PyData.eqv p q))) M
theorem o_eqG {op : CmpOp} {f : Bool → Bool} (h1 : OpR X (compareOp op) (fun x y H Q => scal x y = true ∧ Q (.bl (f (decide (x = y)))) H))
    (h2 : OpR X (compareOp op) (fun x y H Q => ∃ d e, Dp X.K H x d ∧ Dp X.K H y e ∧ SeqAt.shaped d = true ∧ SeqAt.shaped e = true ∧ Q (.bl (f (PyData.eqv d e))) H)) : OpR X (compareOp op) (lfR X.K (rEqG f)) := by
  intro pins s σ H x y v u Q I rx ry ⟨d, e, M, Q', rd, re, sm, q, hq⟩
  have sc : ∀ {k : Bool}, Q' (.bl (f k)) M → scal x y = true → decide (x = y) = k → wpAny (model X.prog X.w) X.A (compareOp op v u) (EP X pins σ Q) X.xe s := fun {k} q0 h0 e0 =>
    h1 pins s σ H x y v u Q I rx ry ⟨h0, by rw [e0]; exact hq (.bl _) M _ H Tx.refl rfl sm q0⟩
  have gen : (∃ p q, Dat M p d ∧ Dat M q e ∧ SeqAt.shaped p = true ∧ SeqAt.shaped q = true ∧ Q' (.bl (f (PyData.eqv p q))) M) → wpAny (model X.prog X.w) X.A (compareOp op v u) (EP X pins σ Q) X.xe s := fun ⟨p, q', hp, hq', s1, s2, q0⟩ =>
    h2 pins s σ H x y v u Q I rx ry ⟨p, q', hp.dp sm rd, hq'.dp sm re, s1, s2, hq (.bl _) M _ H Tx.refl rfl sm q0⟩
  cases d <;> cases e <;> first
    | exact gen q
    | (cases rd; cases re; exact sc q rfl (by simp))
theorem o_eq (hu : X.A.units + 64 < cLine) : OpR X (compareOp .Eq) (lfR X.K (rEqG id)) := o_eqG op_eq (op_eqD hu)
theorem o_ne (hu : X.A.units + 64 < cLine) : OpR X (compareOp .NotEq) (lfR X.K (rEqG not)) := o_eqG op_ne (op_neD hu)
def isNon : Tr → Bool
  | .non => true
  | _ => false
theorem isNon_ok {K : PySem.W.Frag} {H : Hp} {d : Tr} {x : V} (r : Rep K H d x) : decide (x = .non) = isNon d := by
  cases d with
  | tup ds => obtain ⟨a, xs, rfl, _⟩ := r; rfl
  | fro ds => obtain ⟨a, xs, rfl, _⟩ := r; rfl
  | _ => cases r; rfl
/-- x is y, for None and truths -/
def rIsG (f : Bool → Bool) : R22 := fun d e M Q => match e with
  | .non => Q (.bl (f (isNon d))) M
  | .bl b => ∃ a, d = .bl a ∧ Q (.bl (f (decide (a = b)))) M
  | _ => False
theorem o_isG {op : CmpOp} {f : Bool → Bool} (h1 : OpR X (compareOp op) (fun x y H Q => y = .non ∧ Q (.bl (f (decide (x = .non)))) H)) (h2 : OpR X (compareOp op) (fun x y H Q => ∃ a b : Bool, x = .bl a ∧ y = .bl b ∧ Q (.bl (f (decide (a = b)))) H)) : OpR X (compareOp op) (lfR X.K (rIsG f)) := by
  intro pins s σ H x y v u Q I rx ry ⟨d, e, M, Q', rd, re, sm, q, hq⟩
  cases e with
  | non =>
    cases re
    exact h1 pins s σ H _ _ v u Q I rx ry ⟨rfl, by rw [isNon_ok rd]; exact hq (.bl _) M _ H Tx.refl rfl sm q⟩
  | bl b =>
    cases re
    obtain ⟨a, rfl, q⟩ := q
    cases rd
    exact h2 pins s σ H _ _ v u Q I rx ry ⟨a, b, rfl, rfl, hq (.bl _) M _ H Tx.refl rfl sm q⟩
  | _ => exact q.elim
theorem o_is : OpR X (compareOp .Is) (lfR X.K (rIsG id)) := o_isG op_isN op_isBl
theorem o_isnot : OpR X (compareOp .IsNot) (lfR X.K (rIsG not)) := o_isG op_notN op_notBl
/-- the key that a tree is -/
def keyT : Tr → Option Key
  | .int i => some (.inl i)
  | .str x => some (.inr x)
  | _ => none
theorem keyT_ok {K : PySem.W.Frag} {H : Hp} {d : Tr} {k : Key} {x : V} (h : keyT d = some k) (r : Rep K H d x) : x = kV k := by
  cases d with
  | int i => cases r; cases h; rfl
  | str i => cases r; cases h; rfl
  | _ => cases h
def flatT : Tr → Bool
  | .non => true
  | .bl _ => true
  | .int _ => true
  | .str _ => true
  | _ => false
def eqT : Tr → Tr → Bool
  | .non, .non => true
  | .bl a, .bl b => a == b
  | .bl a, .int b => (if a then 1 else 0) == b
  | .int a, .bl b => a == (if b then 1 else 0)
  | .int a, .int b => a == b
  | .str a, .str b => a == b
  | _, _ => false
def inT (d : Tr) (ds : List Tr) : Bool := ds.any fun e => eqT e d
theorem flatT_ok {K : PySem.W.Frag} {H : Hp} {d : Tr} {x : V} (h : flatT d = true) (r : Rep K H d x) : flatV x = true := by
  cases d <;> first | (cases r; rfl) | (simp [flatT] at h; done)
theorem flatL_ok {K : PySem.W.Frag} {H : Hp} : ∀ {ds : List Tr} {xs : List V}, ds.all flatT = true → RepL K H ds xs → xs.all flatV = true
  | [], _, _, r => by
    have e : _ = ([] : List V) := r
    subst e; rfl
  | d :: ds, _, h, r => by
    obtain ⟨x, xs, rfl, r1, r2⟩ := r
    rw [List.all_cons, Bool.and_eq_true] at h ⊢
    exact ⟨flatT_ok h.1 r1, flatL_ok h.2 r2⟩
theorem eqT_ok {K : PySem.W.Frag} {H : Hp} {d e : Tr} {x y : V} (h : flatT d = true) (h' : flatT e = true) (r : Rep K H d x) (r' : Rep K H e y) : eqV x y = eqT d e := by
  cases d <;> first | (cases e <;> first | (cases r; cases r'; rfl) | (simp [flatT] at h'; done)) | (simp [flatT] at h; done)
theorem inT_ok {K : PySem.W.Frag} {H : Hp} {d : Tr} {x : V} (h : flatT d = true) (r : Rep K H d x) : ∀ {ds : List Tr} {xs : List V}, ds.all flatT = true → RepL K H ds xs → inV x xs = inT d ds
  | [], _, _, q => by
    have e : _ = ([] : List V) := q
    subst e; rfl
  | e :: ds, _, hh, q => by
    obtain ⟨y, ys, rfl, r1, r2⟩ := q
    rw [List.all_cons, Bool.and_eq_true] at hh
    have ih := inT_ok h r hh.2 r2
    unfold inV inT at ih ⊢
    rw [List.any_cons, List.any_cons, eqT_ok hh.1 h r1 r, ih]
def valT (kvs : List (Key × Tr)) (k : Key) : Option Tr := (kvs.find? fun kv => decide (kv.1 = k)).map (·.2)
theorem valT_ok {K : PySem.W.Frag} {H : Hp} {k : Key} : ∀ {kvs : List (Key × Tr)} {xs : List (Key × V)}, xs.map (·.1) = kvs.map (·.1) → RepL K H (kvs.map (·.2)) (xs.map (·.2)) →
    (valT kvs k = none → valV xs k = none) ∧ ∀ d, valT kvs k = some d → ∃ v, valV xs k = some v ∧ Rep K H d v
  | [], [], _, _ => ⟨fun _ => rfl, fun _ e => nomatch e⟩
  | [], _ :: _, e, _ => by simp at e
  | _ :: _, [], e, _ => by simp at e
  | (k1, d1) :: kvs, (k2, v2) :: xs, e, r => by
    obtain ⟨x, y, e0, r1, r2⟩ := r
    cases e0
    simp only [List.map_cons, List.cons.injEq] at e
    obtain ⟨e1, e2⟩ := e
    have e1 : k2 = k1 := e1
    subst e1
    have ih := valT_ok (k := k) e2 r2
    by_cases c : k2 = k
    · have a1 : valT ((k2, d1) :: kvs) k = some d1 := by simp [valT, List.find?_cons, c]
      have a2 : valV ((k2, v2) :: xs) k = some v2 := valV_pos (p := (k2, v2)) c
      rw [a1, a2]
      exact ⟨(fun z => nomatch z), fun d z => ⟨v2, rfl, by cases z; exact r1⟩⟩
    · have a1 : valT ((k2, d1) :: kvs) k = valT kvs k := by simp [valT, List.find?_cons, c]
      have a2 : valV ((k2, v2) :: xs) k = valV xs k := valV_neg (p := (k2, v2)) c
      rw [a1, a2]
      exact ih
def strIn (a b : Str) : Bool := !(Builtin.Str.occurrences b a 0 b.length 1).isEmpty
/-- x in y -/
def rInG (f : Bool → Bool) : R22 := fun d e M Q => match d, e with
  | .str a, .str b => Q (.bl (f (strIn a b))) M
  | d, e => (∃ ds, seqT e M = some ds ∧ flatT d = true ∧ ds.all flatT = true ∧ Q (.bl (f (inT d ds))) M) ∨ ∃ a kvs k, e = .loc a ∧ M a = some (.dic kvs) ∧ keyT d = some k ∧ Q (.bl (f (valT kvs k).isSome)) M
theorem o_inG {op : CmpOp} {f : Bool → Bool} (h1 : OpR X (compareOp op) (fun x y H Q => ∃ i j, x = .str i ∧ y = .str j ∧ Q (.bl (f (!(Builtin.Str.occurrences j i 0 j.length 1).isEmpty))) H))
    (h2 : OpR X (compareOp op) (fun x y H Q => ∃ p xs, y = .ref p ∧ (SqL X.K H p xs ∨ SqT X.K H p xs) ∧ flatV x = true ∧ xs.all flatV = true ∧ Q (.bl (f (inV x xs))) H))
    (h3 : ∀ (pins : List (Addr × Obj)) (s : Shared) (σ : L2.St) (H : Hp) (a : Addr) (y : V) (o : Option V) (u : Value) (Q : VK), Inv X pins σ H s → DGet H a y o → RelV y u → Q (.bl (f o.isSome)) H → wpAny (model X.prog X.w) X.A (compareOp op u (.ref a)) (EP X pins σ Q) X.xe s) :
    OpR X (compareOp op) (lfR X.K (rInG f)) := by
  intro pins s σ H x y v u Q I rx ry ⟨d, e, M, Q', rd, re, sm, q, hq⟩
  have gen : ((∃ ds, seqT e M = some ds ∧ flatT d = true ∧ ds.all flatT = true ∧ Q' (.bl (f (inT d ds))) M) ∨ ∃ a kvs k, e = .loc a ∧ M a = some (.dic kvs) ∧ keyT d = some k ∧ Q' (.bl (f (valT kvs k).isSome)) M) →
      wpAny (model X.prog X.w) X.A (compareOp op v u) (EP X pins σ Q) X.xe s := by
    rintro (⟨ds, e1, fd, fl, q⟩ | ⟨a, kvs, k, rfl, e1, ek, q⟩)
    · obtain ⟨a, xs, rfl, sq, rl⟩ := seqT_ok e1 re sm
      exact h2 pins s σ H _ _ v u Q I rx ry ⟨a, xs, rfl, sq, flatT_ok fd rd, flatL_ok fl rl, by rw [inT_ok fd rd fl rl]; exact hq (.bl _) M _ H Tx.refl rfl sm q⟩
    · cases re
      cases ry
      obtain ⟨xs, hx, ke, rl⟩ := sm a _ e1
      have ex := keyT_ok ek rd
      subst ex
      have vt := valT_ok (k := k) ke rl
      have es : (valV xs k).isSome = (valT kvs k).isSome := by
        cases z : valT kvs k with
        | none => rw [vt.1 z]; rfl
        | some d' =>
          obtain ⟨v', e', _⟩ := vt.2 d' z
          rw [e']; rfl
      exact h3 pins s σ H a _ _ v Q I (DGet.k hx) rx (by rw [es]; exact hq (.bl _) M _ H Tx.refl rfl sm q)
  cases d <;> cases e <;> first
    | exact gen q
    | (cases rd; cases re; exact h1 pins s σ H _ _ v u Q I rx ry ⟨_, _, rfl, rfl, hq (.bl _) M _ H Tx.refl rfl sm q⟩)
theorem o_in (hu : X.A.units + 1 < cLine) : OpR X (compareOp .In) (lfR X.K (rInG id)) := o_inG op_in_str (fun pins s σ H x y v u Q I rx ry ⟨p, xs, a, b, c, d, e⟩ => op_in_seq pins s σ H x y v u Q I rx ry ⟨p, xs, a, b, c, d, e⟩)
  fun pins s σ H a y o u Q I g r q => d_in hu I g r fun s' I' => ⟨.bl o.isSome, H, I', rfl, q⟩
theorem o_notin (hu : X.A.units + 1 < cLine) : OpR X (compareOp .NotIn) (lfR X.K (rInG not)) := o_inG op_notIn_str (fun pins s σ H x y v u Q I rx ry ⟨p, xs, a, b, c, d, e⟩ => op_notIn_seq pins s σ H x y v u Q I rx ry ⟨p, xs, a, b, c, d, e⟩)
  fun pins s σ H a y o u Q I g r q => d_notIn hu I g r fun s' I' => ⟨.bl (!o.isSome), H, I', rfl, q⟩
/-- -x -/
def rNeg2 : Tr → Ms → Q2 → Prop := fun d M Q => match d with
  | .int i => Q (.int (-i)) M
  | _ => False
theorem o_neg : UnR X (unaryOp .USub) (lfU X.K rNeg2) := by
  intro pins s σ H x v Q I rx ⟨d, M, Q', rd, sm, q, hq⟩
  cases d with
  | int i => cases rd; exact un_neg pins s σ H _ v Q I rx ⟨i, rfl, hq (.int _) M _ H Tx.refl rfl sm q⟩
  | _ => exact q.elim

/-! ### built-ins -/
def lenT : Tr → Ms → Option Nat
  | .str x, _ => if x.length ≤ sizeLine then some x.length else none
  | .loc a, M => match M a with
    | some (.lst ds) => some ds.length
    | some (.dic kvs) => some kvs.length
    | _ => none
  | d, M => (seqT d M).map List.length
def c1 (r : Tr → Ms → Q2 → Prop) : RC2 := fun ds M Q => match ds with
  | [d] => r d M Q
  | _ => False
theorem one_of {K : PySem.W.Frag} {H : Hp} {d : Tr} {xs : List V} (r : RepL K H [d] xs) : ∃ x, xs = [x] ∧ Rep K H d x := by
  obtain ⟨x, r, rfl, h, e⟩ := r
  have e' : r = [] := e
  subst e'
  exact ⟨x, rfl, h⟩
theorem two_of {K : PySem.W.Frag} {H : Hp} {d e : Tr} {xs : List V} (r : RepL K H [d, e] xs) : ∃ x y, xs = [x, y] ∧ Rep K H d x ∧ Rep K H e y := by
  obtain ⟨x, r, rfl, h, e⟩ := r
  obtain ⟨y, rfl, h'⟩ := one_of e
  exact ⟨x, y, rfl, h, h'⟩
theorem c1_of {f : Value} {r : Tr → Ms → Q2 → Prop} (h : ∀ (pins : List (Addr × Obj)) (s : Shared) (σ : L2.St) (H : Hp) (x : V) (u : Value) (Q : VK) (d : Tr) (M : Ms) (Q' : Q2), Inv X pins σ H s → RelV x u → Rep X.K H d x → SimM X.K H M → r d M Q' → LkQ X.K H Q' Q →
    wpAny (model X.prog X.w) X.A (call f [u]) (EP X pins σ Q) X.xe s) : CallR X f (lfC X.K (c1 r)) := by
  intro pins s σ H xs us Q I rv ⟨ds, M, Q', rd, sm, q, hq⟩
  match ds, q with
  | [d], q =>
    obtain ⟨x, rfl, r1⟩ := one_of rd
    obtain ⟨u, rfl, r2⟩ := vals1 rv
    exact h pins s σ H x u Q d M Q' I r2 r1 sm q hq
abbrev rLen2 : RC2 := c1 fun d M Q => ∃ n, lenT d M = some n ∧ Q (.int n) M
theorem lenT_ok {K : PySem.W.Frag} {H : Hp} {M : Ms} {d : Tr} {x : V} {n : Nat} (e : lenT d M = some n) (r : Rep K H d x) (sm : SimM K H M) : LenV K x H n ∨ ∃ p kvs, x = .ref p ∧ H p = some (.dK kvs) ∧ kvs.length = n := by
  cases d with
  | str z =>
    cases r
    have e' : (if z.length ≤ sizeLine then some z.length else none) = some n := e
    split at e'
    · cases e'; exact .inl ⟨by assumption, rfl⟩
    · cases e'
  | tup ds =>
    obtain ⟨a, xs, rfl, q, rl⟩ := r
    cases e
    exact .inl (.inr ⟨xs, q, rl.len⟩)
  | fro ds =>
    obtain ⟨a, xs, rfl, q, rl⟩ := r
    cases e
    exact .inl (.inl ⟨xs, q.sq, rl.len⟩)
  | loc a =>
    cases r
    have e' : (match M a with | some (.lst ds) => some ds.length | some (.dic kvs) => some kvs.length | _ => none) = some n := e
    split at e'
    · rename_i ds z
      cases e'
      obtain ⟨xs, q, rl⟩ := sm a _ z
      exact .inl (.inl ⟨xs, SqL.of q, rl.len⟩)
    · rename_i ds z
      cases e'
      obtain ⟨xs, q, _, rl⟩ := sm a _ z
      refine .inr ⟨a, xs, rfl, q, ?_⟩
      have := rl.len
      simpa using this.symm
    · cases e'
  | _ => cases e
theorem b_len : CallR X (.builtin "len") (lfC X.K rLen2) := c1_of fun pins s σ H x u Q d M Q' I rx rd sm ⟨n, e, q⟩ hq => by
  have fin : Q (.int n) H := hq (.int n) M _ H Tx.refl rfl sm q
  rcases lenT_ok e rd sm with h | ⟨p, kvs, rfl, h, hn⟩
  · exact call_len pins s σ H [x] [u] Q I (.cons rx .nil) ⟨x, n, rfl, h, fin⟩
  · cases rx
    subst hn
    exact d_len I (.inl h) fun t s' I' => ⟨.int kvs.length, H, I', ⟨t, rfl⟩, fin⟩
abbrev rTuple2 : RC2 := c1 fun d M Q => ∃ ds, seqT d M = some ds ∧ Q (.tup ds) M
theorem b_tuple : CallR X (.type "tuple") (lfC X.K rTuple2) := c1_of fun pins s σ H x u Q d M Q' I rx rd sm ⟨ds, e, q⟩ hq => by
  obtain ⟨a, xs, rfl, sq, rl⟩ := seqT_ok e rd sm
  refine call_tuple_of pins s σ H [.ref a] [u] Q I (.cons rx .nil) ⟨a, xs, rfl, ?_⟩
  rcases sq with sq | sq
  · exact .inl ⟨sq, fun l hl => new_tup hq rl sm hl q⟩
  · exact .inr ⟨sq, hq (.tup ds) M _ H Tx.refl ⟨a, xs, rfl, sq, rl⟩ sm q⟩
abbrev rList2 : RC2 := c1 fun d M Q => ∃ ds, seqT d M = some ds ∧ ∀ p, M p = none → Q (.loc p) (up M p (.lst ds))
theorem b_list : CallR X (.type "list") (lfC X.K rList2) := c1_of fun pins s σ H x u Q d M Q' I rx rd sm ⟨ds, e, q⟩ hq => by
  obtain ⟨a, xs, rfl, sq, rl⟩ := seqT_ok e rd sm
  exact call_list_of pins s σ H [.ref a] [u] Q I (.cons rx .nil) ⟨a, xs, rfl, sq, fun l hl => new_lst hq rl sm hl q⟩
abbrev rInt2 : RC2 := c1 fun d M Q => match d with
  | .int i => Q (.int i) M
  | .bl b => Q (.int (if b then 1 else 0)) M
  | _ => False
theorem b_int : CallR X (.type "int") (lfC X.K rInt2) := c1_of fun pins s σ H x u Q d M Q' I rx rd sm q hq => by
  cases d with
  | int i => cases rd; exact call_int1 pins s σ H _ [u] Q I (.cons rx .nil) (.inl ⟨i, rfl, hq (.int _) M _ H Tx.refl rfl sm q⟩)
  | bl i => cases rd; exact call_int1 pins s σ H _ [u] Q I (.cons rx .nil) (.inr ⟨i, rfl, hq (.int _) M _ H Tx.refl rfl sm q⟩)
  | _ => exact q.elim
abbrev rAbs2 : RC2 := c1 fun d M Q => match d with
  | .int i => Q (.int (if i < 0 then -i else i)) M
  | _ => False
theorem b_abs : CallR X (.builtin "abs") (lfC X.K rAbs2) := c1_of fun pins s σ H x u Q d M Q' I rx rd sm q hq => by
  cases d with
  | int i => cases rd; exact call_abs pins s σ H _ [u] Q I (.cons rx .nil) ⟨i, rfl, hq (.int _) M _ H Tx.refl rfl sm q⟩
  | _ => exact q.elim
theorem ints_back {K : PySem.W.Frag} {H : Hp} {ns : List Int} {xs : List V} (r : RepL K H (ns.map Tr.int) xs) : xs = ns.map V.int := by
  induction ns generalizing xs with
  | nil => exact r
  | cons n t ih =>
    obtain ⟨x, y, rfl, r1, r2⟩ := r
    cases r1
    rw [ih r2]; rfl
abbrev rSum2 : RC2 := c1 fun d M Q => ∃ ns : List Int, seqT d M = some (ns.map Tr.int) ∧ (∀ es, d ≠ .tup es) ∧ Q (.int ns.sum) M
theorem b_sum (hc : X.calm = true) : CallR X (.builtin "sum") (lfC X.K rSum2) := c1_of fun pins s σ H x u Q d M Q' I rx rd sm ⟨ns, e, nt, q⟩ hq => by
  have go : ∀ a, x = .ref a → SqL X.K H a (ns.map V.int) → wpAny (model X.prog X.w) X.A (call (.builtin "sum") [u]) (EP X pins σ Q) X.xe s := fun a ex sq => by
    subst ex
    exact cr_sum hc pins s σ H _ [u] Q I (.cons rx .nil) ⟨a, ns, rfl, sq, hq (.int _) M _ H Tx.refl rfl sm q⟩
  cases d with
  | tup ds => exact absurd rfl (nt ds)
  | fro ds =>
    obtain ⟨a, xs, rfl, sq, rl⟩ := rd
    cases e
    have := ints_back rl
    subst this
    exact go a rfl sq.sq
  | loc a =>
    cases rd
    obtain ⟨xs, hx, rl⟩ := sm a _ (seqT_loc e)
    have := ints_back rl
    subst this
    exact go a rfl (SqL.of hx)
  | _ => cases e
/-- max(a, b), min(a, b) -/
def c2 (r : Tr → Tr → Ms → Q2 → Prop) : RC2 := fun ds M Q => match ds with
  | [d, e] => r d e M Q
  | _ => False
def rII2 (g : Int → Int → Int) : RC2 := c2 fun d e M Q => match d, e with
  | .int i, .int j => Q (.int (g i j)) M
  | _, _ => False
theorem c2_ints {f : Value} {g : Int → Int → Int} (h : CallR X f (fun xs H Q => ∃ i j, xs = [.int i, .int j] ∧ Q (.int (g i j)) H)) : CallR X f (lfC X.K (rII2 g)) := by
  intro pins s σ H xs us Q I rv ⟨ds, M, Q', rd, sm, q, hq⟩
  match ds, q with
  | [d, e], q =>
    obtain ⟨x, y, rfl, r1, r2⟩ := two_of rd
    cases d with
    | int i =>
      cases e with
      | int j => cases r1; cases r2; exact h pins s σ H _ us Q I rv ⟨i, j, rfl, hq (.int _) M _ H Tx.refl rfl sm q⟩
      | _ => exact q.elim
    | _ => cases e <;> exact q.elim
abbrev rMax2 : RC2 := rII2 fun i j => if j > i then j else i
abbrev rMin2 : RC2 := rII2 fun i j => if j < i then j else i
theorem b_max2 (hc : X.calm = true) : CallR X (.builtin "max") (lfC X.K rMax2) := c2_ints (call_max2 hc)
theorem b_min2 (hc : X.calm = true) : CallR X (.builtin "min") (lfC X.K rMin2) := c2_ints (call_min2 hc)
/-- max of a list of ints -/
def rMaxL (le : Int → Int → Prop) : RC2 := c1 fun d M Q => ∃ ns : List Int, seqT d M = some (ns.map Tr.int) ∧ (∀ es, d ≠ .tup es) ∧ 0 < ns.length ∧ ∀ m, m ∈ ns → (∀ y, y ∈ ns → le y m) → Q (.int m) M
theorem maxL_of {f : Value} {le : Int → Int → Prop} (h : CallR X f (fun vs H Q => ∃ (a : Addr) (ns : List Int), vs = [V.ref a] ∧ SqL X.K H a (ns.map V.int) ∧ 0 < ns.length ∧ ∀ m, m ∈ ns → (∀ y, y ∈ ns → le y m) → Q (.int m) H)) : CallR X f (lfC X.K (rMaxL le)) :=
  c1_of fun pins s σ H x u Q d M Q' I rx rd sm ⟨ns, e, nt, hl, q⟩ hq => by
  have go : ∀ a, x = .ref a → SqL X.K H a (ns.map V.int) → wpAny (model X.prog X.w) X.A (call f [u]) (EP X pins σ Q) X.xe s := fun a ex sq => by
    subst ex
    exact h pins s σ H _ [u] Q I (.cons rx .nil) ⟨a, ns, rfl, sq, hl, fun m hm hy => hq (.int _) M _ H Tx.refl rfl sm (q m hm hy)⟩
  cases d with
  | tup ds => exact absurd rfl (nt ds)
  | fro ds =>
    obtain ⟨a, xs, rfl, sq, rl⟩ := rd
    cases e
    have := ints_back rl
    subst this
    exact go a rfl sq.sq
  | loc a =>
    cases rd
    obtain ⟨xs, hx, rl⟩ := sm a _ (seqT_loc e)
    have := ints_back rl
    subst this
    exact go a rfl (SqL.of hx)
  | _ => cases e
theorem b_maxL (hc : X.calm = true) : CallR X (.builtin "max") (lfC X.K (rMaxL fun y m => y ≤ m)) := maxL_of (cr_max hc)
theorem b_minL (hc : X.calm = true) : CallR X (.builtin "min") (lfC X.K (rMaxL fun y m => m ≤ y)) := maxL_of (cr_min hc)
/-- the built-in type of a tree -/
def tyT : Tr → Ms → Option String
  | .non, _ => some "NoneType"
  | .bl _, _ => some "bool"
  | .int _, _ => some "int"
  | .str _, _ => some "str"
  | .tup _, _ => some "tuple"
  | .loc a, M => match M a with
    | some (.lst _) => some "list"
    | some (.dic _) => some "dict"
    | some (.odd _) => some "dict"
    | _ => none
  | .fro _, _ => some "list"
  | .ty _, _ => none
theorem tyT_ok {K : PySem.W.Frag} {H : Hp} {M : Ms} {d : Tr} {x : V} {t : String} (e : tyT d M = some t) (r : Rep K H d x) (sm : SimM K H M) : TyX K H x (.type t) := by
  cases d with
  | non => cases r; cases e; exact .base .non
  | bl b => cases r; cases e; exact .base (.bl b)
  | int b => cases r; cases e; exact .base (.int b)
  | str b => cases r; cases e; exact .base (.str b)
  | tup ds =>
    obtain ⟨a, xs, rfl, q, rl⟩ := r
    cases e
    rcases q with (q | ⟨o, q⟩) | ⟨o, its, n, q1, q2, _⟩
    · exact .base (.tup q)
    · exact .fTuple q
    · exact .kTuple q1 q2
  | fro ds =>
    obtain ⟨a, xs, rfl, q, rl⟩ := r
    cases e
    rcases q with ⟨o, q⟩ | ⟨o, its, n, q1, q2, _⟩
    · exact .base (.frz q)
    · exact .kList q1 q2
  | loc a =>
    cases r
    have e' : (match M a with | some (.lst _) => some "list" | some (.dic _) => some "dict" | some (.odd _) => some "dict" | _ => none) = some t := e
    split at e'
    · rename_i ds z
      cases e'
      obtain ⟨xs, q, rl⟩ := sm a _ z
      exact .base (.lst q)
    · rename_i ds z
      cases e'
      obtain ⟨xs, q, _, rl⟩ := sm a _ z
      exact .base (.dK q)
    · rename_i ds z
      cases e'
      exact .base (.dT (sm a _ z))
    · cases e'
  | ty n => cases e
abbrev rIsi2 : RC2 := c2 fun d e M Q => ∃ t c b, tyT d M = some t ∧ e = .ty c ∧ kitB t c = some b ∧ Q (.bl b) M
theorem b_isi : CallR X (.builtin "isinstance") (lfC X.K rIsi2) := by
  intro pins s σ H xs us Q I rv ⟨ds, M, Q', rd, sm, q, hq⟩
  match ds, q with
  | [d, e], q =>
    obtain ⟨x, y, rfl, r1, r2⟩ := two_of rd
    obtain ⟨t, c, b, e1, rfl, e2, q⟩ := q
    cases r2
    exact call_isi pins s σ H _ us Q I rv ⟨x, .ty c, .type t, .type c, b, rfl, .ty c, tyT_ok e1 r1 sm, kit_ty e2, hq (.bl _) M _ H Tx.refl rfl sm q⟩
/-- repr -/
def rRepr2 : RC2 := c1 fun d M Q => ∃ p : PyData, Dat M p d ∧ p.showable = true ∧ p.hasDict = false ∧ p.depth ≤ 50 ∧ p.shown.length ≤ sizeLine ∧ Q (.str p.shown) M
theorem b_repr (hu : X.A.units + 64 < cLine) (hg : X.A.guards = some []) : CallR X (.builtin "repr") (lfC X.K rRepr2) := c1_of fun pins s σ H x u Q d M Q' I rx rd sm ⟨p, dp, s1, s2, s3, s4, q⟩ hq => by
  have D := dp.dp sm rd
  have fin : Q (.str p.shown) H := hq (.str _) M _ H Tx.refl rfl sm q
  cases D with
  | non => cases rx; exact PySem.P.repr_of_none ⟨.str _, H, I.tok _, ⟨_, rfl⟩, fin⟩
  | bl b => cases rx; exact PySem.P.repr_of_bool ⟨.str _, H, I.tok _, ⟨_, rfl⟩, fin⟩
  | int i =>
    obtain ⟨t, rfl⟩ := rx
    exact PySem.P.repr_of_int (of_decide_eq_true s1) ⟨.str _, H, I.tok _, ⟨_, rfl⟩, fin⟩
  | str z =>
    obtain ⟨t, rfl⟩ := rx
    exact PySem.P.repr_of_str ⟨.str _, H, I.tok _, ⟨_, rfl⟩, fin⟩ s4
  | lst q1 q2 =>
    cases rx
    obtain ⟨as, r⟩ := Dp.reads I _ _ _ (.lst q1 q2) rfl
    exact PySem.repr_of_reads' r s1 (PyData.noDict_hsm s2) hg (by omega) (fun _ _ e => e) (fun h' w' tk hk => ⟨.str _, H, I.kept hk, ⟨_, rfl⟩, fin⟩) s4
  | tup q1 q2 =>
    cases rx
    obtain ⟨as, r⟩ := Dp.reads I _ _ _ (.tup q1 q2) rfl
    exact PySem.repr_of_reads' r s1 (PyData.noDict_hsm s2) hg (by omega) (fun _ _ e => e) (fun h' w' tk hk => ⟨.str _, H, I.kept hk, ⟨_, rfl⟩, fin⟩) s4

/-! ### methods -/
def rApp2 : RM2 := fun d ds M Q => match d, ds with
  | .loc a, [e] => ∃ l, M a = some (.lst l) ∧ l.length < sizeLine ∧ Q .non (up M a (.lst (l ++ [e])))
  | _, _ => False
theorem m_append : MtR X "list.append" (lfM X.K rApp2) := by
  intro pins s σ H x xs v us Q I rx rv ⟨d, ds, M, Q', rd, rl, sm, q, hq⟩
  match d, ds, q with
  | .loc a, [e], ⟨l, el, z, q⟩ =>
    obtain ⟨y, rfl, r1⟩ := one_of rl
    cases rd
    obtain ⟨ys, hy, ry⟩ := sm a _ el
    exact mt_append pins s σ H _ _ v us Q I rx rv ⟨a, ys, y, rfl, rfl, hy, by rw [← ry.len]; exact z, hq .non _ _ _ (Tx.lst hy) rfl (sm.setL hy (ry.app (.one r1))) q⟩
def rPop2 : RM2 := fun d ds M Q => match d, ds with
  | .loc a, [] => ∃ l e, M a = some (.lst l) ∧ l[l.length - 1]? = some e ∧ Q e (up M a (.lst l.dropLast))
  | _, _ => False
theorem m_pop : MtR X "list.pop" (lfM X.K rPop2) := by
  intro pins s σ H x xs v us Q I rx rv ⟨d, ds, M, Q', rd, rl, sm, q, hq⟩
  match d, ds, q with
  | .loc a, [], ⟨l, e, el, z, q⟩ =>
    have ex : xs = [] := rl
    subst ex
    cases rd
    obtain ⟨ys, hy, ry⟩ := sm a _ el
    obtain ⟨w', e1, rw'⟩ := ry.get z
    exact mt_pop pins s σ H _ _ v us Q I rx rv ⟨a, ys, w', rfl, rfl, hy, by rw [← ry.len]; exact e1, hq e _ _ _ (Tx.lst hy) (rw'.mono (Tx.lst hy)) (sm.setL hy ry.dropLast) q⟩
def rExt2 : RM2 := fun d ds M Q => match d, ds with
  | .loc a, [.loc b] => ∃ l r, M a = some (.lst l) ∧ M b = some (.lst r) ∧ l.length + r.length ≤ sizeLine ∧ Q .non (up M a (.lst (l ++ r)))
  | _, _ => False
theorem m_extend : MtR X "list.extend" (lfM X.K rExt2) := by
  intro pins s σ H x xs v us Q I rx rv ⟨d, ds, M, Q', rd, rl, sm, q, hq⟩
  match d, ds, q with
  | .loc a, [.loc b], ⟨l, r, el, er, z, q⟩ =>
    obtain ⟨y, rfl, r1⟩ := one_of rl
    cases rd
    cases r1
    obtain ⟨ys, hy, ry⟩ := sm a _ el
    obtain ⟨zs, hz, rz⟩ := sm b _ er
    exact mt_extend pins s σ H _ _ v us Q I rx rv ⟨a, b, ys, zs, rfl, rfl, hy, hz, by rw [← ry.len, ← rz.len]; exact z, hq .non _ _ _ (Tx.lst hy) rfl (sm.setL hy (ry.app rz)) q⟩
variable {W : L2.WX} {o e : Expr} {to : TE2} {t : TA2} {apos pos : Pos} {es : List Expr}
theorem lt_append (ho : QE X W o to) (ha : QA X W [e] t) (h : PE X (.Call (.Attribute o "append" apos) [e] [] pos) (tBM X.K "list" (lfM X.K rApp2) (lfE X.K W to) (lfA X.K W t)) := by exact pe_bm PySem.F.plainAttrs_list PySem.F.slot_list_append PySem.F.type_list_append m_append (by assumption) (by assumption)) :
    QE X W (.Call (.Attribute o "append" apos) [e] [] pos) (eM "list" rApp2 to t) := pe_weak h fun _ _ _ h => m_low h
theorem lt_extend (ho : QE X W o to) (ha : QA X W [e] t) (h : PE X (.Call (.Attribute o "extend" apos) [e] [] pos) (tBM X.K "list" (lfM X.K rExt2) (lfE X.K W to) (lfA X.K W t)) := by exact pe_bm PySem.F.plainAttrs_list PySem.F.slot_list_extend PySem.F.type_list_extend m_extend (by assumption) (by assumption)) :
    QE X W (.Call (.Attribute o "extend" apos) [e] [] pos) (eM "list" rExt2 to t) := pe_weak h fun _ _ _ h => m_low h
theorem lt_pop (ho : QE X W o to) (h : PE X (.Call (.Attribute o "pop" apos) [] [] pos) (tBM0 X.K "list" (lfM X.K rPop2) (lfE X.K W to)) := by exact pe_bm0 PySem.F.plainAttrs_list PySem.F.slot_list_pop PySem.F.type_list_pop m_pop (by assumption)) :
    QE X W (.Call (.Attribute o "pop" apos) [] [] pos) (eM0 "list" rPop2 to) := pe_weak h fun _ _ _ h => m0_low h
end
end T

/-! T, fourth part: targets, statements, walks, loops, comprehensions, errors. -/
namespace T
open PySem PySem.Spec L2

structure Ends2 where
  nx : St2 → Ms → Prop
  rt : Q2
  bk : St2 → Ms → Prop
  ct : St2 → Ms → Prop
  ex : Value → Option Addr → St2 → Ms → Prop
abbrev TS2 := Ends2 → St2 → Ms → Prop
abbrev Ends2.xx (D : Ends2) (σ : St2) : X2 := fun c dd M => D.ex c dd σ M
/-- the links of the ends -/
def LkN (K : PySem.W.Frag) (H : Hp) (N' : St2 → Ms → Prop) (N : L2.St → Hp → Prop) : Prop := ∀ σ1' M1 σ1 H1, Tx K H H1 → SimS K H1 σ1' σ1 → SimM K H1 M1 → N' σ1' M1 → N σ1 H1
structure LkD (K : PySem.W.Frag) (H : Hp) (W : L2.WX) (D' : Ends2) (D : L2.Ends) : Prop where
  nx : LkN K H D'.nx D.nx
  rt : LkQ K H D'.rt D.rt
  bk : LkN K H D'.bk D.bk
  ct : LkN K H D'.ct D.ct
  ex : ∀ c dd, LkN K H (D'.ex c dd) (W c dd)
section
variable {K : PySem.W.Frag} {H H1 : Hp} {W : L2.WX} {D' : Ends2} {D : L2.Ends} {N' : St2 → Ms → Prop} {N : L2.St → Hp → Prop} {σ : L2.St} {σ' : St2}
theorem LkN.mono (h : LkN K H N' N) (t : Tx K H H1) : LkN K H1 N' N := fun a b c d t' s m q => h a b c d (t.trans t') s m q
theorem LkD.mono (h : LkD K H W D' D) (t : Tx K H H1) : LkD K H1 W D' D := ⟨h.nx.mono t, h.rt.mono t, h.bk.mono t, h.ct.mono t, fun c dd => (h.ex c dd).mono t⟩
theorem LkD.x (h : LkD K H W D' D) (s : SimS K H σ' σ) : LkX K H (D'.xx σ') W σ := fun c dd M H' t m q => h.ex c dd σ' M σ H' t (s.mono t) m q
end
def lfS (K : PySem.W.Frag) (W : L2.WX) (t : TS2) : TS := fun D σ H => ∃ σ' M D', SimS K H σ' σ ∧ SimM K H M ∧ t D' σ' M ∧ LkD K H W D' D
theorem ps_weak {X : Cx} {e : Stmt} {t t' : TS} (h : PS X e t) (w : ∀ D σ H, t' D σ H → t D σ H) : PS X e t' := ⟨fun pins s σ H D I q => h.run pins s σ H D I (w D σ H q)⟩
theorem pss_weak {X : Cx} {e : List Stmt} {t t' : TS} (h : PSs X e t) (w : ∀ D σ H, t' D σ H → t D σ H) : PSs X e t' := ⟨fun pins s σ H D I q => h.run pins s σ H D I (w D σ H q)⟩
theorem pg_weak {X : Cx} {e : Expr} {t t' : TG} (h : PG X e t) (w : ∀ v σ H Q, t' v σ H Q → t v σ H Q) : PG X e t' := ⟨fun pins s σ H v u Q I r q => h.run pins s σ H v u Q I r (w v σ H Q q)⟩
theorem pgs_weak {X : Cx} {e : List Expr} {t t' : TGs} (h : PGs X e t) (w : ∀ v σ H Q, t' v σ H Q → t v σ H Q) : PGs X e t' := ⟨fun pins s σ H v u Q I r q => h.run pins s σ H v u Q I r (w v σ H Q q)⟩
theorem pi_weak {X : Cx} {tg e : Expr} {t t' : TI} (h : PI X tg e t) (w : ∀ σ H R, t' σ H R → t σ H R) : PI X tg e t' := ⟨fun pins s σ H R I q => h.run pins s σ H R I (w σ H R q)⟩
abbrev QS (X : Cx) (W : L2.WX) (e : Stmt) (t : TS2) : Prop := PS X e (lfS X.K W t)
abbrev QSs (X : Cx) (W : L2.WX) (e : List Stmt) (t : TS2) : Prop := PSs X e (lfS X.K W t)

/-! ### targets -/
abbrev TG2 := Tr → St2 → Ms → (St2 → Ms → Prop) → Prop
abbrev TGs2 := List Tr → St2 → Ms → (St2 → Ms → Prop) → Prop
/-- alike but for some slots -/
def Agr (js : List Nat) (σ σ1 : L2.St) : Prop := σ1.length = σ.length ∧ ∀ i, i ∉ js → σ1[i]? = σ[i]?
theorem Agr.refl {js : List Nat} {σ : L2.St} : Agr js σ σ := ⟨rfl, fun _ _ => rfl⟩
theorem Agr.app {js ks : List Nat} {σ σ1 σ2 : L2.St} (a : Agr js σ σ1) (b : Agr ks σ1 σ2) : Agr (js ++ ks) σ σ2 := ⟨b.1.trans a.1, fun i hi => (b.2 i fun z => hi (List.mem_append_right _ z)).trans (a.2 i fun z => hi (List.mem_append_left _ z))⟩
theorem wipe_at {σ : L2.St} {i : Nat} : ∀ {vs : List Nat}, i ∈ vs → i < σ.length → (wipe σ vs)[i]? = some none
  | [], h, _ => nomatch h
  | v :: vs, h, hl => by
    unfold wipe
    rw [List.getElem?_set, wipe_length]
    by_cases c : v = i
    · rw [if_pos c, if_pos (by omega)]
    · rw [if_neg c]
      rcases List.mem_cons.mp h with e | m
      · exact absurd e.symm c
      · exact wipe_at m hl
theorem Agr.wipe {js vs : List Nat} {σ σ1 : L2.St} (a : Agr js (L2.wipe σ vs) σ1) (h : ∀ i ∈ js, i ∈ vs) : L2.wipe σ1 vs = L2.wipe σ vs := by
  have l1 : σ1.length = σ.length := a.1.trans (wipe_length _ _)
  apply List.ext_getElem?
  intro i
  by_cases m : i ∈ vs
  · by_cases hl : i < σ.length
    · rw [wipe_at m (by rw [l1]; exact hl), wipe_at m hl]
    · rw [List.getElem?_eq_none (by rw [wipe_length, l1]; omega), List.getElem?_eq_none (by rw [wipe_length]; omega)]
  · rw [wipe_out m, a.2 i fun z => m (h i z)]
def lfG (K : PySem.W.Frag) (js : List Nat) (g : TG2) : TG := fun v σ H Q => ∃ d σ' M Q', Rep K H d v ∧ SimS K H σ' σ ∧ SimM K H M ∧ g d σ' M Q' ∧ ∀ σ1' M1 σ1 H1, Tx K H H1 → SimS K H1 σ1' σ1 → SimM K H1 M1 → Agr js σ σ1 → Q' σ1' M1 → Q σ1 H1
def lfGs (K : PySem.W.Frag) (js : List Nat) (g : TGs2) : TGs := fun vs σ H Q => ∃ ds σ' M Q', RepL K H ds vs ∧ SimS K H σ' σ ∧ SimM K H M ∧ g ds σ' M Q' ∧ ∀ σ1' M1 σ1 H1, Tx K H H1 → SimS K H1 σ1' σ1 → SimM K H1 M1 → Agr js σ σ1 → Q' σ1' M1 → Q σ1 H1
abbrev QG (X : Cx) (tg : Expr) (g : TG2) (js : List Nat) : Prop := PG X tg (lfG X.K js g)
abbrev QGs (X : Cx) (tg : List Expr) (g : TGs2) (js : List Nat) : Prop := PGs X tg (lfGs X.K js g)
def gN (i : Nat) : TG2 := fun d σ M Q => Q (σ.set i (some d)) M
def gNil2 : TGs2 := fun ds σ M Q => ds = [] ∧ Q σ M
def gCo (t : TG2) (u : TGs2) : TGs2 := fun ds σ M Q => ∃ d r, ds = d :: r ∧ t d σ M fun σ' M' => u r σ' M' Q
def gT (n : Nat) (t : TGs2) : TG2 := fun d σ M Q => ∃ ds, d = .tup ds ∧ ds.length = n ∧ t ds σ M Q
def gL (n : Nat) (t : TGs2) : TG2 := fun d σ M Q => ∃ ds, seqT d M = some ds ∧ (∀ es, d ≠ .tup es) ∧ ds.length = n ∧ t ds σ M Q
section
variable {X : Cx} {W : L2.WX} {pos : Pos} {tg e a b c : Expr} {es : List Expr} {g : TG2} {gs : TGs2} {js ks : List Nat} {te ta tb : TE2} {tt : TA2}
theorem qg_name {i : Nat} {x : Str} (hN : X.N.Nodup) (hi : X.N[i]? = some x := by rfl) (hx : Loc X.env.scope x := by first | exact Or.inl rfl | exact Or.inr rfl) (hf : X.fn x = true ∨ X.env.scope.names.lookup x = some .local := by first | exact .inl rfl | exact .inr rfl | assumption) : QG X (.Name x pos) (gN i) [i] :=
  pg_weak (pg_name hN hi hx hf) fun v σ H Q ⟨d, σ', M, Q', r, hs, hm, q, hq⟩ => hq _ M _ H Tx.refl (hs.set i r) hm ⟨by rw [List.length_set], fun j hj => by
    rw [List.getElem?_set, if_neg (fun z => hj (by rw [z]; exact List.mem_singleton.mpr rfl))]⟩ q
theorem qgs_nil : QGs X [] gNil2 [] := pgs_weak pgs_nil fun vs σ H Q ⟨ds, σ', M, Q', r, hs, hm, ⟨e, q⟩, hq⟩ => by
  subst e
  exact ⟨r, hq σ' M σ H Tx.refl hs hm Agr.refl q⟩
theorem qgs_cons (h1 : QG X e g js) (h2 : QGs X es gs ks) (hs : (assignEach (e :: es) X.env).map (·.2) = assign e X.env :: (assignEach es X.env).map (·.2) := by rfl) : QGs X (e :: es) (gCo g gs) (js ++ ks) :=
  pgs_weak (pgs_cons h1 h2 hs) fun vs σ H Q ⟨ds, σ', M, Q', r, hs, hm, ⟨d, dr, e, q⟩, hq⟩ => by
    subst e
    obtain ⟨x, xs, e, r1, r2⟩ := r
    subst e
    exact ⟨x, xs, rfl, d, σ', M, _, r1, hs, hm, q, fun σ1' M1 σ1 H1 t1 s1 m1 a1 q1 => ⟨dr, σ1', M1, Q', r2.mono t1, s1, m1, q1, fun σ2' M2 σ2 H2 t2 s2 m2 a2 q2 => hq σ2' M2 σ2 H2 (t1.trans t2) s2 m2 (a1.app a2) q2⟩⟩
theorem qg_tup {k : Nat} {n : Nat} (hc : X.calm = true) (h : QGs X es gs js) (hn : (assignEach es X.env).length = n := by rfl) (hst : (assignEach es X.env).findIdx? (·.1) = none := by rfl) : QG X (.Tuple es k pos) (gT n gs) js :=
  pg_weak (pg_tup hc h hn hst) fun v σ H Q ⟨d, σ', M, Q', r, hs, hm, ⟨ds, e, hl, q⟩, hq⟩ => by
    subst e
    obtain ⟨a, xs, rfl, sq, rl⟩ := r
    exact ⟨a, xs, rfl, sq, by rw [← rl.len]; exact hl, ds, σ', M, Q', rl, hs, hm, q, hq⟩
/-- o[i] = v, by values -/
abbrev TSet2 := Tr → Tr → Tr → Ms → (Ms → Prop) → Prop
def lfPut (K : PySem.W.Frag) (t : TSet2) : TSet := fun o i v H Q => ∃ d e f M Q', Rep K H d o ∧ Rep K H e i ∧ Rep K H f v ∧ SimM K H M ∧ t d e f M Q' ∧ ∀ M1 H1, Tx K H H1 → SimM K H1 M1 → Q' M1 → Q H1
/-- stored at its key, or behind all -/
def putT (kvs : List (Key × Tr)) (k : Key) (v : Tr) : List (Key × Tr) :=
  match kvs.any fun p => decide (p.1 = k) with
  | true => kvs.map fun p => (p.1, if p.1 = k then v else p.2)
  | false => kvs ++ [(k, v)]
theorem swap_ok {K : PySem.W.Frag} {H : Hp} {k : Key} {f : Tr} {v : V} (r : Rep K H f v) : ∀ {kvs : List (Key × Tr)} {xs : List (Key × V)}, xs.map (·.1) = kvs.map (·.1) → RepL K H (kvs.map (·.2)) (xs.map (·.2)) →
    (xs.map fun p => if p.1 = k then (p.1, v) else p).map (·.1) = (kvs.map fun p => (p.1, if p.1 = k then f else p.2)).map (·.1) ∧
      RepL K H ((kvs.map fun p => (p.1, if p.1 = k then f else p.2)).map (·.2)) ((xs.map fun p => if p.1 = k then (p.1, v) else p).map (·.2))
  | [], [], _, _ => ⟨rfl, rfl⟩
  | [], _ :: _, e, _ => by simp at e
  | _ :: _, [], e, _ => by simp at e
  | p :: kvs, y :: ys, e, rl => by
    simp only [List.map_cons, List.cons.injEq] at e
    obtain ⟨x, z, e0, r1, r2⟩ := rl
    cases e0
    have e1 := e.1
    have ih := swap_ok (k := k) r e.2 r2
    by_cases c : p.1 = k
    · have c2 : y.1 = k := by rw [e1]; exact c
      simp only [List.map_cons, if_pos c, if_pos c2]
      exact ⟨by rw [ih.1, e1], v, _, rfl, r, ih.2⟩
    · have c2 : ¬ y.1 = k := by rw [e1]; exact c
      simp only [List.map_cons, if_neg c, if_neg c2]
      exact ⟨by rw [ih.1, e1], y.2, _, rfl, r1, ih.2⟩
def rPut2 : TSet2 := fun o i v M Q => (∃ a l k j, o = .loc a ∧ i = .int k ∧ M a = some (.lst l) ∧ ixN l.length k = some j ∧ Q (up M a (.lst (l.set j v)))) ∨
  ∃ a kvs k, o = .loc a ∧ keyT i = some k ∧ M a = some (.dic kvs) ∧ kvs.length < sizeLine ∧ Q (up M a (.dic (putT kvs k v)))
theorem putT_ok {K : PySem.W.Frag} {H : Hp} {k : Key} {f : Tr} {v : V} (r : Rep K H f v) {kvs : List (Key × Tr)} {xs : List (Key × V)} (e : xs.map (·.1) = kvs.map (·.1)) (rl : RepL K H (kvs.map (·.2)) (xs.map (·.2))) :
    (putK xs k v).map (·.1) = (putT kvs k f).map (·.1) ∧ RepL K H ((putT kvs k f).map (·.2)) ((putK xs k v).map (·.2)) := by
  have hany : (xs.any fun kv => decide (kv.1 = k)) = (kvs.any fun kv => decide (kv.1 = k)) := by
    have h1 : (xs.any fun kv => decide (kv.1 = k)) = (xs.map (·.1)).any fun j => decide (j = k) := by rw [List.any_map]; rfl
    have h2 : (kvs.any fun kv => decide (kv.1 = k)) = (kvs.map (·.1)).any fun j => decide (j = k) := by rw [List.any_map]; rfl
    rw [h1, h2, e]
  unfold putK putT
  rw [hany]
  cases (kvs.any fun kv => decide (kv.1 = k)) with
  | true =>
    rw [if_pos rfl]
    exact swap_ok r e rl
  | false =>
    rw [if_neg Bool.false_ne_true]
    simp only [List.map_append, List.map_cons, List.map_nil, e]
    exact ⟨trivial, rl.app (.one r)⟩
theorem p_set (hu : X.A.units + 1 < cLine) : PSet X (lfPut X.K rPut2) := by
  intro pins s σ H o i v ov iv u Q I ro ri rv ⟨d, e, f, M, Q', rd, re, rf, sm, q, hq⟩
  rcases q with ⟨a, l, k, j, rfl, rfl, el, hj, q⟩ | ⟨a, kvs, k, rfl, ek, el, hz, q⟩
  · cases rd; cases re
    obtain ⟨ys, hy, ry⟩ := sm a _ el
    exact set_list pins s σ H _ _ v ov iv u Q I ro ri rv ⟨a, ys, k, j, rfl, rfl, hy, by rw [← ry.len]; exact hj, hq _ _ (Tx.lst hy) (sm.setL hy (ry.set j rf)) q⟩
  · cases rd
    have ei := keyT_ok ek re
    subst ei
    obtain ⟨ys, hy, ke, ry⟩ := sm a _ el
    cases ro
    have hl : ys.length < sizeLine := by
      have := congrArg List.length ke
      simp only [List.length_map] at this
      omega
    have pk := putT_ok (k := k) rf ke ry
    exact d_setItem hu I (DPut.k hy hl) ri rv fun s' I' => ⟨_, I', hq _ _ (Tx.dic hy) (sm.put (m := .dic (putT kvs k f)) (Tx.dic hy) ⟨_, upd_same, pk.1, pk.2.mono (Tx.dic hy)⟩) q⟩
def gSb (r : TSet2) (to ti : TE2) : TG2 := fun v σ M Q => to σ M (fun o M1 => ti σ M1 (fun i M2 => r o i v M2 fun M3 => Q σ M3) X0) X0
theorem qg_sub {o i : Expr} {to ti : TE2} (hu : X.A.units + 1 < cLine) (ho : QE X W o to) (hi : QE X W i ti)
    (ha : PG X (.Subscript o i pos) (gSub (lfE X.K W to) (lfE X.K W ti) (lfPut X.K rPut2)) := by exact pg_sub (by assumption) (by assumption) (p_set (by assumption))) : QG X (.Subscript o i pos) (gSb rPut2 to ti) [] :=
  pg_weak ha fun v σ H Q ⟨d, σ', M, Q', r, hs, hm, q, hq⟩ => ⟨σ', M, _, X0, hs, hm, q, fun o M1 x H1 t1 r1 s1 q1 => ⟨σ', M1, _, X0, hs.mono t1, s1, q1, fun i M2 y H2 t2 r2 s2 q2 =>
    ⟨o, i, d, M2, _, r1.mono t2, r2, (r.mono t1).mono t2, s2, q2, fun M3 H3 t3 s3 q3 => hq σ' M3 σ H3 ((t1.trans t2).trans t3) (((hs.mono t1).mono t2).mono t3) s3 Agr.refl q3⟩, fun _ _ _ _ _ _ z => False.elim z⟩, fun _ _ _ _ _ _ z => False.elim z⟩

/-! ### statements -/
variable {t u : TS2} {st : Stmt} {rest : List Stmt} {tA : TT2}
def sNx : TS2 := fun D σ M => D.nx σ M
def sSq (t u : TS2) : TS2 := fun D σ M => t { D with nx := u D } σ M
theorem qss_nil : QSs X W [] sNx := pss_weak pss_nil fun D σ H ⟨σ', M, D', hs, hm, q, L⟩ => L.nx σ' M σ H Tx.refl hs hm q
theorem qss_cons (h1 : QS X W st t) (h2 : QSs X W rest u) : QSs X W (st :: rest) (sSq t u) := pss_weak (pss_cons h1 h2) fun D σ H ⟨σ', M, D', hs, hm, q, L⟩ =>
  ⟨σ', M, _, hs, hm, q, fun σ1' M1 σ1 H1 t1 s1 m1 q1 => ⟨σ1', M1, D', s1, m1, q1, L.mono t1⟩, L.rt, L.bk, L.ct, L.ex⟩
theorem qss_one (h1 : QS X W st t) : QSs X W [st] t := pss_one h1
theorem qs_pass : QS X W (.Pass pos) sNx := ps_weak ps_pass fun D σ H ⟨σ', M, D', hs, hm, q, L⟩ => L.nx σ' M σ H Tx.refl hs hm q
def sBk : TS2 := fun D σ M => D.bk σ M
def sCt : TS2 := fun D σ M => D.ct σ M
theorem qs_break : QS X W (.Break pos) sBk := ps_weak ps_break fun D σ H ⟨σ', M, D', hs, hm, q, L⟩ => L.bk σ' M σ H Tx.refl hs hm q
theorem qs_continue : QS X W (.Continue pos) sCt := ps_weak ps_continue fun D σ H ⟨σ', M, D', hs, hm, q, L⟩ => L.ct σ' M σ H Tx.refl hs hm q
def sDr (te : TE2) : TS2 := fun D σ M => te σ M (fun _ M1 => D.nx σ M1) (D.xx σ)
theorem qs_expr (he : QE X W e te) (hs : swapsWith e none pos.line X.env = pure false := by rfl) : QS X W (.Expr e pos) (sDr te) := ps_weak (ps_expr he hs) fun D σ H ⟨σ', M, D', hs, hm, q, L⟩ =>
  ⟨σ', M, _, _, hs, hm, q, fun d M1 v H1 t1 r1 s1 q1 => L.nx σ' M1 σ H1 t1 (hs.mono t1) s1 q1, L.x hs⟩
def sRt (te : TE2) : TS2 := fun D σ M => te σ M D.rt (D.xx σ)
theorem qs_ret (he : QE X W e te) : QS X W (.Return (some e) pos) (sRt te) := ps_weak (ps_ret he) fun D σ H ⟨σ', M, D', hs, hm, q, L⟩ => ⟨σ', M, _, _, hs, hm, q, L.rt, L.x hs⟩
def sRtN : TS2 := fun D _ M => D.rt .non M
theorem qs_retN : QS X W (.Return none pos) sRtN := ps_weak ps_retN fun D σ H ⟨σ', M, D', hs, hm, q, L⟩ => L.rt .non M .non H Tx.refl rfl hm q
def sIf (c : TT2) (t u : TS2) : TS2 := fun D σ M => c σ M (fun b M1 => if b = true then t D σ M1 else u D σ M1) (D.xx σ)
theorem qs_if {aa bb : List Stmt} (hc : QT X W c tA) (ha : QSs X W aa t) (hb : QSs X W bb u) : QS X W (.If c aa bb pos) (sIf tA t u) := ps_weak (ps_if hc ha hb) fun D σ H ⟨σ', M, D', hs, hm, q, L⟩ =>
  ⟨σ', M, _, _, hs, hm, q, fun b M1 H1 t1 s1 q1 => by
    cases b with
    | true => exact ⟨σ', M1, D', hs.mono t1, s1, q1, L.mono t1⟩
    | false => exact ⟨σ', M1, D', hs.mono t1, s1, q1, L.mono t1⟩, L.x hs⟩
def sNv : TS2 := fun _ _ _ => False
theorem qs_never : QS X W st sNv := ps_weak ps_never fun D σ H ⟨σ', M, D', hs, hm, q, L⟩ => q
theorem qss_never {sts : List Stmt} : QSs X W sts sNv := pss_weak pss_never fun D σ H ⟨σ', M, D', hs, hm, q, L⟩ => q
/-- target = value -/
def sAs (te : TE2) (g : TG2) : TS2 := fun D σ M => te σ M (fun d M1 => g d σ M1 D.nx) (D.xx σ)
theorem asg_low {K : PySem.W.Frag} {D : L2.Ends} {σ : L2.St} {H : Hp} (h : lfS K W (sAs te g) D σ H) : tAsg (lfE K W te) (lfG K js g) D σ H := by
  obtain ⟨σ', M, D', hs, hm, q, L⟩ := h
  exact ⟨σ', M, _, _, hs, hm, q, fun d M1 v H1 t1 r1 s1 q1 => ⟨d, σ', M1, _, r1, hs.mono t1, s1, q1, fun σ2' M2 σ2 H2 t2 s2 m2 _ q2 => L.nx σ2' M2 σ2 H2 (t1.trans t2) s2 m2 q2⟩, L.x hs⟩
theorem qs_asg (he : QE X W e te) (hg : QG X tg g js) (hs : swapsWithSole [tg] e pos.line X.env = pure false := by rfl) (hw : swappedStores [tg] e X.env = pure none := by rfl)
    (h1 : (assignEach [tg] X.env).map (·.2) = [assign tg X.env] := by rfl) : QS X W (.Assign [tg] e pos) (sAs te g) := ps_weak (ps_asg he hg hs hw h1) fun D σ H h => asg_low h
theorem qs_set {i : Nat} {x : Str} {pos' : Pos} (hN : X.N.Nodup) (he : QE X W e te) (hi : X.N[i]? = some x := by rfl) (hx : Loc X.env.scope x := by first | exact Or.inl rfl | exact Or.inr rfl) (hs : swapsWith e (some (.Name x pos')) pos.line X.env = pure false := by rfl)
    (hf : X.fn x = true ∨ X.env.scope.names.lookup x = some .local := by first | exact .inl rfl | exact .inr rfl | assumption) : QS X W (.Assign [.Name x pos'] e pos) (sAs te (gN i)) :=
  ps_weak (ps_set hN hi hx he hs hf) fun D σ H ⟨σ', M, D', hs, hm, q, L⟩ => ⟨σ', M, _, _, hs, hm, q, fun d M1 v H1 t1 r1 s1 q1 => L.nx _ M1 _ H1 t1 ((hs.mono t1).set i r1) s1 q1, L.x hs⟩
def sPr (i j : Nat) (ta : TA2) : TS2 := fun D σ M => ta σ M (fun ds M1 => ∃ d e, ds = [d, e] ∧ D.nx ((σ.set i (some d)).set j (some e)) M1) (D.xx σ)
theorem qs_par {i j : Nat} {x y : Str} {px py pt : Pos} {kt k2 pt2} (hc : X.calm = true) (hN : X.N.Nodup) (hij : i ≠ j) (ha : QA X W [a, b] tt) (hi : X.N[i]? = some x := by rfl) (hj : X.N[j]? = some y := by rfl)
    (hx : X.env.scope.names.lookup x = some .local := by rfl) (hy : X.env.scope.names.lookup y = some .local := by rfl)
    (hw : swappedStores [.Tuple [.Name x px, .Name y py] kt pt] (.Tuple [a, b] k2 pt2) X.env = pure (some [x, y]) := by rfl)
    (hs : swapsWithSole [.Tuple [.Name x px, .Name y py] kt pt] (.Tuple [a, b] k2 pt2) pos.line X.env = pure false := by rfl) :
    QS X W (.Assign [.Tuple [.Name x px, .Name y py] kt pt] (.Tuple [a, b] k2 pt2) pos) (sPr i j tt) := ps_weak (ps_par hc hN hi hj hij hx hy ha hw hs) fun D σ H ⟨σ', M, D', hs, hm, q, L⟩ =>
  ⟨σ', M, _, _, hs, hm, q, fun ds M1 vs H1 t1 r1 s1 ⟨d, e, ed, q1⟩ => by
    subst ed
    obtain ⟨x, y, rfl, r2, r3⟩ := two_of r1
    exact ⟨x, y, rfl, L.nx _ M1 _ H1 t1 (((hs.mono t1).set i r2).set j r3) s1 q1⟩, L.x hs⟩
def sPr3 (i j l : Nat) (ta : TA2) : TS2 := fun D σ M => ta σ M (fun ds M1 => ∃ d e f, ds = [d, e, f] ∧ D.nx (((σ.set i (some d)).set j (some e)).set l (some f)) M1) (D.xx σ)
theorem qs_par3 {i j l : Nat} {x y z : Str} {px py pz pt : Pos} {kt k2 pt2} (hc : X.calm = true) (hN : X.N.Nodup) (hij : i ≠ j) (hil : i ≠ l) (hjl : j ≠ l) (ha : QA X W [a, b, c] tt) (hi : X.N[i]? = some x := by rfl) (hj : X.N[j]? = some y := by rfl) (hl : X.N[l]? = some z := by rfl)
    (hx : X.env.scope.names.lookup x = some .local := by rfl) (hy : X.env.scope.names.lookup y = some .local := by rfl) (hz : X.env.scope.names.lookup z = some .local := by rfl)
    (hw : swappedStores [.Tuple [.Name x px, .Name y py, .Name z pz] kt pt] (.Tuple [a, b, c] k2 pt2) X.env = pure (some [x, y, z]) := by rfl)
    (hs : swapsWithSole [.Tuple [.Name x px, .Name y py, .Name z pz] kt pt] (.Tuple [a, b, c] k2 pt2) pos.line X.env = pure false := by rfl) :
    QS X W (.Assign [.Tuple [.Name x px, .Name y py, .Name z pz] kt pt] (.Tuple [a, b, c] k2 pt2) pos) (sPr3 i j l tt) := ps_weak (ps_par3 hc hN hi hj hl hij hil hjl hx hy hz ha hw hs) fun D σ H ⟨σ', M, D', hs, hm, q, L⟩ =>
  ⟨σ', M, _, _, hs, hm, q, fun ds M1 vs H1 t1 r1 s1 ⟨d, e, f, ed, q1⟩ => by
    subst ed
    obtain ⟨x, r, rfl, r2, r5⟩ := r1
    obtain ⟨y, z, rfl, r3, r4⟩ := two_of r5
    exact ⟨x, y, z, rfl, L.nx _ M1 _ H1 t1 ((((hs.mono t1).set i r2).set j r3).set l r4) s1 q1⟩, L.x hs⟩
/-- name op= e -/
def sAu (i : Nat) (r : R22) (te : TE2) : TS2 := fun D σ M => ∃ d, σ[i]? = some (some d) ∧ te σ M (fun e M1 => r d e M1 fun z M2 => D.nx (σ.set i (some z)) M2) (D.xx σ)
theorem qs_aug {i : Nat} {x : Str} {op : Operator} {r : R22} {pos' : Pos} (hN : X.N.Nodup) (he : QE X W e te) (ho : PIp X op (lfR X.K r)) (hi : X.N[i]? = some x := by rfl) (hx : Loc X.env.scope x := by first | exact Or.inl rfl | exact Or.inr rfl)
    (hf : X.fn x = true ∨ X.env.scope.names.lookup x = some .local := by first | exact .inl rfl | exact .inr rfl | assumption) : QS X W (.AugAssign (.Name x pos') op e pos) (sAu i r te) :=
  ps_weak (ps_aug hN hi hx he ho hf) fun D σ H ⟨σ', M, D', hs, hm, ⟨d, ed, q⟩, L⟩ => by
    obtain ⟨v, ev, rv⟩ := hs.at_ i d ed
    exact ⟨v, ev, σ', M, _, _, hs, hm, q, fun e M1 y H1 t1 r1 s1 q1 => ⟨d, e, M1, _, rv.mono t1, r1, s1, q1, fun z M2 w H2 t2 r2 s2 q2 => L.nx _ M2 _ H2 (t1.trans t2) (((hs.mono t1).mono t2).set i r2) s2 q2⟩, L.x hs⟩
def sWh (c : TT2) (tb : TS2) : TS2 := fun D σ M => ∃ W : Nat → St2 → Ms → Prop, (∃ m, W m σ M) ∧ ∀ m σ M, W m σ M →
  c σ M (fun b M1 => if b = true then ∃ N : St2 → Ms → Prop, (∀ σ' M', N σ' M' → ∃ m', m' < m ∧ W m' σ' M') ∧ tb { D with nx := N, ct := N, bk := D.nx } σ M1 else D.nx σ M1) (D.xx σ)
theorem qs_while {body : List Stmt} (hp : PassesOwn (model X.prog X.w) X.A X.env X.xe) (hc : QT X W c tA) (hb : QSs X W body t) : QS X W (.While c body [] pos) (sWh tA t) := ps_weak (ps_while hp hc hb) fun D σ H ⟨σ', M, D', hs, hm, ⟨W0, ⟨m0, w0⟩, turn⟩, L⟩ => by
  refine ⟨fun m σ1 H1 => ∃ σ1' M1, Tx X.K H H1 ∧ SimS X.K H1 σ1' σ1 ∧ SimM X.K H1 M1 ∧ W0 m σ1' M1, ⟨m0, σ', M, Tx.refl, hs, hm, w0⟩, ?_⟩
  rintro m σ1 H1 ⟨σ1', M1, t1, s1, m1, w1⟩
  refine ⟨σ1', M1, _, _, s1, m1, turn m σ1' M1 w1, fun b M2 H2 t2 m2 q2 => ?_, (L.mono t1).x s1⟩
  cases b with
  | true =>
    obtain ⟨N, hN, q2⟩ := q2
    refine ⟨fun σ3 H3 => ∃ σ3' M3, Tx X.K H H3 ∧ SimS X.K H3 σ3' σ3 ∧ SimM X.K H3 M3 ∧ N σ3' M3, fun σ3 H3 ⟨σ3', M3, t3, s3, m3, n3⟩ => ?_, ?_⟩
    · obtain ⟨m', lt, w'⟩ := hN σ3' M3 n3
      exact ⟨m', lt, σ3', M3, t3, s3, m3, w'⟩
    · have T2 := t1.trans t2
      exact ⟨σ1', M2, _, s1.mono t2, m2, q2, fun σ3' M3 σ3 H3 t3 s3 m3 n3 => ⟨σ3', M3, T2.trans t3, s3, m3, n3⟩, (L.mono T2).rt, fun σ3' M3 σ3 H3 t3 s3 m3 n3 => (L.mono T2).nx σ3' M3 σ3 H3 t3 s3 m3 n3,
        fun σ3' M3 σ3 H3 t3 s3 m3 n3 => ⟨σ3', M3, T2.trans t3, s3, m3, n3⟩, (L.mono T2).ex⟩
  | false => exact L.nx σ1' M2 σ1 H2 (t1.trans t2) (s1.mono t2) m2 q2

/-! ### walks -/
structure It2 where
  go : Nat → Ms → Prop
  yld : Nat → Ms → Tr → Prop
  stop : Nat → Ms → Prop
abbrev TI2 := St2 → Ms → (It2 → Ms → Prop) → X2 → Prop
/-- the walk J over the heap is the walk J2 over the store, from H on -/
def ItOk (K : PySem.W.Frag) (H : Hp) (J : It) (J2 : It2) : Prop := ∀ H1 M, Tx K H H1 → SimM K H1 M → (∀ i, J2.stop i M → J.stop i H1) ∧ (∀ i, J2.go i M → J.go i H1) ∧
  ∀ i x H2, J2.go i M → J.yld i H1 x H2 → Tx K H1 H2 ∧ SimM K H2 M ∧ ∃ d, Rep K H2 d x ∧ J2.yld i M d
def LkI (K : PySem.W.Frag) (H : Hp) (R' : It2 → Ms → Prop) (R : It → Hp → Prop) : Prop := ∀ J2 M J H1, Tx K H H1 → SimM K H1 M → ItOk K H1 J J2 → R' J2 M → R J H1
def lfI (K : PySem.W.Frag) (W : L2.WX) (t : TI2) : TI := fun σ H R => ∃ σ' M R' E', SimS K H σ' σ ∧ SimM K H M ∧ t σ' M R' E' ∧ LkI K H R' R ∧ LkX K H E' W σ
abbrev QI (X : Cx) (W : L2.WX) (tg e : Expr) (t : TI2) : Prop := PI X tg e (lfI X.K W t)
def sFo (wi : TI2) (g : TG2) (tb : TS2) : TS2 := fun D σ M => wi σ M (fun J M1 => ∃ W : Nat → Nat → St2 → Ms → Prop, (∃ m, W 0 m σ M1) ∧ ∀ i m σ M, W i m σ M →
  (J.stop i M ∧ D.nx σ M) ∨ (J.go i M ∧ ∃ N : St2 → Ms → Prop, (∀ σ' M', N σ' M' → ∃ m', m' < m ∧ W (i + 1) m' σ' M') ∧ ∀ d, J.yld i M d → g d σ M fun σ2 M2 => tb { D with nx := N, ct := N, bk := D.nx } σ2 M2)) (D.xx σ)
theorem qs_for {body : List Stmt} {wi : TI2} (hp : PassesOwn (model X.prog X.w) X.A X.env X.xe) (hc : X.calm = true) (hi : QI X W tg e wi) (hg : QG X tg g js) (hb : QSs X W body t)
    (hs : ∀ x, foldedSetIterable e X.env x = pure x := by intro _; rfl) : QS X W (.For tg e body [] pos) (sFo wi g t) := ps_weak (ps_for hp hc hi hg hb hs) fun D σ H ⟨σ', M, D', hs, hm, q, L⟩ => by
  refine ⟨σ', M, _, _, hs, hm, q, fun J2 M1 J H1 t1 m1 ok ⟨W0, ⟨m0, w0⟩, turn⟩ => ?_, L.x hs⟩
  refine ⟨fun i m σ2 H2 => ∃ σ2' M2, Tx X.K H1 H2 ∧ SimS X.K H2 σ2' σ2 ∧ SimM X.K H2 M2 ∧ W0 i m σ2' M2, ⟨m0, σ', M1, Tx.refl, hs.mono t1, m1, w0⟩, ?_⟩
  rintro i m σ2 H2 ⟨σ2', M2, t2, s2, m2, w2⟩
  obtain ⟨o1, o2, o3⟩ := ok H2 M2 t2 m2
  rcases turn i m σ2' M2 w2 with ⟨st, q2⟩ | ⟨go, N, hN, q2⟩
  · exact .inl ⟨o1 i st, L.nx σ2' M2 σ2 H2 (t1.trans t2) s2 m2 q2⟩
  · refine .inr ⟨o2 i go, fun σ3 H3 => ∃ σ3' M3, Tx X.K H1 H3 ∧ SimS X.K H3 σ3' σ3 ∧ SimM X.K H3 M3 ∧ N σ3' M3, fun σ3 H3 ⟨σ3', M3, t3, s3, m3, n3⟩ => ?_, fun x H3 y => ?_⟩
    · obtain ⟨m', lt, w'⟩ := hN σ3' M3 n3
      exact ⟨m', lt, σ3', M3, t3, s3, m3, w'⟩
    · obtain ⟨t3, m3, d, rd, yd⟩ := o3 i x H3 go y
      have T3 := t2.trans t3
      exact ⟨d, σ2', M2, _, rd, s2.mono t3, m3, q2 d yd, fun σ4' M4 σ4 H4 t4 s4 m4 _ q4 => ⟨σ4', M4, _, s4, m4, q4, fun σ5' M5 σ5 H5 t5 s5 m5 n5 => ⟨σ5', M5, (T3.trans t4).trans t5, s5, m5, n5⟩,
        (L.mono (t1.trans (T3.trans t4))).rt, fun σ5' M5 σ5 H5 t5 s5 m5 n5 => (L.mono (t1.trans (T3.trans t4))).nx σ5' M5 σ5 H5 t5 s5 m5 n5, fun σ5' M5 σ5 H5 t5 s5 m5 n5 => ⟨σ5', M5, (T3.trans t4).trans t5, s5, m5, n5⟩, (L.mono (t1.trans (T3.trans t4))).ex⟩⟩
/-- items known ahead, while ok -/
def itL (ds : List Tr) (ok : Ms → Prop) : It2 := ⟨fun i M => ok M ∧ i < ds.length, fun i _ d => ds[i]? = some d, fun i M => ok M ∧ ds.length ≤ i⟩
theorem for_itL {ds : List Tr} {ok : Ms → Prop} {D : Ends2} {σ : St2} {M : Ms} (Pv : Nat → St2 → Ms → Prop) (h0 : Pv 0 σ M) (hok : ∀ i σ M, i ≤ ds.length → Pv i σ M → ok M)
    (hs : ∀ i d σ M, ds[i]? = some d → Pv i σ M → g d σ M fun σ2 M2 => t { D with nx := Pv (i + 1), ct := Pv (i + 1), bk := D.nx } σ2 M2) (hd : ∀ σ M, Pv ds.length σ M → D.nx σ M) :
    ∃ W : Nat → Nat → St2 → Ms → Prop, (∃ m, W 0 m σ M) ∧ ∀ i m σ M, W i m σ M → ((itL ds ok).stop i M ∧ D.nx σ M) ∨ ((itL ds ok).go i M ∧ ∃ N : St2 → Ms → Prop, (∀ σ' M', N σ' M' → ∃ m', m' < m ∧ W (i + 1) m' σ' M') ∧
      ∀ d, (itL ds ok).yld i M d → g d σ M fun σ2 M2 => t { D with nx := N, ct := N, bk := D.nx } σ2 M2) := by
  refine ⟨fun i m σ M => m = ds.length - i ∧ i ≤ ds.length ∧ Pv i σ M, ⟨ds.length, by simp, Nat.zero_le _, h0⟩, ?_⟩
  rintro i m σ M ⟨rfl, hi, p⟩
  by_cases lt : i < ds.length
  · exact .inr ⟨⟨hok i σ M hi p, lt⟩, Pv (i + 1), fun σ' M' p' => ⟨ds.length - (i + 1), by omega, rfl, lt, p'⟩, fun d y => hs i d σ M y p⟩
  · have e : i = ds.length := by omega
    subst e
    exact .inl ⟨⟨hok _ σ M hi p, Nat.le_refl _⟩, hd σ M p⟩
end
end T

/-! T, fifth part: what is walked. -/
namespace T
open PySem PySem.Spec L2

/-! ### enumerate(x) of one argument, x begun by an iterator -/
theorem enum1_new {v : Value} {o : Obj} {Hh : Heap → Prop} (B : Begins v o Hh) :
    Meets (Builtin.«enumerate.__new__» ⟨[.type "enumerate", v], []⟩) (fun _ R s => Hh s.heap ∧
      R (.ok (.ret (.ref (s.heap.push o).objs.size))) { s with heap := (s.heap.push o).push { cls := .type "enumerate", data := .fields #[.none, .bool false, .ref s.heap.objs.size, rawInt 0, .none, .none] } }) := by
  refine .of_wp fun prog w A R s hh => ?_
  obtain ⟨hp, g, d, tk, os⟩ := s
  obtain ⟨h1, h⟩ := hh
  have sb := sub_enumerate
  have it1 : ∀ {A1 : Around} {E1 : Value → Shared → Prop} {Q1 : Value → Shared → Prop}, Q1 (.ref hp.objs.size) ⟨hp.push o, g, d, tk, os⟩ → wpAny (model prog w) A1 (pyIter v) Q1 E1 ⟨hp, g, d, tk, os⟩ :=
    fun q => B.iter prog w _ _ ⟨hp, g, d, tk, os⟩ _ h1 q
  wp_walk using it1
  refine wpAny_stack_any fun st => wpAny_pure ?_
  split
  · rename_i c _ _ _ _ _
    cases (c == Value.type "enumerate")
    · wp_walk using it1
      exact ⟨_, rfl, h⟩
    · wp_walk using it1
      exact ⟨_, rfl, h⟩
  · wp_walk using it1
    exact ⟨_, rfl, h⟩
theorem enum1_call {prog : Program} {w : World} {A : Around} {E : Value → Shared → Prop} {s : Shared} {v : Value} {o : Obj} {Hh : Heap → Prop} {Q : Value → Shared → Prop} (B : Begins v o Hh) (h1 : Hh s.heap)
    (h : ∀ h', IsEnum h' (s.heap.objs.size + 1) s.heap.objs.size 0 .none → h'.get? s.heap.objs.size = some o → (∀ b ob, s.heap.get? b = some ob → h'.get? b = some ob) → Q (.ref (s.heap.objs.size + 1)) { s with heap := h' }) :
    wpAny (model prog w) A (call (.type "enumerate") [v]) Q E s := by
  refine callType_new F.called_enumerate (by decide) (F.typeCall_enumerate_1 _) (F.newCall_enumerate_1 _) (fun obj => F.args_object_init_2 obj _) F.entry_enumerate_new (enum1_new B) ⟨h1, ?_⟩
  have hz : (s.heap.push o).objs.size = s.heap.objs.size + 1 := Heap.size_push ..
  show _ ∧ _
  rw [hz]
  have he : IsEnum ((s.heap.push o).push { cls := .type "enumerate", data := .fields #[.none, .bool false, .ref s.heap.objs.size, rawInt 0, .none, .none] }) (s.heap.objs.size + 1) s.heap.objs.size 0 .none := by
    have := Heap.get?_push_size (s.heap.push o) (o := { cls := .type "enumerate", data := .fields #[.none, .bool false, .ref s.heap.objs.size, rawInt 0, .none, .none] }) rfl
    rw [hz] at this; exact this
  exact ⟨⟨_, he, rfl⟩, h _ he (Heap.get?_push_of_some _ (Heap.get?_push_size _ B.free)) fun b ob x => Heap.get?_push_of_some _ (Heap.get?_push_of_some _ x)⟩
/-- the tuple at a, each item in a new pair -/
def IteT (K : PySem.W.Frag) (a : Addr) : It where
  go := fun i H => ∃ (xs : List V) (x : V), SqT K H a xs ∧ xs[i]? = some x
  yld := fun i H v H' => ∃ (T : Addr) (x : V), v = .ref T ∧ H T = none ∧ H' = upd H T (.tup [.int (i : Nat), x]) ∧ ∀ xs, SqT K H a xs → xs[i]? = some x
  stop := fun i H => ∃ xs : List V, SqT K H a xs ∧ xs.length ≤ i
theorem turn_enumT {P : Program} {w : World} {K : PySem.W.Frag} {elts : List Expr} {kk : Nat} {tpos : Pos} (a e it : Addr) :
    Turn P w K (.Tuple elts kk tpos) (IteT K a) [e, it] e (fun i h => (∃ old, IsEnum h e it ((i : Nat) : Int) old) ∧ h.IsTupleIter it a i ∧ e ≠ it) where
  mem := by simp
  obj := by
    rintro i h ⟨⟨old, he⟩, ⟨o, ho, hc, hd⟩, _⟩ b hb
    have c : b = e ∨ b = it := by simpa using hb
    rcases c with rfl | rfl
    · exact ⟨_, he, fun v q => nomatch q⟩
    · exact ⟨o, ho, fun v q => by rw [hd] at q; cases q⟩
  keep := by
    rintro i h h' ⟨⟨old, he⟩, ⟨o, ho, r⟩, hne⟩ k
    exact ⟨⟨old, k e (by simp) _ he⟩, ⟨o, k it (by simp) _ ho, r⟩, hne⟩
  item := by
    intro X hP hw hK hc i pins s σ H E I hf st hg
    subst hP hw hK
    obtain ⟨⟨old, he⟩, hit, hne⟩ := st
    obtain ⟨xs, x, hq, hx⟩ := hg
    obtain ⟨its, rv, p, hz⟩ := I.tuple hq
    obtain ⟨u, hu, ru⟩ := rv.get hx
    have hel : e < s.heap.objs.size := Heap.lt_size he
    have hil : it < s.heap.objs.size := by obtain ⟨_, q, _⟩ := hit; exact Heap.lt_size q
    have p' : s.heap.IsTuple a its.toArray := p
    have hai : a ≠ it := by
      rintro rfl
      obtain ⟨o1, e1, c1, _⟩ := p'
      obtain ⟨o2, e2, c2, _⟩ := hit
      rw [e1] at e2; cases e2
      rw [c1] at c2; injection c2 with c3; exact absurd c3 (by decide)
    have hea : e ≠ a := by
      rintro rfl
      obtain ⟨o1, e1, c1, _⟩ := p'
      rw [he] at e1; cases e1
      injection c1 with c3; exact absurd c3 (by decide)
    have hlt : i < its.toArray.size := by
      have := (List.getElem?_eq_some_iff.mp hu).1
      simpa using this
    refine wpAny_pyNext_enum_itemD (Draws.tuple (A := X.A.in1) (show X.A.in1.handled = none from I.ok.hd hc) it a hai its.toArray) he ⟨hit, p'⟩ hlt hne (by simp [hne, hea]) fun y h' tk hy ho st' hT hsz hk => ?_
    have hyu : y = u := by
      have q1 : its[i]? = some y := by simpa using hy
      rw [hu] at q1; exact (Option.some.inj q1).symm
    subst hyu
    refine ⟨_, rfl, wpAny_letOwnedTupleGo_enum (s := { s with heap := h', toks := tk + 1 }) ho fun h'' he' sb => ?_⟩
    have hT2 : h''.get? s.heap.objs.size = some { cls := .type "tuple", data := .seq #[.int i tk, y] } := (sb.2 _ (Nat.ne_of_gt hel)).trans hT
    have new : ObjOk X.prog X.w (upd H s.heap.objs.size (.tup [.int (i : Nat), x])) h'' s.heap.objs.size (.tup [.int (i : Nat), x]) :=
      ⟨by show 2 ≤ sizeLine; decide, [.int i tk, y], .cons ⟨_, rfl⟩ (.cons ru .nil), ⟨_, hT2, rfl, _, rfl⟩⟩
    have I1 : Inv X pins σ (upd H s.heap.objs.size (.tup [.int (i : Nat), x])) { s with heap := h'', toks := tk + 1 } :=
      I.turnedNew (ch := [e, it]) (fun b ob hb q => (sb.2 b (fun z => hb (by simp [z]))).trans (hk b ob (fun z => hb (by simp [z])) (fun z => hb (by simp [z])) q)) hf (Nat.le_refl _) new
    refine ⟨.ref s.heap.objs.size, _, I1, rfl, ⟨_, x, rfl, I.hok.fresh (Nat.le_refl _), rfl, fun ys hy => by rw [I.tuple_inj hy hq]; exact hx⟩, ⟨⟨y, ?_⟩, ?_, hne⟩, fun b hb => ?_⟩
    · have e1 : ((i + 1 : Nat) : Int) = (i : Int) + 1 := by omega
      rw [e1]; exact he'
    · obtain ⟨o, q, r⟩ := st'.1
      exact ⟨o, (sb.2 it (Ne.symm hne)).trans q, r⟩
    · have hb' : b < s.heap.objs.size := by
        have c : b = e ∨ b = it := by simpa using hb
        rcases c with rfl | rfl
        · exact hel
        · exact hil
      rw [upd_ne (Nat.ne_of_lt hb')]
      exact (hf b hb).1
  done := by
    intro X hP hw hK hc i pins s σ H E I hf st hg
    subst hP hw hK
    obtain ⟨⟨old, he⟩, hit, hne⟩ := st
    obtain ⟨xs, hq, hx⟩ := hg
    obtain ⟨its, rv, p, hz⟩ := I.tuple hq
    have p' : s.heap.IsTuple a its.toArray := p
    have hai : a ≠ it := by
      rintro rfl
      obtain ⟨o1, e1, c1, _⟩ := p'
      obtain ⟨o2, e2, c2, _⟩ := hit
      rw [e1] at e2; cases e2
      rw [c1] at c2; injection c2 with c3; exact absurd c3 (by decide)
    obtain ⟨f0, f1, f2, f3, f4, f5⟩ := hf it (by simp)
    have hl := rv.length
    -- the end: no item at i
    have hT : s.TypeIs (.ref e) "enumerate" := ⟨_, he, rfl⟩
    unfold pyNext
    refine wpAny_bind (wpAny_attempt (wpAny_callSpecial?_slot (name := Str.ofString "__next__") hT F.slot_enumerate_next
      (wpAny_call_entry F.slot_enumerate_next hT F.entry_enumerate_next ?_ (F.args_enumerate_next_1 _))))
    show wpAny _ _ (field (.ref e) 2 >>= _) _ _ _
    refine wpAny_bind (wpAny_field he rfl (x := .ref it) rfl ?_)
    refine wpAny_bind (wpAny_nextOf_tuple_end (show X.A.in1.handled = none from I.ok.hd hc) hit p' (by simp; omega) fun h' x eb hx' => ?_)
    obtain ⟨o, ho, hcl⟩ := hx'
    refine wpAny_bind (wpAny_isInstance (T := "StopIteration") (b := true) ⟨o, ho, hcl⟩ isSubtype_stop ?_)
    exact wpAny_pure ⟨rfl, I.turned (t' := s.toks) (fun b ob hb q => eb b ob hb q) f0 f1 f3 f4 f5⟩
  self := by
    rintro A i s Q E ⟨⟨_, he⟩, _⟩ h
    exact wpAny_pyIter_enum he h
section
variable {X : Cx}
/-- enumerate(x), x a list or a tuple -/
def iEnumA (K : PySem.W.Frag) (ta : TA) : TI := fun σ H R => ta σ H fun vs H1 => ∃ a xs, vs = [.ref a] ∧ ((SqL K H1 a xs ∧ R (Ite K a) H1) ∨ (SqT K H1 a xs ∧ R (IteT K a) H1))
theorem pi_enumA {e : Expr} {ta : TA} {p pos tpos : Pos} {elts : List Expr} {kk : Nat} (hg : Gl X "enumerate") (hm : X.mg "enumerate" = none) (ha : PA X [e] ta) (hs : starEach [e] X.env = [(false, eval e X.env)] := by rfl) :
    PI X (.Tuple elts kk tpos) (.Call (.Name "enumerate" p) [e] [] pos) (iEnumA X.K ta) := by
  refine ⟨fun pins s σ H R I h => ?_⟩
  refine PyProof.Rows.Call_ (ld_blt I hg hm PyProof.Rows.boot_enumerate (PyProof.Rows.callWith_type1 (thn (ha.run pos pins s σ H _ I h) fun us s1 ⟨vs, H1, I1, r1, q1⟩ => ?_) hs rfl))
  obtain ⟨a, xs, ex, hq⟩ := q1
  subst ex
  cases r1 with
  | cons r rr =>
    cases rr
    cases r
    have fp2 : ∀ b ∈ [s1.heap.objs.size + 1, s1.heap.objs.size], FpOk X pins H1 b := fun b hb => by
      have c : b = s1.heap.objs.size + 1 ∨ b = s1.heap.objs.size := by simpa using hb
      have hle : s1.heap.objs.size ≤ b := by
        rcases c with z | z
        · rw [z]; exact Nat.le_add_right _ _
        · rw [z]; exact Nat.le_refl _
      exact I1.fpOk hle (I1.hok.fresh hle)
    rcases hq with ⟨hq, q⟩ | ⟨hq, q⟩
    · obtain ⟨its, rv, p', hz⟩ := I1.list hq
      refine enum1_call (begins_list a its.toArray) p'.isList fun h' he ho hk => wpAny_pyIter_enum he ?_
      exact ⟨s1.heap.objs.size + 1, [s1.heap.objs.size + 1, s1.heap.objs.size], _, _, H1, rfl, I1.kept (t' := s1.toks) hk, turn_enum a (s1.heap.objs.size + 1) s1.heap.objs.size, ⟨⟨.none, he⟩, ⟨_, ho, rfl, rfl⟩, Nat.succ_ne_self _⟩, fp2, q⟩
    · obtain ⟨its, rv, p', hz⟩ := I1.tuple hq
      refine enum1_call (begins_tuple a its.toArray) p' fun h' he ho hk => wpAny_pyIter_enum he ?_
      exact ⟨s1.heap.objs.size + 1, [s1.heap.objs.size + 1, s1.heap.objs.size], _, _, H1, rfl, I1.kept (t' := s1.toks) hk, turn_enumT a (s1.heap.objs.size + 1) s1.heap.objs.size, ⟨⟨.none, he⟩, ⟨_, ho, rfl, rfl⟩, Nat.succ_ne_self _⟩, fp2, q⟩
/-- a list, a tuple or a text walked -/
def iAny (K : PySem.W.Frag) (te : TE) : TI := fun σ H R => te σ H fun x H1 => (∃ a xs, x = .ref a ∧ ((SqL K H1 a xs ∧ R (Itl K a) H1) ∨ (SqT K H1 a xs ∧ R (Itt K a) H1))) ∨ ∃ z, x = .str z ∧ R (Its z) H1
theorem pi_any {tg l : Expr} {te : TE} (hl : PE X l te) : PI X tg l (iAny X.K te) := by
  refine ⟨fun pins s σ H R I h => ?_⟩
  refine thn (hl.run pins s σ H _ I h) fun v s1 ⟨x, H1, I1, r1, q1⟩ => ?_
  rcases q1 with ⟨a, xs, e, q1⟩ | ⟨z, e, q1⟩
  · subst e
    cases r1
    have fp1 : ∀ b ∈ [s1.heap.objs.size], FpOk X pins H1 b := fun b hb => by
      have e : b = s1.heap.objs.size := by simpa using hb
      subst e
      exact I1.fpOk (Nat.le_refl _) (I1.hok.fresh (Nat.le_refl _))
    rcases q1 with ⟨hq, q⟩ | ⟨hq, q⟩
    · obtain ⟨its, rv, p, hz⟩ := I1.list hq
      refine wpAny_pyIter_list p.isList ?_
      exact ⟨s1.heap.objs.size, [s1.heap.objs.size], _, _, H1, rfl, I1.kept (t' := s1.toks) fun b o e => Heap.get?_push_of_some _ e, turn_list a _, ⟨_, Heap.get?_push_size _ rfl, rfl, rfl⟩, fp1, q⟩
    · obtain ⟨its, rv, p, hz⟩ := I1.tuple hq
      refine wpAny_pyIter_tuple (show s1.heap.IsTuple a its.toArray from p) ?_
      exact ⟨s1.heap.objs.size, [s1.heap.objs.size], _, _, H1, rfl, I1.kept (t' := s1.toks) fun b o e => Heap.get?_push_of_some _ e, turn_tuple a _, ⟨_, Heap.get?_push_size _ rfl, rfl, rfl⟩, fp1, q⟩
  · subst e
    obtain ⟨t, rfl⟩ := r1
    refine wpAny_pyIter_strU ?_
    refine pi_one (tk := s1.toks) I1 _ (turn_str s1.heap.objs.size z t (strIterType z) ?_) ⟨_, Heap.get?_push_size _ rfl, rfl, rfl⟩ q1
    unfold strIterType
    split
    · exact .inl rfl
    · exact .inr rfl
end
end T

/-! T, sixth part: walks and comprehensions over trees, calls, defs, errors, the law's end. -/
namespace T
open PySem PySem.Spec L2
section
variable {X : Cx} {W : L2.WX} {pos p : Pos} {tg e a b c : Expr} {es : List Expr} {te ta tb : TE2} {tt : TA2}

/-! ### what is walked -/
/-- the items of a tree: a tuple's, a list's, the signs of a text -/
def seqS : Tr → Ms → Option (List Tr)
  | .str z, _ => some (z.cps.toList.map fun k => .str ⟨#[k]⟩)
  | d, M => seqT d M
def iSq (te : TE2) : TI2 := fun σ M R E => te σ M (fun d M1 => ∃ ds, seqS d M1 = some ds ∧ R (itL ds fun M => seqS d M = some ds) M1) E
theorem itl_ok {K : PySem.W.Frag} {H : Hp} {a : Addr} {d : Tr} {ds : List Tr} (h : ∀ H1 M, Tx K H H1 → SimM K H1 M → seqS d M = some ds → ∃ xs, SqL K H1 a xs ∧ RepL K H1 ds xs) : ItOk K H (Itl K a) (itL ds fun M => seqS d M = some ds) := fun H1 M t sm => by
  refine ⟨fun i ⟨o, hi⟩ => ?_, fun i ⟨o, hi⟩ => ?_, fun i x H2 ⟨o, hi⟩ ⟨e, y⟩ => ?_⟩
  · obtain ⟨xs, sq, rl⟩ := h H1 M t sm o
    exact ⟨xs, sq, by rw [← rl.len]; exact hi⟩
  · obtain ⟨xs, sq, rl⟩ := h H1 M t sm o
    obtain ⟨x, e, _⟩ := rl.get (i := i) (d := ds[i]) (by simp [hi])
    exact ⟨xs, x, sq, e⟩
  · subst e
    obtain ⟨xs, sq, rl⟩ := h _ M t sm o
    obtain ⟨d', e', r⟩ := rl.back (y xs sq)
    exact ⟨Tx.refl, sm, d', r, e'⟩
theorem itt_ok {K : PySem.W.Frag} {H : Hp} {a : Addr} {ds : List Tr} {ok : Ms → Prop} (h : ∀ H1, Tx K H H1 → ∃ xs, SqT K H1 a xs ∧ RepL K H1 ds xs) : ItOk K H (Itt K a) (itL ds ok) := fun H1 M t sm => by
  obtain ⟨xs, sq, rl⟩ := h H1 t
  refine ⟨fun i ⟨_, hi⟩ => ⟨xs, sq, by rw [← rl.len]; exact hi⟩, fun i ⟨_, hi⟩ => ?_, fun i x H2 ⟨_, hi⟩ ⟨e, y⟩ => ?_⟩
  · obtain ⟨x, e, _⟩ := rl.get (i := i) (d := ds[i]) (by simp [hi])
    exact ⟨xs, x, sq, e⟩
  · subst e
    obtain ⟨d', e', r⟩ := rl.back (y xs sq)
    exact ⟨Tx.refl, sm, d', r, e'⟩
theorem its_ok {K : PySem.W.Frag} {H : Hp} {z : Str} {ok : Ms → Prop} : ItOk K H (Its z) (itL (z.cps.toList.map fun k => .str ⟨#[k]⟩) ok) := fun H1 M t sm => by
  refine ⟨fun i ⟨_, hi⟩ => ?_, fun i ⟨_, hi⟩ => ?_, fun i x H2 ⟨_, hi⟩ ⟨e, k, ek, ev⟩ => ?_⟩
  · show z.cps.size ≤ i
    simpa using hi
  · show i < z.cps.size
    simpa using hi
  · subst e
    subst ev
    refine ⟨Tx.refl, sm, .str ⟨#[k]⟩, rfl, ?_⟩
    show (z.cps.toList.map fun k => Tr.str ⟨#[k]⟩)[i]? = _
    rw [List.getElem?_map]
    have : z.cps.toList[i]? = some k := by simpa using ek
    rw [this]; rfl
/-- which list stands at a tree's place -/
theorem seq_cases {K : PySem.W.Frag} {H : Hp} {M : Ms} {d : Tr} {ds : List Tr} {x : V} (e : seqS d M = some ds) (r : Rep K H d x) (sm : SimM K H M) :
    (∃ a xs, x = .ref a ∧ ((SqL K H a xs ∧ ItOk K H (Itl K a) (itL ds fun M => seqS d M = some ds)) ∨ (SqT K H a xs ∧ ItOk K H (Itt K a) (itL ds fun M => seqS d M = some ds)))) ∨ ∃ z, x = .str z ∧ ItOk K H (Its z) (itL ds fun M => seqS d M = some ds) := by
  cases d with
  | str z =>
    cases r
    cases e
    exact .inr ⟨z, rfl, its_ok⟩
  | tup es =>
    obtain ⟨a, xs, rfl, q, rl⟩ := r
    cases e
    exact .inl ⟨a, xs, rfl, .inr ⟨q, itt_ok fun H1 t => ⟨xs, t.tup _ _ q, rl.mono t⟩⟩⟩
  | fro es =>
    obtain ⟨a, xs, rfl, q, rl⟩ := r
    cases e
    exact .inl ⟨a, xs, rfl, .inl ⟨q.sq, itl_ok fun H1 M t _ _ => ⟨xs, (t.fro _ _ q).sq, rl.mono t⟩⟩⟩
  | loc a =>
    cases r
    obtain ⟨xs, hx, rl⟩ := sm a _ (seqT_loc e)
    refine .inl ⟨a, xs, rfl, .inl ⟨SqL.of hx, itl_ok fun H1 M1 t sm1 e1 => ?_⟩⟩
    obtain ⟨ys, hy, rl'⟩ := sm1 a _ (seqT_loc e1)
    exact ⟨ys, SqL.of hy, rl'⟩
  | _ => cases e
theorem qi_any (he : QE X W e te) : QI X W tg e (iSq te) := pi_weak (pi_any he) fun σ H R ⟨σ', M, R', E', hs, hm, q, hq, hx⟩ =>
  ⟨σ', M, _, E', hs, hm, q, fun d M1 x H1 t1 r1 s1 ⟨ds, e1, q1⟩ => by
    rcases seq_cases e1 r1 s1 with ⟨a, xs, ex, h⟩ | ⟨z, ez, h⟩
    · refine .inl ⟨a, xs, ex, ?_⟩
      rcases h with ⟨h1, h2⟩ | ⟨h1, h2⟩
      · exact .inl ⟨h1, hq _ M1 _ H1 t1 s1 h2 q1⟩
      · exact .inr ⟨h1, hq _ M1 _ H1 t1 s1 h2 q1⟩
    · exact .inr ⟨z, ez, hq _ M1 _ H1 t1 s1 h q1⟩, hx⟩
/-- ranges -/
def itR (lo : Int) (n : Nat) : It2 := ⟨fun i _ => i < n, fun i _ d => d = .int (lo + i), fun i _ => n ≤ i⟩
theorem itr_ok {K : PySem.W.Frag} {H : Hp} {lo : Int} {n : Nat} : ItOk K H (Itr lo n) (itR lo n) := fun H1 M t sm => ⟨fun i h => h, fun i h => h, fun i x H2 _ ⟨e, y⟩ => by
  subst e
  subst y
  exact ⟨Tx.refl, sm, .int _, rfl, rfl⟩⟩
def Rg (j : Int) : Prop := -(2 ^ 62) ≤ j ∧ j < 2 ^ 62
def iRg1 (ta : TA2) : TI2 := fun σ M R E => ta σ M (fun ds M1 => ∃ j, ds = [.int j] ∧ Rg j ∧ R (itR 0 j.toNat) M1) E
def iRg2 (ta : TA2) : TI2 := fun σ M R E => ta σ M (fun ds M1 => ∃ i j, ds = [.int i, .int j] ∧ Rg i ∧ Rg j ∧ R (itR i (j - i).toNat) M1) E
theorem qi_range1 (hm : X.mg "range" = none) (ha : QA X W [a] tt) (hg : Gl X "range" := by rfl) (hs : starEach [a] X.env = [(false, eval a X.env)] := by rfl) : QI X W tg (.Call (.Name "range" p) [a] [] pos) (iRg1 tt) :=
  pi_weak (pi_range1 hg hm ha hs) fun σ H R ⟨σ', M, R', E', hs, hm, q, hq, hx⟩ => ⟨σ', M, _, E', hs, hm, q, fun ds M1 xs H1 t1 r1 s1 ⟨j, ej, hj, q1⟩ => by
    subst ej
    obtain ⟨x, rfl, r2⟩ := one_of r1
    cases r2
    exact ⟨j, rfl, hj.1, hj.2, hq _ M1 _ H1 t1 s1 itr_ok q1⟩, hx⟩
theorem qi_range2 (hm : X.mg "range" = none) (ha : QA X W [a, b] tt) (hg : Gl X "range" := by rfl) (hs : starEach [a, b] X.env = [(false, eval a X.env), (false, eval b X.env)] := by rfl) (hs2 : starEach [b] X.env = [(false, eval b X.env)] := by rfl) : QI X W tg (.Call (.Name "range" p) [a, b] [] pos) (iRg2 tt) :=
  pi_weak (pi_range2 hg hm ha hs hs2) fun σ H R ⟨σ', M, R', E', hs, hm, q, hq, hx⟩ => ⟨σ', M, _, E', hs, hm, q, fun ds M1 xs H1 t1 r1 s1 ⟨i, j, ej, hi, hj, q1⟩ => by
    subst ej
    obtain ⟨x, y, rfl, r2, r3⟩ := two_of r1
    cases r2; cases r3
    exact ⟨i, j, rfl, ⟨hi.1, hi.2, hj.1, hj.2⟩, hq _ M1 _ H1 t1 s1 itr_ok q1⟩, hx⟩
/-- enumerate -/
def itE (ds : List Tr) (ok : Ms → Prop) : It2 := ⟨fun i M => ok M ∧ i < ds.length, fun i _ d => ∃ e, ds[i]? = some e ∧ d = .tup [.int i, e], fun i M => ok M ∧ ds.length ≤ i⟩
def iEn (ta : TA2) : TI2 := fun σ M R E => ta σ M (fun es M1 => ∃ d ds, es = [d] ∧ seqT d M1 = some ds ∧ R (itE ds fun M => seqT d M = some ds) M1) E
theorem pair_rep {K : PySem.W.Frag} {H : Hp} {M : Ms} {i : Nat} {x : V} {d : Tr} {T : Addr} (hT : H T = none) (r : Rep K H d x) (sm : SimM K H M) :
    Tx K H (upd H T (.tup [.int (i : Nat), x])) ∧ SimM K (upd H T (.tup [.int (i : Nat), x])) M ∧ Rep K (upd H T (.tup [.int (i : Nat), x])) (.tup [.int i, d]) (.ref T) :=
  ⟨Tx.new hT, sm.hid hT, T, _, rfl, SqT.of upd_same, .int i, [x], rfl, rfl, x, [], rfl, r.mono (Tx.new hT), rfl⟩
theorem ite_ok {K : PySem.W.Frag} {H : Hp} {a : Addr} {d : Tr} {ds : List Tr} (h : ∀ H1 M, Tx K H H1 → SimM K H1 M → seqT d M = some ds → ∃ xs, SqL K H1 a xs ∧ RepL K H1 ds xs) : ItOk K H (Ite K a) (itE ds fun M => seqT d M = some ds) := fun H1 M t sm => by
  refine ⟨fun i ⟨o, hi⟩ => ?_, fun i ⟨o, hi⟩ => ?_, fun i x H2 ⟨o, hi⟩ ⟨T, y, ex, hT, e, hy⟩ => ?_⟩
  · obtain ⟨xs, sq, rl⟩ := h H1 M t sm o
    exact ⟨xs, sq, by rw [← rl.len]; exact hi⟩
  · obtain ⟨xs, sq, rl⟩ := h H1 M t sm o
    obtain ⟨x, e, _⟩ := rl.get (i := i) (d := ds[i]) (by simp [hi])
    exact ⟨xs, x, sq, e⟩
  · subst e
    subst ex
    obtain ⟨xs, sq, rl⟩ := h _ M t sm o
    obtain ⟨d', e', r⟩ := rl.back (hy xs sq)
    obtain ⟨p1, p2, p3⟩ := pair_rep (i := i) hT r sm
    exact ⟨p1, p2, _, p3, d', e', rfl⟩
theorem itet_ok {K : PySem.W.Frag} {H : Hp} {a : Addr} {ds : List Tr} {ok : Ms → Prop} (h : ∀ H1, Tx K H H1 → ∃ xs, SqT K H1 a xs ∧ RepL K H1 ds xs) : ItOk K H (IteT K a) (itE ds ok) := fun H1 M t sm => by
  obtain ⟨xs, sq, rl⟩ := h H1 t
  refine ⟨fun i ⟨_, hi⟩ => ⟨xs, sq, by rw [← rl.len]; exact hi⟩, fun i ⟨_, hi⟩ => ?_, fun i x H2 ⟨_, hi⟩ ⟨T, y, ex, hT, e, hy⟩ => ?_⟩
  · obtain ⟨x, e, _⟩ := rl.get (i := i) (d := ds[i]) (by simp [hi])
    exact ⟨xs, x, sq, e⟩
  · subst e
    subst ex
    obtain ⟨d', e', r⟩ := rl.back (hy xs sq)
    obtain ⟨p1, p2, p3⟩ := pair_rep (i := i) hT r sm
    exact ⟨p1, p2, _, p3, d', e', rfl⟩
theorem qi_enum {elts : List Expr} {kk : Nat} {tpos : Pos} (hm : X.mg "enumerate" = none) (ha : QA X W [e] tt) (hg : Gl X "enumerate" := by rfl) (hs : starEach [e] X.env = [(false, eval e X.env)] := by rfl) :
    QI X W (.Tuple elts kk tpos) (.Call (.Name "enumerate" p) [e] [] pos) (iEn tt) := pi_weak (pi_enumA hg hm ha hs) fun σ H R ⟨σ', M, R', E', hs, hm, q, hq, hx⟩ =>
  ⟨σ', M, _, E', hs, hm, q, fun es M1 xs H1 t1 r1 s1 ⟨d, ds, ee, e1, q1⟩ => by
    subst ee
    obtain ⟨x, rfl, r2⟩ := one_of r1
    cases d with
    | tup es =>
      obtain ⟨a, xs, rfl, q, rl⟩ := r2
      cases e1
      exact ⟨a, xs, rfl, .inr ⟨q, hq _ M1 _ H1 t1 s1 (itet_ok fun H2 t => ⟨xs, t.tup _ _ q, rl.mono t⟩) q1⟩⟩
    | fro es =>
      obtain ⟨a, xs, rfl, q, rl⟩ := r2
      cases e1
      exact ⟨a, xs, rfl, .inl ⟨q.sq, hq _ M1 _ H1 t1 s1 (ite_ok fun H2 M2 t _ _ => ⟨xs, (t.fro _ _ q).sq, rl.mono t⟩) q1⟩⟩
    | loc a =>
      cases r2
      obtain ⟨xs, hx, rl⟩ := s1 a _ (seqT_loc e1)
      refine ⟨a, xs, rfl, .inl ⟨SqL.of hx, hq _ M1 _ H1 t1 s1 (ite_ok fun H2 M2 t sm2 e2 => ?_) q1⟩⟩
      obtain ⟨ys, hy, rl'⟩ := sm2 a _ (seqT_loc e2)
      exact ⟨ys, SqL.of hy, rl'⟩
    | _ => exact absurd e1 (by intro z; cases z), hx⟩
theorem for_itE {g : TG2} {t : TS2} {ds : List Tr} {ok : Ms → Prop} {D : Ends2} {σ : St2} {M : Ms} (Pv : Nat → St2 → Ms → Prop) (h0 : Pv 0 σ M) (hok : ∀ i σ M, i ≤ ds.length → Pv i σ M → ok M)
    (hs : ∀ i d σ M, ds[i]? = some d → Pv i σ M → g (.tup [.int i, d]) σ M fun σ2 M2 => t { D with nx := Pv (i + 1), ct := Pv (i + 1), bk := D.nx } σ2 M2) (hd : ∀ σ M, Pv ds.length σ M → D.nx σ M) :
    ∃ W : Nat → Nat → St2 → Ms → Prop, (∃ m, W 0 m σ M) ∧ ∀ i m σ M, W i m σ M → ((itE ds ok).stop i M ∧ D.nx σ M) ∨ ((itE ds ok).go i M ∧ ∃ N : St2 → Ms → Prop, (∀ σ' M', N σ' M' → ∃ m', m' < m ∧ W (i + 1) m' σ' M') ∧
      ∀ d, (itE ds ok).yld i M d → g d σ M fun σ2 M2 => t { D with nx := N, ct := N, bk := D.nx } σ2 M2) := by
  refine ⟨fun i m σ M => m = ds.length - i ∧ i ≤ ds.length ∧ Pv i σ M, ⟨ds.length, by simp, Nat.zero_le _, h0⟩, ?_⟩
  rintro i m σ M ⟨rfl, hi, p⟩
  by_cases lt : i < ds.length
  · refine .inr ⟨⟨hok i σ M hi p, lt⟩, Pv (i + 1), fun σ' M' p' => ⟨ds.length - (i + 1), by omega, rfl, lt, p'⟩, fun d y => ?_⟩
    obtain ⟨e, e1, e2⟩ := y
    subst e2
    exact hs i e σ M e1 p
  · have e : i = ds.length := by omega
    subst e
    exact .inl ⟨⟨hok _ σ M hi p, Nat.le_refl _⟩, hd σ M p⟩
theorem for_itR {g : TG2} {t : TS2} {lo : Int} {n : Nat} {D : Ends2} {σ : St2} {M : Ms} (Pv : Nat → St2 → Ms → Prop) (h0 : Pv 0 σ M)
    (hs : ∀ (i : Nat) σ M, i < n → Pv i σ M → g (.int (lo + i)) σ M fun σ2 M2 => t { D with nx := Pv (i + 1), ct := Pv (i + 1), bk := D.nx } σ2 M2) (hd : ∀ σ M, Pv n σ M → D.nx σ M) :
    ∃ W : Nat → Nat → St2 → Ms → Prop, (∃ m, W 0 m σ M) ∧ ∀ i m σ M, W i m σ M → ((itR lo n).stop i M ∧ D.nx σ M) ∨ ((itR lo n).go i M ∧ ∃ N : St2 → Ms → Prop, (∀ σ' M', N σ' M' → ∃ m', m' < m ∧ W (i + 1) m' σ' M') ∧
      ∀ d, (itR lo n).yld i M d → g d σ M fun σ2 M2 => t { D with nx := N, ct := N, bk := D.nx } σ2 M2) := by
  refine ⟨fun i m σ M => m = n - i ∧ i ≤ n ∧ Pv i σ M, ⟨n, by simp, Nat.zero_le _, h0⟩, ?_⟩
  rintro i m σ M ⟨rfl, hi, p⟩
  by_cases lt : i < n
  · refine .inr ⟨lt, Pv (i + 1), fun σ' M' p' => ⟨n - (i + 1), by omega, rfl, lt, p'⟩, fun d y => ?_⟩
    have y' : d = .int (lo + i) := y
    subst y'
    exact hs i σ M lt p
  · have e : i = n := by omega
    subst e
    exact .inl ⟨Nat.le_refl _, hd σ M p⟩

/-! ### comprehensions -/
abbrev W0 : L2.WX := fun _ _ _ _ => False
def wipe2 (σ : St2) : List Nat → St2
  | [] => σ
  | v :: vs => (wipe2 σ vs).set v none
theorem SimS.wipe {K : PySem.W.Frag} {H : Hp} {σ' : St2} {σ : L2.St} (h : SimS K H σ' σ) : ∀ vs : List Nat, SimS K H (wipe2 σ' vs) (L2.wipe σ vs)
  | [] => h
  | v :: vs => (h.wipe vs).none v
def tYes2 : TT2 := fun _ M Q _ => Q true M
abbrev QTs (X : Cx) (ifs : List Expr) (t : TT2) : Prop := PTs X ifs (lfT X.K W0 t)
theorem pts_weak {ifs : List Expr} {t t' : TT} (h : PTs X ifs t) (w : ∀ σ H Q, t' σ H Q → t σ H Q) : PTs X ifs t' := ⟨fun pins s σ H Q I q => h.run pins s σ H Q I (w σ H Q q)⟩
theorem qts_nil : QTs X [] tYes2 := pts_weak pts_nil fun σ H Q ⟨σ', M, Q', E', hs, hm, q, hq, hx⟩ => hq true M H Tx.refl hm q
theorem qts_one {t : TT2} (h : QT X W0 c t) : QTs X [c] t := pts_one h
def eLc (wi : TI2) (g : TG2) (tt : TT2) (te : TE2) (vs : List Nat) : TE2 := fun σ M Q E => wi σ M (fun J M1 => ∀ p, M1 p = none → ∃ W : Nat → Nat → Ms → Prop, (∃ m, W 0 m (up M1 p (.lst []))) ∧ ∀ i m M, W i m M →
  (J.stop i M ∧ Q (.loc p) M) ∨ (J.go i M ∧ ∃ N : Ms → Prop, (∀ M', N M' → ∃ m', m' < m ∧ W (i + 1) m' M') ∧ ∀ d, J.yld i M d → g d (wipe2 σ vs) M fun σ2 M2 => tt σ2 M2 (fun b M3 =>
    if b = true then te σ2 M3 (fun y M4 => ∃ acc, M4 p = some (.lst acc) ∧ acc.length < sizeLine ∧ N (up M4 p (.lst (acc ++ [y])))) X0 else N M3) X0)) E
theorem lc_low {K : PySem.W.Frag} {wi : TI2} {g : TG2} {js vs : List Nat} {t : TT2} {σ : L2.St} {H : Hp} {Q : VK} (hv : ∀ i ∈ js, i ∈ vs) (h : lfE K W (eLc wi g t te vs) σ H Q) : tLc (lfI K W wi) (lfG K js g) (lfT K W0 t) (lfE K W0 te) vs σ H Q := by
  obtain ⟨σ', M, Q', E', hs, hm, q, hq, hx⟩ := h
  refine ⟨σ', M, _, E', hs, hm, q, fun J2 M1 J H1 t1 m1 ok r D hD => ?_, hx⟩
  obtain ⟨V0, ⟨n0, w0⟩, turn⟩ := r D (m1.free hD)
  refine ⟨fun i m H2 => ∃ M2, Tx K H1 H2 ∧ SimM K H2 M2 ∧ V0 i m M2, ⟨n0, _, Tx.new hD, m1.newL hD RepL.nil, w0⟩, ?_⟩
  rintro i m H2 ⟨M2, t2, m2, w2⟩
  obtain ⟨o1, o2, o3⟩ := ok H2 M2 t2 m2
  rcases turn i m M2 w2 with ⟨st, q2⟩ | ⟨go, N, hN, q2⟩
  · exact .inl ⟨o1 i st, hq (.loc D) M2 (.ref D) H2 (t1.trans t2) rfl m2 q2⟩
  · refine .inr ⟨o2 i go, fun H3 => ∃ M3, Tx K H1 H3 ∧ SimM K H3 M3 ∧ N M3, fun H3 ⟨M3, t3, m3, n3⟩ => ?_, fun x H3 y => ?_⟩
    · obtain ⟨m', lt, w'⟩ := hN M3 n3
      exact ⟨m', lt, M3, t3, m3, w'⟩
    · obtain ⟨t3, m3, d, rd, yd⟩ := o3 i x H3 go y
      have T3 := t2.trans t3
      refine ⟨d, wipe2 σ' vs, M2, _, rd, (hs.mono (t1.trans T3)).wipe vs, m3, q2 d yd, fun σ2' M4 σ2 H4 t4 s4 m4 agr q4 => ⟨agr.wipe hv, σ2', M4, _, X0, s4, m4, q4, fun b M5 H5 t5 m5 q5 => ?_, fun _ _ _ _ _ _ z => False.elim z⟩⟩
      cases b with
      | false => exact ⟨M5, (T3.trans t4).trans t5, m5, q5⟩
      | true =>
        refine ⟨σ2', M5, _, X0, s4.mono t5, m5, q5, fun d6 M6 v6 H6 t6 r6 m6 ⟨acc, ea, hz, n6⟩ => ?_, fun _ _ _ _ _ _ z => False.elim z⟩
        obtain ⟨xs, hxs, rl⟩ := m6 D _ ea
        exact ⟨xs, hxs, by rw [← rl.len]; exact hz, _, (((T3.trans t4).trans t5).trans t6).trans (Tx.lst hxs), m6.setL hxs (rl.app (.one r6)), n6⟩
theorem qe_lc {elt iter : Expr} {ifs : List Expr} {scope : Scope} {own : List (Str × Nat)} {wi : TI2} {g : TG2} {js : List Nat} {t : TT2} (hc : X.calm = true) (hN : X.N.Nodup) (hi : QI X W tg iter wi) (ok : BlkOk X.N X.env.scope scope own) (hv : ∀ i ∈ js, i ∈ own.map (·.2))
    (hg : ∀ (s : Shared) (H : Hp) (C : Addr) (cl : List (Str × Addr)) (fp : List Addr), QG (X.blk s H scope (compEnvC scope cl C X.env) fp) tg g js) (ht : ∀ (s : Shared) (H : Hp) (C : Addr) (cl : List (Str × Addr)) (fp : List Addr), QTs (X.blk s H scope (compEnvC scope cl C X.env) fp) ifs t)
    (he : ∀ (s : Shared) (H : Hp) (C : Addr) (cl : List (Str × Addr)) (fp : List Addr), QE (X.blk s H scope (compEnvC scope cl C X.env) fp) W0 elt te) (hs : ∀ x, foldedSetIterable iter X.env x = pure x := by intro _; rfl) :
    QE X W (.ListComp elt [⟨tg, iter, ifs, 0⟩] scope pos) (eLc wi g t te (own.map (·.2))) := pe_weak (pe_lc hc hN hi ok hg ht he hs) fun σ H Q h => lc_low hv h
theorem qs_setLc {i : Nat} {y : Str} {py : Pos} {elt iter : Expr} {ifs : List Expr} {scope : Scope} {own : List (Str × Nat)} {spos : Pos} {wi : TI2} {g : TG2} {js : List Nat} {t : TT2} (hc : X.calm = true) (hN : X.N.Nodup) (hyl : X.env.scope.names.lookup y = some .local)
    (hsw : swapsWith (.ListComp elt [⟨tg, iter, ifs, 0⟩] scope pos) (some (.Name y py)) spos.line X.env = pure true) (hi : QI X W tg iter wi) (ok : BlkOk X.N X.env.scope scope own) (hv : ∀ i ∈ js, i ∈ own.map (·.2))
    (hg : ∀ (s : Shared) (H : Hp) (C : Addr) (cl : List (Str × Addr)) (fp : List Addr), QG (X.blk s H scope (compEnvC scope cl C X.env) fp) tg g js) (ht : ∀ (s : Shared) (H : Hp) (C : Addr) (cl : List (Str × Addr)) (fp : List Addr), QTs (X.blk s H scope (compEnvC scope cl C X.env) fp) ifs t)
    (he : ∀ (s : Shared) (H : Hp) (C : Addr) (cl : List (Str × Addr)) (fp : List Addr), QE (X.blk s H scope (compEnvC scope cl C X.env) fp) W0 elt te) (hy : X.N[i]? = some y := by rfl) (hs : ∀ x, foldedSetIterable iter X.env x = pure x := by intro _; rfl) :
    QS X W (.Assign [.Name y py] (.ListComp elt [⟨tg, iter, ifs, 0⟩] scope pos) spos) (sAs (eLc wi g t te (own.map (·.2))) (gN i)) := ps_weak (ps_setLc hc hN hy hyl hsw hi ok hg ht he hs) fun D σ H ⟨σ', M, D', hs, hm, q, L⟩ => by
  show tLc _ _ _ _ _ σ H _
  exact lc_low hv ⟨σ', M, _, _, hs, hm, q, fun d M1 v H1 t1 r1 s1 q1 => L.nx _ M1 _ H1 t1 ((hs.mono t1).set i r1) s1 q1, L.x hs⟩
/-! the forms one uses: Pv by the turn and the store -/
theorem lc_itL {g : TG2} {t : TT2} {vs : List Nat} {ds : List Tr} {ok : Ms → Prop} {σ : St2} {M1 : Ms} {p : Addr} {Qd : Ms → Prop} (Pv : Nat → Ms → Prop) (h0 : Pv 0 (up M1 p (.lst []))) (hok : ∀ i M, i ≤ ds.length → Pv i M → ok M)
    (hs : ∀ i d M, ds[i]? = some d → Pv i M → g d (wipe2 σ vs) M fun σ2 M2 => t σ2 M2 (fun b M3 => if b = true then te σ2 M3 (fun y M4 => ∃ acc, M4 p = some (.lst acc) ∧ acc.length < sizeLine ∧ Pv (i + 1) (up M4 p (.lst (acc ++ [y])))) X0 else Pv (i + 1) M3) X0)
    (hd : ∀ M, Pv ds.length M → Qd M) :
    ∃ W : Nat → Nat → Ms → Prop, (∃ m, W 0 m (up M1 p (.lst []))) ∧ ∀ i m M, W i m M → ((itL ds ok).stop i M ∧ Qd M) ∨ ((itL ds ok).go i M ∧ ∃ N : Ms → Prop, (∀ M', N M' → ∃ m', m' < m ∧ W (i + 1) m' M') ∧ ∀ d, (itL ds ok).yld i M d →
      g d (wipe2 σ vs) M fun σ2 M2 => t σ2 M2 (fun b M3 => if b = true then te σ2 M3 (fun y M4 => ∃ acc, M4 p = some (.lst acc) ∧ acc.length < sizeLine ∧ N (up M4 p (.lst (acc ++ [y])))) X0 else N M3) X0) := by
  refine ⟨fun i m M => m = ds.length - i ∧ i ≤ ds.length ∧ Pv i M, ⟨ds.length, by simp, Nat.zero_le _, h0⟩, ?_⟩
  rintro i m M ⟨rfl, hi, q⟩
  by_cases lt : i < ds.length
  · exact .inr ⟨⟨hok i M hi q, lt⟩, Pv (i + 1), fun M' q' => ⟨ds.length - (i + 1), by omega, rfl, lt, q'⟩, fun d y => hs i d M y q⟩
  · have e : i = ds.length := by omega
    subst e
    exact .inl ⟨⟨hok _ M hi q, Nat.le_refl _⟩, hd M q⟩
theorem lc_itE {g : TG2} {t : TT2} {vs : List Nat} {ds : List Tr} {ok : Ms → Prop} {σ : St2} {M1 : Ms} {p : Addr} {Qd : Ms → Prop} (Pv : Nat → Ms → Prop) (h0 : Pv 0 (up M1 p (.lst []))) (hok : ∀ i M, i ≤ ds.length → Pv i M → ok M)
    (hs : ∀ i d M, ds[i]? = some d → Pv i M → g (.tup [.int i, d]) (wipe2 σ vs) M fun σ2 M2 => t σ2 M2 (fun b M3 => if b = true then te σ2 M3 (fun y M4 => ∃ acc, M4 p = some (.lst acc) ∧ acc.length < sizeLine ∧ Pv (i + 1) (up M4 p (.lst (acc ++ [y])))) X0 else Pv (i + 1) M3) X0)
    (hd : ∀ M, Pv ds.length M → Qd M) :
    ∃ W : Nat → Nat → Ms → Prop, (∃ m, W 0 m (up M1 p (.lst []))) ∧ ∀ i m M, W i m M → ((itE ds ok).stop i M ∧ Qd M) ∨ ((itE ds ok).go i M ∧ ∃ N : Ms → Prop, (∀ M', N M' → ∃ m', m' < m ∧ W (i + 1) m' M') ∧ ∀ d, (itE ds ok).yld i M d →
      g d (wipe2 σ vs) M fun σ2 M2 => t σ2 M2 (fun b M3 => if b = true then te σ2 M3 (fun y M4 => ∃ acc, M4 p = some (.lst acc) ∧ acc.length < sizeLine ∧ N (up M4 p (.lst (acc ++ [y])))) X0 else N M3) X0) := by
  refine ⟨fun i m M => m = ds.length - i ∧ i ≤ ds.length ∧ Pv i M, ⟨ds.length, by simp, Nat.zero_le _, h0⟩, ?_⟩
  rintro i m M ⟨rfl, hi, q⟩
  by_cases lt : i < ds.length
  · refine .inr ⟨⟨hok i M hi q, lt⟩, Pv (i + 1), fun M' q' => ⟨ds.length - (i + 1), by omega, rfl, lt, q'⟩, fun d y => ?_⟩
    obtain ⟨e, e1, e2⟩ := y
    subst e2
    exact hs i e M e1 q
  · have e : i = ds.length := by omega
    subst e
    exact .inl ⟨⟨hok _ M hi q, Nat.le_refl _⟩, hd M q⟩
theorem lc_itR {g : TG2} {t : TT2} {vs : List Nat} {lo : Int} {n : Nat} {σ : St2} {M1 : Ms} {p : Addr} {Qd : Ms → Prop} (Pv : Nat → Ms → Prop) (h0 : Pv 0 (up M1 p (.lst [])))
    (hs : ∀ (i : Nat) M, i < n → Pv i M → g (.int (lo + i)) (wipe2 σ vs) M fun σ2 M2 => t σ2 M2 (fun b M3 => if b = true then te σ2 M3 (fun y M4 => ∃ acc, M4 p = some (.lst acc) ∧ acc.length < sizeLine ∧ Pv (i + 1) (up M4 p (.lst (acc ++ [y])))) X0 else Pv (i + 1) M3) X0)
    (hd : ∀ M, Pv n M → Qd M) :
    ∃ W : Nat → Nat → Ms → Prop, (∃ m, W 0 m (up M1 p (.lst []))) ∧ ∀ i m M, W i m M → ((itR lo n).stop i M ∧ Qd M) ∨ ((itR lo n).go i M ∧ ∃ N : Ms → Prop, (∀ M', N M' → ∃ m', m' < m ∧ W (i + 1) m' M') ∧ ∀ d, (itR lo n).yld i M d →
      g d (wipe2 σ vs) M fun σ2 M2 => t σ2 M2 (fun b M3 => if b = true then te σ2 M3 (fun y M4 => ∃ acc, M4 p = some (.lst acc) ∧ acc.length < sizeLine ∧ N (up M4 p (.lst (acc ++ [y])))) X0 else N M3) X0) := by
  refine ⟨fun i m M => m = n - i ∧ i ≤ n ∧ Pv i M, ⟨n, by simp, Nat.zero_le _, h0⟩, ?_⟩
  rintro i m M ⟨rfl, hi, q⟩
  by_cases lt : i < n
  · refine .inr ⟨lt, Pv (i + 1), fun M' q' => ⟨n - (i + 1), by omega, rfl, lt, q'⟩, fun d y => ?_⟩
    have y' : d = .int (lo + i) := y
    subst y'
    exact hs i M lt q
  · have e : i = n := by omega
    subst e
    exact .inl ⟨Nat.le_refl _, hd M q⟩
end
section
variable {M : Ms} {b : Bool} {i : Int} {x : Str} {ds : List Tr} {kvs : List (Key × Tr)} {a : Addr} {n : String}
@[simp] theorem tyT_non' : tyT .non M = some "NoneType" := rfl
@[simp] theorem tyT_bl' : tyT (.bl b) M = some "bool" := rfl
@[simp] theorem tyT_int' : tyT (.int i) M = some "int" := rfl
@[simp] theorem tyT_str' : tyT (.str x) M = some "str" := rfl
@[simp] theorem tyT_tup' : tyT (.tup ds) M = some "tuple" := rfl
@[simp] theorem tyT_fro' : tyT (.fro ds) M = some "list" := rfl
theorem tyT_lst {a : Addr} (h : M a = some (.lst ds)) : tyT (.loc a) M = some "list" := by simp only [tyT, h]
theorem tyT_dic {a : Addr} (h : M a = some (.dic kvs)) : tyT (.loc a) M = some "dict" := by simp only [tyT, h]
@[simp] theorem lenT_tup' : lenT (.tup ds) M = some ds.length := rfl
@[simp] theorem lenT_fro' : lenT (.fro ds) M = some ds.length := rfl
theorem lenT_str' (h : x.length ≤ sizeLine) : lenT (.str x) M = some x.length := by simp only [lenT, if_pos h]
theorem lenT_lst (h : M a = some (.lst ds)) : lenT (.loc a) M = some ds.length := by simp only [lenT, h]
theorem lenT_dic (h : M a = some (.dic kvs)) : lenT (.loc a) M = some kvs.length := by simp only [lenT, h]
@[simp] theorem seqT_tup' : seqT (.tup ds) M = some ds := rfl
@[simp] theorem seqT_fro' : seqT (.fro ds) M = some ds := rfl
theorem seqT_lst (h : M a = some (.lst ds)) : seqT (.loc a) M = some ds := by simp only [seqT, h]
@[simp] theorem seqS_tup' : seqS (.tup ds) M = some ds := rfl
@[simp] theorem seqS_fro' : seqS (.fro ds) M = some ds := rfl
@[simp] theorem seqS_loc' : seqS (.loc a) M = seqT (.loc a) M := rfl
@[simp] theorem seqS_str' : seqS (.str x) M = some (x.cps.toList.map fun k => .str ⟨#[k]⟩) := rfl
@[simp] theorem truT_non' : truT .non M = some false := rfl
@[simp] theorem truT_bl' : truT (.bl b) M = some b := rfl
@[simp] theorem truT_int' : truT (.int i) M = some (i != 0) := rfl
@[simp] theorem truT_tup' : truT (.tup ds) M = some (!ds.isEmpty) := rfl
@[simp] theorem truT_fro' : truT (.fro ds) M = some (!ds.isEmpty) := rfl
theorem truT_lst (h : M a = some (.lst ds)) : truT (.loc a) M = some (!ds.isEmpty) := by simp only [truT, h]
@[simp] theorem isT_str' : isT n (.str x) M = (n = "str") := rfl
@[simp] theorem isT_int' : isT n (.int i) M = (n = "int") := rfl
@[simp] theorem isT_fro' : isT n (.fro ds) M = (n = "list") := rfl
theorem isT_lst (h : M a = some (.lst ds)) : isT "list" (.loc a) M := .inl ⟨rfl, ds, h⟩
theorem isT_dic (h : M a = some (.dic kvs)) : isT "dict" (.loc a) M := .inr ⟨rfl, kvs, h⟩
@[simp] theorem flatT_non' : flatT .non = true := rfl
@[simp] theorem flatT_bl' : flatT (.bl b) = true := rfl
@[simp] theorem flatT_int' : flatT (.int i) = true := rfl
@[simp] theorem flatT_str' : flatT (.str x) = true := rfl
@[simp] theorem keyT_int' : keyT (.int i) = some (.inl i) := rfl
@[simp] theorem keyT_str' : keyT (.str x) = some (.inr x) := rfl
@[simp] theorem up_at {o : MO} : up M a o a = some o := up_same
@[simp] theorem up_up' {o u : MO} : up (up M a o) a u = up M a u := up_up
end
end T

/-! T, seventh part: calls, defs, errors, the law's end. -/
namespace T
open PySem PySem.Spec PyProof.Rows L2

abbrev Sp2 := List Tr → Ms → Q2 → X2 → Prop
/-- what a caller sees of a value, of an error -/
def seeQ (K : PySem.W.Frag) (Q : Q2) : VK := fun v H' => ∃ d M', Rep K H' d v ∧ SimM K H' M' ∧ Q d M'
def seeX (K : PySem.W.Frag) (H : Hp) (E : X2) : XK := fun c dd H' => ∃ M', Tx K H H' ∧ SimM K H' M' ∧ E c dd M'
/-- the store may know more than one says -/
def Le (M M' : Ms) : Prop := ∀ a o, M a = some o → M' a = some o
theorem Le.refl {M : Ms} : Le M M := fun _ _ h => h
theorem Le.trans {M M1 M2 : Ms} (a : Le M M1) (b : Le M1 M2) : Le M M2 := fun x o h => b x o (a x o h)
theorem Le.new {M : Ms} {p : Addr} {o : MO} (h : M p = none) : Le M (up M p o) := fun a u e => by rw [up_ne (m_ne e h)]; exact e
theorem Le.none {M M' : Ms} {p : Addr} (l : Le M M') (h : M' p = none) : M p = none := by
  cases q : M p with
  | none => rfl
  | some o => rw [l p o q] at h; cases h
theorem Le.up {M M' : Ms} {p : Addr} {o : MO} (l : Le M M') : Le (T.up M p o) (T.up M' p o) := fun a u e => by
  by_cases c : a = p
  · subst c; rw [up_same] at e ⊢; exact e
  · rw [up_ne c] at e ⊢; exact l a u e
theorem SimM.le {K : PySem.W.Frag} {H : Hp} {M M' : Ms} (h : SimM K H M') (l : Le M M') : SimM K H M := fun a o e => h a o (l a o e)
def Fg (Q : Q2) : Q2 := fun d M => ∃ M0, Le M0 M ∧ Q d M0
def FgX (E : X2) : X2 := fun c dd M => ∃ M0, Le M0 M ∧ E c dd M0
theorem Fg.same {Q : Q2} {d : Tr} {M : Ms} (h : Q d M) : Fg Q d M := ⟨M, Le.refl, h⟩
theorem FgX.same {E : X2} {c : Value} {dd : Option Addr} {M : Ms} (h : E c dd M) : FgX E c dd M := ⟨M, Le.refl, h⟩
theorem Fg.le {Q : Q2} {d : Tr} {M M' : Ms} (l : Le M M') (h : Q d M) : Fg Q d M' := ⟨M, l, h⟩
theorem FgX.le {E : X2} {c : Value} {dd : Option Addr} {M M' : Ms} (l : Le M M') (h : E c dd M) : FgX E c dd M' := ⟨M, l, h⟩
/-- the ends of a def's body -/
def fEnds (Q : Q2) (E : X2) : Ends2 := { nx := fun _ M' => Fg Q .non M', rt := Fg Q, bk := fun _ _ => False, ct := fun _ _ => False, ex := fun c dd _ M' => FgX E c dd M' }
/-- the def at f keeps the promise sp, by at most level k -/
structure FnT (P : Program) (w : World) (K : PySem.W.Frag) (mg : Str → Option Value) (base : Heap) (k : Nat) (f : Addr) (fd : FuncData) (ps : List Str) (sp : Sp2) : Prop where
  len : ∀ ds M Q E, sp ds M Q E → ds.length = ps.length
  run : ∀ (A : Around) (outer : List Env) (s : Shared) (H : Hp) (args : Args) (us : List Value) (vs : List V) (ds : List Tr) (M : Ms) (Q : Q2) (E : X2), Room k A → A.guards = some [] → Env0 P w K mg base A outer s H → BindsTo s fd args (ps.zip us) → Vals vs us →
    RepL K H ds vs → SimM K H M → sp ds M Q E → codeAny (model P w) A (.call (.ref f) args) (CR (L2.CX P w) outer P w H s (seeQ K Q) (seeX K H E)) s
theorem FnT.mono {P : Program} {w : World} {K : PySem.W.Frag} {mg : Str → Option Value} {base : Heap} {j k : Nat} {f : Addr} {fd : FuncData} {ps : List Str} {sp : Sp2} (F : FnT P w K mg base j f fd ps sp) (h : j ≤ k) : FnT P w K mg base k f fd ps sp :=
  ⟨F.len, fun A outer s H args us vs ds M Q E hr => F.run A outer s H args us vs ds M Q E (hr.mono h)⟩
theorem FnT.imp {P : Program} {w : World} {K : PySem.W.Frag} {mg : Str → Option Value} {base : Heap} {k : Nat} {f : Addr} {fd : FuncData} {ps : List Str} {sp sp' : Sp2} (F : FnT P w K mg base k f fd ps sp) (h : ∀ ds M Q E, sp' ds M Q E → sp ds M Q E) : FnT P w K mg base k f fd ps sp' :=
  ⟨fun ds M Q E q => F.len ds M Q E (h _ _ _ _ q), fun A outer s H args us vs ds M Q E hr hg he hb hv rd sm q => F.run A outer s H args us vs ds M Q E hr hg he hb hv rd sm (h _ _ _ _ q)⟩
theorem cx_imp {P : Program} {w : World} {outer : List Env} {H : Hp} {s s' : Shared} {E E' : XK} {u : Value} (h : ∀ c d H', E c d H' → E' c d H') (x : L2.CX P w outer H s E u s') : L2.CX P w outer H s E' u s' := by
  obtain ⟨a, B, H', cls, d, e1, e2, e3, e4, e5, e6, e7, e8⟩ := x
  exact ⟨a, B, H', cls, d, e1, e2, e3, e4, e5, e6, e7, h _ _ _ e8⟩
section
variable {X : Cx} {W : L2.WX} {k : Nat} {f C : Addr} {fd : FuncData} {ps : List Str} {sp : Sp2} {dvs : List Tr} {dus : List V} {ds : List Value} {x m : Str} {p pos apos : Pos} {e o : Expr} {es : List Expr} {t : TA2} {ta : TE2}
/-- errors of a callee are wished for here -/
abbrev Lets (X : Cx) (W : L2.WX) : Prop := ∀ σ, PassesAt (L2.CX X.prog X.w) X σ (WE W σ)
theorem lets0 {s : Shared} {H : Hp} {sc : Scope} {ce : Env} {fp : List Addr} : Lets (X.blk s H sc ce fp) W0 := fun σ pins H s e s' I h => by
  obtain ⟨_, _, _, _, _, _, _, _, _, _, _, _, z⟩ := h
  exact z
theorem lets_never {X : Cx} : Lets X W0 := fun σ pins H s e s' I h => by
  obtain ⟨_, _, _, _, _, _, _, _, _, _, _, _, z⟩ := h
  exact z.elim
theorem run_fnT {pins : List (Addr × Obj)} {σ : L2.St} {H0 H : Hp} {s : Shared} {Q : VK} {us : List Value} {vs : List V} {trs : List Tr} {M : Ms} {Q' : Q2} {E' : X2} (F : FnT X.prog X.w X.K X.mg X.base k f fd ps sp) (hr : Room k X.A) (hgd : X.A.guards = some []) (hb : Binds X.K fd ps ds) (hd : Vals dus ds) (hdr : ∀ H, RepL X.K H dvs dus)
    (hl : Lets X W) (I : Inv X pins σ H s) (r : Vals vs us) (rt : RepL X.K H trs vs) (sm : SimM X.K H M) (t0 : Tx X.K H0 H) (h : sp (trs ++ dvs) M Q' E') (hq : LkQ X.K H0 Q' Q) (hx : LkX X.K H0 E' W σ) :
    wpAny (model X.prog X.w) X.A (call (.ref f) us) (EP X pins σ Q) X.xe s := by
  have r2 : Vals (vs ++ dus) (us ++ ds) := r.append hd
  have rt2 : RepL X.K H (trs ++ dvs) (vs ++ dus) := rt.app (hdr H)
  have hlen : (us ++ ds).length = ps.length := by rw [← r2.length, ← rt2.len]; exact F.len _ _ _ _ h
  refine wpAny_call (codeAny_mono (F.run X.A X.stack s H ⟨us, []⟩ (us ++ ds) (vs ++ dus) (trs ++ dvs) M Q' E' hr hgd I.env0 (hb s us I.kIn hlen) r2 rt2 sm h) fun r s' hq' => ?_)
  cases r with
  | error e => exact hl σ pins H s e s' I (cx_imp (fun c d H' ⟨M', tx, sm', q⟩ => hx c d M' H' (t0.trans tx) sm' q) hq')
  | ok fl =>
    cases fl with
    | ret u =>
      obtain ⟨v, H', os, bare, un, hok, rv, d, M', rd, sm', q⟩ := hq'
      exact I.after ⟨v, H', os, bare, un, hok, rv, hq d M' v H' (t0.trans (Tx.un un)) rd sm' q⟩
    | next => exact False.elim hq'
    | brk => exact False.elim hq'
    | cont => exact False.elim hq'
def eCall (sp : Sp2) (dvs : List Tr) (t : TA2) : TE2 := fun σ M Q E => t σ M (fun ds M1 => sp (ds ++ dvs) M1 Q E) E
theorem qe_call (F : FnT X.prog X.w X.K X.mg X.base k f fd ps sp) (hr : Room k X.A) (hgd : X.A.guards = some []) (hm : X.mg x = some (.ref f)) (hk : PySem.W.keepIn X.K (.ref f) = true) (hb : Binds X.K fd ps ds) (hd : Vals dus ds) (hdr : ∀ H, RepL X.K H dvs dus) (hl : Lets X W)
    (ha : QA X W (e :: es) t) (hg : Gl X x := by rfl) (hdb : (x == ("__debug__" : Str)) = false := by decide) (he : starEach (e :: es) X.env = (false, eval e X.env) :: starEach es X.env := by rfl) (hpl : (backTo pos (starEach es X.env)).any (·.1) = false := by rfl) :
    QE X W (.Call (.Name x p) (e :: es) [] pos) (eCall sp dvs t) := by
  refine ⟨fun pins s σ H Q I ⟨σ', M, Q', E', hs, hm', q, hq, hx⟩ => ?_⟩
  refine wpAny_Call_Name_kw (ld_glob I hg hm ?_ hdb)
  refine PySem.W.callWith_K (h₀ := X.base) I.ok.mod.kin hk (thn (ha.run pos pins s σ H (fun vs H1 => ∃ trs M1, Tx X.K H H1 ∧ RepL X.K H1 trs vs ∧ SimM X.K H1 M1 ∧ sp (trs ++ dvs) M1 Q' E') I
    ⟨σ', M, _, E', hs, hm', q, fun trs M1 vs H1 t1 r1 s1 q1 => ⟨trs, M1, t1, r1, s1, q1⟩, hx⟩) fun us s1 ⟨vs, H1, I1, r, trs, M1, t1, r1, sm1, q1⟩ => ⟨I1.kIn, ?_⟩) he hpl
  exact run_fnT F hr hgd hb hd hdr hl I1 r r1 sm1 t1 q1 hq hx
theorem qe_call0 (F : FnT X.prog X.w X.K X.mg X.base k f fd ps sp) (hr : Room k X.A) (hgd : X.A.guards = some []) (hm : X.mg x = some (.ref f)) (hk : PySem.W.keepIn X.K (.ref f) = true) (hb : Binds X.K fd ps ds) (hd : Vals dus ds) (hdr : ∀ H, RepL X.K H dvs dus) (hl : Lets X W)
    (hg : Gl X x := by rfl) (hdb : (x == ("__debug__" : Str)) = false := by decide) : QE X W (.Call (.Name x p) [] [] pos) (eCall sp dvs aNil) := by
  refine ⟨fun pins s σ H Q I ⟨σ', M, Q', E', hs, hm', q, hq, hx⟩ => ?_⟩
  refine wpAny_Call_Name_kw (ld_glob I hg hm ?_ hdb)
  exact PySem.W.callWith_K0 I.kIn hk (run_fnT (us := []) (trs := []) F hr hgd hb hd hdr hl I .nil RepL.nil hm' Tx.refl q hq hx)
/-! ### a def by its body -/
theorem guards_deeper {A : Around} {env : Env} (h : A.guards = some []) : (A.deeper env).guards = some [] := h
/-- the wish of a def's body -/
abbrev WF (K : PySem.W.Frag) (H : Hp) (E : X2) : L2.WX := fun c dd _ H' => seeX K H E c dd H'
/-- THE RULE for a def: its reading t, derived in every context, and what the reading asks -/
theorem fnT_of {P : Program} {w : World} {K : PySem.W.Frag} {mg : Str → Option Value} {base : Heap} {k : Nat} {f : Addr} {fd : FuncData} {x qual : Str} {params : Arguments} {body : List Stmt} {scope : Scope} {dfs : List V} {kws : List (Str × V)} {N ps : List Str} {sp : Sp2} {t : TS2}
    (F : FunD K x qual params body scope dfs kws f fd) (S : FnScope N ps scope) (len : ∀ ds M Q E, sp ds M Q E → ds.length = ps.length)
    (der : ∀ (cdv : Value) (A : Around) (outer : List Env) (s : Shared) (H : Hp) (E : XK), Room k (A.deeper (envOfC qual scope s.heap.objs.size f cdv)) → (A.deeper (envOfC qual scope s.heap.objs.size f cdv)).guards = some [] →
      QSs (cxOf (L2.CX P w) P w K mg base N qual scope f cdv A outer s H E) (fun c dd _ H' => E c dd H') body t)
    (sem : ∀ ds M Q E, sp ds M Q E → t (fEnds Q E) (start2 N ds) M) : FnT P w K mg base (k + 1) f fd ps sp := by
  obtain ⟨oc, od, dV, kV, doc, pm, an, cdv, ct, osl, rfl, lk, hcd, _, _⟩ := F.ex
  refine ⟨len, fun A outer s H args us vs ds M Q E hr hgd e0 hb rv rd sm hsp => ?_⟩
  have hl : vs.length = ps.length := by rw [← rd.len]; exact len _ _ _ _ hsp
  have KX : K.In s.heap := e0.mod.kin.keeps fun b o e => (e0.bs b o e).1
  have lim : s.heap.NoLimit := e0.mod.nolimit.keeps fun b o e => (e0.bs b o e).1
  have hkind : ∀ y ∈ ps.zip us, scope.names.lookup y.1 = some .local ∨ (scope.names.lookup y.1 = some .cell ∧ ((cellsFrom (s.heap.objs.size + 1) scope.names []).lookup y.1).isSome = true) := fun ⟨n, v⟩ hy => by
    rcases S.par n (List.of_mem_zip hy).1 with q | q
    · exact .inl q
    · exact .inr ⟨q, PySem.W.cellsFrom_some _ _ _ (.inl q)⟩
  refine codeAny_call_function hr.depth (KX _ _ lk) rfl S.co S.gen rfl (PySem.W.codeRec_of KX hcd) (hb _ _ _ _ ?_)
  refine wpAny_newFunctionEnv_cells S.kind hkind fun env he s1 xx => ?_
  subst he
  refine ⟨lim.keeps xx.toInCall.keep, codeAny_func ?_⟩
  have I : Inv (cxOf (L2.CX P w) P w K mg base N qual scope f cdv A outer s H (seeX K H E)) [] (L2.start N vs) H s1 := inv_start S hr.hd e0 hl rv xx
  refine wpAny_mono ((der cdv A outer s H (seeX K H E) (hr.deeper _) (guards_deeper hgd)).run [] s1 (L2.start N vs) H { nx := fun _ H' => seeQ K Q .non H', rt := seeQ K Q } I
    ⟨start2 N ds, M, _, SimS.start rd, sm, sem ds M Q E hsp, fun _ M1 _ H1 _ _ m1 ⟨M2, l2, q1⟩ => ⟨.non, M2, rfl, m1.le l2, q1⟩, fun d M1 v H1 _ r1 m1 ⟨M2, l2, q1⟩ => ⟨d, M2, r1, m1.le l2, q1⟩, fun _ _ _ _ _ _ _ z => z, fun _ _ _ _ _ _ _ z => z,
      fun c dd _ M1 _ H1 t1 _ m1 ⟨M2, l2, q1⟩ => ⟨M2, t1, m1.le l2, q1⟩⟩) (fun fl s' hs => ?_) fun e s' hs => hs
  have fin : ∀ {σ' : L2.St} {H' : Hp} {v : V} {u : Value}, Inv (cxOf (L2.CX P w) P w K mg base N qual scope f cdv A outer s H (seeX K H E)) [] σ' H' s' → RelV v u → seeQ K Q v H' → CE outer P w H s (seeQ K Q) u s' :=
    fun {σ' H' v u} J r q => ⟨v, H', J.os, J.bare, J.base, J.hok, r, q⟩
  cases fl with
  | ret u =>
    obtain ⟨v, σ', H', J, r, q⟩ := hs
    exact fin J r q
  | next =>
    obtain ⟨σ', H', J, q⟩ := hs
    exact fin (v := V.non) (u := Value.none) J rfl q
  | brk =>
    obtain ⟨_, _, _, q⟩ := hs
    exact False.elim q
  | cont =>
    obtain ⟨_, _, _, q⟩ := hs
    exact False.elim q
/-- no def: nothing is promised -/
theorem fnT_none {P : Program} {w : World} {K : PySem.W.Frag} {mg : Str → Option Value} {base : Heap} {k : Nat} {f : Addr} {fd : FuncData} {ps : List Str} {sp : Sp2} (h : ∀ ds M Q E, ¬ sp ds M Q E) : FnT P w K mg base k f fd ps sp :=
  ⟨fun ds M Q E q => absurd q (h _ _ _ _), fun A outer s H args us vs ds M Q E _ _ _ _ _ _ _ q => absurd q (h _ _ _ _)⟩

/-! ### errors -/
def sRaise (C : Value) : TS2 := fun D σ M => D.ex C none σ M
theorem qs_raise {m : Str} {j : Nat} {p2 pos2 : Pos} (hc : X.calm = true) (tk : Takes X W) (q : PySem.W.excIn X.K C He.veBase "ValueError.__new__" = true ∧ PySem.W.keepIn X.K (.ref C) = true ∧ PySem.W.subIn X.K (.ref C) (.type "BaseException") = some true ∧ PySem.W.typeIn X.K (.ref C) = some (.type "type"))
    (gC : X.mg x = some (.ref C)) (hg : Gl X x := by rfl) (hdb : (x == ("__debug__" : Str)) = false := by decide) : QS X W (.Raise (some (.Call (.Name x p) [.Constant (.str m) j p2] [] pos)) none pos2) (sRaise (.ref C)) :=
  ps_weak (ps_raise hc tk (pmk_own PySem.F.excBase_ValueError q.1 gC q.2.1 (raises_own q.2.2.1 q.2.2.2) hg hdb)) fun D σ H ⟨σ', M, D', hs, hm, h, L⟩ => L.ex _ _ σ' M σ H Tx.refl hs hm h
/-- try: body, except x: suite -/
def sTry (ex : Value → Option Bool) (tb ts : TS2) : TS2 := fun D σ M => tb { D with ex := fun c dd σ1 M1 => ∃ b, ex c = some b ∧ (b = true → ts { D with ex := fun _ _ _ _ => False } σ1 M1) ∧ (b = false → D.ex c dd σ1 M1) } σ M
theorem qs_try {c : Value} {body suite : List Stmt} {b0 : Stmt} {np pos' : Pos} {tb ts : TS2} (hs : X.stack = X.env :: X.outer) (hf : X.env.frame = some X.env.locals) (hc : Names X x c) (tk : Takes X W)
    (hb : ∀ (W' : L2.WX) (pn : List (Addr × Obj)) (xe : Value → Shared → Prop), Takes (X.tr pn xe) W' → PassesOwn (model X.prog X.w) X.A X.env xe → QSs (X.tr pn xe) W' body tb)
    (hsu : ∀ (a : Addr) (pn : List (Addr × Obj)), QSs (X.suite a pn) W0 (b0 :: suite) ts) :
    QS X W (.Try body [.ExceptHandler (some (.Name x np)) none (b0 :: suite) pos'] [] [] pos) (sTry (fun cls => PySem.W.exmOne X.K cls c) tb ts) :=
  ps_weak (ps_try_only (tb := fun W' => lfS X.K W' tb) (ts := fun _ _ _ => lfS X.K W0 ts) hs hf hc tk hb (fun a oe cls d pn _ _ => hsu a _)) fun D σ H ⟨σ', M, D', hs, hm, h, L⟩ =>
    ⟨σ', M, _, hs, hm, h, L.nx, L.rt, L.bk, L.ct, fun cls dd σ1' M1 σ1 H1 t1 s1 m1 ⟨b, eb, h1, h2⟩ => ⟨b, eb, fun e a _ => ⟨σ1', M1, _, s1, m1, h1 e, (L.mono t1).nx, (L.mono t1).rt, (L.mono t1).bk, (L.mono t1).ct, fun _ _ _ _ _ _ _ _ _ z => z⟩,
      fun e => L.ex cls dd σ1' M1 σ1 H1 t1 s1 m1 (h2 e)⟩⟩
end

/-! ### the law's end -/
/-- nothing is known to the store -/
def M0 : Ms := fun _ => none
/-- the promise of a law's def -/
def spLaw : Sp2 := fun ds _ Q _ => ∃ ns : List Int, ds = [.fro (ns.map Tr.int)] ∧ ns.length ≤ 63 ∧ (∀ z ∈ ns, Builtin.Int.intBits z ≤ 1048576) ∧ ∀ M, Q (.bl true) M
theorem law_callT {P : Program} {w : World} {K : PySem.W.Frag} {mg mb : Str → Option Value} {k : Nat} {fa a : Addr} {fd : FuncData} {x : Str} {s₁ : Shared} {vs : List Value} {ns : List Int}
    (KX : K.In s₁.heap) (hns : s₁.heap.Ns mainGlobals mg) (hb : s₁.heap.Ns builtinsNs mb) (hbb : ∀ x : Str, x ≠ "__name__" → mb x = bootBuiltins x) (hlim : s₁.heap.NoLimit) (hg : s₁.gens = #[])
    (ha : s₁.heap.get? a = some { cls := .type "list", data := .seq vs.toArray }) (hi : PyProof.Rows.IntsAre vs ns) (hl : ns.length ≤ 63) (hbits : ∀ z ∈ ns, Builtin.Int.intBits z ≤ 1048576) (hr : Room k callerA)
    (F : ∀ base : Heap, K.In base → base.Ns mainGlobals mg → FnT P w K mg base k fa fd [x] spLaw) (hbind : ∀ (s : Shared) (u : Value), BindsTo s fd ⟨[u], []⟩ [(x, u)]) :
    codeAny (model P w) callerA (.call (.ref fa) ⟨[.ref a], []⟩) (fun r s' => r = .ok (.ret (.bool true)) ∧ OldK s₁.heap s'.heap ∧ s'.os = s₁.os ∧ AllBare s'.gens) s₁ := by
  have rv := L2.vals_ints hi
  have lenV := hi.length
  have hz : ns.length ≤ sizeLine := Nat.le_trans hl (by decide)
  -- H: the script alone, or nothing; every object that H does not name is the base's
  have main : ∀ H : Hp, (∀ b u, H b = some u → b = a ∧ u = .frz { cls := .type "list", data := .seq vs.toArray } (.lst (ns.map V.int))) → FrL K H a (ns.map V.int) → HOk P w H s₁.heap → (H a ≠ none → K.lookup a = none) →
      codeAny (model P w) callerA (.call (.ref fa) ⟨[.ref a], []⟩) (fun r s' => r = .ok (.ret (.bool true)) ∧ OldK s₁.heap s'.heap ∧ s'.os = s₁.os ∧ AllBare s'.gens) s₁ := by
    intro H hA hS hok hK
    have noD : ∀ {b : Addr} {ob : Obj} {es : Array DictEntry} {ep : Nat}, s₁.heap.get? b = some ob → ob.data = .dict es ep → H b = none := fun {b ob es ep} e d => by
      cases q : H b with
      | none => rfl
      | some u =>
        obtain ⟨rfl, _⟩ := hA b u q
        rw [ha] at e; cases e
        have d' : Data.seq vs.toArray _ = Data.dict es ep := d
        cases d'
    have nsB : ∀ {b : Addr} {m : Str → Option Value}, s₁.heap.Ns b m → (hidT s₁.heap H).Ns b m := fun {b m} ⟨ob, es, ep, e, d, r⟩ => ⟨ob, es, ep, hidT_get e (noD e d), d, r⟩
    have kB : K.In (hidT s₁.heap H) := fun b ob e => hidT_get (KX b ob e) (by
      cases q : H b with
      | none => rfl
      | some u =>
        obtain ⟨rfl, _⟩ := hA b u q
        rw [hK (by rw [q]; simp)] at e; cases e)
    have hM : Mod K mg (hidT s₁.heap H) := ⟨kB, nsB hns, ⟨mb, nsB hb, hbb⟩, by obtain ⟨mc, h1, h2⟩ := hlim; exact ⟨mc, nsB h1, h2⟩⟩
    have e0 : Env0 P w K mg (hidT s₁.heap H) callerA [] s₁ H := ⟨rfl, hM, fun b ob e => of_hidT e, Nat.le_of_eq (hidT_size _ _), trivial, fun b hb => absurd (show b ∈ ([] : List Addr) from hb) (by simp), hok, .of_eq hg⟩
    refine codeAny_mono ((F _ kB (nsB hns)).run callerA [] s₁ H ⟨[.ref a], []⟩ [.ref a] [.ref a] [.fro (ns.map Tr.int)] M0 (fun d _ => d = .bl true) X0 hr rfl e0 (hbind s₁ (.ref a)) (.cons rfl .nil)
      (.one ⟨a, ns.map V.int, rfl, hS, RepL.ints⟩) (fun _ _ e => nomatch e) ⟨ns, rfl, hl, hbits, fun _ => rfl⟩) fun r s' h => ?_
    cases r with
    | error e =>
      obtain ⟨_, _, _, _, _, _, _, _, _, _, _, _, M', _, _, z⟩ := h
      exact z.elim
    | ok fl =>
      cases fl with
      | next => exact False.elim h
      | brk => exact False.elim h
      | cont => exact False.elim h
      | ret u =>
        obtain ⟨v, H', os, bare, un, hok', r', d, M', rd, _, ed⟩ := h
        subst ed
        cases rd
        obtain rfl : u = Value.bool true := r'
        refine ⟨rfl, OldK.of_keep fun b ob e => ?_, os, bare⟩
        cases q : H b with
        | none => exact un.keep b ob e q (fun z => absurd (show b ∈ ([] : List Addr) from z) (by simp)) (by simp)
        | some u =>
          obtain ⟨rfl, rfl⟩ := hA b u q
          have z2 := un.frzs b _ _ q
          obtain ⟨e2, _⟩ := hok' b _ z2
          rw [ha] at e; cases e
          exact e2
  cases hk : K.lookup a with
  | some ob =>
    have e := KX a ob hk
    rw [ha] at e; cases e
    exact main (fun _ => none) (fun b u z => nomatch (show (none : Option HO) = some u from z)) (.inr ⟨_, vs.toArray, _, hk, rfl, rfl, rfl, by rw [List.size_toArray, lenV]; exact hz, by simpa using rv⟩) (fun b u z => nomatch (show (none : Option HO) = some u from z)) fun z => absurd rfl z
  | none =>
    refine main (upd (fun _ => none) a (.frz { cls := .type "list", data := .seq vs.toArray } (.lst (ns.map V.int)))) (fun b u z => ?_) (.inl ⟨_, upd_same⟩) (fun b u z => ?_) fun _ => hk
    · by_cases c : b = a
      · subst c
        rw [upd_same] at z; cases z
        exact ⟨rfl, rfl⟩
      · rw [upd_ne c] at z; cases z
    · by_cases c : b = a
      · subst c
        rw [upd_same] at z; cases z
        exact ⟨ha, by rw [List.length_map]; exact hz, vs, _, rv, ha⟩
      · rw [upd_ne c] at z; cases z
/-- a law over a head by facts -/
theorem walkT {l : PySem.W.OpenLaw} {k : Nat} {q : Program} {loose : List Str} {XP : (Str → Option Value) → Heap → Prop} {YP : World → Heap → Prop} {d : DefRec} {x : Str}
    (hn : l.most = some 63) (hdf : d.params.defaults = []) (hr : Room k callerA)
    (F : ∀ (w : World) (mg : Str → Option Value) (fa : Addr) (h : Heap), YP w h → h.Ns mainGlobals mg → mg d.name = some (.ref fa) →
      ∃ (K : PySem.W.Frag) (fd : FuncData), K.In h ∧ (∀ (s : Shared) (u : Value), BindsTo s fd ⟨[u], []⟩ [(x, u)]) ∧ ∀ base : Heap, K.In base → base.Ns mainGlobals mg → FnT l.prog w K mg base k fa fd [x] spLaw) :
    PySem.W.WalkO q loose XP YP l.row.toRowW d [] (fun f vs => PySem.call f vs) := by
  refine Att.attach_callB hn hdf fun w s₀ s₁ mg mb fa o pm cd doc a vs ns G Y ho hd hcd hmg hobj hints hlen hbits hg => ?_
  obtain ⟨K, fd, KX, hb, hF⟩ := F w mg fa _ Y G.T.g hmg
  exact law_callT KX G.T.g G.T.b G.T.builtins G.T.nolimit hg hobj hints hlen hbits hr hF hb
end T

/-! T, eighth part: more rules. -/
namespace T
open PySem PySem.Spec PyProof.Rows L2
theorem bt_len : bootBuiltins "len" = some (.builtin "len") := by decide +kernel
theorem bt_sum : bootBuiltins "sum" = some (.builtin "sum") := by decide +kernel
theorem bt_max : bootBuiltins "max" = some (.builtin "max") := by decide +kernel
theorem bt_min : bootBuiltins "min" = some (.builtin "min") := by decide +kernel
theorem bt_abs : bootBuiltins "abs" = some (.builtin "abs") := by decide +kernel
theorem bt_repr : bootBuiltins "repr" = some (.builtin "repr") := by decide +kernel
theorem bt_sorted : bootBuiltins "sorted" = some (.builtin "sorted") := by decide +kernel
theorem bt_isinstance : bootBuiltins "isinstance" = some (.builtin "isinstance") := by decide +kernel
theorem bt_int : bootBuiltins "int" = some (.type "int") := by decide +kernel
theorem bt_str : bootBuiltins "str" = some (.type "str") := by decide +kernel
theorem bt_bool : bootBuiltins "bool" = some (.type "bool") := by decide +kernel
theorem bt_tuple : bootBuiltins "tuple" = some (.type "tuple") := by decide +kernel
theorem bt_list : bootBuiltins "list" = some (.type "list") := by decide +kernel
theorem bt_dict : bootBuiltins "dict" = some (.type "dict") := by decide +kernel
section
variable {X : Cx} {W : L2.WX} {a b c e o : Expr} {es : List Expr} {pos p cpos apos : Pos} {ta tb tc te to : TE2} {t tk : TA2} {Ty : String} {r : RM2} {u v : TE}
theorem q_bm (h : PE X e (tBM X.K Ty (lfM X.K r) (lfE X.K W to) (lfA X.K W t))) : QE X W e (eM Ty r to t) := pe_weak h fun _ _ _ h => m_low h
theorem q_bm0 (h : PE X e (tBM0 X.K Ty (lfM X.K r) (lfE X.K W to))) : QE X W e (eM0 Ty r to) := pe_weak h fun _ _ _ h => m0_low h
theorem q_chain {rr rr' : R22} (h : PE X e (tChain (lfR X.K rr) (lfR X.K rr') (lfE X.K W ta) (lfE X.K W tb) (lfE X.K W tc))) : QE X W e (eChain rr rr' ta tb tc) := pe_weak h fun _ _ _ h => chain_low h
theorem qt_ch {rr rr' : R22} (h : PT X e (tTest (tChain (lfR X.K rr) (lfR X.K rr') (lfE X.K W ta) (lfE X.K W tb) (lfE X.K W tc)))) : QT X W e (tCm (eChain rr rr' ta tb tc)) :=
  pt_weak h fun σ H Q ⟨σ', M, Q', E', hs, hm, q, hq, hx⟩ => chain_low ⟨σ', M, _, E', hs, hm, q, cm_link hq, hx⟩
theorem q_sub {i : Expr} {ti : TE2} (ha : PG X (.Subscript o i pos) (gSub (lfE X.K W0 to) (lfE X.K W0 ti) (lfPut X.K rPut2))) : QG X (.Subscript o i pos) (gSb rPut2 to ti) [] :=
  pg_weak ha fun v σ H Q ⟨d, σ', M, Q', r, hs, hm, q, hq⟩ => ⟨σ', M, _, X0, hs, hm, q, fun o M1 x H1 t1 r1 s1 q1 => ⟨σ', M1, _, X0, hs.mono t1, s1, q1, fun i M2 y H2 t2 r2 s2 q2 =>
    ⟨o, i, d, M2, _, r1.mono t2, r2, (r.mono t1).mono t2, s2, q2, fun M3 H3 t3 s3 q3 => hq σ' M3 σ H3 ((t1.trans t2).trans t3) (((hs.mono t1).mono t2).mono t3) s3 Agr.refl q3⟩, fun _ _ _ _ _ _ z => False.elim z⟩, fun _ _ _ _ _ _ z => False.elim z⟩
/-- comparisons of ints alone -/
def rCmpI (f : Int → Int → Bool) : R22 := fun d e M Q => match d, e with
  | .int i, .int j => Q (.bl (f i j)) M
  | _, _ => False
theorem o_cmpI {op : CmpOp} {f : Int → Int → Bool} (h : OpR X (compareOp op) (rI0 fun i j => .bl (f i j))) : OpR X (compareOp op) (lfR X.K (rCmpI f)) := by
  intro pins s σ H x y v u Q I rx ry ⟨d, e, M, Q', rd, re, sm, q, hq⟩
  cases d with
  | int i =>
    cases e with
    | int j =>
      cases rd; cases re
      exact h pins s σ H _ _ v u Q I rx ry ⟨i, j, rfl, rfl, hq (.bl _) M _ H Tx.refl rfl sm q⟩
    | _ => exact q.elim
  | _ => cases e <;> exact q.elim
abbrev rLeI : R22 := rCmpI fun i j => decide (i ≤ j)
abbrev rLtI : R22 := rCmpI fun i j => decide (i < j)
abbrev rGtI : R22 := rCmpI fun i j => decide (j < i)
abbrev rGeI : R22 := rCmpI fun i j => decide (j ≤ i)
theorem o_leI : OpR X (compareOp .LtE) (lfR X.K rLeI) := o_cmpI op_le
theorem o_ltI : OpR X (compareOp .Lt) (lfR X.K rLtI) := o_cmpI op_lt
theorem o_gtI : OpR X (compareOp .Gt) (lfR X.K rGtI) := o_cmpI op_gt
theorem o_geI : OpR X (compareOp .GtE) (lfR X.K rGeI) := o_cmpI op_ge
/-! in place -/
abbrev rIpA : R22 := rII (fun _ _ => True) (fun i j => i + j)
abbrev rIpS : R22 := rII (fun _ _ => True) (fun i j => i - j)
theorem ipII {op : Operator} {f : Int → Int → Int} (h : PIp X op (ipI f)) : PIp X op (lfR X.K (rII (fun _ _ => True) f)) := by
  intro pins s σ H x y v u Q I rx ry ⟨d, e, M, Q', rd, re, sm, q, hq⟩
  cases d with
  | int i =>
    cases e with
    | int j =>
      cases rd; cases re
      exact h pins s σ H _ _ v u Q I rx ry ⟨i, j, rfl, rfl, hq (.int _) M _ H Tx.refl rfl sm q.2⟩
    | _ => exact q.elim
  | _ => cases e <;> exact q.elim
theorem i_add : PIp X .Add (lfR X.K rIpA) := ipII ip_add
theorem i_sub : PIp X .Sub (lfR X.K rIpS) := ipII ip_sub
/-! keywords of built-ins -/
abbrev QK (X : Cx) (W : L2.WX) (kws : List Keyword) (t : TA2) : Prop := PK X kws (lfA X.K W t)
theorem pk_weak {kws : List Keyword} {t t' : TA} (h : PK X kws t) (w : ∀ σ H Q, t' σ H Q → t σ H Q) : PK X kws t' := ⟨fun pos pins s σ H Q I q => h.run pos pins s σ H Q I (w σ H Q q)⟩
theorem qk_nil : QK X W [] aNil := pk_weak pk_nil fun σ H Q ⟨σ', M, Q', E', hs, hm, q, hq, hx⟩ => hq [] M [] H Tx.refl RepL.nil hm q
theorem qk_cons {nm : Option Str} {kpos : Pos} {kws : List Keyword} (ha : QE X W e ta) (hr : QK X W kws t) : QK X W (⟨nm, e, kpos⟩ :: kws) (aCons ta t) :=
  pk_weak (pk_cons ha hr) fun σ H Q ⟨σ', M, Q', E', hs, hm, q, hq, hx⟩ => ⟨σ', M, _, E', hs, hm, q, fun d M1 x H1 t1 r1 s1 q1 => ⟨σ', M1, _, E', hs.mono t1, s1, q1, fun ds M2 xs H2 t2 r2 s2 q2 =>
    hq (d :: ds) M2 (x :: xs) H2 (t1.trans t2) (.cons (r1.mono t2) r2) s2 q2, hx.mono t1⟩, hx⟩
abbrev RCK2 := List Tr → List Tr → Ms → Q2 → Prop
def lfCK (K : PySem.W.Frag) (r : RCK2) : List V → List V → Hp → VK → Prop := fun xs zs H Q => ∃ ds es M Q', RepL K H ds xs ∧ RepL K H es zs ∧ SimM K H M ∧ r ds es M Q' ∧ LkQ K H Q' Q
def eBK (r : RCK2) (t tk : TA2) : TE2 := fun σ M Q E => t σ M (fun ds M1 => tk σ M1 (fun es M2 => r ds es M2 Q) E) E
theorem qe_callBK {x : Str} {id : String} {ks : List Str} {kws : List Keyword} {rk : RCK2} (hc : CallRK X (.builtin id) ks (lfCK X.K rk)) (hm : X.mg x = none) (hv : bootBuiltins x = some (.builtin id)) (ha : QA X W (e :: es) t) (hk : QK X W kws tk) (hg : Gl X x := by rfl) (hn : x ≠ "__name__" := by decide) (hdb : (x == ("__debug__" : Str)) = false := by decide)
    (he : backTo pos (starEach (e :: es) X.env) = (false, eval e X.env) :: backTo pos (starEach es X.env) := by rfl) (hpl : (backTo pos (starEach (e :: es) X.env)).any (·.1) = false := by rfl)
    (hall : (backToKw pos (keywordEach kws X.env)).all (·.1.isSome) = true := by rfl) (hnone : (backToKw pos (keywordEach kws X.env)).any (·.1.isNone) = false := by rfl) (hks : (backToKw pos (keywordEach kws X.env)).filterMap (·.1) = ks := by rfl) :
    QE X W (.Call (.Name x p) (e :: es) kws pos) (eBK rk t tk) := pe_weak (pe_callBK hc hg hm hv ha hk hn hdb he hpl hall hnone hks) fun σ H Q ⟨σ', M, Q', E', hs, hm, q, hq, hx⟩ =>
  ⟨σ', M, _, E', hs, hm, q, fun ds M1 xs H1 t1 r1 s1 q1 => ⟨σ', M1, _, E', hs.mono t1, s1, q1, fun es M2 zs H2 t2 r2 s2 q2 => ⟨ds, es, M2, Q', r1.mono t2, r2, s2, q2, hq.mono (t1.trans t2)⟩, hx.mono t1⟩, hx⟩
/-- max([..], default=d) of ints -/
def mxD (ns : List Int) (d : Int) : Int := match ns with
  | [] => d
  | n :: r => r.foldl max n
def rMaxD : RCK2 := fun ds es M Q => ∃ d ns k, ds = [d] ∧ es = [.int k] ∧ seqT d M = some (ns.map Tr.int) ∧ (∀ us, d ≠ .tup us) ∧ Q (.int (mxD ns k)) M
theorem dpAll_ints {K : PySem.W.Frag} {H : Hp} : ∀ ns : List Int, DpAll K H (ns.map V.int) (ns.map PyData.int)
  | [] => .nil
  | n :: r => .cons (.int n) (dpAll_ints r)
theorem depthAll_ints : ∀ ns : List Int, PyData.depthAll (ns.map PyData.int) = 0
  | [] => rfl
  | n :: r => by
    show max (PyData.depth (.int n)) (PyData.depthAll (r.map PyData.int)) = 0
    rw [depthAll_ints r]; rfl
theorem alike_ints (ns : List Int) : PySem.W.AlikeAll (ns.map PyData.int) := by
  refine ⟨fun x hx y hy => ?_, fun x hx => ?_⟩
  · obtain ⟨i, _, rfl⟩ := List.mem_map.mp hx
    obtain ⟨j, _, rfl⟩ := List.mem_map.mp hy
    rfl
  · obtain ⟨i, _, rfl⟩ := List.mem_map.mp hx
    intro z; cases z
theorem k_maxD (hc : X.calm = true) (hu : X.A.units + 64 < cLine) : CallRK X (.builtin "max") ["default"] (lfCK X.K rMaxD) := by
  intro pins s σ H xs zs us ws Q I rx rz ⟨ds, es, M, Q', rd, re, sm, ⟨d, ns, k, e1, e2, es1, nt, q⟩, hq⟩
  subst e1 e2
  obtain ⟨x, rfl, r1⟩ := one_of rd
  obtain ⟨y, rfl, r2⟩ := one_of re
  cases r2
  obtain ⟨w, rfl, rw'⟩ := vals1 rz
  obtain ⟨tk, rfl⟩ := rw'
  have fin : Q (.int (mxD ns k)) H := hq (.int _) M _ H Tx.refl rfl sm q
  have go : ∀ a, x = .ref a → SqL X.K H a (ns.map V.int) → wpAny (model X.prog X.w) X.A (call (.builtin "max") us ((["default"] : List Str).zip [Value.int k tk])) (EP X pins σ Q) X.xe s := fun a ex sq => by
    subst ex
    obtain ⟨its, rv, hl, _⟩ := I.list sq
    rw [Vals.ref1 rx]
    obtain ⟨as, hr⟩ := Dp.readsAll I _ _ _ (dpAll_ints ns) rv
    refine PySem.W.max_list_default (xs := ns.map PyData.int) (I.ok.hd hc) hl.isList hr (alike_ints ns) (by rw [depthAll_ints]; omega) (fun e0 h' tk' hk => ?_) (fun y ys i v h' tk' bs e0 hv rdv hk => ?_)
    · have : ns = [] := List.map_eq_nil_iff.mp e0
      subst this
      exact ⟨.int k, H, I.kept hk, ⟨_, rfl⟩, fin⟩
    · match ns, e0 with
      | n :: r, e0 =>
        injection e0 with e3 e4
        subst e3 e4
        rw [PySem.W.maxD_ints] at rdv
        cases rdv
        exact ⟨.int (r.foldl max n), H, I.kept hk, ⟨_, rfl⟩, fin⟩
  cases d with
  | tup us => exact absurd rfl (nt us)
  | fro ds =>
    obtain ⟨a, xs, rfl, sq, rl⟩ := r1
    cases es1
    have := ints_back rl
    subst this
    exact go a rfl sq.sq
  | loc a =>
    cases r1
    obtain ⟨xs, hx, rl⟩ := sm a _ (seqT_loc es1)
    have := ints_back rl
    subst this
    exact go a rfl (SqL.of hx)
  | _ => cases es1
/-! list(range(..)) -/
def rgT (i j : Int) : List Tr := (List.range (j - i).toNat).map fun (n : Nat) => Tr.int (i + (n : Int))
theorem rgT_ok {K : PySem.W.Frag} {H : Hp} {i j : Int} : RepL K H (rgT i j) (rgV i j) := by
  unfold rgT rgV
  induction List.range (j - i).toNat with
  | nil => rfl
  | cons n r ih => exact ⟨_, _, rfl, rfl, ih⟩
def eLR1 (ta : TE2) : TE2 := fun σ M Q E => ta σ M (fun d M1 => ∃ n, d = .int n ∧ RgOk 0 n ∧ ∀ p, M1 p = none → Q (.loc p) (up M1 p (.lst (rgT 0 n)))) E
theorem qe_listRg1 {p2 pos2 : Pos} (hc : X.calm = true) (hm : X.mg "list" = none) (hm2 : X.mg "range" = none) (ha : QE X W a ta) (hg : Gl X "list" := by rfl) (hg2 : Gl X "range" := by rfl)
    (na : starEach [Expr.Call (.Name "range" p2) [a] [] pos2] X.env = (false, eval (Expr.Call (.Name "range" p2) [a] [] pos2) X.env) :: starEach [] X.env := by rfl) (nb : starEach [a] X.env = (false, eval a X.env) :: starEach [] X.env := by rfl) : QE X W (.Call (.Name "list" p) [.Call (.Name "range" p2) [a] [] pos2] [] pos) (eLR1 ta) :=
  pe_weak (pe_listRg hc hg hm (prg_1 hg2 hm2 ha nb) na) fun σ H Q ⟨σ', M, Q', E', hs, hm, q, hq, hx⟩ => by
    refine ⟨σ', M, _, E', hs, hm, q, fun d M1 x H1 t1 r1 s1 ⟨n, e, rg, q1⟩ => ?_, hx⟩
    subst e
    exact ⟨n, r1, rg, fun l hl => new_lst (hq.mono t1) rgT_ok s1 hl q1⟩
def eLR2 (ta tb : TE2) : TE2 := fun σ M Q E => ta σ M (fun d M1 => tb σ M1 (fun e M2 => ∃ i j, d = .int i ∧ e = .int j ∧ RgOk i j ∧ ∀ p, M2 p = none → Q (.loc p) (up M2 p (.lst (rgT i j)))) E) E
theorem qe_listRg2 {p2 pos2 : Pos} (hc : X.calm = true) (hm : X.mg "list" = none) (hm2 : X.mg "range" = none) (ha : QE X W a ta) (hb : QE X W b tb) (hg : Gl X "list" := by rfl) (hg2 : Gl X "range" := by rfl)
    (na : starEach [Expr.Call (.Name "range" p2) [a, b] [] pos2] X.env = (false, eval (Expr.Call (.Name "range" p2) [a, b] [] pos2) X.env) :: starEach [] X.env := by rfl)
    (n1 : starEach [a, b] X.env = (false, eval a X.env) :: starEach [b] X.env := by rfl) (n2 : starEach [b] X.env = (false, eval b X.env) :: starEach [] X.env := by rfl) (hp : (backTo pos2 (starEach [b] X.env)).any (·.1) = false := by rfl) : QE X W (.Call (.Name "list" p) [.Call (.Name "range" p2) [a, b] [] pos2] [] pos) (eLR2 ta tb) :=
  pe_weak (pe_listRg hc hg hm (prg_2 hg2 hm2 ha hb n1 n2 hp) na) fun σ H Q ⟨σ', M, Q', E', hs, hm, q, hq, hx⟩ => by
    refine ⟨σ', M, _, E', hs, hm, q, fun d M1 x H1 t1 r1 s1 q1 => ⟨σ', M1, _, E', hs.mono t1, s1, q1, fun e M2 y H2 t2 r2 s2 ⟨i, j, e1, e2, rg, q2⟩ => ?_, hx.mono t1⟩, hx⟩
    subst e1 e2
    exact ⟨i, j, r1, r2, rg, fun l hl => new_lst (hq.mono (t1.trans t2)) rgT_ok s2 hl q2⟩
end

/-! ### a def by its name -/
structure OkF (P : Program) (w : World) (K : PySem.W.Frag) (mg : Str → Option Value) (base : Heap) (k : Nat) (x : Str) (ps : List Str) (dvs : List Tr) (sp : Sp2) : Prop where
  ex : ∃ (f : Addr) (fd : FuncData) (dus : List V) (ds : List Value), FnT P w K mg base k f fd ps sp ∧ mg x = some (.ref f) ∧ PySem.W.keepIn K (.ref f) = true ∧ Binds K fd ps ds ∧ Vals dus ds ∧ ∀ H, RepL K H dvs dus
theorem OkF.mono {P : Program} {w : World} {K : PySem.W.Frag} {mg : Str → Option Value} {base : Heap} {j k : Nat} {x : Str} {ps : List Str} {dvs : List Tr} {sp : Sp2} (F : OkF P w K mg base j x ps dvs sp) (h : j ≤ k) : OkF P w K mg base k x ps dvs sp := by
  obtain ⟨f, fd, dus, ds, a, r⟩ := F.ex
  exact ⟨f, fd, dus, ds, a.mono h, r⟩
theorem q_call {X : Cx} {W : L2.WX} {k : Nat} {x : Str} {ps : List Str} {dvs : List Tr} {sp : Sp2} {p pos : Pos} {e : Expr} {es : List Expr} {t : TA2} (F : OkF X.prog X.w X.K X.mg X.base k x ps dvs sp) (hr : Room k X.A) (hgd : X.A.guards = some []) (hl : Lets X W)
    (ha : QA X W (e :: es) t) (hg : Gl X x := by rfl) (hdb : (x == ("__debug__" : Str)) = false := by decide) (he : starEach (e :: es) X.env = (false, eval e X.env) :: starEach es X.env := by rfl) (hpl : (backTo pos (starEach es X.env)).any (·.1) = false := by rfl) :
    QE X W (.Call (.Name x p) (e :: es) [] pos) (eCall sp dvs t) := by
  obtain ⟨f, fd, dus, ds, F, hm, hk, hb, hd, hdr⟩ := F.ex
  exact qe_call F hr hgd hm hk hb hd hdr hl ha hg hdb he hpl
theorem q_call0 {X : Cx} {W : L2.WX} {k : Nat} {x : Str} {ps : List Str} {dvs : List Tr} {sp : Sp2} {p pos : Pos} (F : OkF X.prog X.w X.K X.mg X.base k x ps dvs sp) (hr : Room k X.A) (hgd : X.A.guards = some []) (hl : Lets X W)
    (hg : Gl X x := by rfl) (hdb : (x == ("__debug__" : Str)) = false := by decide) : QE X W (.Call (.Name x p) [] [] pos) (eCall sp dvs aNil) := by
  obtain ⟨f, fd, dus, ds, F, hm, hk, hb, hd, hdr⟩ := F.ex
  exact qe_call0 F hr hgd hm hk hb hd hdr hl hg hdb
/-- the body's derivation, with what a body may lean on -/
abbrev Der (P : Program) (w : World) (K : PySem.W.Frag) (mg : Str → Option Value) (base : Heap) (k : Nat) (f : Addr) (qual : Str) (scope : Scope) (N : List Str) (body : List Stmt) (t : TS2) : Prop :=
  ∀ (cdv : Value) (A : Around) (outer : List Env) (s : Shared) (H : Hp) (E : XK), Room k (cxOf (L2.CX P w) P w K mg base N qual scope f cdv A outer s H E).A → (cxOf (L2.CX P w) P w K mg base N qual scope f cdv A outer s H E).A.guards = some [] →
    Takes (cxOf (L2.CX P w) P w K mg base N qual scope f cdv A outer s H E) (fun c dd _ H' => E c dd H') → Lets (cxOf (L2.CX P w) P w K mg base N qual scope f cdv A outer s H E) (fun c dd _ H' => E c dd H') →
    PassesOwn (model P w) (cxOf (L2.CX P w) P w K mg base N qual scope f cdv A outer s H E).A (cxOf (L2.CX P w) P w K mg base N qual scope f cdv A outer s H E).env (cxOf (L2.CX P w) P w K mg base N qual scope f cdv A outer s H E).xe →
    QSs (cxOf (L2.CX P w) P w K mg base N qual scope f cdv A outer s H E) (fun c dd _ H' => E c dd H') body t
theorem fnT_by {P : Program} {w : World} {K : PySem.W.Frag} {mg : Str → Option Value} {base : Heap} {k : Nat} {f : Addr} {fd : FuncData} {x qual : Str} {params : Arguments} {body : List Stmt} {scope : Scope} {dfs : List V} {kws : List (Str × V)} {N ps : List Str} {sp : Sp2} {t : TS2}
    (F : FunD K x qual params body scope dfs kws f fd) (S : FnScope N ps scope) (len : ∀ ds M Q E, sp ds M Q E → ds.length = ps.length)
    (sem : ∀ ds M Q E, sp ds M Q E → t (fEnds Q E) (start2 N ds) M) (der : Der P w K mg base k f qual scope N body t) : FnT P w K mg base (k + 1) f fd ps sp :=
  fnT_of F S len (fun cdv A outer s H E hr hgd => der cdv A outer s H E hr hgd (takes_of rfl rfl rfl rfl) (passAt (takes_of rfl rfl rfl rfl)) (passes_of rfl)) sem
theorem okF_of {P : Program} {w : World} {K : PySem.W.Frag} {mg : Str → Option Value} {base : Heap} {k : Nat} {f : Addr} {fd : FuncData} {x qual : Str} {params : Arguments} {body : List Stmt} {scope : Scope} {N ps : List Str} {sp : Sp2} {t : TS2}
    (F : FunD K x qual params body scope [] [] f fd) (hm : mg x = some (.ref f)) (hb : Binds K fd ps []) (S : FnScope N ps scope) (len : ∀ ds M Q E, sp ds M Q E → ds.length = ps.length)
    (sem : ∀ ds M Q E, sp ds M Q E → t (fEnds Q E) (start2 N ds) M) (der : Der P w K mg base k f qual scope N body t) : OkF P w K mg base (k + 1) x ps [] sp :=
  ⟨f, fd, [], [], fnT_by F S len sem der, hm, F.kp, hb, .nil, fun _ => RepL.nil⟩
/-! promises by the number of arguments -/
abbrev A1 (p : Tr → Ms → Q2 → X2 → Prop) : Sp2 := fun ds M Q E => ∃ a, ds = [a] ∧ p a M Q E
abbrev A2 (p : Tr → Tr → Ms → Q2 → X2 → Prop) : Sp2 := fun ds M Q E => ∃ a b, ds = [a, b] ∧ p a b M Q E
abbrev A3 (p : Tr → Tr → Tr → Ms → Q2 → X2 → Prop) : Sp2 := fun ds M Q E => ∃ a b c, ds = [a, b, c] ∧ p a b c M Q E
abbrev A4 (p : Tr → Tr → Tr → Tr → Ms → Q2 → X2 → Prop) : Sp2 := fun ds M Q E => ∃ a b c d, ds = [a, b, c, d] ∧ p a b c d M Q E
abbrev A5 (p : Tr → Tr → Tr → Tr → Tr → Ms → Q2 → X2 → Prop) : Sp2 := fun ds M Q E => ∃ a b c d e, ds = [a, b, c, d, e] ∧ p a b c d e M Q E
theorem len1 {p : Tr → Ms → Q2 → X2 → Prop} : ∀ ds M Q E, A1 p ds M Q E → ds.length = 1 := fun _ _ _ _ ⟨_, e, _⟩ => by rw [e]; rfl
theorem len2 {p : Tr → Tr → Ms → Q2 → X2 → Prop} : ∀ ds M Q E, A2 p ds M Q E → ds.length = 2 := fun _ _ _ _ ⟨_, _, e, _⟩ => by rw [e]; rfl
theorem len3 {p : Tr → Tr → Tr → Ms → Q2 → X2 → Prop} : ∀ ds M Q E, A3 p ds M Q E → ds.length = 3 := fun _ _ _ _ ⟨_, _, _, e, _⟩ => by rw [e]; rfl
theorem len4 {p : Tr → Tr → Tr → Tr → Ms → Q2 → X2 → Prop} : ∀ ds M Q E, A4 p ds M Q E → ds.length = 4 := fun _ _ _ _ ⟨_, _, _, _, e, _⟩ => by rw [e]; rfl
theorem len5 {p : Tr → Tr → Tr → Tr → Tr → Ms → Q2 → X2 → Prop} : ∀ ds M Q E, A5 p ds M Q E → ds.length = 5 := fun _ _ _ _ ⟨_, _, _, _, _, e, _⟩ => by rw [e]; rfl
theorem room_hu64 {k : Nat} {A : Around} (hr : Room k A) : A.units + 64 < cLine := by have := hr.un; omega
theorem sq_step {t u : TS2} {D : Ends2} {σ : St2} {M : Ms} : sSq t u D σ M = t { D with nx := u D } σ M := rfl
end T

/-! T, ninth part: readings walked by simp. -/
namespace T
open PySem PySem.Spec PyProof.Rows L2
/-- holds a term fixed where it stands -/
inductive Fx {α : Sort u} (a : α) : Type | mk
section
variable {M : Ms} {Q : Q2} {E : X2} {σ : St2} {D : Ends2}

@[simp ↓] theorem eVar_0  {d : Tr} {r : St2} : eVar 0 (some d :: r) M Q E = Q d M := propext ⟨fun ⟨_, e, q⟩ => by have e2 : some (some d) = _ := e; cases e2; exact q, fun q => ⟨d, rfl, q⟩⟩
@[simp ↓] theorem gN_0 {y : Option Tr} {d : Tr} {r : St2} {N : St2 → Ms → Prop} : gN 0 d (y :: r) M N = N (some d :: r) M := rfl
@[simp ↓] theorem eVar_1 {x0 : Option Tr} {d : Tr} {r : St2} : eVar 1 (x0 :: some d :: r) M Q E = Q d M := propext ⟨fun ⟨_, e, q⟩ => by have e2 : some (some d) = _ := e; cases e2; exact q, fun q => ⟨d, rfl, q⟩⟩
@[simp ↓] theorem gN_1 {x0 y : Option Tr} {d : Tr} {r : St2} {N : St2 → Ms → Prop} : gN 1 d (x0 :: y :: r) M N = N (x0 :: some d :: r) M := rfl
@[simp ↓] theorem eVar_2 {x0 x1 : Option Tr} {d : Tr} {r : St2} : eVar 2 (x0 :: x1 :: some d :: r) M Q E = Q d M := propext ⟨fun ⟨_, e, q⟩ => by have e2 : some (some d) = _ := e; cases e2; exact q, fun q => ⟨d, rfl, q⟩⟩
@[simp ↓] theorem gN_2 {x0 x1 y : Option Tr} {d : Tr} {r : St2} {N : St2 → Ms → Prop} : gN 2 d (x0 :: x1 :: y :: r) M N = N (x0 :: x1 :: some d :: r) M := rfl
@[simp ↓] theorem eVar_3 {x0 x1 x2 : Option Tr} {d : Tr} {r : St2} : eVar 3 (x0 :: x1 :: x2 :: some d :: r) M Q E = Q d M := propext ⟨fun ⟨_, e, q⟩ => by have e2 : some (some d) = _ := e; cases e2; exact q, fun q => ⟨d, rfl, q⟩⟩
@[simp ↓] theorem gN_3 {x0 x1 x2 y : Option Tr} {d : Tr} {r : St2} {N : St2 → Ms → Prop} : gN 3 d (x0 :: x1 :: x2 :: y :: r) M N = N (x0 :: x1 :: x2 :: some d :: r) M := rfl
@[simp ↓] theorem eVar_4 {x0 x1 x2 x3 : Option Tr} {d : Tr} {r : St2} : eVar 4 (x0 :: x1 :: x2 :: x3 :: some d :: r) M Q E = Q d M := propext ⟨fun ⟨_, e, q⟩ => by have e2 : some (some d) = _ := e; cases e2; exact q, fun q => ⟨d, rfl, q⟩⟩
@[simp ↓] theorem gN_4 {x0 x1 x2 x3 y : Option Tr} {d : Tr} {r : St2} {N : St2 → Ms → Prop} : gN 4 d (x0 :: x1 :: x2 :: x3 :: y :: r) M N = N (x0 :: x1 :: x2 :: x3 :: some d :: r) M := rfl
@[simp ↓] theorem eVar_5 {x0 x1 x2 x3 x4 : Option Tr} {d : Tr} {r : St2} : eVar 5 (x0 :: x1 :: x2 :: x3 :: x4 :: some d :: r) M Q E = Q d M := propext ⟨fun ⟨_, e, q⟩ => by have e2 : some (some d) = _ := e; cases e2; exact q, fun q => ⟨d, rfl, q⟩⟩
@[simp ↓] theorem gN_5 {x0 x1 x2 x3 x4 y : Option Tr} {d : Tr} {r : St2} {N : St2 → Ms → Prop} : gN 5 d (x0 :: x1 :: x2 :: x3 :: x4 :: y :: r) M N = N (x0 :: x1 :: x2 :: x3 :: x4 :: some d :: r) M := rfl
@[simp ↓] theorem eVar_6 {x0 x1 x2 x3 x4 x5 : Option Tr} {d : Tr} {r : St2} : eVar 6 (x0 :: x1 :: x2 :: x3 :: x4 :: x5 :: some d :: r) M Q E = Q d M := propext ⟨fun ⟨_, e, q⟩ => by have e2 : some (some d) = _ := e; cases e2; exact q, fun q => ⟨d, rfl, q⟩⟩
@[simp ↓] theorem gN_6 {x0 x1 x2 x3 x4 x5 y : Option Tr} {d : Tr} {r : St2} {N : St2 → Ms → Prop} : gN 6 d (x0 :: x1 :: x2 :: x3 :: x4 :: x5 :: y :: r) M N = N (x0 :: x1 :: x2 :: x3 :: x4 :: x5 :: some d :: r) M := rfl
@[simp ↓] theorem eVar_7 {x0 x1 x2 x3 x4 x5 x6 : Option Tr} {d : Tr} {r : St2} : eVar 7 (x0 :: x1 :: x2 :: x3 :: x4 :: x5 :: x6 :: some d :: r) M Q E = Q d M := propext ⟨fun ⟨_, e, q⟩ => by have e2 : some (some d) = _ := e; cases e2; exact q, fun q => ⟨d, rfl, q⟩⟩
@[simp ↓] theorem gN_7 {x0 x1 x2 x3 x4 x5 x6 y : Option Tr} {d : Tr} {r : St2} {N : St2 → Ms → Prop} : gN 7 d (x0 :: x1 :: x2 :: x3 :: x4 :: x5 :: x6 :: y :: r) M N = N (x0 :: x1 :: x2 :: x3 :: x4 :: x5 :: x6 :: some d :: r) M := rfl
@[simp ↓] theorem eVar_8 {x0 x1 x2 x3 x4 x5 x6 x7 : Option Tr} {d : Tr} {r : St2} : eVar 8 (x0 :: x1 :: x2 :: x3 :: x4 :: x5 :: x6 :: x7 :: some d :: r) M Q E = Q d M := propext ⟨fun ⟨_, e, q⟩ => by have e2 : some (some d) = _ := e; cases e2; exact q, fun q => ⟨d, rfl, q⟩⟩
@[simp ↓] theorem gN_8 {x0 x1 x2 x3 x4 x5 x6 x7 y : Option Tr} {d : Tr} {r : St2} {N : St2 → Ms → Prop} : gN 8 d (x0 :: x1 :: x2 :: x3 :: x4 :: x5 :: x6 :: x7 :: y :: r) M N = N (x0 :: x1 :: x2 :: x3 :: x4 :: x5 :: x6 :: x7 :: some d :: r) M := rfl
@[simp ↓] theorem eVar_9 {x0 x1 x2 x3 x4 x5 x6 x7 x8 : Option Tr} {d : Tr} {r : St2} : eVar 9 (x0 :: x1 :: x2 :: x3 :: x4 :: x5 :: x6 :: x7 :: x8 :: some d :: r) M Q E = Q d M := propext ⟨fun ⟨_, e, q⟩ => by have e2 : some (some d) = _ := e; cases e2; exact q, fun q => ⟨d, rfl, q⟩⟩
@[simp ↓] theorem gN_9 {x0 x1 x2 x3 x4 x5 x6 x7 x8 y : Option Tr} {d : Tr} {r : St2} {N : St2 → Ms → Prop} : gN 9 d (x0 :: x1 :: x2 :: x3 :: x4 :: x5 :: x6 :: x7 :: x8 :: y :: r) M N = N (x0 :: x1 :: x2 :: x3 :: x4 :: x5 :: x6 :: x7 :: x8 :: some d :: r) M := rfl
@[simp ↓] theorem eVar_10 {x0 x1 x2 x3 x4 x5 x6 x7 x8 x9 : Option Tr} {d : Tr} {r : St2} : eVar 10 (x0 :: x1 :: x2 :: x3 :: x4 :: x5 :: x6 :: x7 :: x8 :: x9 :: some d :: r) M Q E = Q d M := propext ⟨fun ⟨_, e, q⟩ => by have e2 : some (some d) = _ := e; cases e2; exact q, fun q => ⟨d, rfl, q⟩⟩
@[simp ↓] theorem gN_10 {x0 x1 x2 x3 x4 x5 x6 x7 x8 x9 y : Option Tr} {d : Tr} {r : St2} {N : St2 → Ms → Prop} : gN 10 d (x0 :: x1 :: x2 :: x3 :: x4 :: x5 :: x6 :: x7 :: x8 :: x9 :: y :: r) M N = N (x0 :: x1 :: x2 :: x3 :: x4 :: x5 :: x6 :: x7 :: x8 :: x9 :: some d :: r) M := rfl
@[simp ↓] theorem eVar_11 {x0 x1 x2 x3 x4 x5 x6 x7 x8 x9 x10 : Option Tr} {d : Tr} {r : St2} : eVar 11 (x0 :: x1 :: x2 :: x3 :: x4 :: x5 :: x6 :: x7 :: x8 :: x9 :: x10 :: some d :: r) M Q E = Q d M := propext ⟨fun ⟨_, e, q⟩ => by have e2 : some (some d) = _ := e; cases e2; exact q, fun q => ⟨d, rfl, q⟩⟩
@[simp ↓] theorem gN_11 {x0 x1 x2 x3 x4 x5 x6 x7 x8 x9 x10 y : Option Tr} {d : Tr} {r : St2} {N : St2 → Ms → Prop} : gN 11 d (x0 :: x1 :: x2 :: x3 :: x4 :: x5 :: x6 :: x7 :: x8 :: x9 :: x10 :: y :: r) M N = N (x0 :: x1 :: x2 :: x3 :: x4 :: x5 :: x6 :: x7 :: x8 :: x9 :: x10 :: some d :: r) M := rfl
@[simp ↓] theorem eVar_12 {x0 x1 x2 x3 x4 x5 x6 x7 x8 x9 x10 x11 : Option Tr} {d : Tr} {r : St2} : eVar 12 (x0 :: x1 :: x2 :: x3 :: x4 :: x5 :: x6 :: x7 :: x8 :: x9 :: x10 :: x11 :: some d :: r) M Q E = Q d M := propext ⟨fun ⟨_, e, q⟩ => by have e2 : some (some d) = _ := e; cases e2; exact q, fun q => ⟨d, rfl, q⟩⟩
@[simp ↓] theorem gN_12 {x0 x1 x2 x3 x4 x5 x6 x7 x8 x9 x10 x11 y : Option Tr} {d : Tr} {r : St2} {N : St2 → Ms → Prop} : gN 12 d (x0 :: x1 :: x2 :: x3 :: x4 :: x5 :: x6 :: x7 :: x8 :: x9 :: x10 :: x11 :: y :: r) M N = N (x0 :: x1 :: x2 :: x3 :: x4 :: x5 :: x6 :: x7 :: x8 :: x9 :: x10 :: x11 :: some d :: r) M := rfl
@[simp ↓] theorem eVar_13 {x0 x1 x2 x3 x4 x5 x6 x7 x8 x9 x10 x11 x12 : Option Tr} {d : Tr} {r : St2} : eVar 13 (x0 :: x1 :: x2 :: x3 :: x4 :: x5 :: x6 :: x7 :: x8 :: x9 :: x10 :: x11 :: x12 :: some d :: r) M Q E = Q d M := propext ⟨fun ⟨_, e, q⟩ => by have e2 : some (some d) = _ := e; cases e2; exact q, fun q => ⟨d, rfl, q⟩⟩
@[simp ↓] theorem gN_13 {x0 x1 x2 x3 x4 x5 x6 x7 x8 x9 x10 x11 x12 y : Option Tr} {d : Tr} {r : St2} {N : St2 → Ms → Prop} : gN 13 d (x0 :: x1 :: x2 :: x3 :: x4 :: x5 :: x6 :: x7 :: x8 :: x9 :: x10 :: x11 :: x12 :: y :: r) M N = N (x0 :: x1 :: x2 :: x3 :: x4 :: x5 :: x6 :: x7 :: x8 :: x9 :: x10 :: x11 :: x12 :: some d :: r) M := rfl
@[simp ↓] theorem eVar_14 {x0 x1 x2 x3 x4 x5 x6 x7 x8 x9 x10 x11 x12 x13 : Option Tr} {d : Tr} {r : St2} : eVar 14 (x0 :: x1 :: x2 :: x3 :: x4 :: x5 :: x6 :: x7 :: x8 :: x9 :: x10 :: x11 :: x12 :: x13 :: some d :: r) M Q E = Q d M := propext ⟨fun ⟨_, e, q⟩ => by have e2 : some (some d) = _ := e; cases e2; exact q, fun q => ⟨d, rfl, q⟩⟩
@[simp ↓] theorem gN_14 {x0 x1 x2 x3 x4 x5 x6 x7 x8 x9 x10 x11 x12 x13 y : Option Tr} {d : Tr} {r : St2} {N : St2 → Ms → Prop} : gN 14 d (x0 :: x1 :: x2 :: x3 :: x4 :: x5 :: x6 :: x7 :: x8 :: x9 :: x10 :: x11 :: x12 :: x13 :: y :: r) M N = N (x0 :: x1 :: x2 :: x3 :: x4 :: x5 :: x6 :: x7 :: x8 :: x9 :: x10 :: x11 :: x12 :: x13 :: some d :: r) M := rfl
@[simp ↓] theorem eVar_15 {x0 x1 x2 x3 x4 x5 x6 x7 x8 x9 x10 x11 x12 x13 x14 : Option Tr} {d : Tr} {r : St2} : eVar 15 (x0 :: x1 :: x2 :: x3 :: x4 :: x5 :: x6 :: x7 :: x8 :: x9 :: x10 :: x11 :: x12 :: x13 :: x14 :: some d :: r) M Q E = Q d M := propext ⟨fun ⟨_, e, q⟩ => by have e2 : some (some d) = _ := e; cases e2; exact q, fun q => ⟨d, rfl, q⟩⟩
@[simp ↓] theorem gN_15 {x0 x1 x2 x3 x4 x5 x6 x7 x8 x9 x10 x11 x12 x13 x14 y : Option Tr} {d : Tr} {r : St2} {N : St2 → Ms → Prop} : gN 15 d (x0 :: x1 :: x2 :: x3 :: x4 :: x5 :: x6 :: x7 :: x8 :: x9 :: x10 :: x11 :: x12 :: x13 :: x14 :: y :: r) M N = N (x0 :: x1 :: x2 :: x3 :: x4 :: x5 :: x6 :: x7 :: x8 :: x9 :: x10 :: x11 :: x12 :: x13 :: x14 :: some d :: r) M := rfl
@[simp ↓] theorem eVar_16 {x0 x1 x2 x3 x4 x5 x6 x7 x8 x9 x10 x11 x12 x13 x14 x15 : Option Tr} {d : Tr} {r : St2} : eVar 16 (x0 :: x1 :: x2 :: x3 :: x4 :: x5 :: x6 :: x7 :: x8 :: x9 :: x10 :: x11 :: x12 :: x13 :: x14 :: x15 :: some d :: r) M Q E = Q d M := propext ⟨fun ⟨_, e, q⟩ => by have e2 : some (some d) = _ := e; cases e2; exact q, fun q => ⟨d, rfl, q⟩⟩
@[simp ↓] theorem gN_16 {x0 x1 x2 x3 x4 x5 x6 x7 x8 x9 x10 x11 x12 x13 x14 x15 y : Option Tr} {d : Tr} {r : St2} {N : St2 → Ms → Prop} : gN 16 d (x0 :: x1 :: x2 :: x3 :: x4 :: x5 :: x6 :: x7 :: x8 :: x9 :: x10 :: x11 :: x12 :: x13 :: x14 :: x15 :: y :: r) M N = N (x0 :: x1 :: x2 :: x3 :: x4 :: x5 :: x6 :: x7 :: x8 :: x9 :: x10 :: x11 :: x12 :: x13 :: x14 :: x15 :: some d :: r) M := rfl
@[simp ↓] theorem eVar_17 {x0 x1 x2 x3 x4 x5 x6 x7 x8 x9 x10 x11 x12 x13 x14 x15 x16 : Option Tr} {d : Tr} {r : St2} : eVar 17 (x0 :: x1 :: x2 :: x3 :: x4 :: x5 :: x6 :: x7 :: x8 :: x9 :: x10 :: x11 :: x12 :: x13 :: x14 :: x15 :: x16 :: some d :: r) M Q E = Q d M := propext ⟨fun ⟨_, e, q⟩ => by have e2 : some (some d) = _ := e; cases e2; exact q, fun q => ⟨d, rfl, q⟩⟩
@[simp ↓] theorem gN_17 {x0 x1 x2 x3 x4 x5 x6 x7 x8 x9 x10 x11 x12 x13 x14 x15 x16 y : Option Tr} {d : Tr} {r : St2} {N : St2 → Ms → Prop} : gN 17 d (x0 :: x1 :: x2 :: x3 :: x4 :: x5 :: x6 :: x7 :: x8 :: x9 :: x10 :: x11 :: x12 :: x13 :: x14 :: x15 :: x16 :: y :: r) M N = N (x0 :: x1 :: x2 :: x3 :: x4 :: x5 :: x6 :: x7 :: x8 :: x9 :: x10 :: x11 :: x12 :: x13 :: x14 :: x15 :: x16 :: some d :: r) M := rfl
@[simp ↓] theorem eVar_18 {x0 x1 x2 x3 x4 x5 x6 x7 x8 x9 x10 x11 x12 x13 x14 x15 x16 x17 : Option Tr} {d : Tr} {r : St2} : eVar 18 (x0 :: x1 :: x2 :: x3 :: x4 :: x5 :: x6 :: x7 :: x8 :: x9 :: x10 :: x11 :: x12 :: x13 :: x14 :: x15 :: x16 :: x17 :: some d :: r) M Q E = Q d M := propext ⟨fun ⟨_, e, q⟩ => by have e2 : some (some d) = _ := e; cases e2; exact q, fun q => ⟨d, rfl, q⟩⟩
@[simp ↓] theorem gN_18 {x0 x1 x2 x3 x4 x5 x6 x7 x8 x9 x10 x11 x12 x13 x14 x15 x16 x17 y : Option Tr} {d : Tr} {r : St2} {N : St2 → Ms → Prop} : gN 18 d (x0 :: x1 :: x2 :: x3 :: x4 :: x5 :: x6 :: x7 :: x8 :: x9 :: x10 :: x11 :: x12 :: x13 :: x14 :: x15 :: x16 :: x17 :: y :: r) M N = N (x0 :: x1 :: x2 :: x3 :: x4 :: x5 :: x6 :: x7 :: x8 :: x9 :: x10 :: x11 :: x12 :: x13 :: x14 :: x15 :: x16 :: x17 :: some d :: r) M := rfl
@[simp ↓] theorem eVar_19 {x0 x1 x2 x3 x4 x5 x6 x7 x8 x9 x10 x11 x12 x13 x14 x15 x16 x17 x18 : Option Tr} {d : Tr} {r : St2} : eVar 19 (x0 :: x1 :: x2 :: x3 :: x4 :: x5 :: x6 :: x7 :: x8 :: x9 :: x10 :: x11 :: x12 :: x13 :: x14 :: x15 :: x16 :: x17 :: x18 :: some d :: r) M Q E = Q d M := propext ⟨fun ⟨_, e, q⟩ => by have e2 : some (some d) = _ := e; cases e2; exact q, fun q => ⟨d, rfl, q⟩⟩
@[simp ↓] theorem gN_19 {x0 x1 x2 x3 x4 x5 x6 x7 x8 x9 x10 x11 x12 x13 x14 x15 x16 x17 x18 y : Option Tr} {d : Tr} {r : St2} {N : St2 → Ms → Prop} : gN 19 d (x0 :: x1 :: x2 :: x3 :: x4 :: x5 :: x6 :: x7 :: x8 :: x9 :: x10 :: x11 :: x12 :: x13 :: x14 :: x15 :: x16 :: x17 :: x18 :: y :: r) M N = N (x0 :: x1 :: x2 :: x3 :: x4 :: x5 :: x6 :: x7 :: x8 :: x9 :: x10 :: x11 :: x12 :: x13 :: x14 :: x15 :: x16 :: x17 :: x18 :: some d :: r) M := rfl

@[simp ↓] theorem eC_ap {d : Tr} : eC d σ M Q E = Q d M := rfl
variable {r r' : R22} {ta tb tc te to : TE2} {t : TA2} {tA tB : TT2} {u v : TS2}
@[simp ↓] theorem eOp_ap : eOp r ta tb σ M Q E = ta σ M (fun d M1 => tb σ M1 (fun e M2 => r d e M2 Q) E) E := rfl
@[simp ↓] theorem eUn_ap {f : Tr → Ms → Q2 → Prop} : eUn f ta σ M Q E = ta σ M (fun d M1 => f d M1 Q) E := rfl
/-- what a truth is -/
def kB (d : Tr) (P : Bool → Prop) : Prop := match d with
  | .bl b => P b
  | _ => False
@[simp ↓] theorem kB_bl {b : Bool} {P : Bool → Prop} : kB (.bl b) P = P b := rfl
theorem kB_of {d : Tr} {P : Bool → Prop} : (∃ b, d = .bl b ∧ P b) = kB d P := propext ⟨fun ⟨b, e, q⟩ => by subst e; exact q, fun h => by
  cases d with
  | bl b => exact ⟨b, rfl, h⟩
  | _ => exact h.elim⟩
@[simp ↓] theorem eChain_ap : eChain r r' ta tb tc σ M Q E = ta σ M (fun d M1 => tb σ M1 (fun e M2 => r d e M2 fun z M3 => kB z fun k => if k = true then tc σ M3 (fun f M4 => r' e f M4 Q) E else Q (.bl false) M3) E) E := by
  unfold eChain
  simp only [kB_of]
@[simp ↓] theorem tCm_ap {P : Bool → Ms → Prop} : tCm ta σ M P E = ta σ M (fun d M1 => kB d fun b => P b M1) E := by
  unfold tCm
  simp only [kB_of]
def kT (d : Tr) (M : Ms) (P : Bool → Prop) : Prop := match truT d M with
  | some k => P k
  | none => False
theorem opt_of {α : Type} {o : Option α} {P : α → Prop} : (∃ k, o = some k ∧ P k) = match o with | some k => P k | none => False := by
  cases o with
  | none => simp
  | some a => simp
theorem kT_of {d : Tr} {P : Bool → Prop} : (∃ k, truT d M = some k ∧ P k) = kT d M P := by
  unfold kT
  cases truT d M <;> simp
variable {P : Bool → Prop}
@[simp ↓] theorem kT_bl {b : Bool} : kT (.bl b) M P = P b := rfl
@[simp ↓] theorem kT_int {i : Int} : kT (.int i) M P = P (i != 0) := rfl
@[simp ↓] theorem kT_non : kT .non M P = P false := rfl
@[simp ↓] theorem kT_tup {ds : List Tr} : kT (.tup ds) M P = P (!ds.isEmpty) := rfl
@[simp ↓] theorem kT_fro {ds : List Tr} : kT (.fro ds) M P = P (!ds.isEmpty) := rfl
@[simp ↓] theorem kT_loc {a : Addr} : kT (.loc a) M P = match M a with
  | some (.lst ds) => P (!ds.isEmpty)
  | some (.dic kvs) => P (!kvs.isEmpty)
  | _ => False := by
  simp only [kT, truT]
  generalize M a = o
  cases o with
  | none => rfl
  | some o => cases o <;> rfl
theorem kT_str {x : Str} (h : x.length ≤ sizeLine) : kT (.str x) M P = P ((x.length : Int) != 0) := by simp only [kT, truT, if_pos h]
@[simp ↓] theorem tTr_ap {P : Bool → Ms → Prop} : tTr ta σ M P E = ta σ M (fun d M1 => kT d M1 fun k => P k M1) E := by
  unfold tTr
  simp only [kT_of]
@[simp ↓] theorem tAn_ap {P : Bool → Ms → Prop} : tAn tA tB σ M P E = tA σ M (fun c M1 => if c = true then tB σ M1 P E else P false M1) E := rfl
@[simp ↓] theorem tOrr_ap {P : Bool → Ms → Prop} : tOrr tA tB σ M P E = tA σ M (fun c M1 => if c = true then P true M1 else tB σ M1 P E) E := rfl
@[simp ↓] theorem tNo_ap {P : Bool → Ms → Prop} : tNo tA σ M P E = tA σ M (fun c M1 => P (!c) M1) E := rfl
@[simp ↓] theorem tYes2_ap {P : Bool → Ms → Prop} : tYes2 σ M P E = P true M := rfl
@[simp ↓] theorem eAn_ap : eAn ta tb σ M Q E = ta σ M (fun d M1 => kT d M1 fun k => if k = true then tb σ M1 Q E else Q d M1) E := by
  unfold eAn
  simp only [kT_of]
@[simp ↓] theorem eOrr_ap : eOrr ta tb σ M Q E = ta σ M (fun d M1 => kT d M1 fun k => if k = true then Q d M1 else tb σ M1 Q E) E := by
  unfold eOrr
  simp only [kT_of]
@[simp ↓] theorem eNo_ap : eNo ta σ M Q E = ta σ M (fun d M1 => kT d M1 fun k => Q (.bl (!k)) M1) E := by
  unfold eNo
  simp only [kT_of]
@[simp ↓] theorem eIf_ap : eIf tA ta tb σ M Q E = tA σ M (fun c M1 => if c = true then ta σ M1 Q E else tb σ M1 Q E) E := rfl
@[simp ↓] theorem aNil_ap {P : List Tr → Ms → Prop} : aNil σ M P E = P [] M := rfl
@[simp ↓] theorem aCons_ap {P : List Tr → Ms → Prop} : aCons ta t σ M P E = ta σ M (fun d M1 => t σ M1 (fun ds M2 => P (d :: ds) M2) E) E := rfl
@[simp ↓] theorem eTup_ap : eTup t σ M Q E = t σ M (fun ds M1 => ds.length ≤ sizeLine ∧ Q (.tup ds) M1) E := rfl
/-- a new list is made: one stops here -/
def NewL (M : Ms) (ds : List Tr) (Q : Q2) (_ : Fx Q) : Prop := ∀ p, M p = none → Q (.loc p) (up M p (.lst ds))
@[simp ↓] theorem eLst_ap : eLst t σ M Q E = t σ M (fun ds M1 => ds.length ≤ sizeLine ∧ NewL M1 ds Q .mk) E := rfl
/-! subscripts -/
def kS (d : Tr) (M : Ms) (P : List Tr → Prop) : Prop := match seqT d M with
  | some l => P l
  | none => False
variable {PL : List Tr → Prop} {l : List Tr}
@[simp ↓] theorem kS_tup : kS (.tup l) M PL = PL l := rfl
@[simp ↓] theorem kS_fro : kS (.fro l) M PL = PL l := rfl
@[simp ↓] theorem kS_loc {a : Addr} : kS (.loc a) M PL = match M a with
  | some (.lst ds) => PL ds
  | _ => False := by
  simp only [kS, seqT]
  generalize M a = o
  cases o with
  | none => rfl
  | some o => cases o <;> rfl
theorem kS_of {d : Tr} : (∃ k, seqT d M = some k ∧ PL k) = kS d M PL := by
  unfold kS
  cases seqT d M <;> simp
def kAt (l : List Tr) (i : Int) (P : Tr → Prop) : Prop := match atI l i with
  | some f => P f
  | none => False
theorem kAt_of {i : Int} {P : Tr → Prop} : (∃ k, atI l i = some k ∧ P k) = kAt l i P := by
  unfold kAt
  cases atI l i <;> simp
theorem atI_nat {α : Type} (xs : List α) (i : Nat) : atI xs (i : Int) = xs[i]? := by
  unfold atI ixN
  rw [if_pos (by omega)]
  by_cases h : i < xs.length
  · rw [if_pos (by omega)]
    simp
  · rw [if_neg (by omega)]
    simp; omega
theorem atI_last {α : Type} (xs : List α) : atI xs (-1) = xs[xs.length - 1]? := by
  unfold atI ixN
  rw [if_neg (by omega)]
  by_cases h : xs.length = 0
  · rw [if_neg (by omega)]
    simp; omega
  · rw [if_pos (by omega)]
    have e : (-1 + (xs.length : Int)).toNat = xs.length - 1 := by omega
    simp [e]

@[simp ↓] theorem kAt_0 {d : Tr} {s : List Tr} {P : Tr → Prop} : kAt (d :: s) 0 P = P d := by
  have e : atI (d :: s) ((0 : Nat) : Int) = some d := by rw [atI_nat]; rfl
  have e2 : kAt (d :: s) ((0 : Nat) : Int) P = P d := by unfold kAt; rw [e]
  exact e2
@[simp ↓] theorem kAt_1 {z0 d : Tr} {s : List Tr} {P : Tr → Prop} : kAt (z0 :: d :: s) 1 P = P d := by
  have e : atI (z0 :: d :: s) ((1 : Nat) : Int) = some d := by rw [atI_nat]; rfl
  have e2 : kAt (z0 :: d :: s) ((1 : Nat) : Int) P = P d := by unfold kAt; rw [e]
  exact e2
@[simp ↓] theorem kAt_2 {z0 z1 d : Tr} {s : List Tr} {P : Tr → Prop} : kAt (z0 :: z1 :: d :: s) 2 P = P d := by
  have e : atI (z0 :: z1 :: d :: s) ((2 : Nat) : Int) = some d := by rw [atI_nat]; rfl
  have e2 : kAt (z0 :: z1 :: d :: s) ((2 : Nat) : Int) P = P d := by unfold kAt; rw [e]
  exact e2
@[simp ↓] theorem kAt_3 {z0 z1 z2 d : Tr} {s : List Tr} {P : Tr → Prop} : kAt (z0 :: z1 :: z2 :: d :: s) 3 P = P d := by
  have e : atI (z0 :: z1 :: z2 :: d :: s) ((3 : Nat) : Int) = some d := by rw [atI_nat]; rfl
  have e2 : kAt (z0 :: z1 :: z2 :: d :: s) ((3 : Nat) : Int) P = P d := by unfold kAt; rw [e]
  exact e2
@[simp ↓] theorem kAt_4 {z0 z1 z2 z3 d : Tr} {s : List Tr} {P : Tr → Prop} : kAt (z0 :: z1 :: z2 :: z3 :: d :: s) 4 P = P d := by
  have e : atI (z0 :: z1 :: z2 :: z3 :: d :: s) ((4 : Nat) : Int) = some d := by rw [atI_nat]; rfl
  have e2 : kAt (z0 :: z1 :: z2 :: z3 :: d :: s) ((4 : Nat) : Int) P = P d := by unfold kAt; rw [e]
  exact e2
@[simp ↓] theorem kAt_5 {z0 z1 z2 z3 z4 d : Tr} {s : List Tr} {P : Tr → Prop} : kAt (z0 :: z1 :: z2 :: z3 :: z4 :: d :: s) 5 P = P d := by
  have e : atI (z0 :: z1 :: z2 :: z3 :: z4 :: d :: s) ((5 : Nat) : Int) = some d := by rw [atI_nat]; rfl
  have e2 : kAt (z0 :: z1 :: z2 :: z3 :: z4 :: d :: s) ((5 : Nat) : Int) P = P d := by unfold kAt; rw [e]
  exact e2

theorem kAt_get {P : Tr → Prop} {i : Nat} {d : Tr} (h : l[i]? = some d) : kAt l (i : Int) P = P d := by unfold kAt; rw [atI_nat, h]
theorem kAt_last {P : Tr → Prop} {d : Tr} (h : l[l.length - 1]? = some d) : kAt l (-1) P = P d := by unfold kAt; rw [atI_last, h]
/-- a sign of a text -/
def kChr (z : Str) (i : Int) (P : Tr → Prop) : Prop := match atI z.cps.toList i with
  | some c => P (.str ⟨#[c]⟩)
  | none => False
@[simp ↓] theorem rIx2_str {z : Str} {i : Int} : rIx2 (.str z) (.int i) M Q = (z.length ≤ sizeLine ∧ kChr z i fun d => Q d M) := by
  have e : rIx2 (.str z) (.int i) M Q = (z.length ≤ sizeLine ∧ ∃ c, atI z.cps.toList i = some c ∧ Q (.str ⟨#[c]⟩) M) := rfl
  rw [e]
  unfold kChr
  cases atI z.cps.toList i <;> simp
@[simp ↓] theorem rIx2_tup {i : Int} : rIx2 (.tup l) (.int i) M Q = kAt l i fun d => Q d M := by
  unfold rIx2
  simp [kAt_of, seqT]
@[simp ↓] theorem rIx2_fro {i : Int} : rIx2 (.fro l) (.int i) M Q = kAt l i fun d => Q d M := by
  unfold rIx2
  simp [kAt_of, seqT]
@[simp ↓] theorem rIx2_loc {a : Addr} {i : Int} : rIx2 (.loc a) (.int i) M Q = kS (.loc a) M fun l => kAt l i fun d => Q d M := by
  have e : rIx2 (.loc a) (.int i) M Q = ∃ ds f, seqT (.loc a) M = some ds ∧ atI ds i = some f ∧ Q f M := rfl
  rw [e]
  simp only [exists_and_left, kAt_of, kS_of]
def kI (d : Tr) (P : Int → Prop) : Prop := match d with
  | .int i => P i
  | _ => False
@[simp ↓] theorem kI_int {i : Int} {P : Int → Prop} : kI (.int i) P = P i := rfl
theorem kI_of {d : Tr} {P : Int → Prop} : (∃ b, d = .int b ∧ P b) = kI d P := propext ⟨fun ⟨b, e, q⟩ => by subst e; exact q, fun h => by
  cases d with
  | int b => exact ⟨b, rfl, h⟩
  | _ => exact h.elim⟩
variable {PO : Option Int → Ms → Prop} {lo hi : Option Int} {tl th : TO2}
@[simp ↓] theorem oNo_ap : oNo σ M PO E = PO none M := rfl
@[simp ↓] theorem oPart_ap : oPart ta σ M PO E = ta σ M (fun d M1 => kI d fun i => PO (some i) M1) E := by
  unfold oPart
  simp only [kI_of]
@[simp ↓] theorem eSl_ap {f : Tr → Option Int → Option Int → Ms → Q2 → Prop} : eSl f ta tl th σ M Q E = ta σ M (fun d M1 => tl σ M1 (fun lo M2 => th σ M2 (fun hi M3 => f d lo hi M3 Q) E) E) E := rfl
@[simp ↓] theorem rSl2_tup : rSl2 (.tup l) lo hi M Q = Q (.tup (cutT l lo hi)) M := rfl
@[simp ↓] theorem rSl2_str {z : Str} : rSl2 (.str z) lo hi M Q = (z.length ≤ sizeLine ∧ Q (.str (cutS z lo hi)) M) := rfl
@[simp ↓] theorem rSl2_fro : rSl2 (.fro l) lo hi M Q = NewL M (cutT l lo hi) Q .mk := by
  unfold rSl2 NewL
  simp [seqT]
@[simp ↓] theorem rSl2_loc {a : Addr} : rSl2 (.loc a) lo hi M Q = kS (.loc a) M fun l => NewL M (cutT l lo hi) Q .mk := by
  have e : rSl2 (.loc a) lo hi M Q = ∃ ds, seqT (.loc a) M = some ds ∧ NewL M (cutT ds lo hi) Q .mk := rfl
  rw [e, kS_of]
theorem cutT_hi (ds : List Tr) (k : Nat) : cutT ds none (some (k : Int)) = ds.take k := by
  unfold cutT
  rw [HT.sIx_none, HT.sIx_nat, List.drop_zero, Nat.sub_zero]
  by_cases h : k ≤ ds.length
  · rw [Nat.min_eq_left h]
  · rw [Nat.min_eq_right (by omega), List.take_length, List.take_of_length_le (by omega)]
theorem cutT_lo (ds : List Tr) (k : Nat) : cutT ds (some (k : Int)) none = ds.drop k := by
  unfold cutT
  rw [HT.sIx_none, HT.sIx_nat]
  by_cases h : k ≤ ds.length
  · rw [Nat.min_eq_left h, List.take_of_length_le (by simp)]
  · rw [Nat.min_eq_right (by omega), List.drop_length, List.drop_of_length_le (by omega)]; simp
theorem cutT_both (ds : List Tr) (k l : Nat) : cutT ds (some (k : Int)) (some (l : Int)) = (ds.drop k).take (l - k) := by
  unfold cutT
  rw [HT.sIx_nat, HT.sIx_nat]
  by_cases h : k ≤ ds.length
  · rw [Nat.min_eq_left h]
    by_cases h2 : l ≤ ds.length
    · rw [Nat.min_eq_left h2]
    · rw [Nat.min_eq_right (show ds.length ≤ l by omega), List.take_of_length_le (by simp), List.take_of_length_le (by simp; omega)]
  · rw [Nat.min_eq_right (show ds.length ≤ k by omega), List.drop_length, List.drop_of_length_le (by omega)]; simp
/-! operators -/
variable {i j : Int} {a b : Addr}
@[simp ↓] theorem rII_ap {C : Int → Int → Prop} {g : Int → Int → Int} : rII C g (.int i) (.int j) M Q = (C i j ∧ Q (.int (g i j)) M) := rfl
@[simp ↓] theorem rII_t {g : Int → Int → Int} : rII (fun _ _ => True) g (.int i) (.int j) M Q = Q (.int (g i j)) M := propext ⟨fun h => h.2, fun h => ⟨trivial, h⟩⟩
@[simp ↓] theorem rAdd2_int : rAdd2 (.int i) (.int j) M Q = Q (.int (i + j)) M := rfl
@[simp ↓] theorem rAdd2_str {x y : Str} : rAdd2 (.str x) (.str y) M Q = (x.length + y.length ≤ sizeLine ∧ Q (.str (x ++ y)) M) := rfl
@[simp ↓] theorem rAdd2_tup {k : List Tr} : rAdd2 (.tup l) (.tup k) M Q = (l.length + k.length ≤ sizeLine ∧ Q (.tup (l ++ k)) M) := rfl
@[simp ↓] theorem rAdd2_loc : rAdd2 (.loc a) (.loc b) M Q = kS (.loc a) M fun l => kS (.loc b) M fun k => l.length + k.length ≤ sizeLine ∧ NewL M (l ++ k) Q .mk := by
  have e : rAdd2 (.loc a) (.loc b) M Q = ∃ la lb, M a = some (.lst la) ∧ M b = some (.lst lb) ∧ la.length + lb.length ≤ sizeLine ∧ NewL M (la ++ lb) Q .mk := rfl
  rw [e]
  apply propext
  constructor
  · rintro ⟨la, lb, h1, h2, h3⟩
    simp only [kS_loc, h1, h2]
    exact h3
  · intro h
    rw [← kS_of] at h
    obtain ⟨la, h1, h⟩ := h
    rw [← kS_of] at h
    obtain ⟨lb, h2, h⟩ := h
    exact ⟨la, lb, seqT_loc h1, seqT_loc h2, h⟩
@[simp ↓] theorem rMul2_int : rMul2 (.int i) (.int j) M Q = (CMulX i j ∧ Q (.int (i * j)) M) := rfl
@[simp ↓] theorem rMul2_loc : rMul2 (.loc a) (.int i) M Q = kS (.loc a) M fun la => -(2 ^ 63) ≤ i ∧ i < 2 ^ 63 ∧ la.length * i.toNat ≤ sizeLine ∧ NewL M (List.replicate i.toNat la).flatten Q .mk := by
  have e : rMul2 (.loc a) (.int i) M Q = ∃ la, M a = some (.lst la) ∧ -(2 ^ 63) ≤ i ∧ i < 2 ^ 63 ∧ la.length * i.toNat ≤ sizeLine ∧ NewL M (List.replicate i.toNat la).flatten Q .mk := rfl
  rw [e]
  apply propext
  constructor
  · rintro ⟨la, h1, h3⟩
    simp only [kS_loc, h1]
    exact h3
  · intro h
    rw [← kS_of] at h
    obtain ⟨la, h1, h⟩ := h
    exact ⟨la, seqT_loc h1, h⟩
@[simp ↓] theorem rCmpI_ap {f : Int → Int → Bool} : rCmpI f (.int i) (.int j) M Q = Q (.bl (f i j)) M := rfl
@[simp ↓] theorem rNeg2_ap : rNeg2 (.int i) M Q = Q (.int (-i)) M := rfl
variable {f : Bool → Bool} {x y : Str} {p q : Bool} {kk : List Tr}
@[simp ↓] theorem rEqG_ii : rEqG f (.int i) (.int j) M Q = Q (.bl (f (decide (i = j)))) M := rfl
@[simp ↓] theorem rEqG_ss : rEqG f (.str x) (.str y) M Q = Q (.bl (f (decide (x = y)))) M := rfl
@[simp ↓] theorem rEqG_bb : rEqG f (.bl p) (.bl q) M Q = Q (.bl (f (decide (p = q)))) M := rfl
@[simp ↓] theorem rEqG_nn : rEqG f .non .non M Q = Q (.bl (f true)) M := rfl
@[simp ↓] theorem rEqG_ni : rEqG f .non (.int j) M Q = Q (.bl (f false)) M := rfl
@[simp ↓] theorem rEqG_in : rEqG f (.int j) .non M Q = Q (.bl (f false)) M := rfl
@[simp ↓] theorem rEqG_ns : rEqG f .non (.str x) M Q = Q (.bl (f false)) M := rfl
@[simp ↓] theorem rEqG_sn : rEqG f (.str x) .non M Q = Q (.bl (f false)) M := rfl
@[simp ↓] theorem rEqG_is : rEqG f (.int i) (.str x) M Q = Q (.bl (f false)) M := rfl
@[simp ↓] theorem rEqG_si : rEqG f (.str x) (.int i) M Q = Q (.bl (f false)) M := rfl
/-- data compared: one stops here -/
def EqS (f : Bool → Bool) (d e : Tr) (M : Ms) (Q : Q2) (_ : Fx Q) : Prop := ∃ p q, Dat M p d ∧ Dat M q e ∧ SeqAt.shaped p = true ∧ SeqAt.shaped q = true ∧ Q (.bl (f (PyData.eqv p q))) M
@[simp ↓] theorem rEqG_tt : rEqG f (.tup l) (.tup kk) M Q = EqS f (.tup l) (.tup kk) M Q .mk := rfl
@[simp ↓] theorem rEqG_ll : rEqG f (.loc a) (.loc b) M Q = EqS f (.loc a) (.loc b) M Q .mk := rfl
@[simp ↓] theorem rIsG_n {d : Tr} : rIsG f d .non M Q = Q (.bl (f (isNon d))) M := rfl
@[simp ↓] theorem rIsG_b : rIsG f (.bl p) (.bl q) M Q = Q (.bl (f (decide (p = q)))) M := by
  have e : rIsG f (.bl p) (.bl q) M Q = ∃ a, Tr.bl p = .bl a ∧ Q (.bl (f (decide (a = q)))) M := rfl
  rw [e, kB_of]
  rfl
@[simp] theorem isNon_n : isNon .non = true := rfl
@[simp] theorem isNon_i : isNon (.int i) = false := rfl
@[simp] theorem isNon_s : isNon (.str x) = false := rfl
@[simp] theorem isNon_t : isNon (.tup l) = false := rfl
@[simp] theorem isNon_l : isNon (.loc a) = false := rfl
@[simp] theorem isNon_b : isNon (.bl p) = false := rfl
@[simp ↓] theorem rInG_ss : rInG f (.str x) (.str y) M Q = Q (.bl (f (strIn x y))) M := rfl
theorem rInG_seq {d e : Tr} (h : seqT e M = some l) (h1 : flatT d = true) (h2 : l.all flatT = true) (hq : Q (.bl (f (inT d l))) M) : rInG f d e M Q := by
  cases d <;> cases e <;> first
    | (cases h; done)
    | exact Or.inl ⟨l, h, h1, h2, hq⟩
/-! built-ins -/
@[simp ↓] theorem eB_ap {rc : RC2} : eB rc t σ M Q E = t σ M (fun ds M1 => rc ds M1 Q) E := rfl
@[simp ↓] theorem eBK_ap {rc : RCK2} {tk : TA2} : eBK rc t tk σ M Q E = t σ M (fun ds M1 => tk σ M1 (fun es M2 => rc ds es M2 Q) E) E := rfl
def kL (d : Tr) (M : Ms) (P : Nat → Prop) : Prop := match lenT d M with
  | some n => P n
  | none => False
variable {PN : Nat → Prop} {d e : Tr}
@[simp ↓] theorem kL_tup : kL (.tup l) M PN = PN l.length := rfl
@[simp ↓] theorem kL_fro : kL (.fro l) M PN = PN l.length := rfl
@[simp ↓] theorem kL_loc : kL (.loc a) M PN = match M a with
  | some (.lst ds) => PN ds.length
  | some (.dic kvs) => PN kvs.length
  | _ => False := by
  simp only [kL, lenT]
  generalize M a = o
  cases o with
  | none => rfl
  | some o => cases o <;> rfl
theorem kL_str (h : x.length ≤ sizeLine) : kL (.str x) M PN = PN x.length := by simp only [kL, lenT, if_pos h]
@[simp ↓] theorem rLen2_ap : rLen2 [d] M Q = kL d M fun n => Q (.int n) M := by
  have e : rLen2 [d] M Q = ∃ n, lenT d M = some n ∧ Q (.int n) M := rfl
  rw [e]
  unfold kL
  cases lenT d M <;> simp
@[simp ↓] theorem rTuple2_ap : rTuple2 [d] M Q = kS d M fun l => Q (.tup l) M := kS_of
@[simp ↓] theorem rList2_ap : rList2 [d] M Q = kS d M fun l => NewL M l Q .mk := kS_of (PL := fun l => NewL M l Q .mk)
@[simp ↓] theorem rInt2_int : rInt2 [.int i] M Q = Q (.int i) M := rfl
@[simp ↓] theorem rAbs2_int : rAbs2 [.int i] M Q = Q (.int (if i < 0 then -i else i)) M := rfl
@[simp ↓] theorem rMax2_int : rMax2 [.int i, .int j] M Q = Q (.int (if j > i then j else i)) M := rfl
@[simp ↓] theorem rMin2_int : rMin2 [.int i, .int j] M Q = Q (.int (if j < i then j else i)) M := rfl
/-- sum of a list: one stops here -/
def SumS (d : Tr) (M : Ms) (Q : Q2) (_ : Fx Q) : Prop := ∃ ns : List Int, seqT d M = some (ns.map Tr.int) ∧ (∀ es, d ≠ .tup es) ∧ Q (.int ns.sum) M
@[simp ↓] theorem rSum2_ap : rSum2 [d] M Q = SumS d M Q .mk := rfl
def MaxS (le : Int → Int → Prop) (d : Tr) (M : Ms) (Q : Q2) (_ : Fx Q) : Prop := ∃ ns : List Int, seqT d M = some (ns.map Tr.int) ∧ (∀ es, d ≠ .tup es) ∧ 0 < ns.length ∧ ∀ m, m ∈ ns → (∀ y, y ∈ ns → le y m) → Q (.int m) M
@[simp ↓] theorem rMaxL_ap {le : Int → Int → Prop} : rMaxL le [d] M Q = MaxS le d M Q .mk := rfl
def MaxDS (d : Tr) (i : Int) (M : Ms) (Q : Q2) (_ : Fx Q) : Prop := ∃ ns : List Int, seqT d M = some (ns.map Tr.int) ∧ (∀ es, d ≠ .tup es) ∧ Q (.int (mxD ns i)) M
@[simp ↓] theorem rMaxD_ap : rMaxD [d] [.int i] M Q = MaxDS d i M Q .mk := propext ⟨fun ⟨d', ns, k, e1, e2, h⟩ => by cases e1; cases e2; exact ⟨ns, h⟩, fun ⟨ns, h⟩ => ⟨d, ns, i, rfl, rfl, h⟩⟩
def kY (d : Tr) (M : Ms) (c : String) (P : Bool → Prop) : Prop := ∃ t b, tyT d M = some t ∧ kitB t c = some b ∧ P b
@[simp ↓] theorem rIsi2_ap {c : String} : rIsi2 [d, .ty c] M Q = kY d M c fun b => Q (.bl b) M := propext ⟨fun ⟨t, c', b, h1, h2, h3, h4⟩ => by cases h2; exact ⟨t, b, h1, h3, h4⟩, fun ⟨t, b, h1, h3, h4⟩ => ⟨t, c, b, h1, rfl, h3, h4⟩⟩
theorem kY_of {c t : String} {b : Bool} (h : tyT d M = some t) (h2 : kitB t c = some b) : kY d M c P = P b := propext ⟨fun ⟨t', b', h3, h4, h5⟩ => by
  rw [h] at h3; cases h3
  rw [h2] at h4; cases h4
  exact h5, fun h3 => ⟨t, b, h, h2, h3⟩⟩
/-- repr: one stops here -/
def ReprS (d : Tr) (M : Ms) (Q : Q2) (_ : Fx Q) : Prop := ∃ p : PyData, Dat M p d ∧ p.showable = true ∧ p.hasDict = false ∧ p.depth ≤ 50 ∧ p.shown.length ≤ sizeLine ∧ Q (.str p.shown) M
@[simp ↓] theorem rRepr2_ap : rRepr2 [d] M Q = ReprS d M Q .mk := rfl
@[simp ↓] theorem eLR1_ap : eLR1 ta σ M Q E = ta σ M (fun d M1 => kI d fun n => RgOk 0 n ∧ NewL M1 (rgT 0 n) Q .mk) E := by
  unfold eLR1 NewL
  simp only [kI_of]
@[simp ↓] theorem eLR2_ap : eLR2 ta tb σ M Q E = ta σ M (fun d M1 => tb σ M1 (fun e M2 => kI d fun i => kI e fun j => RgOk i j ∧ NewL M2 (rgT i j) Q .mk) E) E := by
  unfold eLR2 NewL
  simp only [← kI_of]
  congr 1
  funext d M1
  congr 1
  funext e M2
  apply propext
  constructor
  · rintro ⟨i, j, h1, h2, h3⟩
    exact ⟨i, h1, j, h2, h3⟩
  · rintro ⟨i, h1, j, h2, h3⟩
    exact ⟨i, j, h1, h2, h3⟩
/-! methods -/
@[simp ↓] theorem eM0_ap {T : String} {rm : RM2} : eM0 T rm to σ M Q E = to σ M (fun d M1 => isT T d M1 ∧ rm d [] M1 Q) E := rfl
@[simp ↓] theorem eM_ap {T : String} {rm : RM2} : eM T rm to t σ M Q E = to σ M (fun d M1 => isT T d M1 ∧ t σ M1 (fun ds M2 => rm d ds M2 Q) E) E := rfl
@[simp] theorem isT_loc_lst : isT "list" (.loc a) M = match M a with
  | some (.lst _) => True
  | _ => False := by
  unfold isT
  apply propext
  constructor
  · rintro (⟨_, ds, h⟩ | ⟨e, _⟩)
    · rw [h]; trivial
    · exact absurd e (by decide)
  · intro h
    split at h
    · exact .inl ⟨rfl, _, by assumption⟩
    · exact h.elim
@[simp ↓] theorem rApp2_ap : rApp2 (.loc a) [d] M Q = kS (.loc a) M fun l => l.length < sizeLine ∧ Q .non (up M a (.lst (l ++ [d]))) := by
  have e : rApp2 (.loc a) [d] M Q = ∃ l, M a = some (.lst l) ∧ l.length < sizeLine ∧ Q .non (up M a (.lst (l ++ [d]))) := rfl
  rw [e, ← kS_of]
  apply propext
  constructor
  · rintro ⟨l, h, r⟩; exact ⟨l, seqT_lst h, r⟩
  · rintro ⟨l, h, r⟩; exact ⟨l, seqT_loc h, r⟩
def kLast (l : List Tr) (P : Tr → Prop) : Prop := match l[l.length - 1]? with
  | some d => P d
  | none => False
@[simp ↓] theorem kLast_app {P : Tr → Prop} : kLast (l ++ [d]) P = P d := by
  unfold kLast
  simp
@[simp ↓] theorem rPop2_ap : rPop2 (.loc a) [] M Q = kS (.loc a) M fun l => kLast l fun e => Q e (up M a (.lst l.dropLast)) := by
  have e : rPop2 (.loc a) [] M Q = ∃ l e, M a = some (.lst l) ∧ l[l.length - 1]? = some e ∧ Q e (up M a (.lst l.dropLast)) := rfl
  rw [e, ← kS_of]
  apply propext
  constructor
  · rintro ⟨l, e, h, h2, r⟩; exact ⟨l, seqT_lst h, by unfold kLast; rw [h2]; exact r⟩
  · rintro ⟨l, h, r⟩
    unfold kLast at r
    split at r
    · exact ⟨l, _, seqT_loc h, by assumption, r⟩
    · exact r.elim
@[simp ↓] theorem rExt2_ap : rExt2 (.loc a) [.loc b] M Q = kS (.loc a) M fun l => kS (.loc b) M fun k => l.length + k.length ≤ sizeLine ∧ Q .non (up M a (.lst (l ++ k))) := by
  have e : rExt2 (.loc a) [.loc b] M Q = ∃ l r, M a = some (.lst l) ∧ M b = some (.lst r) ∧ l.length + r.length ≤ sizeLine ∧ Q .non (up M a (.lst (l ++ r))) := rfl
  rw [e]
  simp only [← kS_of]
  apply propext
  constructor
  · rintro ⟨l, k, h, h2, r⟩; exact ⟨l, seqT_lst h, k, seqT_lst h2, r⟩
  · rintro ⟨l, h, k, h2, r⟩; exact ⟨l, k, seqT_loc h, seqT_loc h2, r⟩
/-! calls -/
/-- a call: one stops here -/
def CallS (sp : Sp2) (ds : List Tr) (M : Ms) (Q : Q2) (E : X2) (_ : Fx (Q, E)) : Prop := sp ds M Q E
@[simp ↓] theorem eCall_ap {sp : Sp2} : eCall sp [] t σ M Q E = t σ M (fun ds M1 => CallS sp ds M1 Q E .mk) E := by
  unfold eCall CallS
  simp only [List.append_nil]
/-! statements -/
@[simp ↓] theorem sSq_ap : sSq u v D σ M = u { D with nx := v D } σ M := rfl
@[simp ↓] theorem sNx_ap : sNx D σ M = D.nx σ M := rfl
@[simp ↓] theorem sBk_ap : sBk D σ M = D.bk σ M := rfl
@[simp ↓] theorem sCt_ap : sCt D σ M = D.ct σ M := rfl
@[simp ↓] theorem sDr_ap : sDr te D σ M = te σ M (fun _ M1 => D.nx σ M1) (D.xx σ) := rfl
@[simp ↓] theorem sRt_ap : sRt te D σ M = te σ M D.rt (D.xx σ) := rfl
@[simp ↓] theorem sRtN_ap : sRtN D σ M = D.rt .non M := rfl
@[simp ↓] theorem sIf_ap : sIf tA u v D σ M = tA σ M (fun b M1 => if b = true then u D σ M1 else v D σ M1) (D.xx σ) := rfl
@[simp ↓] theorem sNv_ap : sNv D σ M = False := rfl
@[simp ↓] theorem sAs_ap {g : TG2} : sAs te g D σ M = te σ M (fun d M1 => g d σ M1 D.nx) (D.xx σ) := rfl
def k2 (ds : List Tr) (P : Tr → Tr → Prop) : Prop := match ds with
  | [d, e] => P d e
  | _ => False
@[simp ↓] theorem k2_ap {P : Tr → Tr → Prop} : k2 [d, e] P = P d e := rfl
def k3 (ds : List Tr) (P : Tr → Tr → Tr → Prop) : Prop := match ds with
  | [d, e, f] => P d e f
  | _ => False
@[simp ↓] theorem k3_ap {c : Tr} {P : Tr → Tr → Tr → Prop} : k3 [d, e, c] P = P d e c := rfl
@[simp ↓] theorem sPr_ap {i j : Nat} : sPr i j t D σ M = t σ M (fun ds M1 => k2 ds fun d e => gN i d σ M1 fun σ1 M2 => gN j e σ1 M2 D.nx) (D.xx σ) := by
  unfold sPr
  congr 1
  funext ds M1
  apply propext
  constructor
  · rintro ⟨d, e, rfl, h⟩; exact h
  · intro h
    match ds, h with
    | [d, e], h => exact ⟨d, e, rfl, h⟩
@[simp ↓] theorem sPr3_ap {i j l : Nat} : sPr3 i j l t D σ M = t σ M (fun ds M1 => k3 ds fun d e f => gN i d σ M1 fun σ1 M2 => gN j e σ1 M2 fun σ2 M3 => gN l f σ2 M3 D.nx) (D.xx σ) := by
  unfold sPr3
  congr 1
  funext ds M1
  apply propext
  constructor
  · rintro ⟨d, e, f, rfl, h⟩; exact h
  · intro h
    match ds, h with
    | [d, e, f], h => exact ⟨d, e, f, rfl, h⟩
@[simp ↓] theorem sAu_ap {i : Nat} : sAu i r te D σ M = eVar i σ M (fun d _ => te σ M (fun e M1 => r d e M1 fun z M2 => gN i z σ M2 D.nx) (D.xx σ)) X0 := rfl
/-! targets -/
variable {N : St2 → Ms → Prop} {g : TG2} {gs : TGs2} {ds : List Tr}
@[simp ↓] theorem gNil2_ap : gNil2 [] σ M N = N σ M := propext ⟨fun h => h.2, fun h => ⟨rfl, h⟩⟩
@[simp ↓] theorem gCo_ap : gCo g gs (d :: ds) σ M N = g d σ M fun σ' M' => gs ds σ' M' N := propext ⟨fun ⟨d', r, e, h⟩ => by cases e; exact h, fun h => ⟨d, ds, rfl, h⟩⟩
@[simp ↓] theorem gT_ap {n : Nat} : gT n gs (.tup ds) σ M N = (ds.length = n ∧ gs ds σ M N) := propext ⟨fun ⟨d', e, h⟩ => by cases e; exact h, fun h => ⟨ds, rfl, h⟩⟩
@[simp ↓] theorem gSb_ap {ti : TE2} : gSb rPut2 to ti d σ M N = to σ M (fun o M1 => ti σ M1 (fun i M2 => rPut2 o i d M2 fun M3 => N σ M3) X0) X0 := rfl
def kIx (n : Nat) (i : Int) (P : Nat → Prop) : Prop := match ixN n i with
  | some j => P j
  | none => False
theorem ixN_nat {n k : Nat} (h : k < n) : ixN n (k : Int) = some k := by
  unfold ixN
  rw [if_pos (by omega), if_pos (by omega)]
  simp
theorem kIx_nat {n k : Nat} (h : k < n) : kIx n (k : Int) PN = PN k := by unfold kIx; rw [ixN_nat h]
@[simp ↓] theorem rPut2_ap {PM : Ms → Prop} : rPut2 (.loc a) (.int i) d M PM = match M a with
  | some (.lst l) => kIx l.length i fun j => PM (up M a (.lst (l.set j d)))
  | some (.dic kvs) => kvs.length < sizeLine ∧ PM (up M a (.dic (putT kvs (.inl i) d)))
  | _ => False := by
  have e : rPut2 (.loc a) (.int i) d M PM = ((∃ a' l k j, Tr.loc a = .loc a' ∧ Tr.int i = .int k ∧ M a' = some (.lst l) ∧ ixN l.length k = some j ∧ PM (up M a' (.lst (l.set j d)))) ∨
    ∃ a' kvs k, Tr.loc a = .loc a' ∧ keyT (.int i) = some k ∧ M a' = some (.dic kvs) ∧ kvs.length < sizeLine ∧ PM (up M a' (.dic (putT kvs k d)))) := rfl
  rw [e]
  apply propext
  constructor
  · rintro (⟨a', l, k, j, h1, h2, h3, h4, h5⟩ | ⟨a', kvs, k, h1, h2, h3, h4⟩)
    · cases h1; cases h2
      rw [h3]
      show kIx _ _ _
      unfold kIx
      rw [h4]; exact h5
    · cases h1; cases h2
      rw [h3]; exact h4
  · intro h
    split at h
    · rename_i l hl
      unfold kIx at h
      split at h
      · exact .inl ⟨a, l, i, _, rfl, rfl, hl, by assumption, h⟩
      · exact h.elim
    · exact .inr ⟨a, _, _, rfl, rfl, by assumption, h⟩
    · exact h.elim
@[simp ↓] theorem kIx_0 {n : Nat} (h : 0 < n) : kIx n 0 PN = PN 0 := kIx_nat (k := 0) h
@[simp ↓] theorem kIx_1 {n : Nat} (h : 1 < n) : kIx n 1 PN = PN 1 := kIx_nat (k := 1) h
@[simp ↓] theorem kIx_2 {n : Nat} (h : 2 < n) : kIx n 2 PN = PN 2 := kIx_nat (k := 2) h
/-- what holds between two statements -/
theorem seq_cut (R : St2 → Ms → Prop) (h1 : ∀ NX : St2 → Ms → Prop, (∀ σ M, R σ M → NX σ M) → u { D with nx := NX } σ M) (h2 : ∀ σ M, R σ M → v D σ M) : sSq u v D σ M := h1 (v D) h2
/-! walks: one stops at the loop -/
def kSS (d : Tr) (M : Ms) (P : List Tr → Prop) : Prop := match seqS d M with
  | some l => P l
  | none => False
@[simp ↓] theorem kSS_tup : kSS (.tup l) M PL = PL l := rfl
@[simp ↓] theorem kSS_fro : kSS (.fro l) M PL = PL l := rfl
@[simp ↓] theorem kSS_str {x : Str} : kSS (.str x) M PL = PL (x.cps.toList.map fun k => .str ⟨#[k]⟩) := rfl
@[simp ↓] theorem kSS_loc {a : Addr} : kSS (.loc a) M PL = match M a with
  | some (.lst ds) => PL ds
  | _ => False := kS_loc
theorem kSS_some {d : Tr} (h : seqS d M = some l) : kSS d M PL = PL l := by unfold kSS; rw [h]
theorem kSS_of {d : Tr} : (∃ k, seqS d M = some k ∧ PL k) = kSS d M PL := by
  unfold kSS
  cases seqS d M <;> simp
def k1 (ds : List Tr) (P : Tr → Prop) : Prop := match ds with
  | [d] => P d
  | _ => False
@[simp ↓] theorem k1_ap {P : Tr → Prop} : k1 [d] P = P d := rfl
variable {R : It2 → Ms → Prop}
@[simp ↓] theorem iSq_ap : iSq te σ M R E = te σ M (fun d M1 => kSS d M1 fun ds => R (itL ds fun M => seqS d M = some ds) M1) E := by
  unfold iSq
  congr 1
  funext d M1
  exact kSS_of (PL := fun ds => R (itL ds fun M => seqS d M = some ds) M1)
@[simp ↓] theorem iEn_ap : iEn t σ M R E = t σ M (fun es M1 => k1 es fun d => kS d M1 fun ds => R (itE ds fun M => seqT d M = some ds) M1) E := by
  unfold iEn
  congr 1
  funext es M1
  apply propext
  constructor
  · rintro ⟨d, ds, rfl, h, r⟩
    show kS d M1 _
    rw [← kS_of]; exact ⟨ds, h, r⟩
  · intro h
    match es, h with
    | [d], h =>
      have h' : kS d M1 fun ds => R (itE ds fun M => seqT d M = some ds) M1 := h
      rw [← kS_of] at h'
      obtain ⟨ds, h1, h2⟩ := h'
      exact ⟨d, ds, rfl, h1, h2⟩
@[simp ↓] theorem iRg1_ap : iRg1 t σ M R E = t σ M (fun es M1 => k1 es fun d => kI d fun j => Rg j ∧ R (itR 0 j.toNat) M1) E := by
  unfold iRg1
  congr 1
  funext es M1
  apply propext
  constructor
  · rintro ⟨j, rfl, h⟩; exact h
  · intro h
    match es, h with
    | [d], h =>
      have h' : kI d fun j => Rg j ∧ R (itR 0 j.toNat) M1 := h
      rw [← kI_of] at h'
      obtain ⟨j, rfl, h2⟩ := h'
      exact ⟨j, rfl, h2⟩
@[simp ↓] theorem iRg2_ap : iRg2 t σ M R E = t σ M (fun es M1 => k2 es fun d e => kI d fun i => kI e fun j => Rg i ∧ Rg j ∧ R (itR i (j - i).toNat) M1) E := by
  unfold iRg2
  congr 1
  funext es M1
  apply propext
  constructor
  · rintro ⟨i, j, rfl, h⟩; exact h
  · intro h
    match es, h with
    | [d, e], h =>
      have h' : kI d fun i => kI e fun j => Rg i ∧ Rg j ∧ R (itR i (j - i).toNat) M1 := h
      rw [← kI_of] at h'
      obtain ⟨i, rfl, h2⟩ := h'
      rw [← kI_of] at h2
      obtain ⟨j, rfl, h3⟩ := h2
      exact ⟨i, j, rfl, h3⟩
variable {wi : TI2} {vs : List Nat}
def FoS (J : It2) (g : TG2) (v : TS2) (D : Ends2) (σ : St2) (M1 : Ms) (_ : Fx (J, g, v, D)) : Prop := ∃ W : Nat → Nat → St2 → Ms → Prop, (∃ m, W 0 m σ M1) ∧ ∀ i m σ M, W i m σ M →
  (J.stop i M ∧ D.nx σ M) ∨ (J.go i M ∧ ∃ N : St2 → Ms → Prop, (∀ σ' M', N σ' M' → ∃ m', m' < m ∧ W (i + 1) m' σ' M') ∧ ∀ d, J.yld i M d → g d σ M fun σ2 M2 => v { D with nx := N, ct := N, bk := D.nx } σ2 M2)
@[simp ↓] theorem sFo_ap : sFo wi g v D σ M = wi σ M (fun J M1 => FoS J g v D σ M1 .mk) (D.xx σ) := rfl
def LcS (J : It2) (g : TG2) (tt : TT2) (te : TE2) (vs : List Nat) (σ : St2) (M1 : Ms) (Q : Q2) (_ : Fx (J, g, tt, te, σ, Q)) : Prop := ∀ p, M1 p = none → ∃ W : Nat → Nat → Ms → Prop, (∃ m, W 0 m (up M1 p (.lst []))) ∧ ∀ i m M, W i m M →
  (J.stop i M ∧ Q (.loc p) M) ∨ (J.go i M ∧ ∃ N : Ms → Prop, (∀ M', N M' → ∃ m', m' < m ∧ W (i + 1) m' M') ∧ ∀ d, J.yld i M d → g d (wipe2 σ vs) M fun σ2 M2 => tt σ2 M2 (fun b M3 =>
    if b = true then te σ2 M3 (fun y M4 => ∃ acc, M4 p = some (.lst acc) ∧ acc.length < sizeLine ∧ N (up M4 p (.lst (acc ++ [y])))) X0 else N M3) X0)
@[simp ↓] theorem eLc_ap : eLc wi g tA te vs σ M Q E = wi σ M (fun J M1 => LcS J g tA te vs σ M1 Q .mk) E := rfl
theorem nx_cut (h : ∀ NX : St2 → Ms → Prop, (∀ σ M, D.nx σ M → NX σ M) → u { D with nx := NX } σ M) : u D σ M := h D.nx fun _ _ h => h
/-- a turn of a while: one stops here -/
def WhT (v : TS2) (W : Nat → St2 → Ms → Prop) (m : Nat) (D : Ends2) (σ : St2) (M1 : Ms) (_ : Fx (W, D)) : Prop := ∃ N : St2 → Ms → Prop, (∀ σ' M', N σ' M' → ∃ m', m' < m ∧ W m' σ' M') ∧ v { D with nx := N, ct := N, bk := D.nx } σ M1
theorem WhT.of {W : Nat → St2 → Ms → Prop} {m : Nat} {fx : Fx (W, D)} (h : ∀ NX : St2 → Ms → Prop, (∀ m' σ M, m' < m → W m' σ M → NX σ M) → v { D with nx := NX, ct := NX, bk := D.nx } σ M) : WhT v W m D σ M fx :=
  ⟨fun σ' M' => ∃ m', m' < m ∧ W m' σ' M', fun _ _ h => h, h _ fun m' σ M lt w => ⟨m', lt, w⟩⟩
theorem sWh_of (W : Nat → St2 → Ms → Prop) (m0 : Nat) (h0 : W m0 σ M) (h : ∀ m σ M, W m σ M → tA σ M (fun b M1 => if b = true then WhT v W m D σ M1 .mk else D.nx σ M1) (D.xx σ)) : sWh tA v D σ M := ⟨W, ⟨m0, h0⟩, h⟩
@[simp] theorem fEnds_nx : (fEnds Q E).nx σ M = Fg Q .non M := rfl
@[simp] theorem fEnds_rt : (fEnds Q E).rt = Fg Q := rfl
@[simp] theorem fEnds_bk : (fEnds Q E).bk σ M = False := rfl
@[simp] theorem fEnds_ct : (fEnds Q E).ct σ M = False := rfl
@[simp] theorem fEnds_ex {c : Value} {dd : Option Addr} : (fEnds Q E).ex c dd σ M = FgX E c dd M := rfl
/-! comprehensions whose items are made without a change of the store -/
theorem up_eta {M M1 : Ms} {p : Addr} {o : MO} (h : M p = some o) (fr : ∀ a, a ≠ p → M a = M1 a) : M = up M1 p o := by
  funext a
  by_cases c : a = p
  · subst c; rw [up_same]; exact h
  · rw [up_ne c]; exact fr a c
theorem fm_succ {f : Nat → Option Tr} {n : Nat} : (List.range (n + 1)).filterMap f = (List.range n).filterMap f ++ (match f n with | some y => [y] | none => []) := by
  rw [List.range_succ, List.filterMap_append]
  congr 1
  cases h : f n <;> simp [h]
theorem fm_len {f : Nat → Option Tr} {n : Nat} : ((List.range n).filterMap f).length ≤ n := by
  have := List.length_filterMap_le f (List.range n)
  simpa using this
section
variable {te : TE2} {g : TG2} {t : TT2} {vs : List Nat} {σ : St2} {M1 : Ms} {p : Addr} {Qd : Ms → Prop} (f : Nat → Option Tr)
theorem fm_put {i : Nat} {Pv : Nat → Ms → Prop} (hP : ∀ i M, M p = some (.lst ((List.range i).filterMap f)) → (∀ a, a ≠ p → M a = M1 a) → Pv i M) (hz : i < 100000) {M : Ms} (hp : M p = some (.lst ((List.range i).filterMap f))) (fr : ∀ a, a ≠ p → M a = M1 a) {x : Tr} {σ' : St2}
    (hs : ∀ (KY : Tr → Ms → Prop) (KN : Ms → Prop), (∀ y, f i = some y → KY y M) → (f i = none → KN M) → g x σ' M fun σ2 M2 => t σ2 M2 (fun b M3 => if b = true then te σ2 M3 KY X0 else KN M3) X0) :
    g x σ' M fun σ2 M2 => t σ2 M2 (fun b M3 => if b = true then te σ2 M3 (fun y M4 => ∃ acc, M4 p = some (.lst acc) ∧ acc.length < sizeLine ∧ Pv (i + 1) (up M4 p (.lst (acc ++ [y])))) X0 else Pv (i + 1) M3) X0 := by
  refine hs _ _ (fun y hy => ?_) fun hn => ?_
  · have := @fm_len f i
    refine ⟨_, hp, by rw [sizeLine_eq]; omega, hP _ _ ?_ fun a ha => ?_⟩
    · rw [up_same, fm_succ, hy]
    · rw [up_ne ha]; exact fr a ha
  · refine hP _ _ ?_ fr
    rw [fm_succ, hn, List.append_nil]; exact hp
theorem lc_fmR {lo : Int} {n : Nat} (hn : n ≤ 100000) (hd : Qd (up M1 p (.lst ((List.range n).filterMap f))))
    (hs : ∀ (i : Nat) M, i < n → (∀ a, a ≠ p → M a = M1 a) → ∀ (KY : Tr → Ms → Prop) (KN : Ms → Prop), (∀ y, f i = some y → KY y M) → (f i = none → KN M) → g (.int (lo + i)) (wipe2 σ vs) M fun σ2 M2 => t σ2 M2 (fun b M3 => if b = true then te σ2 M3 KY X0 else KN M3) X0) :
    ∃ W : Nat → Nat → Ms → Prop, (∃ m, W 0 m (up M1 p (.lst []))) ∧ ∀ i m M, W i m M → ((itR lo n).stop i M ∧ Qd M) ∨ ((itR lo n).go i M ∧ ∃ N : Ms → Prop, (∀ M', N M' → ∃ m', m' < m ∧ W (i + 1) m' M') ∧ ∀ d, (itR lo n).yld i M d →
      g d (wipe2 σ vs) M fun σ2 M2 => t σ2 M2 (fun b M3 => if b = true then te σ2 M3 (fun y M4 => ∃ acc, M4 p = some (.lst acc) ∧ acc.length < sizeLine ∧ N (up M4 p (.lst (acc ++ [y])))) X0 else N M3) X0) :=
  lc_itR (fun i M => M p = some (.lst ((List.range i).filterMap f)) ∧ ∀ a, a ≠ p → M a = M1 a) ⟨up_same, fun a h => up_ne h⟩
    (fun i M hi ⟨h1, h2⟩ => fm_put (Pv := fun i M => M p = some (.lst ((List.range i).filterMap f)) ∧ ∀ a, a ≠ p → M a = M1 a) f (fun i M a b => ⟨a, b⟩) (by omega) h1 h2 (hs i M hi h2)) fun M ⟨h1, h2⟩ => by rw [up_eta h1 h2]; exact hd
theorem lc_fmE {ds : List Tr} {ok : Ms → Prop} (hn : ds.length ≤ 100000) (hok : ∀ M, (∀ a, a ≠ p → M a = M1 a) → ok M) (hd : Qd (up M1 p (.lst ((List.range ds.length).filterMap f))))
    (hs : ∀ (i : Nat) d M, ds[i]? = some d → (∀ a, a ≠ p → M a = M1 a) → ∀ (KY : Tr → Ms → Prop) (KN : Ms → Prop), (∀ y, f i = some y → KY y M) → (f i = none → KN M) → g (.tup [.int i, d]) (wipe2 σ vs) M fun σ2 M2 => t σ2 M2 (fun b M3 => if b = true then te σ2 M3 KY X0 else KN M3) X0) :
    ∃ W : Nat → Nat → Ms → Prop, (∃ m, W 0 m (up M1 p (.lst []))) ∧ ∀ i m M, W i m M → ((itE ds ok).stop i M ∧ Qd M) ∨ ((itE ds ok).go i M ∧ ∃ N : Ms → Prop, (∀ M', N M' → ∃ m', m' < m ∧ W (i + 1) m' M') ∧ ∀ d, (itE ds ok).yld i M d →
      g d (wipe2 σ vs) M fun σ2 M2 => t σ2 M2 (fun b M3 => if b = true then te σ2 M3 (fun y M4 => ∃ acc, M4 p = some (.lst acc) ∧ acc.length < sizeLine ∧ N (up M4 p (.lst (acc ++ [y])))) X0 else N M3) X0) :=
  lc_itE (fun i M => M p = some (.lst ((List.range i).filterMap f)) ∧ ∀ a, a ≠ p → M a = M1 a) ⟨up_same, fun a h => up_ne h⟩ (fun i M _ ⟨_, h⟩ => hok M h)
    (fun i d M hi ⟨h1, h2⟩ => fm_put (Pv := fun i M => M p = some (.lst ((List.range i).filterMap f)) ∧ ∀ a, a ≠ p → M a = M1 a) f (fun i M a b => ⟨a, b⟩) (by have := (List.getElem?_eq_some_iff.mp hi).1; omega) h1 h2 (hs i d M hi h2)) fun M ⟨h1, h2⟩ => by rw [up_eta h1 h2]; exact hd
theorem lc_fmL {ds : List Tr} {ok : Ms → Prop} (hn : ds.length ≤ 100000) (hok : ∀ M, (∀ a, a ≠ p → M a = M1 a) → ok M) (hd : Qd (up M1 p (.lst ((List.range ds.length).filterMap f))))
    (hs : ∀ (i : Nat) d M, ds[i]? = some d → (∀ a, a ≠ p → M a = M1 a) → ∀ (KY : Tr → Ms → Prop) (KN : Ms → Prop), (∀ y, f i = some y → KY y M) → (f i = none → KN M) → g d (wipe2 σ vs) M fun σ2 M2 => t σ2 M2 (fun b M3 => if b = true then te σ2 M3 KY X0 else KN M3) X0) :
    ∃ W : Nat → Nat → Ms → Prop, (∃ m, W 0 m (up M1 p (.lst []))) ∧ ∀ i m M, W i m M → ((itL ds ok).stop i M ∧ Qd M) ∨ ((itL ds ok).go i M ∧ ∃ N : Ms → Prop, (∀ M', N M' → ∃ m', m' < m ∧ W (i + 1) m' M') ∧ ∀ d, (itL ds ok).yld i M d →
      g d (wipe2 σ vs) M fun σ2 M2 => t σ2 M2 (fun b M3 => if b = true then te σ2 M3 (fun y M4 => ∃ acc, M4 p = some (.lst acc) ∧ acc.length < sizeLine ∧ N (up M4 p (.lst (acc ++ [y])))) X0 else N M3) X0) :=
  lc_itL (fun i M => M p = some (.lst ((List.range i).filterMap f)) ∧ ∀ a, a ≠ p → M a = M1 a) ⟨up_same, fun a h => up_ne h⟩ (fun i M _ ⟨_, h⟩ => hok M h)
    (fun i d M hi ⟨h1, h2⟩ => fm_put (Pv := fun i M => M p = some (.lst ((List.range i).filterMap f)) ∧ ∀ a, a ≠ p → M a = M1 a) f (fun i M a b => ⟨a, b⟩) (by have := (List.getElem?_eq_some_iff.mp hi).1; omega) h1 h2 (hs i d M hi h2)) fun M ⟨h1, h2⟩ => by rw [up_eta h1 h2]; exact hd
end
theorem fm_if {q : Nat → Bool} {h : Nat → Tr} {l : List Nat} : l.filterMap (fun i => if q i = true then some (h i) else none) = (l.filter q).map h := by
  induction l with
  | nil => rfl
  | cons x r ih =>
    by_cases c : q x = true
    · simp only [List.filterMap_cons, List.filter_cons, c, if_true, List.map_cons, ih]
    · simp [List.filterMap_cons, List.filter_cons, c, ih]
theorem fm_all {h : Nat → Tr} {l : List Nat} : l.filterMap (fun i => some (h i)) = l.map h := by
  induction l with
  | nil => rfl
  | cons x r ih => simp only [List.filterMap_cons, List.map_cons, ih]
end
end T

/-! T, tenth part: texts joined and repeated, places in lists, sorted data. -/
namespace T
open PySem PySem.Spec PyProof.Rows L2
section
variable {X : Cx} {W : L2.WX} {e o : Expr} {to te : TE2} {pos apos p : Pos} {M : Ms} {Q : Q2} {E : X2} {σ : St2}
/-! a text's method of one argument -/
def eM1 (rm : RM2) (to te : TE2) : TE2 := fun σ M Q E => to σ M (fun d M1 => (∃ z, d = .str z) ∧ te σ M1 (fun e M2 => rm d [e] M2 Q) E) E
theorem m1_low {K : PySem.W.Frag} {rm : RM2} {σ : L2.St} {H : Hp} {Q : VK} (h : lfE K W (eM1 rm to te) σ H Q) : tM1 (lfM K rm) (lfE K W to) (lfE K W te) σ H Q := by
  obtain ⟨σ', M, Q', E', hs, hm, q, hq, hx⟩ := h
  exact ⟨σ', M, _, E', hs, hm, q, fun d M1 x H1 t1 r1 s1 ⟨⟨z, ez⟩, q1⟩ => ⟨⟨z, by subst ez; exact r1⟩, σ', M1, _, E', hs.mono t1, s1, q1, fun e M2 y H2 t2 r2 s2 q2 =>
    ⟨d, [e], M2, _, r1.mono t2, .one r2, s2, q2, hq.mono (t1.trans t2)⟩, hx.mono t1⟩, hx⟩
theorem q_m1 {rm : RM2} (h : PE X e (tM1 (lfM X.K rm) (lfE X.K W to) (lfE X.K W te))) : QE X W e (eM1 rm to te) := pe_weak h fun _ _ _ h => m1_low h
@[simp ↓] theorem eM1_ap {rm : RM2} : eM1 rm to te σ M Q E = to σ M (fun d M1 => (∃ z, d = .str z) ∧ te σ M1 (fun e M2 => rm d [e] M2 Q) E) E := rfl
/-- sep.join(list of texts) -/
def rJoin2 : RM2 := fun d ds M Q => ∃ a e, ∃ ys : List Str, d = .str a ∧ ds = [e] ∧ seqT e M = some (ys.map Tr.str) ∧ (ys.map (·.length)).sum + ys.length * a.length ≤ 16777216 ∧ Q (.str (Txt.join a ys)) M
theorem strs_back {K : PySem.W.Frag} {H : Hp} {ns : List Str} {xs : List V} (r : RepL K H (ns.map Tr.str) xs) : xs = ns.map V.str := by
  induction ns generalizing xs with
  | nil => exact r
  | cons n t ih =>
    obtain ⟨x, y, rfl, r1, r2⟩ := r
    cases r1
    rw [ih r2]; rfl
theorem m_join : MtR X "str.join" (lfM X.K rJoin2) := by
  intro pins s σ H x xs v us Q I rx rs ⟨d, ds, M, Q', rd, rds, sm, ⟨a, e, ys, ed0, ed, es, hz, q⟩, hq⟩
  subst ed ed0
  cases rd
  obtain ⟨y, rfl, r1⟩ := one_of rds
  obtain ⟨l, zs, rfl, sq, rl⟩ := seqT_ok es r1 sm
  have := strs_back rl
  subst this
  exact mt_join pins s σ H _ _ v us Q I rx rs ⟨a, l, ys, rfl, rfl, sq, hz, hq (.str _) M _ H Tx.refl rfl sm q⟩
/-- join: one stops here -/
def JoinS (a : Str) (e : Tr) (M : Ms) (Q : Q2) (_ : Fx Q) : Prop := ∃ ys : List Str, seqT e M = some (ys.map Tr.str) ∧ (ys.map (·.length)).sum + ys.length * a.length ≤ 16777216 ∧ Q (.str (Txt.join a ys)) M
@[simp ↓] theorem rJoin2_ap {a : Str} {d : Tr} : rJoin2 (.str a) [d] M Q = JoinS a d M Q .mk := propext ⟨fun ⟨a', e, ys, h1, h2, h⟩ => by
  injection h1 with h1
  injection h2 with h2
  subst h1 h2
  exact ⟨ys, h⟩, fun ⟨ys, h⟩ => ⟨a, d, ys, rfl, rfl, h⟩⟩
/-! x * y, a text too -/
def repS (z : Str) (n : Nat) : Str := ⟨(List.replicate n z.cps).foldl (· ++ ·) #[]⟩
theorem rep_size (a : Array Nat) : ∀ (n : Nat) (acc : Array Nat), ((List.replicate n a).foldl (· ++ ·) acc).size = acc.size + n * a.size
  | 0, acc => by simp
  | n + 1, acc => by
    rw [List.replicate_succ, List.foldl_cons, rep_size a n]
    simp [Nat.add_mul]; omega
theorem repS_len {z : Str} {n : Nat} : (repS z n).length = n * z.length := by
  show ((List.replicate n z.cps).foldl (· ++ ·) #[]).size = _
  rw [rep_size]
  show #[].size + n * z.cps.size = n * z.cps.size
  simp
def rMul3 : R22 := fun d e M Q => match d, e with
  | .str z, .int k => z.length ≤ 8 ∧ -1000000 ≤ k ∧ k ≤ 1000000 ∧ Q (.str (repS z k.toNat)) M
  | d, e => rMul2 d e M Q
theorem o_mul3 : OpR X (binaryOp .Mult) (lfR X.K rMul3) := by
  intro pins s σ H x y v u Q I rx ry ⟨d, e, M, Q', rd, re, sm, q, hq⟩
  have gen : rMul2 d e M Q' → wpAny (model X.prog X.w) X.A (binaryOp .Mult v u) (EP X pins σ Q) X.xe s := fun q => o_mul pins s σ H x y v u Q I rx ry ⟨d, e, M, Q', rd, re, sm, q, hq⟩
  cases d with
  | str z =>
    cases e with
    | int k =>
      cases rd; cases re
      obtain ⟨t, rfl⟩ := rx
      obtain ⟨t', rfl⟩ := ry
      obtain ⟨hz, k1, k2, q⟩ := q
      have fin : Q (.str (repS z k.toNat)) H := hq (.str _) M _ H Tx.refl rfl sm q
      refine PySem.P.mul_str ?_ (fun h1 h2 => ?_) (fun h1 h2 => ?_) ?_
      · have a1 : ¬ k < -(2 ^ 63 : Int) := by omega
        have a2 : ¬ k ≥ 2 ^ 63 := by omega
        rw [decide_eq_false a1, decide_eq_false a2]; rfl
      · have hk : 0 < k := by omega
        have : (8 : Int) ≤ (2 ^ 63 - 1) / k := by
          rw [Int.le_ediv_iff_mul_le hk]; omega
        omega
      · unfold Builtin.Str.tooLong
        have : z.length * k.toNat ≤ 8 * 1000000 := Nat.mul_le_mul hz (by omega)
        simp only [decide_eq_false_iff_not, gt_iff_lt, Nat.not_lt]
        rw [sizeLine_eq]; omega
      · by_cases c : k < 1
        · rw [if_pos c]
          have e0 : k.toNat = 0 := by omega
          rw [e0] at fin
          exact ⟨by decide, .str Str.empty, H, I.tok _, ⟨_, rfl⟩, fin⟩
        · rw [if_neg c]
          by_cases c2 : (k == 1 || z.length == 0) = true
          · rw [if_pos c2]
            have e1 : repS z k.toNat = z := by
              rcases Bool.or_eq_true_iff.mp c2 with h | h
              · have : k = 1 := by simpa using h
                subst this
                obtain ⟨c⟩ := z
                simp [repS]
              · have hz0 : z.length = 0 := by simpa using h
                obtain ⟨c⟩ := z
                have : c = #[] := Array.eq_empty_of_size_eq_zero hz0
                subst this
                have : ∀ n : Nat, (List.replicate n (#[] : Array Nat)).foldl (· ++ ·) #[] = #[] := fun n => by
                  induction n with
                  | zero => rfl
                  | succ n ih => rw [List.replicate_succ, List.foldl_cons]; simpa using ih
                simp [repS, this]
            rw [e1] at fin
            exact ⟨.str z, H, I, ⟨t, rfl⟩, fin⟩
          · rw [if_neg c2]
            refine ⟨?_, .str _, H, I.tok _, ⟨_, rfl⟩, fin⟩
            have e := @repS_len z k.toNat
            have : k.toNat * z.length ≤ 1000000 * 8 := Nat.mul_le_mul (by omega) hz
            show (repS z k.toNat).length ≤ _
            rw [e, sizeLine_eq]; omega
    | _ => exact gen q
  | _ => cases e <;> exact gen q
@[simp ↓] theorem rMul3_str {z : Str} {k : Int} : rMul3 (.str z) (.int k) M Q = (z.length ≤ 8 ∧ -1000000 ≤ k ∧ k ≤ 1000000 ∧ Q (.str (repS z k.toNat)) M) := rfl
@[simp ↓] theorem rMul3_int {i k : Int} : rMul3 (.int i) (.int k) M Q = rMul2 (.int i) (.int k) M Q := rfl
@[simp ↓] theorem rMul3_loc {a : Addr} {k : Int} : rMul3 (.loc a) (.int k) M Q = rMul2 (.loc a) (.int k) M Q := rfl
/-! list.index over flat items -/
def rIdx2 : RM2 := fun d ds M Q => ∃ a e l j z, d = .loc a ∧ ds = [e] ∧ M a = some (.lst l) ∧ flatT e = true ∧ l.all flatT = true ∧ l[j]? = some z ∧ eqT z e = true ∧ (∀ (m : Nat) (z' : Tr), m < j → l[m]? = some z' → eqT z' e = false) ∧ Q (.int (j : Nat)) M
theorem m_index : MtR X "list.index" (lfM X.K rIdx2) := by
  intro pins s σ H x xs v us Q I rx rs ⟨d, ds, M, Q', rd, rds, sm, ⟨a, e, l, j, z, e0, e1, el, fe, fl, hz, hj, hno, q⟩, hq⟩
  subst e0 e1
  cases rd
  obtain ⟨y, rfl, r1⟩ := one_of rds
  obtain ⟨ys, hy, ry⟩ := sm a _ el
  obtain ⟨w, hw, rw'⟩ := ry.get hz
  have fz : flatT z = true := List.all_eq_true.mp fl z (List.mem_of_getElem? hz)
  refine mt_index pins s σ H _ _ v us Q I rx rs ⟨a, ys, y, j, w, rfl, rfl, SqL.of hy, flatT_ok fe r1, flatL_ok fl ry, hw, by rw [eqT_ok fz fe rw' r1]; exact hj, fun m z' hm hz' => ?_, hq (.int _) M _ H Tx.refl rfl sm q⟩
  obtain ⟨t, ht, rt⟩ := ry.back hz'
  rw [eqT_ok (List.all_eq_true.mp fl t (List.mem_of_getElem? ht)) fe rt r1]
  exact hno m t hm ht
def IdxS (a : Addr) (e : Tr) (M : Ms) (Q : Q2) (_ : Fx Q) : Prop := ∃ l j z, M a = some (.lst l) ∧ flatT e = true ∧ l.all flatT = true ∧ l[j]? = some z ∧ eqT z e = true ∧ (∀ (m : Nat) (z' : Tr), m < j → l[m]? = some z' → eqT z' e = false) ∧ Q (.int (j : Nat)) M
@[simp ↓] theorem rIdx2_ap {a : Addr} {d : Tr} : rIdx2 (.loc a) [d] M Q = IdxS a d M Q .mk := propext ⟨fun ⟨a', e, l, j, z, h1, h2, h⟩ => by
  injection h1 with h1
  injection h2 with h2
  subst h1 h2
  exact ⟨l, j, z, h⟩, fun ⟨l, j, z, h⟩ => ⟨a, d, l, j, z, rfl, rfl, h⟩⟩
/-! sorted data -/
theorem each_of {K : PySem.W.Frag} {H : Hp} : ∀ {ds : List Tr} {xs : List V} {us : List Value}, RepL K H ds xs → Vals xs us → PySem.W.EachIs (fun u d => ∃ x, RelV x u ∧ Rep K H d x) us ds
  | [], xs, us, r, v => by
    have e : xs = [] := r
    subst e
    cases v
    exact .nil
  | d :: ds, xs, us, r, v => by
    obtain ⟨x, r', e, h1, h2⟩ := r
    subst e
    cases v with
    | cons a b => exact .cons ⟨x, a, h1⟩ (each_of h2 b)
theorem each_back {K : PySem.W.Frag} {H : Hp} : ∀ {us : List Value} {ds : List Tr}, PySem.W.EachIs (fun u d => ∃ x, RelV x u ∧ Rep K H d x) us ds → ∃ xs, RepL K H ds xs ∧ Vals xs us
  | _, _, .nil => ⟨[], rfl, .nil⟩
  | _, _, .cons ⟨x, a, b⟩ t => by
    obtain ⟨xs, h1, h2⟩ := each_back t
    exact ⟨x :: xs, ⟨x, xs, rfl, b, h1⟩, .cons a h2⟩
def rSort2 : RC2 := c1 fun d M Q => ∃ ds, seqT d M = some ds ∧ (∀ es, d ≠ .tup es) ∧ (∀ e ∈ ds, pureT e = true) ∧ PySem.W.AllAlike (ds.map toP) ∧ PySem.W.Sortable (ds.map toP) ∧ (∀ e ∈ ds, (toP e).depth ≤ 50) ∧ ds.length ≤ sizeLine ∧
  ∀ p, M p = none → Q (.loc p) (up M p (.lst (ds.mergeSort (PySem.W.dataLe false toP))))
theorem pureReads {X : Cx} {pins : List (Addr × Obj)} {σ : L2.St} {H : Hp} {s : Shared} {M : Ms} (I : L2.Inv X pins σ H s) (sm : SimM X.K H M) {ds : List Tr} (hp : ∀ e ∈ ds, pureT e = true) : ∀ {us : List Value}, PySem.W.EachIs (fun u d => ∃ x, RelV x u ∧ Rep X.K H d x) us ds → PySem.W.EachIs (fun u d => ∃ as, Reads s.heap u (toP d) as) us ds := by
  induction ds with
  | nil => intro us e; cases e; exact .nil
  | cons d r ih =>
    intro us e
    cases e with
    | cons a b =>
      obtain ⟨x, h1, h2⟩ := a
      exact .cons (Dp.reads I _ _ _ ((dat_pure (M := M) (hp d List.mem_cons_self)).dp sm h2) h1) (ih (fun z hz => hp z (List.mem_cons_of_mem _ hz)) b)
theorem b_sorted (hu : X.A.units + 64 < cLine) : CallR X (.builtin "sorted") (lfC X.K rSort2) := c1_of fun pins s σ H x u Q d M Q' I rx rd sm ⟨ds, e1, nt, hp, hal, hk, hd, hL, q⟩ hq => by
  have go : ∀ a xs, x = .ref a → SqL X.K H a xs → RepL X.K H ds xs → wpAny (model X.prog X.w) X.A (call (.builtin "sorted") [u]) (EP X pins σ Q) X.xe s := fun a xs ex sq rl => by
    subst ex
    obtain ⟨its, rv, hl, _⟩ := I.list sq
    cases rx
    have er := each_of rl rv
    refine PySem.W.sorted_data hl.isList er (pureReads I sm hp er) hal hk hL (fun b hb => by have := hd b hb; omega) fun out ho eo => ?_
    obtain ⟨ys, h1, h2⟩ := each_back eo
    obtain ⟨ep, he'⟩ := PyProof.Rows.sortedAll_at s.heap its out.toArray
    have hlen : ys.length ≤ sizeLine := by rw [← h1.len, List.length_mergeSort]; exact hL
    have fr : H (s.heap.objs.size + 1) = none := I.hok.fresh (Nat.le_succ _)
    exact ⟨.ref _, upd H (s.heap.objs.size + 1) (.lst ys), I.laid (t' := s.toks) (fun _ _ => PyProof.Rows.sortedAll_old) (Nat.le_succ _) ⟨hlen, out, ep, h2, by simpa using he'⟩, rfl, new_lst hq h1 sm fr q⟩
  cases d with
  | tup es => exact absurd rfl (nt es)
  | fro es =>
    obtain ⟨a, xs, ex, sq, rl⟩ := rd
    cases e1
    exact go a xs ex sq.sq rl
  | loc a =>
    cases rd
    obtain ⟨xs, hx, rl⟩ := sm a _ (seqT_loc e1)
    exact go a xs rfl (SqL.of hx) rl
  | _ => cases e1
/-- sorted: one stops here -/
def SortS (d : Tr) (M : Ms) (Q : Q2) (_ : Fx Q) : Prop := ∃ ds, seqT d M = some ds ∧ (∀ es, d ≠ .tup es) ∧ (∀ e ∈ ds, pureT e = true) ∧ PySem.W.AllAlike (ds.map toP) ∧ PySem.W.Sortable (ds.map toP) ∧ (∀ e ∈ ds, (toP e).depth ≤ 50) ∧ ds.length ≤ sizeLine ∧
  ∀ p, M p = none → Q (.loc p) (up M p (.lst (ds.mergeSort (PySem.W.dataLe false toP))))
@[simp ↓] theorem rSort2_ap {d : Tr} : rSort2 [d] M Q = SortS d M Q .mk := rfl
end
end T

/-! T, eleventh part: enumerate over a text. -/
namespace T
open PySem PySem.Spec PyProof.Rows L2
/-- the signs of z, each in a new pair -/
def IteS (z : Str) : It where
  go := fun i _ => i < z.cps.size
  yld := fun i H v H' => ∃ (T : Addr) (c : Nat), v = .ref T ∧ H T = none ∧ H' = upd H T (.tup [.int (i : Nat), .str ⟨#[c]⟩]) ∧ z.cps[i]? = some c
  stop := fun i _ => z.cps.size ≤ i
theorem turn_enumS {P : Program} {w : World} {K : PySem.W.Frag} {elts : List Expr} {kk : Nat} {tpos : Pos} (z : Str) (t : Tok) (e it : Addr) :
    Turn P w K (.Tuple elts kk tpos) (IteS z) [e, it] e (fun i h => (∃ old, IsEnum h e it ((i : Nat) : Int) old) ∧ h.IsStrIter it (strIterType z) z t i ∧ e ≠ it) where
  mem := by simp
  obj := by
    rintro i h ⟨⟨old, he⟩, ⟨o, ho, hc, hd⟩, _⟩ b hb
    have c : b = e ∨ b = it := by simpa using hb
    rcases c with rfl | rfl
    · exact ⟨_, he, fun v q => nomatch q⟩
    · exact ⟨o, ho, fun v q => by rw [hd] at q; cases q⟩
  keep := by
    rintro i h h' ⟨⟨old, he⟩, ⟨o, ho, r⟩, hne⟩ k
    exact ⟨⟨old, k e (by simp) _ he⟩, ⟨o, k it (by simp) _ ho, r⟩, hne⟩
  item := by
    intro X hP hw hK hc i pins s σ H E I hf st hg
    subst hP hw hK
    obtain ⟨⟨old, he⟩, hit, hne⟩ := st
    have hel : e < s.heap.objs.size := Heap.lt_size he
    have hil : it < s.heap.objs.size := by obtain ⟨_, q, _⟩ := hit; exact Heap.lt_size q
    refine wpAny_pyNext_enum_itemD (Draws.text (A := X.A.in1) (show X.A.in1.handled = none from I.ok.hd hc) it z t) he hit hg hne (by simp [hne]) fun y h' tk hy ho st' hT hsz hk => ?_
    obtain ⟨c, u, hcx, rfl⟩ := hy
    refine ⟨_, rfl, wpAny_letOwnedTupleGo_enum (s := { s with heap := h', toks := tk + 1 }) ho fun h'' he' sb => ?_⟩
    have hT2 : h''.get? s.heap.objs.size = some { cls := .type "tuple", data := .seq #[.int i tk, .str ⟨#[c]⟩ u] } := (sb.2 _ (Nat.ne_of_gt hel)).trans hT
    have new : ObjOk X.prog X.w (upd H s.heap.objs.size (.tup [.int (i : Nat), .str ⟨#[c]⟩])) h'' s.heap.objs.size (.tup [.int (i : Nat), .str ⟨#[c]⟩]) :=
      ⟨by show 2 ≤ sizeLine; decide, [.int i tk, .str ⟨#[c]⟩ u], .cons ⟨_, rfl⟩ (.cons ⟨u, rfl⟩ .nil), ⟨_, hT2, rfl, _, rfl⟩⟩
    have I1 : Inv X pins σ (upd H s.heap.objs.size (.tup [.int (i : Nat), .str ⟨#[c]⟩])) { s with heap := h'', toks := tk + 1 } :=
      I.turnedNew (ch := [e, it]) (fun b ob hb q => (sb.2 b (fun z => hb (by simp [z]))).trans (hk b ob (fun z => hb (by simp [z])) (fun z => hb (by simp [z])) q)) hf (Nat.le_refl _) new
    refine ⟨.ref s.heap.objs.size, _, I1, rfl, ⟨_, c, rfl, I.hok.fresh (Nat.le_refl _), rfl, hcx⟩, ⟨⟨.str ⟨#[c]⟩ u, ?_⟩, ?_, hne⟩, fun b hb => ?_⟩
    · have e1 : ((i + 1 : Nat) : Int) = (i : Int) + 1 := by omega
      rw [e1]; exact he'
    · obtain ⟨o, q, r⟩ := st'
      exact ⟨o, (sb.2 it (Ne.symm hne)).trans q, r⟩
    · have hb' : b < s.heap.objs.size := by
        have c : b = e ∨ b = it := by simpa using hb
        rcases c with rfl | rfl
        · exact hel
        · exact hil
      rw [upd_ne (Nat.ne_of_lt hb')]
      exact (hf b hb).1
  done := by
    intro X hP hw hK hc i pins s σ H E I hf st hg
    subst hP hw hK
    obtain ⟨⟨old, he⟩, hit, hne⟩ := st
    obtain ⟨f0, f1, f2, f3, f4, f5⟩ := hf it (by simp)
    have hx : z.cps[i]? = none := Array.getElem?_eq_none hg
    have hT : s.TypeIs (.ref e) "enumerate" := ⟨_, he, rfl⟩
    unfold pyNext
    refine wpAny_bind (wpAny_attempt (wpAny_callSpecial?_slot (name := Str.ofString "__next__") hT F.slot_enumerate_next
      (wpAny_call_entry F.slot_enumerate_next hT F.entry_enumerate_next ?_ (F.args_enumerate_next_1 _))))
    show wpAny _ _ (field (.ref e) 2 >>= _) _ _ _
    refine wpAny_bind (wpAny_field he rfl (x := .ref it) rfl ?_)
    have hh : X.A.in1.handled = none := I.ok.hd hc
    have go : ∀ {Q : Value → Shared → Prop} {E : Value → Shared → Prop}, (∀ h' e, Heap.ExtBut it s.heap h' → (∃ o, h'.get? e = some o ∧ o.cls = .type "StopIteration") → E (.ref e) { s with heap := h' }) → wpAny (model X.prog X.w) X.A.in1 (Builtin.SmallTypes.nextOf (.ref it)) Q E s := fun {Q E} hE => by
      unfold strIterType at hit
      split at hit
      · exact wpAny_nextOf_ascii_end hh hit hx hE
      · exact wpAny_nextOf_wide_end hh hit hx hE
    refine wpAny_bind (go fun h' x eb hx' => ?_)
    obtain ⟨o, ho, hcl⟩ := hx'
    refine wpAny_bind (wpAny_isInstance (T := "StopIteration") (b := true) ⟨o, ho, hcl⟩ isSubtype_stop ?_)
    exact wpAny_pure ⟨rfl, I.turned (t' := s.toks) (fun b ob hb q => eb b ob hb q) f0 f1 f3 f4 f5⟩
  self := by
    rintro A i s Q E ⟨⟨_, he⟩, _⟩ h
    exact wpAny_pyIter_enum he h
section
variable {X : Cx}
def iEnumS (ta : TA) : TI := fun σ H R => ta σ H fun vs H1 => ∃ z, vs = [.str z] ∧ R (IteS z) H1
theorem pi_enumS {e : Expr} {ta : TA} {p pos tpos : Pos} {elts : List Expr} {kk : Nat} (hg : Gl X "enumerate") (hm : X.mg "enumerate" = none) (ha : PA X [e] ta) (hs : starEach [e] X.env = [(false, eval e X.env)] := by rfl) :
    PI X (.Tuple elts kk tpos) (.Call (.Name "enumerate" p) [e] [] pos) (iEnumS ta) := by
  refine ⟨fun pins s σ H R I h => ?_⟩
  refine PyProof.Rows.Call_ (ld_blt I hg hm PyProof.Rows.boot_enumerate (PyProof.Rows.callWith_type1 (thn (ha.run pos pins s σ H _ I h) fun us s1 ⟨vs, H1, I1, r1, q1⟩ => ?_) hs rfl))
  obtain ⟨z, ex, q⟩ := q1
  subst ex
  cases r1 with
  | cons r rr =>
    cases rr
    obtain ⟨t, rfl⟩ := r
    have fp2 : ∀ b ∈ [s1.heap.objs.size + 1, s1.heap.objs.size], FpOk X pins H1 b := fun b hb => by
      have c : b = s1.heap.objs.size + 1 ∨ b = s1.heap.objs.size := by simpa using hb
      have hle : s1.heap.objs.size ≤ b := by
        rcases c with z | z
        · rw [z]; exact Nat.le_add_right _ _
        · rw [z]; exact Nat.le_refl _
      exact I1.fpOk hle (I1.hok.fresh hle)
    refine enum1_call (begins_text z t) trivial fun h' he ho hk => wpAny_pyIter_enum he ?_
    exact ⟨s1.heap.objs.size + 1, [s1.heap.objs.size + 1, s1.heap.objs.size], _, _, H1, rfl, I1.kept (t' := s1.toks) hk, turn_enumS z t (s1.heap.objs.size + 1) s1.heap.objs.size, ⟨⟨.none, he⟩, ⟨_, ho, rfl, rfl⟩, Nat.succ_ne_self _⟩, fp2, q⟩
variable {W : L2.WX} {e : Expr} {tt : TA2} {p pos tpos : Pos} {elts : List Expr} {kk : Nat}
/-- the signs of a text as trees -/
def chrs (z : Str) : List Tr := z.cps.toList.map fun k => .str ⟨#[k]⟩
def iEnS (ta : TA2) : TI2 := fun σ M R E => ta σ M (fun es M1 => ∃ z, es = [.str z] ∧ R (itE (chrs z) fun _ => True) M1) E
theorem ites_ok {K : PySem.W.Frag} {H : Hp} {z : Str} : ItOk K H (IteS z) (itE (chrs z) fun _ => True) := fun H1 M t sm => by
  refine ⟨fun i ⟨_, hi⟩ => ?_, fun i ⟨_, hi⟩ => ?_, fun i x H2 ⟨_, hi⟩ ⟨T, c, ex, hT, e, hy⟩ => ?_⟩
  · show z.cps.size ≤ i
    simpa [chrs] using hi
  · show i < z.cps.size
    simpa [chrs] using hi
  · subst e
    subst ex
    obtain ⟨p1, p2, p3⟩ := pair_rep (K := K) (i := i) (x := .str ⟨#[c]⟩) (d := .str ⟨#[c]⟩) hT rfl sm
    refine ⟨p1, p2, _, p3, .str ⟨#[c]⟩, ?_, rfl⟩
    have : z.cps.toList[i]? = some c := by simpa using hy
    unfold chrs
    rw [List.getElem?_map, this]; rfl
theorem qi_enumS (hm : X.mg "enumerate" = none) (ha : QA X W [e] tt) (hg : Gl X "enumerate" := by rfl) (hs : starEach [e] X.env = [(false, eval e X.env)] := by rfl) :
    QI X W (.Tuple elts kk tpos) (.Call (.Name "enumerate" p) [e] [] pos) (iEnS tt) := pi_weak (pi_enumS hg hm ha hs) fun σ H R ⟨σ', M, R', E', hs, hm, q, hq, hx⟩ =>
  ⟨σ', M, _, E', hs, hm, q, fun es M1 xs H1 t1 r1 s1 ⟨z, ee, q1⟩ => by
    subst ee
    obtain ⟨x, rfl, r2⟩ := one_of r1
    cases r2
    exact ⟨z, rfl, hq _ M1 _ H1 t1 s1 ites_ok q1⟩, hx⟩
def kStr (d : Tr) (P : Str → Prop) : Prop := match d with
  | .str z => P z
  | _ => False
@[simp ↓] theorem kStr_ap {z : Str} {P : Str → Prop} : kStr (.str z) P = P z := rfl
@[simp ↓] theorem iEnS_ap {σ : St2} {M : Ms} {R : It2 → Ms → Prop} {E : X2} : iEnS tt σ M R E = tt σ M (fun es M1 => k1 es fun d => kStr d fun z => R (itE (chrs z) fun _ => True) M1) E := by
  unfold iEnS
  congr 1
  funext es M1
  apply propext
  constructor
  · rintro ⟨z, rfl, r⟩; exact r
  · intro h
    match es with
    | [] => exact h.elim
    | [d] => cases d <;> first | exact ⟨_, rfl, h⟩ | exact h.elim
    | _ :: _ :: _ => exact h.elim
end
end T

/-! T, twelfth part: all, any of lists of truths; classes of errors; defs with defaults, defs that call themselves. -/
namespace T
open PySem PySem.Spec PyProof.Rows L2
theorem bt_all : bootBuiltins "all" = some (.builtin "all") := by decide +kernel
theorem bt_any : bootBuiltins "any" = some (.builtin "any") := by decide +kernel
section
variable {X : Cx}
theorem bls_back {K : PySem.W.Frag} {H : Hp} {bs : List Bool} {xs : List V} (r : RepL K H (bs.map Tr.bl) xs) : xs = bs.map V.bl := by
  induction bs generalizing xs with
  | nil => exact r
  | cons n t ih =>
    obtain ⟨x, y, rfl, r1, r2⟩ := r
    cases r1
    rw [ih r2]; rfl
theorem dpAll_bls {K : PySem.W.Frag} {H : Hp} : ∀ bs : List Bool, DpAll K H (bs.map V.bl) (bs.map PyData.bool)
  | [] => .nil
  | b :: r => .cons (.bl b) (dpAll_bls r)
theorem plain_bls : ∀ bs : List Bool, PyData.plainAll (bs.map PyData.bool) = true
  | [] => rfl
  | b :: r => by
    show (true && PyData.plainAll (r.map PyData.bool)) = true
    rw [plain_bls r]; rfl
def rAllG (f : List Bool → Bool) : RC2 := c1 fun d M Q => ∃ bs : List Bool, seqT d M = some (bs.map Tr.bl) ∧ (∀ es, d ≠ .tup es) ∧ Q (.bl (f bs)) M
theorem b_allG {id : String} {f : List Bool → Bool} (h : ∀ {prog : Program} {w : World} {A : Around} {E : Value → Shared → Prop} {s : Shared} {l : Addr} {vs : Array Value} {xs : List PyData} {as : List Addr} {Q : Value → Shared → Prop}, A.handled = none → s.heap.IsList l vs → ReadsAll s.heap vs.toList xs as → PyData.plainAll xs = true → (∀ x ∈ xs, x.fits63) →
    (∀ bs : List Bool, xs = bs.map PyData.bool → ∀ h' tk, (∀ b o, s.heap.get? b = some o → h'.get? b = some o) → Q (.bool (f bs)) { s with heap := h', toks := tk }) → (∃ bs : List Bool, xs = bs.map PyData.bool) → wpAny (model prog w) A (call (.builtin id) [.ref l]) Q E s) (hc : X.calm = true) : CallR X (.builtin id) (lfC X.K (rAllG f)) :=
  c1_of fun pins s σ H x u Q d M Q' I rx rd sm ⟨bs, e, nt, q⟩ hq => by
  have go : ∀ a, x = .ref a → SqL X.K H a (bs.map V.bl) → wpAny (model X.prog X.w) X.A (call (.builtin id) [u]) (EP X pins σ Q) X.xe s := fun a ex sq => by
    subst ex
    obtain ⟨its, rv, hl, _⟩ := I.list sq
    cases rx
    obtain ⟨as, hr⟩ := Dp.readsAll I _ _ _ (dpAll_bls bs) rv
    refine h (I.ok.hd hc) hl.isList (by simpa using hr) (plain_bls bs) (fun z hz => ?_) (fun bs' e' h' tk hk => ?_) ⟨bs, rfl⟩
    · obtain ⟨b, _, rfl⟩ := List.mem_map.mp hz
      trivial
    · have : bs' = bs := by
        have inj : ∀ a b : Bool, PyData.bool a = PyData.bool b → a = b := fun a b h => by cases h; rfl
        exact ((List.map_inj_right (fun a b h => inj a b h)).mp e').symm
      subst this
      exact ⟨.bl _, H, I.kept hk, rfl, hq (.bl _) M _ H Tx.refl rfl sm q⟩
  cases d with
  | tup ds => exact absurd rfl (nt ds)
  | fro ds =>
    obtain ⟨a, xs, rfl, sq, rl⟩ := rd
    cases e
    have := bls_back rl
    subst this
    exact go a rfl sq.sq
  | loc a =>
    cases rd
    obtain ⟨xs, hx, rl⟩ := sm a _ (seqT_loc e)
    have := bls_back rl
    subst this
    exact go a rfl (SqL.of hx)
  | _ => cases e
theorem all_bls (bs : List Bool) : (bs.map PyData.bool).all PyData.truthy = bs.all id := by
  induction bs with
  | nil => rfl
  | cons b r ih => rw [List.map_cons, List.all_cons, List.all_cons, ih]; rfl
theorem any_bls (bs : List Bool) : (bs.map PyData.bool).any PyData.truthy = bs.any id := by
  induction bs with
  | nil => rfl
  | cons b r ih => rw [List.map_cons, List.any_cons, List.any_cons, ih]; rfl
abbrev rAll2 : RC2 := rAllG fun bs => bs.all id
abbrev rAny2 : RC2 := rAllG fun bs => bs.any id
theorem b_all (hc : X.calm = true) : CallR X (.builtin "all") (lfC X.K rAll2) := b_allG (fun hh hl hr hp hf h ⟨bs, e⟩ => PySem.W.all_list_data hh hl hr hp hf fun h' tk hk => by
  subst e
  rw [all_bls]
  exact h bs rfl h' tk hk) hc
theorem b_any (hc : X.calm = true) : CallR X (.builtin "any") (lfC X.K rAny2) := b_allG (fun hh hl hr hp hf h ⟨bs, e⟩ => PySem.W.any_list_data hh hl hr hp hf fun h' tk hk => by
  subst e
  rw [any_bls]
  exact h bs rfl h' tk hk) hc
def AllS (f : List Bool → Bool) (d : Tr) (M : Ms) (Q : Q2) (_ : Fx Q) : Prop := ∃ bs : List Bool, seqT d M = some (bs.map Tr.bl) ∧ (∀ es, d ≠ .tup es) ∧ Q (.bl (f bs)) M
@[simp ↓] theorem rAllG_ap {f : List Bool → Bool} {d : Tr} {M : Ms} {Q : Q2} : rAllG f [d] M Q = AllS f d M Q .mk := rfl
end
/-! errors by their classes' names -/
@[simp ↓] theorem sRaise_ap {c : Value} {D : Ends2} {σ : St2} {M : Ms} : sRaise c D σ M = D.ex c none σ M := rfl
@[simp ↓] theorem sTry_ap {ex : Value → Option Bool} {tb ts : TS2} {D : Ends2} {σ : St2} {M : Ms} :
    sTry ex tb ts D σ M = tb { D with ex := fun c dd σ1 M1 => ∃ b, ex c = some b ∧ (b = true → ts { D with ex := fun _ _ _ _ => False } σ1 M1) ∧ (b = false → D.ex c dd σ1 M1) } σ M := rfl
/-! defs that call themselves; defaults -/
theorem okF_zero {P : Program} {w : World} {K : PySem.W.Frag} {mg : Str → Option Value} {base : Heap} {k : Nat} {f : Addr} {fd : FuncData} {x qual : Str} {params : Arguments} {body : List Stmt} {scope : Scope} {ps : List Str} {sp : Sp2}
    (F : FunD K x qual params body scope [] [] f fd) (hm : mg x = some (.ref f)) (hb : Binds K fd ps []) (h : ∀ ds M Q E, ¬ sp ds M Q E) : OkF P w K mg base k x ps [] sp :=
  ⟨f, fd, [], [], fnT_none h, hm, F.kp, hb, .nil, fun _ => RepL.nil⟩
theorem okF_dfl {P : Program} {w : World} {K : PySem.W.Frag} {mg : Str → Option Value} {base : Heap} {k : Nat} {f : Addr} {fd : FuncData} {x qual : Str} {params : Arguments} {body : List Stmt} {scope : Scope} {ps : List Str} {sp : Sp2} {dfs dus : List V} {kws : List (Str × V)} {dvs : List Tr}
    (F : FunD K x qual params body scope dfs kws f fd) (T : FnT P w K mg base k f fd ps sp) (hm : mg x = some (.ref f)) (hb : ∃ ds, Vals dus ds ∧ Binds K fd ps ds) (hr : ∀ H, RepL K H dvs dus) : OkF P w K mg base k x ps dvs sp := by
  obtain ⟨ds, h1, h2⟩ := hb
  exact ⟨f, fd, dus, ds, T, hm, F.kp, h2, h1, hr⟩
end T

/-! T, thirteenth part: dicts. -/
namespace T
open PySem PySem.Spec PyProof.Rows L2
section
variable {X : Cx} {W : L2.WX} {a b e : Expr} {pos : Pos} {ta tb : TE2} {M : Ms} {Q : Q2} {E : X2} {σ : St2}
/-- {} -/
def eD0 : TE2 := fun _ M Q _ => ∀ p, M p = none → Q (.loc p) (up M p (.dic []))
theorem qe_d0 : QE X W (.Dict [] [] pos) eD0 := pe_weak pe_dnewK fun σ H Q ⟨σ', M, Q', E', hs, hm, q, hq, hx⟩ p hp =>
  hq (.loc p) _ (.ref p) _ (Tx.new hp) rfl (hm.put (m := .dic []) (Tx.new hp) ⟨[], upd_same, rfl, rfl⟩) (q p (hm.free hp))
def NewD (M : Ms) (kvs : List (Key × Tr)) (Q : Q2) (_ : Fx Q) : Prop := ∀ p, M p = none → Q (.loc p) (up M p (.dic kvs))
@[simp ↓] theorem eD0_ap : eD0 σ M Q E = NewD M [] Q .mk := rfl
/-- {k: v}, k an int or a text, no store changed by them -/
def eD1 (ta tb : TE2) : TE2 := fun σ M Q E => ∀ p, M p = none → ta σ (up M p (.dic [])) (fun d M1 => tb σ M1 (fun e M2 => ∃ k, keyT d = some k ∧ M2 p = some (.dic []) ∧ Q (.loc p) (up M2 p (.dic [(k, e)]))) X0) X0
theorem qe_d1 (ha : QE X W0 a ta) (hb : QE X W0 b tb) : QE X W (.Dict [some a] [b] pos) (eD1 ta tb) :=
  pe_weak (pe_disp (pps_cons ha hb pps_nil) rfl rfl (by simp) (by simp)) fun σ H Q ⟨σ', M, Q', E', hs, hm, q, hq, hx⟩ p hp => by
    refine ⟨σ', up M p (.dic []), _, X0, hs.mono (Tx.new hp), hm.put (m := .dic []) (Tx.new hp) ⟨[], upd_same, rfl, rfl⟩, q p (hm.free hp), fun d M1 x H1 t1 r1 s1 q1 => ⟨σ', M1, _, X0, (hs.mono (Tx.new hp)).mono t1, s1, q1, fun e M2 y H2 t2 r2 s2 ⟨k, ek, e0, q2⟩ => ?_, fun _ _ _ _ _ _ z => False.elim z⟩, fun _ _ _ _ _ _ z => False.elim z⟩
    obtain ⟨xs, e1, e2, e3⟩ := s2 p _ e0
    have xs0 : xs = [] := List.map_eq_nil_iff.mp e2
    subst xs0
    have ex : x = kV k := keyT_ok ek (r1.mono t2)
    refine ⟨e1, [(k, y)], by rw [ex]; rfl, by simp, ?_⟩
    have T3 : Tx X.K H2 (upd H2 p (.dK (mergeK [] [(k, y)]))) := Tx.dic e1
    exact hq (.loc p) _ (.ref p) _ (((Tx.new hp).trans t1).trans (t2.trans T3)) rfl (s2.put (m := .dic [(k, e)]) T3 ⟨[(k, y)], upd_same, rfl, (RepL.one r2).mono T3⟩) q2
@[simp ↓] theorem eD1_ap : eD1 ta tb σ M Q E = ∀ p, M p = none → ta σ (up M p (.dic [])) (fun d M1 => tb σ M1 (fun e M2 => ∃ k, keyT d = some k ∧ M2 p = some (.dic []) ∧ Q (.loc p) (up M2 p (.dic [(k, e)]))) X0) X0 := rfl
/-- d[k] -/
def rIxD2 : R22 := fun d e M Q => ∃ a kvs k v, d = .loc a ∧ M a = some (.dic kvs) ∧ keyT e = some k ∧ valT kvs k = some v ∧ Q v M
theorem ixD (hu : X.A.units + 1 < cLine) : IxR X (lfR X.K rIxD2) := by
  intro value slice pins s σ H x y v u Q I rx ry ⟨d, e, M, Q', rd, re, sm, ⟨a, kvs, k, z, e0, ea, ek, ez, q⟩, hq⟩ hs
  subst e0
  cases rd
  obtain ⟨xs, hx, ke, rl⟩ := sm a _ ea
  have ey : y = kV k := keyT_ok ek re
  obtain ⟨w, hw, rw'⟩ := (valT_ok (k := k) ke rl).2 z ez
  have g : DGet H a y (some w) := by
    rw [ey, ← hw]; exact DGet.k hx
  cases rx
  exact tail_any (dict_typeIs I g) PySem.F.slot_dict_getitem.lookup (d_getItem hu I g ry fun w' s' I' r' => ⟨w, H, I', r', hq z M w H Tx.refl rw' sm q⟩) hs
theorem qe_ixD (hu : X.A.units + 1 < cLine) (ha : QE X W a ta) (hb : QE X W b tb) (hs : PlainIx b := by exact fun _ _ => rfl) : QE X W (.Subscript a b pos) (eOp rIxD2 ta tb) := pe_weak (pe_ix (ixD hu) ha hb hs) fun _ _ _ h => op_low h
def GetS (a : Addr) (e : Tr) (M : Ms) (Q : Q2) (_ : Fx Q) : Prop := ∃ kvs k v, M a = some (.dic kvs) ∧ keyT e = some k ∧ valT kvs k = some v ∧ Q v M
@[simp ↓] theorem rIxD2_ap {a : Addr} {e : Tr} : rIxD2 (.loc a) e M Q = GetS a e M Q .mk := propext ⟨fun ⟨a', kvs, k, v, h0, h⟩ => by
  injection h0 with h0
  subst h0
  exact ⟨kvs, k, v, h⟩, fun ⟨kvs, k, v, h⟩ => ⟨a, kvs, k, v, rfl, h⟩⟩
end
end T

/-! T: sorted of tuples that their first entries part. -/
namespace T
open PySem PySem.Spec PyProof.Rows L2
/-- comparable: alike data, or tuples whose first entries are alike and differ -/
def AlikeP (d d' : PyData) : Prop := PySem.W.alike d d' = true ∨ ∃ x r x' r', d = .tuple (x :: r) ∧ d' = .tuple (x' :: r') ∧ PySem.W.alike x x' = true ∧ PyData.eqv x x' = false
def AllAlikeP (ds : List PyData) : Prop := ∀ d, d ∈ ds → ∀ d', d' ∈ ds → AlikeP d d'
theorem alikeP_unique {h : Heap} {d d' : PyData} {v : Value} {as as' : List Addr} (hal : AlikeP d d') (r : Reads h v d as) (r' : Reads h v d' as') : d = d' := by
  rcases hal with hal | ⟨x, l, x', l', rfl, rfl, ha, he⟩
  · exact PySem.W.alike_unique _ _ _ _ _ hal r r'
  · cases r with
    | tuple h1 h2 h3 h4 =>
      cases r' with
      | tuple k1 k2 k3 k4 =>
        rw [h1] at k1; cases k1
        rw [h3] at k3; cases k3
        generalize hv : Array.toList _ = vs at h4 k4
        cases h4 with
        | cons a b =>
          cases k4 with
          | cons a' b' =>
            have e := PySem.W.alike_unique _ _ _ _ _ ha a a'
            subst e
            rw [PySem.W.eqv_refl_alike _ ha] at he
            cases he
theorem kindP_some {h : Heap} {ds : List PyData} (hal : AllAlikeP ds) {v : Value} {d : PyData} {as : List Addr} (hd : d ∈ ds) (r : Reads h v d as) : (PySem.W.dataKind h ds).keyOf v = some (PySem.W.keyToks d) := by
  have q : ∃ d, d ∈ ds ∧ ∃ as, Reads h v d as := ⟨d, hd, as, r⟩
  have e : (PySem.W.dataKind h ds).keyOf v = some (PySem.W.keyToks q.choose) := by
    show (open Classical in if q : ∃ d, d ∈ ds ∧ ∃ as, Reads h v d as then some (PySem.W.keyToks q.choose) else none) = _
    rw [dif_pos q]
  obtain ⟨h1, as', h2⟩ := q.choose_spec
  rw [e, alikeP_unique (hal _ h1 _ hd) h2 r]
theorem AlikeP.head {x x' : PyData} {r r' : List PyData} (h : AlikeP (.tuple (x :: r)) (.tuple (x' :: r'))) : PySem.W.alike x x' = true := by
  rcases h with h | ⟨_, _, _, _, e, e', h, _⟩
  · exact (PySem.W.alike_all_cons (by simpa [PySem.W.alike] using h)).1
  · cases e; cases e'; exact h
section
variable {prog : Program} {w : World} {A : Around} {s : Shared}
theorem sortsAtP {vs : List Value} {ds : List PyData} (e : PySem.W.EachIs (fun v d => ∃ as, Reads s.heap v d as) vs ds) (hal : AllAlikeP ds) (ht : ∀ d, d ∈ ds → ∃ x r, d = .tuple (x :: r)) (hu : ∀ d, d ∈ ds → A.units + d.depth < cLine) : PySem.W.SortsAt prog w A s (PySem.W.dataKind s.heap ds) vs := by
  have room : ∀ {d d' : PyData}, d ∈ ds → A.units + min d.depth d'.depth < cLine := fun {d d'} hd => Nat.lt_of_le_of_lt (Nat.add_le_add_left (Nat.min_le_left _ _) _) (hu d hd)
  refine ⟨fun v hv => ?_, ?_⟩
  · obtain ⟨d, hd, as, r⟩ := e.left v hv
    exact ⟨_, kindP_some hal hd r⟩
  · cases ds with
    | nil =>
      cases e
      exact ⟨general', fun E x y a b Q ha _ _ => (by
        obtain ⟨d, _, hd, _⟩ := PySem.W.dataKind_inv ha
        exact absurd hd (by simp)), fun h2 => absurd h2 (by simp)⟩
    | cons d₀ ds₀ =>
      obtain ⟨x₀, r₀, e₀⟩ := ht d₀ (List.mem_cons_self ..)
      have hfirst : ∀ x r, PyData.tuple (x :: r) ∈ d₀ :: ds₀ → PySem.W.alike x x₀ = true := by
        intro x r hm
        have q := hal _ hm d₀ (List.mem_cons_self ..)
        rw [e₀] at q
        exact q.head
      refine ⟨tuples' (PySem.W.dataType x₀ != Value.type "tuple"), ?_, fun h2 E Q hq => ?_⟩
      · intro E x y a b Q ha hb hq
        obtain ⟨d, as, hd, ra, rfl⟩ := PySem.W.dataKind_inv ha
        obtain ⟨d', as', hd', rb, rfl⟩ := PySem.W.dataKind_inv hb
        have hdd := hal d hd d' hd'
        have hroom := room (d' := d') hd
        obtain ⟨x1, r1, rfl⟩ := ht d hd
        obtain ⟨x2, r2, rfl⟩ := ht d' hd'
        have hq' : Q (PySem.W.dataLt (.tuple (x1 :: r1)) (.tuple (x2 :: r2))) s := hq
        rw [PySem.W.dataLt_tuple] at hq'
        cases ra with
        | @tuple l o xs n _ _ h1 h2 h3 h4 =>
          cases rb with
          | @tuple l' o' xs' n' _ _ k1 k2 k3 k4 =>
            have n1 : xs.size = (x1 :: r1).length := by simpa using SeqAt.ReadsAll.length _ _ _ h4
            have n2 : xs'.size = (x2 :: r2).length := by simpa using SeqAt.ReadsAll.length _ _ _ k4
            refine PySem.W.kat_lt h1 h3 k1 k3 ?_
            have hb0 : ∀ b : Bool, b = (PySem.W.dataType x₀ != Value.type "tuple") → b = true → ∀ t, x1 ≠ .tuple t := by
              intro b e hb t
              subst e
              have q := PySem.W.dataType_alike (hfirst _ _ hd)
              rw [← q] at hb
              exact PySem.W.dataType_tuple hb t
            rcases hdd with hdd | ⟨_, _, _, _, e1, e2, ha, he⟩
            · refine PySem.W.katLex_alike (x1 :: r1) (x2 :: r2) 0 _ _ _ _ h4 k4 (by simpa [PySem.W.alike] using hdd) (by have q := SeqAt.room_in hroom; omega) (fun hb _ x r t ex => ?_) (by rw [n1, n2]) hq'
              obtain ⟨rfl, rfl⟩ := List.cons.inj ex
              exact hb0 _ rfl hb t
            · cases e1; cases e2
              rw [PySem.W.dataLt_all_no ha he] at hq'
              have hr : A.units + min x1.depth x2.depth < cLine := by
                have q := SeqAt.room_in hroom
                have q2 : A.units + min (max x1.depth (PyData.depthAll r1)) (max x2.depth (PyData.depthAll r2)) < cLine := by
                  have e1 : PyData.depthAll (x1 :: r1) = max x1.depth (PyData.depthAll r1) := by rw [PyData.depthAll]
                  have e2 : PyData.depthAll (x2 :: r2) = max x2.depth (PyData.depthAll r2) := by rw [PyData.depthAll]
                  rw [← e1, ← e2]
                  omega
                exact SeqAt.room_head q2

              generalize hv : Array.toList xs = us at h4
              generalize hv' : Array.toList xs' = us' at k4
              cases h4 with
              | cons a b =>
                cases k4 with
                | cons a' b' =>
                  rw [List.zip_cons_cons]
                  refine PySem.W.kat_cons (PySem.W.eqAt_alike x1 x2 A s _ _ _ _ a a' ha hr prog w _ _ ?_)
                  rw [he]
                  refine PySem.W.kat_no (PySem.W.oneLt_alike (fun hbi t => ?_) a a' ha (PySem.W.ne_none_of ha he) hr hq')
                  rw [Bool.and_eq_true] at hbi
                  exact hb0 _ rfl hbi.1 t
      · obtain ⟨fs, t1, t2, t3⟩ := PySem.W.each_katTups e ht
        refine PySem.W.kat_kind (T := PySem.W.dataType x₀) t1 (by omega) (fun f hf => ?_) (beq_self_eq_true _) hq
        obtain ⟨x, r, as, m1, m2⟩ := t3 f hf
        rw [← PySem.W.dataType_alike (hfirst x r m1)]
        exact PySem.W.looks_reads m2
end

section
variable {X : Cx} {W : L2.WX} {pos : Pos} {M : Ms} {Q : Q2}
/-- .. of tuples that are pairwise alike, or differ at their first entries -/
def SortP (d : Tr) (M : Ms) (Q : Q2) (_ : Fx Q) : Prop := ∃ ds, seqT d M = some ds ∧ (∀ es, d ≠ .tup es) ∧ (∀ e ∈ ds, pureT e = true) ∧ AllAlikeP (ds.map toP) ∧ (∀ d, d ∈ ds.map toP → ∃ x r, d = .tuple (x :: r)) ∧ (∀ e ∈ ds, (toP e).depth ≤ 50) ∧ ds.length ≤ sizeLine ∧
  ∀ p, M p = none → Q (.loc p) (up M p (.lst (ds.mergeSort (PySem.W.dataLe false toP))))
def rSort3 : RC2 := c1 fun d M Q => SortP d M Q .mk
theorem each_keysP {h' : Heap} {ds : List PyData} (hal : AllAlikeP ds) {vs : List Value} (er : PySem.W.EachIs (fun v d => ∃ as, Reads h' v d as) vs ds) : PySem.W.EachIs (fun v d => (PySem.W.dataKind h' ds).keyOf v = some (PySem.W.keyToks d)) vs ds :=
  (PySem.W.each_mem er).mono fun v d ⟨⟨as, r⟩, hd⟩ => kindP_some hal hd r
theorem b_sorted3 (hu : X.A.units + 64 < cLine) : CallR X (.builtin "sorted") (lfC X.K rSort3) := c1_of fun pins s σ H x u Q d M Q' I rx rd sm ⟨ds, e1, nt, hp, hal, hk, hd, hL, q⟩ hq => by
  have go : ∀ a xs, x = .ref a → SqL X.K H a xs → RepL X.K H ds xs → wpAny (model X.prog X.w) X.A (call (.builtin "sorted") [u]) (EP X pins σ Q) X.xe s := fun a xs ex sq rl => by
    subst ex
    obtain ⟨its, rv, hl, _⟩ := I.list sq
    cases rx
    have er := each_of rl rv
    have er0 := pureReads I sm hp er
    have er' : PySem.W.EachIs (fun v b => ∃ as, Reads (PySem.W.sortingHeap (PySem.W.copyHeap s.heap its) (s.heap.objs.size + 1) its) v (toP b) as) its ds := er0.mono fun _ _ ⟨as, r⟩ => ⟨as, PyProof.Rows.Reads.keeps (fun _ _ => PySem.W.sorting_copy_old) r⟩
    have er2 := PySem.W.each_map (R := fun v d => ∃ as, Reads (PySem.W.sortingHeap (PySem.W.copyHeap s.heap its) (s.heap.objs.size + 1) its) v d as) toP er'
    have fin : ∀ out, out.length = ds.length → PySem.W.EachIs (fun u d => ∃ x, RelV x u ∧ Rep X.K H d x) out (ds.mergeSort (PySem.W.dataLe false toP)) → EP X pins σ Q (.ref (s.heap.objs.size + 1)) { s with heap := PyProof.Rows.sortedAll s.heap its (List.toArray out) } := fun out ho eo => by
      obtain ⟨ys, h1, h2⟩ := each_back eo
      obtain ⟨ep, he'⟩ := PyProof.Rows.sortedAll_at s.heap its out.toArray
      have hlen : ys.length ≤ sizeLine := by rw [← h1.len, List.length_mergeSort]; exact hL
      have fr : H (s.heap.objs.size + 1) = none := I.hok.fresh (Nat.le_succ _)
      exact ⟨.ref _, upd H (s.heap.objs.size + 1) (.lst ys), I.laid (t' := s.toks) (fun _ _ => PyProof.Rows.sortedAll_old) (Nat.le_succ _) ⟨hlen, out, ep, h2, by simpa using he'⟩, rfl, new_lst hq h1 sm fr q⟩
    refine PySem.W.sorted_vals hl.isList (sortsAtP (s := { s with heap := PySem.W.sortingHeap (PySem.W.copyHeap s.heap its) (s.heap.objs.size + 1) its }) er2 hal hk (fun d hd' => ?_)) (by rw [er.length]; exact hL) (fin _ (by rw [PySem.W.sortVals_length false rfl]; exact er.length) ?_)
    · obtain ⟨b, hb, rfl⟩ := List.mem_map.mp hd'
      have := hd b hb
      show X.A.in1.in1.units + _ < _
      have e : X.A.in1.in1.units = X.A.units + 2 := rfl
      omega
    · exact PySem.W.sortVals_each (κ := PySem.W.dataKind _ (ds.map toP)) (fun b => PySem.W.keyToks (toP b)) er (PySem.W.each_of_map toP (each_keysP hal er2))
  cases d with
  | tup es => exact absurd rfl (nt es)
  | fro es =>
    obtain ⟨a, xs, ex, sq, rl⟩ := rd
    cases e1
    exact go a xs ex sq.sq rl
  | loc a =>
    cases rd
    obtain ⟨xs, hx, rl⟩ := sm a _ (seqT_loc e1)
    exact go a xs rfl (SqL.of hx) rl
  | _ => cases e1
@[simp ↓] theorem rSort3_ap {d : Tr} : rSort3 [d] M Q = SortP d M Q .mk := rfl
end
end T

/-! T: data compared that is made of None, ints, texts, tuples. -/
namespace T
open PySem PySem.Spec PyProof.Rows L2
mutual
def nbT : Tr → Bool
  | .non => true
  | .int _ => true
  | .str x => (PyData.str x).canLay0
  | .tup ds => nbL ds
  | _ => false
def nbL : List Tr → Bool
  | [] => true
  | d :: r => nbT d && nbL r
end
mutual
theorem nb_pure : ∀ {t : Tr}, nbT t = true → pureT t = true ∧ (toP t).canLay0 = true
  | .non, _ => ⟨rfl, rfl⟩
  | .int _, _ => ⟨rfl, rfl⟩
  | .str _, h => ⟨rfl, h⟩
  | .tup ds, h => by
    have := nbL_pure (ds := ds) h
    exact ⟨this.1, by show PyData.canLay0 (.tuple (toPs ds)) = true; simp only [PyData.canLay0]; exact this.2⟩
  | .bl _, h => nomatch h
  | .fro _, h => nomatch h
  | .loc _, h => nomatch h
  | .ty _, h => nomatch h
theorem nbL_pure : ∀ {ds : List Tr}, nbL ds = true → pureL ds = true ∧ PyData.canLayAll0 (toPs ds) = true
  | [], _ => ⟨rfl, rfl⟩
  | d :: r, h => by
    have h' : (nbT d && nbL r) = true := h
    rw [Bool.and_eq_true] at h'
    have a := nb_pure h'.1
    have b := nbL_pure h'.2
    exact ⟨by show (pureT d && pureL r) = true; rw [a.1, b.1]; rfl, by show PyData.canLayAll0 (toP d :: toPs r) = true; simp only [PyData.canLayAll0, a.2, b.2]; rfl⟩
end
mutual
theorem eqv_iff : ∀ {a b : Tr}, nbT a = true → nbT b = true → (PyData.eqv (toP a) (toP b) = true ↔ a = b)
  | .non, b, _, hb => by cases b <;> first | (simp [toP, PyData.eqv]; done) | (simp [nbT] at hb; done) | (simp [toP, PyData.eqv])
  | .int i, b, _, hb => by cases b <;> first | (simp [toP, PyData.eqv]; done) | (simp [nbT] at hb; done) | (simp [toP, PyData.eqv])
  | .str i, b, _, hb => by cases b <;> first | (simp [toP, PyData.eqv]; done) | (simp [nbT] at hb; done) | (simp [toP, PyData.eqv])
  | .tup ds, b, ha, hb => by
    cases b with
    | tup es =>
      have := eqvL_iff (as := ds) (bs := es) ha hb
      simp only [toP, PyData.eqv]
      rw [this]
      exact ⟨fun e => by rw [e], fun e => by injection e⟩
    | non => simp [toP, PyData.eqv]
    | int _ => simp [toP, PyData.eqv]
    | str _ => simp [toP, PyData.eqv]
    | _ => exact absurd hb (by simp [nbT])
  | .bl _, _, h, _ => nomatch h
  | .fro _, _, h, _ => nomatch h
  | .loc _, _, h, _ => nomatch h
  | .ty _, _, h, _ => nomatch h
theorem eqvL_iff : ∀ {as bs : List Tr}, nbL as = true → nbL bs = true → (PyData.eqvAll (toPs as) (toPs bs) = true ↔ as = bs)
  | [], [], _, _ => ⟨fun _ => rfl, fun _ => rfl⟩
  | [], _ :: _, _, _ => ⟨(fun h => nomatch h), (fun h => nomatch h)⟩
  | _ :: _, [], _, _ => ⟨(fun h => nomatch h), (fun h => nomatch h)⟩
  | a :: as, b :: bs, ha, hb => by
    have ha' : (nbT a && nbL as) = true := ha
    have hb' : (nbT b && nbL bs) = true := hb
    rw [Bool.and_eq_true] at ha' hb'
    show (PyData.eqvAll (toP a :: toPs as) (toP b :: toPs bs) = true) ↔ _
    simp only [PyData.eqvAll, Bool.and_eq_true]
    rw [eqv_iff ha'.1 hb'.1, eqvL_iff ha'.2 hb'.2]
    exact ⟨fun ⟨x, y⟩ => by rw [x, y], fun e => by injection e with x y; exact ⟨x, y⟩⟩
end
theorem shaped_of {t : Tr} (h : nbT t = true) (hd : (toP t).depth ≤ 64) : SeqAt.shaped (toP t) = true := by
  show ((toP t).canLay0 && decide ((toP t).depth ≤ 64)) = true
  rw [(nb_pure h).2]
  simpa using hd
section
variable {M : Ms} {Q : Q2} {f : Bool → Bool}
theorem eqS_pure {a b : Tr} {fx : Fx Q} (k : Bool) (ha : nbT a = true) (hb : nbT b = true) (da : (toP a).depth ≤ 64) (db : (toP b).depth ≤ 64) (hk : k = true ↔ a = b) (hq : Q (.bl (f k)) M) : EqS f a b M Q fx := by
  refine ⟨toP a, toP b, dat_pure (nb_pure ha).1, dat_pure (nb_pure hb).1, shaped_of ha da, shaped_of hb db, ?_⟩
  have e : PyData.eqv (toP a) (toP b) = k := by
    rw [Bool.eq_iff_iff, eqv_iff ha hb, hk]
  rw [e]; exact hq
theorem rEq_tup {a b : Tr} (l l' : List Tr) (k : Bool) (ea : a = .tup l) (eb : b = .tup l') (ha : nbT a = true) (hb : nbT b = true) (da : (toP a).depth ≤ 64) (db : (toP b).depth ≤ 64) (hk : k = true ↔ a = b) (hq : Q (.bl (f k)) M) : rEqG f a b M Q := by
  subst ea eb
  exact eqS_pure (fx := .mk) k ha hb da db hk hq
theorem eqS_lists {a b : Addr} {la lb : List Tr} {fx : Fx Q} (k : Bool) (ea : M a = some (.lst la)) (eb : M b = some (.lst lb)) (ha : nbL la = true) (hb : nbL lb = true) (da : PyData.depthAll (toPs la) ≤ 63) (db : PyData.depthAll (toPs lb) ≤ 63) (hk : k = true ↔ la = lb) (hq : Q (.bl (f k)) M) : EqS f (.loc a) (.loc b) M Q fx := by
  refine ⟨.list (toPs la), .list (toPs lb), ⟨_, seqT_lst ea, (fun _ e => nomatch e), datL_pure (nbL_pure ha).1⟩, ⟨_, seqT_lst eb, (fun _ e => nomatch e), datL_pure (nbL_pure hb).1⟩, ?_, ?_, ?_⟩
  · show (PyData.canLay0 (.list (toPs la)) && decide (PyData.depth (.list (toPs la)) ≤ 64)) = true
    simp only [PyData.canLay0, PyData.depth, (nbL_pure ha).2]
    simp; omega
  · show (PyData.canLay0 (.list (toPs lb)) && decide (PyData.depth (.list (toPs lb)) ≤ 64)) = true
    simp only [PyData.canLay0, PyData.depth, (nbL_pure hb).2]
    simp; omega
  · have e : PyData.eqv (.list (toPs la)) (.list (toPs lb)) = k := by
      simp only [PyData.eqv]
      rw [Bool.eq_iff_iff, eqvL_iff ha hb, hk]
    rw [e]; exact hq
end
mutual
/-- how deep tuples stand in one another -/
def hT : Tr → Nat
  | .tup ds => hL ds + 1
  | .fro ds => hL ds + 1
  | _ => 0
def hL : List Tr → Nat
  | [] => 0
  | d :: r => max (hT d) (hL r)
end
mutual
theorem hT_ok : ∀ {t : Tr}, (toP t).depth = hT t
  | .non => rfl
  | .int _ => rfl
  | .str _ => rfl
  | .bl _ => rfl
  | .loc _ => rfl
  | .ty _ => rfl
  | .tup ds => by
    show PyData.depth (.tuple (toPs ds)) = hL ds + 1
    simp only [PyData.depth, hL_ok]
  | .fro ds => by
    show PyData.depth (.list (toPs ds)) = hL ds + 1
    simp only [PyData.depth, hL_ok]
theorem hL_ok : ∀ {ds : List Tr}, PyData.depthAll (toPs ds) = hL ds
  | [] => rfl
  | d :: r => by
    show PyData.depthAll (toP d :: toPs r) = max (hT d) (hL r)
    simp only [PyData.depthAll, hT_ok, hL_ok]
end
theorem hL_le {k : Nat} : ∀ {ds : List Tr}, (∀ d ∈ ds, hT d ≤ k) → hL ds ≤ k
  | [], _ => Nat.zero_le _
  | d :: r, h => by
    show max (hT d) (hL r) ≤ k
    have := h d List.mem_cons_self
    have := hL_le (ds := r) fun x hx => h x (List.mem_cons_of_mem _ hx)
    omega
theorem nbL_of : ∀ {ds : List Tr}, (∀ d ∈ ds, nbT d = true) → nbL ds = true
  | [], _ => rfl
  | d :: r, h => by
    show (nbT d && nbL r) = true
    rw [h d List.mem_cons_self, nbL_of fun x hx => h x (List.mem_cons_of_mem _ hx)]; rfl
end T

/-! T: zip, reversed, ranges by steps; more methods of lists. -/
namespace T
open PySem PySem.Spec PyProof.Rows L2
section
variable {X : Cx} {W : L2.WX} {pos p p2 pos2 : Pos} {tg e a b c : Expr} {ta tb te to : TE2} {tt : TA2} {M : Ms} {Q : Q2} {σ : St2} {E : X2} {R : It2 → Ms → Prop}
/-! ### zip -/
def zipT (ls rs : List Tr) : List Tr := (ls.zip rs).map fun p => Tr.tup [p.1, p.2]
theorem zipT_len {ls rs : List Tr} : (zipT ls rs).length = min ls.length rs.length := by simp [zipT]
theorem zipT_at {ls rs : List Tr} {i : Nat} {x y : Tr} (h : ls[i]? = some x) (h' : rs[i]? = some y) : (zipT ls rs)[i]? = some (.tup [x, y]) := by
  unfold zipT
  rw [List.getElem?_map]
  have : (ls.zip rs)[i]? = some (x, y) := by rw [List.getElem?_zip_eq_some]; exact ⟨h, h'⟩
  rw [this]; rfl
theorem zipT_get {ls rs : List Tr} {i : Nat} {d : Tr} (h : (zipT ls rs)[i]? = some d) : ∃ x y, ls[i]? = some x ∧ rs[i]? = some y ∧ d = .tup [x, y] := by
  unfold zipT at h
  rw [List.getElem?_map] at h
  cases q : (ls.zip rs)[i]? with
  | none => rw [q] at h; cases h
  | some z =>
    rw [q] at h
    cases h
    have := List.getElem?_zip_eq_some.mp q
    exact ⟨_, _, this.1, this.2, rfl⟩
theorem pair2_rep {K : PySem.W.Frag} {H : Hp} {M : Ms} {x y : V} {d e : Tr} {T : Addr} (hT : H T = none) (r : Rep K H d x) (r' : Rep K H e y) (sm : SimM K H M) :
    Tx K H (upd H T (.tup [x, y])) ∧ SimM K (upd H T (.tup [x, y])) M ∧ Rep K (upd H T (.tup [x, y])) (.tup [d, e]) (.ref T) :=
  ⟨Tx.new hT, sm.hid hT, T, _, rfl, SqT.of upd_same, x, [y], rfl, r.mono (Tx.new hT), y, [], rfl, r'.mono (Tx.new hT), rfl⟩
def isTup : Tr → Bool
  | .tup _ => true
  | _ => false
def iZp (ta : TA2) : TI2 := fun σ M R E => ta σ M (fun es M1 => ∃ d e ls rs, es = [d, e] ∧ seqT d M1 = some ls ∧ seqT e M1 = some rs ∧ isTup d = isTup e ∧ R (itL (zipT ls rs) fun M => seqT d M = some ls ∧ seqT e M = some rs) M1) E
theorem seqT_lk {K : PySem.W.Frag} {H : Hp} {M : Ms} {d : Tr} {ds : List Tr} {x : V} (e : seqT d M = some ds) (r : Rep K H d x) (sm : SimM K H M) : ∃ a, x = .ref a ∧
    ((isTup d = true ∧ ∃ xs, SqT K H a xs ∧ RepL K H ds xs) ∨ (isTup d = false ∧ (∃ xs, SqL K H a xs) ∧ ∀ H1 M1, Tx K H H1 → SimM K H1 M1 → seqT d M1 = some ds → ∃ xs, SqL K H1 a xs ∧ RepL K H1 ds xs)) := by
  cases d with
  | tup es =>
    obtain ⟨a, xs, rfl, q, rl⟩ := r
    cases e
    exact ⟨a, rfl, .inl ⟨rfl, xs, q, rl⟩⟩
  | fro es =>
    obtain ⟨a, xs, rfl, q, rl⟩ := r
    cases e
    exact ⟨a, rfl, .inr ⟨rfl, ⟨xs, q.sq⟩, fun H1 M1 t _ _ => ⟨xs, (t.fro _ _ q).sq, rl.mono t⟩⟩⟩
  | loc a =>
    cases r
    obtain ⟨xs, hx, rl⟩ := sm a _ (seqT_loc e)
    refine ⟨a, rfl, .inr ⟨rfl, ⟨xs, SqL.of hx⟩, fun H1 M1 t sm1 e1 => ?_⟩⟩
    obtain ⟨ys, hy, rl'⟩ := sm1 a _ (seqT_loc e1)
    exact ⟨ys, SqL.of hy, rl'⟩
  | _ => cases e
theorem itz_ok {K : PySem.W.Frag} {H : Hp} {a b : Addr} {d e : Tr} {ls rs : List Tr} (h : ∀ H1 M, Tx K H H1 → SimM K H1 M → seqT d M = some ls → ∃ xs, SqL K H1 a xs ∧ RepL K H1 ls xs) (h' : ∀ H1 M, Tx K H H1 → SimM K H1 M → seqT e M = some rs → ∃ xs, SqL K H1 b xs ∧ RepL K H1 rs xs) :
    ItOk K H (Itz K a b) (itL (zipT ls rs) fun M => seqT d M = some ls ∧ seqT e M = some rs) := fun H1 M t sm => by
  refine ⟨fun i ⟨o, hi⟩ => ?_, fun i ⟨o, hi⟩ => ?_, fun i x H2 ⟨o, hi⟩ ⟨T, x', y', ex, hT, e1, hx, hy⟩ => ?_⟩
  · obtain ⟨xs, sq, rl⟩ := h H1 M t sm o.1
    obtain ⟨ys, sq', rl'⟩ := h' H1 M t sm o.2
    rw [zipT_len] at hi
    exact ⟨xs, ys, sq, sq', by rw [← rl.len, ← rl'.len]; omega⟩
  · obtain ⟨xs, sq, rl⟩ := h H1 M t sm o.1
    obtain ⟨ys, sq', rl'⟩ := h' H1 M t sm o.2
    rw [zipT_len] at hi
    have i1 : i < ls.length := by omega
    have i2 : i < rs.length := by omega
    obtain ⟨x, e1, _⟩ := rl.get (i := i) (d := ls[i]) (by simp [i1])
    obtain ⟨y, e2, _⟩ := rl'.get (i := i) (d := rs[i]) (by simp [i2])
    exact ⟨xs, ys, x, y, sq, sq', e1, e2⟩
  · subst e1
    subst ex
    obtain ⟨xs, sq, rl⟩ := h _ M t sm o.1
    obtain ⟨ys, sq', rl'⟩ := h' _ M t sm o.2
    obtain ⟨d1, e1, r1⟩ := rl.back (hx xs sq)
    obtain ⟨d2, e2, r2⟩ := rl'.back (hy ys sq')
    obtain ⟨p1, p2, p3⟩ := pair2_rep hT r1 r2 sm
    exact ⟨p1, p2, _, p3, zipT_at e1 e2⟩
theorem itzt_ok {K : PySem.W.Frag} {H : Hp} {a b : Addr} {ls rs : List Tr} {ok : Ms → Prop} {xs ys : List V} (q : SqT K H a xs) (q' : SqT K H b ys) (rl : RepL K H ls xs) (rl' : RepL K H rs ys) : ItOk K H (RZ.ItzT K a b) (itL (zipT ls rs) ok) := fun H1 M t sm => by
  have s1 := t.tup _ _ q
  have s2 := t.tup _ _ q'
  have r1 := rl.mono t
  have r2 := rl'.mono t
  refine ⟨fun i ⟨o, hi⟩ => ?_, fun i ⟨o, hi⟩ => ?_, fun i x H2 ⟨o, hi⟩ ⟨T, x', y', ex, hT, e1, hx, hy⟩ => ?_⟩
  · rw [zipT_len] at hi
    exact ⟨xs, ys, s1, s2, by rw [← rl.len, ← rl'.len]; omega⟩
  · rw [zipT_len] at hi
    have i1 : i < ls.length := by omega
    have i2 : i < rs.length := by omega
    obtain ⟨x, e1, _⟩ := rl.get (i := i) (d := ls[i]) (by simp [i1])
    obtain ⟨y, e2, _⟩ := rl'.get (i := i) (d := rs[i]) (by simp [i2])
    exact ⟨xs, ys, x, y, s1, s2, e1, e2⟩
  · subst e1
    subst ex
    obtain ⟨d1, e1, q1⟩ := r1.back (hx xs s1)
    obtain ⟨d2, e2, q2⟩ := r2.back (hy ys s2)
    obtain ⟨p1, p2, p3⟩ := pair2_rep hT q1 q2 sm
    exact ⟨p1, p2, _, p3, zipT_at e1 e2⟩
theorem qi_zip {elts : List Expr} {kk : Nat} {tpos : Pos} (hm : X.mg "zip" = none) (ha : QA X W [a, b] tt) (hg : Gl X "zip" := by rfl)
    (hs : starEach [a, b] X.env = (false, eval a X.env) :: starEach [b] X.env := by rfl) (hpl : (backTo pos (starEach [b] X.env)).any (·.1) = false := by rfl) :
    QI X W (.Tuple elts kk tpos) (.Call (.Name "zip" p) [a, b] [] pos) (iZp tt) := pi_weak (RZ.pi_zipA hg hm ha hs hpl) fun σ H R ⟨σ', M, R', E', hs, hm, q, hq, hx⟩ =>
  ⟨σ', M, _, E', hs, hm, q, fun es M1 xs H1 t1 r1 s1 ⟨d, e, ls, rs, ee, e1, e2, ek, q1⟩ => by
    subst ee
    obtain ⟨x, y, rfl, r2, r3⟩ := two_of r1
    obtain ⟨a1, rfl, c1⟩ := seqT_lk e1 r2 s1
    obtain ⟨a2, rfl, c2⟩ := seqT_lk e2 r3 s1
    rcases c1 with ⟨k1, xs, sq, rl⟩ | ⟨k1, ⟨xs, sq⟩, f1⟩
    · rcases c2 with ⟨k2, ys, sq', rl'⟩ | ⟨k2, _, _⟩
      · exact ⟨a1, a2, xs, ys, rfl, .inr ⟨sq, sq', hq _ M1 _ H1 t1 s1 (itzt_ok sq sq' rl rl') q1⟩⟩
      · rw [k1, k2] at ek; cases ek
    · rcases c2 with ⟨k2, _, _⟩ | ⟨k2, ⟨ys, sq'⟩, f2⟩
      · rw [k1, k2] at ek; cases ek
      · exact ⟨a1, a2, xs, ys, rfl, .inl ⟨sq, sq', hq _ M1 _ H1 t1 s1 (itz_ok f1 f2) q1⟩⟩, hx⟩
@[simp ↓] theorem iZp_ap : iZp tt σ M R E = tt σ M (fun es M1 => k2 es fun d e => kS d M1 fun ls => kS e M1 fun rs => isTup d = isTup e ∧ R (itL (zipT ls rs) fun M => seqT d M = some ls ∧ seqT e M = some rs) M1) E := by
  unfold iZp
  congr 1
  funext es M1
  apply propext
  constructor
  · rintro ⟨d, e, ls, rs, rfl, h1, h2, h3⟩
    show kS d M1 _
    rw [← kS_of]
    refine ⟨ls, h1, ?_⟩
    rw [← kS_of]
    exact ⟨rs, h2, h3⟩
  · intro h
    match es, h with
    | [d, e], h =>
      have h' : kS d M1 fun ls => kS e M1 fun rs => isTup d = isTup e ∧ R (itL (zipT ls rs) fun M => seqT d M = some ls ∧ seqT e M = some rs) M1 := h
      rw [← kS_of] at h'
      obtain ⟨ls, h1, h2⟩ := h'
      rw [← kS_of] at h2
      obtain ⟨rs, h2, h3⟩ := h2
      exact ⟨d, e, ls, rs, rfl, h1, h2, h3⟩
@[simp] theorem isTup_t {l : List Tr} : isTup (.tup l) = true := rfl
@[simp] theorem isTup_f {l : List Tr} : isTup (.fro l) = false := rfl
@[simp] theorem isTup_l {a : Addr} : isTup (.loc a) = false := rfl
/-! ### reversed -/
def iRv (ta : TA2) : TI2 := fun σ M R E => ta σ M (fun es M1 => ∃ d ls, es = [d] ∧ seqT d M1 = some ls ∧ isTup d = false ∧ R (itL ls.reverse fun M => seqT d M = some ls) M1) E
theorem itv_ok {K : PySem.W.Frag} {H : Hp} {a : Addr} {d : Tr} {ds : List Tr} (h : ∀ H1 M, Tx K H H1 → SimM K H1 M → seqT d M = some ds → ∃ xs, SqL K H1 a xs ∧ RepL K H1 ds xs) : ItOk K H (Itv K a ds.length) (itL ds.reverse fun M => seqT d M = some ds) := fun H1 M t sm => by
  refine ⟨fun i ⟨o, hi⟩ => ?_, fun i ⟨o, hi⟩ => ?_, fun i x H2 ⟨o, hi⟩ ⟨e, y⟩ => ?_⟩
  · rw [List.length_reverse] at hi; exact hi
  · rw [List.length_reverse] at hi
    obtain ⟨xs, sq, rl⟩ := h H1 M t sm o
    have i1 : ds.length - 1 - i < ds.length := by omega
    obtain ⟨x, e, _⟩ := rl.get (i := ds.length - 1 - i) (d := ds[ds.length - 1 - i]) (by simp [i1])
    exact ⟨hi, xs, x, sq, e⟩
  · subst e
    rw [List.length_reverse] at hi
    obtain ⟨xs, sq, rl⟩ := h _ M t sm o
    obtain ⟨d', e', r⟩ := rl.back (y xs sq)
    exact ⟨Tx.refl, sm, d', r, by show ds.reverse[i]? = some d'; rw [List.getElem?_reverse hi]; exact e'⟩
theorem qi_reversed (hm : X.mg "reversed" = none) (ha : QA X W [e] tt) (hg : Gl X "reversed" := by rfl) (hs : starEach [e] X.env = [(false, eval e X.env)] := by rfl) :
    QI X W tg (.Call (.Name "reversed" p) [e] [] pos) (iRv tt) := pi_weak (pi_reversed hg hm ha hs) fun σ H R ⟨σ', M, R', E', hs, hm, q, hq, hx⟩ =>
  ⟨σ', M, _, E', hs, hm, q, fun es M1 xs H1 t1 r1 s1 ⟨d, ls, ee, e1, ek, q1⟩ => by
    subst ee
    obtain ⟨x, rfl, r2⟩ := one_of r1
    obtain ⟨a1, rfl, c1⟩ := seqT_lk e1 r2 s1
    rcases c1 with ⟨k1, _⟩ | ⟨k1, ⟨xs, sq⟩, f1⟩
    · rw [k1] at ek; cases ek
    · obtain ⟨ys, sq', rl⟩ := f1 H1 M1 Tx.refl s1 e1
      exact ⟨a1, ys, rfl, sq', by rw [← rl.len]; exact hq _ M1 _ H1 t1 s1 (itv_ok f1) q1⟩, hx⟩
@[simp ↓] theorem iRv_ap : iRv tt σ M R E = tt σ M (fun es M1 => k1 es fun d => kS d M1 fun ls => isTup d = false ∧ R (itL ls.reverse fun M => seqT d M = some ls) M1) E := by
  unfold iRv
  congr 1
  funext es M1
  apply propext
  constructor
  · rintro ⟨d, ls, rfl, h1, h2⟩
    show kS d M1 _
    rw [← kS_of]
    exact ⟨ls, h1, h2⟩
  · intro h
    match es, h with
    | [d], h =>
      have h' : kS d M1 fun ls => isTup d = false ∧ R (itL ls.reverse fun M => seqT d M = some ls) M1 := h
      rw [← kS_of] at h'
      obtain ⟨ls, h1, h2⟩ := h'
      exact ⟨d, ls, rfl, h1, h2⟩
/-! ### ranges by steps -/
def rgC (i c : Int) (n : Nat) : List Tr := (List.range n).map fun k => Tr.int (i + (k : Nat) * c)
def iRg3 (ta : TA2) : TI2 := fun σ M R E => ta σ M (fun es M1 => ∃ (i j c : Int) (n : Nat), es = [.int i, .int j, .int c] ∧ RgC i j c n ∧ R (itL (rgC i c n) fun _ => True) M1) E
theorem itc_ok {K : PySem.W.Frag} {H : Hp} {i c : Int} {n : Nat} {ok : Ms → Prop} : ItOk K H (Itc i c n) (itL (rgC i c n) ok) := fun H1 M t sm => by
  refine ⟨fun k ⟨_, hi⟩ => ?_, fun k ⟨_, hi⟩ => ?_, fun k x H2 ⟨_, hi⟩ ⟨e, y⟩ => ?_⟩
  · show n ≤ k
    simpa [rgC] using hi
  · show k < n
    simpa [rgC] using hi
  · subst e
    subst y
    have hk : k < n := by simpa [rgC] using hi
    refine ⟨Tx.refl, sm, .int (i + (k : Nat) * c), rfl, ?_⟩
    show (rgC i c n)[k]? = some (.int (i + (k : Nat) * c))
    unfold rgC
    rw [List.getElem?_map, List.getElem?_range hk]; rfl
theorem three_of {K : PySem.W.Frag} {H : Hp} {d e f : Tr} {xs : List V} (r : RepL K H [d, e, f] xs) : ∃ x y z, xs = [x, y, z] ∧ Rep K H d x ∧ Rep K H e y ∧ Rep K H f z := by
  obtain ⟨x, r1, rfl, h1, y, r2, rfl, h2, z, r3, rfl, h3, rfl⟩ := r
  exact ⟨x, y, z, rfl, h1, h2, h3⟩
theorem qi_range3 (hm : X.mg "range" = none) (ha : QA X W [a, b, c] tt) (hg : Gl X "range" := by rfl) (hs : starEach [a, b, c] X.env = (false, eval a X.env) :: starEach [b, c] X.env := by rfl) (hpl : (backTo pos (starEach [b, c] X.env)).any (·.1) = false := by rfl) :
    QI X W tg (.Call (.Name "range" p) [a, b, c] [] pos) (iRg3 tt) := pi_weak (pi_range3 hg hm ha hs hpl) fun σ H R ⟨σ', M, R', E', hs, hm, q, hq, hx⟩ =>
  ⟨σ', M, _, E', hs, hm, q, fun es M1 xs H1 t1 r1 s1 ⟨i, j, c, n, ee, hc, q1⟩ => by
    subst ee
    obtain ⟨x, y, z, rfl, r2, r3, r4⟩ := three_of r1
    cases r2; cases r3; cases r4
    exact ⟨i, j, c, n, rfl, hc, hq _ M1 _ H1 t1 s1 itc_ok q1⟩, hx⟩
/-- a range down by ones -/
def RgDown (i j : Int) : Prop := -(2 ^ 62) ≤ i ∧ i < 2 ^ 62 ∧ -(2 ^ 62) ≤ j ∧ j < 2 ^ 62
def k3i (ds : List Tr) (P : Int → Int → Int → Prop) : Prop := match ds with
  | [.int i, .int j, .int c] => P i j c
  | _ => False
@[simp ↓] theorem k3i_ap {i j c : Int} {P : Int → Int → Int → Prop} : k3i [.int i, .int j, .int c] P = P i j c := rfl
@[simp ↓] theorem iRg3_ap : iRg3 tt σ M R E = tt σ M (fun es M1 => k3i es fun i j c => ∃ n, RgC i j c n ∧ R (itL (rgC i c n) fun _ => True) M1) E := by
  unfold iRg3
  congr 1
  funext es M1
  apply propext
  constructor
  · rintro ⟨i, j, c, n, rfl, h⟩; exact ⟨n, h⟩
  · intro h
    unfold k3i at h
    split at h
    · obtain ⟨n, h⟩ := h
      exact ⟨_, _, _, n, rfl, h⟩
    · exact h.elim
/-! ### more methods of lists -/
def rRev2 : RM2 := fun d ds M Q => match d, ds with
  | .loc a, [] => ∃ l, M a = some (.lst l) ∧ Q .non (up M a (.lst l.reverse))
  | _, _ => False
theorem m_reverse : MtR X "list.reverse" (lfM X.K rRev2) := by
  intro pins s σ H x xs v us Q I rx rv ⟨d, ds, M, Q', rd, rl, sm, q, hq⟩
  match d, ds, q with
  | .loc a, [], ⟨l, el, q⟩ =>
    have ex : xs = [] := rl
    subst ex
    cases rd
    obtain ⟨ys, hy, ry⟩ := sm a _ el
    exact mt_reverse pins s σ H _ _ v us Q I rx rv ⟨a, ys, rfl, rfl, hy, hq .non _ _ _ (Tx.lst hy) rfl (sm.setL hy ry.rev) q⟩
@[simp ↓] theorem rRev2_ap {a : Addr} : rRev2 (.loc a) [] M Q = kS (.loc a) M fun l => Q .non (up M a (.lst l.reverse)) := by
  have e : rRev2 (.loc a) [] M Q = ∃ l, M a = some (.lst l) ∧ Q .non (up M a (.lst l.reverse)) := rfl
  rw [e, ← kS_of]
  apply propext
  constructor
  · rintro ⟨l, h, r⟩; exact ⟨l, seqT_lst h, r⟩
  · rintro ⟨l, h, r⟩; exact ⟨l, seqT_loc h, r⟩
def rPopI : RM2 := fun d ds M Q => match d, ds with
  | .loc a, [.int i] => ∃ l k e, M a = some (.lst l) ∧ -(2 ^ 63) ≤ i ∧ i < 2 ^ 63 ∧ seqIndex? i l.length = some k ∧ l[k]? = some e ∧ Q e (up M a (.lst (l.eraseIdx k)))
  | _, _ => False
theorem m_popI : MtR X "list.pop" (lfM X.K rPopI) := by
  intro pins s σ H x xs v us Q I rx rv ⟨d, ds, M, Q', rd, rl, sm, q, hq⟩
  match d, ds, q with
  | .loc a, [.int i], ⟨l, k, e, el, h1, h2, hk, he, q⟩ =>
    obtain ⟨y, rfl, r1⟩ := one_of rl
    cases r1
    cases rd
    obtain ⟨ys, hy, ry⟩ := sm a _ el
    obtain ⟨w', e1, rw'⟩ := ry.get he
    exact mt_popAt pins s σ H _ _ v us Q I rx rv ⟨a, ys, i, k, w', rfl, rfl, hy, h1, h2, by rw [← ry.len]; exact hk, e1, hq e _ _ _ (Tx.lst hy) (rw'.mono (Tx.lst hy)) (sm.setL hy (ry.erase k)) q⟩
/-- an item popped at a place -/
def PopS (a : Addr) (i : Int) (M : Ms) (Q : Q2) (_ : Fx Q) : Prop := ∃ (l : List Tr) (k : Nat) (e : Tr), M a = some (.lst l) ∧ i = (k : Int) ∧ l.length ≤ sizeLine ∧ l[k]? = some e ∧ Q e (up M a (.lst (l.eraseIdx k)))
theorem popI_of {a : Addr} {i : Int} {fx : Fx Q} (h : PopS a i M Q fx) : rPopI (.loc a) [.int i] M Q := by
  obtain ⟨l, k, e, h1, rfl, h2, h3, h4⟩ := h
  have hk := (List.getElem?_eq_some_iff.mp h3).1
  have : sizeLine < 2 ^ 62 := by rw [sizeLine_eq]; decide
  refine ⟨l, k, e, h1, by omega, by omega, ?_, h3, h4⟩
  unfold seqIndex?
  simp
  omega
end
end T

/-! T: x in a list, a tuple of data. -/
namespace T
open PySem PySem.Spec PyProof.Rows L2
section
variable {X : Cx}
def rInX (f : Bool → Bool) : R22 := fun d e M Q => rInG f d e M Q ∨ ∃ p ds, Dat M p d ∧ SeqAt.shaped p = true ∧ ((Dat M (.list ds) e ∧ SeqAt.shaped (.list ds) = true) ∨ (Dat M (.tuple ds) e ∧ SeqAt.shaped (.tuple ds) = true)) ∧ Q (.bl (f (ds.any fun z => PyData.eqv z p))) M
theorem o_inX (hu : X.A.units + 65 < cLine) : OpR X (compareOp .In) (lfR X.K (rInX id)) := by
  intro pins s σ H x y v u Q I rx ry ⟨d, e, M, Q', rd, re, sm, q, hq⟩
  rcases q with q | ⟨p, ds, hp, sp, he, q⟩
  · exact o_in (by omega) pins s σ H x y v u Q I rx ry ⟨d, e, M, Q', rd, re, sm, q, hq⟩
  · obtain ⟨as, r1⟩ := Dp.reads I p x v (hp.dp sm rd) rx
    rcases he with ⟨he, se⟩ | ⟨he, se⟩
    · obtain ⟨bs, r2⟩ := Dp.reads I (.list ds) y u (he.dp sm re) ry
      exact SeqAt.in_list_reads r2 r1 (SeqAt.canLay_of_shaped se) (SeqAt.canLay_of_shaped sp) (room_in_shaped sp hu) ⟨.bl _, H, I, rfl, hq (.bl _) M _ H Tx.refl rfl sm q⟩
    · obtain ⟨bs, r2⟩ := Dp.reads I (.tuple ds) y u (he.dp sm re) ry
      exact SeqAt.in_tuple_reads r2 r1 (SeqAt.canLay_of_shaped se) (SeqAt.canLay_of_shaped sp) (room_in_shaped sp hu) ⟨.bl _, H, I, rfl, hq (.bl _) M _ H Tx.refl rfl sm q⟩
theorem o_notinX (hu : X.A.units + 65 < cLine) : OpR X (compareOp .NotIn) (lfR X.K (rInX not)) := by
  intro pins s σ H x y v u Q I rx ry ⟨d, e, M, Q', rd, re, sm, q, hq⟩
  rcases q with q | ⟨p, ds, hp, sp, he, q⟩
  · exact o_notin (by omega) pins s σ H x y v u Q I rx ry ⟨d, e, M, Q', rd, re, sm, q, hq⟩
  · obtain ⟨as, r1⟩ := Dp.reads I p x v (hp.dp sm rd) rx
    rcases he with ⟨he, se⟩ | ⟨he, se⟩
    · obtain ⟨bs, r2⟩ := Dp.reads I (.list ds) y u (he.dp sm re) ry
      exact SeqAt.notIn_list_reads r2 r1 (SeqAt.canLay_of_shaped se) (SeqAt.canLay_of_shaped sp) (room_in_shaped sp hu) ⟨.bl _, H, I, rfl, hq (.bl _) M _ H Tx.refl rfl sm q⟩
    · obtain ⟨bs, r2⟩ := Dp.reads I (.tuple ds) y u (he.dp sm re) ry
      exact SeqAt.notIn_tuple_reads r2 r1 (SeqAt.canLay_of_shaped se) (SeqAt.canLay_of_shaped sp) (room_in_shaped sp hu) ⟨.bl _, H, I, rfl, hq (.bl _) M _ H Tx.refl rfl sm q⟩
theorem room_hu65 {k : Nat} {A : Around} (hr : Room k A) : A.units + 65 < cLine := by have := hr.un; omega
variable {M : Ms} {Q : Q2} {f : Bool → Bool} {d e : Tr}
@[simp ↓] theorem rInX_ss {x y : Str} : rInX f (.str x) (.str y) M Q = Q (.bl (f (strIn x y))) M := by
  refine propext ⟨fun h => ?_, fun h => .inl h⟩
  rcases h with h | ⟨p, ds, _, _, h, _⟩
  · exact h
  · rcases h with ⟨h, _⟩ | ⟨h, _⟩
    · obtain ⟨_, e, _⟩ := h
      cases e
    · obtain ⟨_, e, _⟩ := h
      cases e
theorem rInX_seq {l : List Tr} (h : seqT e M = some l) (h1 : flatT d = true) (h2 : l.all flatT = true) (hq : Q (.bl (f (inT d l))) M) : rInX f d e M Q := .inl (rInG_seq h h1 h2 hq)
theorem rInX_dic {a : Addr} {kvs : List (Key × Tr)} {k : Key} (h : M a = some (.dic kvs)) (hk : keyT d = some k) (hq : Q (.bl (f (valT kvs k).isSome)) M) : rInX f d (.loc a) M Q := .inl (by
  have g : (∃ ds, seqT (.loc a) M = some ds ∧ flatT d = true ∧ ds.all flatT = true ∧ Q (.bl (f (inT d ds))) M) ∨ ∃ a' kvs k, Tr.loc a = .loc a' ∧ M a' = some (.dic kvs) ∧ keyT d = some k ∧ Q (.bl (f (valT kvs k).isSome)) M := .inr ⟨a, kvs, k, rfl, h, hk, hq⟩
  cases d with
  | _ => exact g)
/-- None is not among lists -/
theorem rInX_non {a : Addr} {l : List Tr} {ps : List PyData} (h : M a = some (.lst l)) (hd : DatL M ps l) (hs : SeqAt.shaped (.list ps) = true) (hn : ∀ p ∈ ps, PyData.eqv p .none = false) (hq : Q (.bl (f false)) M) : rInX f .non (.loc a) M Q := by
  refine .inr ⟨.none, ps, rfl, rfl, .inl ⟨⟨l, seqT_lst h, (fun _ e => nomatch e), hd⟩, hs⟩, ?_⟩
  have : (ps.any fun z => PyData.eqv z .none) = false := by
    rw [List.any_eq_false]
    intro p hp
    simp [hn p hp]
  rw [this]; exact hq
/-- data in a tuple of data -/
theorem rInX_tup {l : List Tr} (k : Bool) (hd : nbT d = true) (hl : nbL l = true) (d1 : hT d ≤ 60) (d2 : hL l ≤ 60) (hk : k = true ↔ d ∈ l) (hq : Q (.bl (f k)) M) : rInX f d (.tup l) M Q := by
  refine .inr ⟨toP d, toPs l, dat_pure (nb_pure hd).1, shaped_of hd (by rw [hT_ok]; omega), .inr ⟨⟨l, rfl, datL_pure (nbL_pure hl).1⟩, ?_⟩, ?_⟩
  · exact shaped_of (t := .tup l) hl (by rw [hT_ok]; show hL l + 1 ≤ 64; omega)
  · have key : ∀ l : List Tr, nbL l = true → (((toPs l).any fun z => PyData.eqv z (toP d)) = true ↔ d ∈ l) := by
      intro l
      induction l with
      | nil => intro _; simp [toPs]
      | cons x r ih =>
        intro h
        have h' : (nbT x && nbL r) = true := h
        rw [Bool.and_eq_true] at h'
        show ((toP x :: toPs r).any fun z => PyData.eqv z (toP d)) = true ↔ _
        rw [List.any_cons, Bool.or_eq_true, ih h'.2, eqv_iff h'.1 hd, List.mem_cons]
        constructor
        · rintro (e | e)
          · exact .inl e.symm
          · exact .inr e
        · rintro (e | e)
          · exact .inl e.symm
          · exact .inr e
    have e : ((toPs l).any fun z => PyData.eqv z (toP d)) = k := by
      rw [Bool.eq_iff_iff, key l hl, hk]
    rw [e]; exact hq
end
end T

/-! T: o[i] += e; ranges from their end. -/
namespace T
open PySem PySem.Spec PyProof.Rows L2
section
variable {X : Cx} {W : L2.WX}
/-- x[i], x a list -/
def rGet2 : R22 := fun d e M Q => match d, e with
  | .loc a, .int i => ∃ l f, M a = some (.lst l) ∧ atI l i = some f ∧ Q f M
  | _, _ => False
theorem p_get : PGet X (lfR X.K rGet2) := by
  intro pins s σ H o i ov iv Q I ro ri ⟨d, e, M, Q', rd, re, sm, h, hq⟩
  cases d with
  | loc a =>
    cases e with
    | int k =>
      cases rd; cases re
      obtain ⟨l, f, e1, e2, q⟩ := h
      cases ro
      obtain ⟨t, rfl⟩ := ri
      obtain ⟨ys, hy, ry⟩ := sm a _ e1
      obtain ⟨z, e3, rz⟩ := atI_rep ry e2
      obtain ⟨its, r, pl, hz⟩ := I.list (.inl (.inl hy))
      obtain ⟨j, h1, h2, h3, h4, h5⟩ := atI_get e3
      obtain ⟨w, ew, rw'⟩ := r.get h2
      have hl := r.length
      have hn := line63
      have fin : EP X pins σ Q w s := ⟨z, H, I, rw', hq f M z H Tx.refl rz sm q⟩
      by_cases h0 : 0 ≤ k
      · have hj : k.toNat = j := by
          rw [seqIndex_of h0 h5] at h1
          exact Option.some.inj h1
        exact wpAny_getItem_list pl.isList h0 (by omega) (by rw [hj]; simpa using ew) fin
      · have hj : (k + (its.toArray.size : Int)).toNat = j := by
          rw [seqIndex_neg (by omega) h4] at h1
          rw [List.size_toArray, ← hl]
          exact Option.some.inj h1
        exact wpAny_getItem_list_neg pl.isList (by omega) (by rw [List.size_toArray] <;> omega) (by omega) (by rw [hj]; simpa using ew) fin
    | _ => exact h.elim
  | _ => cases e <;> exact h.elim

/-- o[i] op= e, o a list -/
def sAuS (r : R22) (to ti te : TE2) : TS2 := fun D σ M => to σ M (fun o M1 => ti σ M1 (fun i M2 => rGet2 o i M2 fun x M3 => te σ M3 (fun y M4 => r x y M4 fun z M5 => rPut2 o i z M5 fun M6 => D.nx σ M6) (D.xx σ)) (D.xx σ)) (D.xx σ)
variable {o i e : Expr} {to ti te : TE2} {op : Operator} {r : R22} {tpos pos : Pos}
theorem qs_augS (hu : X.A.units + 1 < cLine) (ho : QE X W o to) (hi : QE X W i ti) (he : QE X W e te) (hp : PIp X op (lfR X.K r))
    (ha : ∀ ov iv new, augStore i ov iv new = (do holding [new, ov, iv] (setItem ov iv new); release [new, ov, iv] []; pure .next) := by intros; rfl) : QS X W (.AugAssign (.Subscript o i tpos) op e pos) (sAuS r to ti te) :=
  ps_weak (ps_augS ho hi p_get he hp (p_set hu) ha) fun D σ H ⟨σ', M, D', hs, hm, q, L⟩ =>
  ⟨σ', M, _, _, hs, hm, q, fun d M1 x H1 t1 r1 s1 q1 => ⟨σ', M1, _, _, hs.mono t1, s1, q1, fun f M2 y H2 t2 r2 s2 q2 =>
    ⟨d, f, M2, _, r1.mono t2, r2, s2, q2, fun g M3 z H3 t3 r3 s3 q3 => ⟨σ', M3, _, _, ((hs.mono t1).mono t2).mono t3, s3, q3, fun u M4 w H4 t4 r4 s4 q4 =>
      ⟨g, u, M4, _, r3.mono t4, r4, s4, q4, fun k M5 v H5 t5 r5 s5 q5 =>
        ⟨d, f, k, M5, _, (((r1.mono t2).mono t3).mono t4).mono t5, ((r2.mono t3).mono t4).mono t5, r5, s5, q5, fun M6 H6 t6 s6 q6 =>
          L.nx σ' M6 σ H6 (((((t1.trans t2).trans t3).trans t4).trans t5).trans t6) ((((((hs.mono t1).mono t2).mono t3).mono t4).mono t5).mono t6) s6 q6⟩⟩,
      ((L.mono (t1.trans (t2.trans t3))).x (((hs.mono t1).mono t2).mono t3))⟩⟩, (L.mono t1).x (hs.mono t1)⟩, L.x hs⟩
/-- the numbers below n, from the last to the first -/
def downT (n : Nat) : List Tr := (List.range n).map fun k => Tr.int ((n - 1 - k : Nat) : Int)
theorem downT_len {n : Nat} : (downT n).length = n := by simp [downT]
theorem downT_at {n k : Nat} (h : k < n) : (downT n)[k]? = some (.int ((n - 1 - k : Nat) : Int)) := by
  unfold downT
  rw [List.getElem?_map, List.getElem?_range h]; rfl
theorem down_rgC {j : Int} : rgC (0 + (((j - 0).toNat : Nat) : Int) - 1) (-1) (j - 0).toNat = downT j.toNat := by
  unfold rgC downT
  rw [Int.sub_zero]
  refine List.map_congr_left fun k hk => ?_
  have : k < j.toNat := by simpa using hk
  congr 1
  omega
def iRr (te : TE2) : TI2 := fun σ M R E => te σ M (fun d M1 => ∃ j, d = .int j ∧ Rg j ∧ R (itL (downT j.toNat) fun _ => True) M1) E
variable {tg : Expr} {p p2 pos2 : Pos}
theorem qi_revR (hm2 : X.mg "range" = none) (hm : X.mg "reversed" = none) (he : QE X W e te) (hg2 : Gl X "range" := by rfl) (hg : Gl X "reversed" := by rfl) (na : starEach [e] X.env = (false, eval e X.env) :: starEach [] X.env := by rfl)
    (hs : starEach [.Call (.Name "range" p2) [e] [] pos2] X.env = (false, eval (.Call (.Name "range" p2) [e] [] pos2) X.env) :: starEach [] X.env := by rfl) :
    QI X W tg (.Call (.Name "reversed" p) [.Call (.Name "range" p2) [e] [] pos2] [] pos) (iRr te) :=
  pi_weak (pi_revR hg hm (prg_1 hg2 hm2 he na) hs) fun σ H R ⟨σ', M, R', E', hs, hm, q, hq, hx⟩ =>
  ⟨σ', M, _, E', hs, hm, q, fun d M1 x H1 t1 r1 s1 ⟨j, ed, hj, q1⟩ => by
    subst ed
    cases r1
    exact ⟨j, rfl, by decide, by decide, hj.1, hj.2, hq (itL (rgC (0 + (((j - 0).toNat : Nat) : Int) - 1) (-1) (j - 0).toNat) fun _ => True) M1 _ H1 t1 s1 itc_ok (by rw [down_rgC]; exact q1)⟩, hx⟩
@[simp ↓] theorem iRr_ap {σ : St2} {M : Ms} {R : It2 → Ms → Prop} {E : X2} : iRr te σ M R E = te σ M (fun d M1 => kI d fun j => Rg j ∧ R (itL (downT j.toNat) fun _ => True) M1) E := by
  unfold iRr
  congr 1
  funext d M1
  apply propext
  constructor
  · rintro ⟨j, rfl, h⟩; exact h
  · intro h
    cases d with
    | int j => exact ⟨j, rfl, h⟩
    | _ => exact h.elim
@[simp ↓] theorem rGet2_ap {a : Addr} {k : Int} {M : Ms} {Q : Q2} : rGet2 (.loc a) (.int k) M Q = kS (.loc a) M fun l => kAt l k fun f => Q f M := by
  rw [← rIx2_loc]
  apply propext
  constructor
  · rintro ⟨l, f, h1, h2, h3⟩
    exact ⟨l, f, seqT_lst h1, h2, h3⟩
  · rintro ⟨l, f, h1, h2, h3⟩
    exact ⟨l, f, seqT_loc h1, h2, h3⟩
@[simp ↓] theorem sAuS_ap {D : Ends2} {σ : St2} {M : Ms} : sAuS r to ti te D σ M = to σ M (fun o M1 => ti σ M1 (fun i M2 => rGet2 o i M2 fun x M3 => te σ M3 (fun y M4 => r x y M4 fun z M5 => rPut2 o i z M5 fun M6 => D.nx σ M6) (D.xx σ)) (D.xx σ)) (D.xx σ) := rfl
/-! texts: find, index, count -/
def rFind2 : RM2 := fun d ds M Q => match d, ds with
  | .str a, [.str b] => Q (.int (Txt.find a b)) M
  | _, _ => False
def rCnt2 : RM2 := fun d ds M Q => match d, ds with
  | .str a, [.str b] => Q (.int (Txt.count a b)) M
  | _, _ => False
def rSIdx2 : RM2 := fun d ds M Q => match d, ds with
  | .str a, [.str b] => ∃ i rest, Builtin.Str.occurrences a b 0 a.length 1 = i :: rest ∧ Q (.int (i : Nat)) M
  | _, _ => False
theorem strs2 {K : PySem.W.Frag} {H : Hp} {d : Tr} {ds : List Tr} {x : V} {xs : List V} {P : Str → Str → Prop} (h : match d, ds with | .str a, [.str b] => P a b | _, _ => False) (rd : Rep K H d x) (rds : RepL K H ds xs) : ∃ a b, x = .str a ∧ xs = [.str b] ∧ P a b := by
  cases d with
  | str a =>
    match ds, h, rds with
    | [.str b], h, rds =>
      cases rd
      obtain ⟨y, rfl, r1⟩ := one_of rds
      cases r1
      exact ⟨a, b, rfl, rfl, h⟩
  | _ => exact h.elim
theorem m_find : MtR X "str.find" (lfM X.K rFind2) := by
  intro pins s σ H x xs v us Q I rx rs ⟨d, ds, M, Q', rd, rds, sm, h, hq⟩
  obtain ⟨a, b, rfl, rfl, q⟩ := strs2 (P := fun a b => Q' (.int (Txt.find a b)) M) h rd rds
  exact mt_find pins s σ H _ _ v us Q I rx rs ⟨a, b, rfl, rfl, hq (.int _) M _ H Tx.refl rfl sm q⟩
theorem m_count : MtR X "str.count" (lfM X.K rCnt2) := by
  intro pins s σ H x xs v us Q I rx rs ⟨d, ds, M, Q', rd, rds, sm, h, hq⟩
  obtain ⟨a, b, rfl, rfl, q⟩ := strs2 (P := fun a b => Q' (.int (Txt.count a b)) M) h rd rds
  exact mt_count pins s σ H _ _ v us Q I rx rs ⟨a, b, rfl, rfl, hq (.int _) M _ H Tx.refl rfl sm q⟩
theorem m_sindex : MtR X "str.index" (lfM X.K rSIdx2) := by
  intro pins s σ H x xs v us Q I rx rs ⟨d, ds, M, Q', rd, rds, sm, h, hq⟩
  obtain ⟨a, b, rfl, rfl, i, rest, e, q⟩ := strs2 (P := fun a b => ∃ i rest, Builtin.Str.occurrences a b 0 a.length 1 = i :: rest ∧ Q' (.int (i : Nat)) M) h rd rds
  exact mt_sindex pins s σ H _ _ v us Q I rx rs ⟨a, b, i, rest, rfl, rfl, e, hq (.int _) M _ H Tx.refl rfl sm q⟩
@[simp ↓] theorem rFind2_ap {a b : Str} {M : Ms} {Q : Q2} : rFind2 (.str a) [.str b] M Q = Q (.int (Txt.find a b)) M := rfl
@[simp ↓] theorem rCnt2_ap {a b : Str} {M : Ms} {Q : Q2} : rCnt2 (.str a) [.str b] M Q = Q (.int (Txt.count a b)) M := rfl
@[simp ↓] theorem rSIdx2_ap {a b : Str} {M : Ms} {Q : Q2} : rSIdx2 (.str a) [.str b] M Q = ∃ i rest, Builtin.Str.occurrences a b 0 a.length 1 = i :: rest ∧ Q (.int (i : Nat)) M := rfl
/-! less, of numbers or of texts -/
def rLtX : R22 := fun d e M Q => match d, e with
  | .int i, .int j => Q (.bl (decide (i < j))) M
  | .str a, .str b => Q (.bl (decide (a.cps.toList < b.cps.toList))) M
  | _, _ => False
theorem o_ltX : OpR X (compareOp .Lt) (lfR X.K rLtX) := by
  intro pins s σ H x y v u Q I rx ry ⟨d, e, M, Q', rd, re, sm, q, hq⟩
  cases d with
  | int i =>
    cases e with
    | int j =>
      cases rd; cases re
      exact op_lt pins s σ H _ _ v u Q I rx ry ⟨i, j, rfl, rfl, hq (.bl _) M _ H Tx.refl rfl sm q⟩
    | _ => exact q.elim
  | str i =>
    cases e with
    | str j =>
      cases rd; cases re
      exact op_lt_str pins s σ H _ _ v u Q I rx ry ⟨i, j, rfl, rfl, hq (.bl _) M _ H Tx.refl rfl sm q⟩
    | _ => exact q.elim
  | _ => cases e <;> exact q.elim
@[simp ↓] theorem rLtX_int {i j : Int} {M : Ms} {Q : Q2} : rLtX (.int i) (.int j) M Q = Q (.bl (decide (i < j))) M := rfl
@[simp ↓] theorem rLtX_str {a b : Str} {M : Ms} {Q : Q2} : rLtX (.str a) (.str b) M Q = Q (.bl (decide (a.cps.toList < b.cps.toList))) M := rfl
end
end T

/-! T: list(text). -/
namespace PySem.TStr
open PySem PySem.Spec PySem.Calls PyProof.Rows
section
variable {prog : Program} {w : World} {A : Around} {E : Value → Shared → Prop} {s : Shared}
theorem hint_str {x : Str} {t : Tok} {Q : Bool → Shared → Prop} (h : Q false s) : wpAny (model prog w) A (Builtin.List.listLengthHint (.str x t)) Q E s := by
  unfold Builtin.List.listLengthHint
  refine wpAny_bind (wpAny_specialOf (T := "str") (v := .str x t) rfl F.str_len ?_)
  wp_delta
  refine wpAny_bind (wpAny_isInstance (T := "str") (v := .str x t) (b := true) rfl (by rw [isSubtype_type]; kernel_rfl) ?_)
  show wpAny _ A (typeOf (Value.str x t) >>= _) _ _ _
  refine wpAny_bind (wpAny_typeOf (T := "str") (v := .str x t) rfl ?_)
  exact wpAny_pure h
theorem extend_str {R : Result → Shared → Prop} (hh : A.handled = none) (x : Str) (t : Tok) (S : Addr) (res : Value) (c₀ : Nat) (hS : s.heap.get? S = some { cls := .type "list", data := .seq #[] c₀ })
    (hR : ∀ h' tk acc' c', (∀ b o, b ≠ S → s.heap.get? b = some o → h'.get? b = some o) → h'.get? S = some { cls := .type "list", dict := none, data := .seq acc' c', slots := #[] } →
      ItemsOf (SignAt x) acc' x.cps.size → R (.ok (.ret res)) { s with heap := h', toks := tk }) (hn : x.cps.size ≤ sizeLine) :
    wpAny (model prog w) A.in1 (Builtin.List.listExtendWith (.ref S) (.str x t) res)
      (fun fin s' => match fin with | .done f => R (.ok f) s' | .again c' => c'.quiet = true ∧ codeAny (model prog w) A c' R s') (fun e s' => R (.error e) s') s := by
  have hSI : S ≠ s.heap.objs.size := Nat.ne_of_lt (Heap.lt_size hS)
  have hSf : S ∉ [s.heap.objs.size] := fun hm => hSI (List.mem_singleton.mp hm)
  unfold Builtin.List.listExtendWith
  refine wpAny_bind (wpAny_typeOf (T := "str") (v := .str x t) rfl ?_)
  have h1 : Builtin.List.listSameRef (.ref S) (.str x t) = false := rfl
  have h2 : (Value.type "str" == Value.type "list") = false := by decide
  have h3 : (Value.type "str" == Value.type "tuple") = false := by decide
  simp only [h1, h2, h3, Bool.or_false, Bool.false_eq_true, if_false]
  refine wpAny_bind (wpAny_pyIter_str fun o St W hst => ?_)
  refine wpAny_bind (wpAny_holding (hint_str ?_))
  rw [if_neg (by decide)]
  refine wpAny_pure ⟨plainId_quiet F.plain_extend_loop _, codeAny_extend_loopS (W A.in1 hh).toS hn _ hSf _ x.cps.size 0 _ _ _ rfl (Nat.zero_le _) hst (Heap.get?_push_of_some _ hS) (ItemsOf.nil _) fun s' acc' c' hm hS' hacc => ?_⟩
  rw [Moved.eq_with hm]
  refine hR s'.heap s'.toks acc' c' (fun b ob hb e => hm.heap b ob (fun hmem => ?_) (Heap.get?_push_of_some _ e)) hS' hacc
  rcases List.mem_cons.mp hmem with e' | hmem
  · exact hb e'
  · exact absurd (Heap.lt_size e) (by rw [List.mem_singleton.mp hmem]; exact Nat.lt_irrefl _)
theorem list_init_str {R : Result → Shared → Prop} (hh : A.handled = none) (x : Str) (t : Tok) (S : Addr) (hS : s.heap.get? S = some { cls := .type "list", data := .seq #[] })
    (hR : ∀ h' tk acc' c', (∀ b o, b ≠ S → s.heap.get? b = some o → h'.get? b = some o) → h'.get? S = some { cls := .type "list", dict := none, data := .seq acc' c', slots := #[] } →
      ItemsOf (SignAt x) acc' x.cps.size → R (.ok (.ret .none)) { s with heap := h', toks := tk }) (hn : x.cps.size ≤ sizeLine) :
    wpAny (model prog w) A.in1 (Builtin.«list.__init__» ⟨[.ref S, .str x t], []⟩)
      (fun fin s' => match fin with | .done f => R (.ok f) s' | .again c' => c'.quiet = true ∧ codeAny (model prog w) A c' R s') (fun e s' => R (.error e) s') s := by
  show wpAny _ _ (do let old ← Builtin.List.listItems (.ref S); Builtin.List.listUpdate (.ref S) (fun _ => #[]); letGo old.toList.reverse; Builtin.List.listExtendWith (.ref S) (.str x t) .none) _ _ s
  refine wpAny_bind ?_
  unfold Builtin.List.listItems
  refine wpAny_bind (wpAny_seqItems hS rfl (wpAny_pure ?_))
  show wpAny _ _ (updateSeq S (fun _ => #[]) >>= fun _ => letGo (#[] : Array Value).toList.reverse >>= fun _ => Builtin.List.listExtendWith (.ref S) (.str x t) .none) _ _ s
  refine wpAny_bind (wpAny_updateSeq hS rfl ?_)
  have hS₂ := Heap.get?_update_self (Obj.mapSeq (fun _ => (#[] : Array Value))) hS rfl
  have oth : ∀ b o, b ≠ S → s.heap.get? b = some o → (s.heap.update S (Obj.mapSeq (fun _ => (#[] : Array Value)))).get? b = some o :=
    fun b o hb e => (Heap.get?_update_other _ _ (Ne.symm hb)).trans e
  refine wpAny_bind (wpAny_letGo ?_)
  refine extend_str hh x t S .none _ hS₂ (fun h' tk acc' c' hk hS' hacc => ?_) hn
  exact hR h' tk acc' c' (fun b o hb e => hk b o hb (oth b o hb e)) hS' hacc
theorem call_list_str {x : Str} {t : Tok} {Q : Value → Shared → Prop} (hh : A.handled = none) (hn : x.cps.size ≤ sizeLine)
    (hQ : ∀ h' tk acc' c', (∀ b o, s.heap.get? b = some o → h'.get? b = some o) →
      h'.get? s.heap.objs.size = some { cls := .type "list", dict := none, data := .seq acc' c', slots := #[] } → ItemsOf (SignAt x) acc' x.cps.size → Q (.ref s.heap.objs.size) { s with heap := h', toks := tk }) :
    wpAny (model prog w) A (call (.type "list") [.str x t]) Q E s := by
  refine callType_codes (Q₁ := fun obj s₁ => obj = .ref s.heap.objs.size ∧ s₁ = { s with heap := s.heap.push { cls := .type "list", data := .seq #[] } }) PySem.F.called_list (PySem.F.typeCall_list_1 _) PySem.F.entry_list_init
    (code_list_new _ ⟨rfl, rfl⟩) fun obj s₁ h₁ => ?_
  obtain ⟨rfl, rfl⟩ := h₁
  have hS : (s.heap.push { cls := .type "list", data := .seq #[] }).get? s.heap.objs.size = some { cls := .type "list", data := .seq #[] } := Heap.get?_push_size _ rfl
  refine ⟨⟨_, hS, rfl⟩, PySem.F.args_list_init_2 _ _, list_init_str (A := A.in1) hh x t _ hS (fun h' tk acc' c' hk hS' hacc => ?_) hn⟩
  exact ⟨rfl, hQ h' tk acc' c' (fun b o e => hk b o (Nat.ne_of_lt (Heap.lt_size e)) (Heap.get?_push_of_some _ e)) hS' hacc⟩
end
end PySem.TStr
namespace T
open PySem PySem.Spec PyProof.Rows L2
section
variable {X : Cx}
def chrsT (z : Str) : List Tr := z.cps.toList.map fun c => Tr.str ⟨#[c]⟩
/-- list(x), x a list, a tuple or a text -/
def rList3 : RC2 := c1 fun d M Q => match d with
  | .str z => z.length ≤ sizeLine ∧ ∀ p, M p = none → Q (.loc p) (up M p (.lst (chrsT z)))
  | d => ∃ ds, seqT d M = some ds ∧ ∀ p, M p = none → Q (.loc p) (up M p (.lst ds))
theorem chrs_rep {K : PySem.W.Frag} {H : Hp} : ∀ l : List Nat, RepL K H (l.map fun c => Tr.str ⟨#[c]⟩) (l.map fun c => V.str ⟨#[c]⟩)
  | [] => rfl
  | _ :: r => ⟨_, _, rfl, rfl, chrs_rep r⟩
theorem b_list3 (hc : X.calm = true) : CallR X (.type "list") (lfC X.K rList3) := c1_of fun pins s σ H x u Q d M Q' I rx rd sm q hq => by
  cases d with
  | str z =>
    obtain ⟨hz, q⟩ := q
    cases rd
    obtain ⟨t, rfl⟩ := rx
    have fr : H s.heap.objs.size = none := I.hok.fresh (Nat.le_refl _)
    refine PySem.TStr.call_list_str (I.ok.hd hc) hz fun h' tk acc c' hk e hi => ?_
    have hl : (z.cps.toList.map fun c => V.str ⟨#[c]⟩).length = z.cps.size := by simp
    refine ⟨.ref s.heap.objs.size, upd H s.heap.objs.size (.lst (z.cps.toList.map fun c => V.str ⟨#[c]⟩)), I.laid hk (Nat.le_refl _) ⟨by rw [hl]; exact hz, acc.toList, c', ?_, by rw [Array.toArray_toList]; exact e⟩, rfl, new_lst hq (chrs_rep _) sm fr (q)⟩
    refine vals_of_idx _ _ (by rw [hl, Array.length_toList]; exact hi.1) fun j u hj => ?_
    obtain ⟨c, t', hc, rfl⟩ := hi.2 j u (by rw [← Array.getElem?_toList]; exact hj)
    refine ⟨.str ⟨#[c]⟩, ?_, ⟨_, rfl⟩⟩
    rw [List.getElem?_map, Array.getElem?_toList, hc]; rfl
  | _ =>
    obtain ⟨ds, e, q⟩ := q
    obtain ⟨a, xs, rfl, sq, rl⟩ := seqT_ok e rd sm
    exact call_list_of pins s σ H [.ref a] [u] Q I (.cons rx .nil) ⟨a, xs, rfl, sq, fun l hl => new_lst hq rl sm hl q⟩
@[simp ↓] theorem rList3_str {z : Str} {M : Ms} {Q : Q2} : rList3 [.str z] M Q = (z.length ≤ sizeLine ∧ NewL M (chrsT z) Q .mk) := rfl
/-! a tuple's repetition, up to a million -/
def rRepW (K : PySem.W.Frag) : R2 := fun x y H Q => ∃ l k xs, x = .ref l ∧ y = .int k ∧ SqT K H l xs ∧ 0 < xs.length ∧ xs.length ≤ 8 ∧ 2 ≤ k ∧ k ≤ 1000000 ∧ ∀ p, H p = none → Q (.ref p) (upd H p (.tup (List.replicate k.toNat xs).flatten))
theorem op_repW : OpR X (binaryOp .Mult) (rRepW X.K) := by
  rintro pins s σ H x y v u Q I rx ry ⟨l, k, xs, rfl, rfl, hT, hx0, hx8, hk2, hkm, q⟩
  cases rx
  obtain ⟨t, rfl⟩ := ry
  obtain ⟨its, r, ⟨⟨cls, dd, data, sl⟩, ho, hc, n, hd⟩, hs⟩ := I.tuple hT
  dsimp only at hc hd
  subst hc hd
  have hl : its.length = xs.length := r.length.symm
  obtain ⟨v0, its', rfl⟩ : ∃ v0 its', its = v0 :: its' := by
    cases its with
    | nil => simp at hl; omega
    | cons a b => exact ⟨a, b, rfl⟩
  have hsz : (v0 :: its').toArray.size = xs.length := by rw [List.size_toArray, hl]
  have hbig : (List.replicate k.toNat (v0 :: its')).flatten.length ≤ sizeLine := by
    rw [PyProof.Rows.lm_len_rep_flat, hl, sizeLine_eq]
    have : k.toNat * xs.length ≤ 1000000 * 8 := Nat.mul_le_mul (by omega) hx8
    omega
  have hprod : ((xs.length : Nat) : Int) * k ≤ 8000000 := by
    have : ((xs.length : Nat) : Int) * k ≤ 8 * k := Int.mul_le_mul_of_nonneg_right (by omega) (by omega)
    omega
  have M := tuple_mulW l (v0 :: its').toArray n dd sl k t (by simp; omega) (by simp; omega) (by simp; omega) (by rw [hsz]; omega) (by unfold Builtin.Tuple.tupleTooMany; rw [hsz, sizeLine_eq]; exact decide_eq_false (by omega)) (by rw [size_rep, List.size_toArray]; exact hbig)
  refine wpAny_binaryOp_repeat_ref (T := "tuple") (U := "int") (by decide) ⟨_, ho, rfl⟩ (fun s' => typeIs_int s' k t) noFill_tuple_mul PySem.F.fills_int_mul PySem.F.slot_int_rmul repeat_tuple PySem.F.slot_int_index.lookup ?_
  refine call_meets PySem.F.slot_int_rmul (typeIs_int s k t) PySem.F.entry_int_rmul (PySem.F.args_int_rmul_2 _ _) (int_rmul_tuple k t l _ n dd sl) ⟨ho, rfl, ⟨_, ho, rfl⟩, ?_⟩
  refine call_meets PySem.F.slot_tuple_mul ⟨_, ho, rfl⟩ PySem.F.entry_tuple_mul (PySem.F.args_tuple_mul_2 _ _) M ⟨ho, ?_⟩
  rw [size_rep]
  refine ⟨.ref s.heap.objs.size, _, I.laid (t' := s.toks) (o := .tup (List.replicate k.toNat xs).flatten) (fun b ob q => Heap.get?_push_of_some _ q) (Nat.le_refl _) ⟨?_, _, r.rep k.toNat, IsTup.new _ _⟩, rfl, q _ (I.hok.fresh (Nat.le_refl _))⟩
  have e1 := PyProof.Rows.lm_len_rep_flat (v0 :: its') k.toNat
  have e2 := PyProof.Rows.lm_len_rep_flat xs k.toNat
  rw [e2, ← hl, ← e1]; exact hbig
def rMulT : R22 := fun d e M Q => match d, e with
  | .tup la, .int k => 0 < la.length ∧ la.length ≤ 8 ∧ 2 ≤ k ∧ k ≤ 1000000 ∧ Q (.tup (List.replicate k.toNat la).flatten) M
  | _, _ => False
theorem o_mulT : OpR X (binaryOp .Mult) (lfR X.K rMulT) := by
  rintro pins s σ H x y v u Q I rx ry ⟨d, e, M, Q', rd, re, sm, q, hq⟩
  cases d with
  | tup la =>
    cases e with
    | int k =>
      obtain ⟨a, xs, rfl, sq, rl⟩ := rd
      cases re
      obtain ⟨h1, h2, h3, h4, q⟩ := q
      exact op_repW pins s σ H _ _ v u Q I rx ry ⟨a, k, xs, rfl, rfl, sq, by rw [← rl.len]; exact h1, by rw [← rl.len]; exact h2, h3, h4, fun p hp => new_tup hq (rl.rep _) sm hp q⟩
    | _ => exact q.elim
  | _ => cases e <;> exact q.elim
@[simp ↓] theorem rMulT_ap {la : List Tr} {k : Int} {M : Ms} {Q : Q2} : rMulT (.tup la) (.int k) M Q = (0 < la.length ∧ la.length ≤ 8 ∧ 2 ≤ k ∧ k ≤ 1000000 ∧ Q (.tup (List.replicate k.toNat la).flatten) M) := rfl
end
end T

/-! T: errors that are caught become values of the store. -/
namespace T
open PySem PySem.Spec PyProof.Rows L2
theorem exT_ok {P : Program} {w : World} {H : Hp} {h : Heap} {a : Addr} {cls : Value} {d : Option Addr} {oe : Obj} {vs : Array Value} (e : h.get? a = some oe) (z : Zc cls d oe) (hd : oe.data = .fields vs) : ObjOk P w H h a (exT cls d a) :=
  ⟨⟨oe, vs, e, z, hd⟩, ⟨oe, e⟩, fun _ _ ⟨o, v, q, r⟩ k => ⟨o, v, k o q, r⟩⟩
section
variable {X : Cx} {pins : List (Addr × Obj)} {σ : L2.St} {H : Hp} {s : Shared}
/-- an object of fields that was not there at the entry is tracked from now on -/
theorem inv_track {a : Addr} {o : HO} {oe : Obj} {vs : Array Value} (I : L2.Inv X pins σ H s) (h0 : X.s_0.heap.get? a = none) (na : H a = none) (nL : a ≠ X.env.locals) (he : s.heap.get? a = some oe) (hd : oe.data = .fields vs) (nP : ∀ p ∈ X.pn ++ pins, p.1 ≠ a)
    (new : ObjOk X.prog X.w (upd H a o) s.heap a o) : L2.Inv X pins σ (upd H a o) s := by
  have n0 : ∀ b u, X.s_0.heap.get? b = some u → b ≠ a := fun b u e z => by rw [z, h0] at e; cases e
  have nC : ∀ x c, X.env.cells.lookup x = some c → c ≠ a := fun x c e z => by
    obtain ⟨v, ob, ho, hv⟩ := I.cell x c e
    rw [z, he] at ho
    cases ho
    rw [hd] at hv
    cases hv
  have ne : ∀ b u, H b = some u → b ≠ a := fun b u e => ne_of_none e na
  refine ⟨I.ok, I.os, I.bare, ⟨I.base.keep, I.base.slot, fun b u e n hx => ?_, I.base.there, fun b xs e => ?_, fun b u v e => ?_, fun b ps e => ?_⟩, I.loc, I.cell, ?_, fun x c e => ?_, fun p hp => ?_, fun b u e => ?_, I.len⟩
  · rw [upd_ne (n0 b u e)]; exact I.base.free b u e n hx
  · have q := I.base.tups b xs e
    rw [upd_ne (ne b _ q)]; exact q
  · have q := I.base.frzs b u v e
    rw [upd_ne (ne b _ q)]; exact q
  · obtain ⟨m, q⟩ := I.base.tbls b ps e
    exact ⟨m, by rw [upd_ne (ne b _ q)]; exact q⟩
  · rw [upd_ne nL.symm]; exact I.free
  · rw [upd_ne (nC x c e)]; exact I.freeC x c e
  · obtain ⟨e1, e2, e3, e4, e5⟩ := I.pin p hp
    exact ⟨e1, by rw [upd_ne (nP p hp)]; exact e2, e3, e4, e5⟩
  · by_cases hb : b = a
    · subst hb
      rw [upd_same] at e
      cases e
      exact new
    · rw [upd_ne hb] at e
      exact (I.hok b u e).stay (fun c v _ q => q) (fun c q => by rw [upd_ne (ne_of_none q na)]; exact q) fun c xs q => by rw [upd_ne (ne_of_none q na)]; exact q
end
/-- what the clause 'except x as n' wishes: the error stands in slot i, tracked -/
def wAsT (K : PySem.W.Frag) (c : Value) (i : Nat) (ts : TS) (Wout : L2.WX) (D : L2.Ends) : L2.WX := fun cls d σ H =>
  ∃ b, PySem.W.exmOne K cls c = some b ∧ (b = true → ∀ a, H a = none → ts { nx := fun σ' H' => D.nx (σ'.set i none) H', rt := D.rt, bk := fun σ' H' => D.bk (σ'.set i none) H', ct := fun σ' H' => D.ct (σ'.set i none) H' } (σ.set i (some (.ref a))) (upd H a (exT cls d a))) ∧
    (b = false → Wout cls d σ H)
section
variable {X : Cx} {x n : Str} {c : Value} {i : Nat} {body suite : List Stmt} {b₀ : Stmt} {np pos pos' : Pos} {tb : L2.WX → TS} {ts : TS} {Wout : L2.WX}
theorem ps_try_asT (hex : X.ex = []) (hs : X.stack = X.env :: X.outer) (hf : X.env.frame = some X.env.locals) (hN : X.N.Nodup) (hi : X.N[i]? = some n) (hln : X.env.kindOf n = some .local) (hc : Names X x c) (tk : Takes X Wout)
    (hb : ∀ (W : L2.WX) (pn : List (Addr × Obj)) (xe : Value → Shared → Prop), Takes (X.tr pn xe) W → PassesOwn (model X.prog X.w) X.A X.env xe → PSs (X.tr pn xe) body (tb W))
    (hsu : ∀ (a : Addr) (pn : List (Addr × Obj)), PSs (X.suite a pn) (b₀ :: suite) ts) :
    PS X (.Try body [.ExceptHandler (some (.Name x np)) (some n) (b₀ :: suite) pos'] [] [] pos) (fun D σ H => tb (wAsT X.K c i ts Wout D) D σ H) := by
  refine ⟨fun pins s σ H D I h => ?_⟩
  have ok := I.ok
  have hfr : X.A.frames = some (X.env :: X.outer) := by rw [ok.frames, hs]
  have hloc : Loc X.env.scope n := .inl hln
  refine wpAny_Try_except (wpAny_mono ((hb (wAsT X.K c i ts Wout D) (X.pn ++ pins) (fun e s₁ => wpAny (model X.prog X.w) X.A (noteFrame e X.env) (fun _ s₂ => wpAny (model X.prog X.w) X.A (setFlight e none) (fun _ s₃ =>
    wpAny (model X.prog X.w) X.A (handleBy e X.env [.ExceptHandler (some (.Name x np)) (some n) (b₀ :: suite) pos']) (SP X pins D) X.xe s₃) X.xe s₂) X.xe s₁) (fun u s' xx => ?_) PassesOwn.looking).run [] s σ H D (I.toTry _) h) (fun f s1 hsp => ?_) (fun e s1 he => he))
  · obtain ⟨a, B, sI, pins', σ', H', cls, d, rfl, J', nb, up, sky, na, os, ag, b, hb1, hyes, hno⟩ := xx
    have J : L2.Inv X pins σ' H' sI := J'.ofTry ok
    rw [hs] at sky
    show wpAny (model X.prog X.w) X.A (noteFrame (.ref a) X.env) _ _ _
    refine Sky.land Zc.steady hfr hf sky fun h3 fl3 up3 => ?_
    have J3 : L2.Inv X pins σ' H' { s' with heap := h3 } := J.landed nb fl3.1 (up.trans up3) os ag
    obtain ⟨oe3, vs3, he3, hz3, hd3⟩ := fl3.there
    have nfr : a ∉ frs (X.env :: X.outer) := fun hm => by
      obtain ⟨_, o', e', hnf⟩ := fl3.2.2.1.mem hm
      rw [he3] at e'; cases e'
      exact hnf _ hd3
    have nL : a ≠ X.env.locals := fun z => nfr (List.mem_filterMap.mpr ⟨X.env, List.mem_cons_self, by rw [hf, z]⟩)
    have nF : a ∉ X.fs := fun hm => by
      obtain ⟨e, he, q⟩ := List.mem_filterMap.mp hm
      exact nfr (List.mem_filterMap.mpr ⟨e, List.mem_cons_of_mem _ he, q⟩)
    -- the error is new
    have nI : sI.heap.get? a = none := by
      cases e : sI.heap.get? a with
      | none => rfl
      | some o =>
        have z := nb a o e (by rw [hs]; exact nfr)
        rw [fl3.2.1] at z
        cases z
    have n0 : X.s_0.heap.get? a = none := by
      cases e : X.s_0.heap.get? a with
      | none => rfl
      | some o =>
        obtain ⟨o', z⟩ := J.base.there a o e (by rw [hex]; exact fun z => nomatch z)
        rw [nI] at z
        cases z
    have nP : ∀ p ∈ X.pn ++ pins, p.1 ≠ a := fun p hp z => by
      have := (J.pin p hp).1
      rw [z, nI] at this
      cases this
    have S3 := J3.suite he3 hd3 na nL nF
    refine wpAny_handleBy_cons (codeAny_handlers_test ?_) (by intro q; cases q)
    have LT : PySem.W.Looks (model X.prog X.w) h3 (typeOf (.ref a)) cls := fun A Q E s k q => wpAny_typeOf_ref (k _ _ he3) (by rw [hz3.1]; exact q)
    have LM := PySem.W.exm_one (M := model X.prog X.w) (J3.kIn) LT hb1
    have test : ∀ {Q : Value → Shared → Prop} {E : Value → Shared → Prop}, Q c { s' with heap := h3 } → wpAny (model X.prog X.w) (X.A.mark (some (.ref a))) (eval (.Name x np) X.env) Q E { s' with heap := h3 } := fun {Q E} q => by
      obtain ⟨hg, hdbg, hm | ⟨hm, hv, hnn⟩⟩ := hc
      · exact ld_glob (X := X.suite a ((a, oe3) :: (X.pn ++ pins))) S3 hg hm q hdbg
      · exact ld_blt (X := X.suite a ((a, oe3) :: (X.pn ++ pins))) S3 hg hm hv q hnn hdbg
    refine test (LM.here ?_)
    cases b with
    | true =>
      refine codeAny_handlers_suite_as ?_
      refine HandSPX.lands_againZ fl3 fun h4 fl4 up4 => ?_
      have J4 : L2.Inv X pins σ' H' { s' with heap := h4 } := J.landed nb fl4.1 ((up.trans up3).trans up4) os ag
      obtain ⟨oe4, vs4, he4, hz4, hd4⟩ := fl4.there
      have T4 := inv_track J4 n0 na nL he4 hd4 nP (exT_ok (P := X.prog) (w := X.w) (H := upd H' a (exT cls d a)) he4 hz4 hd4)
      have S4 : L2.Inv (X.suite a (X.pn ++ pins)) [] σ' (upd H' a (exT cls d a)) { s' with heap := h4 } :=
        ⟨ok.suite _ _, T4.os, T4.bare, T4.base, T4.loc, T4.cell, T4.free, T4.freeC, fun p hp => T4.pin p (by rw [List.append_nil] at hp; exact hp), T4.hok, T4.len⟩
      have back : ∀ {σ6 : L2.St} {H6 : Hp} {s6 : Shared}, L2.Inv (X.suite a (X.pn ++ pins)) [] σ6 H6 s6 → L2.Inv X pins σ6 H6 s6 := fun {σ6 H6 s6} S =>
        ⟨ok, S.os, S.bare, S.base, S.loc, S.cell, S.free, S.freeC, fun p hp => S.pin p (List.mem_append_left _ hp), S.hok, S.len⟩
      refine store_ok (X := X.suite a (X.pn ++ pins)) (v := .ref a) S4 hN hi hloc rfl (fun s5 S5 => ?_) (.inr hln)
      refine wpAny_mono ((hsu a (X.pn ++ pins)).run [] s5 _ _ _ S5 (hyes rfl a na)) (fun f s6 hsp => ?_) (fun _ _ z => False.elim z)
      have end_ : ∀ {σ6 : L2.St} {H6 : Hp} {Q : Shared → Prop}, L2.Inv (X.suite a (X.pn ++ pins)) [] σ6 H6 s6 → (∀ s7, L2.Inv X pins (σ6.set i none) H6 s7 → Q s7) →
          wpAny (model X.prog X.w) X.A (do bindName X.env n .none; unbindBehindTheSuite X.env n pos') (fun _ s7 => Q s7) X.xe s6 := fun {σ6 H6 Q} S6 hq => gone_ok (back S6) hN hi hln hq
      cases f with
      | next =>
        obtain ⟨σ6, H6, S6, q6⟩ := hsp
        exact end_ S6 fun s7 J7 => ⟨_, _, J7, q6⟩
      | brk =>
        obtain ⟨σ6, H6, S6, q6⟩ := hsp
        exact end_ S6 fun s7 J7 => ⟨_, _, J7, q6⟩
      | cont =>
        obtain ⟨σ6, H6, S6, q6⟩ := hsp
        exact end_ S6 fun s7 J7 => ⟨_, _, J7, q6⟩
      | ret u =>
        obtain ⟨v6, σ6, H6, S6, r6, q6⟩ := hsp
        exact end_ S6 fun s7 J7 => ⟨_, _, _, J7, r6, q6⟩
    | false =>
      show wpAny _ X.A (handleBy (.ref a) X.env []) _ _ _
      refine wpAny_handleBy_nil ?_
      obtain ⟨k1, k2, k3, oe, vs, T, oT, ts', he, hz, hd, h1, hr⟩ := id fl3
      unfold PySem.passOn
      refine wpAny_bind (wpAny_field he hd h1 ?_)
      rw [if_neg (show ¬ ((Value.ref T == Value.none) = true) from by simp)]
      have fin : wpAny (model X.prog X.w) X.A (setFlight (.ref a) X.env.frame) (fun _ s4 => wpAny (model X.prog X.w) X.A (throw (.ref a) : Sem Flow) (SP X pins D) X.xe s4) X.xe { s' with heap := h3 } := by
        rw [hf]
        refine HandSPX.setFlight_upZ fl3 fun h4 hh4 up4 => wpAny_throw (tk _ _ ?_)
        exact ⟨a, B, sI, pins, σ', H', cls, d, rfl, J, nb, (up.trans up3).trans up4, .inr (.inr (by rw [hs]; exact hh4)), na, os, ag, hno rfl⟩
      first
        | exact wpAny_bind (wpAny_pure (wpAny_bind fin))
        | exact wpAny_bind fin
  · cases f with
    | next =>
      obtain ⟨σ', H', J', q⟩ := hsp
      exact wpAny_execs_nil ⟨σ', H', J'.ofTry ok, q⟩
    | brk =>
      obtain ⟨σ', H', J', q⟩ := hsp
      exact ⟨σ', H', J'.ofTry ok, q⟩
    | cont =>
      obtain ⟨σ', H', J', q⟩ := hsp
      exact ⟨σ', H', J'.ofTry ok, q⟩
    | ret u =>
      obtain ⟨v, σ', H', J', r, q⟩ := hsp
      exact ⟨v, σ', H', J'.ofTry ok, r, q⟩
end
end T

/-! T: errors as values: their classes, isinstance, fields, the clauses of a try, a head with more facts. -/
namespace T
open PySem PySem.Spec PyProof.Rows L2
/-! ### classes of errors, by names -/
structure Cn where
  ad : Str → Addr
  ex : Value → Value → Option Bool
  isx : Value → Value → Option Bool
def Cn.cl (c : Cn) (x : Str) : Value := .ref (c.ad x)
def excB (K : PySem.W.Frag) (D : Addr) : Bool :=
  He.eqO (PySem.W.findIn K (.ref D) "__getattribute__") (some (some (.builtin "BaseException.__getattribute__"))) && (He.eqO (PySem.W.findIn K (.ref D) "__getattr__") (some none) && (decide (PySem.W.subIn K (.ref D) (.type "BaseException") = some true) && (PySem.W.hasDictIn K D &&
    (He.eqO (PySem.W.findIn K (.ref D) "__class__") (some (some (.builtin "object.__class__"))) && (He.eqO (PySem.W.specialIn K (.builtin "object.__class__") "__get__") (some (some (.builtin "getset_descriptor.__get__"))) &&
      (decide (PySem.W.takesIn K (.builtin "object.__class__") = some true) && decide (PySem.W.mroIn K D (.type "object") = some true)))))))
theorem excB_ok {K : PySem.W.Frag} {D : Addr} (h : excB K D = true) : ExcC K D := by
  obtain ⟨h1, h⟩ := He.ba h
  obtain ⟨h2, h⟩ := He.ba h
  obtain ⟨h3, h⟩ := He.ba h
  obtain ⟨h4, h⟩ := He.ba h
  obtain ⟨h5, h⟩ := He.ba h
  obtain ⟨h6, h⟩ := He.ba h
  obtain ⟨h7, h8⟩ := He.ba h
  exact ⟨He.eqO_ok h1, He.eqO_ok h2, of_decide_eq_true h3, h4, He.eqO_ok h5, He.eqO_ok h6, of_decide_eq_true h7, of_decide_eq_true h8⟩
/-- isinstance by classes: of an error of the class t (or of None) and the class c -/
def isxK (K : PySem.W.Frag) (t c : Value) : Option Bool := match t with
  | .ref D => if excB K D = true then PySem.W.kitOne K t c else none
  | _ => PySem.W.kitOne K t c
def cnOf (K : PySem.W.Frag) : Cn := ⟨fun x => He.ga K x, PySem.W.exmOne K, isxK K⟩
theorem cnOf_cl {K : PySem.W.Frag} {x : Str} : (cnOf K).cl x = .ref (He.ga K x) := rfl

/-! ### isinstance of a caught error, of None -/
def isxT (f : Value → Value → Option Bool) (c : Value) (M : Ms) : Tr → Option Bool
  | .non => f (.type "NoneType") c
  | .loc a => (match M a with
    | some (.exc (.ref D) none) => f (.ref D) c
    | _ => none)
  | _ => none
theorem isxT_loc {f : Value → Value → Option Bool} {c : Value} {M : Ms} {a : Addr} {b : Bool} (h : isxT f c M (.loc a) = some b) : ∃ D, M a = some (.exc (.ref D) none) ∧ f (.ref D) c = some b := by
  have e : (match M a with | some (.exc (.ref D) none) => f (.ref D) c | _ => none) = some b := h
  split at e
  · rename_i D q
    exact ⟨D, q, e⟩
  · cases e
theorem isxT_of {f : Value → Value → Option Bool} {c : Value} {M : Ms} {a D : Addr} (h : M a = some (.exc (.ref D) none)) : isxT f c M (.loc a) = f (.ref D) c := by
  show (match M a with | some (.exc (.ref D) none) => f (.ref D) c | _ => none) = _
  rw [h]
def isxC (f : Value → Value → Option Bool) (M : Ms) (d : Tr) : Tr → Option Bool
  | .loc C => isxT f (.ref C) M d
  | .ty n => isxT f (.type n) M d
  | _ => none
def rIsx (f : Value → Value → Option Bool) : RC2 := c2 fun d e M Q => ∃ b, isxC f M d e = some b ∧ Q (.bl b) M
section
variable {X : Cx}
theorem isx_run {pins : List (Addr × Obj)} {σ : L2.St} {H : Hp} {s : Shared} {Q : Value → Shared → Prop} {M : Ms} {d : Tr} {x : V} {u c : Value} {b : Bool} {E : Value → Shared → Prop} {A : Around}
    (I : L2.Inv X pins σ H s) (sm : SimM X.K H M) (rd : Rep X.K H d x) (rx : RelV x u) (e : isxT (isxK X.K) c M d = some b) (h : ∀ tk, Q (.bool b) { s with toks := tk }) : wpAny (model X.prog X.w) A (call (.builtin "isinstance") [u, c]) Q E s := by
  cases d with
  | non =>
    cases rd
    cases (show u = Value.none from rx)
    exact PySem.W.kia_one (PySem.W.kitx_none (K := X.K)) I.kIn True.intro e (fun z => nomatch z) h
  | loc a =>
    cases rd
    cases (show u = Value.ref a from rx)
    obtain ⟨D, ea, e2⟩ := isxT_loc e
    have z : H a = some (exT (.ref D) none a) := sm a _ ea
    obtain ⟨⟨oe, vs, ho, hz, hd⟩, _, _⟩ := (show ObjOk X.prog X.w H s.heap a (exT (.ref D) none a) from I.hok a _ z)
    have e3 : (if excB X.K D = true then PySem.W.kitOne X.K (.ref D) c else none) = some b := e2
    split at e3
    · rename_i hD
      have C := excB_ok hD
      have J : PySem.W.InstAt s.heap a oe D none := by
        obtain ⟨oc, od, oda, osl⟩ := oe
        obtain ⟨h1, h2⟩ := hz
        dsimp only at h1 h2 hd
        subst h1 h2 hd
        exact ⟨ho, rfl, rfl, trivial⟩
      exact PySem.W.kia_one (PySem.W.handS_kitx_exc C.hg C.hk C.hs C.hd C.ha C.hn C.ht C.hm) I.kIn J e3 (fun z => nomatch z) h
    · cases e3
  | _ => cases e
theorem b_isx : CallR X (.builtin "isinstance") (lfC X.K (rIsx (isxK X.K))) := by
  intro pins s σ H xs us Q I rv ⟨ds, M, Q', rd, sm, q, hq⟩
  match ds, q with
  | [d, e], q =>
    obtain ⟨x, y, rfl, r1, r2⟩ := two_of rd
    obtain ⟨b, e1, q⟩ := q
    obtain ⟨u1, u2, rfl, v1, v2⟩ := vals2 rv
    have fin : ∀ tk, (EP X pins σ Q) (.bool b) { s with toks := tk } := fun tk => ⟨.bl b, H, I.tok tk, rfl, hq (.bl _) M _ H Tx.refl rfl sm q⟩
    cases e with
    | loc C =>
      cases r2
      cases (show u2 = Value.ref C from v2)
      exact isx_run I sm r1 v1 e1 fin
    | ty n =>
      cases r2
      cases (show u2 = Value.type n from v2)
      exact isx_run I sm r1 v1 e1 fin
    | _ => cases e1
end
/-- isinstance: one stops here -/
def IsxS (f : Value → Value → Option Bool) (d e : Tr) (M : Ms) (Q : Q2) (_ : Fx Q) : Prop := ∃ b, isxC f M d e = some b ∧ Q (.bl b) M
@[simp ↓] theorem rIsx_ap {f : Value → Value → Option Bool} {d e : Tr} {M : Ms} {Q : Q2} : rIsx f [d, e] M Q = IsxS f d e M Q .mk := rfl
theorem isx_non {cn : Cn} {x : Str} {M : Ms} {Q : Q2} {z : Fx Q} {b : Bool} (h : cn.isx (.type "NoneType") (cn.cl x) = some b) (q : Q (.bl b) M) : IsxS cn.isx .non (.loc (cn.ad x)) M Q z := ⟨b, h, q⟩
theorem isx_nonT {cn : Cn} {n : String} {M : Ms} {Q : Q2} {z : Fx Q} {b : Bool} (h : cn.isx (.type "NoneType") (.type n) = some b) (q : Q (.bl b) M) : IsxS cn.isx .non (.ty n) M Q z := ⟨b, h, q⟩
theorem isx_at {cn : Cn} {x y : Str} {a : Addr} {M : Ms} {Q : Q2} {z : Fx Q} {b : Bool} (e : M a = some (.exc (cn.cl y) none)) (h : cn.isx (cn.cl y) (cn.cl x) = some b) (q : Q (.bl b) M) : IsxS cn.isx (.loc a) (.loc (cn.ad x)) M Q z :=
  ⟨b, (isxT_of e).trans h, q⟩
theorem isx_atT {cn : Cn} {y : Str} {n : String} {a : Addr} {M : Ms} {Q : Q2} {z : Fx Q} {b : Bool} (e : M a = some (.exc (cn.cl y) none)) (h : cn.isx (cn.cl y) (.type n) = some b) (q : Q (.bl b) M) : IsxS cn.isx (.loc a) (.ty n) M Q z :=
  ⟨b, (isxT_of e).trans h, q⟩
/-- a class of the module as a value -/
theorem qe_cls {X : Cx} {W : L2.WX} {pos : Pos} {x : Str} {C : Addr} (hm : X.mg x = some (.ref C)) (hg : Gl X x := by rfl) (hd : (x == ("__debug__" : Str)) = false := by decide) : QE X W (.Name x pos) (eC (.loc C)) :=
  qe_glob (.ref C) (.loc C) hm rfl (fun _ => rfl) hg hd

/-! ### except x as n -/
def sTryAs (ex : Value → Option Bool) (i : Nat) (tb ts : TS2) : TS2 := fun D σ M => tb { D with ex := fun c dd σ1 M1 => ∃ b, ex c = some b ∧
  (b = true → ∀ a, M1 a = none → ts { nx := fun σ' M' => D.nx (σ'.set i none) M', rt := D.rt, bk := fun σ' M' => D.bk (σ'.set i none) M', ct := fun σ' M' => D.ct (σ'.set i none) M', ex := fun _ _ _ _ => False } (σ1.set i (some (.loc a))) (up M1 a (.exc c dd))) ∧ (b = false → D.ex c dd σ1 M1) } σ M
@[simp ↓] theorem sTryAs_ap {ex : Value → Option Bool} {i : Nat} {tb ts : TS2} {D : Ends2} {σ : St2} {M : Ms} : sTryAs ex i tb ts D σ M = tb { D with ex := fun c dd σ1 M1 => ∃ b, ex c = some b ∧
  (b = true → ∀ a, M1 a = none → ts { nx := fun σ' M' => D.nx (σ'.set i none) M', rt := D.rt, bk := fun σ' M' => D.bk (σ'.set i none) M', ct := fun σ' M' => D.ct (σ'.set i none) M', ex := fun _ _ _ _ => False } (σ1.set i (some (.loc a))) (up M1 a (.exc c dd))) ∧ (b = false → D.ex c dd σ1 M1) } σ M := rfl
section
variable {X : Cx} {W : L2.WX} {x n : Str} {c : Value} {i : Nat} {body suite : List Stmt} {b0 : Stmt} {np pos pos' : Pos} {tb ts : TS2}
theorem qs_tryAs (hex : X.ex = []) (hs : X.stack = X.env :: X.outer) (hf : X.env.frame = some X.env.locals) (hN : X.N.Nodup) (hi : X.N[i]? = some n) (hln : X.env.kindOf n = some .local) (hc : Names X x c) (tk : Takes X W)
    (hb : ∀ (W' : L2.WX) (pn : List (Addr × Obj)) (xe : Value → Shared → Prop), Takes (X.tr pn xe) W' → PassesOwn (model X.prog X.w) X.A X.env xe → QSs (X.tr pn xe) W' body tb)
    (hsu : ∀ (a : Addr) (pn : List (Addr × Obj)), QSs (X.suite a pn) W0 (b0 :: suite) ts) :
    QS X W (.Try body [.ExceptHandler (some (.Name x np)) (some n) (b0 :: suite) pos'] [] [] pos) (sTryAs (fun cls => PySem.W.exmOne X.K cls c) i tb ts) :=
  ps_weak (ps_try_asT (tb := fun W' => lfS X.K W' tb) (ts := lfS X.K W0 ts) hex hs hf hN hi hln hc tk hb hsu) fun D σ H ⟨σ', M, D', hs, hm, h, L⟩ =>
    ⟨σ', M, _, hs, hm, h, L.nx, L.rt, L.bk, L.ct, fun cls dd σ1' M1 σ1 H1 t1 s1 m1 ⟨b, eb, h1, h2⟩ => ⟨b, eb, fun e a na => by
        have T2 : Tx X.K H1 (upd H1 a (exT cls dd a)) := Tx.new na
        refine ⟨_, _, _, (s1.mono T2).set i (d := .loc a) (v := .ref a) rfl, m1.put (m := .exc cls dd) T2 upd_same, h1 e a (m1.free na), ?_, ?_, ?_, ?_, fun _ _ _ _ _ _ _ _ _ z => z⟩
        · exact fun σ2' M2 σ2 H2 t2 s2 m2 q2 => L.nx _ M2 _ H2 ((t1.trans T2).trans t2) (s2.none i) m2 q2
        · exact fun d M2 v H2 t2 r2 m2 q2 => L.rt d M2 v H2 ((t1.trans T2).trans t2) r2 m2 q2
        · exact fun σ2' M2 σ2 H2 t2 s2 m2 q2 => L.bk _ M2 _ H2 ((t1.trans T2).trans t2) (s2.none i) m2 q2
        · exact fun σ2' M2 σ2 H2 t2 s2 m2 q2 => L.ct _ M2 _ H2 ((t1.trans T2).trans t2) (s2.none i) m2 q2,
      fun e => L.ex cls dd σ1' M1 σ1 H1 t1 s1 m1 (h2 e)⟩⟩
/-! ### several clauses -/
def xMany (K : Value → Value → Option Bool) (D : Ends2) : List (Value × TS2) → Value → Option Addr → St2 → Ms → Prop
  | [] => D.ex
  | (c, ts) :: r => fun cls dd σ M => ∃ b, K cls c = some b ∧ (b = true → ts { D with ex := fun _ _ _ _ => False } σ M) ∧ (b = false → xMany K D r cls dd σ M)
def sTryMany (K : Value → Value → Option Bool) (l : List (Value × TS2)) (tb : TS2) : TS2 := fun D σ M => tb { D with ex := xMany K D l } σ M
@[simp ↓] theorem sTryMany_ap {K : Value → Value → Option Bool} {l : List (Value × TS2)} {tb : TS2} {D : Ends2} {σ : St2} {M : Ms} : sTryMany K l tb D σ M = tb { D with ex := xMany K D l } σ M := rfl
inductive QHds (X : Cx) : List ExceptHandler → List (Value × TS2) → Prop
  | nil : QHds X [] []
  | cons {x : Str} {c : Value} {ts : TS2} {b₀ : Stmt} {suite : List Stmt} {np pos' : Pos} {hds : List ExceptHandler} {l : List (Value × TS2)} (hc : Names X x c) (hsu : ∀ (a : Addr) (pn : List (Addr × Obj)), QSs (X.suite a pn) W0 (b₀ :: suite) ts) (r : QHds X hds l) :
      QHds X (.ExceptHandler (some (.Name x np)) none (b₀ :: suite) pos' :: hds) ((c, ts) :: l)
theorem QHds.low {hds : List ExceptHandler} {l : List (Value × TS2)} (h : QHds X hds l) : HdsOk X hds (l.map fun q => (q.1, fun _ _ _ => lfS X.K W0 q.2)) := by
  induction h with
  | nil => exact .nil
  | cons hc hsu r ih => exact .cons hc (fun a oe cls d pn _ _ => hsu a _) ih
theorem many_low {D : L2.Ends} {D' : Ends2} {H : Hp} (L : LkD X.K H W D' D) : ∀ {l : List (Value × TS2)} {cls : Value} {dd : Option Addr} {σ' : St2} {M : Ms} {σ : L2.St} {H1 : Hp}, Tx X.K H H1 → SimS X.K H1 σ' σ → SimM X.K H1 M → xMany (PySem.W.exmOne X.K) D' l cls dd σ' M →
    wMany X.K W D (l.map fun q => (q.1, fun _ _ _ => lfS X.K W0 q.2)) cls dd σ H1
  | [], cls, dd, σ', M, σ, H1, t1, s1, m1, h => L.ex cls dd σ' M σ H1 t1 s1 m1 h
  | (c, ts) :: r, cls, dd, σ', M, σ, H1, t1, s1, m1, ⟨b, eb, h1, h2⟩ => ⟨b, eb, fun e a _ => ⟨σ', M, _, s1, m1, h1 e, (L.mono t1).nx, (L.mono t1).rt, (L.mono t1).bk, (L.mono t1).ct, fun _ _ _ _ _ _ _ _ _ z => z⟩, fun e => many_low L t1 s1 m1 (h2 e)⟩
theorem qs_tryMany {h₀ : ExceptHandler} {hds : List ExceptHandler} {l : List (Value × TS2)} (hs : X.stack = X.env :: X.outer) (hf : X.env.frame = some X.env.locals) (tk : Takes X W)
    (hb : ∀ (W' : L2.WX) (pn : List (Addr × Obj)) (xe : Value → Shared → Prop), Takes (X.tr pn xe) W' → PassesOwn (model X.prog X.w) X.A X.env xe → QSs (X.tr pn xe) W' body tb)
    (hh : QHds X (h₀ :: hds) l) : QS X W (.Try body (h₀ :: hds) [] [] pos) (sTryMany (PySem.W.exmOne X.K) l tb) :=
  ps_weak (ps_try_many (tb := fun W' => lfS X.K W' tb) hs hf tk hb hh.low) fun D σ H ⟨σ', M, D', hs, hm, h, L⟩ =>
    ⟨σ', M, _, hs, hm, h, L.nx, L.rt, L.bk, L.ct, fun cls dd σ1' M1 σ1 H1 t1 s1 m1 q => many_low L t1 s1 m1 q⟩
end
end T

/-! T: errors with a field of their own; calls by names; a head with more facts. -/
namespace T
open PySem PySem.Spec PyProof.Rows L2

/-! ### a class of errors with an own __init__ that hands on to D's and sets one field -/
def oexA (K : PySem.W.Frag) (C : Addr) : Bool := match K.lookup C with
  | some ⟨.type t, _, .cls cd, sl⟩ => decide (t = "type") && (match cd.mro, sl.toList with
    | .ref C' :: bm, [_, _, _, _, some (.builtin n), _] => decide (C' = C) && (decide (n = "ValueError.__new__") && ((!cd.hasDel) && (cd.hasDict && PySem.HandSPX.refsVE bm)))
    | _, _ => false)
  | _ => false
theorem oexA_ok {K : PySem.W.Frag} {C : Addr} (h : oexA K C = true) :
    ∃ nm q N bs bm sn sub ab col dd k0 k1 k2 k3 k5, K.lookup C = some (excClassObj nm q C N bs bm true sn sub ab col dd k0 k1 k2 k3 k5 "ValueError.__new__") ∧ PySem.HandSPX.refsVE bm = true := by
  unfold oexA at h
  split at h
  · rename_i t dd cd sl ho
    obtain ⟨e1, h⟩ := He.ba h
    have e1 := of_decide_eq_true e1
    split at h
    · rename_i C' bm k0 k1 k2 k3 n k5 hm hs
      obtain ⟨e2, h⟩ := He.ba h
      obtain ⟨e3, h⟩ := He.ba h
      obtain ⟨e4, h⟩ := He.ba h
      obtain ⟨e5, e6⟩ := He.ba h
      have e2 := of_decide_eq_true e2
      have e3 := of_decide_eq_true e3
      obtain ⟨nm, bs, mro, ns, qn, hd, sn, sub, ab, col, dl⟩ := cd
      dsimp only at hm e4 e5
      have e4 : dl = false := by
        cases dl with
        | false => rfl
        | true => cases e4
      subst e1 e2 e3 e4 e5 hm
      have hsl : sl = #[k0, k1, k2, k3, some (.builtin "ValueError.__new__"), k5] := by
        obtain ⟨l⟩ := sl
        simp only at hs
        rw [hs]
      subst hsl
      exact ⟨nm, qn, ns, bs, bm, sn, sub, ab, col, dd, k0, k1, k2, k3, k5, ho, e6⟩
    · cases h
  · cases h
structure InitC (K : PySem.W.Frag) (C D fI : Addr) (f : Str) : Prop where
  oex : OexC K C
  iC : PySem.W.findIn K (.ref C) "__init__" = some (some (.ref fI))
  tI : PySem.W.typeIn K (.ref fI) = some (.type "function")
  no : PySem.W.findIn K (.ref C) f = some none
  gD : PySem.W.specialIn K (.ref D) "__getattribute__" = some (some (.builtin "type.__getattribute__"))
  rD : PySem.W.readsIn K D (.type "type") = true
  vD : PySem.W.findCls K (.ref D) (.type "type") "__init__" = some (.val (.builtin "ValueError.__init__"))
  xf : XfC K C
def isVal : Option PySem.W.CFound → String → Bool
  | some (.val (.builtin n)), m => decide (n = m)
  | _, _ => false
theorem isVal_ok {o : Option PySem.W.CFound} {m : String} (h : isVal o m = true) : o = some (.val (.builtin m)) := by
  unfold isVal at h
  split at h
  · rw [of_decide_eq_true h]
  · cases h
def initB (K : PySem.W.Frag) (C D fI : Addr) (f : Str) : Bool :=
  oexA K C && (He.eqO (PySem.W.findIn K (.ref C) "__setattr__") (some (some (.builtin "object.__setattr__"))) && (decide (PySem.W.subIn K (.ref C) (.type "BaseException") = some true) && (decide (PySem.W.typeIn K (.ref C) = some (.type "type")) && (PySem.W.keepIn K (.ref C) &&
  (He.eqO (PySem.W.findIn K (.ref C) "__init__") (some (some (.ref fI))) && (decide (PySem.W.typeIn K (.ref fI) = some (.type "function")) && (He.eqO (PySem.W.findIn K (.ref C) f) (some none) &&
  (He.eqO (PySem.W.specialIn K (.ref D) "__getattribute__") (some (some (.builtin "type.__getattribute__"))) && (PySem.W.readsIn K D (.type "type") && (isVal (PySem.W.findCls K (.ref D) (.type "type") "__init__") "ValueError.__init__" && xfB K C))))))))))
theorem initB_ok {K : PySem.W.Frag} {C D fI : Addr} {f : Str} (h : initB K C D fI f = true) : InitC K C D fI f := by
  obtain ⟨h1, h⟩ := He.ba h
  obtain ⟨h2, h⟩ := He.ba h
  obtain ⟨h3, h⟩ := He.ba h
  obtain ⟨h4, h⟩ := He.ba h
  obtain ⟨h5, h⟩ := He.ba h
  obtain ⟨h6, h⟩ := He.ba h
  obtain ⟨h7, h⟩ := He.ba h
  obtain ⟨h8, h⟩ := He.ba h
  obtain ⟨h9, h⟩ := He.ba h
  obtain ⟨h10, h⟩ := He.ba h
  obtain ⟨h11, h12⟩ := He.ba h
  exact ⟨⟨oexA_ok h1, He.eqO_ok h2, of_decide_eq_true h3, of_decide_eq_true h4, h5⟩, He.eqO_ok h6, of_decide_eq_true h7, He.eqO_ok h8, He.eqO_ok h9, h10, isVal_ok h11, xfB_ok h12⟩
section
variable {X : Cx} {e : Expr} {es : List Expr} {ta : TA} {p1 p2 pos : Pos} {x : Str} {D : Addr}
theorem pe_meinit {pl : Sem Bool} (hg : Gl X x) (hm : X.mg x = some (.ref D)) (gD : PySem.W.specialIn X.K (.ref D) "__getattribute__" = some (some (.builtin "type.__getattribute__"))) (rD : PySem.W.readsIn X.K D (.type "type") = true)
    (vD : PySem.W.findCls X.K (.ref D) (.type "type") "__init__" = some (.val (.builtin "ValueError.__init__"))) (ha : PA X (e :: es) ta) (hdb : (x == ("__debug__" : Str)) = false := by decide)
    (hc : eval (.Call (.Attribute (.Name x p1) "__init__" p2) (e :: es) [] pos) X.env = (do
      let ov ← eval (.Name x p1) X.env
      standAt p2.atName
      let (f, first) ← holding [ov] (getMethod ov "__init__" pl)
      callWith pos f first (backTo pos (starEach (e :: es) X.env)) (backToKw pos (keywordEach [] X.env))) := by rfl)
    (he : starEach (e :: es) X.env = (false, eval e X.env) :: starEach es X.env := by rfl) (hpl : (backTo pos (starEach es X.env)).any (·.1) = false := by rfl) :
    PE X (.Call (.Attribute (.Name x p1) "__init__" p2) (e :: es) [] pos) (tVeI X.K ta) := by
  refine ⟨fun pins s σ H Q I h => ?_⟩
  refine PySem.W.methodCall_KW (ld_glob I hg hm ?_ hdb) hc
  refine PySem.W.method_cls I.kIn gD (PySem.W.cls_value I.kIn rD vD (by decide +kernel) ?_)
  refine PyProof.Rows.callWith_method1 (thn (ha.run pos pins _ σ H _ (I.tok _) h) fun us s1 ⟨vs, H1, I1, r1, a, C, ws, ev, hl, T, ea, q⟩ => ?_) he hpl
  subst ev
  cases r1 with
  | @cons _ u0 _ ur ra rw' =>
    obtain rfl : u0 = Value.ref a := ra
    exact oinit_ok T I1 ea (by rw [← Paired.length rw', sizeLine_eq]; omega) fun s' J => ⟨.non, H1, J, rfl, q⟩
end
/-- the promise of such an __init__ -/
def spI (C : Addr) (f : Str) : L2.Sp := fun vs H Q _ => ∃ a y, vs = [.ref a, y] ∧ H a = some (exo a C none) ∧ ∀ dx, H dx = none → dx ≠ a → Q .non (upd (upd H dx (exd dx [(f, y)])) a (exo a C (some dx)))
theorem spI_len {C : Addr} {f : Str} : ∀ vs H Q E, spI C f vs H Q E → vs.length = ([("self" : Str), f] : List Str).length := fun _ _ _ _ ⟨_, _, e, _⟩ => by rw [e] <;> rfl
def rdI (K : PySem.W.Frag) (f m : Str) : TS := tSeq (tDrop (tVeI K (tCons (tVar 0) (tCons (tC (.str m)) tNil)))) (tOst K f (tVar 0) (tVar 1))
theorem initSem {K : PySem.W.Frag} {C D fI : Addr} {f m : Str} {vs : List V} {H : Hp} {Q : VK} {E : XK} (T : InitC K C D fI f) (h : spI C f vs H Q E) : rdI K f m { nx := fun _ H' => Q .non H', rt := Q } (L2.start ["self", f] vs) H := by
  obtain ⟨a, y, rfl, ha, hq⟩ := h
  refine ⟨.ref a, rfl, a, C, [.str m], rfl, by simp, T.oex, ha, ?_⟩
  exact ⟨y, rfl, .ref a, rfl, a, C, rfl, T.oex, T.no, .inl ⟨ha, hq⟩⟩
/-- the class at C has such an __init__, of level k -/
structure IniF (P : Program) (w : World) (K : PySem.W.Frag) (mg : Str → Option Value) (base : Heap) (k : Nat) (x : Str) (C : Addr) (f : Str) : Prop where
  mg_ : mg x = some (.ref C)
  ex : ∃ D fI fd, InitC K C D fI f ∧ FnOk P w K mg base (L2.CX P w) k fI fd ["self", f] (spI C f) ∧ Binds K fd ["self", f] []
theorem iniF_of {P : Program} {w : World} {K : PySem.W.Frag} {mg : Str → Option Value} {base : Heap} {C D fI : Addr} {f m y : Str} {fd : FuncData} {x qual : Str} {params : Arguments} {body : List Stmt} {scope : Scope}
    (hC : mg y = some (.ref C)) (F : FunD K x qual params body scope [] [] fI fd) (S : FnScope ["self", f] ["self", f] scope) (T : InitC K C D fI f) (hb : Binds K fd ["self", f] [])
    (der : ∀ (cdv : Value) (A : Around) (outer : List Env) (s : Shared) (H : Hp) (E : XK), PSs (cxOf (L2.CX P w) P w K mg base ["self", f] qual scope fI cdv A outer s H E) body (rdI K f m)) : IniF P w K mg base 2 y C f :=
  ⟨hC, D, fI, fd, T, F.ok S spI_len fun cdv A outer s H vs Q E hr hsp => ⟨_, der cdv A outer s H E, initSem T hsp⟩, hb⟩
/-- raise C(e) -/
def sRaiseI (C : Value) (f : Str) (te : TE2) : TS2 := fun D σ M => te σ M (fun d M1 => ∀ dx, M1 dx = none → D.ex C (some dx) σ (up M1 dx (.xd [(f, d)]))) (D.xx σ)
theorem del_up {H : Hp} {a dx : Addr} {o u v : HO} (ha : H a = none) (ne : dx ≠ a) : del (upd (upd (upd H a o) dx u) a v) a = upd H dx u := by
  funext b
  by_cases hb : b = a
  · subst hb
    rw [del_same, upd_ne ne.symm, ha]
  · rw [del_ne hb, upd_ne hb]
    by_cases hd : b = dx
    · subst hd
      rw [upd_same, upd_same]
    · rw [upd_ne hd, upd_ne hd, upd_ne hb]
theorem upd_upd' {H : Hp} {a : Addr} {o u : HO} : upd (upd H a o) a u = upd H a u := by
  funext b
  by_cases hb : b = a
  · subst hb
    rw [upd_same, upd_same]
  · rw [upd_ne hb, upd_ne hb, upd_ne hb]
section
variable {X : Cx} {W : L2.WX} {x f : Str} {C : Addr} {e : Expr} {te : TE2} {p pos pos2 : Pos} {k : Nat}
theorem qs_raiseI (hc : X.calm = true) (tk : Takes X W) (I : IniF X.prog X.w X.K X.mg X.base k x C f) (hr : Room (k + 1) X.A) (he : QE X W e te) (hg : Gl X x := by rfl) (hdb : (x == ("__debug__" : Str)) = false := by decide)
    (hs : starEach [e] X.env = (false, eval e X.env) :: starEach [] X.env := by rfl) :
    QS X W (.Raise (some (.Call (.Name x p) [e] [] pos)) none pos2) (sRaiseI (.ref C) f te) := by
  obtain ⟨hm, D, fI, fd, T, F, hb⟩ := I
  refine ps_weak (ps_raise hc tk (pmk_oex (CX := L2.CX X.prog X.w) T.oex T.iC T.tI F hr hb .nil (fun _ _ _ _ _ _ _ z => by
    obtain ⟨_, _, _, _, _, _, _, _, _, _, _, _, z⟩ := z
    exact z.elim) hg hm (show QA X W [e] (aCons te aNil) from qa_cons he qa_nil hs) hdb hs)) fun D σ H ⟨σ', M, D', hs, hm, h, L⟩ => ?_
  refine ⟨σ', M, fun ds M1 => (match ds with
    | [d] => ∀ dx, M1 dx = none → D'.ex (.ref C) (some dx) σ' (up M1 dx (.xd [(f, d)]))
    | _ => False), D'.xx σ', hs, hm, h, fun ds M1 vs H1 t1 r1 m1 q1 => ?_, L.x hs⟩
  match ds, q1 with
  | [d], q1 =>
    obtain ⟨v, rfl, r2⟩ := one_of r1
    refine ⟨by simp, fun a ha => ⟨a, v, rfl, upd_same, fun dx hdx ne => ⟨rfl, dx, [(f, v)], upd_same, by rw [upd_ne ne]; exact upd_same, by rw [upd_ne ne] at hdx; exact hdx, ?_⟩⟩⟩
    rw [upd_ne ne] at hdx
    have e : upd (del (upd (upd (upd H1 a (exo a C none)) dx (exd dx [(f, v)])) a (exo a C (some dx))) a) dx (.xd [(f, v)]) = upd H1 dx (.xd [(f, v)]) := by
      rw [del_up ha ne, upd_upd']
    rw [e]
    have T2 : Tx X.K H1 (upd H1 dx (.xd [(f, v)])) := Tx.new hdx
    exact L.ex _ _ σ' _ σ _ (t1.trans T2) (hs.mono (t1.trans T2)) (m1.put (m := .xd [(f, d)]) T2 ⟨_, upd_same, rfl, (RepL.one r2).mono T2⟩) (q1 dx (m1.free hdx))
/-- err.f -/
def XfS (C : Value) (f : Str) (d : Tr) (M : Ms) (Q : Q2) (_ : Fx Q) : Prop := ∃ a dx v, d = .loc a ∧ M a = some (.exc C (some dx)) ∧ M dx = some (.xd [(f, v)]) ∧ Q v M
def eXf (C : Value) (f : Str) (te : TE2) : TE2 := fun σ M Q E => te σ M (fun d M1 => XfS C f d M1 Q .mk) E
theorem qe_xf {D fI : Addr} {n : Str} (Tc : InitC X.K C D fI n) (he : QE X W e te) (hb : attributeBase e n X.env (eval e X.env) = eval e X.env := by rfl) : QE X W (.Attribute e n pos) (eXf (.ref C) n te) := by
  refine ⟨fun pins s σ H Q I ⟨σ', M, Q', E', hs, hm, q, hq, hx⟩ => ?_⟩
  refine attr_of hb (thn (he.run pins s σ H (fun x H1 => ∃ d M1, Tx X.K H H1 ∧ Rep X.K H1 d x ∧ SimM X.K H1 M1 ∧ XfS (.ref C) n d M1 Q' .mk) I ⟨σ', M, _, E', hs, hm, q, fun d M1 x H1 t1 r1 s1 q1 => ⟨d, M1, t1, r1, s1, q1⟩, hx⟩) fun u s1 hh => ?_)
  obtain ⟨x, H1, I1, rx, d, M1, t1, r1, sm1, a, dx, v, rfl, ea, ed, q1⟩ := hh
  cases r1
  cases (show u = Value.ref a from rx)
  have z : H1 a = some (exT (.ref C) (some dx) a) := sm1 a _ ea
  obtain ⟨⟨oe, vs, ho, hz, hd⟩, _, _⟩ := (show ObjOk X.prog X.w H1 s1.heap a (exT (.ref C) (some dx) a) from I1.hok a _ z)
  obtain ⟨xs, hxs, ke, rl⟩ := sm1 dx _ ed
  match xs, ke, rl with
  | [(g, y)], ke, rl =>
    obtain rfl : g = n := by simpa using ke
    have ry : Rep X.K H1 v y := by
      obtain ⟨y', _, e1, r2, _⟩ := rl
      cases e1
      exact r2
    have hX : ObjOk X.prog X.w H1 s1.heap dx (.xd [(g, y)]) := I1.hok dx _ hxs
    obtain ⟨mA, hns, hr⟩ := hX
    obtain ⟨od, hod, hl⟩ := lookIn_ns hns
    obtain ⟨u, hu, ru⟩ := RelO.some_of (v := y) (o := mA g) (by have := hr g; simpa [List.lookup] using this)
    have J : PySem.W.InstAt s1.heap a oe C (some od) := ⟨ho, hz.1, by unfold PySem.W.notCls; rw [hd] <;> rfl, by rw [hz.2]; exact hod⟩
    exact HandSPX.exc_get I1.kIn J Tc.xf.ga Tc.xf.gg Tc.xf.exC (PySem.W.findObj_own Tc.xf.hdC Tc.no rfl (by rw [hl, hu])) (handed_of ru) ⟨y, H1, I1.tok _, ru, hq v M1 y H1 t1 ry sm1 q1⟩
end
@[simp ↓] theorem sRaiseI_ap {C : Value} {f : Str} {te : TE2} {D : Ends2} {σ : St2} {M : Ms} : sRaiseI C f te D σ M = te σ M (fun d M1 => ∀ dx, M1 dx = none → D.ex C (some dx) σ (up M1 dx (.xd [(f, d)]))) (D.xx σ) := rfl
@[simp ↓] theorem eXf_ap {C : Value} {f : Str} {te : TE2} {σ : St2} {M : Ms} {Q : Q2} {E : X2} : eXf C f te σ M Q E = te σ M (fun d M1 => XfS C f d M1 Q .mk) E := rfl

/-! ### calls by names -/
structure KBt (K : PySem.W.Frag) (fd : FuncData) (ps : List Str) (n : Nat) (ks : List Str) (g : {α : Type} → List α → List α → List α) : Prop where
  to : ∀ (s : Shared) (us ws : List Value), K.In s.heap → us.length = n → ws.length = ks.length → BindsTo s fd ⟨us, ks.zip ws⟩ (ps.zip (g us ws))
  rel : ∀ {vs zs : List V} {us ws : List Value}, vs.length = n → zs.length = ks.length → Vals vs us → Vals zs ws → Vals (g vs zs) (g us ws)
  rep : ∀ {H : Hp} {ds es : List Tr} {vs zs : List V}, ds.length = n → es.length = ks.length → RepL K H ds vs → RepL K H es zs → RepL K H (g ds es) (g vs zs)
def eCallK (n m : Nat) (sp : Sp2) (g : List Tr → List Tr → List Tr) (t tk : TA2) : TE2 := fun σ M Q E => t σ M (fun ds M1 => tk σ M1 (fun es M2 => ds.length = n ∧ es.length = m ∧ sp (g ds es) M2 Q E) E) E
section
variable {X : Cx} {W : L2.WX} {k n : Nat} {f : Addr} {fd : FuncData} {ps ks : List Str} {sp : Sp2} {x : Str} {p pos : Pos} {e : Expr} {es : List Expr} {kws : List Keyword} {t tk : TA2} {g : {α : Type} → List α → List α → List α}
theorem run_fnK {pins : List (Addr × Obj)} {σ : L2.St} {H0 H : Hp} {s : Shared} {Q : VK} {us ws : List Value} {vs zs : List V} {ds es : List Tr} {M : Ms} {Q' : Q2} {E' : X2} (F : FnT X.prog X.w X.K X.mg X.base k f fd ps sp) (hr : Room k X.A) (hgd : X.A.guards = some []) (hb : KBt X.K fd ps n ks g)
    (hl : Lets X W) (I : L2.Inv X pins σ H s) (r : Vals vs us) (rz : Vals zs ws) (rt : RepL X.K H ds vs) (re : RepL X.K H es zs) (l1 : ds.length = n) (l2 : es.length = ks.length) (sm : SimM X.K H M) (t0 : Tx X.K H0 H) (h : sp (g ds es) M Q' E') (hq : LkQ X.K H0 Q' Q) (hx : LkX X.K H0 E' W σ) :
    wpAny (model X.prog X.w) X.A (call (.ref f) us (ks.zip ws)) (EP X pins σ Q) X.xe s := by
  have lv : vs.length = n := by rw [← rt.len]; exact l1
  have lz : zs.length = ks.length := by rw [← re.len]; exact l2
  have r2 := hb.rel lv lz r rz
  have rt2 := hb.rep l1 l2 rt re
  refine wpAny_call (codeAny_mono (F.run X.A X.stack s H ⟨us, ks.zip ws⟩ (g us ws) (g vs zs) (g ds es) M Q' E' hr hgd I.env0 (hb.to s us ws I.kIn (r.length.symm.trans lv) (rz.length.symm.trans lz)) r2 rt2 sm h) fun r s' hq' => ?_)
  cases r with
  | error e => exact hl σ pins H s e s' I (cx_imp (fun c d H' ⟨M', tx, sm', q⟩ => hx c d M' H' (t0.trans tx) sm' q) hq')
  | ok fl =>
    cases fl with
    | ret u =>
      obtain ⟨v, H', os, bare, un, hok, rv, d, M', rd, sm', q⟩ := hq'
      exact I.after ⟨v, H', os, bare, un, hok, rv, hq d M' v H' (t0.trans (Tx.un un)) rd sm' q⟩
    | next => exact False.elim hq'
    | brk => exact False.elim hq'
    | cont => exact False.elim hq'
/-- f(e, .., k = v, ..) -/
theorem qe_callK (F : FnT X.prog X.w X.K X.mg X.base k f fd ps sp) (hr : Room k X.A) (hgd : X.A.guards = some []) (hm : X.mg x = some (.ref f)) (hk : PySem.W.keepIn X.K (.ref f) = true) (hb : KBt X.K fd ps n ks g) (hl : Lets X W)
    (ha : QA X W (e :: es) t) (hkw : QK X W kws tk) (hg : Gl X x := by rfl) (hall : (backToKw pos (keywordEach kws X.env)).all (·.1.isSome) = true := by rfl) (hks : (backToKw pos (keywordEach kws X.env)).filterMap (·.1) = ks := by rfl)
    (hdb : (x == ("__debug__" : Str)) = false := by decide) (he : starEach (e :: es) X.env = (false, eval e X.env) :: starEach es X.env := by rfl)
    (hpl : ((backTo pos (starEach (e :: es) X.env)).any (·.1) || (backToKw pos (keywordEach kws X.env)).any (·.1.isNone)) = false := by rfl) :
    QE X W (.Call (.Name x p) (e :: es) kws pos) (eCallK n ks.length sp g t tk) := by
  refine ⟨fun pins s σ H Q I ⟨σ', M, Q', E', hs, hm', q, hq, hx⟩ => ?_⟩
  refine wpAny_Call_Name_kw (ld_glob I hg hm ?_ hdb)
  refine PySem.W.callWith_KW (h₀ := X.base) I.ok.mod.kin hk hall (thn (ha.run pos pins s σ H (fun vs H1 => ∃ ds M1, Tx X.K H H1 ∧ RepL X.K H1 ds vs ∧ SimM X.K H1 M1 ∧ tk σ' M1 (fun es M2 => ds.length = n ∧ es.length = ks.length ∧ sp (g ds es) M2 Q' E') E') I
    ⟨σ', M, _, E', hs, hm', q, fun ds M1 vs H1 t1 r1 s1 q1 => ⟨ds, M1, t1, r1, s1, q1⟩, hx⟩) fun us s1 ⟨vs, H1, I1, r, ds, M1, t1, r1, sm1, q1⟩ => ?_) hpl he
  refine thn (hkw.run pos pins s1 σ H1 (fun zs H2 => ∃ es M2, Tx X.K H1 H2 ∧ RepL X.K H2 es zs ∧ SimM X.K H2 M2 ∧ ds.length = n ∧ es.length = ks.length ∧ sp (g ds es) M2 Q' E') I1
    ⟨σ', M1, _, E', hs.mono t1, sm1, q1, fun es M2 zs H2 t2 r2 s2 q2 => ⟨es, M2, t2, r2, s2, q2⟩, hx.mono t1⟩) fun ws s2 ⟨zs, H2, I2, rz, es, M2, t2, re, sm2, l1, l2, q2⟩ => ⟨I2.kIn, ?_⟩
  rw [hks]
  exact run_fnK F hr hgd hb hl I2 r rz (r1.mono t2) re l1 l2 sm2 (t1.trans t2) q2 hq hx
theorem qe_callK0 (F : FnT X.prog X.w X.K X.mg X.base k f fd ps sp) (hr : Room k X.A) (hgd : X.A.guards = some []) (hm : X.mg x = some (.ref f)) (hk : PySem.W.keepIn X.K (.ref f) = true) (hb : KBt X.K fd ps 0 ks g) (hl : Lets X W)
    (hkw : QK X W kws tk) (hg : Gl X x := by rfl) (hall : (backToKw pos (keywordEach kws X.env)).all (·.1.isSome) = true := by rfl) (hks : (backToKw pos (keywordEach kws X.env)).filterMap (·.1) = ks := by rfl)
    (hdb : (x == ("__debug__" : Str)) = false := by decide) (hpl : ((backTo pos (starEach [] X.env)).any (·.1) || (backToKw pos (keywordEach kws X.env)).any (·.1.isNone)) = false := by rfl) :
    QE X W (.Call (.Name x p) [] kws pos) (eCallK 0 ks.length sp g aNil tk) := by
  refine ⟨fun pins s σ H Q I ⟨σ', M, Q', E', hs, hm', q, hq, hx⟩ => ?_⟩
  refine wpAny_Call_Name_kw (ld_glob I hg hm ?_ hdb)
  refine PySem.W.callWith_KW0 (h₀ := X.base) I.ok.mod.kin hk hall ?_ hpl
  refine thn (hkw.run pos pins s σ H (fun zs H2 => ∃ es M2, Tx X.K H H2 ∧ RepL X.K H2 es zs ∧ SimM X.K H2 M2 ∧ ([] : List Tr).length = 0 ∧ es.length = ks.length ∧ sp (g [] es) M2 Q' E') I
    ⟨σ', M, _, E', hs, hm', q, fun es M2 zs H2 t2 r2 s2 q2 => ⟨es, M2, t2, r2, s2, q2⟩, hx⟩) fun ws s2 ⟨zs, H2, I2, rz, es, M2, t2, re, sm2, l1, l2, q2⟩ => ⟨I2.kIn, ?_⟩
  rw [hks]
  exact run_fnK (us := []) (vs := []) (ds := []) F hr hgd hb hl I2 .nil rz RepL.nil re l1 l2 sm2 t2 q2 hq hx
end
/-- a def without defaults, called by names -/
theorem kbt_of {K : PySem.W.Frag} {x qual : Str} {params : Arguments} {body : List Stmt} {scope : Scope} {f : Addr} {fd : FuncData} {ps ks : List Str} {n : Nat} {g : {α : Type} → List α → List α → List α} (F : FunD K x qual params body scope [] [] f fd)
    (h : ∀ (kV doc pm : Value) (an : Option Addr) (cdv ct : Value) (us ws : List Value), us.length = n → ws.length = ks.length → bindArgs (PySem.W.fnOf x qual params body scope .none kV doc pm an cdv ct) ⟨us, ks.zip ws⟩ = pure (ps.zip (g us ws)))
    (rel : ∀ {vs zs : List V} {us ws : List Value}, vs.length = n → zs.length = ks.length → Vals vs us → Vals zs ws → Vals (g vs zs) (g us ws))
    (rep : ∀ {H : Hp} {ds es : List Tr} {vs zs : List V}, ds.length = n → es.length = ks.length → RepL K H ds vs → RepL K H es zs → RepL K H (g ds es) (g vs zs)) : KBt K fd ps n ks g := by
  obtain ⟨oc, od, dV, kV, doc, pm, an, cdv, ct, osl, rfl, lk, hcd, hD, hK⟩ := F.ex
  rcases hD with ⟨_, rfl⟩ | ⟨e, _⟩
  · exact ⟨fun s us ws _ l1 l2 => .of_eq (h kV doc pm an cdv ct us ws l1 l2), rel, rep⟩
  · exact absurd rfl e
/-- the values by names, in the sequence is -/
def gK (is : List Nat) {α : Type} (us ws : List α) : List α := us ++ is.filterMap fun i => ws[i]?
theorem Vals.back {xs : List V} {us : List Value} (h : Vals xs us) : ∀ i : Nat, (xs[i]? = none ∧ us[i]? = none) ∨ ∃ x u, xs[i]? = some x ∧ us[i]? = some u ∧ RelV x u := by
  induction h with
  | nil => intro i; exact .inl ⟨rfl, rfl⟩
  | cons r _ ih =>
    intro i
    cases i with
    | zero => exact .inr ⟨_, _, rfl, rfl, r⟩
    | succ i => simpa using ih i
theorem gK_vals {zs : List V} {ws : List Value} (r : Vals zs ws) : ∀ is : List Nat, Vals (is.filterMap fun i => zs[i]?) (is.filterMap fun i => ws[i]?)
  | [] => .nil
  | i :: is => by
    rcases Vals.back r i with ⟨e1, e2⟩ | ⟨x, u, e1, e2, q⟩
    · rw [List.filterMap_cons_none e1, List.filterMap_cons_none e2]
      exact gK_vals r is
    · rw [List.filterMap_cons_some e1, List.filterMap_cons_some e2]
      exact .cons q (gK_vals r is)
theorem gK_rep {K : PySem.W.Frag} {H : Hp} {es : List Tr} {zs : List V} (r : RepL K H es zs) : ∀ is : List Nat, RepL K H (is.filterMap fun i => es[i]?) (is.filterMap fun i => zs[i]?)
  | [] => RepL.nil
  | i :: is => by
    cases e1 : es[i]? with
    | none =>
      have e2 : zs[i]? = none := by
        rw [List.getElem?_eq_none_iff] at e1 ⊢
        rw [← r.len]; exact e1
      rw [List.filterMap_cons_none e1, List.filterMap_cons_none e2]
      exact gK_rep r is
    | some d =>
      obtain ⟨x, e2, q⟩ := r.get e1
      rw [List.filterMap_cons_some e1, List.filterMap_cons_some e2]
      exact .cons q (gK_rep r is)
theorem kbt_gK {K : PySem.W.Frag} {x qual : Str} {params : Arguments} {body : List Stmt} {scope : Scope} {f : Addr} {fd : FuncData} {ps ks : List Str} {n : Nat} (is : List Nat) (F : FunD K x qual params body scope [] [] f fd)
    (h : ∀ (kV doc pm : Value) (an : Option Addr) (cdv ct : Value) (us ws : List Value), us.length = n → ws.length = ks.length → bindArgs (PySem.W.fnOf x qual params body scope .none kV doc pm an cdv ct) ⟨us, ks.zip ws⟩ = pure (ps.zip (gK is us ws))) : KBt K fd ps n ks (gK is) :=
  kbt_of F h (fun _ _ r rz => r.append (gK_vals rz is)) fun _ _ r rz => r.app (gK_rep rz is)
@[simp ↓] theorem eCallK_ap {n m : Nat} {sp : Sp2} {g : List Tr → List Tr → List Tr} {t tk : TA2} {σ : St2} {M : Ms} {Q : Q2} {E : X2} : eCallK n m sp g t tk σ M Q E = t σ M (fun ds M1 => tk σ M1 (fun es M2 => ds.length = n ∧ es.length = m ∧ CallS sp (g ds es) M2 Q E .mk) E) E := rfl

theorem okF_fn {P : Program} {w : World} {K : PySem.W.Frag} {mg : Str → Option Value} {base : Heap} {k : Nat} {f : Addr} {fd : FuncData} {x qual : Str} {params : Arguments} {body : List Stmt} {scope : Scope} {ps : List Str} {sp : Sp2}
    (F : FunD K x qual params body scope [] [] f fd) (T : FnT P w K mg base k f fd ps sp) (hm : mg x = some (.ref f)) (hb : Binds K fd ps []) : OkF P w K mg base k x ps [] sp :=
  ⟨f, fd, [], [], T, hm, F.kp, hb, .nil, fun _ => RepL.nil⟩
theorem bt_ValueError : bootBuiltins "ValueError" = some (.type "ValueError") := by decide +kernel
/-- a class's body -/
def clsB (s : Stmt) : List Stmt := match s with
  | .ClassDef (body := b) .. => b
  | _ => []
/-! ### a head with more facts -/
inductive Fb where
  | isx (t c : He.Dv) (b : Bool)
  | ini (x y f : Str)
  | mk0 (x : Str)
  | isxs (m : Str) (l : List Str)
/-- isinstance over a row of classes below m: of its own alone, of m, of ValueError -/
def isxsB (K : PySem.W.Frag) (m : Str) (l : List Str) : Bool :=
  l.zipIdx.all fun p => (l.zipIdx.all fun q => decide (isxK K (.ref (He.ga K p.1)) (.ref (He.ga K q.1)) = some (p.2 == q.2))) && (decide (isxK K (.ref (He.ga K p.1)) (.ref (He.ga K m)) = some true) && decide (isxK K (.ref (He.ga K p.1)) (.type "ValueError") = some true))
def cvD (K : PySem.W.Frag) : He.Dv → Value
  | .ty n => .type n
  | .glo x => .ref (He.ga K x)
  | _ => .none
def Fb.ok (K : PySem.W.Frag) : Fb → Bool
  | .isx t c b => decide (isxK K (cvD K t) (cvD K c) = some b)
  | .ini x y f => initB K (He.ga K x) (He.ga K y) (He.ma K (He.ga K x) "__init__") f
  | .isxs m l => isxsB K m l
  | .mk0 x => PySem.W.makesIn K (He.ga K x) && (He.eqO (PySem.W.findIn K (.ref (He.ga K x)) "__init__") (some (some (.builtin "object.__init__"))) && PySem.W.keepIn K (.ref (He.ga K x)))
abbrev AlM : Type := He.AlD × Bool
def frM (n : Nat) (g : Addr → Option Obj) : PySem.W.Frag := He.frG g (cStatics :: He.asD g n)
def obsM (n : Nat) (fa : List He.Fa) (fn : List He.DefD) (fb : List Fb) (g : Addr → Option Obj) : AlM := (He.obsD fa fn (frM n g), fb.all fun f => f.ok (frM n g))
structure SaysM (fa : List He.Fa) (fn : List He.DefD) (fb : List Fb) (K : PySem.W.Frag) : Prop where
  d : He.SaysD fa fn K
  b : (fb.all fun f => f.ok K) = true
def hookM (n : Nat) (fa : List He.Fa) (fn : List He.DefD) (fb : List Fb) : PySem.W.Hook where
  α := AlM
  obs := fun s => obsM n fa fn fb s.heap.get?
  val := fun _ => (He.valD fn, true)
  says := fun _ h => ∃ K : PySem.W.Frag, K.In h ∧ SaysM fa fn fb K
  of := fun _ _ e => ⟨_, He.frG_in, congrArg (fun z : AlM => z.1) e, congrArg (fun z : AlM => z.2) e⟩
  keeps := fun _ _ _ ⟨K, hK, c⟩ k => ⟨K, PySem.W.Frag.In.keeps hK k, c⟩
theorem obsM_eq {n : Nat} {fa : List He.Fa} {fn : List He.DefD} {fb : List Fb} {g : Addr → Option Obj} {s : Shared} (h : ∀ a, g a = s.heap.get? a) : obsM n fa fn fb g = (hookM n fa fn fb).obs s := by
  have e : g = s.heap.get? := funext h
  rw [e] <;> rfl
theorem SaysM.fb {fa : List He.Fa} {fn : List He.DefD} {fb : List Fb} {K : PySem.W.Frag} (c : SaysM fa fn fb K) (i : Nat) {f : Fb} (h : fb[i]? = some f := by rfl) : f.ok K = true := List.all_eq_true.mp c.b f (List.mem_of_getElem? h)
/-- what isxsB says -/
def IsxsP (isx : Value → Value → Option Bool) (cl : Str → Value) (m : Str) (l : List Str) : Prop :=
  ∀ (i j : Nat) (x y : Str), l[i]? = some x → l[j]? = some y → isx (cl x) (cl y) = some (i == j) ∧ isx (cl x) (cl m) = some true ∧ isx (cl x) (.type "ValueError") = some true
theorem isxs_ok {K : PySem.W.Frag} {m : Str} {l : List Str} (h : (Fb.isxs m l).ok K = true) : IsxsP (isxK K) (fun x => .ref (He.ga K x)) m l := by
  intro i j x y hi hj
  have h1 := List.all_eq_true.mp (show isxsB K m l = true from h) (x, i) (List.mem_zipIdx_iff_getElem?.mpr hi)
  obtain ⟨h2, h3⟩ := He.ba h1
  obtain ⟨h4, h5⟩ := He.ba h3
  exact ⟨of_decide_eq_true (List.all_eq_true.mp h2 (y, j) (List.mem_zipIdx_iff_getElem?.mpr hj)), of_decide_eq_true h4, of_decide_eq_true h5⟩
theorem isx_ok {K : PySem.W.Frag} {t c : He.Dv} {b : Bool} (h : (Fb.isx t c b).ok K = true) : isxK K (cvD K t) (cvD K c) = some b := of_decide_eq_true h
end T

/-! T: the head's run in parts: what it looks at is asked by several theorems, each a run of its own (the kernel's memory). -/
namespace T
open PySem PySem.Spec PyProof.Rows L2
noncomputable def runO (r : PySem.W.OpenRow) (M : Nat) (w : World) (os : OsState) : Option PySem.W.SharedT := HandSHeadRun.endF (HandSHeadRun.stepQ (HandSHeadRun.denQ HandSHeadRun.tabQ) r.prog w) M r.prog w os
def RunM (r : PySem.W.OpenRow) (n M : Nat) (w : World) (fa : List He.Fa) (fn : List He.DefD) (fb : List Fb) : Prop := ∀ os : OsState, (runO r M w os).map (fun s => obsM n fa fn fb (HandSHeadRun.getT s)) = some (He.valD fn, true)
theorem RunM.append {r : PySem.W.OpenRow} {n M : Nat} {w : World} {fa fa' : List He.Fa} {fn fn' : List He.DefD} {fb fb' : List Fb} (a : RunM r n M w fa fn fb) (b : RunM r n M w fa' fn' fb') : RunM r n M w (fa ++ fa') (fn ++ fn') (fb ++ fb') := by
  intro os
  have a := a os
  have b := b os
  cases h : runO r M w os with
  | none => rw [h] at a; cases a
  | some s =>
    rw [h] at a b
    simp only [Option.map_some, Option.some.injEq, obsM, He.obsD, He.valD, Prod.mk.injEq, Bool.and_eq_true] at a b ⊢
    obtain ⟨⟨⟨a1, a2⟩, a3⟩, a4⟩ := a
    obtain ⟨⟨⟨b1, b2⟩, b3⟩, b4⟩ := b
    refine ⟨⟨⟨?_, ?_⟩, ?_⟩, ?_⟩
    · rw [List.all_append, a1, b1]; rfl
    · rw [List.all_append, a2, b2]; rfl
    · rw [List.map_append, List.map_append, a3, b3]
    · rw [List.all_append, a4, b4]; rfl
theorem run_join {r : PySem.W.OpenRow} {q : Program} {n M : Nat} {loose : List Str} {w : World} {fa : List He.Fa} {fn : List He.DefD} {fb : List Fb}
    (a : HandSHeadRun.RunEq r q (hookM n [] [] []) (fun s => obsM n [] [] [] (HandSHeadRun.getT s)) M loose w) (b : RunM r n M w fa fn fb) :
    HandSHeadRun.RunEq r q (hookM n fa fn fb) (fun s => obsM n fa fn fb (HandSHeadRun.getT s)) M loose w := by
  intro os
  have a := a os
  have b := b os
  unfold runO at b
  generalize HandSHeadRun.endF (HandSHeadRun.stepQ (HandSHeadRun.denQ HandSHeadRun.tabQ) r.prog w) M r.prog w os = o at a b ⊢
  cases o with
  | none => cases a
  | some s =>
    have e := Option.some.inj a
    have f := Option.some.inj b
    have a1 := congrArg (fun z => z.1) e
    have a2 := congrArg (fun z => z.2.1) e
    exact congrArg some (Prod.ext a1 (Prod.ext a2 f))
end T

namespace G
open PySem PySem.Spec PyProof.Rows L2 T
def top (i : Nat) : Stmt := PySem.Challenge.pw_lawfulpages_k00_errors_and_places.main.body.getD i (.Pass ⟨0, 0, 0, 0⟩)
def d_is_integer : He.DefD := ⟨("is_integer", none), "is_integer", "is_integer", defArgs (top 26), defBody (top 26), defScope (top 26), [], []⟩
def d_is_below : He.DefD := ⟨("is_below", none), "is_below", "is_below", defArgs (top 27), defBody (top 27), defScope (top 27), [], []⟩
def d_is_mark : He.DefD := ⟨("is_mark", none), "is_mark", "is_mark", defArgs (top 28), defBody (top 28), defScope (top 28), [], []⟩
def d_forest_in : He.DefD := ⟨("forest_in", none), "forest_in", "forest_in", defArgs (top 30), defBody (top 30), defScope (top 30), [], []⟩
def d_is_forest : He.DefD := ⟨("is_forest", none), "is_forest", "is_forest", defArgs (top 32), defBody (top 32), defScope (top 32), [], []⟩
def d_need_document : He.DefD := ⟨("need_document", none), "need_document", "need_document", defArgs (top 33), defBody (top 33), defScope (top 33), [], []⟩
def d_need_node : He.DefD := ⟨("need_node", none), "need_node", "need_node", defArgs (top 34), defBody (top 34), defScope (top 34), [], []⟩
def d_parents_of : He.DefD := ⟨("parents_of", none), "parents_of", "parents_of", defArgs (top 35), defBody (top 35), defScope (top 35), [], []⟩
def d_end_of : He.DefD := ⟨("end_of", none), "end_of", "end_of", defArgs (top 36), defBody (top 36), defScope (top 36), [], []⟩
def d_row_of : He.DefD := ⟨("row_of", none), "row_of", "row_of", defArgs (top 37), defBody (top 37), defScope (top 37), [], []⟩
def d_is_place : He.DefD := ⟨("is_place", none), "is_place", "is_place", defArgs (top 38), defBody (top 38), defScope (top 38), [], []⟩
def d_children : He.DefD := ⟨("children", none), "children", "children", defArgs (top 40), defBody (top 40), defScope (top 40), [], []⟩
def d_place_of : He.DefD := ⟨("place_of", none), "place_of", "place_of", defArgs (top 41), defBody (top 41), defScope (top 41), [], []⟩
def d_node_at : He.DefD := ⟨("node_at", none), "node_at", "node_at", defArgs (top 42), defBody (top 42), defScope (top 42), [], []⟩
def d_read_document : He.DefD := ⟨("read_document", none), "read_document", "read_document", defArgs (top 43), defBody (top 43), defScope (top 43), [], []⟩
def d__law_feed : He.DefD := ⟨("_law_feed", none), "_law_feed", "_law_feed", defArgs (top 45), defBody (top 45), defScope (top 45), [], []⟩
def d__law_draw : He.DefD := ⟨("_law_draw", none), "_law_draw", "_law_draw", defArgs (top 46), defBody (top 46), defScope (top 46), [], []⟩
def d__law_one : He.DefD := ⟨("_law_one", none), "_law_one", "_law_one", defArgs (top 47), defBody (top 47), defScope (top 47), [], []⟩
def d__law_made : He.DefD := ⟨("_law_made", none), "_law_made", "_law_made", defArgs (top 48), defBody (top 48), defScope (top 48), [], []⟩
def d__law_kinds : He.DefD := ⟨("_law_kinds", none), "_law_kinds", "_law_kinds", defArgs (top 49), defBody (top 49), defScope (top 49), [], []⟩
def d__law_asked_one : He.DefD := ⟨("_law_asked_one", none), "_law_asked_one", "_law_asked_one", defArgs (top 50), defBody (top 50), defScope (top 50), [], []⟩
def d__law_document : He.DefD := ⟨("_law_document", none), "_law_document", "_law_document", defArgs (top 51), defBody (top 51), defScope (top 51), [], []⟩
def d__law_grown : He.DefD := ⟨("_law_grown", none), "_law_grown", "_law_grown", defArgs (top 52), defBody (top 52), defScope (top 52), [], []⟩
def d__law_drawn : He.DefD := ⟨("_law_drawn", none), "_law_drawn", "_law_drawn", defArgs (top 53), defBody (top 53), defScope (top 53), [], []⟩
def d__law_parents : He.DefD := ⟨("_law_parents", none), "_law_parents", "_law_parents", defArgs (top 54), defBody (top 54), defScope (top 54), [], []⟩
def d__law_children : He.DefD := ⟨("_law_children", none), "_law_children", "_law_children", defArgs (top 55), defBody (top 55), defScope (top 55), [], []⟩
def d__law_near : He.DefD := ⟨("_law_near", none), "_law_near", "_law_near", defArgs (top 56), defBody (top 56), defScope (top 56), [], []⟩
def d__law_asked : He.DefD := ⟨("_law_asked", none), "_law_asked", "_law_asked", defArgs (top 57), defBody (top 57), defScope (top 57), [], []⟩
def d__law_asked_two : He.DefD := ⟨("_law_asked_two", none), "_law_asked_two", "_law_asked_two", defArgs (top 58), defBody (top 58), defScope (top 58), [], []⟩
def d_law : He.DefD := ⟨("law", none), "law", "law", defArgs (top 59), defBody (top 59), defScope (top 59), [], []⟩
def st_BadText : Stmt := (clsB (top 5)).getD 0 (.Pass ⟨0, 0, 0, 0⟩)
def di_BadText : He.DefD := ⟨("BadText", some "__init__"), "__init__", "BadText.__init__", defArgs st_BadText, defBody st_BadText, defScope st_BadText, [], []⟩
def fn : List He.DefD := d_is_integer :: d_is_below :: d_is_mark :: d_forest_in :: d_is_forest :: d_need_document :: d_need_node :: d_parents_of :: d_end_of :: d_row_of :: d_is_place :: d_children :: d_place_of :: d_node_at :: d_read_document :: d__law_feed :: d__law_draw :: d__law_one :: d__law_made :: d__law_kinds :: d__law_asked_one :: d__law_document :: d__law_grown :: d__law_drawn :: d__law_parents :: d__law_children :: d__law_near :: d__law_asked :: d__law_asked_two :: d_law :: di_BadText :: []
def fa : List He.Fa := .glo "is_integer" :: .glo "is_below" :: .glo "is_mark" :: .glo "forest_in" :: .glo "is_forest" :: .glo "need_document" :: .glo "need_node" :: .glo "parents_of" :: .glo "end_of" :: .glo "row_of" :: .glo "is_place" :: .glo "children" :: .glo "place_of" :: .glo "node_at" :: .glo "read_document" :: .glo "_law_feed" :: .glo "_law_draw" :: .glo "_law_one" :: .glo "_law_made" :: .glo "_law_kinds" :: .glo "_law_asked_one" :: .glo "_law_document" :: .glo "_law_grown" :: .glo "_law_drawn" :: .glo "_law_parents" :: .glo "_law_children" :: .glo "_law_near" :: .glo "_law_asked" :: .glo "_law_asked_two" :: .glo "law" :: .free "ValueError" :: .free "bool" :: .free "enumerate" :: .free "int" :: .free "isinstance" :: .free "len" :: .free "max" :: .free "min" :: .free "range" :: .free "repr" :: .free "str" :: .free "sum" :: .free "tuple" :: .glo "MatchError" :: .glo "BadDocument" :: .exc "BadDocument" :: .glo "BadNode" :: .exc "BadNode" :: .glo "BadPlace" :: .exc "BadPlace" :: .glo "BadText" :: .glo "BadEdit" :: .exc "BadEdit" :: .glo "BadPairs" :: .exc "BadPairs" :: .glo "BadSaying" :: .exc "BadSaying" :: .glo "BadNodes" :: .exc "BadNodes" :: .glo "BadNames" :: .exc "BadNames" :: .glo "BadMachine" :: .exc "BadMachine" :: .glo "BadLaying" :: .exc "BadLaying" :: .glo "BadMachines" :: .exc "BadMachines" :: .glo "BadName" :: .exc "BadName" :: .glo "TooMany" :: .exc "TooMany" :: .glo "BadSayings" :: .exc "BadSayings" :: .glo "BadShape" :: .exc "BadShape" :: .glo "BadCount" :: .exc "BadCount" :: .glo "BadBalance" :: .exc "BadBalance" :: .glo "BadNumber" :: .exc "BadNumber" :: .glo "BadEdition" :: .exc "BadEdition" :: .glo "BadIndex" :: .exc "BadIndex" :: .exm "BadNode" "MatchError" true :: .exm "BadText" "MatchError" true :: .exm "BadPlace" "BadPlace" true :: .str "MARKS" "abcdefgh" :: .int "MOST_NODES" 20000 :: []
def fb : List Fb := .ini "BadText" "MatchError" "place" :: .isxs "MatchError" ("BadDocument" :: "BadNode" :: "BadPlace" :: "BadText" :: "BadEdit" :: "BadPairs" :: "BadSaying" :: "BadNodes" :: "BadNames" :: "BadMachine" :: "BadLaying" :: "BadMachines" :: "BadName" :: "TooMany" :: "BadSayings" :: "BadShape" :: "BadCount" :: "BadBalance" :: "BadNumber" :: "BadEdition" :: "BadIndex" :: []) :: []
def loose : List Str := "MatchError" :: "BadDocument" :: "BadNode" :: "BadPlace" :: "BadText" :: "BadEdit" :: "BadPairs" :: "BadSaying" :: "BadNodes" :: "BadNames" :: "BadMachine" :: "BadLaying" :: "BadMachines" :: "BadName" :: "TooMany" :: "BadSayings" :: "BadShape" :: "BadCount" :: "BadBalance" :: "BadNumber" :: "BadEdition" :: "BadIndex" :: "MARKS" :: "MOST_NODES" :: "is_integer" :: "is_below" :: "is_mark" :: "forest_in" :: "is_forest" :: "need_document" :: "need_node" :: "parents_of" :: "end_of" :: "row_of" :: "is_place" :: "children" :: "place_of" :: "node_at" :: "read_document" :: "_law_feed" :: "_law_draw" :: "_law_one" :: "_law_made" :: "_law_kinds" :: "_law_asked_one" :: "_law_document" :: "_law_grown" :: "_law_drawn" :: "_law_parents" :: "_law_children" :: "_law_near" :: "_law_asked" :: "_law_asked_two" :: []
abbrev R : PySem.W.OpenRow := PySem.W.OpenLaw.row PySem.Challenge.rw_lawfulpages_k00_errors_and_places
abbrev hk : PySem.W.Hook := hookM 4 fa fn fb
def ob (s : PySem.W.SharedT) : AlM := obsM 4 fa fn fb (HandSHeadRun.getT s)
theorem ob_eq (s : PySem.W.SharedT) : ob s = hk.obs s.abs := obsM_eq (HandSHeadRun.getT_eq s)
theorem run (w : World) : HandSHeadRun.RunEq R (PySem.W.view R.prog [59]) hk ob 6000 loose w := by
  intro os
  kernel_rfl
end G

/-! T: isinstance of an error, of several classes. -/
namespace T
open PySem PySem.Spec PyProof.Rows L2
def isxA (f : Value → Value → Option Bool) (M : Ms) (d : Tr) : List Tr → Option Bool
  | [] => some false
  | c :: r => match isxC f M d c with
    | some true => some true
    | some false => isxA f M d r
    | none => none
def rIsxT (f : Value → Value → Option Bool) : RC2 := c2 fun d e M Q => ∃ a D c l b, d = .loc a ∧ M a = some (.exc (.ref D) none) ∧ e = .tup (c :: l) ∧ isxA f M d (c :: l) = some b ∧ Q (.bl b) M
section
variable {X : Cx}
theorem isxA_kit {K : PySem.W.Frag} {M : Ms} {H : Hp} {a D : Addr} (ha : M a = some (.exc (.ref D) none)) (hD : excB K D = true) : ∀ {l : List Tr} {xs : List V} {us : List Value} {b : Bool},
    RepL K H l xs → Vals xs us → isxA (isxK K) M (.loc a) l = some b → PySem.W.kitAny K (.ref D) us = some b
  | [], xs, us, b, r, v, h => by
    cases (show xs = [] from r)
    cases v
    exact h
  | c :: l, xs, us, b, r, v, h => by
    obtain ⟨x, xr, rfl, r1, r2⟩ := r
    cases v with
    | cons v1 v2 =>
    rename_i u ur
    have one : ∀ b1, isxC (isxK K) M (.loc a) c = some b1 → PySem.W.kitOne K (.ref D) u = some b1 := fun b1 e => by
      cases c with
      | loc C =>
        cases r1
        cases (show u = Value.ref C from v1)
        have e2 : isxT (isxK K) (.ref C) M (.loc a) = some b1 := e
        rw [isxT_of ha] at e2
        have e3 : (if excB K D = true then PySem.W.kitOne K (.ref D) (.ref C) else none) = some b1 := e2
        rwa [if_pos hD] at e3
      | ty n =>
        cases r1
        cases (show u = Value.type n from v1)
        have e2 : isxT (isxK K) (.type n) M (.loc a) = some b1 := e
        rw [isxT_of ha] at e2
        have e3 : (if excB K D = true then PySem.W.kitOne K (.ref D) (.type n) else none) = some b1 := e2
        rwa [if_pos hD] at e3
      | _ => cases e
    have h' : (match isxC (isxK K) M (.loc a) c with | some true => some true | some false => isxA (isxK K) M (.loc a) l | none => none) = some b := h
    unfold PySem.W.kitAny
    cases hc : isxC (isxK K) M (.loc a) c with
    | none => rw [hc] at h'; cases h'
    | some b1 =>
      rw [hc] at h'
      rw [one b1 hc]
      cases b1 with
      | true => exact h'
      | false => exact isxA_kit ha hD r2 v2 h'
theorem isxA_exc {K : PySem.W.Frag} {M : Ms} {a D : Addr} (ha : M a = some (.exc (.ref D) none)) {c : Tr} {l : List Tr} {b : Bool} (h : isxA (isxK K) M (.loc a) (c :: l) = some b) : excB K D = true := by
  have h' : (match isxC (isxK K) M (.loc a) c with | some true => some true | some false => isxA (isxK K) M (.loc a) l | none => none) = some b := h
  cases hc : isxC (isxK K) M (.loc a) c with
  | none => rw [hc] at h'; cases h'
  | some b1 =>
    have key : ∀ v, isxT (isxK K) v M (.loc a) = some b1 → excB K D = true := fun v e => by
      rw [isxT_of ha] at e
      have e3 : (if excB K D = true then PySem.W.kitOne K (.ref D) v else none) = some b1 := e
      split at e3
      · assumption
      · cases e3
    cases c with
    | loc C => exact key _ hc
    | ty n => exact key _ hc
    | _ => cases hc
theorem b_isxT : CallR X (.builtin "isinstance") (lfC X.K (rIsxT (isxK X.K))) := by
  intro pins s σ H xs us Q I rv ⟨ds, M, Q', rd, sm, q, hq⟩
  match ds, q with
  | [d, e], q =>
    obtain ⟨x, y, rfl, r1, r2⟩ := two_of rd
    obtain ⟨a, D, c, l, b, rfl, ha, rfl, e1, q⟩ := q
    obtain ⟨u1, u2, rfl, v1, v2⟩ := vals2 rv
    have fin : ∀ tk, (EP X pins σ Q) (.bool b) { s with toks := tk } := fun tk => ⟨.bl b, H, I.tok tk, rfl, hq (.bl _) M _ H Tx.refl rfl sm q⟩
    cases r1
    cases (show u1 = Value.ref a from v1)
    obtain ⟨tp, xs, rfl, hsq, rl⟩ := r2
    cases (show u2 = Value.ref tp from v2)
    obtain ⟨its, vs, ⟨o, ho, hcl, n, hdt⟩, _⟩ := I.tuple hsq
    have z : H a = some (exT (.ref D) none a) := sm a _ ha
    obtain ⟨⟨oe, ve, heo, hz, hd⟩, _, _⟩ := (show ObjOk X.prog X.w H s.heap a (exT (.ref D) none a) from I.hok a _ z)
    have hD := isxA_exc ha e1
    have C := excB_ok hD
    have J : PySem.W.InstAt s.heap a oe D none := by
      obtain ⟨oc, od, oda, osl⟩ := oe
      obtain ⟨h1, h2⟩ := hz
      dsimp only at h1 h2 hd
      subst h1 h2 hd
      exact ⟨heo, rfl, rfl, trivial⟩
    obtain ⟨oc, od, oda, osl⟩ := o
    dsimp only at hcl hdt
    subst hcl hdt
    exact PySem.W.kia_tup (PySem.W.handS_kitx_exc C.hg C.hk C.hs C.hd C.ha C.hn C.ht C.hm) I.kIn J ho (isxA_kit ha hD rl vs e1) (fun z => nomatch z) fin
end
/-- isinstance, of several classes: one stops here -/
def IsxTS (f : Value → Value → Option Bool) (d e : Tr) (M : Ms) (Q : Q2) (_ : Fx Q) : Prop := rIsxT f [d, e] M Q
@[simp ↓] theorem rIsxT_ap {f : Value → Value → Option Bool} {d e : Tr} {M : Ms} {Q : Q2} : rIsxT f [d, e] M Q = IsxTS f d e M Q .mk := rfl
theorem isxT3 {cn : Cn} {y x1 x2 x3 : Str} {a : Addr} {M : Ms} {Q : Q2} {z : Fx Q} (e : M a = some (.exc (cn.cl y) none)) (h1 : cn.isx (cn.cl y) (cn.cl x1) = some false) (h2 : cn.isx (cn.cl y) (cn.cl x2) = some false) (h3 : cn.isx (cn.cl y) (cn.cl x3) = some false) (q : Q (.bl false) M) :
    IsxTS cn.isx (.loc a) (.tup [.loc (cn.ad x1), .loc (cn.ad x2), .loc (cn.ad x3)]) M Q z := by
  refine ⟨a, cn.ad y, _, _, false, rfl, e, rfl, ?_, q⟩
  have k1 : isxC cn.isx M (.loc a) (.loc (cn.ad x1)) = some false := (isxT_of e).trans h1
  have k2 : isxC cn.isx M (.loc a) (.loc (cn.ad x2)) = some false := (isxT_of e).trans h2
  have k3 : isxC cn.isx M (.loc a) (.loc (cn.ad x3)) = some false := (isxT_of e).trans h3
  unfold isxA; rw [k1]
  show isxA _ _ _ _ = _
  unfold isxA; rw [k2]
  show isxA _ _ _ _ = _
  unfold isxA; rw [k3]
  rfl
end T

/-! T: errors made as values; isinstance of errors that may have a dict. -/
namespace T
open PySem PySem.Spec PyProof.Rows L2
/-! ### C(e), C without an own __init__ -/
def NewE (M : Ms) (C : Value) (Q : Q2) (_ : Fx Q) : Prop := ∀ a, M a = none → Q (.loc a) (up M a (.exc C none))
def eMkX (C : Value) (te : TE2) : TE2 := fun σ M Q E => te σ M (fun _ M1 => NewE M1 C Q .mk) E
@[simp ↓] theorem eMkX_ap {C : Value} {te : TE2} {σ : St2} {M : Ms} {Q : Q2} {E : X2} : eMkX C te σ M Q E = te σ M (fun _ M1 => NewE M1 C Q .mk) E := rfl
section
variable {X : Cx} {W : L2.WX} {x : Str} {C : Addr} {e : Expr} {te : TE2} {p pos : Pos}
theorem qe_mkX (q : PySem.W.excIn X.K C He.veBase "ValueError.__new__" = true ∧ PySem.W.keepIn X.K (.ref C) = true ∧ PySem.W.subIn X.K (.ref C) (.type "BaseException") = some true ∧ PySem.W.typeIn X.K (.ref C) = some (.type "type"))
    (gC : X.mg x = some (.ref C)) (he : QE X W e te) (hg : Gl X x := by rfl) (hs : starEach [e] X.env = (false, eval e X.env) :: starEach [] X.env := by rfl) (hdb : (x == ("__debug__" : Str)) = false := by decide) :
    QE X W (.Call (.Name x p) [e] [] pos) (eMkX (.ref C) te) := by
  refine ⟨fun pins s σ H Q I ⟨σ', M, Q', E', hsm, hm, h, hq, hx⟩ => ?_⟩
  refine wpAny_Call_Name_kw (ld_glob I hg gC ?_ hdb)
  refine PySem.W.callWith_K (h₀ := X.base) I.ok.mod.kin q.2.1 ?_ hs (by rfl)
  rw [hs]
  show wpAny _ _ (spliced ((false, eval e X.env) :: backTo pos (starEach [] X.env))) _ _ s
  refine Calls.spliced_cons (thn (he.run pins s σ H (fun x H1 => ∃ d M1, Tx X.K H H1 ∧ Rep X.K H1 d x ∧ SimM X.K H1 M1 ∧ NewE M1 (.ref C) Q' .mk) I ⟨σ', M, _, E', hsm, hm, h, fun d M1 x H1 t1 r1 s1 q1 => ⟨d, M1, t1, r1, s1, q1⟩, hx⟩) fun u s1 hh => ?_)
  obtain ⟨v, H1, I1, rv, d, M1, t1, rd, sm1, q1⟩ := hh
  refine Calls.spliced_nil ⟨I1.kIn, ?_⟩
  show wpAny _ _ (call (.ref C) [u]) _ _ _
  obtain ⟨bm, N, nm, qn, bs, hdct, sn, sub, ab, col, dd, k0, k1, k2, k3, k5, mN, hC, hN, hni, T⟩ := exc_obj I1.kIn q.1
  refine wpAny_call_exc_subT PySem.F.excBase_ValueError T hC hN hni (fun h' a hm2 => ?_) (by show 1 ≤ sizeLine; rw [sizeLine_eq]; omega)
  have hn : H1 a = none := I1.hok.gone hm2.new
  obtain ⟨t, ht, _, _⟩ := hm2.there
  have T2 : Tx X.K H1 (upd H1 a (exT (.ref C) none a)) := Tx.new hn
  exact ⟨.ref a, upd H1 a (exT (.ref C) none a), I1.laidN hm2.keeps hm2.new hn (exT_ok ht ⟨rfl, rfl⟩ rfl), rfl, hq (.loc a) _ (.ref a) _ (t1.trans T2) rfl (sm1.put (m := .exc (.ref C) none) T2 upd_same) (q1 a (sm1.free hn))⟩
end
/-! ### isinstance of an error, with a dict or without -/
def isxD (f : Value → Value → Option Bool) (c : Value) (M : Ms) : Tr → Option Bool
  | .loc a => (match M a with
    | some (.exc (.ref D) none) => f (.ref D) c
    | some (.exc (.ref D) (some dx)) => (match M dx with
      | some (.xd _) => f (.ref D) c
      | _ => none)
    | _ => none)
  | _ => none
def isxDC (f : Value → Value → Option Bool) (M : Ms) (d : Tr) : Tr → Option Bool
  | .loc C => isxD f (.ref C) M d
  | .ty n => isxD f (.type n) M d
  | _ => none
def rIsxD (f : Value → Value → Option Bool) : RC2 := c2 fun d e M Q => ∃ b, isxDC f M d e = some b ∧ Q (.bl b) M
theorem isxD_loc {f : Value → Value → Option Bool} {c : Value} {M : Ms} {d : Tr} {b : Bool} (h : isxD f c M d = some b) : ∃ a D dd, d = .loc a ∧ M a = some (.exc (.ref D) dd) ∧ (∀ dx, dd = some dx → ∃ fs, M dx = some (.xd fs)) ∧ f (.ref D) c = some b := by
  cases d with
  | loc a =>
    have e : (match M a with
      | some (.exc (.ref D) none) => f (.ref D) c
      | some (.exc (.ref D) (some dx)) => (match M dx with
        | some (.xd _) => f (.ref D) c
        | _ => none)
      | _ => none) = some b := h
    split at e
    · rename_i D q
      exact ⟨a, D, none, rfl, q, (fun _ z => nomatch z), e⟩
    · rename_i D dx q
      split at e
      · rename_i fs q2
        exact ⟨a, D, some dx, rfl, q, (fun _ z => by cases z; exact ⟨fs, q2⟩), e⟩
      · cases e
    · cases e
  | _ => cases h
theorem isxD_of {f : Value → Value → Option Bool} {c : Value} {M : Ms} {a D : Addr} (h : M a = some (.exc (.ref D) none)) : isxD f c M (.loc a) = f (.ref D) c := by
  show (match M a with
      | some (.exc (.ref D) none) => f (.ref D) c
      | some (.exc (.ref D) (some dx)) => (match M dx with
        | some (.xd _) => f (.ref D) c
        | _ => none)
      | _ => none) = _
  rw [h]
theorem isxD_ofD {f : Value → Value → Option Bool} {c : Value} {M : Ms} {a D dx : Addr} {fs : List (Str × Tr)} (h : M a = some (.exc (.ref D) (some dx))) (h2 : M dx = some (.xd fs)) : isxD f c M (.loc a) = f (.ref D) c := by
  show (match M a with
      | some (.exc (.ref D) none) => f (.ref D) c
      | some (.exc (.ref D) (some dx)) => (match M dx with
        | some (.xd _) => f (.ref D) c
        | _ => none)
      | _ => none) = _
  rw [h]
  show (match M dx with
        | some (.xd _) => f (.ref D) c
        | _ => none) = _
  rw [h2]
section
variable {X : Cx}
theorem isxD_run {pins : List (Addr × Obj)} {σ : L2.St} {H : Hp} {s : Shared} {Q : Value → Shared → Prop} {M : Ms} {d : Tr} {x : V} {u c : Value} {b : Bool} {E : Value → Shared → Prop} {A : Around}
    (I : L2.Inv X pins σ H s) (sm : SimM X.K H M) (rd : Rep X.K H d x) (rx : RelV x u) (e : isxD (isxK X.K) c M d = some b) (h : ∀ tk, Q (.bool b) { s with toks := tk }) : wpAny (model X.prog X.w) A (call (.builtin "isinstance") [u, c]) Q E s := by
  obtain ⟨a, D, dd, rfl, ea, hdd, e2⟩ := isxD_loc e
  cases rd
  cases (show u = Value.ref a from rx)
  have z : H a = some (exT (.ref D) dd a) := sm a _ ea
  obtain ⟨⟨oe, vs, ho, hz, hd⟩, _, _⟩ := (show ObjOk X.prog X.w H s.heap a (exT (.ref D) dd a) from I.hok a _ z)
  have e3 : (if excB X.K D = true then PySem.W.kitOne X.K (.ref D) c else none) = some b := e2
  split at e3
  · rename_i hD
    have C := excB_ok hD
    have hcl : (PySem.W.clsIn X.K D).isSome = true := by
      obtain ⟨cd, hc, _⟩ := PySem.W.any_some C.hd
      rw [hc]; rfl
    obtain ⟨oc, od, oda, osl⟩ := oe
    obtain ⟨h1, h2⟩ := hz
    dsimp only at h1 h2 hd
    subst h1 h2 hd
    cases od with
    | none =>
      have J : PySem.W.InstAt s.heap a ⟨.ref D, none, .fields vs, osl⟩ D none := ⟨ho, rfl, rfl, trivial⟩
      exact PySem.W.kia_one (PySem.W.kitx_exc hcl C.hg C.hk C.hs C.ha C.hn C.ht C.hm) I.kIn J e3 (fun z => nomatch z) h
    | some dx =>
      obtain ⟨fs, ef⟩ := hdd dx rfl
      obtain ⟨xs, hxs, ke, rl⟩ := sm dx _ ef
      have hX : ObjOk X.prog X.w H s.heap dx (.xd xs) := I.hok dx _ hxs
      obtain ⟨mA, hns, hr⟩ := hX
      obtain ⟨ob, hob, hl⟩ := lookIn_ns hns
      have J : PySem.W.InstAt s.heap a ⟨.ref D, some dx, .fields vs, osl⟩ D (some ob) := ⟨ho, rfl, rfl, hob⟩
      exact PySem.W.kia_one (PySem.W.kitx_exc hcl C.hg C.hk C.hs C.ha C.hn C.ht C.hm) I.kIn J e3 (fun z => nomatch z) h
  · cases e3
theorem b_isxD : CallR X (.builtin "isinstance") (lfC X.K (rIsxD (isxK X.K))) := by
  intro pins s σ H xs us Q I rv ⟨ds, M, Q', rd, sm, q, hq⟩
  match ds, q with
  | [d, e], q =>
    obtain ⟨x, y, rfl, r1, r2⟩ := two_of rd
    obtain ⟨b, e1, q⟩ := q
    obtain ⟨u1, u2, rfl, v1, v2⟩ := vals2 rv
    have fin : ∀ tk, (EP X pins σ Q) (.bool b) { s with toks := tk } := fun tk => ⟨.bl b, H, I.tok tk, rfl, hq (.bl _) M _ H Tx.refl rfl sm q⟩
    cases e with
    | loc C =>
      cases r2
      cases (show u2 = Value.ref C from v2)
      exact isxD_run I sm r1 v1 e1 fin
    | ty n =>
      cases r2
      cases (show u2 = Value.type n from v2)
      exact isxD_run I sm r1 v1 e1 fin
    | _ => cases e1
end
/-- isinstance: one stops here -/
def IsxDS (f : Value → Value → Option Bool) (d e : Tr) (M : Ms) (Q : Q2) (_ : Fx Q) : Prop := ∃ b, isxDC f M d e = some b ∧ Q (.bl b) M
@[simp ↓] theorem rIsxD_ap {f : Value → Value → Option Bool} {d e : Tr} {M : Ms} {Q : Q2} : rIsxD f [d, e] M Q = IsxDS f d e M Q .mk := rfl
/-- an error of the class C stands at a -/
def ErrAt (M : Ms) (a : Addr) (C : Value) : Prop := ∃ dd, M a = some (.exc C dd) ∧ ∀ dx, dd = some dx → ∃ fs, M dx = some (.xd fs)
theorem ErrAt.isx {cn : Cn} {M : Ms} {a : Addr} {y : Str} {c : Value} (h : ErrAt M a (cn.cl y)) : isxD cn.isx c M (.loc a) = cn.isx (cn.cl y) c := by
  obtain ⟨dd, e, h⟩ := h
  cases dd with
  | none => exact isxD_of e
  | some dx =>
    obtain ⟨fs, ef⟩ := h dx rfl
    exact isxD_ofD e ef
theorem ErrAt.s {cn : Cn} {M : Ms} {a : Addr} {x y : Str} {Q : Q2} {z : Fx Q} {b : Bool} (h : ErrAt M a (cn.cl y)) (e : cn.isx (cn.cl y) (cn.cl x) = some b) (q : Q (.bl b) M) : IsxDS cn.isx (.loc a) (.loc (cn.ad x)) M Q z :=
  ⟨b, h.isx.trans e, q⟩
theorem ErrAt.sT {cn : Cn} {M : Ms} {a : Addr} {n : String} {y : Str} {Q : Q2} {z : Fx Q} {b : Bool} (h : ErrAt M a (cn.cl y)) (e : cn.isx (cn.cl y) (.type n) = some b) (q : Q (.bl b) M) : IsxDS cn.isx (.loc a) (.ty n) M Q z :=
  ⟨b, h.isx.trans e, q⟩
end T

/-! T: errors made as values by a class with an own __init__, by position or by name. -/
namespace PySem
namespace OEK
open PySem.W PySem.Calls PyProof.Rows PySem.HandSPX PySem.Spec
section
variable {M : Model} {A : Around} {E : Value → Shared → Prop} {h : Heap} {g : Array GenState} {d : Drawn} {t : Nat} {os : OsState}
variable {nm q : Str} {C N : Addr} {bs bm bmB : List Value} {hdct : Bool} {sn : List Str} {sub : List Value} {ab : Bool} {col : Option Bool} {dd : Option Addr} {k0 k1 k2 k3 k5 : Option Value} {B newId initId : String}
theorem check_newK (F : ExcBaseFacts B newId initId bmB) (hT : ∀ X : String, bm.contains (.type X) = bmB.contains (.type X)) {n : Str} {v : Value} {Q : Unit → Shared → Prop}
    (hC : h.get? C = some (excClassObj nm q C N bs bm hdct sn sub ab col dd k0 k1 k2 k3 k5 newId)) (hq : Q () ⟨h, g, d, t, os⟩) : wpAny M A (checkBuiltinCall newId ⟨[.ref C], [(n, v)]⟩) Q E ⟨h, g, d, t, os⟩ := by
  have hcont : (Value.ref C :: bm).contains (.type B) = true := by rw [List.contains_cons, hT, F.hasB, Bool.or_true]
  have hstar := F.noStar
  simp only [checkBuiltinCall, F.newKind, F.newSplit, F.newRow]
  repeat (first | refine wpAny_loadPart_at hC ?_ | (refine wpAny_isSubtype_exc hC ?_; rw [hcont]) | refine wpAny_staticBase_exc hC ?_ | refine wpAny_madeBy_exc hC ?_ | simp only [bne_self_eq_false, Bool.false_eq_true, if_false] | wp_step)
  exact hq
end
section
variable {prog : Program} {w : World} {A : Around} {E : Value → Shared → Prop} {R : Result → Shared → Prop} {h : Heap} {g : Array GenState} {d : Drawn} {t : Nat} {os : OsState}
variable {nm q : Str} {C N : Addr} {bs bm bmB : List Value} {hdct : Bool} {sn : List Str} {sub : List Value} {ab : Bool} {col : Option Bool} {dd : Option Addr} {k0 k1 k2 k3 k5 : Option Value} {B newId initId : String}
theorem newK (F : ExcBaseFacts B newId initId bmB) (hT : ∀ X : String, bm.contains (.type X) = bmB.contains (.type X)) {n : Str} {v : Value}
    (hC : h.get? C = some (excClassObj nm q C N bs bm hdct sn sub ab col dd k0 k1 k2 k3 k5 newId))
    (hq : R (.ok (.ret (.ref (h.objs.size + 1)))) ⟨(h.push { cls := .type "tuple", data := .seq #[] }).push
      { cls := .ref C, data := .fields #[.ref h.objs.size, .none, .none, .none, .bool false, .none] }, g, d, t, os⟩) :
    codeAny (model prog w) A (.builtin newId ⟨[.ref C], [(n, v)]⟩) R ⟨h, g, d, t, os⟩ := by
  have hends := F.ends
  have hcB : (Value.ref C :: bm).contains (.type B) = true := by rw [List.contains_cons, hT, F.hasB, Bool.or_true]
  have hcA : (Value.ref C :: bm).contains (.type "AttributeError") = false := by rw [List.contains_cons, hT, F.noAttr]; rfl
  have hcN : (Value.ref C :: bm).contains (.type "NameError") = false := by rw [List.contains_cons, hT, F.noName]; rfl
  have hrest : ([] : List Value).length ≤ sizeLine := Nat.zero_le _
  refine codeAny_builtinAt F.entry ?_
  unfold Builtin.«BaseException.__new__»
  refine wpAt_bind ?_
  show wpAt _ _ _ (stack >>= _) _ _ _
  refine wpAt_bind (wpAt_stack fun p below => wpAt_of_wpAny ?_)
  wp_walk
  refine wpAt_of_wpAny ?_
  rw [F.owner]
  repeat (first | with_reducible refine wpAny_madeHere_exc F.canon hC ?_ | with_reducible refine wpAny_loadPart_at hC ?_ | (with_reducible refine wpAny_isSubtype_exc hC ?_; first | rw [hcB] | rw [hcA] | rw [hcN]) | wp_step)
  show R _ _
  rw [Heap.size_push]
  exact hq
theorem type_callK (F : ExcBaseFacts B newId initId bmB) (hT : ∀ X : String, bm.contains (.type X) = bmB.contains (.type X)) {n : Str} {v : Value} {fI : Addr} {Q : Fin → Shared → Prop}
    (hC : h.get? C = some (excClassObj nm q C N bs bm hdct sn sub ab col dd k0 k1 k2 k3 k5 newId))
    (hi : W.Looks (model prog w) h (typeLookup (.ref C) "__init__") (some (.ref fI))) (hb : ∀ self, W.Looks (model prog w) h (bindSpecial (.ref fI) self) (.ref fI, [self]))
    (hq : codeAny (model prog w) A (.call (.ref fI) ⟨[.ref (h.objs.size + 1)], [(n, v)]⟩)
      (fun r s' => match r with | .ok (.ret v) => v = .none ∧ Q (.done (.ret (.ref (h.objs.size + 1)))) s' | .ok _ => False | .error e => E e s')
      ⟨(h.push (W.kdv_tup [])).push (excO C h.objs.size), g, d, t, os⟩) :
    wpAny (model prog w) A (Builtin.«type.__call__» ⟨[.ref C], [(n, v)]⟩) Q E ⟨h, g, d, t, os⟩ := by
  repeat (first | with_reducible refine wpAny_loadPart_at hC ?_ | with_reducible refine wpAny_madeBy_exc hC ?_ | wp_step)
  refine codeAny_call_builtin_code (Code.quiet_builtin _ F.quiet) (check_newK F hT hC ?_)
  refine newK F hT hC ?_
  show wpAny _ _ _ _ _ _
  have k : ∀ b o, h.get? b = some o → ((h.push (W.kdv_tup [])).push (excO C h.objs.size)).get? b = some o := fun b o e => Heap.get?_push_of_some _ (Heap.get?_push_of_some _ e)
  have hC₁ := k _ _ hC
  have hget : ((h.push (W.kdv_tup [])).push (excO C h.objs.size)).get? (h.objs.size + 1) = some (excO C h.objs.size) := by heap_get
  have hcC : (Value.ref C :: bm).contains (.ref C) = true := by simp
  have i1 := hi.keeps k
  have b1 := (hb (.ref (h.objs.size + 1))).keeps k
  unfold isInstance
  repeat (first | with_reducible refine wpAny_loadPart_at hget ?_ | (with_reducible refine wpAny_isSubtype_exc hC₁ ?_; rw [hcC]) | wp_step)
  show wpAny _ _ (typeLookup (.ref C) _) _ _ _
  refine i1.at ?_
  refine wpAny_holding (wpAny_bind (b1.at ?_))
  refine wpAny_bind (wpAny_call (codeAny_mono hq fun r s' z => ?_))
  rcases r with e | (v | _ | _ | _) <;> first | exact z | exact z.elim | skip
  obtain ⟨rfl, z⟩ := z
  first
    | exact wpAny_pure (wpAny_pure z)
    | (wp_walk; exact z)
theorem call_ownK (F : ExcBaseFacts B newId initId bmB) (hT : ∀ X : String, bm.contains (.type X) = bmB.contains (.type X)) {n : Str} {v : Value} {fI : Addr}
    (hC : h.get? C = some (excClassObj nm q C N bs bm hdct sn sub ab col dd k0 k1 k2 k3 k5 newId))
    (hi : W.Looks (model prog w) h (typeLookup (.ref C) "__init__") (some (.ref fI))) (hb : ∀ self, W.Looks (model prog w) h (bindSpecial (.ref fI) self) (.ref fI, [self]))
    (hq : codeAny (model prog w) (A.under (.builtin "type.__call__" ⟨[.ref C], [(n, v)]⟩)) (.call (.ref fI) ⟨[.ref (h.objs.size + 1)], [(n, v)]⟩) (W.InitBack (h.objs.size + 1) R)
      ⟨(h.push (W.kdv_tup [])).push (excO C h.objs.size), g, d, t, os⟩) :
    codeAny (model prog w) A (.call (.ref C) ⟨[], [(n, v)]⟩) R ⟨h, g, d, t, os⟩ := by
  have f1 := tc_lookup
  have f2 := tc_bind (.ref C)
  have hTy : (⟨h, g, d, t, os⟩ : Shared).TypeIs (.ref C) "type" := ⟨_, hC, rfl⟩
  refine codeAny_of_tree ?_
  show wpAny _ _ (callAny (.ref C) _) _ _ _
  repeat (any_goals (first | assumption | with_reducible refine wpAny_loadPart_at hC ?_ | wp_step))
  refine ⟨rfl, ?_⟩
  refine codeAny_call_builtin_at (Code.quiet_builtin _ (by decide +kernel)) entry_typeCall (wpAny_check_type_call_sub hC (type_callK F hT hC hi hb ?_))
  refine codeAny_mono hq fun r s' z => ?_
  rcases r with e | (v | _ | _ | _) <;> exact z
end
end OEK
end PySem
namespace T
open PySem PySem.Spec PyProof.Rows L2
theorem mk_val {X : Cx} {pins : List (Addr × Obj)} {σ : L2.St} {H1 H2 : Hp} {hp hp2 h2 : Heap} {g1 g2 : Array GenState} {d1 d2 : Drawn} {t1 t2 : Nat} {os1 os2 : OsState} {a C d : Addr} {fs : List (Str × V)} (I1 : L2.Inv X pins σ H1 ⟨hp, g1, d1, t1, os1⟩)
    (ha : hp.objs.size ≤ a) (k : ∀ b o, hp.get? b = some o → hp2.get? b = some o) (un : Un (frs X.stack) [] (upd H1 a (exo a C none)) H2 hp2 h2) (hok : HOk X.prog X.w H2 h2) (ho : os2 = os1) (hb : AllBare g2)
    (ea : H2 a = some (exo a C (some d))) (ed : H2 d = some (exd d fs)) (hd1 : H1 d = none) :
    L2.Inv X pins σ (upd (upd H2 d (.xd fs)) a (exT (.ref C) (some d) a)) ⟨h2, g2, d2, t2, os2⟩ := by
  obtain ⟨t0, hoe⟩ := exo_at hok ea
  obtain ⟨mA, hns, rel⟩ := exd_at hok ed
  have hn : H1 a = none := I1.hok.fresh ha
  have hda : d ≠ a := fun z => by
    obtain ⟨o, es, ep, e1, e2, _⟩ := hns
    rw [z, hoe] at e1
    have z2 := Option.some.inj e1
    subst z2
    cases e2
  have nha : ∀ {b : Addr} {o : Obj}, hp.get? b = some o → b ≠ a := fun {b o} z => Nat.ne_of_lt (Nat.lt_of_lt_of_le (Heap.lt_size z) ha)
  have up : ∀ {b : Addr}, b ≠ a → H1 b = none → upd H1 a (exo a C none) b = none := fun {b} hb n => by rw [upd_ne hb]; exact n
  have nd : ∀ {b : Addr} {o : Obj}, hp.get? b = some o → H1 b = none → b ≠ d := fun {b o} z n e => by
    have y := un.free b o (k b o z) (up (nha z) n) (by simp)
    rw [e, ed] at y
    cases y
  have U : Un (frs X.stack) [] H1 (upd (upd H2 d (.xd fs)) a (exT (.ref C) (some d) a)) hp h2 := {
    keep := fun b o z n hf hx => un.keep b o (k b o z) (up (nha z) n) hf hx
    slot := fun b o z n hf hx => un.slot b o (k b o z) (up (nha z) n) hf hx
    free := fun b o z n hx => by
      rw [upd_ne (nha z), upd_ne (nd z n)]
      exact un.free b o (k b o z) (up (nha z) n) hx
    there := fun b o z hx => un.there b o (k b o z) hx
    tups := fun b xs z => by
      rw [upd_ne (ne_of_none z hn), upd_ne (ne_of_none z hd1)]
      exact un.tups b xs (by rw [upd_ne (ne_of_none z hn)]; exact z)
    frzs := fun b o v z => by
      rw [upd_ne (ne_of_none z hn), upd_ne (ne_of_none z hd1)]
      exact un.frzs b o v (by rw [upd_ne (ne_of_none z hn)]; exact z)
    tbls := fun b ps z => by
      rw [upd_ne (ne_of_none z hn), upd_ne (ne_of_none z hd1)]
      exact un.tbls b ps (by rw [upd_ne (ne_of_none z hn)]; exact z) }
  have hok3 : HOk X.prog X.w (upd (upd H2 d (.xd fs)) a (exT (.ref C) (some d) a)) h2 := fun b o z => by
    by_cases hba : b = a
    · subst hba
      rw [upd_same] at z
      cases z
      exact exT_ok hoe ⟨rfl, rfl⟩ rfl
    rw [upd_ne hba] at z
    by_cases hbd : b = d
    · subst hbd
      rw [upd_same] at z
      cases z
      exact ⟨mA, hns, rel⟩
    · rw [upd_ne hbd] at z
      exact (hok b o z).stay (fun c v hc y => y)
        (fun c hc => by rw [upd_ne (at_ne ea hc exo_own), upd_ne (at_ne ed hc exd_own)]; exact hc) (fun c xs hc => by rw [upd_ne (at_ne ea hc exo_tup), upd_ne (at_ne ed hc exd_tup)]; exact hc)
  exact I1.call' (ch := []) ho U hok3 hb (fun b z => absurd z (by simp))
/-! ### C(e), C(f=e) -/
def NewEI (M : Ms) (C : Value) (f : Str) (d : Tr) (Q : Q2) (_ : Fx Q) : Prop := ∀ dx a, M dx = none → M a = none → dx ≠ a → Q (.loc a) (up (up M dx (.xd [(f, d)])) a (.exc C (some dx)))
def eMkI (C : Value) (f : Str) (te : TE2) : TE2 := fun σ M Q E => te σ M (fun d M1 => NewEI M1 C f d Q .mk) E
@[simp ↓] theorem eMkI_ap {C : Value} {f : Str} {te : TE2} {σ : St2} {M : Ms} {Q : Q2} {E : X2} : eMkI C f te σ M Q E = te σ M (fun d M1 => NewEI M1 C f d Q .mk) E := rfl
/-- the class at C has such an __init__, called by name too -/
structure IniK (P : Program) (w : World) (K : PySem.W.Frag) (mg : Str → Option Value) (base : Heap) (k : Nat) (x : Str) (C : Addr) (f : Str) : Prop where
  mg_ : mg x = some (.ref C)
  ex : ∃ D fI fd, InitC K C D fI f ∧ FnOk P w K mg base (L2.CX P w) k fI fd ["self", f] (spI C f) ∧ KBt K fd ["self", f] 1 [f] (gK [0])
theorem iniK_of {P : Program} {w : World} {K : PySem.W.Frag} {mg : Str → Option Value} {base : Heap} {C D fI : Addr} {f m y : Str} {fd : FuncData} {x qual : Str} {params : Arguments} {body : List Stmt} {scope : Scope}
    (hC : mg y = some (.ref C)) (F : FunD K x qual params body scope [] [] fI fd) (S : FnScope ["self", f] ["self", f] scope) (T : InitC K C D fI f) (hb : KBt K fd ["self", f] 1 [f] (gK [0]))
    (der : ∀ (cdv : Value) (A : Around) (outer : List Env) (s : Shared) (H : Hp) (E : XK), PSs (cxOf (L2.CX P w) P w K mg base ["self", f] qual scope fI cdv A outer s H E) body (rdI K f m)) : IniK P w K mg base 2 y C f :=
  ⟨hC, D, fI, fd, T, F.ok S spI_len fun cdv A outer s H vs Q E hr hsp => ⟨_, der cdv A outer s H E, initSem T hsp⟩, hb⟩
section
variable {X : Cx} {W : L2.WX} {x f : Str} {C : Addr} {e : Expr} {te : TE2} {p pos p9 : Pos} {k : Nat}
theorem fin_h {H1 : Hp} {a dx : Addr} {o u v o1 o2 : HO} (ne : dx ≠ a) : upd (upd (upd (upd (upd H1 a o) dx u) a v) dx o1) a o2 = upd (upd H1 dx o1) a o2 := by
  funext b
  by_cases hb : b = a
  · subst hb; rw [upd_same, upd_same]
  · rw [upd_ne hb, upd_ne hb]
    by_cases hd : b = dx
    · subst hd; rw [upd_same, upd_same]
    · rw [upd_ne hd, upd_ne hd, upd_ne hb, upd_ne hd, upd_ne hb]
theorem mk_run {pins : List (Addr × Obj)} {σ : L2.St} {H1 : Hp} {Q : VK} {Q' : Q2} {H : Hp} {d : Tr} {y : V} {u : Value} {M1 : Ms} {hp : Heap} {g : Array GenState} {dr : Drawn} {tk : Nat} {os : OsState} {us : List Value} {kw : List (Str × Value)} {us0 : List Value}
    {fI : Addr} {fd : FuncData} (F1 : FnOk X.prog X.w X.K X.mg X.base (L2.CX X.prog X.w) k fI fd ["self", f] (spI C f)) (hr : Room (k + 1) X.A)
    (bd : ∀ (s : Shared) (a : Addr), X.K.In s.heap → BindsTo s fd ⟨.ref a :: us, kw⟩ [("self", .ref a), (f, u)])
    (I1 : L2.Inv X pins σ H1 ⟨hp, g, dr, tk, os⟩) (t1 : Tx X.K H H1) (rd : Rep X.K H1 d y) (sm1 : SimM X.K H1 M1) (ry : RelV y u) (hq : LkQ X.K H Q' Q) (q : NewEI M1 (.ref C) f d Q' .mk) :
    codeAny (model X.prog X.w) (X.A.under (.builtin "type.__call__" ⟨.ref C :: us, kw⟩)) (.call (.ref fI) ⟨.ref (hp.objs.size + 1) :: us, kw⟩)
      (PySem.W.InitBack (hp.objs.size + 1) fun r s' => match r with
        | .ok (.ret v) => (EP X pins σ Q) v s'
        | .ok _ => False
        | .error er => X.xe er s') ⟨(hp.push (PySem.W.kdv_tup us0)).push (PySem.HandSPX.excO C hp.objs.size), g, dr, tk, os⟩ := by
  have hsz : hp.objs.size ≤ hp.objs.size + 1 := Nat.le_succ _
  have hn : H1 (hp.objs.size + 1) = none := I1.hok.fresh hsz
  have kk : ∀ b o, hp.get? b = some o → ((hp.push (PySem.W.kdv_tup us0)).push (PySem.HandSPX.excO C hp.objs.size)).get? b = some o := fun b o e => Heap.get?_push_of_some _ (Heap.get?_push_of_some _ e)
  have hget : ((hp.push (PySem.W.kdv_tup us0)).push (PySem.HandSPX.excO C hp.objs.size)).get? (hp.objs.size + 1) = some (PySem.HandSPX.excO C hp.objs.size) := by heap_get
  have I2 : L2.Inv X pins σ (upd H1 (hp.objs.size + 1) (exo (hp.objs.size + 1) C none)) ⟨(hp.push (PySem.W.kdv_tup us0)).push (PySem.HandSPX.excO C hp.objs.size), g, dr, tk, os⟩ :=
    I1.laid (t' := tk) (a := hp.objs.size + 1) (o := exo (hp.objs.size + 1) C none) (h' := (hp.push (PySem.W.kdv_tup us0)).push (PySem.HandSPX.excO C hp.objs.size)) kk hsz (exo_ok hget)
  have r2 : Vals [V.ref (hp.objs.size + 1), y] [Value.ref (hp.objs.size + 1), u] := .cons rfl (.cons ry .nil)
  refine codeAny_mono (F1.run _ X.stack _ _ ⟨.ref (hp.objs.size + 1) :: us, kw⟩ [Value.ref (hp.objs.size + 1), u] [V.ref (hp.objs.size + 1), y]
    (fun v H2 => v = .non ∧ ∃ dx, H1 dx = none ∧ dx ≠ hp.objs.size + 1 ∧ H2 = upd (upd (upd H1 (hp.objs.size + 1) (exo (hp.objs.size + 1) C none)) dx (exd dx [(f, y)])) (hp.objs.size + 1) (exo (hp.objs.size + 1) C (some dx))) (fun _ _ _ => False)
    (hr.make C us kw) (I2.env0.make C us kw) (bd _ _ I2.kIn) r2 ⟨hp.objs.size + 1, y, rfl, upd_same, fun dx hdx ne => ⟨rfl, dx, by rw [upd_ne ne] at hdx; exact hdx, ne, rfl⟩⟩) fun r s' hq' => ?_
  cases r with
  | error er =>
    obtain ⟨_, _, _, _, _, _, _, _, _, _, _, _, z⟩ := hq'
    exact z.elim
  | ok fl =>
    cases fl with
    | ret u2 =>
      obtain ⟨v, H2, os2, bare2, un2, hok2, rv, ev, dx, hdx, ne, eH⟩ := hq'
      subst ev
      obtain ⟨h2, g2, d2, t2, os'⟩ := s'
      refine ⟨rv, ?_⟩
      have ea : H2 (hp.objs.size + 1) = some (exo (hp.objs.size + 1) C (some dx)) := by rw [eH]; exact upd_same
      have ed : H2 dx = some (exd dx [(f, y)]) := by rw [eH, upd_ne ne]; exact upd_same
      have J := mk_val (d2 := d2) (t2 := t2) I1 hsz kk un2 hok2 os2 bare2 ea ed hdx
      rw [eH, fin_h ne] at J
      have T2 : Tx X.K H1 (upd H1 dx (.xd [(f, y)])) := Tx.new hdx
      have na2 : upd H1 dx (.xd [(f, y)]) (hp.objs.size + 1) = none := by rw [upd_ne (Ne.symm ne)]; exact hn
      have T3 : Tx X.K (upd H1 dx (.xd [(f, y)])) (upd (upd H1 dx (.xd [(f, y)])) (hp.objs.size + 1) (exT (.ref C) (some dx) (hp.objs.size + 1))) := Tx.new na2
      have m2 : SimM X.K (upd H1 dx (.xd [(f, y)])) (up M1 dx (.xd [(f, d)])) := sm1.put (m := .xd [(f, d)]) T2 ⟨_, upd_same, rfl, (RepL.one rd).mono T2⟩
      exact ⟨.ref (hp.objs.size + 1), _, J, rfl, hq (.loc (hp.objs.size + 1)) _ (.ref (hp.objs.size + 1)) _ ((t1.trans T2).trans T3) rfl (m2.put (m := .exc (.ref C) (some dx)) T3 upd_same) (q dx _ (sm1.free hdx) (sm1.free hn) ne)⟩
    | next => exact False.elim hq'
    | brk => exact False.elim hq'
    | cont => exact False.elim hq'
theorem qe_mkI (I : IniF X.prog X.w X.K X.mg X.base k x C f) (hr : Room (k + 1) X.A) (he : QE X W e te) (hg : Gl X x := by rfl) (hdb : (x == ("__debug__" : Str)) = false := by decide)
    (hs : starEach [e] X.env = (false, eval e X.env) :: starEach [] X.env := by rfl) (hpl : (backTo pos (starEach [] X.env)).any (·.1) = false := by rfl) :
    QE X W (.Call (.Name x p) [e] [] pos) (eMkI (.ref C) f te) := by
  obtain ⟨hm, D, fI, fd, T, F1, hb⟩ := I
  obtain ⟨nm, q, N, bs, bm, sn, sub, ab, col, dd, k0, k1, k2, k3, k5, hC, hbm⟩ := T.oex.cls
  refine ⟨fun pins s σ H Q I ⟨σ', M, Q', E', hsm, hmm, h, hq, hx⟩ => ?_⟩
  refine wpAny_Call_Name_kw (ld_glob I hg hm ?_ hdb)
  refine PySem.W.callWith_K (h₀ := X.base) I.ok.mod.kin T.oex.kC ?_ hs hpl
  rw [hs]
  show wpAny _ _ (spliced ((false, eval e X.env) :: backTo pos (starEach [] X.env))) _ _ s
  refine Calls.spliced_cons (thn (he.run pins s σ H (fun x H1 => ∃ d M1, Tx X.K H H1 ∧ Rep X.K H1 d x ∧ SimM X.K H1 M1 ∧ NewEI M1 (.ref C) f d Q' .mk) I ⟨σ', M, _, E', hsm, hmm, h, fun d M1 x H1 t1 r1 s1 q1 => ⟨d, M1, t1, r1, s1, q1⟩, hx⟩) fun u s1 hh => ?_)
  obtain ⟨v, H1, I1, rv, d, M1, t1, rd, sm1, q1⟩ := hh
  refine Calls.spliced_nil ⟨I1.kIn, ?_⟩
  show wpAny _ _ (call (.ref C) [u]) _ _ _
  obtain ⟨hp, g, dr, tk, os⟩ := s1
  refine wpAny_call (PySem.HandSPX.call_own F.excBase_ValueError (fun Y => PySem.HandSPX.refsVE_contains Y bm hbm) (I1.kIn _ _ hC) (PySem.W.looks_findIn I1.kIn T.iC) (fun self => PySem.W.bind_fn I1.kIn self T.tI) (by show 1 ≤ sizeLine; rw [sizeLine_eq]; omega)
    (codeAny_mono (mk_run (us0 := [u]) F1 hr (fun s a hk => hb s [.ref a, u] hk rfl) I1 t1 rd sm1 rv hq q1) fun r s' z => ?_))
  rcases r with e | (v | _ | _ | _) <;> exact z
end
end T
namespace T
open PySem PySem.Spec PyProof.Rows L2
def eMkIK (C : Value) (f : Str) (tk : TA2) : TE2 := fun σ M Q E => tk σ M (fun es M1 => ∃ d, es = [d] ∧ NewEI M1 C f d Q .mk) E
@[simp ↓] theorem eMkIK_ap {C : Value} {f : Str} {tk : TA2} {σ : St2} {M : Ms} {Q : Q2} {E : X2} : eMkIK C f tk σ M Q E = tk σ M (fun es M1 => ∃ d, es = [d] ∧ NewEI M1 C f d Q .mk) E := rfl
section
variable {X : Cx} {W : L2.WX} {x f : Str} {C : Addr} {tk : TA2} {p pos : Pos} {k : Nat} {kws : List Keyword}
theorem qe_mkIK (I : IniK X.prog X.w X.K X.mg X.base k x C f) (hr : Room (k + 1) X.A) (hkw : QK X W kws tk) (hg : Gl X x := by rfl) (hall : (backToKw pos (keywordEach kws X.env)).all (·.1.isSome) = true := by rfl) (hks : (backToKw pos (keywordEach kws X.env)).filterMap (·.1) = [f] := by rfl)
    (hdb : (x == ("__debug__" : Str)) = false := by decide) (hpl : ((backTo pos (starEach [] X.env)).any (·.1) || (backToKw pos (keywordEach kws X.env)).any (·.1.isNone)) = false := by rfl) :
    QE X W (.Call (.Name x p) [] kws pos) (eMkIK (.ref C) f tk) := by
  obtain ⟨hm, D, fI, fd, T, F1, hb⟩ := I
  obtain ⟨nm, q, N, bs, bm, sn, sub, ab, col, dd, k0, k1, k2, k3, k5, hC, hbm⟩ := T.oex.cls
  refine ⟨fun pins s σ H Q I ⟨σ', M, Q', E', hsm, hmm, h, hq, hx⟩ => ?_⟩
  refine wpAny_Call_Name_kw (ld_glob I hg hm ?_ hdb)
  refine PySem.W.callWith_KW0 (h₀ := X.base) I.ok.mod.kin T.oex.kC hall ?_ hpl
  refine thn (hkw.run pos pins s σ H (fun zs H2 => ∃ es M2, Tx X.K H H2 ∧ RepL X.K H2 es zs ∧ SimM X.K H2 M2 ∧ ∃ d, es = [d] ∧ NewEI M2 (.ref C) f d Q' .mk) I
    ⟨σ', M, _, E', hsm, hmm, h, fun es M2 zs H2 t2 r2 s2 q2 => ⟨es, M2, t2, r2, s2, q2⟩, hx⟩) fun ws s2 ⟨zs, H1, I1, rz, es, M1, t1, re, sm1, d, ee, q1⟩ => ⟨I1.kIn, ?_⟩
  rw [hks]
  subst ee
  obtain ⟨v, rfl, rd⟩ := one_of re
  cases rz with
  | @cons _ u _ wr rv hwr =>
  cases hwr
  show wpAny _ _ (call (.ref C) [] [(f, u)]) _ _ _
  obtain ⟨hp, g, dr, tk, os⟩ := s2
  refine wpAny_call (PySem.OEK.call_ownK F.excBase_ValueError (fun Y => PySem.HandSPX.refsVE_contains Y bm hbm) (I1.kIn _ _ hC) (PySem.W.looks_findIn I1.kIn T.iC) (fun self => PySem.W.bind_fn I1.kIn self T.tI)
    (codeAny_mono (mk_run (us0 := []) F1 hr (fun s a hk => hb.to s [.ref a] [u] hk rfl rfl) I1 t1 rd sm1 rv hq q1) fun r s' z => ?_))
  rcases r with e | (v | _ | _ | _) <;> exact z
end
end T

/-! T: xs[::-1] of lists. -/
namespace T
open PySem PySem.Spec PyProof.Rows L2
variable {X : Cx} {W : L2.WX} {e : Expr} {ta : TE2}
def rRvS : Tr → Ms → Q2 → Prop := fun d M Q => match d with
  | .loc a => ∃ ds, seqT (.loc a) M = some ds ∧ ∀ p, M p = none → Q (.loc p) (up M p (.lst ds.reverse))
  | _ => False
def eRvS (ta : TE2) : TE2 := fun σ M Q E => ta σ M (fun d M1 => rRvS d M1 Q) E
theorem qe_revS {k : Nat} {p1 p2 p3 pos : Pos} (he : QE X W e ta) : QE X W (.Subscript e (.Slice none none (some (.UnaryOp .USub (.Constant (.int 1) k p1) p2)) p3) pos) (eRvS ta) :=
  pe_weak (pe_revL he) fun σ H Q ⟨σ', M, Q', E', hs, hm, q, hq, hx⟩ => ⟨σ', M, _, E', hs, hm, q, fun d M1 x H1 t1 r1 s1 q1 => by
    cases d with
    | loc a =>
      obtain ⟨ds, e1, q⟩ := q1
      cases r1
      obtain ⟨xs, q2, rl⟩ := s1 a _ (seqT_loc e1)
      exact ⟨a, xs, rfl, SqL.of q2, fun p hp => new_lst (hq.mono t1) rl.rev s1 hp q⟩
    | _ => exact q1.elim, hx⟩
@[simp ↓] theorem eRvS_ap {σ : St2} {M : Ms} {Q : Q2} {E : X2} : eRvS ta σ M Q E = ta σ M (fun d M1 => rRvS d M1 Q) E := rfl
@[simp ↓] theorem rRvS_loc {a : Addr} {M : Ms} {Q : Q2} : rRvS (.loc a) M Q = kS (.loc a) M fun l => NewL M l.reverse Q .mk := by
  have e : rRvS (.loc a) M Q = ∃ ds, seqT (.loc a) M = some ds ∧ NewL M ds.reverse Q .mk := rfl
  rw [e, kS_of]
section
variable {g : TG2} {t : TT2} {te : TE2} {vs : List Nat} {σ : St2} {M1 : Ms} {Q : Q2}
theorem le_put {M1 M' : Ms} {p : Addr} {o : MO} (hp : M1 p = none) (h : Le M1 M') : Le M1 (up M' p o) := fun a u e => by rw [up_ne (m_ne e hp)]; exact h a u e
/-- a comprehension whose turns let the store grow -/
theorem lc_leR {lo : Int} {n : Nat} {fx : Fx (itR lo n, g, t, te, σ, Q)} (ys : Nat → Tr) (hn : n ≤ 100000)
    (hs : ∀ (i : Nat) M (KY : Tr → Ms → Prop) (KN : Ms → Prop), i < n → Le M1 M → (∀ M', Le M M' → KY (ys i) M') → g (.int (lo + i)) (wipe2 σ vs) M fun σ2 M2 => t σ2 M2 (fun b M3 => if b = true then te σ2 M3 KY X0 else KN M3) X0)
    (hd : ∀ p M', M1 p = none → Le M1 M' → M' p = some (.lst ((List.range n).map ys)) → Q (.loc p) M') : LcS (itR lo n) g t te vs σ M1 Q fx := by
  intro p hp
  refine lc_itR (fun i M => M p = some (.lst ((List.range i).map ys)) ∧ Le M1 M) ⟨up_same, Le.new hp⟩ (fun i M hi ⟨h1, h2⟩ => ?_) fun M ⟨h1, h2⟩ => hd p M hp h2 h1
  refine hs i M _ _ hi h2 fun M' hl => ⟨_, hl _ _ h1, by rw [List.length_map, List.length_range, sizeLine_eq]; omega, ?_, le_put hp (h2.trans hl)⟩
  rw [up_same, List.range_succ, List.map_append]
  rfl
theorem lc_leL {ds : List Tr} {ok : Ms → Prop} {fx : Fx (itL ds ok, g, t, te, σ, Q)} (ys : Nat → Tr) (hn : ds.length ≤ 100000) (hok : ∀ M, Le M1 M → ok M)
    (hs : ∀ (i : Nat) d M (KY : Tr → Ms → Prop) (KN : Ms → Prop), ds[i]? = some d → Le M1 M → (∀ M', Le M M' → KY (ys i) M') → g d (wipe2 σ vs) M fun σ2 M2 => t σ2 M2 (fun b M3 => if b = true then te σ2 M3 KY X0 else KN M3) X0)
    (hd : ∀ p M', M1 p = none → Le M1 M' → M' p = some (.lst ((List.range ds.length).map ys)) → Q (.loc p) M') : LcS (itL ds ok) g t te vs σ M1 Q fx := by
  intro p hp
  refine lc_itL (fun i M => M p = some (.lst ((List.range i).map ys)) ∧ Le M1 M) ⟨up_same, Le.new hp⟩ (fun i M _ ⟨_, h⟩ => hok M h) (fun i d M hi ⟨h1, h2⟩ => ?_) fun M ⟨h1, h2⟩ => hd p M hp h2 h1
  have hi2 := (List.getElem?_eq_some_iff.mp hi).1
  refine hs i d M _ _ hi h2 fun M' hl => ⟨_, hl _ _ h1, by rw [List.length_map, List.length_range, sizeLine_eq]; omega, ?_, le_put hp (h2.trans hl)⟩
  rw [up_same, List.range_succ, List.map_append]
  rfl
end
theorem newL_cut {M : Ms} {ds : List Tr} {Q : Q2} {fx : Fx Q} (h : ∀ p M', Le M M' → M' p = some (.lst ds) → Q (.loc p) M') : NewL M ds Q fx := fun p hp => h p _ (Le.new hp) up_same
@[simp ↓] theorem gK_one {x : Tr} : gK [0] ([] : List Tr) [x] = [x] := rfl
@[simp ↓] theorem gK_swap {x y : Tr} : gK [1, 0] ([] : List Tr) [x, y] = [y, x] := rfl
@[simp ↓] theorem gK_two {x y : Tr} : gK [0, 1] ([] : List Tr) [x, y] = [x, y] := rfl
@[simp ↓] theorem gK_012 {x y z : Tr} : gK [0, 1, 2] ([] : List Tr) [x, y, z] = [x, y, z] := rfl
@[simp ↓] theorem gK_120 {x y z : Tr} : gK [1, 2, 0] ([] : List Tr) [x, y, z] = [y, z, x] := rfl
@[simp ↓] theorem gK_a1 {a x : Tr} : gK [0] [a] [x] = [a, x] := rfl
@[simp ↓] theorem gK_a2 {a b x : Tr} : gK [0] [a, b] [x] = [a, b, x] := rfl
end T

/-! T: classes of the program: instances, fields, methods. -/
namespace T
open PySem PySem.Spec PyProof.Rows L2
def putFT (f : Str) (d : Tr) : List (Str × Tr) → List (Str × Tr)
  | [] => [(f, d)]
  | (g, x) :: r => if g = f then (g, d) :: r else (g, x) :: putFT f d r
section
variable {K : PySem.W.Frag} {H : Hp}
theorem fld_of {f : Str} {d : Tr} : ∀ {fs : List (Str × Tr)} {xs : List (Str × V)}, xs.map (·.1) = fs.map (·.1) → RepL K H (fs.map (·.2)) (xs.map (·.2)) → fs.lookup f = some d → ∃ v, xs.lookup f = some v ∧ Rep K H d v
  | [], _, _, _, e => by cases e
  | (g, x) :: fs, [], k, _, _ => by simp at k
  | (g, x) :: fs, (g', y) :: xs, k, r, e => by
    simp only [List.map_cons, List.cons.injEq] at k
    obtain ⟨k1, k2⟩ := k
    obtain ⟨y', r', e1, h1, h2⟩ := r
    cases e1
    subst k1
    by_cases c : (f == g') = true
    · simp only [List.lookup, c] at e ⊢
      cases e
      exact ⟨y, rfl, h1⟩
    · have c : (f == g') = false := by simpa using c
      simp only [List.lookup, c] at e ⊢
      exact fld_of k2 h2 e
theorem fld_no {f : Str} : ∀ {fs : List (Str × Tr)} {xs : List (Str × V)}, xs.map (·.1) = fs.map (·.1) → fs.lookup f = none → xs.lookup f = none
  | [], [], _, _ => rfl
  | [], _ :: _, k, _ => by simp at k
  | (g, x) :: fs, [], k, _ => by simp at k
  | (g, x) :: fs, (g', y) :: xs, k, e => by
    simp only [List.map_cons, List.cons.injEq] at k
    obtain ⟨k1, k2⟩ := k
    subst k1
    by_cases c : (f == g') = true
    · simp only [List.lookup, c] at e
      cases e
    · have c : (f == g') = false := by simpa using c
      simp only [List.lookup, c] at e ⊢
      exact fld_no k2 e
theorem fld_put {f : Str} {d : Tr} {v : V} (rv : Rep K H d v) : ∀ {fs : List (Str × Tr)} {xs : List (Str × V)}, xs.map (·.1) = fs.map (·.1) → RepL K H (fs.map (·.2)) (xs.map (·.2)) →
    (putF f v xs).map (·.1) = (putFT f d fs).map (·.1) ∧ RepL K H ((putFT f d fs).map (·.2)) ((putF f v xs).map (·.2))
  | [], [], _, _ => ⟨rfl, RepL.one rv⟩
  | [], _ :: _, k, _ => by simp at k
  | (g, x) :: fs, [], k, _ => by simp at k
  | (g, x) :: fs, (g', y) :: xs, k, r => by
    simp only [List.map_cons, List.cons.injEq] at k
    obtain ⟨k1, k2⟩ := k
    obtain ⟨y', r', e1, h1, h2⟩ := r
    cases e1
    subst k1
    unfold putF putFT
    by_cases c : g' = f
    · rw [if_pos c, if_pos c]
      exact ⟨by simp [k2], RepL.cons rv h2⟩
    · rw [if_neg c, if_neg c]
      obtain ⟨a, b⟩ := fld_put rv k2 h2
      exact ⟨by simp [a], RepL.cons h1 b⟩
end
variable {X : Cx} {W : L2.WX} {e o value : Expr} {es : List Expr} {x f m : Str} {p pos pos' apos : Pos} {te to tv : TE2} {t : TA2} {σ : St2} {M : Ms} {Q : Q2} {E : X2} {k : Nat}
/-! e.f -/
def FldS (x f : Str) (d : Tr) (M : Ms) (Q : Q2) (_ : Fx Q) : Prop := ∃ a fs v, d = .loc a ∧ M a = some (.ino x fs) ∧ fs.lookup f = some v ∧ Q v M
def eFld (x f : Str) (te : TE2) : TE2 := fun σ M Q E => te σ M (fun d M1 => FldS x f d M1 Q .mk) E
theorem qe_fld (c : Cls X.K (He.ga X.K x)) (n : NoAttr X.K (He.ga X.K x) f) (he : QE X W e te) (hb : attributeBase e f X.env (eval e X.env) = eval e X.env := by rfl) : QE X W (.Attribute e f pos) (eFld x f te) :=
  pe_weak (pe_fld he hb) fun σ H Q ⟨σ', M, Q', E', hs, hm, q, hq, hx⟩ => ⟨σ', M, _, E', hs, hm, q, fun d M1 v H1 t1 r1 s1 q1 => by
    obtain ⟨a, fs, w, rfl, ea, el, q2⟩ := q1
    cases r1
    obtain ⟨dx, xs, eh, ek, er⟩ := s1 a _ ea
    obtain ⟨y, ey, ry⟩ := fld_of ek er el
    exact ⟨a, _, dx, xs, y, rfl, eh, c, n, ey, hq w M1 y H1 t1 ry s1 q2⟩, hx⟩
@[simp ↓] theorem eFld_ap : eFld x f te σ M Q E = te σ M (fun d M1 => FldS x f d M1 Q .mk) E := rfl
theorem fldS_of {a : Addr} {fs : List (Str × Tr)} {v : Tr} {fx : Fx Q} (h : M a = some (.ino x fs)) (hv : fs.lookup f = some v) : FldS x f (.loc a) M Q fx = Q v M := by
  unfold FldS
  refine propext ⟨?_, fun q => ⟨a, fs, v, rfl, h, hv, q⟩⟩
  rintro ⟨a', fs', v', e1, e2, e3, q⟩
  cases e1
  rw [h] at e2
  cases e2
  rw [hv] at e3
  cases e3
  exact q
/-! o.f = e -/
def SetFS (x f : Str) (o v : Tr) (M : Ms) (N : Ms → Prop) (_ : Fx N) : Prop := ∃ a fs, o = .loc a ∧ M a = some (.ino x fs) ∧ fs.length < 1000 ∧ N (up M a (.ino x (putFT f v fs)))
def sFldP (x f : Str) (to tv : TE2) : TS2 := fun D σ M => tv σ M (fun v M1 => to σ M1 (fun o M2 => SetFS x f o v M2 (fun M3 => D.nx σ M3) .mk) (D.xx σ)) (D.xx σ)
theorem qs_fldP (c : Cls X.K (He.ga X.K x)) (n : NoAttr X.K (He.ga X.K x) f) (ho : QE X W o to) (hv : QE X W value tv) (hs : swapsWith value (some (.Attribute o f pos')) pos.line X.env = pure false := by rfl) : QS X W (.Assign [.Attribute o f pos'] value pos) (sFldP x f to tv) :=
  ps_weak (ps_fld ho hv hs) fun D σ H ⟨σ', M, D', hs, hm, q, L⟩ => ⟨σ', M, _, _, hs, hm, q, fun v M1 y H1 t1 r1 s1 q1 => ⟨σ', M1, _, _, hs.mono t1, s1, q1, fun d M2 z H2 t2 r2 s2 q2 => by
    obtain ⟨a, fs, rfl, ea, hl, q3⟩ := q2
    cases r2
    obtain ⟨dx, xs, eh, ek, er⟩ := s2 a _ ea
    have T3 : Tx X.K H2 (upd H2 a (.ins (He.ga X.K x) dx (putF f y xs))) := Tx.ins eh
    have ll : xs.length = fs.length := by
      have := congrArg List.length ek
      simpa using this
    obtain ⟨k1, k2⟩ := fld_put (f := f) (r1.mono t2) ek er
    exact ⟨a, _, dx, xs, rfl, eh, c, n, by omega, L.nx σ' _ σ _ ((t1.trans t2).trans T3) (((hs.mono t1).mono t2).mono T3) (s2.put (m := .ino x (putFT f v fs)) T3 ⟨dx, _, upd_same, k1, k2.mono T3⟩) q3⟩, (L.mono t1).x (hs.mono t1)⟩, L.x hs⟩
@[simp ↓] theorem sFldP_ap {D : Ends2} : sFldP x f to tv D σ M = tv σ M (fun v M1 => to σ M1 (fun o M2 => SetFS x f o v M2 (fun M3 => D.nx σ M3) .mk) (D.xx σ)) (D.xx σ) := rfl
theorem setFS_of {a : Addr} {fs : List (Str × Tr)} {v : Tr} {N : Ms → Prop} {fx : Fx N} (h : M a = some (.ino x fs)) (hl : fs.length < 1000) (hn : N (up M a (.ino x (putFT f v fs)))) : SetFS x f (.loc a) v M N fx := ⟨a, fs, rfl, h, hl, hn⟩
/-! methods -/
structure OkM (P : Program) (w : World) (K : PySem.W.Frag) (mg : Str → Option Value) (base : Heap) (k : Nat) (x m : Str) (ps : List Str) (sp : Sp2) : Prop where
  cl : Cls K (He.ga K x)
  ex : ∃ (f : Addr) (fd : FuncData), FnT P w K mg base k f fd ps sp ∧ Meth K (He.ga K x) m f ∧ Binds K fd ps []
theorem OkM.mono {P : Program} {w : World} {K : PySem.W.Frag} {mg : Str → Option Value} {base : Heap} {j k : Nat} {x m : Str} {ps : List Str} {sp : Sp2} (F : OkM P w K mg base j x m ps sp) (h : j ≤ k) : OkM P w K mg base k x m ps sp := by
  obtain ⟨f, fd, a, r⟩ := F.ex
  exact ⟨F.cl, f, fd, a.mono h, r⟩
/-- the object of a method call -/
def MethO (x m : Str) (d : Tr) (M : Ms) : Prop := ∃ a fs, d = .loc a ∧ M a = some (.ino x fs) ∧ fs.lookup m = none
def eMeth (x m : Str) (sp : Sp2) (to : TE2) (t : TA2) : TE2 := fun σ M Q E => to σ M (fun d M1 => MethO x m d M1 ∧ t σ M1 (fun ds M2 => sp (d :: ds) M2 Q E) E) E
section
variable {ps : List Str} {sp : Sp2}
theorem qe_meth {pl : Sem Bool} (F : OkM X.prog X.w X.K X.mg X.base k x m ps sp) (hr : Room k X.A) (hgd : X.A.guards = some []) (hl : Lets X W) (ho : QE X W o to) (ha : QA X W (e :: es) t)
    (hst : starEach (e :: es) X.env = (false, eval e X.env) :: starEach es X.env := by rfl) (hpl : (backTo pos (starEach es X.env)).any (·.1) = false := by rfl)
    (ht : eval (.Call (.Attribute o m apos) (e :: es) [] pos) X.env = (do
      let ov ← eval o X.env
      standAt apos.atName
      let (f, first) ← holding [ov] (getMethod ov m pl)
      callWith pos f first (backTo pos (starEach (e :: es) X.env)) (backToKw pos (keywordEach [] X.env))) := by rfl) :
    QE X W (.Call (.Attribute o m apos) (e :: es) [] pos) (eMeth x m sp to t) := by
  obtain ⟨c, f, fd, F, hmt, hb⟩ := F
  refine ⟨fun pins s σ H Q I ⟨σ', M, Q', E', hs, hm', q, hq, hx⟩ => ?_⟩
  refine PySem.W.methodCall_KW (pl := pl) (thn (ho.run pins s σ H (fun v H1 => ∃ d M1, Tx X.K H H1 ∧ Rep X.K H1 d v ∧ SimM X.K H1 M1 ∧ MethO x m d M1 ∧ t σ' M1 (fun ds M2 => sp (d :: ds) M2 Q' E') E') I
    ⟨σ', M, _, E', hs, hm', q, fun d M1 v H1 t1 r1 s1 q1 => ⟨d, M1, t1, r1, s1, q1.1, q1.2⟩, hx⟩) fun u s1 ⟨v, H1, I1, rx, d, M1, t1, r1, sm1, ⟨a, fs, ed, ea, el⟩, q1⟩ => ?_) ht
  subst ed
  cases r1
  obtain rfl : u = Value.ref a := rx
  obtain ⟨dx, xs, eh, ek, er⟩ := sm1 a _ ea
  refine getmeth_ok I1 eh c hmt (fld_no ek el) ?_
  refine PySem.W.callWith_K (first := [.ref a]) (h₀ := X.base) I.ok.mod.kin hmt.kp (thn (ha.run pos pins s1 σ H1 (fun vs H2 => ∃ ds M2, Tx X.K H1 H2 ∧ RepL X.K H2 ds vs ∧ SimM X.K H2 M2 ∧ sp (.loc a :: ds) M2 Q' E') I1
    ⟨σ', M1, _, E', hs.mono t1, sm1, q1, fun ds M2 vs H2 t2 r2 s2 q2 => ⟨ds, M2, t2, r2, s2, q2⟩, hx.mono t1⟩) fun us s2 ⟨vs, H2, I2, r, ds, M2, t2, r2, sm2, q2⟩ => ⟨I2.kIn, ?_⟩) hst hpl
  have rr : RepL X.K H2 ((Tr.loc a :: ds) ++ []) (V.ref a :: vs) := by rw [List.append_nil]; exact RepL.cons rfl r2
  exact run_fnT (us := .ref a :: us) (vs := .ref a :: vs) (trs := .loc a :: ds) (dvs := []) (dus := []) (ds := []) F hr hgd hb .nil (fun _ => RepL.nil) hl I2 (.cons rfl r) (RepL.cons rfl r2) sm2 (t1.trans t2) (by rw [List.append_nil]; exact q2) hq hx
end
@[simp ↓] theorem eMeth_ap {sp : Sp2} : eMeth x m sp to t σ M Q E = to σ M (fun d M1 => MethO x m d M1 ∧ t σ M1 (fun ds M2 => CallS sp (d :: ds) M2 Q E .mk) E) E := rfl
/-! C(..) -/
structure OkI (P : Program) (w : World) (K : PySem.W.Frag) (mg : Str → Option Value) (base : Heap) (k : Nat) (x : Str) (ps : List Str) (sp : Sp2) : Prop where
  gl : mg x = some (.ref (He.ga K x))
  ex : ∃ (f : Addr) (fd : FuncData), FnT P w K mg base k f fd ps sp ∧ Mk K (He.ga K x) f ∧ Binds K fd ps []
theorem OkI.mono {P : Program} {w : World} {K : PySem.W.Frag} {mg : Str → Option Value} {base : Heap} {j k : Nat} {x : Str} {ps : List Str} {sp : Sp2} (F : OkI P w K mg base j x ps sp) (h : j ≤ k) : OkI P w K mg base k x ps sp := by
  obtain ⟨f, fd, a, r⟩ := F.ex
  exact ⟨F.gl, f, fd, a.mono h, r⟩
/-- the new instance, then its __init__ -/
def MakeS (x : Str) (sp : Sp2) (ds : List Tr) (M : Ms) (Q : Q2) (E : X2) (_ : Fx (Q, E)) : Prop := ∀ a, M a = none → sp (.loc a :: ds) (up M a (.ino x [])) (fun r M2 => r = .non ∧ Q (.loc a) M2) E
def eMake (x : Str) (sp : Sp2) (t : TA2) : TE2 := fun σ M Q E => t σ M (fun ds M1 => MakeS x sp ds M1 Q E .mk) E
section
variable {ps : List Str} {sp : Sp2}
theorem run_makeT {pins : List (Addr × Obj)} {σ : L2.St} {H0 H : Hp} {s : Shared} {Q : VK} {us : List Value} {vs : List V} {ds : List Tr} {M : Ms} {Q' : Q2} {E' : X2} (F : OkI X.prog X.w X.K X.mg X.base k x ps sp) (hr : Room (k + 1) X.A) (hgd : X.A.guards = some []) (hl : Lets X W)
    (I : L2.Inv X pins σ H s) (r : Vals vs us) (rt : RepL X.K H ds vs) (sm : SimM X.K H M) (t0 : Tx X.K H0 H) (h : MakeS x sp ds M Q' E' .mk) (hq : LkQ X.K H0 Q' Q) (hx : LkX X.K H0 E' W σ) :
    wpAny (model X.prog X.w) X.A (call (.ref (He.ga X.K x)) us) (EP X pins σ Q) X.xe s := by
  obtain ⟨gl, f, fd, F, Mk, hb⟩ := F
  have f1 : H (s.heap.objs.size + 1) = none := I.hok.fresh (Nat.le_succ _)
  have f2 : H s.heap.objs.size = none := I.hok.fresh (Nat.le_refl _)
  have hq0 := h (s.heap.objs.size + 1) (sm.free f1)
  have I2 := Inv.made (C := He.ga X.K x) I
  have r2 : Vals (V.ref (s.heap.objs.size + 1) :: vs) (Value.ref (s.heap.objs.size + 1) :: us) := .cons rfl r
  have ne : s.heap.objs.size ≠ s.heap.objs.size + 1 := Nat.ne_of_lt (Nat.lt_succ_self _)
  have T1 : Tx X.K H (upd H s.heap.objs.size (.own (s.heap.objs.size + 1))) := Tx.new f2
  have f3 : upd H s.heap.objs.size (.own (s.heap.objs.size + 1)) (s.heap.objs.size + 1) = none := by rw [upd_ne ne.symm]; exact f1
  have T2 : Tx X.K (upd H s.heap.objs.size (.own (s.heap.objs.size + 1))) (upd (upd H s.heap.objs.size (.own (s.heap.objs.size + 1))) (s.heap.objs.size + 1) (.ins (He.ga X.K x) s.heap.objs.size [])) := Tx.new f3
  have sm2 : SimM X.K (upd (upd H s.heap.objs.size (.own (s.heap.objs.size + 1))) (s.heap.objs.size + 1) (.ins (He.ga X.K x) s.heap.objs.size [])) (up M (s.heap.objs.size + 1) (.ino x [])) :=
    (sm.hid f2).put T2 ⟨s.heap.objs.size, [], upd_same, rfl, RepL.nil⟩
  have rt2 : RepL X.K (upd (upd H s.heap.objs.size (.own (s.heap.objs.size + 1))) (s.heap.objs.size + 1) (.ins (He.ga X.K x) s.heap.objs.size [])) (.loc (s.heap.objs.size + 1) :: ds) (V.ref (s.heap.objs.size + 1) :: vs) :=
    RepL.cons rfl (rt.mono (T1.trans T2))
  have hlen : (Value.ref (s.heap.objs.size + 1) :: us).length = ps.length := by rw [← r2.length, ← rt2.len]; exact F.len _ _ _ _ hq0
  have hb2 : BindsTo { s with heap := (s.heap.push PySem.W.emptyDict).push (PySem.W.instObj (He.ga X.K x) s.heap.objs.size) } fd ⟨Value.ref (s.heap.objs.size + 1) :: us, []⟩ (ps.zip (Value.ref (s.heap.objs.size + 1) :: us)) := by
    have := hb _ (Value.ref (s.heap.objs.size + 1) :: us) I2.kIn (by rw [List.append_nil]; exact hlen)
    rwa [List.append_nil] at this
  refine wpAny_call (make_map (f := f) I.kIn Mk.makes Mk.init (beq_iff_eq.mp Mk.fn) (codeAny_mono (F.run _ X.stack _ _ ⟨Value.ref (s.heap.objs.size + 1) :: us, []⟩ (Value.ref (s.heap.objs.size + 1) :: us) _ _ _ _ E' (hr.make (He.ga X.K x) us []) hgd
    (I2.env0.make (He.ga X.K x) us []) hb2 r2 rt2 sm2 hq0) fun r s' hq' => ?_))
  cases r with
  | error e => exact hl σ pins _ _ e s' I2 (cx_imp (fun c d H' ⟨M', tx, sm', q⟩ => hx c d M' H' (((t0.trans T1).trans T2).trans tx) sm' q) hq')
  | ok fl =>
    cases fl with
    | ret u =>
      obtain ⟨v, H', os, bare, un, hok, rv, d, M', rd, sm', ed, q⟩ := hq'
      subst ed
      cases rd
      obtain rfl : u = Value.none := rv
      have hq2 : CE X.stack X.prog X.w (upd (upd H s.heap.objs.size (.own (s.heap.objs.size + 1))) (s.heap.objs.size + 1) (.ins (He.ga X.K x) s.heap.objs.size [])) { s with heap := (s.heap.push PySem.W.emptyDict).push (PySem.W.instObj (He.ga X.K x) s.heap.objs.size) } (fun v H' => v = .non ∧ Q (.ref (s.heap.objs.size + 1)) H') Value.none s' :=
        ⟨V.non, H', os, bare, un, hok, rfl, rfl, hq (.loc (s.heap.objs.size + 1)) M' (.ref (s.heap.objs.size + 1)) H' (((t0.trans T1).trans T2).trans (Tx.un un)) rfl sm' q⟩
      obtain ⟨v3, H3, I3, rv3, ev3, q3⟩ := I2.after hq2
      exact ⟨rfl, ⟨V.ref (s.heap.objs.size + 1), H3, I3, rfl, q3⟩⟩
    | next => exact False.elim hq'
    | brk => exact False.elim hq'
    | cont => exact False.elim hq'
theorem qe_make (F : OkI X.prog X.w X.K X.mg X.base k x ps sp) (hr : Room (k + 1) X.A) (hgd : X.A.guards = some []) (hl : Lets X W) (ha : QA X W (e :: es) t) (hg : Gl X x := by rfl) (hdb : (x == ("__debug__" : Str)) = false := by decide)
    (he : starEach (e :: es) X.env = (false, eval e X.env) :: starEach es X.env := by rfl) (hpl : (backTo pos (starEach es X.env)).any (·.1) = false := by rfl) : QE X W (.Call (.Name x p) (e :: es) [] pos) (eMake x sp t) := by
  have hm := F.gl
  obtain ⟨f, fd, F0, Mk, hb⟩ := F.ex
  refine ⟨fun pins s σ H Q I ⟨σ', M, Q', E', hs, hm', q, hq, hx⟩ => ?_⟩
  refine wpAny_Call_Name_kw (ld_glob I hg hm ?_ hdb)
  refine PySem.W.callWith_K (h₀ := X.base) I.ok.mod.kin Mk.kp (thn (ha.run pos pins s σ H (fun vs H1 => ∃ ds M1, Tx X.K H H1 ∧ RepL X.K H1 ds vs ∧ SimM X.K H1 M1 ∧ MakeS x sp ds M1 Q' E' .mk) I
    ⟨σ', M, _, E', hs, hm', q, fun ds M1 vs H1 t1 r1 s1 q1 => ⟨ds, M1, t1, r1, s1, q1⟩, hx⟩) fun us s1 ⟨vs, H1, I1, r, ds, M1, t1, r1, sm1, q1⟩ => ⟨I1.kIn, ?_⟩) he hpl
  exact run_makeT F hr hgd hl I1 r r1 sm1 t1 q1 hq hx
end
@[simp ↓] theorem eMake_ap {sp : Sp2} : eMake x sp t σ M Q E = t σ M (fun ds M1 => MakeS x sp ds M1 Q E .mk) E := rfl
/-! C() of a class without an __init__ of its own -/
structure Mk0 (K : PySem.W.Frag) (C : Addr) : Prop where
  makes : PySem.W.makesIn K C = true
  ini : PySem.W.findIn K (.ref C) "__init__" = some (some (.builtin "object.__init__"))
  kp : PySem.W.keepIn K (.ref C) = true
def MakeN (x : Str) (M : Ms) (Q : Q2) (_ : Fx Q) : Prop := ∀ a, M a = none → Q (.loc a) (up M a (.ino x []))
def eMake0 (x : Str) : TE2 := fun _ M Q _ => MakeN x M Q .mk
theorem qe_make0 (gl : X.mg x = some (.ref (He.ga X.K x))) (mk : Mk0 X.K (He.ga X.K x)) (hg : Gl X x := by rfl) (hdb : (x == ("__debug__" : Str)) = false := by decide) : QE X W (.Call (.Name x p) [] [] pos) (eMake0 x) := by
  refine ⟨fun pins s σ H Q I ⟨σ', M, Q', E', hs, sm, q, hq, hx⟩ => ?_⟩
  refine wpAny_Call_Name_kw (ld_glob I hg gl ?_ hdb)
  refine PySem.W.callWith_K0 I.kIn mk.kp ?_
  have f1 : H (s.heap.objs.size + 1) = none := I.hok.fresh (Nat.le_succ _)
  have f2 : H s.heap.objs.size = none := I.hok.fresh (Nat.le_refl _)
  have I2 := Inv.made (C := He.ga X.K x) I
  have ne : s.heap.objs.size ≠ s.heap.objs.size + 1 := Nat.ne_of_lt (Nat.lt_succ_self _)
  have T1 : Tx X.K H (upd H s.heap.objs.size (.own (s.heap.objs.size + 1))) := Tx.new f2
  have f3 : upd H s.heap.objs.size (.own (s.heap.objs.size + 1)) (s.heap.objs.size + 1) = none := by rw [upd_ne ne.symm]; exact f1
  have T2 : Tx X.K (upd H s.heap.objs.size (.own (s.heap.objs.size + 1))) (upd (upd H s.heap.objs.size (.own (s.heap.objs.size + 1))) (s.heap.objs.size + 1) (.ins (He.ga X.K x) s.heap.objs.size [])) := Tx.new f3
  have sm2 : SimM X.K (upd (upd H s.heap.objs.size (.own (s.heap.objs.size + 1))) (s.heap.objs.size + 1) (.ins (He.ga X.K x) s.heap.objs.size [])) (up M (s.heap.objs.size + 1) (.ino x [])) :=
    (sm.hid f2).put T2 ⟨s.heap.objs.size, [], upd_same, rfl, RepL.nil⟩
  have Y := PySem.W.makes_of (M := model X.prog X.w) I.kIn mk.makes
  have e1 : (s.heap.push PySem.W.emptyDict).get? s.heap.objs.size = some PySem.W.emptyDict := Heap.get?_push_size s.heap rfl
  have e2 : ((s.heap.push PySem.W.emptyDict).push (PySem.W.instObj (He.ga X.K x) s.heap.objs.size)).get? (s.heap.objs.size + 1) = some (PySem.W.instObj (He.ga X.K x) s.heap.objs.size) := by
    have := Heap.get?_push_size (s.heap.push PySem.W.emptyDict) (o := PySem.W.instObj (He.ga X.K x) s.heap.objs.size) rfl
    rwa [Heap.size_push] at this
  have t1 : PySem.W.Looks (model X.prog X.w) ((s.heap.push PySem.W.emptyDict).push (PySem.W.instObj (He.ga X.K x) s.heap.objs.size)) (typeOf (.ref (s.heap.objs.size + 1))) (.ref (He.ga X.K x)) := (PySem.W.Looks.ld e2).andThen .now
  have t2 : PySem.W.Looks (model X.prog X.w) ((s.heap.push PySem.W.emptyDict).push (PySem.W.instObj (He.ga X.K x) s.heap.objs.size)) (isInstance (.ref (s.heap.objs.size + 1)) (.type "object")) true :=
    t1.andThen (Y.top.keeps fun b o e => Heap.get?_push_of_some _ (Heap.get?_push_of_some _ e))
  refine wpAny_call (make_map0 I.kIn mk.makes mk.ini (fun self => PySem.W.Looks.of_pure (PySem.W.oi_bind self)) ?_)
  refine codeAny_call_builtin PySem.W.oi_plain PySem.W.entry_oi (@PySem.W.check_slot (model X.prog X.w) _ _ _ "object.__init__" "object" "__init__" (.ref (s.heap.objs.size + 1)) [] [] _ PySem.W.oi_kind PySem.W.oi_split t2 (PySem.W.oi_args (.ref (s.heap.objs.size + 1))) ?_)
  rw [PySem.W.oi_run]
  exact wpAny_pure (And.intro rfl ⟨V.ref (s.heap.objs.size + 1), _, I2, rfl, hq (.loc (s.heap.objs.size + 1)) _ (.ref (s.heap.objs.size + 1)) _ (T1.trans T2) rfl sm2 (q _ (sm.free f1))⟩)
@[simp ↓] theorem eMake0_ap : eMake0 x σ M Q E = MakeN x M Q .mk := rfl
theorem mk0_ok {K : PySem.W.Frag} {x : Str} (h : (Fb.mk0 x).ok K = true) : Mk0 K (He.ga K x) := by
  obtain ⟨h1, h⟩ := He.ba h
  obtain ⟨h2, h3⟩ := He.ba h
  exact ⟨h1, He.eqO_ok h2, h3⟩
section
variable {P : Program} {w : World} {K : PySem.W.Frag} {mg : Str → Option Value} {base : Heap} {k : Nat} {f : Addr} {fd : FuncData} {x y m qual : Str} {params : Arguments} {body : List Stmt} {scope : Scope} {N ps : List Str} {sp : Sp2} {t : TS2}
theorem okM_of (c : Cls K (He.ga K x)) (F : FunD K y qual params body scope [] [] f fd) (hm : Meth K (He.ga K x) m f) (hb : Binds K fd ps []) (S : FnScope N ps scope) (len : ∀ ds M Q E, sp ds M Q E → ds.length = ps.length)
    (sem : ∀ ds M Q E, sp ds M Q E → t (fEnds Q E) (start2 N ds) M) (der : Der P w K mg base k f qual scope N body t) : OkM P w K mg base (k + 1) x m ps sp := ⟨c, f, fd, fnT_by F S len sem der, hm, hb⟩
theorem okI_of (gl : mg x = some (.ref (He.ga K x))) (F : FunD K y qual params body scope [] [] f fd) (hm : Mk K (He.ga K x) f) (hb : Binds K fd ps []) (S : FnScope N ps scope) (len : ∀ ds M Q E, sp ds M Q E → ds.length = ps.length)
    (sem : ∀ ds M Q E, sp ds M Q E → t (fEnds Q E) (start2 N ds) M) (der : Der P w K mg base k f qual scope N body t) : OkI P w K mg base (k + 1) x ps sp := ⟨gl, f, fd, fnT_by F S len sem der, hm, hb⟩
end
/-! i.bit_length() -/
section
variable {X : Cx} {W : L2.WX} {o : Expr} {to : TE2} {pos apos : Pos} {σ : St2} {M : Ms} {Q : Q2} {E : X2}
def eBits (to : TE2) : TE2 := fun σ M Q E => to σ M (fun d M1 => ∃ i, d = .int i ∧ Q (.int (Builtin.Int.intBits i : Nat)) M1) E
theorem qe_bits (ho : QE X W o to) (hbase : attributeBase o "bit_length" X.env (eval o X.env) = eval o X.env := by rfl) (hline : (apos.endLine == pos.line) = true := by rfl) : QE X W (.Call (.Attribute o "bit_length" apos) [] [] pos) (eBits to) :=
  pe_weak (pe_bits ho hbase hline) fun σ H Q ⟨σ', M, Q', E', hs, hm, q, hq, hx⟩ => ⟨σ', M, _, E', hs, hm, q, fun d M1 x H1 t1 r1 s1 ⟨i, ed, q1⟩ => by
    subst ed
    cases r1
    exact ⟨i, rfl, hq (.int (Builtin.Int.intBits i : Nat)) M1 _ H1 t1 rfl s1 q1⟩, hx⟩
@[simp ↓] theorem eBits_ap : eBits to σ M Q E = to σ M (fun d M1 => kI d fun i => Q (.int (Builtin.Int.intBits i : Nat)) M1) E := by
  unfold eBits
  simp only [kI_of]
end
end T

/-! T: what a draw keeps. -/
namespace T
open PySem PySem.Spec PyProof.Rows L2
def Kf (f : Addr) (M M' : Ms) : Prop := ∀ a u, a ≠ f → M a = some u → M' a = some u
theorem Kf.refl {f : Addr} {M : Ms} : Kf f M M := fun _ _ _ h => h
theorem Kf.trans {f : Addr} {M M1 M2 : Ms} (a : Kf f M M1) (b : Kf f M1 M2) : Kf f M M2 := fun x u hx h => b x u hx (a x u hx h)
theorem Le.kf {f : Addr} {M M' : Ms} (l : Le M M') : Kf f M M' := fun a u _ h => l a u h
theorem Kf.feed {f : Addr} {M : Ms} {o : MO} : Kf f M (up M f o) := fun a u ha h => by rw [up_ne ha]; exact h
theorem Kf.le {f : Addr} {M M' : Ms} {o : MO} (k : Kf f M M') (h : M' f = some o) : Le (up M f o) M' := fun a u e => by
  by_cases c : a = f
  · subst c; rw [up_same] at e; rw [h, ← e]
  · rw [up_ne c] at e; exact k a u c e
theorem Kf.up {f : Addr} {M M' : Ms} (h : M f = none) (k : Kf f M M') : Le M M' := fun a u e => k a u (m_ne e h) e
end T

/-! T: a slice of a list put anew. -/
namespace T
open PySem PySem.Spec PyProof.Rows L2
section
variable {X : Cx} {o : Expr} {lo hi : Option Expr} {pos p2 : Pos}
/-- o[lo:hi] = a list, by values -/
def vSlP (H : Hp) (o v : V) (l h : Option Int) (Q : Hp → Prop) : Prop := ∃ a b xs ys i k, o = .ref a ∧ v = .ref b ∧ a ≠ b ∧ l = some i ∧ h = some k ∧ 0 ≤ i ∧ i ≤ k ∧ k ≤ (xs.length : Int) ∧ H a = some (.lst xs) ∧ H b = some (.lst ys) ∧ xs.length + ys.length ≤ sizeLine ∧ Q (upd H a (.lst (xs.take i.toNat ++ ys ++ xs.drop k.toNat)))
def gSlV (to : TE) (tl th : TO) : TG := fun v σ H Q => to σ H fun o H1 => tl σ H1 fun l H2 => th σ H2 fun u H3 => vSlP H3 o v l u fun H4 => Q σ H4
theorem pg_slc {to : TE} {tl th : TO} (ho : PE X o to) (hl : PO X lo tl) (hu : PO X hi th)
    (ha : ∀ v, assign (.Subscript o (.Slice lo hi none p2) pos) X.env v = (do
      let ov ← holding [v] (eval o X.env)
      let iv ← holding [v, ov] (eval (.Slice lo hi none p2) X.env)
      standAt pos
      holding [v, ov, iv] (setItem ov iv v)
      release [iv, v, ov] []) := by intro _; rfl) : PG X (.Subscript o (.Slice lo hi none p2) pos) (gSlV to tl th) := by
  refine ⟨fun pins s σ H v u Q I r h => ?_⟩
  rw [ha]
  refine wpAny_bind (wpAny_holding (thn (ho.run pins s σ H _ I h) fun ov s1 ⟨x, H1, I1, r1, q1⟩ => ?_))
  refine wpAny_bind (wpAny_holding ?_)
  refine wpAny_Slice (thn (hl.run pins s1 σ H1 _ I1 q1) fun vl s2 ⟨l, H2, I2, pl, q2⟩ => thn (hu.run pins s2 σ H2 _ I2 q2) fun vu s3 ⟨k, H3, I3, pu, q3⟩ => ?_)
  rw [evalPart_none]
  refine wpAny_pure ?_
  obtain ⟨a, b, xs, ys, i, k2, e1, e2, hne, e3, e4, h0, h1, h2, ea, eb, hz, q⟩ := q3
  subst e1; subst e2; subst e3; subst e4
  cases r1; cases r
  cases pl with
  | int _ tl =>
    cases pu with
    | int _ tu =>
      have I4 : Inv X pins σ H3 { s3 with heap := s3.heap.push { cls := .type "slice", data := .fields #[.int i tl, .int k2 tu, .none] } } := I3.kept (t' := s3.toks) fun b ob q => Heap.get?_push_of_some _ q
      refine wpAny_bind (wpAny_standAt (wpAny_bind (wpAny_holding ?_)))
      refine set_slice I4 ea eb hne (Heap.IsSliceOf.new ..) ⟨tl, rfl⟩ ⟨tu, rfl⟩ h0 h1 h2 hz fun s' I' => ?_
      exact wpAny_release ⟨σ, _, I', q⟩
end
/-- o[lo:hi] = a list -/
def SetSl (o v : Tr) (l h : Option Int) (M : Ms) (Q : Ms → Prop) : Prop := ∃ a b xs ys i k, o = .loc a ∧ v = .loc b ∧ a ≠ b ∧ l = some i ∧ h = some k ∧ 0 ≤ i ∧ i ≤ k ∧ k ≤ (xs.length : Int) ∧ M a = some (.lst xs) ∧ M b = some (.lst ys) ∧ xs.length + ys.length ≤ sizeLine ∧ Q (up M a (.lst (xs.take i.toNat ++ ys ++ xs.drop k.toNat)))
def SetSlS (o v : Tr) (l h : Option Int) (M : Ms) (Q : Ms → Prop) (_ : Fx Q) : Prop := SetSl o v l h M Q
def gSlc (to : TE2) (tl th : TO2) : TG2 := fun v σ M Q => to σ M (fun o M1 => tl σ M1 (fun l M2 => th σ M2 (fun h M3 => SetSlS o v l h M3 (fun M4 => Q σ M4) .mk) X0) X0) X0
section
variable {X : Cx} {o : Expr} {lo hi : Option Expr} {pos p2 : Pos} {to : TE2} {tl th : TO2}
theorem qg_slc (ha : PG X (.Subscript o (.Slice lo hi none p2) pos) (gSlV (lfE X.K W0 to) (lfO X.K W0 tl) (lfO X.K W0 th))) : QG X (.Subscript o (.Slice lo hi none p2) pos) (gSlc to tl th) [] :=
  pg_weak ha fun v σ H Q ⟨d, σ', M, Q', r, hs, hm, q, hq⟩ => ⟨σ', M, _, X0, hs, hm, q, fun o M1 x H1 t1 r1 s1 q1 => ⟨σ', M1, _, X0, hs.mono t1, s1, q1, fun l M2 H2 t2 s2 q2 => ⟨σ', M2, _, X0, (hs.mono t1).mono t2, s2, q2, fun k M3 H3 t3 s3 q3 => by
    obtain ⟨a, b, xs, ys, i, k2, e1, e2, hne, e3, e4, h0, h1, h2, ea, eb, hz, q9⟩ := q3
    subst e1; subst e2; subst e3; subst e4
    cases r1; cases r
    obtain ⟨us, hu, ru⟩ := s3 a _ ea
    obtain ⟨vs, hv, rv⟩ := s3 b _ eb
    have l1 := ru.len
    have l2 := rv.len
    refine ⟨a, b, us, vs, i, k2, rfl, rfl, hne, rfl, rfl, h0, h1, by omega, hu, hv, by omega, ?_⟩
    exact hq σ' _ σ _ (((t1.trans t2).trans t3).trans (Tx.lst hu)) ((((hs.mono t1).mono t2).mono t3).mono (Tx.lst hu)) (s3.setL hu (((ru.take _).app rv).app (ru.drop _))) Agr.refl q9, fun _ _ _ _ _ _ z => False.elim z⟩, fun _ _ _ _ _ _ z => False.elim z⟩, fun _ _ _ _ _ _ z => False.elim z⟩
end
section
variable {to : TE2} {tl th : TO2} {σ : St2} {M : Ms} {d : Tr} {N : St2 → Ms → Prop}
@[simp ↓] theorem gSlc_ap : gSlc to tl th d σ M N = to σ M (fun o M1 => tl σ M1 (fun l M2 => th σ M2 (fun h M3 => SetSlS o d l h M3 (fun M4 => N σ M4) .mk) X0) X0) X0 := rfl
theorem setSl_of {a b : Addr} {xs ys : List Tr} {i k : Int} {M : Ms} {Q : Ms → Prop} (hne : a ≠ b) (h0 : 0 ≤ i) (h1 : i ≤ k) (h2 : k ≤ (xs.length : Int)) (ea : M a = some (.lst xs)) (eb : M b = some (.lst ys)) (hz : xs.length + ys.length ≤ sizeLine) (q : Q (up M a (.lst (xs.take i.toNat ++ ys ++ xs.drop k.toNat)))) : SetSlS (.loc a) (.loc b) (some i) (some k) M Q .mk :=
  ⟨a, b, xs, ys, i, k, rfl, rfl, hne, rfl, rfl, h0, h1, h2, ea, eb, hz, q⟩
end
end T

/-! T: a, b, .. = a list. -/
namespace T
open PySem PySem.Spec PyProof.Rows L2
section
variable {X : Cx} {pos : Pos} {es : List Expr} {gs : TGs2} {js : List Nat}
/-- a, b, .. = a list of so many -/
def gUL (n : Nat) (t : TGs2) : TG2 := fun d σ M Q => ∃ a ds, d = .loc a ∧ M a = some (.lst ds) ∧ ds.length = n ∧ t ds σ M Q
theorem qg_ul {k : Nat} {n : Nat} (hc : X.calm = true) (h : QGs X es gs js) (hn : (assignEach es X.env).length = n := by rfl) (hst : (assignEach es X.env).findIdx? (·.1) = none := by rfl) : QG X (.Tuple es k pos) (gUL n gs) js :=
  pg_weak (pg_lst hc h hn hst) fun v σ H Q ⟨d, σ', M, Q', r, hs, hm, ⟨a, ds, e, ea, hl, q⟩, hq⟩ => by
    subst e
    cases r
    obtain ⟨us, hu, ru⟩ := hm a _ ea
    exact ⟨a, us, rfl, SqL.of hu, by rw [← ru.len]; exact hl, ds, σ', M, Q', ru, hs, hm, q, hq⟩
@[simp ↓] theorem gUL_ap {n : Nat} {a : Addr} {σ : St2} {M : Ms} {N : St2 → Ms → Prop} : gUL n gs (.loc a) σ M N = ∃ ds, M a = some (.lst ds) ∧ ds.length = n ∧ gs ds σ M N := propext ⟨fun ⟨a', ds, e, h⟩ => by cases e; exact ⟨ds, h⟩, fun ⟨ds, h⟩ => ⟨a, ds, rfl, h⟩⟩
end
end T

/-! T: {(z, i): v} (known, never read), repr of it and of {}. -/
namespace T
open PySem PySem.Spec PyProof.Rows L2
section
variable {X : Cx} {pos : Pos}
/-- {k: v} of one pair, k a tuple of ints and texts -/
def tDT1 (tk tv : TE) : TE := fun σ H Q => ∀ p, H p = none → tk σ (upd H p (.dT [])) fun x H1 => tv σ H1 fun y H2 => H2 p = some (.dT []) ∧ ∃ ks b, x = .ref b ∧ H2 b = some (.tup (ks.map kV)) ∧ Q (.ref p) (upd H2 p (.dT [(ks, y)]))
theorem pe_dT1 {k v : Expr} {tk tv : TE} (hu : X.A.units + 1 < cLine) (hk : PE X k tk) (hv : PE X v tv) : PE X (.Dict [some k] [v] pos) (tDT1 tk tv) := by
  refine ⟨fun pins s σ H Q I q => ?_⟩
  have hn := I.hok.fresh (Nat.le_refl s.heap.objs.size)
  have I1 : Inv X pins σ (upd H s.heap.objs.size (.dT [])) { s with heap := s.heap.push { cls := .type "dict", data := .dict #[] } } :=
    I.laid (t' := s.toks) (fun b o e => Heap.get?_push_of_some _ e) (Nat.le_refl _) (dt_empty s.heap I.big)
  refine wpAny_Dict_any rfl rfl (by simp) (by simp) (thn ((pps_cons hk hv pps_nil).run pins _ σ _ (fun ps H2 => match ps with
    | [(x, y)] => H2 s.heap.objs.size = some (.dT []) ∧ ∃ ks b, x = .ref b ∧ H2 b = some (.tup (ks.map kV)) ∧ Q (.ref s.heap.objs.size) (upd H2 s.heap.objs.size (.dT [(ks, y)]))
    | _ => False) I1 (q _ hn)) fun ws s2 ⟨ps, H2, I2, rel, q2⟩ => ?_)
  have hps : ∃ x y, ps = [(x, y)] := by
    match ps, q2 with
    | [(x, y)], _ => exact ⟨x, y, rfl⟩
  obtain ⟨x, y, hps⟩ := hps
  subst hps
  obtain ⟨e, ks, b, ex, eb, q3⟩ := (show H2 s.heap.objs.size = some (.dT []) ∧ ∃ ks b, x = .ref b ∧ H2 b = some (.tup (ks.map kV)) ∧ Q (.ref s.heap.objs.size) (upd H2 s.heap.objs.size (.dT [(ks, y)])) from q2)
  cases rel with
  | @cons _ uw _ ws2 hr ht =>
    cases ht
    obtain ⟨u, r⟩ := uw
    obtain ⟨ru, rr⟩ := hr
    have ru : RelV x u := ru
    have rr : RelV y r := rr
    subst ex
    cases (show u = Value.ref b from ru)
    obtain ⟨z, hd, xs, rel2, dd⟩ := dt_of I2.hok e
    have hx : xs = [] := by cases rel2; rfl
    subst hx
    show wpAny _ _ (storeAll _ _) _ _ _
    unfold storeAll
    rw [List.forIn_cons]
    refine wpAny_bind (wpAny_bind (wpAny_dictSet_heap (hsz := by show 0 ≤ _; omega) (show (tupleKind (mixKind X.prog X.w)).room X.A from (show X.A.units < cLine by omega)) (key_of I2.hok eb) dd fun h' dd' hs => wpAny_pure ?_))
    show wpAny _ _ (forIn ([] : List (Value × Value)) PUnit.unit _) _ _ _
    rw [List.forIn_nil]
    refine wpAny_pure ?_
    refine ⟨.ref s.heap.objs.size, _, ?_, rfl, q3⟩
    obtain ⟨o, es, ep, ho, h2, h3, h4, _, h5⟩ := dd'
    refine d_write I2 (by rw [e]; exact True.intro) hs ⟨o, ho⟩ ⟨by show 1 ≤ sizeLine; rw [sizeLine_eq]; omega, hd, _, ((rel2.put ks eb rr).keeps fun c ys ec => ?_), o, es, ep, ho, h2, h3, h4, h5⟩
    rw [upd_ne (ne_of ec e (fun z => nomatch z))]
    exact ec
end
/-- {(z, i): b} -/
def OddX (z : Str) (i : Int) (b : Bool) : List (List Key × V) := [([.inr z, .inl i], .bl b)]
def eOdd (z : Str) (i : Int) (b : Bool) : TE2 := fun _ M Q _ => ∀ p, M p = none → Q (.loc p) (up M p (.odd (OddX z i b)))
def NewOdd (M : Ms) (xs : List (List Key × V)) (Q : Q2) (_ : Fx Q) : Prop := ∀ p, M p = none → Q (.loc p) (up M p (.odd xs))
section
variable {X : Cx} {W : L2.WX} {pos : Pos}
theorem qe_odd {z : Str} {i : Int} {b : Bool} {j1 j2 j3 : Nat} {x1 : Nat} {p1 p2 p3 p4 : Pos} (hu : X.A.units + 1 < cLine) :
    QE X W (.Dict [some (.Tuple [.Constant (.str z) j1 p1, .Constant (.int i) j2 p2] x1 p3)] [.Constant (.bool b) j3 p4] pos) (eOdd z i b) :=
  pe_weak (pe_dT1 hu (pe_tup (pa_cons pe_str (pa_cons pe_int pa_nil))) pe_bl) fun σ H Q ⟨σ', M, Q', E', hs, hm, q, hq, hx⟩ p hp => by
    refine ⟨by show 2 ≤ sizeLine; rw [sizeLine_eq]; decide, fun a ha => ?_⟩
    have pa : p ≠ a := ne_of_none (show upd H p (.dT []) p = some (.dT []) from upd_same) ha
    refine ⟨by rw [upd_ne pa]; exact upd_same, [.inr z, .inl i], a, rfl, upd_same, ?_⟩
    have T1 : Tx X.K H (upd H p (.dT [])) := Tx.new hp
    have T2 : Tx X.K (upd H p (.dT [])) (upd (upd H p (.dT [])) a (.tup [.str z, .int i])) := Tx.new ha
    have e1 : upd (upd H p (.dT [])) a (.tup [.str z, .int i]) p = some (.dT []) := by rw [upd_ne pa]; exact upd_same
    have T3 : Tx X.K (upd (upd H p (.dT [])) a (.tup [.str z, .int i])) (upd (upd (upd H p (.dT [])) a (.tup [.str z, .int i])) p (.dT (OddX z i b))) := Tx.mut e1 (fun _ e => nomatch e) fun _ _ e => nomatch e
    have m1 : SimM X.K (upd (upd H p (.dT [])) a (.tup [.str z, .int i])) M := (hm.hid hp).hid ha
    exact hq (.loc p) _ (.ref p) _ ((T1.trans T2).trans T3) rfl (m1.put (m := .odd (OddX z i b)) T3 upd_same) (q p (hm.free hp))
end
@[simp ↓] theorem eOdd_ap {z : Str} {i : Int} {b : Bool} {σ : St2} {M : Ms} {Q : Q2} {E : X2} : eOdd z i b σ M Q E = NewOdd M (OddX z i b) Q .mk := rfl
/-! repr of these too -/
def oddS (z : Str) (i : Int) (b : Bool) : PyData := .dict [(.tuple [.str z, .int i], .bool b)]
def emS : Str := (PyData.dict []).shown
theorem emS_len : emS.length = 2 := by decide +kernel
def ReprA (d : Tr) (M : Ms) (Q : Q2) : Prop := ∃ p : PyData, Dat M p d ∧ p.showable = true ∧ p.hasDict = false ∧ p.depth ≤ 50 ∧ p.shown.length ≤ sizeLine ∧ Q (.str p.shown) M
def ReprB (d : Tr) (M : Ms) (Q : Q2) : Prop := ∃ a, d = .loc a ∧ M a = some (.dic []) ∧ Q (.str emS) M
def ReprC (d : Tr) (M : Ms) (Q : Q2) : Prop := ∃ a z i b, d = .loc a ∧ M a = some (.odd (OddX z i b)) ∧ (oddS z i b).showable = true ∧ (oddS z i b).shown.length ≤ sizeLine ∧ (oddS z i b).depth ≤ 50 ∧ Q (.str (oddS z i b).shown) M
def rReprX : RC2 := c1 fun d M Q => ReprA d M Q ∨ ReprB d M Q ∨ ReprC d M Q
theorem b_reprX {X : Cx} (hu : X.A.units + 64 < cLine) (hg : X.A.guards = some []) : CallR X (.builtin "repr") (lfC X.K rReprX) := by
  intro pins s σ H xs us Q I rv ⟨ds, M, Q', rd, sm, q, hq⟩
  match ds, q with
  | [d], q =>
  have q : ReprA d M Q' ∨ ReprB d M Q' ∨ ReprC d M Q' := q
  rcases q with qq | ⟨a, ed, ea, qq⟩ | ⟨a, z, i, b, ed, ea, q1, q2, q3, qq⟩
  · exact b_repr hu hg pins s σ H xs us Q I rv ⟨[d], M, Q', rd, sm, qq, hq⟩
  · subst ed
    obtain ⟨x, rfl, rx⟩ := one_of rd
    cases rx
    obtain ⟨ys, hy, ek, _⟩ := sm a _ ea
    have ys0 : ys = [] := List.map_eq_nil_iff.mp ek
    subst ys0
    match us, rv with
    | [u], .cons ru .nil =>
      cases (show u = Value.ref a from ru)
      obtain ⟨_, hd, vs, r0, o, es, ep, ho, hx, hdt, _, he, _⟩ := dk_of I.hok hy
      cases r0
      have he : es.toList = [] := by
        cases hes : es.toList with
        | nil => rfl
        | cons e r => rw [hes] at he; cases he
      have rd1 : Reads s.heap (.ref a) (.dict []) (a :: [] ++ []) := .dict ho hx.1 hdt (by rw [he]; exact .nil) (by rw [he]; exact .nil)
      have f1 : (PyData.dict []).showable = true := by decide +kernel
      have f2 : (PyData.dict []).depth ≤ 50 := by decide +kernel
      have f3 : (PyData.dict []).shown.length = 2 := emS_len
      refine PySem.repr_of_reads' rd1 f1 (fun _ hm => ?_) hg (by omega) (fun _ _ e => e) (fun h' w' tk hk => ⟨.str _, H, I.kept hk, ⟨_, rfl⟩, hq (.str _) M _ H Tx.refl rfl sm qq⟩) (by rw [f3, sizeLine_eq]; omega)
      simp at hm
      rw [hm] at hd
      simp at hd
  · subst ed
    obtain ⟨x, rfl, rx⟩ := one_of rd
    cases rx
    have hy : H a = some (.dT (OddX z i b)) := sm a _ ea
    match us, rv with
    | [u], .cons ru .nil =>
      cases (show u = Value.ref a from ru)
      obtain ⟨_, hd, ys, rel, o, es, ep, ho, hx, hdt, he, _⟩ := dt_of I.hok hy
      match ys, rel with
      | [(k, c, v)], .cons ⟨e1, e2, e3⟩ .nil =>
        cases (show v = .bool b from e3)
        obtain ⟨_, its, ri, ot, hot, hct, nt, hdt2⟩ := (show ObjOk X.prog X.w H s.heap c (.tup _) from I.hok c _ e2)
        match its, ri with
        | [u1, u2], .cons r1 (.cons r2 .nil) =>
          obtain ⟨t1, rfl⟩ := r1
          obtain ⟨t2, rfl⟩ := r2
          have he : es.toList = [⟨_, .ref c, .bool b⟩] := he
          have rk : ReadsAll s.heap (es.toList.map (·.key)) [.tuple [.str z, .int i]] (([] ++ ([] ++ [])) ++ []) := by
            rw [he]
            exact .cons (.tuple hot hct hdt2 (.cons (.str z t1) (.cons (.int i t2) .nil))) .nil
          have rv2 : ReadsAll s.heap (es.toList.map (·.val)) [.bool b] ([] ++ []) := by
            rw [he]
            exact .cons (.bool b) .nil
          have rd1 : Reads s.heap (.ref a) (oddS z i b) (a :: (([] ++ ([] ++ [])) ++ []) ++ ([] ++ [])) := .dict ho hx.1 hdt rk rv2
          refine PySem.repr_of_reads' rd1 q1 (fun _ hm => ?_) hg (by omega) (fun _ _ e => e) (fun h' w' tk hk => ⟨.str _, H, I.kept hk, ⟨_, rfl⟩, hq (.str _) M _ H Tx.refl rfl sm qq⟩) q2
          simp at hm
          rw [hm] at hd
          simp at hd
def ReprXS (d : Tr) (M : Ms) (Q : Q2) (fx : Fx Q) : Prop := ReprS d M Q fx ∨ ReprB d M Q ∨ ReprC d M Q
@[simp ↓] theorem rReprX_ap {d : Tr} {M : Ms} {Q : Q2} : rReprX [d] M Q = ReprXS d M Q .mk := rfl
end T

/-! T: dicts with ints and texts as keys: what a put makes; d[k] = v, k a text. -/
namespace T
open PySem PySem.Spec PyProof.Rows L2
theorem valT_cons {x : Key × Tr} {kvs : List (Key × Tr)} {k : Key} : valT (x :: kvs) k = if x.1 = k then some x.2 else valT kvs k := by
  unfold valT
  rw [List.find?_cons]
  by_cases c : x.1 = k <;> simp [c]
theorem valT_map {kvs : List (Key × Tr)} {k j : Key} {v : Tr} : valT (kvs.map fun p => (p.1, if p.1 = k then v else p.2)) j = (valT kvs j).map fun y => if j = k then v else y := by
  induction kvs with
  | nil => rfl
  | cons x kvs ih =>
    rw [List.map_cons, valT_cons, valT_cons, ih]
    by_cases c : x.1 = j
    · rw [if_pos c, if_pos c]
      show some (if x.1 = k then v else x.2) = some (if j = k then v else x.2)
      rw [c]
    · rw [if_neg c, if_neg c]
theorem valT_any {kvs : List (Key × Tr)} {k : Key} : (kvs.any fun p => decide (p.1 = k)) = (valT kvs k).isSome := by
  induction kvs with
  | nil => rfl
  | cons x kvs ih =>
    rw [List.any_cons, ih, valT_cons]
    by_cases c : x.1 = k <;> simp [c]
theorem valT_app {kvs : List (Key × Tr)} {k j : Key} {v : Tr} (h : valT kvs k = none) : valT (kvs ++ [(k, v)]) j = if j = k then some v else valT kvs j := by
  induction kvs with
  | nil =>
    rw [List.nil_append, valT_cons]
    by_cases c : j = k
    · rw [if_pos c.symm, if_pos c]
    · rw [if_neg (fun z => c z.symm), if_neg c]
  | cons x kvs ih =>
    rw [valT_cons] at h
    by_cases c : x.1 = k
    · rw [if_pos c] at h; cases h
    · rw [if_neg c] at h
      rw [List.cons_append, valT_cons, valT_cons, ih h]
      by_cases c2 : x.1 = j
      · rw [if_pos c2, if_pos c2, if_neg (fun z => c (c2.trans z))]
      · rw [if_neg c2, if_neg c2]
theorem valT_put {kvs : List (Key × Tr)} {k j : Key} {v : Tr} : valT (putT kvs k v) j = if j = k then some v else valT kvs j := by
  unfold putT
  rw [valT_any]
  cases h : valT kvs k with
  | none => exact valT_app h
  | some y =>
    show valT (kvs.map fun p => (p.1, if p.1 = k then v else p.2)) j = _
    rw [valT_map]
    by_cases c : j = k
    · rw [if_pos c, c, h]; simp
    · rw [if_neg c]
      cases valT kvs j with
      | none => rfl
      | some z => simp [c]
theorem putT_len1 {kvs : List (Key × Tr)} {k : Key} {v : Tr} : (putT kvs k v).length ≤ kvs.length + 1 := by
  unfold putT
  split <;> simp
/-- d[k] = v: one stops here -/
def PutSS (a : Addr) (s : Str) (d : Tr) (M : Ms) (P : Ms → Prop) (_ : Fx P) : Prop := ∃ kvs, M a = some (.dic kvs) ∧ kvs.length < sizeLine ∧ P (up M a (.dic (putT kvs (.inr s) d)))
@[simp ↓] theorem rPut2_str {a : Addr} {s : Str} {d : Tr} {M : Ms} {P : Ms → Prop} : rPut2 (.loc a) (.str s) d M P = PutSS a s d M P .mk := by
  have e : rPut2 (.loc a) (.str s) d M P = ((∃ a' l k j, Tr.loc a = .loc a' ∧ Tr.str s = .int k ∧ M a' = some (.lst l) ∧ ixN l.length k = some j ∧ P (up M a' (.lst (l.set j d)))) ∨
    ∃ a' kvs k, Tr.loc a = .loc a' ∧ keyT (.str s) = some k ∧ M a' = some (.dic kvs) ∧ kvs.length < sizeLine ∧ P (up M a' (.dic (putT kvs k d)))) := rfl
  rw [e]
  apply propext
  constructor
  · rintro (⟨_, _, _, _, _, h, _⟩ | ⟨a', kvs, k, h1, h2, h3, h4, h5⟩)
    · cases h
    · injection h1 with h1
      subst h1
      have h2 : some (Sum.inr s : Key) = some k := h2
      injection h2 with h2
      subst h2
      exact ⟨kvs, h3, h4, h5⟩
  · rintro ⟨kvs, h3, h4, h5⟩
    exact .inr ⟨a, kvs, .inr s, rfl, rfl, h3, h4, h5⟩
end T

/-! S: what the shared defs do. -/
namespace T
open PySem PySem.Spec PyProof.Rows L2
theorem tyT_mem {d : Tr} {M : Ms} {t : String} (h : tyT d M = some t) : t = "NoneType" ∨ t = "bool" ∨ t = "int" ∨ t = "str" ∨ t = "tuple" ∨ t = "list" ∨ t = "dict" := by
  cases d with
  | loc a =>
    simp only [tyT] at h
    split at h
    · cases h; simp
    · cases h; simp
    · cases h; simp
    · cases h
  | ty n => cases h
  | _ => cases h; simp
theorem tyT_int {d : Tr} {M : Ms} (h : tyT d M = some "int") : ∃ i, d = .int i := by
  cases d with
  | loc a =>
    simp only [tyT] at h
    split at h <;> simp at h
  | int i => exact ⟨i, rfl⟩
  | _ => simp [tyT] at h
theorem tyT_str {d : Tr} {M : Ms} (h : tyT d M = some "str") : ∃ i, d = .str i := by
  cases d with
  | loc a =>
    simp only [tyT] at h
    split at h <;> simp at h
  | str i => exact ⟨i, rfl⟩
  | _ => simp [tyT] at h
/-! ### is_integer, is_below, is_mark -/
def sp_is_integer : Sp2 := A1 fun a M Q _ => ∃ t, tyT a M = some t ∧ Q (.bl (decide (t = "int"))) M
def n_is_integer : List Str := "thing" :: []
def b_is_integer : TS2 := (sRt (eAn (eB rIsi2 (aCons (eVar 0) (aCons (eC (.ty "int")) aNil))) (eNo (eB rIsi2 (aCons (eVar 0) (aCons (eC (.ty "bool")) aNil))))))
theorem sem_is_integer : ∀ ds M Q E, sp_is_integer ds M Q E → b_is_integer (fEnds Q E) (start2 n_is_integer ds) M := by
  rintro ds M Q E ⟨a, rfl, t, ht, hq⟩
  have hk : ∃ b, kitB t "int" = some b ∧ (b = true → ∃ b2, kitB t "bool" = some b2 ∧ (!b2) = decide (t = "int")) ∧ (b = false → decide (t = "int") = false) := by
    rcases tyT_mem ht with h | h | h | h | h | h | h <;> subst h
    · exact ⟨false, rfl, by simp, by decide⟩
    · exact ⟨true, rfl, fun _ => ⟨true, rfl, by decide⟩, by simp⟩
    · exact ⟨true, rfl, fun _ => ⟨false, rfl, by decide⟩, by simp⟩
    · exact ⟨false, rfl, by simp, by decide⟩
    · exact ⟨false, rfl, by simp, by decide⟩
    · exact ⟨false, rfl, by simp, by decide⟩
    · exact ⟨false, rfl, by simp, by decide⟩
  obtain ⟨b, hb, h1, h2⟩ := hk
  simp only [b_is_integer, start2, n_is_integer]
  cases b with
  | true =>
    obtain ⟨b2, hb2, e⟩ := h1 rfl
    simp [↓kY_of ht hb, ↓kY_of ht hb2, e]
    exact Fg.same hq
  | false =>
    have e := h2 rfl
    rw [e] at hq
    simp [↓kY_of ht hb]
    exact Fg.same hq
def blw (a : Tr) (j : Int) : Bool := match a with
  | .int i => decide (0 ≤ i ∧ i < j)
  | _ => false
@[simp] theorem blw_int {i j : Int} : blw (.int i) j = decide (0 ≤ i ∧ i < j) := rfl
theorem blw_no {a : Tr} {j : Int} {M : Ms} {t : String} (h : tyT a M = some t) (n : t ≠ "int") : blw a j = false := by
  cases a <;> first | rfl | (exfalso; apply n; cases h; rfl)
def sp_is_below : Sp2 := A2 fun a b M Q _ => ∃ t j, tyT a M = some t ∧ b = .int j ∧ Q (.bl (blw a j)) M
def n_is_below : List Str := "thing" :: "bound" :: []
def b_is_below : TS2 := (sRt (eAn (eCall sp_is_integer [] (aCons (eVar 0) aNil)) (eChain rLeI rLtI (eC (.int 0)) (eVar 0) (eVar 1))))
theorem sem_is_below : ∀ ds M Q E, sp_is_below ds M Q E → b_is_below (fEnds Q E) (start2 n_is_below ds) M := by
  rintro ds M Q E ⟨a, b, rfl, t, j, ht, rfl, hq⟩
  simp only [b_is_below, start2, n_is_below]
  simp
  refine ⟨_, rfl, t, ht, ?_⟩
  by_cases c : t = "int"
  · subst c
    obtain ⟨i, rfl⟩ := tyT_int ht
    simp
    by_cases h0 : 0 ≤ i
    · simp [h0] at hq ⊢
      exact Fg.same hq
    · simp [h0] at hq ⊢
      exact Fg.same hq
  · rw [blw_no ht c] at hq
    simp [c]
    exact Fg.same hq
/-- a mark -/
def isMk (a : Tr) : Bool := match a with
  | .str z => decide (z.length = 1) && strIn z "abcdefgh"
  | _ => false
def sp_is_mark : Sp2 := A1 fun a M Q _ => ∃ t, tyT a M = some t ∧ (∀ z, a = .str z → z.length ≤ sizeLine) ∧ Q (.bl (isMk a)) M
def n_is_mark : List Str := "thing" :: []
def b_is_mark : TS2 := (sRt (eAn (eB rIsi2 (aCons (eVar 0) (aCons (eC (.ty "str")) aNil))) (eAn (eOp (rEqG id) (eB rLen2 (aCons (eVar 0) aNil)) (eC (.int 1))) (eOp (rInX id) (eVar 0) (eC (.str "abcdefgh"))))))
theorem sem_is_mark : ∀ ds M Q E, sp_is_mark ds M Q E → b_is_mark (fEnds Q E) (start2 n_is_mark ds) M := by
  rintro ds M Q E ⟨a, rfl, t, ht, hz, hq⟩
  simp only [b_is_mark, start2, n_is_mark]
  by_cases c : t = "str"
  · subst c
    obtain ⟨z, rfl⟩ := tyT_str ht
    have kb : kitB "str" "str" = some true := rfl
    simp [↓kY_of ht kb, ↓kL_str (hz z rfl)]
    by_cases h1 : z.length = 1
    · simp [isMk, h1] at hq
      simp [h1]
      exact Fg.same hq
    · simp [isMk, h1] at hq
      have h2 : ¬ ((z.length : Int) = 1) := by omega
      simp [h2]
      exact Fg.same hq
  · have e : isMk a = false := by
      cases a <;> first | rfl | (exfalso; apply c; cases ht; rfl)
    have kb : kitB t "str" = some false := by
      rcases tyT_mem ht with h | h | h | h | h | h | h <;> subst h <;> first | rfl | exact absurd rfl c
    rw [e] at hq
    simp [↓kY_of ht kb]
    exact Fg.same hq
/-! ### documents -/
abbrev Doc := List (Str × Nat)
def entT (e : Str × Nat) : Tr := .tup [.str e.1, .int e.2]
def docT (d : Doc) : Tr := .tup (d.map entT)
def Vd : Nat → Doc → Prop
  | _, [] => True
  | m, e :: r => isMk (.str e.1) = true ∧ e.2 ≤ m ∧ Vd (e.2 + 1) r
def Val (d : Doc) : Prop := Vd 0 d ∧ d.length ≤ 20000
theorem isMk_len {z : Str} (h : isMk (.str z) = true) : z.length ≤ sizeLine := by
  simp only [isMk, Bool.and_eq_true, decide_eq_true_eq] at h
  rw [sizeLine_eq]; omega
theorem small_line {n : Nat} (h : n ≤ 100000) : n ≤ sizeLine := by rw [sizeLine_eq]; omega
theorem small_lt {n : Nat} (h : n ≤ 100000) : n < sizeLine := by rw [sizeLine_eq]; omega
/-- trees of tuples over things of known types -/
inductive Wf (M : Ms) : Tr → Prop where
  | leaf (t : Tr) (s : String) (h : tyT t M = some s) (hz : ∀ z, t = .str z → z.length ≤ 100000) (hn : s ≠ "tuple") : Wf M t
  | tup (l : List Tr) (h : ∀ x ∈ l, Wf M x) (hl : l.length ≤ 100000) : Wf M (.tup l)
theorem Wf.ty {M : Ms} {t : Tr} (h : Wf M t) : ∃ s, tyT t M = some s := by
  cases h with
  | leaf _ s h _ _ => exact ⟨s, h⟩
  | tup l _ _ => exact ⟨_, rfl⟩
theorem Wf.str {M : Ms} {t : Tr} (h : Wf M t) : ∀ z, t = .str z → z.length ≤ sizeLine := fun z e => by
  cases h with
  | leaf _ s _ hz _ => exact small_line (hz z e)
  | tup l _ _ => cases e
theorem tyT_le {M M' : Ms} (l : ∀ a o, M a = some o → M' a = some o) {t : Tr} {s : String} (h : tyT t M = some s) : tyT t M' = some s := by
  cases t with
  | loc a =>
    simp only [tyT] at h ⊢
    cases hc : M a with
    | none => rw [hc] at h; cases h
    | some o => rw [l a o hc]; rw [hc] at h; exact h
  | _ => exact h
theorem Wf.le {M M' : Ms} (l : ∀ a o, M a = some o → M' a = some o) {t : Tr} (h : Wf M t) : Wf M' t := by
  induction h with
  | leaf t s h hz hn => exact .leaf t s (tyT_le l h) hz hn
  | tup ls _ hl ih => exact .tup ls ih hl
theorem kY_ntup {t : Tr} {M : Ms} {s : String} {P : Bool → Prop} (h : tyT t M = some s) (hn : s ≠ "tuple") : kY t M "tuple" P = P false := kY_of h (by
  rcases tyT_mem h with q | q | q | q | q | q | q <;> subst q <;> first | rfl | exact absurd rfl hn)
def entsB : Nat → List Tr → Bool
  | _, [] => true
  | m, .tup [a, .int z] :: r => isMk a && (decide (0 ≤ z) && (decide (z ≤ m) && entsB (z.toNat + 1) r))
  | _, _ :: _ => false
def docB : Tr → Bool
  | .tup l => decide (l.length ≤ 20000) && entsB 0 l
  | _ => false
theorem entsB_iff : ∀ {l : List Tr} {m : Nat}, entsB m l = true ↔ ∃ d, l = d.map entT ∧ Vd m d := by
  intro l
  induction l with
  | nil => intro m; exact ⟨fun _ => ⟨[], rfl, trivial⟩, fun _ => rfl⟩
  | cons e r ih =>
    intro m
    constructor
    · intro h
      unfold entsB at h
      split at h
      · rename_i h0; cases h0
      · rename_i a z r' h0
        cases h0
        simp only [Bool.and_eq_true, decide_eq_true_eq] at h
        obtain ⟨h1, h2, h3, h4⟩ := h
        obtain ⟨d, rfl, hd⟩ := ih.mp h4
        cases a with
        | str x => exact ⟨(x, z.toNat) :: d, by simp [entT]; omega, h1, by omega, hd⟩
        | _ => cases h1
      · cases h
    · rintro ⟨d, hd, hv⟩
      cases d with
      | nil => cases hd
      | cons x d =>
        simp only [List.map_cons, List.cons.injEq] at hd
        obtain ⟨rfl, rfl⟩ := hd
        obtain ⟨h1, h2, h3⟩ := hv
        have : entsB (x.2 + 1) (d.map entT) = true := ih.mpr ⟨d, rfl, h3⟩
        simp [entT, entsB, h1, this]
        omega
theorem docB_iff {t : Tr} : docB t = true ↔ ∃ d, t = docT d ∧ Val d := by
  constructor
  · intro h
    cases t with
    | tup l =>
      simp only [docB, Bool.and_eq_true, decide_eq_true_eq] at h
      obtain ⟨d, rfl, hd⟩ := entsB_iff.mp h.2
      exact ⟨d, rfl, hd, by simpa using h.1⟩
    | _ => cases h
  · rintro ⟨d, rfl, hv, hl⟩
    simp only [docT, docB, Bool.and_eq_true, decide_eq_true_eq]
    exact ⟨by simpa using hl, entsB_iff.mpr ⟨d, rfl, hv⟩⟩
def entOk (m : Nat) (e : Tr) : Prop := ∃ a z, e = .tup [a, .int z] ∧ isMk a = true ∧ 0 ≤ z ∧ z ≤ (m : Int)
theorem entsB_yes {m : Nat} {a : Tr} {z : Int} {r : List Tr} (h1 : isMk a = true) (h2 : 0 ≤ z) (h3 : z ≤ (m : Int)) : entsB m (.tup [a, .int z] :: r) = entsB (z.toNat + 1) r := by
  simp [entsB, h1, h2, h3]
theorem entsB_no {m : Nat} {e : Tr} {r : List Tr} (h : ¬ entOk m e) : entsB m (e :: r) = false := by
  unfold entsB
  split
  · rename_i h0; cases h0
  · rename_i a z r' h0
    cases h0
    rw [Bool.eq_false_iff]
    intro hc
    simp only [Bool.and_eq_true, decide_eq_true_eq] at hc
    exact h ⟨a, z, rfl, hc.1, hc.2.1, hc.2.2.1⟩
  · rfl
def sp_is_forest : Sp2 := A1 fun a M Q _ => (∃ d, a = docT d ∧ Val d ∧ Q (.bl true) M) ∨ (Wf M a ∧ Q (.bl (docB a)) M)
def n_is_forest : List Str := "thing" :: "most" :: "entry" :: []
def b_is_forest : TS2 := (sSq (sIf (tOrr (tNo (tTr (eB rIsi2 (aCons (eVar 0) (aCons (eC (.ty "tuple")) aNil))))) (tCm (eOp rGtI (eB rLen2 (aCons (eVar 0) aNil)) (eC (.int 20000))))) (sRt (eC (.bl false))) sNx)
  (sSq (sAs (eC (.int 0)) (gN 1))
  (sSq (sFo (iSq (eVar 0)) (gN 2) (sSq (sIf (tOrr (tNo (tTr (eB rIsi2 (aCons (eVar 2) (aCons (eC (.ty "tuple")) aNil))))) (tCm (eOp (rEqG not) (eB rLen2 (aCons (eVar 2) aNil)) (eC (.int 2))))) (sRt (eC (.bl false))) sNx)
  (sSq (sIf (tOrr (tNo (tTr (eCall sp_is_mark [] (aCons (eOp rIx2 (eVar 2) (eC (.int 0))) aNil)))) (tNo (tTr (eCall sp_is_below [] (aCons (eOp rIx2 (eVar 2) (eC (.int 1))) (aCons (eOp rAdd2 (eVar 1) (eC (.int 1))) aNil)))))) (sRt (eC (.bl false))) sNx)
  (sAs (eOp rAdd2 (eOp rIx2 (eVar 2) (eC (.int 1))) (eC (.int 1))) (gN 1)))))
  (sRt (eC (.bl true))))))
theorem kY_tup {l : List Tr} {M : Ms} {P : Bool → Prop} : kY (.tup l) M "tuple" P = P true := kY_of rfl rfl
theorem is_forest_any {M : Ms} {Q : Q2} {E : X2} {a : Tr} (hw : Wf M a) (hq : Q (.bl (docB a)) M) : b_is_forest (fEnds Q E) (start2 n_is_forest [a]) M := by
  have hq := Fg.same hq
  simp only [b_is_forest, start2, n_is_forest]
  cases hw with
  | leaf _ s h hz hn =>
    have e : docB a = false := by cases a <;> first | rfl | exact absurd (by cases h; rfl) hn
    rw [e] at hq
    simp [↓kY_ntup h hn]
    exact hq
  | tup l hw hl =>
    by_cases c : l.length ≤ 20000
    · have e : docB (.tup l) = entsB 0 l := by simp [docB, c]
      rw [e] at hq
      have hn : ¬ ((20000 : Int) < l.length) := by omega
      simp [↓kY_tup, hn]
      refine for_itL (fun i σ M' => M' = M ∧ ∃ (m : Nat) (x : Option Tr), σ = [some (.tup l), some (.int m), x] ∧ entsB m (l.drop i) = entsB 0 l) ⟨rfl, 0, none, rfl, rfl⟩ ?_ ?_ ?_
      · rintro i σ M' _ ⟨rfl, _⟩
        rfl
      · rintro i e σ M' he ⟨rfl, m, x, rfl, hd⟩
        obtain ⟨hi, he2⟩ := List.getElem?_eq_some_iff.mp he
        rw [List.drop_eq_getElem_cons hi, he2] at hd
        have he3 := hw e (List.mem_of_getElem? he)
        by_cases ce : entOk m e
        · obtain ⟨a, z, rfl, h1, h2, h3⟩ := ce
          rw [entsB_yes h1 h2 h3] at hd
          have hb : blw (.int z) ((m : Int) + 1) = true := by simp; omega
          cases he3 with
          | leaf _ s h hz hn => exact absurd (by cases h; rfl) hn
          | tup _ hw2 _ =>
          obtain ⟨sa, ha⟩ := (hw2 a (by simp)).ty
          simp [↓kY_tup]
          refine ⟨_, rfl, sa, ha, (hw2 a (by simp)).str, ?_⟩
          simp [h1]
          refine ⟨_, _, rfl, "int", _, rfl, rfl, ?_⟩
          rw [hb]
          simp
          exact ⟨z.toNat + 1, by omega, hd⟩
        · rw [← hd, entsB_no ce] at hq
          cases he3 with
          | leaf _ s h hz hn =>
            simp [↓kY_ntup h hn]
            exact hq
          | tup es hw2 hl2 =>
            simp [↓kY_tup]
            match es, hw2, ce with
            | [a, b], hw2, ce =>
              obtain ⟨sa, ha⟩ := (hw2 a (by simp)).ty
              obtain ⟨sb, hb⟩ := (hw2 b (by simp)).ty
              simp
              refine ⟨_, rfl, sa, ha, (hw2 a (by simp)).str, ?_⟩
              by_cases c1 : isMk a = true
              · simp [c1]
                refine ⟨_, _, rfl, sb, _, hb, rfl, ?_⟩
                have c2 : blw b ((m : Int) + 1) = true → False := fun h2 => by
                  cases b with
                  | int z =>
                    simp at h2
                    exact ce ⟨a, z, rfl, c1, h2.1, by omega⟩
                  | _ => cases h2
                have c3 : blw b ((m : Int) + 1) = false := by
                  cases h : blw b ((m : Int) + 1) with
                  | true => exact (c2 h).elim
                  | false => rfl
                rw [c3]
                simp
                exact hq
              · simp [c1]
                exact hq
            | [], _, _ => simp; exact hq
            | [a], _, _ => simp; exact hq
            | a :: b :: c :: r, _, _ =>
              have : ¬ ((r.length : Int) + 1 + 1 + 1 = 2) := by omega
              simp [this]
              exact hq
      · rintro σ M' ⟨rfl, m, x, rfl, hd⟩
        have : l.drop l.length = [] := List.drop_length
        rw [this] at hd
        have hd : true = entsB 0 l := hd
        rw [← hd] at hq
        simp
        exact hq
    · have e : docB (.tup l) = false := by simp [docB, c]
      rw [e] at hq
      have hn : ((20000 : Int) < l.length) := by omega
      simp [↓kY_tup, hn]
      exact hq
theorem sem_is_forest : ∀ ds M Q E, sp_is_forest ds M Q E → b_is_forest (fEnds Q E) (start2 n_is_forest ds) M := by
  rintro ds M Q E ⟨a, rfl, h⟩
  rcases h with ⟨d, rfl, ⟨hv, hl⟩, hq⟩ | ⟨hw, hq⟩
  rotate_left
  · exact is_forest_any hw hq
  have hn : ¬ ((20000 : Int) < d.length) := by omega
  simp only [b_is_forest, start2, n_is_forest]
  simp [docT, ↓kY_tup, hn]
  refine for_itL (fun i σ M' => M' = M ∧ ∃ (m : Nat) (x : Option Tr), σ = [some (docT d), some (.int m), x] ∧ Vd m (d.drop i)) ⟨rfl, 0, none, rfl, hv⟩ ?_ ?_ ?_
  · rintro i σ M' _ ⟨rfl, _⟩
    rfl
  · rintro i e σ M' he ⟨rfl, m, x, rfl, hd⟩
    rw [List.getElem?_map] at he
    cases hc : d[i]? with
    | none => rw [hc] at he; cases he
    | some en =>
      rw [hc] at he
      cases he
      have hi := (List.getElem?_eq_some_iff.mp hc)
      obtain ⟨hi, he⟩ := hi
      rw [List.drop_eq_getElem_cons hi, he] at hd
      obtain ⟨h1, h2, h3⟩ := hd
      have hb : blw (.int en.2) ((m : Int) + 1) = true := by
        simp; omega
      simp [entT, ↓kY_tup]
      refine ⟨_, rfl, "str", rfl, fun z e => by cases e; exact isMk_len h1, ?_⟩
      simp [h1]
      refine ⟨_, _, rfl, "int", _, rfl, rfl, ?_⟩
      rw [hb]
      simp
      exact ⟨en.2 + 1, by simp, h3⟩
  · rintro σ M' ⟨rfl, m, x, rfl, _⟩
    simp
    exact Fg.same hq
def sp_need_document : Sp2 := A1 fun a M Q _ => ∃ d, a = docT d ∧ Val d ∧ Q .non M
def n_need_document : List Str := "document" :: []
def b_need_document : TS2 := (sIf (tNo (tTr (eCall sp_is_forest [] (aCons (eVar 0) aNil)))) sNv sNx)
theorem sem_need_document : ∀ ds M Q E, sp_need_document ds M Q E → b_need_document (fEnds Q E) (start2 n_need_document ds) M := by
  rintro ds M Q E ⟨a, rfl, d, rfl, hv, hq⟩
  simp only [b_need_document, start2, n_need_document]
  simp
  refine ⟨_, rfl, .inl ⟨d, rfl, hv, ?_⟩⟩
  simp
  exact Fg.same hq
/-! ### the size of ints -/
def Bd (n : Nat) (z : Int) : Prop := z.natAbs < 2 ^ n
theorem bits_le {n : Nat} {z : Int} (h : Bd n z) : Builtin.Int.intBits z ≤ n := by
  unfold Builtin.Int.intBits
  by_cases c : z = 0
  · subst c; simp
  · have h0 : z.natAbs ≠ 0 := by omega
    have := (Nat.log2_lt h0).mpr h
    simp [c]; omega
theorem Bd.of_bits {n : Nat} {z : Int} (h : Builtin.Int.intBits z ≤ n) : Bd n z := by
  unfold Builtin.Int.intBits at h
  by_cases c : z = 0
  · subst c; unfold Bd; simp; exact Nat.pow_pos (by decide)
  · have h0 : z.natAbs ≠ 0 := by omega
    simp [c] at h
    exact (Nat.log2_lt h0).mp (by omega)
theorem Bd.mono {n m : Nat} {z : Int} (h : Bd n z) (l : n ≤ m) : Bd m z := Nat.lt_of_lt_of_le h (Nat.pow_le_pow_right (by decide) l)
theorem Bd.add {n : Nat} {y z : Int} (h : Bd n y) (h' : Bd n z) : Bd (n + 1) (y + z) := by
  unfold Bd at *
  rw [Nat.pow_succ]
  have := Int.natAbs_add_le y z
  omega
theorem Bd.mul {n m : Nat} {y z : Int} (h : Bd n y) (h' : Bd m z) : Bd (n + m) (y * z) := by
  unfold Bd at *
  rw [Int.natAbs_mul, Nat.pow_add]
  exact Nat.mul_lt_mul'' h h'
theorem Bd.le {n : Nat} {y z : Int} (h : Bd n z) (h0 : 0 ≤ y) (l : y ≤ z) : Bd n y := by
  unfold Bd at *
  omega
theorem Bd.lt64 {y : Int} (h0 : 0 ≤ y) (l : y < 18446744073709551616) : Bd 64 y := by
  unfold Bd
  have : (2 : Nat) ^ 64 = 18446744073709551616 := by decide
  omega
theorem CMulX.of {n m : Nat} {y z : Int} (h : Bd n y) (h' : Bd m z) (l : n + m ≤ 134217728) : CMulX y z := by
  have a := bits_le h
  have b := bits_le h'
  unfold CMulX
  omega
/-! ### what a feed is -/
/-- the feed's list: n draws at most, since it was made -/
def FeedO (n : Nat) (o : MO) : Prop := ∃ a b c : Int, o = .lst [.int a, .int b, .int c] ∧ 0 ≤ a ∧ Bd 2000000 a ∧ 0 ≤ b ∧ b < 1000000000000000000000000000000000000023 ∧ 0 ≤ c ∧ c ≤ n
theorem FeedO.mono {n m : Nat} {o : MO} (h : FeedO n o) (l : n ≤ m) : FeedO m o := by
  obtain ⟨a, b, c, h1, h2, h3, h4, h5, h6, h7⟩ := h
  exact ⟨a, b, c, h1, h2, h3, h4, h5, h6, by omega⟩
def Script (ns : List Int) : Prop := ns.length ≤ 63 ∧ ∀ z ∈ ns, Builtin.Int.intBits z ≤ 1048576
abbrev scT (ns : List Int) : Tr := .fro (ns.map Tr.int)
end T

/-! S: draws. -/
namespace T
open PySem PySem.Spec PyProof.Rows L2
@[simp] theorem cpow18 : CPow 10 18 := by unfold CPow; decide
@[simp] theorem cpow39 : CPow 10 39 := by unfold CPow; decide
@[simp] theorem cpow43 : CPow 10 43 := by unfold CPow; decide
@[simp] theorem cpow38 : CPow 10 38 := by unfold CPow; decide
@[simp] theorem cpow9 : CPow 10 9 := by unfold CPow; decide
@[simp] theorem sl2' : 2 ≤ sizeLine := small_line (by decide)
@[simp] theorem sl3' : 3 ≤ sizeLine := small_line (by decide)
@[simp] theorem sl4' : 4 ≤ sizeLine := small_line (by decide)
@[simp] theorem sl5' : 5 ≤ sizeLine := small_line (by decide)
@[simp] theorem sl6' : 6 ≤ sizeLine := small_line (by decide)
@[simp] theorem sl7' : 7 ≤ sizeLine := small_line (by decide)
theorem feed_fin {cell : Int} {k : Nat} (h : Bd 1048577 cell) : FeedO 0 (.lst [.int (if 1000000000000000000 < cell then cell - 1000000000000000000 else 0), .int ((cell * 19 + 7 * (k : Int)) % 1000000000000000000000000000000000000023), .int 0]) := by
  refine ⟨_, _, _, rfl, ?_, ?_, Int.emod_nonneg _ (by decide), Int.emod_lt_of_pos _ (by decide), Int.le_refl 0, Int.le_refl _⟩
  · split <;> omega
  · split
    · exact (Bd.le (h.mono (by decide : 1048577 ≤ 2000000)) (by omega) (by omega))
    · exact (Bd.lt64 (by decide) (by decide)).mono (by decide)
theorem bd_take {ns : List Int} (hs : ∀ z ∈ ns, Builtin.Int.intBits z ≤ 1048576) : Bd 1048576 (ns.take 1).sum := by
  cases ns with
  | nil => exact (Bd.lt64 (y := 0) (by decide) (by decide)).mono (by decide)
  | cons n r =>
    have : ((n :: r).take 1).sum = n := by simp
    rw [this]
    exact .of_bits (hs n List.mem_cons_self)
def sp__law_feed : Sp2 := A2 fun a b M Q _ => ∃ (ns : List Int) (k : Nat), a = scT ns ∧ b = .int k ∧ Script ns ∧ k ≤ 1000000 ∧ ∀ p o, M p = none → FeedO 0 o → Q (.loc p) (up M p o)
def n__law_feed : List Str := "script" :: "k" :: "cell" :: []
def b__law_feed : TS2 := (sSq (sAs (eOp rAdd2 (eOp rMul2 (eC (.int 977)) (eVar 1)) (eB rSum2 (aCons (eSl rSl2 (eVar 0) oNo (oPart (eC (.int 1)))) aNil))) (gN 2))
  (sSq (sIf (tCm (eOp rLtI (eVar 1) (eB rLen2 (aCons (eVar 0) aNil)))) (sAs (eOp rIx2 (eVar 0) (eVar 1)) (gN 2)) sNx)
  (sRt (eLst (aCons (eB rMax2 (aCons (eC (.int 0)) (aCons (eOp rSub2 (eVar 2) (eOp rPow2 (eC (.int 10)) (eC (.int 18)))) aNil))) (aCons (eOp rMod2 (eB rInt2 (aCons (eOp rAdd2 (eOp rMul2 (eVar 2) (eC (.int 19))) (eOp rMul2 (eC (.int 7)) (eVar 1))) aNil)) (eOp rAdd2 (eOp rPow2 (eC (.int 10)) (eC (.int 39))) (eC (.int 23)))) (aCons (eC (.int 0)) aNil)))))))
theorem sem__law_feed : ∀ ds M Q E, sp__law_feed ds M Q E → b__law_feed (fEnds Q E) (start2 n__law_feed ds) M := by
  rintro ds M Q E ⟨a, b, rfl, ns, k, rfl, rfl, ⟨hl, hs⟩, h1, hq⟩
  have hk : Bd 64 (k : Int) := Bd.lt64 (by omega) (by omega)
  have l977 : Bd 64 977 := Bd.lt64 (y := 977) (by decide) (by decide)
  have l7 : Bd 64 7 := Bd.lt64 (y := 7) (by decide) (by decide)
  have l19 : Bd 64 19 := Bd.lt64 (y := 19) (by decide) (by decide)
  have c1 : CMulX 977 (k : Int) := CMulX.of l977 hk (by decide)
  have c7 : CMulX 7 (k : Int) := CMulX.of l7 hk (by decide)
  have fin : ∀ (M' : Ms) (cell : Int), Le M M' → Bd 1048577 cell → ∀ p, M' p = none → Fg Q (Tr.loc p) (up M' p (.lst [.int (if 1000000000000000000 < cell then cell - 1000000000000000000 else 0), .int ((cell * 19 + 7 * (k : Int)) % 1000000000000000000000000000000000000023), .int 0])) :=
    fun M' cell l b p hp => Fg.le l.up (hq p _ (l.none hp) (feed_fin b))
  simp only [b__law_feed, start2, n__law_feed]
  simp [c1]
  intro p hp
  have hc : cutT (ns.map Tr.int) none (some 1) = (ns.take 1).map Tr.int := by
    rw [show (some (1 : Int)) = some ((1 : Nat) : Int) from rfl, cutT_hi, List.map_take]
  rw [hc]
  have hb0 := bd_take hs
  have hs2 : Bd 1048577 (977 * (k : Int) + (ns.take 1).sum) := ((l977.mul hk).mono (by decide)).add hb0
  have cx0 : CMulX (977 * (k : Int) + (ns.take 1).sum) 19 := CMulX.of hs2 l19 (by decide)
  refine ⟨ns.take 1, seqT_lst up_same, (fun _ e => nomatch e), ?_⟩
  simp
  split
  · rename_i hk2
    have hk3 : k < ns.length := by omega
    have hb : Bd 1048576 ns[k] := .of_bits (hs _ (List.getElem_mem hk3))
    have cx : CMulX ns[k] 19 := CMulX.of hb l19 (by decide)
    have ea : (ns.map Tr.int)[k]? = some (.int ns[k]) := by simp [hk3]
    simp [↓kAt_get ea, cx, c7]
    intro p2 hp2
    exact fin _ _ (Le.new hp) (hb.mono (by decide)) p2 hp2
  · simp [cx0, c7]
    intro p2 hp2
    exact fin _ _ (Le.new hp) hs2 p2 hp2
def sp__law_draw : Sp2 := A2 fun a b M Q _ => ∃ (f : Addr) (m : Int) (n : Nat) (o : MO), a = .loc f ∧ b = .int m ∧ 1 ≤ m ∧ m ≤ 1000000000000000000000000000000000000000000000000000000000000 ∧ n ≤ 1000000000 ∧ M f = some o ∧ FeedO n o ∧ ∀ r o', 0 ≤ r → r < m → FeedO (n + 1) o' → Q (.int r) (up M f o')
def n__law_draw : List Str := "feed" :: "many" :: "rest" :: "got" :: "stir" :: []
def b__law_draw : TS2 := (sSq (sIf (tCm (eOp rGtI (eOp rIx2 (eVar 0) (eC (.int 0))) (eC (.int 0)))) (sSq (sAs (eOp rDiv2 (eOp rIx2 (eVar 0) (eC (.int 0))) (eVar 1)) (gN 2))
  (sSq (sAs (eOp rSub2 (eOp rIx2 (eVar 0) (eC (.int 0))) (eOp rMul2 (eVar 2) (eVar 1))) (gN 3))
  (sSq (sAs (eVar 2) (gSb rPut2 (eVar 0) (eC (.int 0))))
  (sRt (eVar 3))))) sNx)
  (sSq (sAs (eOp rAdd2 (eOp rIx2 (eVar 0) (eC (.int 2))) (eC (.int 1))) (gSb rPut2 (eVar 0) (eC (.int 2))))
  (sSq (sAs (eOp rAdd2 (eOp rIx2 (eVar 0) (eC (.int 1))) (eOp rMul2 (eC (.int 6700417)) (eOp rIx2 (eVar 0) (eC (.int 2))))) (gN 4))
  (sSq (sAs (eOp rMod2 (eB rInt2 (aCons (eOp rAdd2 (eOp rMul2 (eOp rMul2 (eVar 4) (eVar 4)) (eVar 4)) (eOp rMul2 (eC (.int 15485863)) (eOp rIx2 (eVar 0) (eC (.int 2))))) aNil)) (eOp rAdd2 (eOp rPow2 (eC (.int 10)) (eC (.int 43))) (eC (.int 57)))) (gN 4))
  (sSq (sAs (eOp rMod2 (eB rInt2 (aCons (eOp rAdd2 (eOp rMul2 (eVar 4) (eVar 4)) (eC (.int 32452843))) aNil)) (eOp rAdd2 (eOp rPow2 (eC (.int 10)) (eC (.int 38))) (eC (.int 133)))) (gN 4))
  (sRt (eOp rMod2 (eB rInt2 (aCons (eOp rDiv2 (eVar 4) (eOp rPow2 (eC (.int 10)) (eC (.int 9)))) aNil)) (eVar 1))))))))
theorem sem__law_draw : ∀ ds M Q E, sp__law_draw ds M Q E → b__law_draw (fEnds Q E) (start2 n__law_draw ds) M := by
  rintro ds M Q E ⟨a0, b0, rfl, f, m, n, o, rfl, rfl, m1, m2, hn, hf, ⟨a, b, c, rfl, ha, hab, hb, hb2, hc, hcn⟩, hq⟩
  have hs : ∀ M : Ms, ∀ l, M f = some (.lst l) → seqT (.loc f) M = some l := fun M l h => seqT_lst h
  have hm : CDv a m := ⟨by omega, by
    have : m.natAbs < 2 ^ 200 := by
      have : (2 : Nat) ^ 200 = 1606938044258990275541962092341162602522202993782792835301376 := by decide
      omega
    have h0 : m.natAbs ≠ 0 := by omega
    have := (Nat.log2_lt h0).mpr this
    omega⟩
  have bm : Bd 200 m := by
    unfold Bd
    have : (2 : Nat) ^ 200 = 1606938044258990275541962092341162602522202993782792835301376 := by decide
    omega
  have e1 := Int.mul_ediv_add_emod a m
  have p1 := Int.emod_nonneg a (show m ≠ 0 by omega)
  have p2 := Int.emod_lt_of_pos a (show 0 < m by omega)
  have p3 : 0 ≤ a / m := Int.ediv_nonneg ha (by omega)
  have p4 : a / m ≤ a := Int.ediv_le_self m ha
  have cm : CMulX (a / m) m := CMulX.of (hab.le p3 p4) bm (by decide)
  simp only [b__law_draw, start2, n__law_draw]
  simp [hf]
  by_cases h0 : 0 < a
  · simp [h0, hm, cm]
    have e2 : a - a / m * m = a % m := by
      have : a / m * m = m * (a / m) := Int.mul_comm _ _
      omega
    rw [e2]
    exact Fg.same (hq _ _ p1 p2 ⟨_, _, _, rfl, p3, hab.le p3 p4, hb, hb2, hc, by omega⟩)
  · have l1 : Bd 64 6700417 := Bd.lt64 (y := 6700417) (by decide) (by decide)
    have l2 : Bd 64 15485863 := Bd.lt64 (y := 15485863) (by decide) (by decide)
    have l3 : Bd 64 (c + 1) := Bd.lt64 (by omega) (by omega)
    have bb : Bd 180 b := by
      unfold Bd
      have : (2 : Nat) ^ 180 = 1532495540865888858358347027150309183618739122183602176 := by decide
      omega
    have bS : Bd 190 (b + 6700417 * (c + 1)) := (bb.add ((l1.mul l3).mono (by decide))).mono (by decide)
    have c1 : CMulX 6700417 (c + 1) := CMulX.of l1 l3 (by decide)
    have c2 : CMulX (b + 6700417 * (c + 1)) (b + 6700417 * (c + 1)) := CMulX.of bS bS (by decide)
    have c3 : CMulX ((b + 6700417 * (c + 1)) * (b + 6700417 * (c + 1))) (b + 6700417 * (c + 1)) := CMulX.of (bS.mul bS) bS (by decide)
    have c4 : CMulX 15485863 (c + 1) := CMulX.of l2 l3 (by decide)
    have t1 := Int.emod_nonneg ((b + 6700417 * (c + 1)) * (b + 6700417 * (c + 1)) * (b + 6700417 * (c + 1)) + 15485863 * (c + 1)) (show (10000000000000000000000000000000000000000057 : Int) ≠ 0 by decide)
    have t2 := Int.emod_lt_of_pos ((b + 6700417 * (c + 1)) * (b + 6700417 * (c + 1)) * (b + 6700417 * (c + 1)) + 15485863 * (c + 1)) (show (0 : Int) < 10000000000000000000000000000000000000000057 by decide)
    have tb : Bd 180 (((b + 6700417 * (c + 1)) * (b + 6700417 * (c + 1)) * (b + 6700417 * (c + 1)) + 15485863 * (c + 1)) % 10000000000000000000000000000000000000000057) := by
      unfold Bd
      generalize ((b + 6700417 * (c + 1)) * (b + 6700417 * (c + 1)) * (b + 6700417 * (c + 1)) + 15485863 * (c + 1)) % 10000000000000000000000000000000000000000057 = T at t1 t2
      have : (2 : Nat) ^ 180 = 1532495540865888858358347027150309183618739122183602176 := by decide
      omega
    have c5 := CMulX.of tb tb (by decide)
    have c6 : ∀ z, CDv z 1000000000 := fun z => ⟨by decide, by decide⟩
    have hm0 : 0 < m := by omega
    simp [h0, c1, c2, c3, c4, c5, c6, hm0]
    exact Fg.same (hq _ _ (Int.emod_nonneg _ (by omega)) (Int.emod_lt_of_pos _ hm0) ⟨_, _, _, rfl, ha, hab, hb, hb2, by omega, by omega⟩)
def sp__law_one : Sp2 := A2 fun a b M Q _ => ∃ (f : Addr) (l : List Tr) (n : Nat) (o : MO), a = .loc f ∧ lenT b M = some l.length ∧ seqS b M = some l ∧ b ≠ .loc f ∧ 0 < l.length ∧ l.length ≤ 1000000 ∧ n ≤ 1000000000 ∧ M f = some o ∧ FeedO n o ∧ ∀ r o', r ∈ l → FeedO (n + 1) o' → Q r (up M f o')
theorem kChr_get {z : Str} {i : Nat} {c : Nat} {P : Tr → Prop} (h : z.cps.toList[i]? = some c) : kChr z (i : Int) P = P (.str ⟨#[c]⟩) := by
  unfold kChr
  rw [atI_nat, h]
def n__law_one : List Str := "feed" :: "things" :: []
def b__law_one : TS2 := (sRt (eOp rIx2 (eVar 1) (eCall sp__law_draw [] (aCons (eVar 0) (aCons (eB rLen2 (aCons (eVar 1) aNil)) aNil)))))
theorem sem__law_one : ∀ ds M Q E, sp__law_one ds M Q E → b__law_one (fEnds Q E) (start2 n__law_one ds) M := by
  rintro ds M Q E ⟨a, b, rfl, f, l, n, o, rfl, hl, hs, hne, h0, h6, hn, hf, hF, hq⟩
  simp only [b__law_one, start2, n__law_one]
  simp
  unfold kL
  rw [hl]
  simp
  refine ⟨_, _, rfl, f, _, n, o, rfl, rfl, by omega, by omega, hn, hf, hF, fun r o' r0 r1 ho => ?_⟩
  obtain ⟨k, rfl⟩ : ∃ k : Nat, r = (k : Int) := ⟨r.toNat, by omega⟩
  have hk : k < l.length := by omega
  have go := Fg.same (hq l[k] o' (List.getElem_mem hk) ho)
  have hlk : l[k]? = some l[k] := by simp [hk]
  generalize l[k] = xk at go hlk
  cases b with
  | str z =>
    have e : (z.cps.toList.map fun k => Tr.str ⟨#[k]⟩) = l := Option.some.inj hs
    have hz : z.length ≤ sizeLine := by
      simp only [lenT] at hl
      split at hl
      · assumption
      · cases hl
    rw [← e, List.getElem?_map] at hlk
    cases hc : z.cps.toList[k]? with
    | none => rw [hc] at hlk; cases hlk
    | some ch =>
      rw [hc] at hlk
      have e3 : Tr.str ⟨#[ch]⟩ = xk := Option.some.inj hlk
      simp [hz]
      rw [kChr_get hc, e3]
      exact go
  | tup ds =>
    have e : ds = l := Option.some.inj hs
    subst e
    simp
    rw [kAt_get hlk]
    exact go
  | fro ds =>
    have e : ds = l := Option.some.inj hs
    subst e
    simp
    rw [kAt_get hlk]
    exact go
  | loc g =>
    have hg : g ≠ f := fun e => hne (by rw [e])
    have e : M g = some (.lst l) := seqT_loc hs
    simp [up_ne hg, e]
    rw [kAt_get hlk]
    exact go
  | _ => cases hs
/-! ### documents drawn -/
theorem atI_mem {α : Type} {l : List α} {i : Nat} {x : α} (h : l[i]? = some x) : x ∈ l := List.mem_of_getElem? h
def mkW (z : Str) : Prop := z = "a" ∨ z = "ab" ∨ z = "abc" ∨ z = "abcdefgh"
theorem mkW_len {z : Str} (h : mkW z) : z.length ≤ 8 ∧ 0 < z.length ∧ z.cps.toList.length = z.length := by
  rcases h with h | h | h | h <;> subst h <;> decide
theorem mkW_mem {z : Str} (h : mkW z) : ∀ r ∈ z.cps.toList.map (fun k => Tr.str ⟨#[k]⟩), ∃ m, r = .str m ∧ isMk (.str m) = true := by
  have key : ∀ k ∈ ("abcdefgh" : Str).cps.toList, isMk (.str ⟨#[k]⟩) = true := by decide +kernel
  have sub : ∀ k ∈ z.cps.toList, k ∈ ("abcdefgh" : Str).cps.toList := by
    rcases h with h | h | h | h <;> subst h <;> decide +kernel
  intro r hr
  obtain ⟨k, hk, rfl⟩ := List.mem_map.mp hr
  exact ⟨_, rfl, key k (sub k hk)⟩
theorem Vd.snoc {d : Doc} {m : Nat} {e : Str × Nat} (h : Vd m d) (h1 : isMk (.str e.1) = true) (h2 : e.2 ≤ ((d.map fun e => e.2 + 1).getLast?.getD m)) : Vd m (d ++ [e]) := by
  induction d generalizing m with
  | nil => exact ⟨h1, h2, trivial⟩
  | cons x r ih =>
    refine ⟨h.1, h.2.1, ih h.2.2 ?_⟩
    cases r with
    | nil => simpa using h2
    | cons y r =>
      simp only [List.map_cons, List.getLast?_cons, Option.getD_some] at h2 ⊢
      exact h2
theorem Vd.last {d : Doc} {m : Nat} (h : Vd m d) : ((d.map fun e => e.2 + 1).getLast?.getD m) ≤ m + d.length := by
  induction d generalizing m with
  | nil => simp
  | cons x r ih =>
    have := ih h.2.2
    have h2 := h.2.1
    cases r with
    | nil => simp; omega
    | cons y r =>
      simp only [List.map_cons, List.getLast?_cons, Option.getD_some, List.length_cons] at this ⊢
      omega
theorem CDv.of {z j : Int} (h : 0 < j) (l : j ≤ 1000000000) : CDv z j := ⟨h, by
  have : j.natAbs < 2 ^ 64 := by
    have : (2 : Nat) ^ 64 = 18446744073709551616 := by decide
    omega
  have h0 : j.natAbs ≠ 0 := by omega
  have := (Nat.log2_lt h0).mpr this
  omega⟩
def nextD (d : Doc) : Nat := ((d.map fun e => e.2 + 1).getLast?.getD 0)
theorem nextD_le {d : Doc} (h : Vd 0 d) : nextD d ≤ d.length := by have := h.last; unfold nextD; omega
theorem mark8 (k : Nat) (h : k < 8) : ∃ c, ("abcdefgh" : Str).cps.toList[k]? = some c ∧ isMk (.str ⟨#[c]⟩) = true := by
  have e : ("abcdefgh" : Str).cps.toList.length = 8 := by decide +kernel
  have hk : k < ("abcdefgh" : Str).cps.toList.length := by omega
  obtain ⟨m, e1, e2⟩ := mkW_mem (z := "abcdefgh") (.inr (.inr (.inr rfl))) (.str ⟨#[("abcdefgh" : Str).cps.toList[k]]⟩) (List.mem_map.mpr ⟨_, List.getElem_mem hk, rfl⟩)
  cases e1
  exact ⟨_, by simp [hk], e2⟩
theorem nextD_snoc {d : Doc} {e : Str × Nat} : nextD (d ++ [e]) = e.2 + 1 := by unfold nextD; simp
theorem Val.snoc {d : Doc} {e : Str × Nat} (h : Vd 0 d) (h1 : isMk (.str e.1) = true) (h2 : e.2 ≤ nextD d) : Vd 0 (d ++ [e]) := Vd.snoc h h1 h2
end T

/-! S: documents drawn; their ways. -/
namespace T
open PySem PySem.Spec PyProof.Rows L2
/-! ### parents -/
/-- the last place below n where p holds -/
def lastI (p : Nat → Bool) : Nat → Option Nat
  | 0 => none
  | n + 1 => if p n then some n else lastI p n
def depA (d : Doc) (i : Nat) : Nat := (d[i]?.map (·.2)).getD 0
def parA (d : Doc) (i : Nat) : Option Nat := lastI (fun j => decide (depA d j + 1 = depA d i)) i
def optT : Option Nat → Tr
  | none => .non
  | some n => .int n
def parsT (d : Doc) (n : Nat) : List Tr := (List.range n).map fun i => optT (parA d i)
theorem lastI_some {p : Nat → Bool} : ∀ {n k : Nat}, k < n → p k = true → (∀ j, k < j → j < n → p j = false) → lastI p n = some k
  | 0, _, h, _, _ => absurd h (Nat.not_lt_zero _)
  | n + 1, k, h, hp, hj => by
    unfold lastI
    by_cases c : k = n
    · subst c; rw [hp]; rfl
    · rw [hj n (by omega) (by omega)]
      exact lastI_some (by omega) hp fun j a b => hj j a (by omega)
theorem lastI_none {p : Nat → Bool} : ∀ {n : Nat}, (∀ j, j < n → p j = false) → lastI p n = none
  | 0, _ => rfl
  | n + 1, h => by
    unfold lastI
    rw [h n (by omega)]
    exact lastI_none fun j a => h j (by omega)
theorem lastI_spec {p : Nat → Bool} : ∀ {n k : Nat}, lastI p n = some k → k < n ∧ p k = true ∧ ∀ j, k < j → j < n → p j = false
  | 0, _, h => nomatch h
  | n + 1, k, h => by
    unfold lastI at h
    split at h
    · rename_i c
      cases h
      exact ⟨by omega, c, fun j a b => by omega⟩
    · rename_i c
      obtain ⟨h1, h2, h3⟩ := lastI_spec h
      refine ⟨by omega, h2, fun j a b => ?_⟩
      by_cases e : j = n
      · subst e; simpa using c
      · exact h3 j a (by omega)
/-- the path: what stands open before node n; the last of each depth -/
structure Path (d : Doc) (n : Nat) (st : List Nat) : Prop where
  at_ : ∀ i k, st[i]? = some k → k < n ∧ depA d k = i ∧ ∀ j, k < j → j < n → i < depA d j
theorem Vd.dep {m : Nat} {d : Doc} (h : Vd m d) : ∀ i e, d[i]? = some e → isMk (.str e.1) = true ∧ e.2 ≤ (if i = 0 then m else (depA d (i - 1)) + 1) := by
  induction d generalizing m with
  | nil => intro i e h; simp at h
  | cons x r ih =>
    intro i e he
    cases i with
    | zero => simp at he; subst he; exact ⟨h.1, by simpa using h.2.1⟩
    | succ i =>
      have he' : r[i]? = some e := by simpa using he
      have := ih h.2.2 i e he'
      refine ⟨this.1, ?_⟩
      have h2 := this.2
      cases i with
      | zero => simpa [depA] using h2
      | succ i => simpa [depA] using h2
/-- the path's length: one more than the depth before -/
def pathN (d : Doc) (n : Nat) : Nat := if n = 0 then 0 else depA d (n - 1) + 1
theorem Path.pop {d : Doc} {n : Nat} {st : List Nat} (h : Path d n st) (m : Nat) : Path d n (st.take m) := ⟨fun i k e => by
  rw [List.getElem?_take] at e
  split at e
  · exact h.at_ i k e
  · cases e⟩
theorem Path.push {d : Doc} {n : Nat} {st : List Nat} (h : Path d n st) (hl : st.length = depA d n) : Path d (n + 1) (st ++ [n]) := ⟨fun i k e => by
  by_cases c : i < st.length
  · rw [List.getElem?_append_left c] at e
    obtain ⟨h1, h2, h3⟩ := h.at_ i k e
    refine ⟨by omega, h2, fun j a b => ?_⟩
    by_cases q : j = n
    · subst q; omega
    · exact h3 j a (by omega)
  · rw [List.getElem?_append_right (by omega)] at e
    have : i - st.length = 0 := by
      cases q : i - st.length with
      | zero => rfl
      | succ z => rw [q] at e; simp at e
    rw [this] at e
    cases e
    exact ⟨by omega, by omega, fun j a b => by omega⟩⟩
/-- the parent of the next node, by the path cut at its depth -/
theorem Path.par {d : Doc} {n : Nat} {st : List Nat} (h : Path d n st) (hl : st.length = depA d n) : parA d n = if depA d n = 0 then none else st[st.length - 1]? := by
  unfold parA
  by_cases c : depA d n = 0
  · rw [if_pos c]
    exact lastI_none fun j hj => by simp; omega
  · rw [if_neg c]
    have hk : st.length - 1 < st.length := by omega
    have e : st[st.length - 1]? = some st[st.length - 1] := by simp [hk]
    rw [e]
    obtain ⟨h1, h2, h3⟩ := h.at_ _ _ e
    refine lastI_some h1 (by simp; omega) fun j a b => ?_
    have := h3 j a b
    simp; omega
end T

/-! S: the ways of documents. -/
namespace T
open PySem PySem.Spec PyProof.Rows L2
theorem depA_at {d : Doc} {i : Nat} {e : Str × Nat} (h : d[i]? = some e) : depA d i = e.2 := by unfold depA; rw [h]; rfl
theorem Val.dep_le {d : Doc} (h : Vd 0 d) {i : Nat} (hi : i < d.length) : depA d i ≤ pathN d i := by
  have e : d[i]? = some d[i] := by simp [hi]
  have := (h.dep i _ e).2
  unfold pathN
  rw [depA_at e]
  split at this <;> rename_i c
  · rw [if_pos c]; exact this
  · rw [if_neg c]; exact this
theorem Val.path_le {d : Doc} (h : Vd 0 d) : ∀ {i : Nat}, i ≤ d.length → pathN d i ≤ i
  | 0, _ => Nat.le_refl _
  | i + 1, hi => by
    have h1 := Val.dep_le h (i := i) (by omega)
    have h2 := Val.path_le h (i := i) (by omega)
    have : pathN d (i + 1) = depA d i + 1 := by simp [pathN]
    omega
theorem Val.dep_lt {d : Doc} (h : Vd 0 d) {i : Nat} (hi : i < d.length) : depA d i ≤ i := Nat.le_trans (Val.dep_le h hi) (Val.path_le h (by omega))
theorem ent_at {d : Doc} {i : Nat} {x : Tr} (h : (d.map entT)[i]? = some x) : ∃ e, d[i]? = some e ∧ x = .tup [.str e.1, .int (depA d i)] := by
  rw [List.getElem?_map] at h
  cases hc : d[i]? with
  | none => rw [hc] at h; cases h
  | some e =>
    rw [hc] at h
    cases h
    exact ⟨e, rfl, by rw [depA_at hc]; rfl⟩
theorem take_pop {α : Type} {l : List α} {m : Nat} (h : m ≤ l.length) : (l.take m).dropLast = l.take (m - 1) := by
  rw [List.dropLast_eq_take, List.length_take, Nat.min_eq_left h, List.take_take, Nat.min_eq_left (by omega)]
theorem kLast_of {l : List Tr} {x : Tr} {P : Tr → Prop} (h : l[l.length - 1]? = some x) : kLast l P = P x := by unfold kLast; rw [h]
abbrev natT (k : Nat) : Tr := .int k
def sp_parents_of : Sp2 := A1 fun a M Q _ => ∃ d, a = docT d ∧ Val d ∧ ∀ p, M p = none → Q (.loc p) (up M p (.lst (parsT d d.length)))
def n_parents_of : List Str := "document" :: "parents" :: "above" :: "node" :: "mark" :: "depth" :: []
def b_parents_of : TS2 := (sSq (sAs (eLst aNil) (gN 1))
  (sSq (sAs (eLst aNil) (gN 2))
  (sSq (sFo (iEn (aCons (eVar 0) aNil)) (gT 2 (gCo (gN 3) (gCo (gT 2 (gCo (gN 4) (gCo (gN 5) gNil2))) gNil2))) (sSq (sWh (tCm (eOp rGtI (eB rLen2 (aCons (eVar 2) aNil)) (eVar 5))) (sDr (eM0 "list" rPop2 (eVar 2))))
  (sSq (sDr (eM "list" rApp2 (eVar 1) (aCons (eIf (tCm (eOp rGtI (eVar 5) (eC (.int 0)))) (eOp rIx2 (eVar 2) (eUn rNeg2 (eC (.int 1)))) (eC .non)) aNil)))
  (sDr (eM "list" rApp2 (eVar 2) (aCons (eVar 3) aNil))))))
  (sRt (eVar 1)))))
theorem sem_parents_of : ∀ ds M Q E, sp_parents_of ds M Q E → b_parents_of (fEnds Q E) (start2 n_parents_of ds) M := by
  rintro ds M Q E ⟨a, rfl, d, rfl, ⟨hv, hl⟩, hq⟩
  simp only [b_parents_of, start2, n_parents_of]
  simp
  intro p hp
  simp
  intro g hg
  have gp : g ≠ p := by intro e; subst e; rw [up_same] at hg; cases hg
  have hg2 : M g = none := by rw [up_ne gp] at hg; exact hg
  have pg : p ≠ g := fun e => gp e.symm
  simp [docT]
  refine for_itE (fun i σ M' => ∃ (st : List Nat) (x y z : Option Tr), σ = [some (docT d), some (.loc p), some (.loc g), x, y, z] ∧ M' p = some (.lst (parsT d i)) ∧ M' g = some (.lst (st.map natT)) ∧ (∀ a, a ≠ p → a ≠ g → M' a = M a) ∧ Path d i st ∧ st.length = pathN d i) ?_ ?_ ?_ ?_
  · exact ⟨[], none, none, none, rfl, by rw [up_ne pg, up_same]; rfl, up_same, fun a h1 h2 => by rw [up_ne h2, up_ne h1], ⟨fun i k e => by simp at e⟩, rfl⟩
  · rintro i σ M' _ ⟨st, x, y, z, rfl, _⟩
    rfl
  · rintro i e σ M' he ⟨st, x, y, z, rfl, ep, eg, fr, hP, hst⟩
    obtain ⟨en, hen, rfl⟩ := ent_at he
    have hi : i < d.length := (List.getElem?_eq_some_iff.mp hen).1
    have hdl := Val.dep_le hv hi
    rw [← hst] at hdl
    have hdi := Val.dep_lt hv hi
    simp only [gT_ap, gCo_ap, gN_3, gN_4, gN_5, gNil2_ap, List.length_cons, List.length_nil, true_and]
    refine seq_cut (fun σ1 M1 => σ1 = [some (docT d), some (.loc p), some (.loc g), some (.int i), some (.str en.1), some (.int (depA d i))] ∧ M1 p = some (.lst (parsT d i)) ∧ M1 g = some (.lst ((st.take (depA d i)).map natT)) ∧ ∀ a, a ≠ p → a ≠ g → M1 a = M a) (fun NX hN => ?_) ?_
    · refine sWh_of (fun m σ1 M1 => m ≤ st.length ∧ depA d i ≤ m ∧ σ1 = [some (docT d), some (.loc p), some (.loc g), some (.int i), some (.str en.1), some (.int (depA d i))] ∧ M1 p = some (.lst (parsT d i)) ∧ M1 g = some (.lst ((st.take m).map natT)) ∧ ∀ a, a ≠ p → a ≠ g → M1 a = M a) st.length ⟨Nat.le_refl _, hdl, rfl, ep, by rw [List.take_length]; exact eg, fr⟩ ?_
      rintro m σ1 M1 ⟨h1, h2, rfl, ep1, eg1, fr1⟩
      simp [-List.map_take, eg1]
      by_cases c : depA d i < m
      · rw [if_pos (by omega)]
        refine WhT.of fun N2 hN2 => ?_
        have hk : m - 1 < st.length := by omega
        have e2 : ((st.take m).map natT)[((st.take m).map natT).length - 1]? = some (natT st[m - 1]) := by
          rw [List.length_map, List.length_take, Nat.min_eq_left h1, List.getElem?_map, List.getElem?_take, if_pos (by omega)]
          simp [hk]
        simp [-List.map_take, eg1, ↓kLast_of e2]
        exact hN2 (m - 1) _ _ (by omega) ⟨by omega, by omega, rfl, by rw [up_ne pg]; exact ep1, by rw [up_same, ← List.map_dropLast, take_pop h1], fun a h3 h4 => by rw [up_ne h4]; exact fr1 a h3 h4⟩
      · rw [if_neg (by omega)]
        have : m = depA d i := by omega
        subst this
        exact hN _ _ ⟨rfl, ep1, eg1, fr1⟩
    · rintro σ1 M1 ⟨rfl, ep1, eg1, fr1⟩
      have hP2 := hP.pop (depA d i)
      have hl2 : (st.take (depA d i)).length = depA d i := by rw [List.length_take]; omega
      have hpar := hP2.par hl2
      have hps : (parsT d i).length = i := by simp [parsT]
      have e1 : parsT d (i + 1) = parsT d i ++ [optT (parA d i)] := by simp [parsT, List.range_succ]
      have e3 : pathN d (i + 1) = depA d i + 1 := by simp [pathN]
      have fin : ∀ M2 : Ms, M2 p = some (.lst (parsT d i ++ [optT (parA d i)])) → M2 g = some (.lst ((st.take (depA d i)).map natT ++ [natT i])) → (∀ a, a ≠ p → a ≠ g → M2 a = M a) → ∃ (st' : List Nat) (x y z : Option Tr), [some (docT d), some (.loc p), some (.loc g), some (Tr.int i), some (.str en.1), some (.int (depA d i))] = [some (docT d), some (.loc p), some (.loc g), x, y, z] ∧
          M2 p = some (.lst (parsT d (i + 1))) ∧ M2 g = some (.lst (st'.map natT)) ∧ (∀ a, a ≠ p → a ≠ g → M2 a = M a) ∧ Path d (i + 1) st' ∧ st'.length = pathN d (i + 1) := fun M2 q1 q2 q3 =>
        ⟨st.take (depA d i) ++ [i], _, _, _, rfl, by rw [e1]; exact q1, by rw [List.map_append]; exact q2, q3, hP2.push hl2, by rw [List.length_append, hl2, e3]; rfl⟩
      refine nx_cut fun NX hN => ?_
      by_cases c0 : depA d i = 0
      · rw [if_pos c0] at hpar
        simp [-List.map_take, up_ne pg, up_ne gp, ep1, eg1, hps, c0]
        rw [c0] at fin eg1
        refine ⟨small_lt (by omega), small_lt (by omega), hN _ _ (fin _ ?_ ?_ fun a h3 h4 => ?_)⟩
        · rw [up_ne pg, up_same, hpar]; rfl
        · rw [up_same]; rfl
        · rw [up_ne h4, up_ne h3]; exact fr1 a h3 h4
      · rw [if_neg c0, hl2] at hpar
        have hk : depA d i - 1 < (st.take (depA d i)).length := by omega
        have e2 : (st.take (depA d i))[depA d i - 1]? = some (st.take (depA d i))[depA d i - 1] := by simp only [List.getElem?_eq_getElem hk]
        rw [e2] at hpar
        have e4 : ((st.take (depA d i)).map natT)[((st.take (depA d i)).map natT).length - 1]? = some (natT (st.take (depA d i))[depA d i - 1]) := by
          rw [List.length_map, hl2, List.getElem?_map, e2]; rfl
        have c1 : 0 < depA d i := by omega
        simp [-List.map_take, up_ne pg, up_ne gp, ep1, eg1, hps, c1, ↓kAt_last e4, Nat.min_eq_left hdl]
        refine ⟨small_lt (by omega), small_lt (by omega), hN _ _ (fin _ ?_ ?_ fun a h3 h4 => ?_)⟩
        · rw [up_ne pg, up_same, hpar]; simp [optT]
        · rw [up_same]
        · rw [up_ne h4, up_ne h3]; exact fr1 a h3 h4
  · rintro σ M' ⟨st, x, y, z, rfl, ep, eg, fr, _⟩
    simp
    refine Fg.le (M := up M p (.lst (parsT d d.length))) (fun a u e => ?_) (hq p hp)
    by_cases c : a = p
    · subst c; rw [up_same] at e; rw [← e]; simpa using ep
    · rw [up_ne c] at e
      rw [fr a c (fun h => by subst h; rw [hg2] at e; cases e)]; exact e
/-! ### ends -/
structure IsEnd (d : Doc) (k e : Nat) : Prop where
  lt : k < e
  le : e ≤ d.length
  deep : ∀ j, k < j → j < e → depA d k < depA d j
  stop : e < d.length → depA d e ≤ depA d k
theorem IsEnd.uniq {d : Doc} {k e f : Nat} (h : IsEnd d k e) (g : IsEnd d k f) : e = f := by
  rcases Nat.lt_trichotomy e f with c | c | c
  · have := h.stop (by have := g.le; omega)
    have := g.deep e h.lt c
    omega
  · exact c
  · have := g.stop (by have := h.le; omega)
    have := h.deep f g.lt c
    omega
def endF (d : Doc) (k : Nat) : Nat → Nat → Nat
  | 0, e => e
  | f + 1, e => if e < d.length ∧ depA d k < depA d e then endF d k f (e + 1) else e
def endA (d : Doc) (k : Nat) : Nat := endF d k d.length (k + 1)
theorem endF_ok {d : Doc} {k : Nat} : ∀ {f e : Nat}, k < e → e ≤ d.length → d.length ≤ f + e → (∀ j, k < j → j < e → depA d k < depA d j) → IsEnd d k (endF d k f e)
  | 0, e, h1, h2, h3, h4 => ⟨h1, h2, h4, fun h => absurd h (by show ¬ e < _; omega)⟩
  | f + 1, e, h1, h2, h3, h4 => by
    unfold endF
    split
    · rename_i c
      refine endF_ok (by omega) (by omega) (by omega) fun j a b => ?_
      by_cases q : j = e
      · subst q; exact c.2
      · exact h4 j a (by omega)
    · rename_i c
      exact ⟨h1, h2, h4, fun h => by omega⟩
theorem endA_ok {d : Doc} {k : Nat} (h : k < d.length) : IsEnd d k (endA d k) := endF_ok (by omega) (by omega) (by omega) fun j a b => by omega
theorem IsEnd.eq {d : Doc} {k e : Nat} (h : IsEnd d k e) : e = endA d k := h.uniq (endA_ok (by have := h.lt; have := h.le; omega))
theorem doc_at {d : Doc} {i : Nat} (h : i < d.length) : (d.map entT)[i]? = some (.tup [.str d[i].1, .int (depA d i)]) := by
  have e : d[i]? = some d[i] := by simp [h]
  rw [List.getElem?_map, e]
  show some (entT d[i]) = _
  rw [depA_at e]; rfl
theorem kAt_doc {d : Doc} {i : Nat} {P : Tr → Prop} (h : i < d.length) : kAt (d.map entT) (i : Int) P = P (.tup [.str d[i].1, .int (depA d i)]) := kAt_get (doc_at h)
def sp_end_of : Sp2 := A2 fun a b M Q _ => ∃ (d : Doc) (k : Nat), a = docT d ∧ b = .int k ∧ k < d.length ∧ Q (.int (endA d k)) M
def n_end_of : List Str := "document" :: "node" :: "end" :: []
def b_end_of : TS2 := (sSq (sAs (eOp rAdd2 (eVar 1) (eC (.int 1))) (gN 2))
  (sSq (sWh (tAn (tCm (eOp rLtI (eVar 2) (eB rLen2 (aCons (eVar 0) aNil)))) (tCm (eOp rGtI (eOp rIx2 (eOp rIx2 (eVar 0) (eVar 2)) (eC (.int 1))) (eOp rIx2 (eOp rIx2 (eVar 0) (eVar 1)) (eC (.int 1)))))) (sAu 2 rIpA (eC (.int 1))))
  (sRt (eVar 2))))
theorem sem_end_of : ∀ ds M Q E, sp_end_of ds M Q E → b_end_of (fEnds Q E) (start2 n_end_of ds) M := by
  rintro ds M Q E ⟨a, b, rfl, d, k, rfl, rfl, hk, hq⟩
  simp only [b_end_of, start2, n_end_of]
  simp
  refine sWh_of (fun m σ1 M1 => ∃ e : Nat, e + m = d.length ∧ k < e ∧ σ1 = [some (docT d), some (.int k), some (.int e)] ∧ M1 = M ∧ ∀ j, k < j → j < e → depA d k < depA d j) (d.length - (k + 1)) ⟨k + 1, by omega, by omega, rfl, rfl, fun j a b => by omega⟩ ?_
  rintro m σ1 M1 ⟨e, h1, h2, rfl, rfl, h3⟩
  simp [docT]
  by_cases c : e < d.length
  · rw [if_pos (by omega)]
    simp [↓kAt_doc c, ↓kAt_doc hk]
    by_cases c2 : depA d k < depA d e
    · rw [if_pos (by omega)]
      refine WhT.of fun N hN => ?_
      simp
      exact hN (m - 1) _ _ (by omega) ⟨e + 1, by omega, by omega, rfl, rfl, fun j a b => by
        by_cases q : j = e
        · subst q; exact c2
        · exact h3 j a (by omega)⟩
    · rw [if_neg (by omega)]
      rw [(show IsEnd d k e from ⟨h2, by omega, h3, fun _ => by omega⟩).eq]
      exact Fg.same hq
  · rw [if_neg (by omega)]
    rw [(show IsEnd d k e from ⟨h2, by omega, h3, fun _ => by omega⟩).eq]
    exact Fg.same hq
/-! ### children -/
def chA (d : Doc) (o : Option Nat) : List Nat := (List.range d.length).filter fun c => decide (parA d c = o)
theorem par_none {d : Doc} (h : Vd 0 d) {c : Nat} (hc : c < d.length) : parA d c = none ↔ depA d c = 0 := by
  constructor
  · intro e
    by_cases z : depA d c = 0
    · exact z
    · exfalso
      -- the path has a place of that depth
      have key : ∀ (n : Nat), n ≤ d.length → ∀ i, i < pathN d n → ∃ k, k < n ∧ depA d k = i ∧ ∀ j, k < j → j < n → i < depA d j := by
        intro n
        induction n with
        | zero => intro _ i hi; simp [pathN] at hi
        | succ n ih =>
          intro hn i hi
          have e1 : pathN d (n + 1) = depA d n + 1 := by simp [pathN]
          by_cases q : i = depA d n
          · exact ⟨n, by omega, q.symm, fun j a b => by omega⟩
          · have hd := Val.dep_le h (i := n) (by omega)
            obtain ⟨k, h1, h2, h3⟩ := ih (by omega) i (by omega)
            refine ⟨k, by omega, h2, fun j a b => ?_⟩
            by_cases q2 : j = n
            · subst q2; omega
            · exact h3 j a (by omega)
      obtain ⟨k, h1, h2, h3⟩ := key c (by omega) (depA d c - 1) (by have := Val.dep_le h hc; omega)
      have : parA d c = some k := by
        unfold parA
        refine lastI_some h1 (by simp; omega) fun j a b => ?_
        have := h3 j a b
        simp; omega
      rw [e] at this; cases this
  · intro e
    unfold parA
    exact lastI_none fun j hj => by simp; omega
theorem par_some {d : Doc} (h : Vd 0 d) {c k : Nat} (hc : c < d.length) (hk : k < d.length) : parA d c = some k ↔ k < c ∧ c < endA d k ∧ depA d c = depA d k + 1 := by
  have E := endA_ok hk
  constructor
  · intro e
    obtain ⟨h1, h2, h3⟩ := lastI_spec e
    have h2' : depA d k + 1 = depA d c := by simpa using h2
    refine ⟨h1, ?_, h2'.symm⟩
    by_cases q : c < endA d k
    · exact q
    · exfalso
      have s := E.stop (by omega)
      have l := E.lt
      -- from endA on down to c some node has the depth of k
      have key : ∀ n, endA d k ≤ n → n < c → (∃ j, endA d k ≤ j ∧ j ≤ n ∧ depA d j = depA d k) ∨ depA d n < depA d k := by
        intro n
        induction n with
        | zero => intro h1 h2; omega
        | succ n ih =>
          intro h1 h2
          by_cases q1 : endA d k = n + 1
          · rw [← q1]
            by_cases q2 : depA d (endA d k) = depA d k
            · exact .inl ⟨endA d k, by omega, by omega, q2⟩
            · exact .inr (by omega)
          · rcases ih (by omega) (by omega) with ⟨j, a, b, e⟩ | r
            · exact .inl ⟨j, a, by omega, e⟩
            · have := Val.dep_le h (i := n + 1) (by omega)
              have e1 : pathN d (n + 1) = depA d n + 1 := by simp [pathN]
              by_cases q2 : depA d (n + 1) = depA d k
              · exact .inl ⟨n + 1, by omega, by omega, q2⟩
              · exact .inr (by omega)
      by_cases q3 : endA d k = c
      · rw [q3] at s; omega
      · rcases key (c - 1) (by omega) (by omega) with ⟨j, a, b, e⟩ | r
        · have := h3 j (by omega) (by omega)
          simp at this; omega
        · have := Val.dep_le h hc
          have e1 : pathN d c = depA d (c - 1) + 1 := by unfold pathN; rw [if_neg (by omega)]
          omega
  · rintro ⟨h1, h2, h3⟩
    unfold parA
    refine lastI_some h1 (by simp; omega) fun j a b => ?_
    have := E.deep j a (by omega)
    simp; omega
theorem filter_range {n a b : Nat} {p q : Nat → Bool} (h1 : a ≤ b) (h2 : b ≤ n) (h : ∀ c, c < n → q c = (decide (a ≤ c) && decide (c < b) && p c)) : (List.range n).filter q = (List.range' a (b - a)).filter p := by
  have e : List.range n = List.range' 0 a ++ (List.range' a (b - a) ++ List.range' b (n - b)) := by
    rw [List.range_eq_range']
    have e1 := List.range'_append_1 (s := a) (m := b - a) (n := n - b)
    rw [show a + (b - a) = b by omega, show b - a + (n - b) = n - a by omega] at e1
    rw [e1]
    have e2 := List.range'_append_1 (s := 0) (m := a) (n := n - a)
    rw [show 0 + a = a by omega, show a + (n - a) = n by omega] at e2
    rw [e2]
  rw [e, List.filter_append, List.filter_append]
  have z1 : (List.range' 0 a).filter q = [] := List.filter_eq_nil_iff.mpr fun c hc => by
    simp at hc
    rw [h c (by omega)]; simp; omega
  have z2 : (List.range' b (n - b)).filter q = [] := List.filter_eq_nil_iff.mpr fun c hc => by
    simp at hc
    rw [h c (by omega)]; simp; omega
  rw [z1, z2, List.nil_append, List.append_nil]
  refine List.filter_congr fun c hc => ?_
  simp at hc
  rw [h c (by omega)]
  have : decide (a ≤ c) = true ∧ decide (c < b) = true := by simp; omega
  rw [this.1, this.2]; rfl
end T

/-! S: rows, ends. -/
namespace T
open PySem PySem.Spec PyProof.Rows L2
def chT (d : Doc) (o : Option Nat) : List Tr := (chA d o).map natT
theorem rg_doc {d : Doc} (h : d.length ≤ 20000) {j : Int} (h0 : 0 ≤ j) (h1 : j ≤ 20001) : Rg j := ⟨by omega, by omega⟩
def sp_row_of : Sp2 := A2 fun a b M Q _ => ∃ (d : Doc) (o : Option Nat), a = docT d ∧ b = optT o ∧ Val d ∧ (∀ k, o = some k → k < d.length) ∧ ∀ p, M p = none → Q (.loc p) (up M p (.lst (chT d o)))
def n_row_of : List Str := "document" :: "node" :: "below" :: "child" :: "mark" :: "depth" :: []
def b_row_of : TS2 := (sSq (sIf (tCm (eOp (rIsG id) (eVar 1) (eC .non))) (sRt (eLc (iEn (aCons (eVar 0) aNil)) (gT 2 (gCo (gN 3) (gCo (gT 2 (gCo (gN 4) (gCo (gN 5) gNil2))) gNil2))) (tCm (eOp (rEqG id) (eVar 5) (eC (.int 0)))) (eVar 3) [3, 4, 5])) sNx)
  (sSq (sAs (eOp rAdd2 (eOp rIx2 (eOp rIx2 (eVar 0) (eVar 1)) (eC (.int 1))) (eC (.int 1))) (gN 2))
  (sRt (eLc (iRg2 (aCons (eOp rAdd2 (eVar 1) (eC (.int 1))) (aCons (eCall sp_end_of [] (aCons (eVar 0) (aCons (eVar 1) aNil))) aNil))) (gN 3) (tCm (eOp (rEqG id) (eOp rIx2 (eOp rIx2 (eVar 0) (eVar 3)) (eC (.int 1))) (eVar 2))) (eVar 3) [3]))))
theorem sem_row_of : ∀ ds M Q E, sp_row_of ds M Q E → b_row_of (fEnds Q E) (start2 n_row_of ds) M := by
  rintro ds M Q E ⟨a, b, rfl, d, o, rfl, rfl, ⟨hv, hl⟩, ho, hq⟩
  simp only [b_row_of, start2, n_row_of]
  cases o with
  | none =>
    simp [optT]
    simp [docT]
    refine fun p hp => lc_fmE (fun i => if decide (depA d i = 0) = true then some (natT i) else none) (by simp; omega) (fun M' _ => rfl) (Fg.same ?_) ?_
    · rw [List.length_map, fm_if]
      have e : (List.range d.length).filter (fun i => decide (depA d i = 0)) = chA d none := List.filter_congr fun c hc => by
        have := par_none hv (c := c) (by simpa using hc)
        simp [this]
      rw [e]
      exact hq p hp
    · intro i e M' he fr KY KN h1 h2
      obtain ⟨en, hen, rfl⟩ := ent_at he
      simp [wipe2]
      by_cases c : depA d i = 0
      · simp [c]
        exact h1 _ (by simp [c])
      · simp [c]
        exact h2 (by simp [c])
  | some k =>
    have hk := ho k rfl
    have E1 := endA_ok hk
    have hle := E1.le
    have hlt := E1.lt
    simp [optT, docT, ↓kAt_doc hk]
    refine ⟨_, _, rfl, d, k, rfl, rfl, hk, ?_⟩
    simp
    refine ⟨ rg_doc hl (by omega) (by omega), rg_doc hl (by omega) (by omega), fun p hp => lc_fmR (fun i => if decide (depA d (k + 1 + i) = depA d k + 1) = true then some (natT (k + 1 + i)) else none) (by omega) (Fg.same ?_) ?_⟩
    · have e : ((endA d k : Int) - ((k : Int) + 1)).toNat = endA d k - (k + 1) := by omega
      rw [e, fm_if (h := fun i => natT (k + 1 + i))]
      have e2 : ((List.range (endA d k - (k + 1))).filter fun i => decide (depA d (k + 1 + i) = depA d k + 1)).map (fun i => natT (k + 1 + i)) = chT d (some k) := by
        unfold chT chA
        have e3 := filter_range (n := d.length) (a := k + 1) (b := endA d k) (p := fun c => decide (depA d c = depA d k + 1)) (q := fun c => decide (parA d c = some k)) (by omega) (by omega) (fun c hc => by
          have := par_some hv hc hk
          rw [Bool.eq_iff_iff]
          simp [this]
          omega)
        rw [e3, List.range'_eq_map_range, List.filter_map, List.map_map]
        rfl
      rw [e2]
      exact hq p hp
    · intro i M' hi fr KY KN h1 h2
      have hi2 : k + 1 + i < d.length := by omega
      have e3 : ((k : Int) + 1 + (i : Int)) = ((k + 1 + i : Nat) : Int) := by omega
      rw [e3]
      simp only [wipe2, List.set_cons_succ, List.set_cons_zero]
      simp [↓kAt_doc hi2]
      by_cases c : depA d (k + 1 + i) = depA d k + 1
      · rw [if_pos (by omega), e3]
        exact h1 _ (if_pos (by simp [c]))
      · rw [if_neg (by omega)]
        exact h2 (if_neg (by simp [c]))
/-! ### ends -/
def endsT (d : Doc) : List Tr := (List.range d.length).map fun k => natT (endA d k)
theorem Path.mem {d : Doc} {n k : Nat} {st : List Nat} (h : Path d n st) (hk : k ∈ st) : st[depA d k]? = some k := by
  obtain ⟨i, hi, rfl⟩ := List.getElem_of_mem hk
  have e : st[i]? = some st[i] := by simp [hi]
  obtain ⟨_, h2, _⟩ := h.at_ i _ e
  rw [h2]; exact e
def sp_ends_of : Sp2 := A1 fun a M Q _ => ∃ d, a = docT d ∧ Val d ∧ ∀ p, M p = none → Q (.loc p) (up M p (.lst (endsT d)))
def n_ends_of : List Str := "document" :: "ends" :: "open_nodes" :: "node" :: "mark" :: "depth" :: []
def b_ends_of : TS2 := (sSq (sAs (eOp rMul2 (eLst (aCons (eB rLen2 (aCons (eVar 0) aNil)) aNil)) (eB rLen2 (aCons (eVar 0) aNil))) (gN 1))
  (sSq (sAs (eLst aNil) (gN 2))
  (sSq (sFo (iEn (aCons (eVar 0) aNil)) (gT 2 (gCo (gN 3) (gCo (gT 2 (gCo (gN 4) (gCo (gN 5) gNil2))) gNil2))) (sSq (sWh (tCm (eOp rGtI (eB rLen2 (aCons (eVar 2) aNil)) (eVar 5))) (sAs (eVar 3) (gSb rPut2 (eVar 1) (eM0 "list" rPop2 (eVar 2)))))
  (sDr (eM "list" rApp2 (eVar 2) (aCons (eVar 3) aNil)))))
  (sRt (eVar 1)))))
theorem sem_ends_of : ∀ ds M Q E, sp_ends_of ds M Q E → b_ends_of (fEnds Q E) (start2 n_ends_of ds) M := by
  rintro ds M Q E ⟨a, rfl, d, rfl, ⟨hv, hl⟩, hq⟩
  simp only [b_ends_of, start2, n_ends_of]
  simp [docT]
  refine ⟨small_line (by decide), fun p0 hp0 => ?_⟩
  simp
  refine ⟨by omega, small_line (by omega), fun p hp => ?_⟩
  simp
  intro g hg
  have hp2 : M p = none := Le.none (Le.new hp0) hp
  have gp : g ≠ p := by intro e; subst e; rw [up_same] at hg; cases hg
  have pg : p ≠ g := fun e => gp e.symm
  simp
  have g0 : g ≠ p0 := by intro e; subst e; rw [up_ne gp, up_same] at hg; cases hg
  have p00 : p ≠ p0 := by intro e; subst e; rw [up_same] at hp; cases hp
  have hg2 : M g = none := by rw [up_ne gp, up_ne g0] at hg; exact hg
  refine for_itE (fun i σ M' => ∃ (st E : List Nat) (x y z : Option Tr), σ = [some (docT d), some (.loc p), some (.loc g), x, y, z] ∧ M' p = some (.lst (E.map natT)) ∧ M' g = some (.lst (st.map natT)) ∧ (∀ a o, a ≠ p → a ≠ g → M a = some o → M' a = some o) ∧ Path d i st ∧ st.length = pathN d i ∧
    E.length = d.length ∧ (∀ k, k < d.length → k ∈ st ∨ i ≤ k → E[k]? = some d.length) ∧ ∀ k, k < i → k ∉ st → ∃ e, E[k]? = some e ∧ IsEnd d k e) ?_ ?_ ?_ ?_
  · refine ⟨[], List.replicate d.length d.length, none, none, none, rfl, ?_, up_same, fun a o h1 h2 h3 => ?_, ⟨fun i k e => by simp at e⟩, rfl, by simp, fun k hk _ => by simp [hk], fun k hk => by omega⟩
    · rw [up_ne pg, up_same]
      congr 2
      rw [List.map_replicate]
    · rw [up_ne h2, up_ne h1, up_ne (m_ne h3 hp0)]; exact h3
  · rintro i σ M' _ ⟨st, E, x, y, z, rfl, _⟩
    rfl
  · rintro i e σ M' he ⟨st, E, x, y, z, rfl, ep, eg, fr, hP, hst, hE, hE1, hE2⟩
    obtain ⟨en, hen, rfl⟩ := ent_at he
    have hi : i < d.length := (List.getElem?_eq_some_iff.mp hen).1
    have hdl := Val.dep_le hv hi
    rw [← hst] at hdl
    have hdi := Val.dep_lt hv hi
    simp only [gT_ap, gCo_ap, gN_3, gN_4, gN_5, gNil2_ap, List.length_cons, List.length_nil, true_and]
    refine seq_cut (fun σ1 M1 => ∃ E : List Nat, σ1 = [some (docT d), some (.loc p), some (.loc g), some (.int i), some (.str en.1), some (.int (depA d i))] ∧ M1 p = some (.lst (E.map natT)) ∧ M1 g = some (.lst ((st.take (depA d i)).map natT)) ∧ (∀ a o, a ≠ p → a ≠ g → M a = some o → M1 a = some o) ∧
      E.length = d.length ∧ (∀ k, k < d.length → k ∈ st.take (depA d i) ∨ i ≤ k → E[k]? = some d.length) ∧ ∀ k, k < i → k ∉ st.take (depA d i) → ∃ e, E[k]? = some e ∧ IsEnd d k e) (fun NX hN => ?_) ?_
    · refine sWh_of (fun m σ1 M1 => ∃ E : List Nat, m ≤ st.length ∧ depA d i ≤ m ∧ σ1 = [some (docT d), some (.loc p), some (.loc g), some (.int i), some (.str en.1), some (.int (depA d i))] ∧ M1 p = some (.lst (E.map natT)) ∧ M1 g = some (.lst ((st.take m).map natT)) ∧ (∀ a o, a ≠ p → a ≠ g → M a = some o → M1 a = some o) ∧
        E.length = d.length ∧ (∀ k, k < d.length → k ∈ st.take m ∨ i ≤ k → E[k]? = some d.length) ∧ ∀ k, k < i → k ∉ st.take m → ∃ e, E[k]? = some e ∧ IsEnd d k e) st.length ⟨E, Nat.le_refl _, hdl, rfl, ep, by rw [List.take_length]; exact eg, fr, hE, by rw [List.take_length]; exact hE1, by rw [List.take_length]; exact hE2⟩ ?_
      rintro m σ1 M1 ⟨E, h1, h2, rfl, ep1, eg1, fr1, hE, hE1, hE2⟩
      simp [-List.map_take, eg1]
      by_cases c : depA d i < m
      · rw [if_pos (by omega)]
        refine WhT.of fun N2 hN2 => ?_
        have hk : m - 1 < st.length := by omega
        have ek : st[m - 1]? = some st[m - 1] := by simp [hk]
        obtain ⟨q1, q2, q3⟩ := hP.at_ _ _ ek
        have e2 : ((st.take m).map natT)[((st.take m).map natT).length - 1]? = some (natT st[m - 1]) := by
          rw [List.length_map, List.length_take, Nat.min_eq_left h1, List.getElem?_map, List.getElem?_take, if_pos (by omega)]
          simp [hk]
        have hkE : st[m - 1] < (E.map natT).length := by rw [List.length_map, hE]; omega
        simp [-List.map_take, eg1, ↓kLast_of e2, up_ne pg, ep1, ↓kIx_nat hkE]
        have tk : st.take m = st.take (m - 1) ++ [st[m - 1]] := by
          have := List.take_concat_get (l := st) (i := m - 1) hk
          rw [List.concat_eq_append] at this
          rw [this, show m - 1 + 1 = m by omega]
        have notin : ∀ k, k ∈ st.take (m - 1) → k ≠ st[m - 1] := by
          rintro k hk2 rfl
          have := (hP.pop (m - 1)).mem hk2
          rw [q2] at this
          have := (List.getElem?_eq_some_iff.mp this).1
          simp at this; omega
        refine hN2 (m - 1) _ _ (by omega) ⟨E.set st[m - 1] i, by omega, by omega, rfl, ?_, ?_, fun a o h3 h4 h5 => ?_, by simp [hE], fun k hk2 hk3 => ?_, fun k hk2 hk3 => ?_⟩
        · rw [up_same, List.map_set]
        · rw [up_ne gp, up_same, ← List.map_dropLast, take_pop h1]
        · rw [up_ne h3, up_ne h4]; exact fr1 a o h3 h4 h5
        · have ne : st[m - 1] ≠ k := by
            rcases hk3 with h | h
            · exact fun e => notin k h e.symm
            · omega
          rw [List.getElem?_set_ne ne]
          refine hE1 k hk2 ?_
          rcases hk3 with h | h
          · exact .inl (by rw [tk]; exact List.mem_append_left _ h)
          · exact .inr h
        · by_cases ne : st[m - 1] = k
          · subst ne
            refine ⟨i, by rw [List.getElem?_set_self (by omega)], q1, by omega, fun j a b => by have := q3 j a b; omega, fun _ => by omega⟩
          · rw [List.getElem?_set_ne ne]
            refine hE2 k hk2 fun h => hk3 ?_
            rw [tk] at h
            rcases List.mem_append.mp h with h | h
            · exact h
            · exact absurd (List.mem_singleton.mp h).symm ne
      · rw [if_neg (by omega)]
        have : m = depA d i := by omega
        subst this
        exact hN _ _ ⟨E, rfl, ep1, eg1, fr1, hE, hE1, hE2⟩
    · rintro σ1 M1 ⟨E, rfl, ep1, eg1, fr1, hE, hE1, hE2⟩
      have hP2 := hP.pop (depA d i)
      have hl2 : (st.take (depA d i)).length = depA d i := by rw [List.length_take]; omega
      have e3 : pathN d (i + 1) = depA d i + 1 := by simp [pathN]
      refine nx_cut fun NX hN => ?_
      simp [-List.map_take, eg1, Nat.min_eq_left hdl]
      refine ⟨small_lt (by omega), hN _ _ ⟨st.take (depA d i) ++ [i], E, _, _, _, rfl, by rw [up_ne pg]; exact ep1, by rw [up_same, List.map_append]; rfl, fun a o h3 h4 h5 => by rw [up_ne h4]; exact fr1 a o h3 h4 h5, hP2.push hl2, by rw [List.length_append, hl2, e3]; rfl, hE, fun k hk h => ?_, fun k hk h => ?_⟩⟩
      · refine hE1 k hk ?_
        rcases h with h | h
        · rcases List.mem_append.mp h with h | h
          · exact .inl h
          · exact .inr (by have := List.mem_singleton.mp h; omega)
        · exact .inr (by omega)
      · have h1 : k ∉ st.take (depA d i) := fun z => h (List.mem_append_left _ z)
        have h2 : k ≠ i := fun z => h (List.mem_append_right _ (List.mem_singleton.mpr z))
        exact hE2 k (by omega) h1
  · rintro σ M' ⟨st, E, x, y, z, rfl, ep, eg, fr, hP, hst, hE, hE1, hE2⟩
    simp at hP hE1 hE2 ⊢
    have ee : E.map natT = endsT d := by
      unfold endsT
      apply List.ext_getElem?
      intro k
      rw [List.getElem?_map, List.getElem?_map]
      by_cases hk : k < d.length
      · rw [List.getElem?_range hk]
        by_cases hm : k ∈ st
        · rw [hE1 k hk (.inl hm)]
          have e := hP.mem hm
          obtain ⟨_, _, q3⟩ := hP.at_ _ _ e
          have : IsEnd d k d.length := ⟨hk, Nat.le_refl _, fun j a b => q3 j a b, fun h => absurd h (Nat.lt_irrefl _)⟩
          simp [← this.eq]
        · obtain ⟨e, h1, h2⟩ := hE2 k hk hm
          rw [h1]
          simp [h2.eq]
      · rw [List.getElem?_eq_none (by omega), List.getElem?_eq_none (by simp; omega)]; rfl
    rw [ee] at ep
    refine Fg.le (M := up M p (.lst (endsT d))) (fun a u e => ?_) (hq p hp2)
    by_cases c : a = p
    · subst c; rw [up_same] at e; rw [← e]; exact ep
    · rw [up_ne c] at e
      exact fr a u c (m_ne e hg2) e
/-! ### rows -/
/-- whose row a node stands in: its parent's, or the last for the roots -/
def slotA (d : Doc) (c : Nat) : Nat := (parA d c).getD d.length
def rowI (d : Doc) (k i : Nat) : List Tr := ((List.range i).filter fun c => decide (slotA d c = k)).map natT
theorem slot_le {d : Doc} {c : Nat} (hc : c < d.length) : slotA d c ≤ d.length := by
  unfold slotA
  cases h : parA d c with
  | none => exact Nat.le_refl _
  | some k =>
    obtain ⟨h1, _⟩ := lastI_spec h
    show k ≤ _
    omega
theorem rowI_succ {d : Doc} {k i : Nat} : rowI d k (i + 1) = if slotA d i = k then rowI d k i ++ [natT i] else rowI d k i := by
  unfold rowI
  rw [List.range_succ, List.filter_append, List.map_append]
  by_cases c : slotA d i = k <;> simp [c]
theorem rowI_len {d : Doc} {k i : Nat} : (rowI d k i).length ≤ i := by
  unfold rowI
  rw [List.length_map]
  have := List.length_filter_le (fun c => decide (slotA d c = k)) (List.range i)
  simpa using this
def sp_rows_of : Sp2 := A1 fun a M Q _ => ∃ d, a = docT d ∧ Val d ∧ ∀ M' p (qs : List Addr), M p = none → qs.length = d.length + 1 → qs.Nodup → (∀ q ∈ qs, M q = none ∧ q ≠ p) → M' p = some (.lst (qs.map .loc)) → (∀ k q, qs[k]? = some q → M' q = some (.lst (rowI d k d.length))) → Le M M' → Q (.loc p) M'
def n_rows_of : List Str := "document" :: "rows" :: "node" :: "parent" :: "row" :: "k" :: []
def b_rows_of : TS2 := (sSq (sAs (eLc (iRg1 (aCons (eOp rAdd2 (eB rLen2 (aCons (eVar 0) aNil)) (eC (.int 1))) aNil)) (gN 5) tYes2 (eLst aNil) [5]) (gN 1))
  (sSq (sFo (iEn (aCons (eCall sp_parents_of [] (aCons (eVar 0) aNil)) aNil)) (gT 2 (gCo (gN 2) (gCo (gN 3) gNil2))) (sSq (sAs (eOp rIx2 (eVar 1) (eIf (tCm (eOp (rIsG id) (eVar 3) (eC .non))) (eB rLen2 (aCons (eVar 0) aNil)) (eVar 3))) (gN 4))
  (sDr (eM "list" rApp2 (eVar 4) (aCons (eVar 2) aNil)))))
  (sRt (eVar 1))))
theorem sem_rows_of : ∀ ds M Q E, sp_rows_of ds M Q E → b_rows_of (fEnds Q E) (start2 n_rows_of ds) M := by
  rintro ds M Q E ⟨a, rfl, d, rfl, hval, hq⟩
  have ⟨hv, hl⟩ := hval
  simp only [b_rows_of, start2, n_rows_of]
  simp [docT]
  refine ⟨⟨by omega, by omega⟩, fun p hp => lc_itR (fun i M' => ∃ qs : List Addr, qs.length = i ∧ qs.Nodup ∧ (∀ q ∈ qs, M q = none ∧ q ≠ p ∧ M' q = some (.lst [])) ∧ M' p = some (.lst (qs.map .loc)) ∧ ∀ a o, M a = some o → M' a = some o) ?_ ?_ ?_⟩
  · exact ⟨[], rfl, by simp, fun q hq => by simp at hq, up_same, fun a o h => by rw [up_ne (m_ne h hp)]; exact h⟩
  · rintro i M' hi ⟨qs, h1, h2, h3, h4, h5⟩
    rw [List.length_map] at hi
    simp [wipe2]
    intro q hq1
    have qp : q ≠ p := by intro e; subst e; rw [h4] at hq1; cases hq1
    have qn : q ∉ qs := fun h => by rw [(h3 q h).2.2] at hq1; cases hq1
    have mq : M q = none := Le.none h5 hq1
    refine ⟨qs.map .loc, by rw [up_ne (fun e => qp e.symm)]; exact h4, by rw [List.length_map, h1]; exact small_lt (by omega), qs ++ [q], by simp [h1], ?_, ?_, by rw [up_same, List.map_append]; rfl, ?_⟩
    · rw [List.nodup_append]
      exact ⟨h2, by simp, fun a ha b hb e => by rw [List.mem_singleton] at hb; subst hb; subst e; exact qn ha⟩
    · intro z hz
      rcases List.mem_append.mp hz with hz | hz
      · obtain ⟨a1, a2, a3⟩ := h3 z hz
        exact ⟨a1, a2, by rw [up_ne a2, up_ne (fun e : z = q => qn (by rw [← e]; exact hz))]; exact a3⟩
      · have e := List.mem_singleton.mp hz
        subst e
        exact ⟨mq, qp, by rw [up_ne qp, up_same]⟩
    · intro a o ha
      rw [up_ne (m_ne ha hp), up_ne (m_ne ha mq)]; exact h5 a o ha
  · rintro M1 ⟨qs, h1, h2, h3, h4, h5⟩
    have h1' : qs.length = d.length + 1 := by rw [h1, List.length_map]
    simp
    refine ⟨_, rfl, d, rfl, hval, fun pl hpl => ?_⟩
    have pp : p ≠ pl := m_ne h4 hpl
    have ql : ∀ q ∈ qs, q ≠ pl := fun q hq1 => m_ne (h3 q hq1).2.2 hpl
    have ml : M pl = none := Le.none h5 hpl
    simp
    refine for_itE (fun i σ M' => ∃ (x y z w : Option Tr), σ = [some (docT d), some (.loc p), x, y, z, w] ∧ M' pl = some (.lst (parsT d d.length)) ∧ M' p = some (.lst (qs.map .loc)) ∧ (∀ k q, qs[k]? = some q → M' q = some (.lst (rowI d k i))) ∧ Le M M') ?_ ?_ ?_ ?_
    · refine ⟨_, _, _, _, rfl, up_same, by rw [up_ne pp]; exact h4, fun k q hk => ?_, fun a o h => by rw [up_ne (m_ne h ml)]; exact h5 a o h⟩
      have hm := List.mem_of_getElem? hk
      rw [up_ne (ql q hm)]
      exact (h3 q hm).2.2
    · rintro i σ M' _ ⟨x, y, z, w, rfl, e1, _⟩
      exact seqT_lst e1
    · rintro i e σ M' he ⟨x, y, z, w, rfl, e1, e2, e3, e4⟩
      have hi : i < d.length := by
        have := (List.getElem?_eq_some_iff.mp he).1
        simpa [parsT] using this
      have ee : e = optT (parA d i) := by
        have : (parsT d d.length)[i]? = some (optT (parA d i)) := by simp [parsT, hi]
        rw [this] at he
        exact (Option.some.inj he).symm
      subst ee
      have hs := slot_le hi
      have hsq : slotA d i < qs.length := by omega
      have eq0 : (qs.map Tr.loc)[slotA d i]? = some (.loc qs[slotA d i]) := by simp [hsq]
      have eqs : qs[slotA d i]? = some qs[slotA d i] := by simp [hsq]
      have eq1 := e3 _ _ eqs
      have hm := List.getElem_mem hsq
      have qp := (h3 _ hm).2.1
      have rl := @rowI_len d (slotA d i) i
      simp only [gT_ap, gCo_ap, gN_2, gN_3, gNil2_ap, List.length_cons, List.length_nil, true_and]
      refine nx_cut fun NX hN => ?_
      have fin : ∀ (x y z w : Option Tr), NX [some (docT d), some (.loc p), x, y, z, w] (up M' qs[slotA d i] (.lst (rowI d (slotA d i) i ++ [natT i]))) := fun x y z w => by
        refine hN _ _ ⟨x, y, z, w, rfl, by rw [up_ne (fun e => ql _ hm e.symm)]; exact e1, by rw [up_ne (fun e => qp e.symm)]; exact e2, fun k q hk => ?_, fun a o h => by rw [up_ne (m_ne h (h3 _ hm).1)]; exact e4 a o h⟩
        rw [rowI_succ]
        by_cases c : slotA d i = k
        · subst c
          have : q = qs[slotA d i] := by rw [eqs] at hk; exact (Option.some.inj hk).symm
          subst this
          rw [if_pos rfl, up_same]
        · rw [if_neg c]
          have ne : q ≠ qs[slotA d i] := by
            intro e
            subst e
            have hk' := (List.getElem?_eq_some_iff.mp hk)
            obtain ⟨hk1, hk2⟩ := hk'
            exact c ((List.getElem_inj h2).mp hk2).symm
          rw [up_ne ne]
          exact e3 k q hk
      have ks : kAt (qs.map Tr.loc) ((slotA d i : Nat) : Int) = fun P => P (.loc qs[slotA d i]) := by funext P; exact kAt_get eq0
      cases hp0 : parA d i with
      | none =>
        have es : ((d.length : Nat) : Int) = ((slotA d i : Nat) : Int) := by simp [slotA, hp0]
        simp [optT, docT, e2]
        rw [es, ks]
        simp [eq1]
        exact ⟨small_lt (by omega), fin _ _ _ _⟩
      | some k =>
        have es : ((k : Nat) : Int) = ((slotA d i : Nat) : Int) := by simp [slotA, hp0]
        simp [optT, docT, e2]
        rw [es, ks]
        simp [eq1]
        exact ⟨small_lt (by omega), fin _ _ _ _⟩
    · rintro σ M' ⟨x, y, z, w, rfl, e1, e2, e3, e4⟩
      simp [parsT] at e3
      simp
      exact Fg.same (hq M' p qs hp h1' h2 (fun q hq1 => ⟨(h3 q hq1).1, (h3 q hq1).2.1⟩) e2 e3 e4)
end T

/-! S: texts of data; the package's own answers. -/
namespace T
open PySem PySem.Spec PyProof.Rows L2
theorem shownAll_eq : ∀ l : List Tr, PyData.shownAll (toPs l) = l.map fun t => (toP t).shown
  | [] => rfl
  | t :: r => by
    show (toP t).shown :: PyData.shownAll (toPs r) = _
    rw [shownAll_eq r]; rfl
theorem piled_le {k : Nat} : ∀ {ts : List Str}, (∀ t ∈ ts, t.length ≤ k) → piled ts ≤ ts.length * (k + 2)
  | [], _ => by simp [piled]
  | t :: r, h => by
    have h1 := h t List.mem_cons_self
    have h2 := piled_le (ts := r) fun x hx => h x (List.mem_cons_of_mem _ hx)
    rw [piled_cons, List.length_cons, Nat.add_mul]
    omega
theorem tupleText_le {k : Nat} {ts : List Str} (h : ∀ t ∈ ts, t.length ≤ k) : (tupleText ts).length ≤ ts.length * (k + 2) + 3 := by
  have hp := piled_le h
  have hj : (Str.join ", " ts).length ≤ piled ts := by
    cases ts with
    | nil => exact Nat.zero_le _
    | cons t r => have := join_length_add (t :: r) (by simp); omega
  unfold tupleText
  rw [strLen_append, strLen_append]
  have e1 : (("(" : String) : Str).length = 1 := rfl
  have e2 : ((if (ts.length == 1) = true then ",)" else ")" : String) : Str).length ≤ 2 := by split <;> decide
  omega
/-- what a text of data may hold here -/
def smallT (t : Tr) : Prop := (∃ i, t = .int i ∧ i.natAbs.log2 < 1920) ∨ t = .non
theorem smallT_sh {t : Tr} (h : smallT t) : (toP t).showable = true ∧ (toP t).hasDict = false ∧ (toP t).depth = 0 ∧ (toP t).shown.length ≤ 1921 ∧ pureT t = true := by
  rcases h with ⟨i, rfl, h⟩ | rfl
  · exact ⟨decide_eq_true h, rfl, rfl, int_text_len_1921 h, rfl⟩
  · exact ⟨rfl, rfl, rfl, by decide, rfl⟩
theorem smallL {l : List Tr} (h : ∀ t ∈ l, smallT t) : PyData.showableAll (toPs l) = true ∧ PyData.hasDictAll (toPs l) = false ∧ PyData.depthAll (toPs l) = 0 ∧ pureL l = true := by
  induction l with
  | nil => exact ⟨rfl, rfl, rfl, rfl⟩
  | cons t r ih =>
    obtain ⟨a, b, c, d, e⟩ := smallT_sh (h t List.mem_cons_self)
    obtain ⟨a', b', c', e'⟩ := ih fun x hx => h x (List.mem_cons_of_mem _ hx)
    refine ⟨?_, ?_, ?_, ?_⟩
    · show ((toP t).showable && PyData.showableAll (toPs r)) = true
      rw [a, a']; rfl
    · show ((toP t).hasDict || PyData.hasDictAll (toPs r)) = false
      rw [b, b']; rfl
    · show max (toP t).depth (PyData.depthAll (toPs r)) = 0
      rw [c, c']; rfl
    · show (pureT t && pureL r) = true
      rw [e, e']; rfl
theorem reprS_tup {l : List Tr} {M : Ms} {Q : Q2} {fx : Fx Q} (h : ∀ t ∈ l, smallT t) (hl : l.length ≤ 1000) (hq : Q (.str (toP (.tup l)).shown) M) : ReprS (.tup l) M Q fx := by
  obtain ⟨a, b, c, e⟩ := smallL h
  refine ⟨toP (.tup l), dat_pure e, a, b, ?_, ?_, hq⟩
  · show PyData.depthAll (toPs l) + 1 ≤ 50
    rw [c]; decide
  · show (tupleText (PyData.shownAll (toPs l))).length ≤ _
    rw [shownAll_eq]
    have := tupleText_le (k := 1921) (ts := l.map fun t => (toP t).shown) fun t ht => by
      obtain ⟨x, hx, rfl⟩ := List.mem_map.mp ht
      exact (smallT_sh (h x hx)).2.2.2.1
    rw [List.length_map] at this
    rw [sizeLine_eq]
    omega
theorem reprS_int {i : Int} {M : Ms} {Q : Q2} {fx : Fx Q} (h : i.natAbs.log2 < 1920) (hq : Q (.str (toP (.int i)).shown) M) : ReprS (.int i) M Q fx :=
  ⟨.int i, rfl, decide_eq_true h, rfl, Nat.zero_le 50, by have := int_text_len_1921 h; rw [sizeLine_eq]; exact Nat.le_trans this (by decide), hq⟩
theorem log_small {i : Int} (h0 : -1000000 ≤ i) (h : i ≤ 1000000) : i.natAbs.log2 < 1920 := by
  by_cases c : i.natAbs = 0
  · rw [c]; decide
  · have : i.natAbs < 2 ^ 20 := by omega
    have := (Nat.log2_lt c).mpr this
    omega
theorem small_nat {k : Nat} (h : k ≤ 1000000) : smallT (natT k) := .inl ⟨k, rfl, log_small (by omega) (by omega)⟩
theorem small_opt {o : Option Nat} (h : ∀ k, o = some k → k ≤ 1000000) : smallT (optT o) := by
  cases o with
  | none => exact .inr rfl
  | some k => exact small_nat (h k rfl)
theorem par_lt {d : Doc} {c k : Nat} (h : parA d c = some k) : k < c := (lastI_spec h).1
theorem small_pars {d : Doc} (h : d.length ≤ 1000) : ∀ t ∈ parsT d d.length, smallT t := by
  intro t ht
  obtain ⟨i, hi, rfl⟩ := List.mem_map.mp ht
  exact small_opt fun k hk => by have := par_lt hk; simp at hi; omega
/-! ### the package's answers -/
def sp_parents : Sp2 := A1 fun a M Q _ => ∃ d, a = docT d ∧ Val d ∧ Q (.tup (parsT d d.length)) M
def n_parents : List Str := "document" :: []
def b_parents : TS2 := (sSq (sDr (eCall sp_need_document [] (aCons (eVar 0) aNil)))
  (sRt (eB rTuple2 (aCons (eCall sp_parents_of [] (aCons (eVar 0) aNil)) aNil))))
theorem sem_parents : ∀ ds M Q E, sp_parents ds M Q E → b_parents (fEnds Q E) (start2 n_parents ds) M := by
  rintro ds M Q E ⟨a, rfl, d, rfl, hv, hq⟩
  simp only [b_parents, start2, n_parents]
  simp
  refine ⟨_, rfl, d, rfl, hv, ?_⟩
  simp
  refine ⟨_, rfl, d, rfl, hv, fun p hp => ?_⟩
  simp
  exact Fg.le (Le.new hp) hq
def sp_children : Sp2 := A2 fun a b M Q _ => ∃ (d : Doc) (o : Option Nat), a = docT d ∧ b = optT o ∧ Val d ∧ (∀ k, o = some k → k < d.length) ∧ Q (.tup (chT d o)) M
def n_children : List Str := "document" :: "node" :: []
def b_children : TS2 := (sSq (sDr (eCall sp_need_document [] (aCons (eVar 0) aNil)))
  (sSq (sIf (tAn (tCm (eOp (rIsG not) (eVar 1) (eC .non))) (tNo (tTr (eCall sp_is_below [] (aCons (eVar 1) (aCons (eB rLen2 (aCons (eVar 0) aNil)) aNil)))))) sNv sNx)
  (sRt (eB rTuple2 (aCons (eCall sp_row_of [] (aCons (eVar 0) (aCons (eVar 1) aNil))) aNil)))))
theorem sem_children : ∀ ds M Q E, sp_children ds M Q E → b_children (fEnds Q E) (start2 n_children ds) M := by
  rintro ds M Q E ⟨a, b, rfl, d, o, rfl, rfl, hv, ho, hq⟩
  simp only [b_children, start2, n_children]
  simp
  refine ⟨_, rfl, d, rfl, hv, ?_⟩
  cases o with
  | none =>
    simp [optT]
    exact ⟨_, _, rfl, d, none, rfl, rfl, hv, ho, fun p hp => by simp; exact Fg.le (Le.new hp) hq⟩
  | some k =>
    have hk := ho k rfl
    simp [optT, docT]
    refine ⟨_, _, rfl, "int", d.length, rfl, rfl, ?_⟩
    have e : blw (.int k) (d.length : Int) = true := by simp; omega
    rw [e]
    simp
    exact ⟨_, _, rfl, d, some k, rfl, rfl, hv, ho, fun p hp => by simp; exact Fg.le (Le.new hp) hq⟩
def sizT (d : Doc) : List Tr := (List.range d.length).map fun k => .int ((endA d k : Int) - k)
def sp_sizes : Sp2 := A1 fun a M Q _ => ∃ d, a = docT d ∧ Val d ∧ Q (.tup (sizT d)) M
def n_sizes : List Str := "document" :: "node" :: "end" :: []
def b_sizes : TS2 := (sSq (sDr (eCall sp_need_document [] (aCons (eVar 0) aNil)))
  (sRt (eB rTuple2 (aCons (eLc (iEn (aCons (eCall sp_ends_of [] (aCons (eVar 0) aNil)) aNil)) (gT 2 (gCo (gN 1) (gCo (gN 2) gNil2))) tYes2 (eOp rSub2 (eVar 2) (eVar 1)) [1, 2]) aNil))))
theorem sem_sizes : ∀ ds M Q E, sp_sizes ds M Q E → b_sizes (fEnds Q E) (start2 n_sizes ds) M := by
  rintro ds M Q E ⟨a, rfl, d, rfl, hv, hq⟩
  simp only [b_sizes, start2, n_sizes]
  simp
  refine ⟨_, rfl, d, rfl, hv, ?_⟩
  simp
  refine ⟨_, rfl, d, rfl, hv, fun g hg => ?_⟩
  simp
  have hl := hv.2
  have el : (endsT d).length = d.length := by simp [endsT]
  refine fun p hp => lc_fmE (fun k => some (.int ((endA d k : Int) - k))) (by rw [el]; omega) (fun M' fr => seqT_lst (by rw [fr g (by intro e; subst e; rw [up_same] at hp; cases hp)]; exact up_same)) ?_ ?_
  · rw [fm_all, el]
    simp
    exact Fg.le ((Le.new hg).trans (Le.new hp)) hq
  · intro i e M' he fr KY KN h1 h2
    have hi : i < d.length := by have := (List.getElem?_eq_some_iff.mp he).1; omega
    have : (endsT d)[i]? = some (natT (endA d i)) := by simp [endsT, hi]
    rw [this] at he
    cases he
    simp [wipe2]
    exact h1 _ rfl
def depL (d : Doc) : List Int := d.map fun e => ((e.2 : Int) + 1)
def sp_depth_of : Sp2 := A1 fun a M Q _ => ∃ d, a = docT d ∧ Val d ∧ Q (.int (mxD (depL d) 0)) M
def n_depth_of : List Str := "document" :: "mark" :: "depth" :: []
def b_depth_of : TS2 := (sSq (sDr (eCall sp_need_document [] (aCons (eVar 0) aNil)))
  (sRt (eBK rMaxD (aCons (eLc (iSq (eVar 0)) (gT 2 (gCo (gN 1) (gCo (gN 2) gNil2))) tYes2 (eOp rAdd2 (eVar 2) (eC (.int 1))) [1, 2]) aNil) (aCons (eC (.int 0)) aNil))))
theorem sem_depth_of : ∀ ds M Q E, sp_depth_of ds M Q E → b_depth_of (fEnds Q E) (start2 n_depth_of ds) M := by
  rintro ds M Q E ⟨a, rfl, d, rfl, hv, hq⟩
  have hl := hv.2
  simp only [b_depth_of, start2, n_depth_of]
  simp
  refine ⟨_, rfl, d, rfl, hv, ?_⟩
  simp [docT]
  refine fun p hp => lc_fmL (fun k => some (.int ((depA d k : Int) + 1))) (by rw [List.length_map]; omega) (fun M' fr => rfl) ?_ ?_
  · simp only [aNil_ap, eC_ap, aCons_ap]
    rw [fm_all, List.length_map]
    simp
    refine ⟨depL d, seqT_lst ?_, (fun _ e => nomatch e), Fg.le (Le.new hp) hq⟩
    rw [up_same]
    congr 2
    apply List.ext_getElem?
    intro k
    rw [List.getElem?_map, List.getElem?_map]
    unfold depL
    rw [List.getElem?_map]
    by_cases hk : k < d.length
    · rw [List.getElem?_range hk]
      have : d[k]? = some d[k] := by simp [hk]
      rw [this, Option.map_some, Option.map_some, Option.map_some, depA_at this]
    · rw [List.getElem?_eq_none (by simp; omega), List.getElem?_eq_none (by omega)]; rfl
  · intro i e M' he fr KY KN h1 h2
    obtain ⟨en, hen, rfl⟩ := ent_at he
    simp [wipe2]
    exact h1 _ rfl
/-- the widest row -/
def IsMx (ns : List Int) (m : Int) : Prop := m ∈ ns ∧ ∀ y ∈ ns, y ≤ m
def rowsL (d : Doc) : List Int := (List.range (d.length + 1)).map fun k => ((rowI d k d.length).length : Int)
def sp_breadth_of : Sp2 := A1 fun a M Q _ => ∃ d, a = docT d ∧ Val d ∧ ∀ m, IsMx (rowsL d) m → Q (.int m) M
def n_breadth_of : List Str := "document" :: "row" :: []
def b_breadth_of : TS2 := (sSq (sDr (eCall sp_need_document [] (aCons (eVar 0) aNil)))
  (sRt (eB (rMaxL fun y m => y ≤ m) (aCons (eLc (iSq (eCall sp_rows_of [] (aCons (eVar 0) aNil))) (gN 1) tYes2 (eB rLen2 (aCons (eVar 1) aNil)) [1]) aNil))))
theorem sem_breadth_of : ∀ ds M Q E, sp_breadth_of ds M Q E → b_breadth_of (fEnds Q E) (start2 n_breadth_of ds) M := by
  rintro ds M Q E ⟨a, rfl, d, rfl, hv, hq⟩
  have hl := hv.2
  simp only [b_breadth_of, start2, n_breadth_of]
  simp
  refine ⟨_, rfl, d, rfl, hv, ?_⟩
  simp
  refine ⟨_, rfl, d, rfl, hv, fun M' p qs hp h1 h2 h3 h4 h5 h6 => ?_⟩
  simp [h4]
  refine fun g hg => lc_fmL (fun k => some (.int ((rowI d k d.length).length : Int))) (by rw [List.length_map]; omega) (fun M2 fr => seqT_lst (by rw [fr p (m_ne h4 hg)]; exact h4)) ?_ ?_
  · rw [fm_all, List.length_map, h1]
    simp
    refine ⟨rowsL d, seqT_lst ?_, (fun _ e => nomatch e), ?_, fun m m1 m2 => Fg.le (h6.trans (Le.new hg)) (hq m ⟨m1, m2⟩)⟩
    · rw [up_same]; simp [rowsL]
    · simp [rowsL]
  · intro i e M2 he fr KY KN h7 h8
    rw [List.getElem?_map] at he
    cases hc : qs[i]? with
    | none => rw [hc] at he; cases he
    | some q =>
      rw [hc] at he
      cases he
      have e5 := h5 i q hc
      have : M2 q = some (.lst (rowI d i d.length)) := by rw [fr q (m_ne e5 hg)]; exact e5
      simp [wipe2, this]
      exact h7 _ rfl
end T

/-! S: the laws' own parents. -/
namespace T
open PySem PySem.Spec PyProof.Rows L2
theorem datL_ints {M : Ms} : ∀ xs : List Int, DatL M (xs.map PyData.int) (xs.map Tr.int)
  | [] => rfl
  | x :: r => ⟨_, _, rfl, rfl, datL_ints r⟩
theorem lay_ints : ∀ xs : List Int, PyData.canLayAll0 (xs.map PyData.int) = true
  | [] => rfl
  | x :: r => by
    show (true && PyData.canLayAll0 (r.map PyData.int)) = true
    rw [lay_ints r]; rfl
theorem eqv_ints : ∀ xs ys : List Int, PyData.eqvAll (xs.map PyData.int) (ys.map PyData.int) = decide (xs = ys)
  | [], [] => rfl
  | [], _ :: _ => rfl
  | _ :: _, [] => rfl
  | x :: r, y :: s => by
    show ((x == y) && PyData.eqvAll (r.map PyData.int) (s.map PyData.int)) = _
    rw [eqv_ints r s]
    by_cases c : x = y
    · subst c; simp
    · simp [c]
theorem eqS_ints {f : Bool → Bool} {a b : Addr} {M : Ms} {Q : Q2} {fx : Fx Q} (xs ys : List Int) (ha : M a = some (.lst (xs.map Tr.int))) (hb : M b = some (.lst (ys.map Tr.int))) (hq : Q (.bl (f (decide (xs = ys)))) M) : EqS f (.loc a) (.loc b) M Q fx := by
  refine ⟨.list (xs.map PyData.int), .list (ys.map PyData.int), ⟨_, seqT_lst ha, (fun _ e => nomatch e), datL_ints xs⟩, ⟨_, seqT_lst hb, (fun _ e => nomatch e), datL_ints ys⟩, ?_, ?_, ?_⟩
  · show (PyData.canLayAll0 (xs.map PyData.int) && decide (PyData.depthAll (xs.map PyData.int) + 1 ≤ 64)) = true
    rw [lay_ints, depthAll_ints]; rfl
  · show (PyData.canLayAll0 (ys.map PyData.int) && decide (PyData.depthAll (ys.map PyData.int) + 1 ≤ 64)) = true
    rw [lay_ints, depthAll_ints]; rfl
  · show Q (.bl (f (PyData.eqvAll (xs.map PyData.int) (ys.map PyData.int)))) M
    rw [eqv_ints]; exact hq
def sp__law_parents : Sp2 := A1 fun a M Q _ => ∃ d, a = docT d ∧ Val d ∧ ∀ p, M p = none → Q (.loc p) (up M p (.lst (parsT d d.length)))
def n__law_parents : List Str := "document" :: "got" :: "open_nodes" :: "node" :: "mark" :: "depth" :: []
def b__law_parents : TS2 := (sSq (sPr 1 2 (aCons (eLst aNil) (aCons (eLst aNil) aNil)))
  (sSq (sFo (iEn (aCons (eVar 0) aNil)) (gT 2 (gCo (gN 3) (gCo (gT 2 (gCo (gN 4) (gCo (gN 5) gNil2))) gNil2))) (sSq (sAs (eSl rSl2 (eVar 2) oNo (oPart (eVar 5))) (gN 2))
  (sSq (sDr (eM "list" rApp2 (eVar 1) (aCons (eIf (tCm (eOp (rEqG not) (eVar 2) (eLst aNil))) (eOp rIx2 (eVar 2) (eUn rNeg2 (eC (.int 1)))) (eC .non)) aNil)))
  (sDr (eM "list" rApp2 (eVar 2) (aCons (eVar 3) aNil))))))
  (sRt (eVar 1))))
theorem sem__law_parents : ∀ ds M Q E, sp__law_parents ds M Q E → b__law_parents (fEnds Q E) (start2 n__law_parents ds) M := by
  rintro ds M Q E ⟨a, rfl, d, rfl, ⟨hv, hl⟩, hq⟩
  simp only [b__law_parents, start2, n__law_parents]
  simp
  intro p hp
  simp
  intro g hg
  have gp : g ≠ p := by intro e; subst e; rw [up_same] at hg; cases hg
  have pg : p ≠ g := fun e => gp e.symm
  have hg2 : M g = none := by rw [up_ne gp] at hg; exact hg
  simp [docT]
  refine for_itE (fun i σ M' => ∃ (g : Addr) (st : List Nat) (x y z : Option Tr), σ = [some (docT d), some (.loc p), some (.loc g), x, y, z] ∧ p ≠ g ∧ M g = none ∧ M' p = some (.lst (parsT d i)) ∧ M' g = some (.lst (st.map natT)) ∧ (∀ a o, a ≠ p → M a = some o → M' a = some o) ∧ Path d i st ∧ st.length = pathN d i) ?_ ?_ ?_ ?_
  · exact ⟨g, [], none, none, none, rfl, pg, hg2, by rw [up_ne pg, up_same]; rfl, up_same, fun a o h1 h2 => by rw [up_ne (m_ne h2 hg2), up_ne h1]; exact h2, ⟨fun i k e => by simp at e⟩, rfl⟩
  · rintro i σ M' _ ⟨g, st, x, y, z, rfl, _⟩
    rfl
  · rintro i e σ M' he ⟨g, st, x, y, z, rfl, pg, mg, ep, eg, fr, hP, hst⟩
    obtain ⟨en, hen, rfl⟩ := ent_at he
    have hi : i < d.length := (List.getElem?_eq_some_iff.mp hen).1
    have hdl := Val.dep_le hv hi
    rw [← hst] at hdl
    have hdi := Val.dep_lt hv hi
    have hP2 := hP.pop (depA d i)
    have hl2 : (st.take (depA d i)).length = depA d i := by rw [List.length_take]; omega
    have hpar := hP2.par hl2
    have hps : (parsT d i).length = i := by simp [parsT]
    have e1 : parsT d (i + 1) = parsT d i ++ [optT (parA d i)] := by simp [parsT, List.range_succ]
    have e3 : pathN d (i + 1) = depA d i + 1 := by simp [pathN]
    simp only [gT_ap, gCo_ap, gN_3, gN_4, gN_5, gNil2_ap, List.length_cons, List.length_nil, true_and]
    refine nx_cut fun NX hN => ?_
    simp [eg, cutT_hi, -List.map_take]
    intro h hh
    have mh : M h = none := by
      cases q : M h with
      | none => rfl
      | some o =>
        by_cases c : h = p
        · subst c; rw [hp] at q; cases q
        · rw [fr h o c q] at hh; cases hh
    have ph : p ≠ h := m_ne ep hh
    have ml : (st.map natT).take (depA d i) = (st.take (depA d i)).map natT := by rw [List.map_take]
    rw [ml]
    simp [-List.map_take, up_ne ph, ep]
    intro q hq1
    have hq2 : h ≠ q := m_ne up_same hq1
    have mq : M q = none := by
      cases z : M q with
      | none => rfl
      | some o =>
        by_cases c : q = p
        · subst c; rw [hp] at z; cases z
        · rw [up_ne (fun e => hq2 e.symm), fr q o c z] at hq1; cases hq1
    have pq : p ≠ q := m_ne (o := .lst (parsT d i)) (by rw [up_ne ph]; exact ep) hq1
    have fin : ∀ M2 : Ms, M2 p = some (.lst (parsT d i ++ [optT (parA d i)])) → M2 h = some (.lst ((st.take (depA d i)).map natT ++ [natT i])) → (∀ a o, a ≠ p → M a = some o → M2 a = some o) → NX [some (docT d), some (.loc p), some (.loc h), some (Tr.int i), some (.str en.1), some (.int (depA d i))] M2 := fun M2 q1 q2 q3 =>
      hN _ _ ⟨h, st.take (depA d i) ++ [i], _, _, _, rfl, ph, mh, by rw [e1]; exact q1, by rw [List.map_append]; exact q2, q3, hP2.push hl2, by rw [List.length_append, hl2, e3]; rfl⟩
    have ei : (st.take (depA d i)).map natT = ((st.take (depA d i)).map fun (k : Nat) => (k : Int)).map Tr.int := by rw [List.map_map]; rfl
    simp only [rEqG_ll]
    refine eqS_ints ((st.take (depA d i)).map fun (k : Nat) => (k : Int)) [] (by rw [up_ne hq2, up_same, ei]) up_same ?_
    have frm : ∀ (A B : MO), ∀ a o, a ≠ p → M a = some o → up (up (up (up M' h (.lst ((st.take (depA d i)).map natT))) q (.lst [])) p A) h B a = some o := fun A B a o h1 h2 => by
      rw [up_ne (m_ne h2 mh), up_ne h1, up_ne (m_ne h2 mq), up_ne (m_ne h2 mh)]; exact fr a o h1 h2
    by_cases c0 : depA d i = 0
    · rw [if_pos c0] at hpar
      have et : st.take (depA d i) = [] := by rw [c0]; rfl
      rw [et] at fin frm ⊢
      simp [up_ne ph, up_ne pq, up_ne (fun e => ph e.symm : h ≠ p), up_ne hq2, ep, hps]
      refine ⟨small_lt (by omega), small_lt (by omega), fin _ ?_ ?_ (frm _ _)⟩
      · rw [up_ne ph, up_same, hpar]; rfl
      · rw [up_same]; rfl
    · rw [if_neg c0, hl2] at hpar
      have hk : depA d i - 1 < (st.take (depA d i)).length := by omega
      have e2 : (st.take (depA d i))[depA d i - 1]? = some (st.take (depA d i))[depA d i - 1] := by simp only [List.getElem?_eq_getElem hk]
      rw [e2] at hpar
      have e4 : ((st.take (depA d i)).map natT)[((st.take (depA d i)).map natT).length - 1]? = some (natT (st.take (depA d i))[depA d i - 1]) := by
        rw [List.length_map, hl2, List.getElem?_map, e2]; rfl
      have ne : ((st.take (depA d i)).map fun (k : Nat) => (k : Int)) ≠ [] := by
        intro e
        have := congrArg List.length e
        rw [List.length_map, hl2] at this
        exact c0 this
      simp [-List.map_take, -List.map_eq_nil_iff, ne, up_ne ph, up_ne pq, up_ne (fun e => ph e.symm : h ≠ p), up_ne hq2, ep, hps, ↓kAt_last e4, Nat.min_eq_left hdl]
      refine ⟨small_lt (by omega), small_lt (by omega), fin _ ?_ ?_ (frm _ _)⟩
      · rw [up_ne ph, up_same, hpar]; simp [optT]
      · rw [up_same]
  · rintro σ M' ⟨g, st, x, y, z, rfl, pg, mg, ep, eg, fr, _⟩
    simp
    refine Fg.le (M := up M p (.lst (parsT d d.length))) (fun a u e => ?_) (hq p hp)
    by_cases c : a = p
    · subst c; rw [up_same] at e; rw [← e]; simpa using ep
    · rw [up_ne c] at e
      exact fr a u c e
end T

/-! V: texts of documents, as lists of signs. -/
namespace T
open PySem PySem.Spec PyProof.Rows L2
abbrev Cps := List Nat
def mkL (e : Str × Nat) : Cps := e.1.cps.toList
def sepL (last h : Nat) : Cps := if last < h then [40] else List.replicate (last - h) 41 ++ [32]
/-- the text behind a node of depth last, of nodes not less deep than g -/
def bodyG (g last : Nat) : Doc → Cps
  | [] => List.replicate (last - g) 41
  | e :: r => sepL last e.2 ++ mkL e ++ bodyG g e.2 r
def textG (g : Nat) : Doc → Cps
  | [] => []
  | e :: r => mkL e ++ bodyG g e.2 r
theorem bodyG_in {g : Nat} {B : Doc} (hB : ∀ b ∈ B.head?, b.2 = g) : ∀ {A : Doc} {last : Nat}, g + 1 ≤ last → (∀ a ∈ A, g + 1 ≤ a.2) →
    bodyG g last (A ++ B) = bodyG (g + 1) last A ++ [41] ++ (if B = [] then [] else [32] ++ textG g B)
  | [], last, h, _ => by
    cases B with
    | nil =>
      simp only [List.append_nil, if_true, bodyG]
      have : last - g = (last - (g + 1)) + 1 := by omega
      rw [this, List.replicate_succ']
    | cons b r =>
      have hb := hB b (by simp)
      show sepL last b.2 ++ mkL b ++ bodyG g b.2 r = List.replicate (last - (g + 1)) 41 ++ [41] ++ (if (b :: r : Doc) = [] then [] else [32] ++ (mkL b ++ bodyG g b.2 r))
      rw [if_neg (by simp), hb]
      unfold sepL
      rw [if_neg (by omega)]
      have : last - g = (last - (g + 1)) + 1 := by omega
      rw [this, List.replicate_succ']
      simp only [List.append_assoc]
  | a :: r, last, h, hA => by
    have ha := hA a List.mem_cons_self
    have ih := bodyG_in hB (A := r) (last := a.2) ha fun x hx => hA x (List.mem_cons_of_mem _ hx)
    show sepL last a.2 ++ mkL a ++ bodyG g a.2 (r ++ B) = sepL last a.2 ++ mkL a ++ bodyG (g + 1) a.2 r ++ [41] ++ _
    rw [ih]
    simp only [List.append_assoc]
theorem textG_split {g : Nat} {e : Str × Nat} {A B : Doc} (he : e.2 = g) (hA : ∀ a ∈ A, g + 1 ≤ a.2) (hA1 : ∀ a ∈ A.head?, a.2 = g + 1) (hB : ∀ b ∈ B.head?, b.2 = g) :
    textG g (e :: (A ++ B)) = mkL e ++ (if A = [] then [] else [40] ++ textG (g + 1) A ++ [41]) ++ (if B = [] then [] else [32] ++ textG g B) := by
  cases A with
  | nil =>
    cases B with
    | nil => simp [textG, bodyG, he]
    | cons b r =>
      have hb := hB b (by simp)
      simp [textG, bodyG, he, hb, sepL]
  | cons a r =>
    have ha := hA1 a (by simp)
    show mkL e ++ (sepL e.2 a.2 ++ mkL a ++ bodyG g a.2 (r ++ B)) = mkL e ++ (if (a :: r : Doc) = [] then [] else [40] ++ (mkL a ++ bodyG (g + 1) a.2 r) ++ [41]) ++ _
    rw [if_neg (by simp), bodyG_in hB (by omega) (fun x hx => hA x (List.mem_cons_of_mem _ hx)), he]
    have : sepL g a.2 = [40] := by unfold sepL; rw [if_pos (by omega)]
    rw [this]
    simp only [List.append_assoc]
/-! segments -/
def seg (d : Doc) (i j : Nat) : Doc := (d.drop i).take (j - i)
theorem seg_nil {d : Doc} {i : Nat} : seg d i i = [] := by simp [seg]
theorem seg_cons {d : Doc} {i j : Nat} (h : i < j) (hi : i < d.length) : seg d i j = d[i] :: seg d (i + 1) j := by
  unfold seg
  rw [List.drop_eq_getElem_cons hi, show j - i = (j - (i + 1)) + 1 by omega, List.take_succ_cons]
theorem seg_app {d : Doc} {i j k : Nat} (h1 : i ≤ j) (h2 : j ≤ k) : seg d i k = seg d i j ++ seg d j k := by
  unfold seg
  have : k - i = (j - i) + (k - j) := by omega
  rw [this, List.take_add, List.drop_drop, show i + (j - i) = j by omega]
theorem seg_mem {d : Doc} {i j : Nat} {x : Str × Nat} (h : x ∈ seg d i j) : ∃ c, i ≤ c ∧ c < j ∧ c < d.length ∧ d[c]? = some x := by
  unfold seg at h
  obtain ⟨k, hk, rfl⟩ := List.getElem_of_mem h
  simp at hk
  refine ⟨i + k, by omega, by omega, by omega, ?_⟩
  simp
theorem seg_head {d : Doc} {i j : Nat} (h : i < j) (hi : i < d.length) : (seg d i j).head? = some d[i] := by rw [seg_cons h hi]; rfl
theorem seg_empty {d : Doc} {i j : Nat} (h : i ≤ j) (hj : j ≤ d.length) : seg d i j = [] ↔ i = j := by
  constructor
  · intro e
    have := congrArg List.length e
    simp [seg] at this
    omega
  · intro e; subst e; exact seg_nil
def segT (d : Doc) (g i j : Nat) : Cps := textG g (seg d i j)
/-- the text of the node k with all below it -/
def TT (d : Doc) (k : Nat) : Cps := segT d (depA d k) k (endA d k)
theorem segT_step {d : Doc} (hv : Vd 0 d) {g i j : Nat} (h : i < j) (hj : j ≤ d.length) (hi : depA d i = g) (hd : ∀ c, i < c → c < j → g ≤ depA d c) (hs : j < d.length → depA d j ≤ g) :
    endA d i ≤ j ∧ segT d g i j = TT d i ++ (if endA d i = j then [] else [32] ++ segT d g (endA d i) j) ∧ (endA d i < j → depA d (endA d i) = g) ∧
      TT d i = mkL (d[i]'(by omega)) ++ (if i + 1 = endA d i then [] else [40] ++ segT d (g + 1) (i + 1) (endA d i) ++ [41]) := by
  have hi2 : i < d.length := by omega
  have E := endA_ok hi2
  have l1 := E.lt
  have l2 := E.le
  have le : endA d i ≤ j := by
    by_cases c : endA d i ≤ j
    · exact c
    · have := E.deep j h (by omega)
      have := hs (by omega)
      omega
  have hg : endA d i < j → depA d (endA d i) = g := fun c => by
    have h1 := E.stop (by omega)
    have h2 := hd _ l1 c
    omega
  have dA : ∀ a ∈ seg d (i + 1) (endA d i), g + 1 ≤ a.2 := fun a ha => by
    obtain ⟨c, c1, c2, c3, c4⟩ := seg_mem ha
    have := E.deep c (by omega) c2
    rw [depA_at c4] at this
    omega
  have dA1 : ∀ a ∈ (seg d (i + 1) (endA d i)).head?, a.2 = g + 1 := fun a ha => by
    by_cases c : i + 1 < endA d i
    · rw [seg_head c (by omega)] at ha
      have e : a = d[i + 1] := by simpa using ha.symm
      have e2 : d[i + 1]? = some a := by rw [e]; simp
      have h1 := E.deep (i + 1) (by omega) c
      have h2 := Val.dep_le hv (i := i + 1) (by omega)
      have h3 : pathN d (i + 1) = depA d i + 1 := by simp [pathN]
      rw [depA_at e2] at h1 h2
      omega
    · have : seg d (i + 1) (endA d i) = [] := by rw [show endA d i = i + 1 by omega]; exact seg_nil
      rw [this] at ha; simp at ha
  have dB : ∀ k, (k ≤ d.length) → (endA d i < k → depA d (endA d i) = g) → ∀ b ∈ (seg d (endA d i) k).head?, b.2 = g := fun k hk hgk b hb => by
    by_cases c : endA d i < k
    · rw [seg_head c (by omega)] at hb
      have e : b = d[endA d i] := by simpa using hb.symm
      have e2 : d[endA d i]? = some b := by rw [e]; simp
      have := hgk c
      rw [depA_at e2] at this
      exact this
    · have : seg d (endA d i) k = [] := by
        unfold seg
        rw [show k - endA d i = 0 by omega, List.take_zero]
      rw [this] at hb; simp at hb
  have hmk : (d[i]).2 = g := by
    have e2 : d[i]? = some d[i] := by simp [hi2]
    rw [← depA_at e2]; exact hi
  have sp : ∀ k, endA d i ≤ k → k ≤ d.length → (endA d i < k → depA d (endA d i) = g) → segT d g i k = mkL d[i] ++ (if i + 1 = endA d i then [] else [40] ++ segT d (g + 1) (i + 1) (endA d i) ++ [41]) ++ (if endA d i = k then [] else [32] ++ segT d g (endA d i) k) := fun k k1 k2 k3 => by
    unfold segT
    rw [seg_cons (by omega) hi2, seg_app (j := endA d i) (by omega) k1, textG_split hmk dA dA1 (dB k k2 k3)]
    have s1 := seg_empty (d := d) (i := i + 1) (j := endA d i) (by omega) l2
    have s2 := seg_empty (d := d) (i := endA d i) (j := k) k1 k2
    simp only [s1, s2]
  have t1 : TT d i = mkL d[i] ++ (if i + 1 = endA d i then [] else [40] ++ segT d (g + 1) (i + 1) (endA d i) ++ [41]) := by
    unfold TT
    rw [hi, sp _ (Nat.le_refl _) l2 (fun c => absurd c (Nat.lt_irrefl _)), if_pos rfl, List.append_nil]
  refine ⟨le, ?_, hg, t1⟩
  rw [t1]
  exact sp j le hj hg
/-! the nodes at the top of a segment -/
def jn : List Cps → Cps
  | [] => []
  | [x] => x
  | x :: y :: r => x ++ [32] ++ jn (y :: r)
def tops (d : Doc) (g i j : Nat) : List Nat := (List.range' i (j - i)).filter fun c => decide (depA d c = g)
theorem range_cut {i j k : Nat} (h1 : i ≤ j) (h2 : j ≤ k) : List.range' i (k - i) = List.range' i (j - i) ++ List.range' j (k - j) := by
  have e1 := List.range'_append_1 (s := i) (m := j - i) (n := k - j)
  rw [show i + (j - i) = j by omega, show j - i + (k - j) = k - i by omega] at e1
  exact e1.symm
theorem tops_step {d : Doc} {g i j : Nat} (h : i < j) (hi : depA d i = g) (le : endA d i ≤ j) (hi2 : i < d.length) : tops d g i j = i :: tops d g (endA d i) j := by
  have E := endA_ok hi2
  have l1 := E.lt
  unfold tops
  rw [range_cut (Nat.le_of_lt l1) le, List.filter_append]
  rw [show endA d i - i = (endA d i - (i + 1)) + 1 by omega, List.range'_succ, List.filter_cons_of_pos (by simpa using hi)]
  have z : (List.range' (i + 1) (endA d i - (i + 1))).filter (fun c => decide (depA d c = g)) = [] := ?_
  · rw [z]; rfl
  refine List.filter_eq_nil_iff.mpr fun c hc => ?_
  simp at hc
  have := E.deep c (by omega) (by omega)
  simp; omega
theorem tops_nil {d : Doc} {g i : Nat} : tops d g i i = [] := by simp [tops]
theorem segT_jn {d : Doc} (hv : Vd 0 d) {g j : Nat} (hj : j ≤ d.length) (hs : j < d.length → depA d j ≤ g) : ∀ (n i : Nat), n = j - i → i < j → depA d i = g → (∀ c, i < c → c < j → g ≤ depA d c) → segT d g i j = jn ((tops d g i j).map (TT d)) := by
  intro n
  induction n using Nat.strongRecOn with
  | ind n ih =>
    intro i hn h hi hd
    obtain ⟨le, e1, e2, _⟩ := segT_step hv h hj hi hd hs
    have l1 := (endA_ok (d := d) (k := i) (by omega)).lt
    rw [e1, tops_step h hi le (by omega)]
    by_cases c : endA d i = j
    · rw [if_pos c, c, tops_nil]
      simp [jn]
    · rw [if_neg c]
      have r := ih (j - endA d i) (by omega) (endA d i) rfl (by omega) (e2 (by omega)) fun c h1 h2 => hd c (by omega) h2
      rw [r]
      have t := tops_step (d := d) (g := g) (i := endA d i) (j := j) (by omega) (e2 (by omega)) (by
        exact (segT_step hv (by omega) hj (e2 (by omega)) (fun c h1 h2 => hd c (by omega) h2) hs).1) (by omega)
      rw [t]
      simp only [List.map_cons, jn, List.append_assoc]
/-- children by segments -/
theorem ch_tops {d : Doc} (hv : Vd 0 d) {k : Nat} (hk : k < d.length) : chA d (some k) = tops d (depA d k + 1) (k + 1) (endA d k) := by
  have E := endA_ok hk
  have hle := E.le
  have hlt := E.lt
  unfold chA tops
  exact filter_range (n := d.length) (a := k + 1) (b := endA d k) (p := fun c => decide (depA d c = depA d k + 1)) (q := fun c => decide (parA d c = some k)) (by omega) (by omega) (fun c hc => by
    have := par_some hv hc hk
    rw [Bool.eq_iff_iff]
    simp [this]
    omega)
theorem root_tops {d : Doc} (hv : Vd 0 d) : chA d none = tops d 0 0 d.length := by
  unfold chA tops
  rw [Nat.sub_zero, List.range_eq_range']
  refine List.filter_congr fun c hc => ?_
  have := par_none hv (c := c) (by simpa using hc)
  simp [this]
theorem TT_rec {d : Doc} (hv : Vd 0 d) {k : Nat} (hk : k < d.length) : TT d k = mkL d[k] ++ (if chA d (some k) = [] then [] else [40] ++ jn ((chA d (some k)).map (TT d)) ++ [41]) := by
  have E := endA_ok hk
  have hle := E.le
  have hlt := E.lt
  obtain ⟨_, _, _, e⟩ := segT_step hv (i := k) (j := endA d k) hlt hle rfl (fun c h1 h2 => Nat.le_of_lt (E.deep c h1 h2)) E.stop
  rw [e, ch_tops hv hk]
  by_cases c : k + 1 = endA d k
  · have z : tops d (depA d k + 1) (k + 1) (endA d k) = [] := by rw [c]; exact tops_nil
    rw [if_pos c, z, if_pos rfl]
  · rw [if_neg c]
    have d1 : depA d (k + 1) = depA d k + 1 := by
      have h1 := E.deep (k + 1) (by omega) (by omega)
      have h2 := Val.dep_le hv (i := k + 1) (by omega)
      have h3 : pathN d (k + 1) = depA d k + 1 := by simp [pathN]
      omega
    have le := (segT_step hv (g := depA d k + 1) (i := k + 1) (j := endA d k) (by omega) hle d1 (fun c h1 h2 => E.deep c (by omega) h2) (fun h => by have := E.stop h; omega)).1
    rw [if_neg (by rw [tops_step (by omega) d1 le (by omega)]; simp), segT_jn hv hle (fun h => by have := E.stop h; omega) _ (k + 1) rfl (by omega) d1 fun c h1 h2 => E.deep c (by omega) h2]
theorem doc_jn {d : Doc} (hv : Vd 0 d) : textG 0 d = jn ((chA d none).map (TT d)) := by
  have e : seg d 0 d.length = d := by simp [seg]
  cases hd : d with
  | nil => rfl
  | cons x r =>
    have hl : 0 < d.length := by rw [hd]; simp
    have h0 : depA d 0 = 0 := by have := Val.dep_lt hv hl; omega
    have := segT_jn hv (g := 0) (j := d.length) (Nat.le_refl _) (fun h => absurd h (Nat.lt_irrefl _)) _ 0 rfl hl h0 fun _ _ _ => Nat.zero_le _
    unfold segT at this
    rw [e] at this
    rw [← hd, root_tops hv, this]
end T

/-! V: text_of. -/
namespace T
open PySem PySem.Spec PyProof.Rows L2
def sOf (l : Cps) : Str := ⟨l.toArray⟩
theorem sOf_cps {l : Cps} : (sOf l).cps.toList = l := by simp [sOf]
theorem str_eq {x y : Str} (h : x.cps.toList = y.cps.toList) : x = y := by
  obtain ⟨a⟩ := x
  obtain ⟨b⟩ := y
  have : a = b := Array.toList_inj.mp h
  rw [this]
theorem cps_app {x y : Str} : (x ++ y).cps.toList = x.cps.toList ++ y.cps.toList := by
  show (x.cps ++ y.cps).toList = _
  simp
theorem len_cps {x : Str} : x.length = x.cps.toList.length := by
  show x.cps.size = _
  simp
theorem rep_list (a : Array Nat) : ∀ (n : Nat) (acc : Array Nat), ((List.replicate n a).foldl (· ++ ·) acc).toList = acc.toList ++ (List.replicate n a.toList).flatten
  | 0, acc => by simp
  | n + 1, acc => by
    rw [List.replicate_succ, List.foldl_cons, rep_list a n, List.replicate_succ, List.flatten_cons]
    simp
theorem rep1 {z : Str} {c n : Nat} (h : z.cps.toList = [c]) : (repS z n).cps.toList = List.replicate n c := by
  show ((List.replicate n z.cps).foldl (· ++ ·) #[]).toList = _
  rw [rep_list, h]
  have : ∀ n : Nat, (List.replicate n [c]).flatten = List.replicate n c := fun n => by
    induction n with
    | zero => rfl
    | succ n ih => rw [List.replicate_succ, List.replicate_succ, List.flatten_cons, ih]; rfl
  simp [this]
theorem join0 (ys : List Str) : (Txt.join "" ys).cps.toList = (ys.map fun y => y.cps.toList).flatten := by
  rw [TL.join_eq]
  induction ys with
  | nil => rfl
  | cons x r ih =>
    cases r with
    | nil => simp [Str.join]
    | cons y r =>
      show (x ++ "" ++ Str.join "" (y :: r)).cps.toList = _
      rw [cps_app, cps_app, ih]
      have : (("" : String) : Str).cps.toList = [] := rfl
      rw [this]
      simp
theorem isMk_cps {z : Str} (h : isMk (.str z) = true) : ∃ c, z.cps.toList = [c] := by
  simp only [isMk, Bool.and_eq_true, decide_eq_true_eq] at h
  have e := len_cps (x := z)
  rw [h.1] at e
  match z.cps.toList, e with
  | [c], _ => exact ⟨c, rfl⟩
theorem sum_le {k : Nat} : ∀ {ys : List Str}, (∀ y ∈ ys, y.length ≤ k) → (ys.map (·.length)).sum ≤ ys.length * k
  | [], _ => by simp
  | y :: r, h => by
    have h1 := h y List.mem_cons_self
    have h2 := sum_le (ys := r) fun x hx => h x (List.mem_cons_of_mem _ hx)
    rw [List.map_cons, List.sum_cons, List.length_cons, Nat.add_mul]
    omega
theorem flat_len {k : Nat} {ys : List Str} (h : ∀ y ∈ ys, y.length ≤ k) : ((ys.map fun y => y.cps.toList).flatten).length ≤ ys.length * k := by
  induction ys with
  | nil => simp
  | cons y r ih =>
    have h1 := h y List.mem_cons_self
    have h2 := ih fun x hx => h x (List.mem_cons_of_mem _ hx)
    rw [List.map_cons, List.flatten_cons, List.length_append, List.length_cons, Nat.add_mul, ← len_cps]
    omega
theorem sep_lenB {a b : Nat} : (sepL a b).length ≤ (if a < b then 1 else a - b + 1) := by
  unfold sepL
  split <;> simp
theorem body_lenB {g : Nat} : ∀ {l : Doc} {a : Nat}, (∀ e ∈ l, e.1.length = 1) → (∀ (i : Nat) (e : Str × Nat), l[i]? = some e → e.2 ≤ (match i with | 0 => a | j + 1 => (l[j]?.map fun x : Str × Nat => x.2).getD 0) + 1) → (bodyG g a l).length ≤ 3 * l.length + a
  | [], a, _, _ => by simp [bodyG]
  | e :: r, a, h1, h2 => by
    have ih := body_lenB (g := g) (l := r) (a := e.2) (fun x hx => h1 x (List.mem_cons_of_mem _ hx)) (fun i x hx => by
      have := h2 (i + 1) x hx
      cases i with
      | zero => simpa using this
      | succ j => simpa using this)
    have he := h2 0 e rfl
    have hm := h1 e List.mem_cons_self
    have hs := @sep_lenB a e.2
    have hmk : (mkL e).length = 1 := by unfold mkL; rw [← len_cps]; exact hm
    show (sepL a e.2 ++ mkL e ++ bodyG g e.2 r).length ≤ _
    rw [List.length_append, List.length_append, hmk, List.length_cons]
    simp only at he
    split at hs <;> omega
theorem text_len3 {d : Doc} (hv : Vd 0 d) : (textG 0 d).length ≤ 3 * d.length := by
  have hm : ∀ e ∈ d, e.1.length = 1 := fun e he => by
    obtain ⟨i, hi⟩ := List.mem_iff_getElem?.mp he
    have hk := (hv.dep i e hi).1
    simp only [isMk, Bool.and_eq_true, decide_eq_true_eq] at hk
    exact hk.1
  cases d with
  | nil => simp [textG]
  | cons e r =>
    have h0 : e.2 = 0 := by
      have := Val.dep_le hv (i := 0) (by simp)
      simp [pathN, depA] at this
      omega
    have := body_lenB (g := 0) (l := r) (a := e.2) (fun x hx => hm x (List.mem_cons_of_mem _ hx)) (fun i x hx => by
      have hi : i + 1 < (e :: r).length := by have := (List.getElem?_eq_some_iff.mp hx).1; simp; omega
      have hx' : (e :: r)[i + 1]? = some x := hx
      have h3 := Val.dep_le hv hi
      rw [depA_at hx'] at h3
      unfold pathN at h3
      rw [if_neg (by omega)] at h3
      cases i with
      | zero =>
        have : depA (e :: r) 0 = e.2 := depA_at rfl
        simp at h3
        omega
      | succ j =>
        have hjl : j < r.length := by simp at hi; omega
        have hj : (e :: r)[j + 1]? = some (r[j]'hjl) := by
          simp [hjl]
        have e4 : depA (e :: r) (j + 1) = (r[j]'hjl).2 := depA_at hj
        have e5 : r[j]? = some (r[j]'hjl) := hj
        simp at h3
        simp only [e5, Option.map_some, Option.getD_some]
        omega)
    have hmk : (mkL e).length = 1 := by unfold mkL; rw [← len_cps]; exact hm e List.mem_cons_self
    show (mkL e ++ bodyG 0 e.2 r).length ≤ _
    rw [List.length_append, List.length_cons, hmk]
    omega
theorem flat_sumB {ys : List Str} : ((ys.map fun y => y.cps.toList).flatten).length = (ys.map (·.length)).sum := by
  rw [List.length_flatten, List.map_map]
  congr 1
def sp_text_of : Sp2 := A1 fun a M Q _ => ∃ d, a = docT d ∧ Val d ∧ Q (.str (sOf (textG 0 d))) M
def n_text_of : List Str := "document" :: "parts" :: "last" :: "mark" :: "depth" :: []
def b_text_of : TS2 := (sSq (sAs (eLst aNil) (gN 1))
  (sSq (sAs (eUn rNeg2 (eC (.int 1))) (gN 2))
  (sSq (sFo (iSq (eVar 0)) (gT 2 (gCo (gN 3) (gCo (gN 4) gNil2))) (sSq (sIf (tCm (eOp rGtI (eVar 4) (eVar 2))) (sDr (eM "list" rApp2 (eVar 1) (aCons (eIf (tCm (eOp rGeI (eVar 2) (eC (.int 0)))) (eOp rMul3 (eC (.str "(")) (eOp rSub2 (eVar 4) (eVar 2))) (eC (.str ""))) aNil))) (sDr (eM "list" rApp2 (eVar 1) (aCons (eOp rAdd2 (eOp rMul3 (eC (.str ")")) (eOp rSub2 (eVar 2) (eVar 4))) (eC (.str " "))) aNil))))
  (sSq (sDr (eM "list" rApp2 (eVar 1) (aCons (eVar 3) aNil)))
  (sAs (eVar 4) (gN 2)))))
  (sRt (eOp rAdd2 (eM1 rJoin2 (eC (.str "")) (eVar 1)) (eOp rMul3 (eC (.str ")")) (eB rMax2 (aCons (eC (.int 0)) (aCons (eVar 2) aNil)))))))))
theorem sem_text_of : ∀ ds M Q E, sp_text_of ds M Q E → b_text_of (fEnds Q E) (start2 n_text_of ds) M := by
  rintro ds M Q E ⟨a, rfl, d, rfl, ⟨hv, hl⟩, hq⟩
  have k40 : (("(" : String) : Str).cps.toList = [40] := by decide
  have k41 : ((")" : String) : Str).cps.toList = [41] := by decide
  have k32 : ((" " : String) : Str).cps.toList = [32] := by decide
  simp only [b_text_of, start2, n_text_of]
  simp
  intro p hp
  simp [docT]
  refine for_itL (fun i σ M' => ∃ (ys : List Str) (last : Int) (x y : Option Tr), σ = [some (docT d), some (.loc p), some (.int last), x, y] ∧ M' = up M p (.lst (ys.map Tr.str)) ∧ ys.length = 2 * i ∧ (∀ y ∈ ys, y.length ≤ 20002) ∧
    ((i = 0 ∧ last = -1 ∧ ys = []) ∨ (0 < i ∧ last = depA d (i - 1) ∧ (ys.map fun y => y.cps.toList).flatten ++ bodyG 0 (depA d (i - 1)) (d.drop i) = textG 0 d))) ?_ ?_ ?_ ?_
  · exact ⟨[], -1, none, none, rfl, rfl, rfl, (fun y h => by simp at h), .inl ⟨rfl, rfl, rfl⟩⟩
  · rintro i σ M' _ ⟨ys, last, x, y, rfl, rfl, _⟩
    rfl
  · rintro i e σ M' he ⟨ys, last, x, y, rfl, rfl, hn, hy, hc⟩
    obtain ⟨en, hen, rfl⟩ := ent_at he
    have hi : i < d.length := (List.getElem?_eq_some_iff.mp hen).1
    have hdi := Val.dep_lt hv hi
    have hmk := (hv.dep i en hen).1
    obtain ⟨ch, hch⟩ := isMk_cps hmk
    have hml : en.1.length ≤ 20002 := by rw [len_cps, hch]; simp
    have hdr : d.drop i = en :: d.drop (i + 1) := by
      rw [List.drop_eq_getElem_cons hi]
      have : d[i]? = some d[i] := by simp [hi]
      rw [this] at hen
      rw [Option.some.inj hen]
    have hed : en.2 = depA d i := (depA_at hen).symm
    simp only [gT_ap, gCo_ap, gN_3, gN_4, gNil2_ap, List.length_cons, List.length_nil, true_and]
    refine nx_cut fun NX hN => ?_
    -- what is written ahead of the mark
    have fin : ∀ (z : Str) (x y : Option Tr), z.length ≤ 20002 → ((ys = [] ∧ i = 0 ∧ z.cps.toList = []) ∨ (0 < i ∧ last = depA d (i - 1) ∧ (ys.map fun y => y.cps.toList).flatten ++ bodyG 0 (depA d (i - 1)) (d.drop i) = textG 0 d ∧ z.cps.toList = sepL (depA d (i - 1)) en.2)) →
        NX [some (docT d), some (.loc p), some (.int (depA d i)), x, y] (up M p (.lst (ys.map Tr.str ++ [Tr.str z] ++ [Tr.str en.1]))) := fun z x y hz hc => by
      refine hN _ _ ⟨ys ++ [z] ++ [en.1], depA d i, x, y, rfl, by simp, by simp [hn]; omega, fun w hw => ?_, .inr ⟨by omega, by simp, ?_⟩⟩
      · simp at hw
        rcases hw with hw | rfl | rfl
        · exact hy w hw
        · exact hz
        · exact hml
      · simp only [Nat.add_sub_cancel]
        rcases hc with ⟨h1, h2, h3⟩ | ⟨h1, h2, h3, h4⟩
        · subst h1 h2
          have : d = en :: d.drop 1 := by simpa using hdr
          rw [this]
          simp [textG, mkL, h3, depA]
        · rw [hdr] at h3
          rw [← h3]
          show _ = _ ++ (sepL (depA d (i - 1)) en.2 ++ mkL en ++ bodyG 0 en.2 (d.drop (i + 1)))
          simp [h4, mkL, hed]
    rcases hc with ⟨h1, h2, h3⟩ | ⟨h1, h2, h3⟩
    · subst h2
      have hd0 : depA d i = 0 := by omega
      rw [hd0]
      simp
      have z0 : ((("" : String) : Str)).cps.toList = [] := rfl
      have := fin "" (some (.str en.1)) (some (.int 0)) (by decide) (.inl ⟨h3, h1, z0⟩)
      rw [hd0] at this
      simp at this
      exact ⟨small_lt (by omega), small_lt (by omega), this⟩
    · subst h2
      have hpl : depA d i ≤ depA d (i - 1) + 1 := by
        have := Val.dep_le hv hi
        unfold pathN at this
        rw [if_neg (by omega)] at this
        exact this
      have hdp := Val.dep_lt hv (i := i - 1) (by omega)
      by_cases c : depA d (i - 1) < depA d i
      · simp [c]
        refine ⟨by decide, by omega, by omega, small_lt (by omega), small_lt (by omega), ?_⟩
        have e1 : depA d i - depA d (i - 1) = 1 := by omega
        rw [e1]
        have := fin (repS "(" 1) (some (.str en.1)) (some (.int (depA d i))) (by decide) (.inr ⟨h1, rfl, h3, by rw [rep1 k40, hed, sepL, if_pos c]; rfl⟩)
        simpa using this
      · simp [c]
        have lz : (repS ")" (depA d (i - 1) - depA d i)).length = depA d (i - 1) - depA d i := by
          rw [repS_len]
          have : ((")" : String) : Str).length = 1 := rfl
          rw [this]; omega
        refine ⟨by decide, by omega, by omega, ?_, small_lt (by omega), small_lt (by omega), ?_⟩
        · rw [lz]; exact small_line (by have : ((" " : String) : Str).length = 1 := rfl; omega)
        · have := fin (repS ")" (depA d (i - 1) - depA d i) ++ " ") (some (.str en.1)) (some (.int (depA d i))) (by
            rw [len_cps, cps_app, rep1 k41, k32]; simp; omega) (.inr ⟨h1, rfl, h3, by rw [cps_app, rep1 k41, k32, hed, sepL, if_neg c]⟩)
          simpa using this
  · rintro σ M' ⟨ys, last, x, y, rfl, rfl, hn, hy, hc⟩
    rw [List.length_map] at hn hc
    have htl := text_len3 hv
    have hs := @flat_sumB ys
    have hfl : ((ys.map fun y => y.cps.toList).flatten).length ≤ (textG 0 d).length := by
      rcases hc with ⟨h1, h2, h3⟩ | ⟨h1, h2, h3⟩
      · rw [h3]; simp
      · rw [← h3, List.length_append]; omega
    have z0 : ((("" : String) : Str)).length = 0 := rfl
    simp
    refine ⟨ys, seqT_lst up_same, by rw [z0]; omega, ?_⟩
    have fin : ∀ k : Nat, k ≤ 20000 → (ys.map fun y => y.cps.toList).flatten ++ List.replicate k 41 = textG 0 d → (Txt.join "" ys).length + (repS ")" k).length ≤ sizeLine ∧ Fg Q (.str (Txt.join "" ys ++ repS ")" k)) (up M p (.lst (ys.map Tr.str))) := fun k hk e => by
      have e1 : Txt.join "" ys ++ repS ")" k = sOf (textG 0 d) := str_eq (by rw [cps_app, join0, rep1 k41, sOf_cps]; exact e)
      refine ⟨?_, by rw [e1]; exact Fg.le (Le.new hp) hq⟩
      rw [len_cps, join0, len_cps, rep1 k41, sizeLine_eq]
      simp only [List.length_replicate]
      omega
    rcases hc with ⟨h1, h2, h3⟩ | ⟨h1, h2, h3⟩
    · subst h2 h3
      have hd : d = [] := List.eq_nil_of_length_eq_zero h1
      simp
      refine ⟨by decide, fin 0 (by omega) ?_⟩
      rw [hd]; rfl
    · subst h2
      have hdp := Val.dep_lt hv (i := d.length - 1) (by omega)
      have hm : (if 0 < depA d (d.length - 1) then ((depA d (d.length - 1) : Nat) : Int) else 0) = ((depA d (d.length - 1) : Nat) : Int) := by split <;> omega
      have key := fin (depA d (d.length - 1)) (by omega) (by
        rw [List.drop_length] at h3
        exact h3)
      simp
      rw [hm, Int.toNat_natCast]
      exact ⟨by decide, by omega, by omega, key⟩
end T

/-! V: forest_in, read and written texts. -/
namespace T
open PySem PySem.Spec PyProof.Rows L2
def chS (c : Nat) : Str := ⟨#[c]⟩
abbrev PSt := Doc × Nat × Nat
def stepP (s : PSt) (c : Nat) : Option PSt :=
  if s.2.2 = 32 ∨ s.2.2 = 40 then (if isMk (.str (chS c)) = true then some (s.1 ++ [(chS c, s.2.1)], s.2.1, c) else none)
  else if c = 40 then (if s.2.2 ≠ 41 then some (s.1, s.2.1 + 1, 40) else none)
  else if c = 41 then (if 0 < s.2.1 then some (s.1, s.2.1 - 1, 41) else none)
  else if c = 32 then some (s.1, s.2.1, 32) else none
def runP (s : PSt) : Cps → Option PSt
  | [] => some s
  | c :: r => (stepP s c).bind fun s' => runP s' r
theorem chS_eq {a b : Nat} : chS a = chS b ↔ a = b := by
  constructor
  · intro h
    have := congrArg (fun z : Str => z.cps.toList) h
    simpa [chS] using this
  · intro h; rw [h]
theorem s32 : ((" " : String) : Str) = chS 32 := rfl
theorem s40 : (("(" : String) : Str) = chS 40 := rfl
theorem s41 : ((")" : String) : Str) = chS 41 := rfl
theorem isMk_in {c : Nat} (h : isMk (.str (chS c)) = true) : strIn (chS c) "abcdefgh" = true := by
  simp only [isMk, Bool.and_eq_true] at h
  exact h.2
def sp_forest_in : Sp2 := A1 fun a M Q _ => ∃ (z : Str) (F : PSt), a = .str z ∧ runP ([], 0, 32) z.cps.toList = some F ∧ (z.cps.toList ≠ [] → F.2.2 ≠ 32 ∧ F.2.1 = 0) ∧ F.1.length ≤ 20000 ∧ z.length ≤ 1000000 ∧ Q (docT F.1) M
def n_forest_in : List Str := "text" :: "nodes" :: "depth" :: "ahead" :: "place" :: "sign" :: "fits" :: []
def b_forest_in : TS2 := (sSq (sAs (eLst aNil) (gN 1))
  (sSq (sAs (eC (.int 0)) (gN 2))
  (sSq (sAs (eC (.str " ")) (gN 3))
  (sSq (sFo (iEnS (aCons (eVar 0) aNil)) (gT 2 (gCo (gN 4) (gCo (gN 5) gNil2))) (sSq (sIf (tOrr (tCm (eOp (rEqG id) (eVar 3) (eC (.str " ")))) (tCm (eOp (rEqG id) (eVar 3) (eC (.str "("))))) (sSq (sAs (eOp (rInX id) (eVar 5) (eC (.str "abcdefgh"))) (gN 6))
  (sDr (eM "list" rApp2 (eVar 1) (aCons (eTup (aCons (eVar 5) (aCons (eVar 2) aNil))) aNil)))) (sIf (tCm (eOp (rEqG id) (eVar 5) (eC (.str "(")))) (sSq (sAs (eOp (rEqG not) (eVar 3) (eC (.str ")"))) (gN 6))
  (sAu 2 rIpA (eC (.int 1)))) (sIf (tCm (eOp (rEqG id) (eVar 5) (eC (.str ")")))) (sSq (sAs (eOp rGtI (eVar 2) (eC (.int 0))) (gN 6))
  (sAu 2 rIpS (eC (.int 1)))) (sAs (eOp (rEqG id) (eVar 5) (eC (.str " "))) (gN 6)))))
  (sSq (sIf (tNo (tTr (eVar 6))) sNv sNx)
  (sAs (eVar 5) (gN 3)))))
  (sSq (sIf (tOrr (tAn (tCm (eOp (rEqG not) (eVar 0) (eC (.str "")))) (tOrr (tCm (eOp (rEqG id) (eVar 3) (eC (.str " ")))) (tCm (eOp rGtI (eVar 2) (eC (.int 0)))))) (tCm (eOp rGtI (eB rLen2 (aCons (eVar 1) aNil)) (eC (.int 20000))))) sNv sNx)
  (sRt (eB rTuple2 (aCons (eVar 1) aNil))))))))
theorem sem_forest_in : ∀ ds M Q E, sp_forest_in ds M Q E → b_forest_in (fEnds Q E) (start2 n_forest_in ds) M := by
  rintro ds M Q E ⟨a, rfl, z, F, rfl, hr, hf, hl, hz, hq⟩
  simp only [b_forest_in, start2, n_forest_in]
  simp
  intro p hp
  simp
  have len : (chrs z).length = z.cps.toList.length := by simp [chrs]
  refine for_itE (fun i σ M' => ∃ (s : PSt) (x y w : Option Tr), σ = [some (.str z), some (.loc p), some (.int s.2.1), some (.str (chS s.2.2)), x, y, w] ∧ M' = up M p (.lst (s.1.map entT)) ∧ runP s (z.cps.toList.drop i) = some F ∧ s.1.length ≤ i) ?_ ?_ ?_ ?_
  · exact ⟨([], 0, 32), none, none, none, rfl, rfl, hr, Nat.le_refl _⟩
  · rintro i σ M' _ _
    trivial
  · rintro i e σ M' he ⟨⟨N, h, a⟩, x, y, w, rfl, rfl, hrun, hN⟩
    have hi : i < z.cps.toList.length := by rw [← len]; exact (List.getElem?_eq_some_iff.mp he).1
    have hiz : i < 1000000 := by rw [len_cps] at hz; omega
    obtain ⟨c, hc⟩ : ∃ c, z.cps.toList[i]? = some c := ⟨z.cps.toList[i], List.getElem?_eq_getElem hi⟩
    have ee : e = .str (chS c) := by
      unfold chrs at he
      rw [List.getElem?_map, hc] at he
      exact (Option.some.inj he).symm
    subst ee
    have hdr : z.cps.toList.drop i = c :: z.cps.toList.drop (i + 1) := by
      rw [List.drop_eq_getElem_cons hi]
      have := List.getElem?_eq_getElem hi
      rw [this] at hc
      rw [Option.some.inj hc]
    rw [hdr] at hrun
    simp only at hrun hN
    have hrun2 : (stepP (N, h, a) c).bind (fun s' => runP s' (z.cps.toList.drop (i + 1))) = some F := hrun
    simp only [gT_ap, gCo_ap, gN_4, gN_5, gNil2_ap, List.length_cons, List.length_nil, true_and]
    refine nx_cut fun NX hN2 => ?_
    refine seq_cut (fun σ1 M1 => ∃ s, stepP (N, h, a) c = some s ∧ σ1 = [some (.str z), some (.loc p), some (.int s.2.1), some (.str (chS a)), some (.int i), some (.str (chS c)), some (.bl true)] ∧ M1 = up M p (.lst (s.1.map entT)) ∧ s.1.length ≤ i + 1 ∧ s.2.2 = c) (fun NY hY => ?_) ?_
    · by_cases c1 : a = 32 ∨ a = 40
      · have hs : stepP (N, h, a) c = if isMk (.str (chS c)) = true then some (N ++ [(chS c, h)], h, c) else none := by unfold stepP; rw [if_pos c1]
        by_cases c2 : isMk (.str (chS c)) = true
        · rw [if_pos c2] at hs
          have cont : NY [some (.str z), some (.loc p), some (.int h), some (.str (chS a)), some (.int i), some (.str (chS c)), some (.bl true)] (up M p (.lst (N.map entT ++ [.tup [.str (chS c), .int h]]))) :=
            hY _ _ ⟨_, hs, rfl, by simp [entT], by simp; omega, rfl⟩
          rcases c1 with c1 | c1
          · subst c1
            simp [s32, s40, s41, chS_eq, isMk_in c2]
            exact ⟨by rw [sizeLine_eq]; omega, cont⟩
          · subst c1
            simp [s32, s40, s41, chS_eq, isMk_in c2]
            exact ⟨by rw [sizeLine_eq]; omega, cont⟩
        · rw [if_neg c2] at hs
          rw [hs] at hrun2; cases hrun2
      · have n1 : ¬ a = 32 := fun e => c1 (.inl e)
        have n2 : ¬ a = 40 := fun e => c1 (.inr e)
        by_cases d1 : c = 40
        · subst d1
          have hs : stepP (N, h, a) 40 = if a ≠ 41 then some (N, h + 1, 40) else none := by unfold stepP; rw [if_neg c1, if_pos rfl]
          by_cases d2 : a = 41
          · rw [if_neg (by simpa using d2)] at hs
            rw [hs] at hrun2; cases hrun2
          · rw [if_pos d2] at hs
            simp [s32, s40, s41, chS_eq, n1, n2, d2]
            exact hY _ _ ⟨_, hs, by simp, rfl, by simp; omega, rfl⟩
        · by_cases d2 : c = 41
          · subst d2
            have hs : stepP (N, h, a) 41 = if 0 < h then some (N, h - 1, 41) else none := by unfold stepP; rw [if_neg c1, if_neg (by decide), if_pos rfl]
            by_cases d3 : 0 < h
            · rw [if_pos d3] at hs
              have e1 : ((h - 1 : Nat) : Int) = (h : Int) - 1 := by omega
              simp [s32, s40, s41, chS_eq, n1, n2, d3]
              exact hY _ _ ⟨_, hs, by simp [e1], rfl, by simp; omega, rfl⟩
            · rw [if_neg d3] at hs
              rw [hs] at hrun2; cases hrun2
          · by_cases d3 : c = 32
            · subst d3
              have hs : stepP (N, h, a) 32 = some (N, h, 32) := by unfold stepP; rw [if_neg c1, if_neg (by decide), if_neg (by decide), if_pos rfl]
              simp [s32, s40, s41, chS_eq, n1, n2]
              exact hY _ _ ⟨_, hs, rfl, rfl, by simp; omega, rfl⟩
            · have hs : stepP (N, h, a) c = none := by unfold stepP; rw [if_neg c1, if_neg d1, if_neg d2, if_neg d3]
              rw [hs] at hrun2; cases hrun2
    · rintro σ1 M1 ⟨s, hs, rfl, rfl, hl1, hc1⟩
      rw [hs] at hrun2
      simp
      exact hN2 _ _ ⟨s, _, _, _, by rw [hc1], rfl, hrun2, hl1⟩
  · rintro σ M' ⟨⟨N, h, a⟩, x, y, w, rfl, rfl, hrun, hN⟩
    rw [len, List.drop_length] at hrun
    have eF : (N, h, a) = F := Option.some.inj hrun
    subst eF
    simp only at hf hl hq
    have hl2 : ¬ ((20000 : Int) < N.length) := by omega
    simp only [sSq_ap]
    by_cases z0 : z = ""
    · simp [z0, hl2]
      exact Fg.le (Le.new hp) hq
    · have hne : z.cps.toList ≠ [] := fun e => z0 (str_eq (by rw [e]; rfl))
      obtain ⟨f1, f2⟩ := hf hne
      simp [z0, hl2, s32, chS_eq, f1, f2]
      exact Fg.le (Le.new hp) hq
end T

/-! V: written texts are read back. -/
namespace T
open PySem PySem.Spec PyProof.Rows L2
def plainC (c : Nat) : Prop := c ≠ 32 ∧ c ≠ 40 ∧ c ≠ 41
theorem mk_plain {c : Nat} (h : isMk (.str (chS c)) = true) : plainC c := by
  refine ⟨?_, ?_, ?_⟩ <;> (intro e; subst e; revert h; decide +kernel)
theorem step_close {N : Doc} {d a : Nat} (h1 : a ≠ 32) (h2 : a ≠ 40) (hd : 0 < d) : stepP (N, d, a) 41 = some (N, d - 1, 41) := by
  unfold stepP
  rw [if_neg (by simp [h1, h2]), if_neg (by decide), if_pos rfl, if_pos hd]
theorem run_close {N : Doc} {rest : Cps} : ∀ {k d a : Nat}, a ≠ 32 → a ≠ 40 → k ≤ d → ∃ a', a' ≠ 32 ∧ a' ≠ 40 ∧ runP (N, d, a) (List.replicate k 41 ++ rest) = runP (N, d - k, a') rest
  | 0, d, a, h1, h2, _ => ⟨a, h1, h2, by simp⟩
  | k + 1, d, a, h1, h2, hk => by
    obtain ⟨a', e1, e2, e3⟩ := run_close (N := N) (rest := rest) (k := k) (d := d - 1) (a := 41) (by decide) (by decide) (by omega)
    refine ⟨a', e1, e2, ?_⟩
    rw [List.replicate_succ, List.cons_append]
    show (stepP (N, d, a) 41).bind _ = _
    rw [step_close h1 h2 (by omega)]
    show runP (N, d - 1, 41) _ = _
    rw [e3, show d - 1 - k = d - (k + 1) by omega]
theorem run_mark {N : Doc} {d a c : Nat} {rest : Cps} (ha : a = 32 ∨ a = 40) (hc : isMk (.str (chS c)) = true) : runP (N, d, a) (c :: rest) = runP (N ++ [(chS c, d)], d, c) rest := by
  show (stepP (N, d, a) c).bind _ = _
  have : stepP (N, d, a) c = some (N ++ [(chS c, d)], d, c) := by
    unfold stepP
    rw [if_pos ha, if_pos hc]
  rw [this]; rfl
theorem run_sep {N : Doc} {last h m c : Nat} {rest : Cps} (hm : plainC m) (hc : isMk (.str (chS c)) = true) (hl : h ≤ last + 1) : runP (N, last, m) (sepL last h ++ (c :: rest)) = runP (N ++ [(chS c, h)], h, c) rest := by
  unfold sepL
  by_cases q : last < h
  · rw [if_pos q]
    have : h = last + 1 := by omega
    subst this
    show (stepP (N, last, m) 40).bind _ = _
    have e : stepP (N, last, m) 40 = some (N, last + 1, 40) := by
      unfold stepP
      rw [if_neg (by simp [hm.1, hm.2.1]), if_pos rfl, if_pos hm.2.2]
    rw [e]
    exact run_mark (.inr rfl) hc
  · rw [if_neg q]
    obtain ⟨a', e1, e2, e3⟩ := run_close (N := N) (rest := [32] ++ (c :: rest)) (k := last - h) (d := last) (a := m) hm.1 hm.2.1 (by omega)
    rw [List.append_assoc, e3]
    show (stepP (N, last - (last - h), a') 32).bind _ = _
    have e : stepP (N, last - (last - h), a') 32 = some (N, last - (last - h), 32) := by
      unfold stepP
      rw [if_neg (by simp [e1, e2]), if_neg (by decide), if_neg (by decide), if_pos rfl]
    rw [e, show last - (last - h) = h by omega]
    exact run_mark (.inl rfl) hc
theorem mk_chS {z : Str} (h : isMk (.str z) = true) : ∃ c, z = chS c ∧ z.cps.toList = [c] := by
  obtain ⟨c, e⟩ := isMk_cps h
  exact ⟨c, str_eq (by rw [e]; rfl), e⟩
theorem run_body : ∀ {r N : Doc} {last m : Nat}, plainC m → Vd (last + 1) r → ∃ a, a ≠ 32 ∧ runP (N, last, m) (bodyG 0 last r) = some (N ++ r, 0, a)
  | [], N, last, m, hm, _ => by
    obtain ⟨a', e1, e2, e3⟩ := run_close (N := N) (rest := []) (k := last) (d := last) (a := m) hm.1 hm.2.1 (Nat.le_refl _)
    refine ⟨a', e1, ?_⟩
    rw [List.append_nil] at e3
    show runP (N, last, m) (List.replicate (last - 0) 41) = _
    rw [Nat.sub_zero, e3, Nat.sub_self, List.append_nil]
    rfl
  | e :: r, N, last, m, hm, hv => by
    obtain ⟨h1, h2, h3⟩ := hv
    obtain ⟨c, ez, ec⟩ := mk_chS h1
    have hc : isMk (.str (chS c)) = true := by rw [← ez]; exact h1
    obtain ⟨a, q1, q2⟩ := run_body (r := r) (N := N ++ [(chS c, e.2)]) (last := e.2) (m := c) (mk_plain hc) h3
    refine ⟨a, q1, ?_⟩
    show runP (N, last, m) (sepL last e.2 ++ mkL e ++ bodyG 0 e.2 r) = _
    have : mkL e = [c] := ec
    rw [this, List.append_assoc]
    show runP (N, last, m) (sepL last e.2 ++ (c :: bodyG 0 e.2 r)) = _
    rw [run_sep hm hc h2, q2]
    have : e = (chS c, e.2) := by rw [← ez]
    rw [List.append_assoc, ← this]; rfl
/-- THE READ-BACK -/
theorem read_back {x : Doc} (hv : Vd 0 x) : ∃ a, runP ([], 0, 32) (textG 0 x) = some (x, 0, a) ∧ (x ≠ [] → a ≠ 32) := by
  cases x with
  | nil => exact ⟨32, rfl, fun h => absurd rfl h⟩
  | cons e r =>
    obtain ⟨h1, h2, h3⟩ := hv
    have h0 : e.2 = 0 := by omega
    obtain ⟨c, ez, ec⟩ := mk_chS h1
    have hc : isMk (.str (chS c)) = true := by rw [← ez]; exact h1
    obtain ⟨a, q1, q2⟩ := run_body (r := r) (N := [(chS c, 0)]) (last := 0) (m := c) (mk_plain hc) (by rw [h0] at h3; exact h3)
    refine ⟨a, ?_, fun _ => q1⟩
    show runP ([], 0, 32) (mkL e ++ bodyG 0 e.2 r) = _
    have : mkL e = [c] := ec
    rw [this, h0]
    show runP ([], 0, 32) (c :: bodyG 0 0 r) = _
    rw [run_mark (.inl rfl) hc]
    show runP ([(chS c, 0)], 0, c) _ = _
    rw [q2]
    have : e = (chS c, 0) := by rw [← ez, ← h0]
    rw [← this]; rfl
/-! pieces -/
def lowBy (g : Nat) (x : Doc) : Doc := x.map fun e => (e.1, e.2 - g)
theorem sep_low {g a b : Nat} (ha : g ≤ a) (hb : g ≤ b) : sepL (a - g) (b - g) = sepL a b := by
  unfold sepL
  by_cases c : a < b
  · rw [if_pos c, if_pos (by omega)]
  · rw [if_neg c, if_neg (by omega), show a - g - (b - g) = a - b by omega]
theorem body_low {g : Nat} : ∀ {x : Doc} {last : Nat}, g ≤ last → (∀ e ∈ x, g ≤ e.2) → bodyG 0 (last - g) (lowBy g x) = bodyG g last x
  | [], last, h, _ => by
    show List.replicate (last - g - 0) 41 = List.replicate (last - g) 41
    rw [Nat.sub_zero]
  | e :: r, last, h, hx => by
    have he := hx e List.mem_cons_self
    show sepL (last - g) (e.2 - g) ++ mkL e ++ bodyG 0 (e.2 - g) (lowBy g r) = sepL last e.2 ++ mkL e ++ bodyG g e.2 r
    rw [sep_low h he, body_low he fun y hy => hx y (List.mem_cons_of_mem _ hy)]
theorem text_low {g : Nat} {x : Doc} (hx : ∀ e ∈ x, g ≤ e.2) : textG 0 (lowBy g x) = textG g x := by
  cases x with
  | nil => rfl
  | cons e r =>
    show mkL e ++ bodyG 0 (e.2 - g) (lowBy g r) = mkL e ++ bodyG g e.2 r
    rw [body_low (hx e List.mem_cons_self) fun y hy => hx y (List.mem_cons_of_mem _ hy)]
theorem Vd.lowBy {g : Nat} : ∀ {x : Doc} {m : Nat}, Vd m x → g ≤ m → (∀ e ∈ x, g ≤ e.2) → Vd (m - g) (T.lowBy g x)
  | [], _, _, _, _ => trivial
  | e :: r, m, h, hg, hx => by
    have he := hx e List.mem_cons_self
    refine ⟨h.1, by have := h.2.1; show e.2 - g ≤ m - g; omega, ?_⟩
    have q := Vd.lowBy (g := g) h.2.2 (by omega) fun y hy => hx y (List.mem_cons_of_mem _ hy)
    rw [show e.2 + 1 - g = e.2 - g + 1 by omega] at q
    exact q
theorem Vd.take {n : Nat} : ∀ {x : Doc} {m : Nat}, Vd m x → Vd m (x.take n) := by
  induction n with
  | zero => intro x m _; rw [List.take_zero]; trivial
  | succ n ih =>
    intro x m h
    cases x with
    | nil => trivial
    | cons e r => exact ⟨h.1, h.2.1, ih h.2.2⟩
theorem Vd.dropd : ∀ {k : Nat} {x : Doc} {m : Nat}, Vd m x → (hk : k < x.length) → Vd (x[k]).2 (x.drop k)
  | 0, e :: r, m, h, _ => ⟨h.1, Nat.le_refl _, h.2.2⟩
  | k + 1, e :: r, m, h, hk => by
    have := Vd.dropd (k := k) h.2.2 (by simpa using hk)
    simpa using this
/-- the piece of the node k, as a document -/
def subD (d : Doc) (k : Nat) : Doc := T.lowBy (depA d k) (seg d k (endA d k))
theorem sub_ge {d : Doc} {k : Nat} (hk : k < d.length) : ∀ e ∈ seg d k (endA d k), depA d k ≤ e.2 := by
  intro e he
  obtain ⟨c, c1, c2, c3, c4⟩ := seg_mem he
  rw [← depA_at c4]
  by_cases q : c = k
  · subst q; exact Nat.le_refl _
  · exact Nat.le_of_lt ((endA_ok hk).deep c (by omega) c2)
theorem sub_text {d : Doc} {k : Nat} (hk : k < d.length) : textG 0 (subD d k) = TT d k := text_low (sub_ge hk)
theorem sub_vd {d : Doc} (hv : Vd 0 d) {k : Nat} (hk : k < d.length) : Vd 0 (subD d k) := by
  have h1 := Vd.dropd hv hk
  have e : d[k]? = some d[k] := by simp [hk]
  rw [← depA_at e] at h1
  have h2 := Vd.take (n := endA d k - k) h1
  have h3 := Vd.lowBy (g := depA d k) h2 (Nat.le_refl _) (sub_ge hk)
  rw [Nat.sub_self] at h3
  exact h3
theorem sub_len {d : Doc} {k : Nat} (hk : k < d.length) : (subD d k).length = endA d k - k := by
  have := (endA_ok hk).le
  unfold subD T.lowBy seg
  simp; omega
end T

/-! V: rows, segments -/
namespace T
open PySem PySem.Spec PyProof.Rows L2
theorem fm_get2 : ∀ l : List Tr, (List.range l.length).filterMap (fun k => l[k]?) = l
  | [] => rfl
  | x :: r => by
    rw [List.length_cons, List.range_succ_eq_map, List.filterMap_cons]
    simp only [List.getElem?_cons_zero, List.filterMap_map]
    have := fm_get2 r
    congr 1
theorem rg_small {j : Int} (h0 : 0 ≤ j) (h1 : j ≤ 1000000) : Rg j := ⟨by omega, by omega⟩
theorem ch_len {d : Doc} {o : Option Nat} : (chT d o).length ≤ d.length := by
  unfold chT chA
  rw [List.length_map]
  have := List.length_filter_le (fun c => decide (parA d c = o)) (List.range d.length)
  simpa using this
theorem rowI_ch {d : Doc} {k : Nat} (hk : k < d.length) : rowI d k d.length = (chA d (some k)).map natT := by
  unfold rowI chA
  congr 1
  refine List.filter_congr fun c hc => ?_
  have : slotA d c = k ↔ parA d c = some k := by
    unfold slotA
    cases h : parA d c with
    | none => simp; omega
    | some j => simp
  simp [this]
theorem rowI_root {d : Doc} : rowI d d.length d.length = (chA d none).map natT := by
  unfold rowI chA
  congr 1
  refine List.filter_congr fun c hc => ?_
  have hc2 : c < d.length := by simpa using hc
  have : slotA d c = d.length ↔ parA d c = none := by
    unfold slotA
    cases h : parA d c with
    | none => simp
    | some j => have := par_lt h; simp; omega
  simp [this]
theorem seg_snoc {d : Doc} {k j : Nat} (h : k ≤ j) (hj : j < d.length) : seg d k (j + 1) = seg d k j ++ [d[j]] := by
  rw [seg_app (j := j) h (by omega), seg_cons (by omega) hj, seg_nil]
/-- nodes from i to j, the first one as deep as g -/
def reD (d : Doc) (i j g : Nat) : Doc := (seg d i j).map fun e => (e.1, e.2 + g - depA d i)
theorem reD_sub {d : Doc} {k : Nat} : reD d k (endA d k) 0 = subD d k := rfl
theorem seg_len {d : Doc} {i j : Nat} (h : j ≤ d.length) : (seg d i j).length = j - i := by
  unfold seg
  rw [List.length_take, List.length_drop]; omega
theorem reD_len {d : Doc} {i j g : Nat} (h : j ≤ d.length) : (reD d i j g).length = j - i := by
  unfold reD; rw [List.length_map, seg_len h]
theorem isMk_mem {c : Nat} (h : isMk (.str (chS c)) = true) : c ∈ [97, 98, 99, 100, 101, 102, 103, 104] := by
  have h1 := isMk_in h
  unfold strIn at h1
  have e := PySem.StrLaws.found_one "abcdefgh" c
  have e2 : ("abcdefgh" : Str).cps.toList = [97, 98, 99, 100, 101, 102, 103, 104] := by decide
  rw [e2] at e
  have h2 : decide (c ∈ [97, 98, 99, 100, 101, 102, 103, 104]) = true := by rw [← e]; exact h1
  exact of_decide_eq_true h2
theorem mk_nb {z : Str} (h : isMk (.str z) = true) : nbT (.str z) = true := by
  obtain ⟨c, rfl, _⟩ := mk_chS h
  have := isMk_mem h
  simp at this
  rcases this with h | h | h | h | h | h | h | h <;> subst h <;> simp [nbT, PyData.canLay0, PyData.strOk, chS]
theorem Vd.marks : ∀ {d : Doc} {m : Nat}, Vd m d → ∀ e ∈ d, isMk (.str e.1) = true
  | _ :: _, _, h, e, he => by
    rcases List.mem_cons.mp he with rfl | he
    · exact h.1
    · exact Vd.marks h.2.2 e he
theorem doc_nb {d : Doc} {m : Nat} (h : Vd m d) : nbT (docT d) = true ∧ hT (docT d) ≤ 2 := by
  constructor
  · refine nbL_of fun t ht => ?_
    obtain ⟨e, he, rfl⟩ := List.mem_map.mp ht
    show (nbT (.str e.1) && (nbT (.int e.2) && true)) = true
    rw [mk_nb (h.marks e he)]; rfl
  · show hL (d.map entT) + 1 ≤ 2
    have := hL_le (k := 1) (ds := d.map entT) fun t ht => by
      obtain ⟨e, he, rfl⟩ := List.mem_map.mp ht
      exact Nat.le_refl _
    omega
theorem docT_inj {d e : Doc} : docT d = docT e ↔ d = e := by
  refine ⟨fun h => ?_, fun h => by rw [h]⟩
  have h1 : d.map entT = e.map entT := by unfold docT at h; injection h
  refine (List.map_inj_right fun x y hxy => ?_).mp h1
  unfold entT at hxy
  injection hxy with h2
  injection h2 with a b
  injection b with b _
  injection a with a
  injection b with b
  exact Prod.ext a (by omega)
end T

/-! V: nodes lowered -/
namespace T
open PySem PySem.Spec PyProof.Rows L2
def sp_lowered : Sp2 := A4 fun a b c e M Q _ => ∃ (d : Doc) (i j g : Nat), a = docT d ∧ b = .int i ∧ c = .int j ∧ e = .int g ∧ i ≤ j ∧ j ≤ d.length ∧ d.length ≤ 20000 ∧ (∀ x ∈ seg d i j, depA d i ≤ x.2 + g) ∧ Q (docT (reD d i j g)) M
def n_lowered : List Str := "document" :: "begin" :: "end" :: "depth" :: "less" :: "mark" :: "below" :: []
def b_lowered : TS2 := (sSq (sIf (tCm (eOp (rEqG id) (eVar 1) (eVar 2))) (sRt (eTup aNil)) sNx)
  (sSq (sAs (eOp rSub2 (eOp rIx2 (eOp rIx2 (eVar 0) (eVar 1)) (eC (.int 1))) (eVar 3)) (gN 4))
  (sRt (eB rTuple2 (aCons (eLc (iSq (eSl rSl2 (eVar 0) (oPart (eVar 1)) (oPart (eVar 2)))) (gT 2 (gCo (gN 5) (gCo (gN 6) gNil2))) tYes2 (eTup (aCons (eVar 5) (aCons (eOp rSub2 (eVar 6) (eVar 4)) aNil))) [5, 6]) aNil)))))
theorem sem_lowered : ∀ ds M Q E, sp_lowered ds M Q E → b_lowered (fEnds Q E) (start2 n_lowered ds) M := by
  rintro ds M Q E ⟨a, b, c, e, rfl, d, i, j, g, rfl, rfl, rfl, rfl, hij, hj, hl, hx, hq⟩
  simp only [b_lowered, start2, n_lowered]
  by_cases c : i = j
  · subst c
    have e0 : reD d i i g = [] := by unfold reD; rw [seg_nil]; rfl
    rw [e0] at hq
    simp
    exact Fg.same hq
  have ne : ¬ ((i : Int) = (j : Int)) := by omega
  have es : cutT (d.map entT) (some (i : Int)) (some (j : Int)) = (seg d i j).map entT := by
    rw [cutT_both]; simp [seg]
  have hi : i < d.length := by omega
  have sl := seg_len (d := d) (i := i) hj
  have ls : ((seg d i j).map entT).length = (reD d i j g).length := by simp [reD]
  simp [ne, docT, ↓kAt_doc hi]
  rw [es]
  refine fun p hp => lc_fmL (fun k => ((reD d i j g).map entT)[k]?) (by simp; omega) (fun M' _ => by rw [← es]) ?_ ?_
  · have e2 := fm_get2 ((reD d i j g).map entT)
    rw [List.length_map] at e2
    rw [ls, e2]
    simp
    exact Fg.le (Le.new hp) hq
  · intro k e M' he fr KY KN q1 q2
    rw [List.getElem?_map] at he
    cases hc : (seg d i j)[k]? with
    | none => rw [hc] at he; cases he
    | some en =>
      rw [hc] at he
      cases he
      have hge := hx en (List.mem_of_getElem? hc)
      simp [entT, wipe2]
      refine q1 _ ?_
      unfold reD
      rw [List.getElem?_map, List.getElem?_map, hc]
      simp [entT]
      omega
end T

/-! V: pieces, written and read documents. -/
namespace T
open PySem PySem.Spec PyProof.Rows L2
def sp_need_node : Sp2 := A2 fun a b M Q _ => ∃ (d : Doc) (k : Nat), a = docT d ∧ b = .int k ∧ k < d.length ∧ Q .non M
def n_need_node : List Str := "document" :: "node" :: []
def b_need_node : TS2 := (sIf (tNo (tTr (eCall sp_is_below [] (aCons (eVar 1) (aCons (eB rLen2 (aCons (eVar 0) aNil)) aNil))))) sNv sNx)
theorem sem_need_node : ∀ ds M Q E, sp_need_node ds M Q E → b_need_node (fEnds Q E) (start2 n_need_node ds) M := by
  rintro ds M Q E ⟨a, b, rfl, d, k, rfl, rfl, hk, hq⟩
  simp only [b_need_node, start2, n_need_node]
  simp [docT]
  refine ⟨_, _, rfl, "int", d.length, rfl, rfl, ?_⟩
  have e : blw (.int k) (d.length : Int) = true := by simp; omega
  rw [e]
  simp
  exact Fg.same hq
def sp_write_document : Sp2 := A1 fun a M Q _ => ∃ d, a = docT d ∧ Val d ∧ d.length ≤ 2000 ∧ Q (.str (sOf (textG 0 d))) M
def n_write_document : List Str := "document" :: []
def b_write_document : TS2 := (sSq (sDr (eCall sp_need_document [] (aCons (eVar 0) aNil)))
  (sRt (eCall sp_text_of [] (aCons (eVar 0) aNil))))
theorem sem_write_document : ∀ ds M Q E, sp_write_document ds M Q E → b_write_document (fEnds Q E) (start2 n_write_document ds) M := by
  rintro ds M Q E ⟨a, rfl, d, rfl, hv, hl, hq⟩
  simp only [b_write_document, start2, n_write_document]
  simp
  refine ⟨_, rfl, d, rfl, hv, ?_⟩
  simp
  exact ⟨_, rfl, d, rfl, hv, Fg.same hq⟩
/-- a text that a document wrote is read -/
def sp_read_document : Sp2 := A1 fun a M Q _ => ∃ d, a = .str (sOf (textG 0 d)) ∧ Val d ∧ (textG 0 d).length ≤ 1000000 ∧ Q (docT d) M
def n_read_document : List Str := "text" :: []
def b_read_document : TS2 := (sSq (sIf (tNo (tTr (eB rIsi2 (aCons (eVar 0) (aCons (eC (.ty "str")) aNil))))) sNv sNx)
  (sRt (eCall sp_forest_in [] (aCons (eVar 0) aNil))))
theorem sem_read_document : ∀ ds M Q E, sp_read_document ds M Q E → b_read_document (fEnds Q E) (start2 n_read_document ds) M := by
  rintro ds M Q E ⟨a, rfl, d, rfl, ⟨hv, hl⟩, ht, hq⟩
  have kb : kitB "str" "str" = some true := rfl
  obtain ⟨a, h1, h2⟩ := read_back hv
  simp only [b_read_document, start2, n_read_document]
  simp [↓kY_of (d := .str (sOf (textG 0 d))) (M := M) rfl kb]
  refine ⟨_, rfl, sOf (textG 0 d), (d, 0, a), rfl, by rw [sOf_cps]; exact h1, fun h => ⟨h2 fun e => h (by rw [e, sOf_cps]; rfl), rfl⟩, hl, by rw [len_cps, sOf_cps]; exact ht, Fg.same hq⟩
def sp_piece_of : Sp2 := A2 fun a b M Q _ => ∃ (d : Doc) (k : Nat), a = docT d ∧ b = .int k ∧ Val d ∧ k < d.length ∧ Q (docT (subD d k)) M
def n_piece_of : List Str := "document" :: "node" :: []
def b_piece_of : TS2 := (sSq (sDr (eCall sp_need_document [] (aCons (eVar 0) aNil)))
  (sSq (sDr (eCall sp_need_node [] (aCons (eVar 0) (aCons (eVar 1) aNil))))
  (sRt (eCall sp_lowered [] (aCons (eVar 0) (aCons (eVar 1) (aCons (eCall sp_end_of [] (aCons (eVar 0) (aCons (eVar 1) aNil))) (aCons (eC (.int 0)) aNil))))))))
theorem sem_piece_of : ∀ ds M Q E, sp_piece_of ds M Q E → b_piece_of (fEnds Q E) (start2 n_piece_of ds) M := by
  rintro ds M Q E ⟨a, b, rfl, d, k, rfl, rfl, hv, hk, hq⟩
  simp only [b_piece_of, start2, n_piece_of]
  simp
  refine ⟨_, rfl, d, rfl, hv, ?_⟩
  simp
  refine ⟨_, _, rfl, d, k, rfl, rfl, hk, ?_⟩
  simp
  refine ⟨_, _, rfl, d, k, rfl, rfl, hk, ?_⟩
  simp
  have E1 := endA_ok hk
  exact ⟨_, _, _, _, rfl, d, k, endA d k, 0, rfl, rfl, rfl, rfl, Nat.le_of_lt E1.lt, E1.le, hv.2, fun x hx => sub_ge hk x hx, Fg.same (by rw [reD_sub]; exact hq)⟩
end T


/-! V: the law's own texts. -/
namespace T
open PySem PySem.Spec PyProof.Rows L2
theorem body_len {g B : Nat} : ∀ {x : Doc} {last : Nat}, last ≤ B → (∀ e ∈ x, e.2 ≤ B ∧ (mkL e).length ≤ 1) → (bodyG g last x).length ≤ (x.length + 1) * (B + 2)
  | [], last, h, _ => by
    show (List.replicate (last - g) 41).length ≤ _
    rw [List.length_replicate]
    simp; omega
  | e :: r, last, h, hx => by
    obtain ⟨h1, h2⟩ := hx e List.mem_cons_self
    have ih := body_len (g := g) (x := r) (last := e.2) h1 fun y hy => hx y (List.mem_cons_of_mem _ hy)
    have hs : (sepL last e.2).length ≤ B + 1 := by
      unfold sepL
      split
      · simp
      · simp; omega
    show (sepL last e.2 ++ mkL e ++ bodyG g e.2 r).length ≤ _
    rw [List.length_append, List.length_append, List.length_cons, Nat.add_mul (r.length + 1)]
    omega
theorem mkL_len {d : Doc} (hv : Vd 0 d) {i : Nat} {e : Str × Nat} (h : d[i]? = some e) : (mkL e).length ≤ 1 := by
  obtain ⟨c, hc⟩ := isMk_cps (hv.dep i e h).1
  unfold mkL
  rw [hc]; simp
theorem TT_len {d : Doc} (hv : Vd 0 d) (hl : d.length ≤ 200) {k : Nat} (hk : k < d.length) : (TT d k).length ≤ 50000 := by
  have hx : ∀ e ∈ seg d k (endA d k), e.2 ≤ 200 ∧ (mkL e).length ≤ 1 := fun e he => by
    obtain ⟨c, c1, c2, c3, c4⟩ := seg_mem he
    refine ⟨?_, mkL_len hv c4⟩
    have := Val.dep_lt hv c3
    rw [depA_at c4] at this
    omega
  have E := endA_ok hk
  have h1 := E.lt
  have h2 := E.le
  have hsl : (seg d k (endA d k)).length ≤ 200 := by unfold seg; simp; omega
  unfold TT segT
  cases hsg : seg d k (endA d k) with
  | nil => exact Nat.zero_le _
  | cons e r =>
    rw [hsg] at hx hsl
    obtain ⟨a, b⟩ := hx e List.mem_cons_self
    have := body_len (g := depA d k) (x := r) (last := e.2) a fun y hy => hx y (List.mem_cons_of_mem _ hy)
    show (mkL e ++ bodyG _ e.2 r).length ≤ _
    rw [List.length_append]
    rw [List.length_cons] at hsl
    have h3 : (r.length + 1) * (200 + 2) ≤ 200 * 202 := Nat.mul_le_mul (by omega) (by omega)
    omega
theorem join32 : ∀ ys : List Str, (Txt.join " " ys).cps.toList = jn (ys.map fun y => y.cps.toList) := by
  have k32 : ((" " : String) : Str).cps.toList = [32] := by decide
  intro ys
  rw [TL.join_eq]
  induction ys with
  | nil => rfl
  | cons x r ih =>
    cases r with
    | nil => rfl
    | cons y r =>
      show (x ++ " " ++ Str.join " " (y :: r)).cps.toList = _
      rw [cps_app, cps_app, ih, k32]
      rfl
def txtT (d : Doc) (i : Nat) : List Tr := (List.range d.length).map fun k => .str (if d.length - i ≤ k then sOf (TT d k) else "")
def sp__law_texts : Sp2 := A2 fun a b M Q _ => ∃ (d : Doc) (p : Addr) (qs : List Addr), a = docT d ∧ b = .loc p ∧ Val d ∧ d.length ≤ 200 ∧ M p = some (.lst (qs.map .loc)) ∧ qs.length = d.length + 1 ∧ (∀ k q, qs[k]? = some q → M q = some (.lst (rowI d k d.length))) ∧
  ∀ g, M g = none → Q (.loc g) (up M g (.lst (txtT d d.length)))
def n__law_texts : List Str := "document" :: "rows" :: "got" :: "back" :: "node" :: "inner" :: "child" :: []
def b__law_texts : TS2 := (sSq (sAs (eLc (iSq (eVar 0)) (gN 4) tYes2 (eC (.str "")) [4]) (gN 2))
  (sSq (sFo (iRg1 (aCons (eB rLen2 (aCons (eVar 0) aNil)) aNil)) (gN 3) (sSq (sAs (eOp rSub2 (eOp rSub2 (eB rLen2 (aCons (eVar 0) aNil)) (eC (.int 1))) (eVar 3)) (gN 4))
  (sSq (sAs (eM1 rJoin2 (eC (.str " ")) (eLc (iSq (eOp rIx2 (eVar 1) (eVar 4))) (gN 6) tYes2 (eOp rIx2 (eVar 2) (eVar 6)) [6])) (gN 5))
  (sAs (eOp rAdd2 (eOp rIx2 (eOp rIx2 (eVar 0) (eVar 4)) (eC (.int 0))) (eIf (tCm (eOp (rEqG not) (eOp rIx2 (eVar 1) (eVar 4)) (eLst aNil))) (eOp rAdd2 (eOp rAdd2 (eC (.str "(")) (eVar 5)) (eC (.str ")"))) (eC (.str "")))) (gSb rPut2 (eVar 2) (eVar 4))))))
  (sRt (eVar 2))))
theorem sem__law_texts : ∀ ds M Q E, sp__law_texts ds M Q E → b__law_texts (fEnds Q E) (start2 n__law_texts ds) M := by
  rintro ds M Q E ⟨a, b, rfl, d, p, qs, rfl, rfl, ⟨hv, _⟩, hl, hp, hqs, hrow, hq⟩
  have k40 : (("(" : String) : Str).cps.toList = [40] := by decide
  have k41 : ((")" : String) : Str).cps.toList = [41] := by decide
  simp only [b__law_texts, start2, n__law_texts]
  have lm : (d.map entT).length = d.length := List.length_map ..
  simp [docT]
  refine fun g hg => lc_fmL (fun k => some (.str "")) (by omega) (fun M' _ => rfl) ?_ ?_
  rotate_left
  · intro i e M' he fr KY KN h1 h2
    obtain ⟨en, hen, rfl⟩ := ent_at he
    simp [wipe2, entT]
    exact h1 _ rfl
  have e0 : ∀ n, n = d.length → (List.range n).filterMap (fun k => some (Tr.str "")) = txtT d 0 := fun n hn => by
    rw [fm_all, hn]
    unfold txtT
    refine List.map_congr_left fun k hk => ?_
    have : k < d.length := by simpa using hk
    rw [if_neg (by omega)]
  rw [e0 _ lm]
  simp
  refine ⟨rg_small (by omega) (by omega), for_itR (fun i σ M' => ∃ (x y z w : Option Tr), σ = [some (docT d), some (.loc p), some (.loc g), x, y, z, w] ∧ M' g = some (.lst (txtT d i)) ∧ ∀ a o, M a = some o → M' a = some o) ⟨none, none, none, none, rfl, up_same, fun a o h => by rw [up_ne (m_ne h hg)]; exact h⟩ ?_ ?_⟩
  · rintro i σ M' hi ⟨x, y, z, w, rfl, eg, fr⟩
    rw [lm] at hi
    have hk : d.length - 1 - i < d.length := by omega
    have ek : ((d.length : Int) - 1 - (i : Int)) = ((d.length - 1 - i : Nat) : Int) := by omega
    generalize hkk : d.length - 1 - i = k at hk ek
    have hqk : k < qs.length := by omega
    have eqk : qs[k]? = some qs[k] := by simp [hqk]
    have hr := fr _ _ (hrow k _ eqk)
    have eloc : (qs.map Tr.loc)[k]? = some (.loc qs[k]) := by simp [hqk]
    have hp' := fr _ _ hp
    rw [rowI_ch hk] at hr
    have chlt : ∀ c ∈ chA d (some k), k < c ∧ c < d.length := fun c hc => by
      unfold chA at hc
      rw [List.mem_filter] at hc
      have h1 : c < d.length := by simpa using hc.1
      have h2 : parA d c = some k := by simpa using hc.2
      exact ⟨par_lt h2, h1⟩
    have tat : ∀ c, c < d.length → (txtT d i)[c]? = some (.str (if d.length - i ≤ c then sOf (TT d c) else "")) := fun c hc => by unfold txtT; simp [hc]
    simp only [gN_3]
    refine nx_cut fun NX hN => ?_
    refine seq_cut (fun σ1 M1 => M1 = M' ∧ σ1 = [some (docT d), some (.loc p), some (.loc g), some (.int i), some (.int k), z, w]) (fun N1 h1 => ?_) ?_
    · simp [docT, lm, ek]
      exact h1 _ _ ⟨rfl, rfl⟩
    rintro σ1 M1 ⟨rfl, rfl⟩
    have gp2 : ∀ q, M1 q = none → M q = none := fun q hq1 => by
      cases z : M q with
      | none => rfl
      | some o => rw [fr q o z] at hq1; cases hq1
    refine seq_cut (fun σ1 M2 => (∀ a o, M1 a = some o → M2 a = some o) ∧ σ1 = [some (docT d), some (.loc p), some (.loc g), some (.int i), some (.int k), some (.str (sOf (jn ((chA d (some k)).map (TT d))))), w]) (fun N1 h1 => ?_) ?_
    · simp [hp', ↓kAt_get eloc, hr]
      refine fun q hq1 => lc_fmL (fun j => ((chA d (some k)).map fun c => Tr.str (sOf (TT d c)))[j]?) ?_ (fun M2 fr2 => seqT_lst (by rw [fr2 _ (m_ne hr hq1)]; exact hr)) ?_ ?_
      · rw [List.length_map]
        have := @ch_len d (some k)
        unfold chT at this
        rw [List.length_map] at this
        omega
      · have e2 := fm_get2 ((chA d (some k)).map fun c => Tr.str (sOf (TT d c)))
        rw [List.length_map] at e2
        rw [List.length_map, e2]
        simp
        refine ⟨(chA d (some k)).map fun c => sOf (TT d c), seqT_lst (by rw [up_same, List.map_map]; rfl), ?_, ?_⟩
        · have hs := sum_le (k := 50000) (ys := (chA d (some k)).map fun c => sOf (TT d c)) fun y hy => by
            obtain ⟨c, hc, rfl⟩ := List.mem_map.mp hy
            rw [len_cps, sOf_cps]
            exact TT_len hv hl (chlt c hc).2
          have := @ch_len d (some k)
          unfold chT at this
          rw [List.length_map] at this hs
          have l1 : ((" " : String) : Str).length = 1 := rfl
          rw [List.length_map, l1]
          have h3 : (chA d (some k)).length * 50000 ≤ 200 * 50000 := Nat.mul_le_mul (by omega) (Nat.le_refl _)
          omega
        · have ej : Txt.join " " ((chA d (some k)).map fun c => sOf (TT d c)) = sOf (jn ((chA d (some k)).map (TT d))) := str_eq (by
            have e3 : ((chA d (some k)).map fun c => sOf (TT d c)).map (fun y => y.cps.toList) = (chA d (some k)).map (TT d) := by
              rw [List.map_map]
              exact List.map_congr_left fun c _ => sOf_cps
            rw [join32, sOf_cps, e3])
          rw [ej]
          exact h1 _ _ ⟨fun a o h => by rw [up_ne (m_ne h hq1)]; exact h, rfl⟩
      · intro j e M2 he fr2 KY KN q1 q2
        rw [List.getElem?_map] at he
        cases hc : (chA d (some k))[j]? with
        | none => rw [hc] at he; cases he
        | some c =>
          rw [hc] at he
          cases he
          have hcm := chlt c (List.mem_of_getElem? hc)
          have eg2 : M2 g = some (.lst (txtT d i)) := by rw [fr2 _ (m_ne eg hq1)]; exact eg
          have et := tat c hcm.2
          rw [if_pos (by omega)] at et
          simp [wipe2, eg2, ↓kAt_get et]
          refine q1 _ ?_
          rw [List.getElem?_map, hc]; rfl
    rintro σ1 M2 ⟨fr2, rfl⟩
    have hp2 := fr2 _ _ hp'
    have hr2 := fr2 _ _ hr
    have eg2 := fr2 _ _ eg
    have mkc : ∀ (z : Str) (M3 : Ms), z = sOf (TT d k) → (∀ a o, M a = some o → M3 a = some o) → NX [some (docT d), some (.loc p), some (.loc g), some (.int i), some (.int k), some (.str (sOf (jn ((chA d (some k)).map (TT d))))), w] (up M3 g (.lst ((txtT d i).set k (.str z)))) := fun z M3 hz fr3 => by
      refine hN _ _ ⟨_, _, _, _, rfl, ?_, fun a o h => ?_⟩
      · rw [up_same, hz]
        congr 2
        apply List.ext_getElem?
        intro j
        rw [List.getElem?_set]
        unfold txtT
        by_cases hj : j < d.length
        · by_cases ekj : k = j
          · subst ekj
            rw [if_pos rfl, if_pos (by simpa using hk), List.getElem?_map, List.getElem?_range hk]
            simp only [Option.map_some]
            rw [if_pos (by omega)]
          · rw [if_neg ekj, List.getElem?_map, List.getElem?_map, List.getElem?_range hj]
            simp only [Option.map_some]
            by_cases cj : d.length - i ≤ j
            · rw [if_pos cj, if_pos (by omega)]
            · rw [if_neg cj, if_neg (by omega)]
        · rw [if_neg (by omega), List.getElem?_eq_none (by simp; omega), List.getElem?_eq_none (by simp; omega)]
      · rw [up_ne (m_ne h hg)]; exact fr3 a o h
    have hmk := (hv.dep k d[k] (by simp [hk])).1
    obtain ⟨ch, hch⟩ := isMk_cps hmk
    have l1 : d[k].1.length = 1 := by rw [len_cps, hch]; rfl
    have l40 : (("(" : String) : Str).length = 1 := rfl
    have l41 : ((")" : String) : Str).length = 1 := rfl
    have tre := TT_rec hv hk
    have tl := TT_len hv hl hk
    have txl : (txtT d i).length = d.length := by simp [txtT]
    simp [docT, ↓kAt_doc hk, hp2, ↓kAt_get eloc, hr2]
    intro q hq2
    have mq : M q = none := gp2 q (by
      cases z : M1 q with
      | none => rfl
      | some o => rw [fr2 q o z] at hq2; cases hq2)
    have nq : ∀ a o, M2 a = some o → up M2 q (.lst []) a = some o := fun a o h => by rw [up_ne (m_ne h hq2)]; exact h
    have fr3 : ∀ a o, M a = some o → up M2 q (.lst []) a = some o := fun a o h => nq a o (fr2 a o (fr a o h))
    have eg3 := nq _ _ eg2
    simp only [rEqG_ll]
    refine eqS_ints ((chA d (some k)).map fun (c : Nat) => (c : Int)) [] (by rw [nq _ _ hr2, List.map_map]; rfl) up_same ?_
    by_cases hc : chA d (some k) = []
    · have ez : d[k].1 ++ "" = sOf (TT d k) := str_eq (by
        rw [cps_app, sOf_cps, tre, if_pos hc]
        have : (("" : String) : Str).cps.toList = [] := rfl
        rw [this]; rfl)
      simp [hc, eg3, txl, ↓kIx_nat hk]
      refine ⟨by rw [l1]; exact small_line (by decide), ?_⟩
      have := mkc _ _ ez fr3
      rw [hc] at this
      exact this
    · rw [if_neg hc] at tre
      have jl : (jn ((chA d (some k)).map (TT d))).length ≤ 50000 := by
        rw [tre] at tl
        simp at tl
        omega
      have jl2 : (sOf (jn ((chA d (some k)).map (TT d)))).length ≤ 50000 := by rw [len_cps, sOf_cps]; exact jl
      have ez : d[k].1 ++ ("(" ++ sOf (jn ((chA d (some k)).map (TT d))) ++ ")") = sOf (TT d k) := str_eq (by
        rw [cps_app, cps_app, cps_app, sOf_cps, sOf_cps, tre, k40, k41]; rfl)
      have e1 : ("(" ++ sOf (jn ((chA d (some k)).map (TT d))) : Str).length = 1 + (sOf (jn ((chA d (some k)).map (TT d)))).length := by
        rw [len_cps, cps_app, k40, len_cps]; simp; omega
      have e2 : ("(" ++ sOf (jn ((chA d (some k)).map (TT d))) ++ ")" : Str).length = 2 + (sOf (jn ((chA d (some k)).map (TT d)))).length := by
        rw [len_cps, cps_app, cps_app, k40, k41, len_cps]; simp; omega
      simp [hc, eg3, txl, ↓kIx_nat hk]
      have sz : ∀ n : Nat, n ≤ 50010 → n ≤ sizeLine := fun n hn => by rw [sizeLine_eq]; omega
      exact ⟨sz _ (by rw [l40]; omega), sz _ (by rw [e1, l41]; omega), sz _ (by rw [l1, e2]; omega), mkc _ _ ez fr3⟩
  · rintro σ M' ⟨x, y, z, w, rfl, eg, fr⟩
    rw [lm] at eg
    simp
    refine Fg.le (M := up M g (.lst (txtT d d.length))) (fun a u e => ?_) (hq g hg)
    by_cases c : a = g
    · subst c; rw [up_same] at e; rw [← e]; exact eg
    · rw [up_ne c] at e; exact fr a u e
end T

/-! V: the law's own piece. -/
namespace T
open PySem PySem.Spec PyProof.Rows L2
def sp__law_piece : Sp2 := A2 fun a b M Q _ => ∃ (d : Doc) (k : Nat), a = docT d ∧ b = .int k ∧ d.length ≤ 20000 ∧ k < d.length ∧ Q (docT (subD d k)) M
def n__law_piece : List Str := "document" :: "node" :: "less" :: "got" :: "mark" :: "depth" :: []
def b__law_piece : TS2 := (sSq (sAs (eOp rIx2 (eOp rIx2 (eVar 0) (eVar 1)) (eC (.int 1))) (gN 2))
  (sSq (sAs (eLst (aCons (eTup (aCons (eOp rIx2 (eOp rIx2 (eVar 0) (eVar 1)) (eC (.int 0))) (aCons (eC (.int 0)) aNil))) aNil)) (gN 3))
  (sSq (sFo (iSq (eSl rSl2 (eVar 0) (oPart (eOp rAdd2 (eVar 1) (eC (.int 1)))) oNo)) (gT 2 (gCo (gN 4) (gCo (gN 5) gNil2))) (sSq (sIf (tCm (eOp rLeI (eVar 5) (eVar 2))) sBk sNx)
  (sDr (eM "list" rApp2 (eVar 3) (aCons (eTup (aCons (eVar 4) (aCons (eOp rSub2 (eVar 5) (eVar 2)) aNil))) aNil)))))
  (sRt (eB rTuple2 (aCons (eVar 3) aNil))))))
theorem sem__law_piece : ∀ ds M Q E, sp__law_piece ds M Q E → b__law_piece (fEnds Q E) (start2 n__law_piece ds) M := by
  rintro ds M Q E ⟨a, b, rfl, d, k, rfl, rfl, hl, hk, hq⟩
  have ec : cutT (d.map entT) (some ((k : Int) + 1)) none = (d.map entT).drop (k + 1) := by rw [← cutT_lo]; rfl
  have l1 : 1 ≤ sizeLine := small_line (by decide)
  have l2 : 2 ≤ sizeLine := small_line (by decide)
  have hdk : (d[k]).2 = depA d k := (depA_at (by simp [hk])).symm
  simp only [b__law_piece, start2, n__law_piece]
  simp [docT, ↓kAt_doc hk, l1, l2]
  intro p hp
  have s0 : [Tr.tup [.str d[k].1, .int 0]] = (lowBy (depA d k) (seg d k (k + 1))).map entT := by
    rw [seg_snoc (Nat.le_refl _) hk, seg_nil]
    simp [lowBy, entT, hdk]
  rw [s0]
  have fin : ∀ (x y : Option Tr) (M1 : Ms), (∀ a o, M a = some o → M1 a = some o) → M1 p = some (.lst ((subD d k).map entT)) → sRt (eB rTuple2 (aCons (eVar 3) aNil)) (fEnds Q E) [some (docT d), some (.int k), some (.int (depA d k)), some (.loc p), x, y] M1 := fun x y M1 fr ep => by
    simp [ep]
    exact Fg.le fr hq
  simp [docT]
  rw [ec]
  refine for_itL (fun i σ M' => k + 1 + i ≤ d.length ∧ (∀ j, k < j → j < k + 1 + i → depA d k < depA d j) ∧ ∃ x y, σ = [some (docT d), some (.int k), some (.int (depA d k)), some (.loc p), x, y] ∧ (∀ a o, M a = some o → M' a = some o) ∧ M' p = some (.lst ((lowBy (depA d k) (seg d k (k + 1 + i))).map entT))) ?_ ?_ ?_ ?_
  · exact ⟨by omega, fun j a b => by omega, none, none, rfl, fun a o h => by rw [up_ne (m_ne h hp)]; exact h, up_same⟩
  · rintro i σ M' _ _
    rfl
  · rintro i e σ M' he ⟨h1, h2, x, y, rfl, fr, ep⟩
    rw [List.getElem?_drop] at he
    obtain ⟨en, hen, rfl⟩ := ent_at he
    have hi : k + 1 + i < d.length := (List.getElem?_eq_some_iff.mp hen).1
    have hden : d[k + 1 + i] = en := by
      have : d[k + 1 + i]? = some d[k + 1 + i] := by simp [hi]
      rw [this] at hen; exact Option.some.inj hen
    have hz : (lowBy (depA d k) (seg d k (k + 1 + i))).length < sizeLine := small_lt (by unfold lowBy seg; simp; omega)
    by_cases c : depA d (k + 1 + i) ≤ depA d k
    · have e := (show IsEnd d k (k + 1 + i) from ⟨by omega, by omega, h2, fun _ => c⟩).eq
      have ep2 : M' p = some (.lst ((subD d k).map entT)) := by unfold subD; rw [← e]; exact ep
      have := fin (some (.str en.1)) (some (.int (depA d (k + 1 + i)))) M' fr ep2
      simp [docT, ep2] at this
      simp [docT, c, ep2]
      exact this
    · simp only [gT_ap, gCo_ap, gN_4, gN_5, gNil2_ap, List.length_cons, List.length_nil, true_and]
      refine nx_cut fun NX hN => ?_
      simp [docT, c, ep, l2, hz]
      refine hN _ _ ⟨by omega, fun j a b => ?_, _, _, rfl, fun a o h => by rw [up_ne (m_ne h hp)]; exact fr a o h, ?_⟩
      · by_cases q : j = k + 1 + i
        · subst q; omega
        · exact h2 j a (by omega)
      · rw [up_same]
        have e1 : k + 1 + (i + 1) = (k + 1 + i) + 1 := by omega
        rw [e1, seg_snoc (by omega) hi, hden]
        have e2 : ((en.2 - depA d k : Nat) : Int) = (depA d (k + 1 + i) : Int) - (depA d k : Int) := by
          rw [depA_at hen]
          rw [depA_at hen] at c
          omega
        simp [lowBy, entT, e2]
  · rintro σ M' ⟨h1, h2, x, y, rfl, fr, ep⟩
    simp at h1 h2 ep
    have e := (show IsEnd d k d.length from ⟨by omega, by omega, fun j a b => h2 j a (by omega), fun h => absurd h (Nat.lt_irrefl _)⟩).eq
    refine fin x y M' fr ?_
    unfold subD
    rw [← e, ep]
    have : k + 1 + (d.length - (k + 1)) = d.length := by omega
    simp [this]
end T

/-! V: texts of documents as data. -/
namespace T
open PySem PySem.Spec PyProof.Rows L2
/-- an entry of a document as data -/
def entOkV (t : Tr) : Prop := ∃ (z : Str) (k : Nat), t = .tup [.str z, .int k] ∧ isMk (.str z) = true ∧ k ≤ 1000000
theorem entOk_sh {t : Tr} (h : entOkV t) : (toP t).showable = true ∧ (toP t).hasDict = false ∧ (toP t).depth = 1 ∧ (toP t).shown.length ≤ 4000 ∧ pureT t = true := by
  obtain ⟨z, k, rfl, hz, hk⟩ := h
  obtain ⟨c, rfl, _⟩ := mk_chS hz
  have hc := isMk_mem hz
  have hsm := log_small (i := (k : Int)) (by omega) (by omega)
  refine ⟨?_, rfl, rfl, ?_, rfl⟩
  · show (true && (decide ((k : Int).natAbs.log2 < 1920) && true)) = true
    rw [decide_eq_true hsm]; rfl
  · show (tupleText [reprText (chS c), Str.ofString (toString (k : Int))]).length ≤ _
    have h1 : (reprText (chS c)).length ≤ 12 := by
      have := PySem.StrLaws.reprText_len (chS c) (fun x hx => by
        have : x = c := by simpa [chS] using hx
        subst this
        simp at hc
        omega)
      have l : (chS c).length = 1 := rfl
      omega
    have h2 := int_text_len_1921 hsm
    have := tupleText_le (k := 1921) (ts := [reprText (chS c), Str.ofString (toString (k : Int))]) fun t ht => by
      simp at ht
      rcases ht with rfl | rfl
      · omega
      · exact h2
    simp only [List.length_cons, List.length_nil] at this
    omega
theorem entL {l : List Tr} (h : ∀ t ∈ l, entOkV t) : PyData.showableAll (toPs l) = true ∧ PyData.hasDictAll (toPs l) = false ∧ PyData.depthAll (toPs l) ≤ 1 ∧ pureL l = true := by
  induction l with
  | nil => exact ⟨rfl, rfl, Nat.zero_le _, rfl⟩
  | cons t r ih =>
    obtain ⟨a, b, c, d, e⟩ := entOk_sh (h t List.mem_cons_self)
    obtain ⟨a', b', c', e'⟩ := ih fun x hx => h x (List.mem_cons_of_mem _ hx)
    refine ⟨?_, ?_, ?_, ?_⟩
    · show ((toP t).showable && PyData.showableAll (toPs r)) = true
      rw [a, a']; rfl
    · show ((toP t).hasDict || PyData.hasDictAll (toPs r)) = false
      rw [b, b']; rfl
    · show max (toP t).depth (PyData.depthAll (toPs r)) ≤ 1
      rw [c]; omega
    · show (pureT t && pureL r) = true
      rw [e, e']; rfl
theorem doc_ents {d : Doc} (hv : Vd 0 d) (hl : d.length ≤ 1000000) : ∀ t ∈ d.map entT, entOkV t := by
  intro t ht
  obtain ⟨e, he, rfl⟩ := List.mem_map.mp ht
  obtain ⟨i, hi, rfl⟩ := List.getElem_of_mem he
  have e1 : d[i]? = some d[i] := by simp [hi]
  have := Val.dep_lt hv hi
  rw [depA_at e1] at this
  exact ⟨_, _, rfl, (hv.dep i _ e1).1, by omega⟩
theorem reprS_doc {d : Doc} {M : Ms} {Q : Q2} {fx : Fx Q} (hv : Vd 0 d) (hl : d.length ≤ 1000) (hq : Q (.str (toP (docT d)).shown) M) : ReprS (docT d) M Q fx := by
  obtain ⟨a, b, c, e⟩ := entL (doc_ents hv (by omega))
  refine ⟨toP (docT d), dat_pure e, a, b, ?_, ?_, hq⟩
  · show PyData.depthAll (toPs (d.map entT)) + 1 ≤ 50
    omega
  · show (tupleText (PyData.shownAll (toPs (d.map entT)))).length ≤ _
    rw [shownAll_eq]
    have := tupleText_le (k := 4000) (ts := (d.map entT).map fun t => (toP t).shown) fun t ht => by
      obtain ⟨x, hx, rfl⟩ := List.mem_map.mp ht
      exact (entOk_sh (doc_ents hv (by omega) x hx)).2.2.2.1
    rw [List.length_map, List.length_map] at this
    have h3 : d.length * (4000 + 2) ≤ 1000 * 4002 := Nat.mul_le_mul hl (Nat.le_refl _)
    rw [sizeLine_eq]
    omega
end T

/-! V: documents told the other way round: the order of the nodes. -/
namespace T
open PySem PySem.Spec PyProof.Rows L2
theorem ch_lt {d : Doc} {k c : Nat} (h : c ∈ chA d (some k)) : k < c ∧ c < d.length := by
  unfold chA at h
  rw [List.mem_filter] at h
  have h1 : c < d.length := by simpa using h.1
  have h2 : parA d c = some k := by simpa using h.2
  exact ⟨par_lt h2, h1⟩
/-- the nodes of a piece, each ahead of its children, the last child first -/
def FLf (d : Doc) : Nat → Nat → List Nat
  | 0, r => [r]
  | f + 1, r => r :: (chA d (some r)).reverse.flatMap (FLf d f)
theorem flatMap_eq {l : List Nat} {f g : Nat → List Nat} (h : ∀ x ∈ l, f x = g x) : l.flatMap f = l.flatMap g := by
  induction l with
  | nil => rfl
  | cons x r ih =>
    rw [List.flatMap_cons, List.flatMap_cons, h x List.mem_cons_self, ih fun y hy => h y (List.mem_cons_of_mem _ hy)]
theorem ch_nil {d : Doc} {r : Nat} (h : d.length ≤ r + 1) : chA d (some r) = [] := by
  cases e : chA d (some r) with
  | nil => rfl
  | cons c l =>
    have := ch_lt (d := d) (k := r) (c := c) (by rw [e]; exact List.mem_cons_self)
    omega
theorem FLf_stable {d : Doc} : ∀ {f f' r : Nat}, d.length ≤ f + r + 1 → d.length ≤ f' + r + 1 → FLf d f r = FLf d f' r
  | 0, 0, r, _, _ => rfl
  | 0, f' + 1, r, h, _ => by
    show [r] = r :: _
    rw [ch_nil (by omega)]; rfl
  | f + 1, 0, r, _, h => by
    show r :: _ = [r]
    rw [ch_nil (by omega)]; rfl
  | f + 1, f' + 1, r, h, h' => by
    show r :: _ = r :: _
    congr 1
    refine flatMap_eq fun c hc => ?_
    have := ch_lt (List.mem_reverse.mp hc)
    exact FLf_stable (by omega) (by omega)
def FL (d : Doc) (r : Nat) : List Nat := FLf d d.length r
theorem FL_eq {d : Doc} {r : Nat} : FL d r = r :: (chA d (some r)).reverse.flatMap (FL d) := by
  unfold FL
  rw [FLf_stable (f := d.length) (f' := d.length + 1) (by omega) (by omega)]
  rfl
/-- all nodes, told the other way round -/
def FO (d : Doc) : List Nat := (chA d none).reverse.flatMap (FL d)
def flipD (d : Doc) : Doc := (FO d).filterMap fun k => d[k]?
end T

/-! V: flipped. -/
namespace T
open PySem PySem.Spec PyProof.Rows L2
def entAt (d : Doc) (k : Nat) : Tr := .tup [.str ((d[k]?.map (·.1)).getD ""), .int (depA d k)]
theorem entAt_get {d : Doc} {k : Nat} (h : k < d.length) : (d.map entT)[k]? = some (entAt d k) := by
  rw [doc_at h]
  unfold entAt
  have : d[k]? = some d[k] := by simp [h]
  rw [this]; rfl
theorem FL_pos {d : Doc} {r : Nat} : 0 < (FL d r).length := by rw [FL_eq]; simp
theorem fl_len {d : Doc} : ∀ {S : List Nat}, S.length ≤ (S.flatMap (FL d)).length
  | [] => by simp
  | x :: r => by
    rw [List.flatMap_cons, List.length_append, List.length_cons]
    have := @FL_pos d x
    have := fl_len (d := d) (S := r)
    omega
def sp_flipped : Sp2 := A1 fun a M Q _ => ∃ d, a = docT d ∧ Val d ∧ (FO d).length ≤ 100000 ∧ Q (.tup ((FO d).map (entAt d))) M
def n_flipped : List Str := "document" :: "rows" :: "turned" :: "waiting" :: "node" :: []
def b_flipped : TS2 := (sSq (sDr (eCall sp_need_document [] (aCons (eVar 0) aNil)))
  (sSq (sAs (eCall sp_rows_of [] (aCons (eVar 0) aNil)) (gN 1))
  (sSq (sAs (eLst aNil) (gN 2))
  (sSq (sAs (eM0 "list" rPop2 (eVar 1)) (gN 3))
  (sSq (sWh (tCm (eOp rGtI (eB rLen2 (aCons (eVar 3) aNil)) (eC (.int 0)))) (sSq (sAs (eM0 "list" rPop2 (eVar 3)) (gN 4))
  (sSq (sDr (eM "list" rApp2 (eVar 2) (aCons (eOp rIx2 (eVar 0) (eVar 4)) aNil)))
  (sDr (eM "list" rExt2 (eVar 3) (aCons (eOp rIx2 (eVar 1) (eVar 4)) aNil))))))
  (sRt (eB rTuple2 (aCons (eVar 2) aNil))))))))
theorem sem_flipped : ∀ ds M Q E, sp_flipped ds M Q E → b_flipped (fEnds Q E) (start2 n_flipped ds) M := by
  rintro ds M Q E ⟨a, rfl, d, rfl, hv, hFO, hq⟩
  simp only [b_flipped, start2, n_flipped]
  simp
  refine ⟨_, rfl, d, rfl, hv, ?_⟩
  simp
  refine ⟨_, rfl, d, rfl, hv, fun M1 p qs hp hqs hnd hfr ep erow L1 => ?_⟩
  simp
  intro g hg
  have pg : p ≠ g := m_ne ep hg
  have hqn : d.length < qs.length := by omega
  have eqn : qs[d.length]? = some qs[d.length] := by simp [hqn]
  have elast : (qs.map Tr.loc)[(qs.map Tr.loc).length - 1]? = some (.loc qs[d.length]) := by
    rw [List.length_map, show qs.length - 1 = d.length by omega]; simp [hqn]
  have mg : M g = none := Le.none L1 hg
  simp [up_ne pg, ep, ↓kLast_of elast]
  generalize hw : qs[d.length] = w at eqn elast
  have hwm : w ∈ qs := List.mem_of_getElem? eqn
  have mw := (hfr w hwm).1
  have wp := (hfr w hwm).2
  have ew := erow _ _ eqn
  have wg : w ≠ g := m_ne ew hg
  have qw : ∀ k q, k < d.length → qs[k]? = some q → q ≠ w := fun k q hk hq1 e => by
    subst e
    obtain ⟨h1, h2⟩ := List.getElem?_eq_some_iff.mp hq1
    obtain ⟨h3, h4⟩ := List.getElem?_eq_some_iff.mp eqn
    have := (List.getElem_inj hnd).mp (h2.trans h4.symm)
    omega
  rw [rowI_root] at ew
  refine sWh_of (fun m σ M2 => ∃ (out S : List Nat) (x : Option Tr), σ = [some (docT d), some (.loc p), some (.loc g), some (.loc w), x] ∧ M2 p = some (.lst (qs.map Tr.loc).dropLast) ∧ M2 g = some (.lst (out.map (entAt d))) ∧ M2 w = some (.lst (S.map natT)) ∧
    (∀ k q, k < d.length → qs[k]? = some q → M2 q = some (.lst (rowI d k d.length))) ∧ (∀ a o, M a = some o → M2 a = some o) ∧ out ++ S.reverse.flatMap (FL d) = FO d ∧ (S.reverse.flatMap (FL d)).length = m ∧ ∀ s ∈ S, s < d.length) ((chA d none).reverse.flatMap (FL d)).length ?_ ?_
  · refine ⟨[], chA d none, none, rfl, up_same, by rw [up_ne (fun e => pg e.symm), up_same]; rfl, by rw [up_ne wp, up_ne wg]; exact ew, fun k q hk hq1 => ?_, fun a o h => ?_, rfl, rfl, fun c hc => ?_⟩
    · have hqm := List.mem_of_getElem? hq1
      have e := erow k q hq1
      rw [up_ne (hfr q hqm).2, up_ne (m_ne e hg)]; exact e
    · rw [up_ne (m_ne h hp), up_ne (m_ne h mg)]; exact L1 a o h
    · unfold chA at hc
      rw [List.mem_filter] at hc
      simpa using hc.1
  · rintro m σ M2 ⟨out, S, x, rfl, e1, e2, e3, e4, fr, e5, e6, e7⟩
    have hout : out.length + (S.reverse.flatMap (FL d)).length = (FO d).length := by rw [← e5, List.length_append]
    simp [e3]
    by_cases c : S = []
    · subst c
      simp [e2]
      simp at e5
      rw [e5]
      exact Fg.le fr hq
    · obtain ⟨S0, r, rfl⟩ : ∃ S0 r, S = S0 ++ [r] := ⟨S.dropLast, S.getLast c, (List.dropLast_concat_getLast c).symm⟩
      have hr := e7 r (by simp)
      have hrq : r < qs.length := by omega
      have eqr : qs[r]? = some qs[r] := by simp [hrq]
      have erow2 := e4 r _ hr eqr
      rw [rowI_ch hr] at erow2
      have rw2 := qw r _ hr eqr
      have edl : ((qs.map Tr.loc).dropLast)[r]? = some (.loc qs[r]) := by
        rw [List.getElem?_dropLast, if_pos (by simp; omega)]
        simp [hrq]
      have eFL : (S0 ++ [r]).reverse.flatMap (FL d) = r :: ((S0 ++ chA d (some r)).reverse.flatMap (FL d)) := by
        rw [List.reverse_append, List.reverse_append, List.flatMap_append, List.flatMap_append]
        simp only [List.reverse_cons, List.reverse_nil, List.nil_append, List.flatMap_cons, List.flatMap_nil, List.append_nil]
        rw [FL_eq]
        simp
      have hlen := @fl_len d (S0 ++ chA d (some r)).reverse
      rw [eFL, List.length_cons] at hout e6
      rw [List.length_reverse, List.length_append] at hlen
      rw [if_pos (by simp)]
      refine WhT.of fun NX hN => ?_
      have gw : g ≠ w := fun e => wg e.symm
      have pw : p ≠ w := fun e => wp e.symm
      have gp : g ≠ p := fun e => pg e.symm
      have hqm := List.mem_of_getElem? eqr
      have rg : qs[r] ≠ g := by
        have e := erow r _ eqr
        exact m_ne e hg
      have e3' : M2 w = some (.lst (S0.map natT ++ [natT r])) := by rw [e3, List.map_append]; rfl
      have hz1 : out.length < sizeLine := small_lt (by omega)
      simp [docT, e3', up_ne gw, up_ne pw, up_ne rw2, up_ne gp, up_ne pg, up_ne wg, up_ne rg, e1, e2, hz1, ↓kAt_get edl, ↓kAt_get (entAt_get hr), erow2]
      refine ⟨small_line (by omega), hN _ _ _ ?_ ⟨out ++ [r], S0 ++ chA d (some r), _, rfl, ?_, ?_, ?_, fun k q hk hq1 => ?_, fun a o h => ?_, ?_, rfl, fun s hs => ?_⟩⟩
      · omega
      · rw [up_ne pw, up_ne pg, up_ne pw]; exact e1
      · rw [up_ne gw, up_same]; simp
      · rw [up_same]; simp
      · have h1 := qw k q hk hq1
        have h2 : q ≠ g := m_ne (erow k q hq1) hg
        rw [up_ne h1, up_ne h2, up_ne h1]; exact e4 k q hk hq1
      · have h1 : a ≠ w := m_ne h mw
        have h2 : a ≠ g := m_ne h mg
        rw [up_ne h1, up_ne h2, up_ne h1]; exact fr a o h
      · rw [List.append_assoc]
        rw [eFL] at e5
        simpa using e5
      · rcases List.mem_append.mp hs with h | h
        · exact e7 s (by simp [h])
        · exact (ch_lt h).2
end T

/-! V: every node once. -/
namespace T
open PySem PySem.Spec PyProof.Rows L2
theorem flatMap_rev_cons {x : Nat} {l : List Nat} {f : Nat → List Nat} : (x :: l).reverse.flatMap f = l.reverse.flatMap f ++ f x := by
  rw [List.reverse_cons, List.flatMap_append]; simp
theorem perm_seg {d : Doc} (hv : Vd 0 d) : ∀ (n i j g : Nat), n = j - i → i ≤ j → j ≤ d.length → (i < j → depA d i = g) → (∀ c, i < c → c < j → g ≤ depA d c) → (j < d.length → depA d j ≤ g) →
    ((tops d g i j).reverse.flatMap (FL d)).Perm (List.range' i (j - i)) := by
  intro n
  induction n using Nat.strongRecOn with
  | ind n ih =>
    intro i j g hn hij hj hi hd hs
    by_cases c : i < j
    · have hi' := hi c
      obtain ⟨le, _, e2, _⟩ := segT_step hv c hj hi' hd hs
      have E := endA_ok (d := d) (k := i) (by omega)
      have l1 := E.lt
      have l2 := E.le
      rw [tops_step c hi' le (by omega), flatMap_rev_cons, FL_eq, ch_tops hv (by omega), hi']
      have p1 := ih (j - endA d i) (by omega) (endA d i) j g rfl le hj e2 (fun c h1 h2 => hd c (by omega) h2) hs
      have p2 := ih (endA d i - (i + 1)) (by omega) (i + 1) (endA d i) (g + 1) rfl (by omega) l2 (fun h => by
        have h1 := E.deep (i + 1) (by omega) h
        have h2 := Val.dep_le hv (i := i + 1) (by omega)
        have h3 : pathN d (i + 1) = depA d i + 1 := by simp [pathN]
        omega) (fun c h1 h2 => by have := E.deep c (by omega) h2; omega) (fun h => by have := E.stop h; omega)
      have e : List.range' i (j - i) = i :: (List.range' (i + 1) (endA d i - (i + 1)) ++ List.range' (endA d i) (j - endA d i)) := by
        rw [range_cut (Nat.le_of_lt l1) le, show endA d i - i = (endA d i - (i + 1)) + 1 by omega, List.range'_succ]; rfl
      rw [e]
      exact List.perm_middle.trans (List.Perm.cons i ((p1.append p2).trans List.perm_append_comm))
    · have : i = j := by omega
      subst this
      rw [tops_nil]; simp
theorem FO_perm {d : Doc} (hv : Vd 0 d) : (FO d).Perm (List.range d.length) := by
  have h := perm_seg hv _ 0 d.length 0 rfl (Nat.zero_le _) (Nat.le_refl _) (fun h => by have := Val.dep_lt hv h; omega) (fun _ _ _ => Nat.zero_le _) (fun h => absurd h (Nat.lt_irrefl _))
  unfold FO
  rw [root_tops hv, List.range_eq_range']
  exact h
theorem FO_len {d : Doc} (hv : Vd 0 d) : (FO d).length = d.length := by rw [(FO_perm hv).length_eq, List.length_range]
end T

/-! V: the law's rows -/
namespace T
open PySem PySem.Spec PyProof.Rows L2
def sp__law_children : Sp2 := A1 fun a M Q _ => ∃ d, a = docT d ∧ Val d ∧ ∀ M' p (qs : List Addr), M p = none → qs.length = d.length + 1 → qs.Nodup → (∀ q ∈ qs, M q = none ∧ q ≠ p) → M' p = some (.lst (qs.map .loc)) → (∀ k q, qs[k]? = some q → M' q = some (.lst (rowI d k d.length))) → Le M M' → Q (.loc p) M'
def n__law_children : List Str := "document" :: "got" :: "node" :: "parent" :: "row" :: []
def b__law_children : TS2 := (sSq (sAs (eLc (iRg1 (aCons (eOp rAdd2 (eB rLen2 (aCons (eVar 0) aNil)) (eC (.int 1))) aNil)) (gN 2) tYes2 (eLst aNil) [2]) (gN 1))
  (sSq (sFo (iEn (aCons (eCall sp__law_parents [] (aCons (eVar 0) aNil)) aNil)) (gT 2 (gCo (gN 2) (gCo (gN 3) gNil2))) (sSq (sAs (eOp rIx2 (eVar 1) (eIf (tCm (eOp (rIsG id) (eVar 3) (eC .non))) (eB rLen2 (aCons (eVar 0) aNil)) (eVar 3))) (gN 4))
  (sDr (eM "list" rApp2 (eVar 4) (aCons (eVar 2) aNil)))))
  (sRt (eVar 1))))
theorem sem__law_children : ∀ ds M Q E, sp__law_children ds M Q E → b__law_children (fEnds Q E) (start2 n__law_children ds) M := by
  rintro ds M Q E ⟨a, rfl, d, rfl, hval, hq⟩
  have ⟨hv, hl⟩ := hval
  simp only [b__law_children, start2, n__law_children]
  simp [docT]
  refine ⟨⟨by omega, by omega⟩, fun p hp => lc_itR (fun i M' => ∃ qs : List Addr, qs.length = i ∧ qs.Nodup ∧ (∀ q ∈ qs, M q = none ∧ q ≠ p ∧ M' q = some (.lst [])) ∧ M' p = some (.lst (qs.map .loc)) ∧ ∀ a o, M a = some o → M' a = some o) ?_ ?_ ?_⟩
  · exact ⟨[], rfl, by simp, fun q hq => by simp at hq, up_same, fun a o h => by rw [up_ne (m_ne h hp)]; exact h⟩
  · rintro i M' hi ⟨qs, h1, h2, h3, h4, h5⟩
    rw [List.length_map] at hi
    simp [wipe2]
    intro q hq1
    have qp : q ≠ p := by intro e; subst e; rw [h4] at hq1; cases hq1
    have qn : q ∉ qs := fun h => by rw [(h3 q h).2.2] at hq1; cases hq1
    have mq : M q = none := Le.none h5 hq1
    refine ⟨qs.map .loc, by rw [up_ne (fun e => qp e.symm)]; exact h4, by rw [List.length_map, h1]; exact small_lt (by omega), qs ++ [q], by simp [h1], ?_, ?_, by rw [up_same, List.map_append]; rfl, ?_⟩
    · rw [List.nodup_append]
      exact ⟨h2, by simp, fun a ha b hb e => by rw [List.mem_singleton] at hb; subst hb; subst e; exact qn ha⟩
    · intro z hz
      rcases List.mem_append.mp hz with hz | hz
      · obtain ⟨a1, a2, a3⟩ := h3 z hz
        exact ⟨a1, a2, by rw [up_ne a2, up_ne (fun e : z = q => qn (by rw [← e]; exact hz))]; exact a3⟩
      · have e := List.mem_singleton.mp hz
        subst e
        exact ⟨mq, qp, by rw [up_ne qp, up_same]⟩
    · intro a o ha
      rw [up_ne (m_ne ha hp), up_ne (m_ne ha mq)]; exact h5 a o ha
  · rintro M1 ⟨qs, h1, h2, h3, h4, h5⟩
    have h1' : qs.length = d.length + 1 := by rw [h1, List.length_map]
    simp
    refine ⟨_, rfl, d, rfl, hval, fun pl hpl => ?_⟩
    have pp : p ≠ pl := m_ne h4 hpl
    have ql : ∀ q ∈ qs, q ≠ pl := fun q hq1 => m_ne (h3 q hq1).2.2 hpl
    have ml : M pl = none := Le.none h5 hpl
    simp
    refine for_itE (fun i σ M' => ∃ (x y z : Option Tr), σ = [some (docT d), some (.loc p), x, y, z] ∧ M' pl = some (.lst (parsT d d.length)) ∧ M' p = some (.lst (qs.map .loc)) ∧ (∀ k q, qs[k]? = some q → M' q = some (.lst (rowI d k i))) ∧ Le M M') ?_ ?_ ?_ ?_
    · refine ⟨_, _, _, rfl, up_same, by rw [up_ne pp]; exact h4, fun k q hk => ?_, fun a o h => by rw [up_ne (m_ne h ml)]; exact h5 a o h⟩
      have hm := List.mem_of_getElem? hk
      rw [up_ne (ql q hm)]
      exact (h3 q hm).2.2
    · rintro i σ M' _ ⟨x, y, z, rfl, e1, _⟩
      exact seqT_lst e1
    · rintro i e σ M' he ⟨x, y, z, rfl, e1, e2, e3, e4⟩
      have hi : i < d.length := by
        have := (List.getElem?_eq_some_iff.mp he).1
        simpa [parsT] using this
      have ee : e = optT (parA d i) := by
        have : (parsT d d.length)[i]? = some (optT (parA d i)) := by simp [parsT, hi]
        rw [this] at he
        exact (Option.some.inj he).symm
      subst ee
      have hs := slot_le hi
      have hsq : slotA d i < qs.length := by omega
      have eq0 : (qs.map Tr.loc)[slotA d i]? = some (.loc qs[slotA d i]) := by simp [hsq]
      have eqs : qs[slotA d i]? = some qs[slotA d i] := by simp [hsq]
      have eq1 := e3 _ _ eqs
      have hm := List.getElem_mem hsq
      have qp := (h3 _ hm).2.1
      have rl := @rowI_len d (slotA d i) i
      simp only [gT_ap, gCo_ap, gN_2, gN_3, gNil2_ap, List.length_cons, List.length_nil, true_and]
      refine nx_cut fun NX hN => ?_
      have fin : ∀ (x y z : Option Tr), NX [some (docT d), some (.loc p), x, y, z] (up M' qs[slotA d i] (.lst (rowI d (slotA d i) i ++ [natT i]))) := fun x y z => by
        refine hN _ _ ⟨x, y, z, rfl, by rw [up_ne (fun e => ql _ hm e.symm)]; exact e1, by rw [up_ne (fun e => qp e.symm)]; exact e2, fun k q hk => ?_, fun a o h => by rw [up_ne (m_ne h (h3 _ hm).1)]; exact e4 a o h⟩
        rw [rowI_succ]
        by_cases c : slotA d i = k
        · subst c
          have : q = qs[slotA d i] := by rw [eqs] at hk; exact (Option.some.inj hk).symm
          subst this
          rw [if_pos rfl, up_same]
        · rw [if_neg c]
          have ne : q ≠ qs[slotA d i] := by
            intro e
            subst e
            have hk' := (List.getElem?_eq_some_iff.mp hk)
            obtain ⟨hk1, hk2⟩ := hk'
            exact c ((List.getElem_inj h2).mp hk2).symm
          rw [up_ne ne]
          exact e3 k q hk
      have ks : kAt (qs.map Tr.loc) ((slotA d i : Nat) : Int) = fun P => P (.loc qs[slotA d i]) := by funext P; exact kAt_get eq0
      cases hp0 : parA d i with
      | none =>
        have es : ((d.length : Nat) : Int) = ((slotA d i : Nat) : Int) := by simp [slotA, hp0]
        simp [optT, docT, e2]
        rw [es, ks]
        simp [eq1]
        exact ⟨small_lt (by omega), fin _ _ _⟩
      | some k =>
        have es : ((k : Nat) : Int) = ((slotA d i : Nat) : Int) := by simp [slotA, hp0]
        simp [optT, docT, e2]
        rw [es, ks]
        simp [eq1]
        exact ⟨small_lt (by omega), fin _ _ _⟩
    · rintro σ M' ⟨x, y, z, rfl, e1, e2, e3, e4⟩
      simp [parsT] at e3
      simp
      exact Fg.same (hq M' p qs hp h1' h2 (fun q hq1 => ⟨(h3 q hq1).1, (h3 q hq1).2.1⟩) e2 e3 e4)

end T

/-! W: the paths of a forest's nodes, told along the sequence of depths; plain lists alone. -/
namespace T
/-- the path of the next node, of depth g, behind the path s -/
def stP (s : List Nat) (g : Nat) : List Nat := if g < s.length then s.take g ++ [s[g]?.getD 0 + 1] else s ++ [0]
variable {α : Type}
/-- each entry with its path -/
def pthF (s : List Nat) : List (α × Nat) → List (List Nat × α)
  | [] => []
  | e :: r => (stP s e.2, e.1) :: pthF (stP s e.2) r
/-- the path behind all -/
def stF (s : List Nat) : List (α × Nat) → List Nat
  | [] => s
  | e :: r => stF (stP s e.2) r
/-- depths fit: none is more than the path's length -/
def Fit (m : Nat) : List (α × Nat) → Prop
  | [] => True
  | e :: r => e.2 ≤ m ∧ Fit (e.2 + 1) r
theorem stP_len {s : List Nat} {g : Nat} (h : g ≤ s.length) : (stP s g).length = g + 1 := by
  unfold stP
  split
  · rw [List.length_append, List.length_take]; simp; omega
  · rw [List.length_append]; simp; omega
theorem stP_take {s : List Nat} {g h : Nat} (hg : g ≤ s.length) (hh : h ≤ g) : (stP s g).take h = s.take h := by
  unfold stP
  split
  · rw [List.take_append_of_le_length (by rw [List.length_take]; omega), List.take_take, Nat.min_eq_left hh]
  · rw [List.take_append_of_le_length (by omega)]
theorem stP_lt {s : List Nat} {g : Nat} (h : g < s.length) : stP s g = s.take g ++ [s[g] + 1] := by
  unfold stP; rw [if_pos h]; simp [h]
theorem stP_eq {s : List Nat} {g : Nat} (h : g = s.length) : stP s g = s ++ [0] := by
  unfold stP; rw [if_neg (by omega)]
theorem pthF_app {s : List Nat} {x y : List (α × Nat)} : pthF s (x ++ y) = pthF s x ++ pthF (stF s x) y := by
  induction x generalizing s with
  | nil => rfl
  | cons e r ih => simp only [List.cons_append, pthF, stF, ih]
theorem stF_app {s : List Nat} {x y : List (α × Nat)} : stF s (x ++ y) = stF (stF s x) y := by
  induction x generalizing s with
  | nil => rfl
  | cons e r ih => simp only [List.cons_append, stF, ih]
theorem pthF_len {s : List Nat} {x : List (α × Nat)} : (pthF s x).length = x.length := by
  induction x generalizing s with
  | nil => rfl
  | cons e r ih => simp [pthF, ih]
theorem Fit.app {m : Nat} {x y : List (α × Nat)} (h : Fit m (x ++ y)) : Fit m x ∧ ∀ s : List Nat, s.length = m → Fit (stF s x).length y := by
  induction x generalizing m with
  | nil => exact ⟨trivial, fun s e => by subst e; exact h⟩
  | cons e r ih =>
    obtain ⟨h1, h2⟩ := h
    obtain ⟨a, b⟩ := ih h2
    exact ⟨⟨h1, a⟩, fun s es => b (stP s e.2) (stP_len (by omega))⟩
theorem Fit.glue {m : Nat} {x y : List (α × Nat)} (h : Fit m x) (h2 : ∀ s : List Nat, s.length = m → Fit (stF s x).length y) : Fit m (x ++ y) := by
  induction x generalizing m with
  | nil => have := h2 (List.replicate m 0) (by simp); simpa [stF] using this
  | cons e r ih =>
    obtain ⟨h1, h3⟩ := h
    exact ⟨h1, ih h3 fun s es => by
      have := h2 (List.replicate m 0) (by simp)
      have e1 : (stF s r).length = (stF (stP (List.replicate m 0) e.2) r).length := by
        have key : ∀ (r : List (α × Nat)) (s s' : List Nat), s.length = s'.length → (Fit s.length r) → (stF s r).length = (stF s' r).length := by
          intro r
          induction r with
          | nil => intro s s' h _; exact h
          | cons e r ih2 =>
            intro s s' h hf
            obtain ⟨f1, f2⟩ := hf
            have q1 := stP_len (s := s) (g := e.2) f1
            have q2 := stP_len (s := s') (g := e.2) (by omega)
            exact ih2 _ _ (by omega) (by rw [q1]; exact f2)
        exact key r _ _ (by rw [es, stP_len (by simpa using h1)]) (by rw [es]; exact h3)
      rw [e1]; exact this⟩
theorem Fit.mono {m n : Nat} {x : List (α × Nat)} (h : Fit m x) (l : m ≤ n) : Fit n x := by
  cases x with
  | nil => trivial
  | cons e r => exact ⟨by have := h.1; omega, h.2⟩
/-! the sequence of paths -/
/-- ahead of it, by the first place that differs -/
def PLt (a b : List Nat) : Prop := ∃ p, (∃ x t, a = p ∧ b = p ++ x :: t) ∨ ∃ x y t u, x < y ∧ a = p ++ x :: t ∧ b = p ++ y :: u
theorem stP_gt {s : List Nat} {g : Nat} (h : g ≤ s.length) : PLt s (stP s g) := by
  by_cases c : g < s.length
  · rw [stP_lt c]
    refine ⟨s.take g, .inr ⟨s[g], s[g] + 1, s.drop (g + 1), [], by omega, ?_, rfl⟩⟩
    rw [← List.drop_eq_getElem_cons c, List.take_append_drop]
  · rw [stP_eq (by omega)]
    exact ⟨s, .inl ⟨0, [], rfl, rfl⟩⟩
theorem plt_iff {a b : List Nat} : PLt a b ↔ a < b := by
  constructor
  · rintro ⟨p, h⟩
    induction p generalizing a b with
    | nil =>
      rcases h with ⟨x, t, rfl, rfl⟩ | ⟨x, y, t, u, l, rfl, rfl⟩
      · exact List.Lex.nil
      · exact List.Lex.rel l
    | cons q p ih =>
      rcases h with ⟨x, t, rfl, rfl⟩ | ⟨x, y, t, u, l, rfl, rfl⟩
      · exact List.Lex.cons (ih (.inl ⟨x, t, rfl, rfl⟩))
      · exact List.Lex.cons (ih (.inr ⟨x, y, t, u, l, rfl, rfl⟩))
  · intro h
    induction h with
    | nil => exact ⟨[], .inl ⟨_, _, rfl, rfl⟩⟩
    | rel l => exact ⟨[], .inr ⟨_, _, _, _, l, rfl, rfl⟩⟩
    | @cons c l1 l2 _ ih =>
      obtain ⟨p, h⟩ := ih
      rcases h with ⟨x, t, rfl, rfl⟩ | ⟨x, y, t, u, l, rfl, rfl⟩
      · exact ⟨c :: l1, .inl ⟨x, t, rfl, rfl⟩⟩
      · exact ⟨c :: p, .inr ⟨x, y, t, u, l, rfl, rfl⟩⟩
theorem PLt.trans {a b c : List Nat} (h : PLt a b) (g : PLt b c) : PLt a c := plt_iff.mpr (List.lt_trans (plt_iff.mp h) (plt_iff.mp g))
theorem PLt.irrefl {a : List Nat} (h : PLt a a) : False := List.lt_irrefl a (plt_iff.mp h)
theorem pthF_gt {s : List Nat} {x : List (α × Nat)} (hf : Fit s.length x) : ∀ p ∈ pthF s x, PLt s p.1 := by
  induction x generalizing s with
  | nil => intro p hp; cases hp
  | cons e r ih =>
    intro p hp
    have g := stP_gt hf.1
    rcases List.mem_cons.mp hp with rfl | hp
    · exact g
    · exact g.trans (ih (by rw [stP_len hf.1]; exact hf.2) p hp)
theorem pthF_inc {s : List Nat} {x : List (α × Nat)} (hf : Fit s.length x) : (pthF s x).Pairwise fun p q => PLt p.1 q.1 := by
  induction x generalizing s with
  | nil => exact .nil
  | cons e r ih =>
    have f2 : Fit (stP s e.2).length r := by rw [stP_len hf.1]; exact hf.2
    exact .cons (fun q hq => pthF_gt f2 q hq) (ih f2)
theorem stF_mem {s : List Nat} {x : List (α × Nat)} (hf : Fit s.length x) : ∀ p ∈ pthF s x, p.1 = stF s x ∨ PLt p.1 (stF s x) := by
  induction x generalizing s with
  | nil => intro p hp; cases hp
  | cons e r ih =>
    intro p hp
    have f2 : Fit (stP s e.2).length r := by rw [stP_len hf.1]; exact hf.2
    rcases List.mem_cons.mp hp with rfl | hp
    · have key : ∀ (r : List (α × Nat)) (s : List Nat), Fit s.length r → s = stF s r ∨ PLt s (stF s r) := by
        intro r
        induction r with
        | nil => intro s _; exact .inl rfl
        | cons e r ih2 =>
          intro s hf
          refine .inr ?_
          have g := stP_gt hf.1
          rcases ih2 (stP s e.2) (by rw [stP_len hf.1]; exact hf.2) with c | c
          · show PLt s (stF (stP s e.2) r)
            rw [← c]; exact g
          · exact g.trans c
      exact key r _ f2
    · exact ih f2 p hp
/-! a path ahead of others -/
theorem stP_pre {q s : List Nat} {g : Nat} : stP (q ++ s) (q.length + g) = q ++ stP s g := by
  unfold stP
  by_cases c : g < s.length
  · rw [if_pos (by rw [List.length_append]; omega), if_pos c, List.take_length_add_append, List.append_assoc]
    congr 2
    rw [List.getElem?_append_right (by omega)]
    simp
  · rw [if_neg (by rw [List.length_append]; omega), if_neg c, List.append_assoc]
def lowE (g : Nat) (x : List (α × Nat)) : List (α × Nat) := x.map fun e => (e.1, e.2 - g)
theorem pthF_pre {q : List Nat} : ∀ {x : List (α × Nat)} {s : List Nat}, (∀ e ∈ x, q.length ≤ e.2) → pthF (q ++ s) x = (pthF s (lowE q.length x)).map fun p => (q ++ p.1, p.2)
  | [], s, _ => rfl
  | e :: r, s, h => by
    have h1 := h e List.mem_cons_self
    have e1 : stP (q ++ s) e.2 = q ++ stP s (e.2 - q.length) := by
      rw [← stP_pre]; congr 1; omega
    show (stP (q ++ s) e.2, e.1) :: pthF (stP (q ++ s) e.2) r = _
    rw [e1, pthF_pre fun x hx => h x (List.mem_cons_of_mem _ hx)]
    rfl
theorem stF_pre {q : List Nat} : ∀ {x : List (α × Nat)} {s : List Nat}, (∀ e ∈ x, q.length ≤ e.2) → stF (q ++ s) x = q ++ stF s (lowE q.length x)
  | [], s, _ => rfl
  | e :: r, s, h => by
    have h1 := h e List.mem_cons_self
    have e1 : stP (q ++ s) e.2 = q ++ stP s (e.2 - q.length) := by
      rw [← stP_pre]; congr 1; omega
    show stF (stP (q ++ s) e.2) r = _
    rw [e1, stF_pre fun x hx => h x (List.mem_cons_of_mem _ hx)]
    rfl
/-! the shifts -/
/-- the children of above, from which on, one further on -/
def shU (above : List Nat) (which : Nat) (p : List Nat) : List Nat := if above.length < p.length ∧ p.take above.length = above ∧ which ≤ p[above.length]?.getD 0 then above ++ (p[above.length]?.getD 0 + 1) :: p.drop (above.length + 1) else p
/-- .. one back -/
def shD (above : List Nat) (which : Nat) (p : List Nat) : List Nat := if above.length < p.length ∧ p.take above.length = above ∧ which ≤ p[above.length]?.getD 0 then above ++ (p[above.length]?.getD 0 - 1) :: p.drop (above.length + 1) else p
/-- behind it: differs within above, greater there -/
def Aft (above p : List Nat) : Prop := ∃ j, j < above.length ∧ j < p.length ∧ p.take j = above.take j ∧ above[j]?.getD 0 < p[j]?.getD 0
theorem Aft.no {above p : List Nat} (h : Aft above p) : p.take above.length ≠ above := by
  obtain ⟨j, h1, h2, h3, h4⟩ := h
  intro e
  have : p[j]? = above[j]? := by
    rw [← e, List.getElem?_take, if_pos h1]
  rw [this] at h4; omega
theorem Aft.step {above p : List Nat} {h : Nat} (a : Aft above p) (hh : h ≤ p.length) : Aft above (stP p h) := by
  obtain ⟨j, h1, h2, h3, h4⟩ := a
  by_cases c : j < h
  · refine ⟨j, h1, by rw [stP_len hh]; omega, by rw [stP_take hh (by omega)]; exact h3, ?_⟩
    have e : (stP p h)[j]? = p[j]? := by
      have := congrArg (fun l => l[j]?) (stP_take hh (Nat.le_refl h))
      simp only [List.getElem?_take, if_pos c] at this
      exact this
    rw [e]; exact h4
  · by_cases c2 : h = j
    · subst c2
      refine ⟨h, h1, by rw [stP_len hh]; omega, by rw [stP_take hh (Nat.le_refl _)]; exact h3, ?_⟩
      rw [stP_lt h2]
      have : (p.take h ++ [p[h] + 1])[h]? = some (p[h] + 1) := by
        rw [List.getElem?_append_right (by rw [List.length_take]; omega), List.length_take, Nat.min_eq_left (by omega)]
        simp
      rw [this]
      have e2 : p[h]? = some p[h] := by simp [h2]
      rw [e2] at h4
      simp at h4 ⊢
      omega
    · have hj : h < j := by omega
      refine ⟨h, by omega, by rw [stP_len hh]; omega, ?_, ?_⟩
      · rw [stP_take hh (Nat.le_refl _)]
        have := congrArg (List.take h) h3
        rw [List.take_take, List.take_take, Nat.min_eq_left (by omega)] at this
        exact this
      · rw [stP_lt (by omega)]
        have e1 : (p.take h ++ [p[h] + 1])[h]? = some (p[h] + 1) := by
          rw [List.getElem?_append_right (by rw [List.length_take]; omega), List.length_take, Nat.min_eq_left (by omega)]
          simp
        have e2 : p[h]? = above[h]? := by
          have := congrArg (fun l => l[h]?) h3
          simpa only [List.getElem?_take, if_pos hj] using this
        have e3 : p[h]? = some p[h] := by simp
        rw [e1, ← e2, e3]
        simp
/-- two paths beside one another: one told with a piece, one without -/
def Bes (above : List Nat) (which : Nat) (t s : List Nat) : Prop := (∃ w u, which ≤ w ∧ t = above ++ (w + 1) :: u ∧ s = above ++ w :: u) ∨ (t = s ∧ Aft above s)
theorem Bes.step {above : List Nat} {which : Nat} {t s : List Nat} {h : Nat} (b : Bes above which t s) (hh : h ≤ s.length) : Bes above which (stP t h) (stP s h) := by
  rcases b with ⟨w, u, hw, rfl, rfl⟩ | ⟨rfl, a⟩
  · by_cases c : above.length < h
    · refine .inl ⟨w, stP u (h - above.length - 1), hw, ?_, ?_⟩
      · have := stP_pre (q := above ++ [w + 1]) (s := u) (g := h - above.length - 1)
        simp only [List.length_append, List.length_cons, List.length_nil, List.append_assoc, List.cons_append, List.nil_append] at this
        rw [← this]; congr 1; omega
      · have := stP_pre (q := above ++ [w]) (s := u) (g := h - above.length - 1)
        simp only [List.length_append, List.length_cons, List.length_nil, List.append_assoc, List.cons_append, List.nil_append] at this
        rw [← this]; congr 1; omega
    · by_cases c2 : h = above.length
      · subst c2
        refine .inl ⟨w + 1, [], by omega, ?_, ?_⟩
        · rw [stP_lt (by simp)]; simp
        · rw [stP_lt (by simp)]; simp
      · have hlt : h < above.length := by omega
        refine .inr ⟨?_, ?_⟩
        · rw [stP_lt (by simp; omega), stP_lt (by simp; omega)]
          rw [List.take_append_of_le_length (by omega), List.take_append_of_le_length (by omega)]
          simp [List.getElem_append_left hlt]
        · refine ⟨h, hlt, by rw [stP_len (by simp; omega)]; omega, ?_, ?_⟩
          · rw [stP_take (by simp; omega) (Nat.le_refl _), List.take_append_of_le_length (by omega)]
          · rw [stP_lt (by simp; omega)]
            rw [List.take_append_of_le_length (by omega), List.getElem?_append_right (by rw [List.length_take]; omega), List.length_take, Nat.min_eq_left (by omega)]
            simp [List.getElem_append_left hlt, hlt]
  · exact .inr ⟨rfl, a.step hh⟩
theorem Bes.len {above : List Nat} {which : Nat} {t s : List Nat} (b : Bes above which t s) : t.length = s.length := by
  rcases b with ⟨w, u, hw, rfl, rfl⟩ | ⟨rfl, _⟩
  · simp
  · rfl
theorem Bes.up {above : List Nat} {which : Nat} {t s : List Nat} (b : Bes above which t s) : t = shU above which s := by
  unfold shU
  rcases b with ⟨w, u, hw, rfl, rfl⟩ | ⟨rfl, a⟩
  · rw [if_pos ⟨by simp, by simp, by simpa using hw⟩]
    simp
  · rw [if_neg fun ⟨_, e, _⟩ => a.no e]
theorem Bes.down {above : List Nat} {which : Nat} {t s : List Nat} (b : Bes above which t s) : s = shD above which t := by
  unfold shD
  rcases b with ⟨w, u, hw, rfl, rfl⟩ | ⟨rfl, a⟩
  · rw [if_pos ⟨by simp, by simp, by simp; omega⟩]
    simp
  · rw [if_neg fun ⟨_, e, _⟩ => a.no e]
theorem bes_all {above : List Nat} {which : Nat} : ∀ {B : List (α × Nat)} {t s : List Nat}, Bes above which t s → Fit s.length B → pthF t B = (pthF s B).map (fun p => (shU above which p.1, p.2)) ∧ pthF s B = (pthF t B).map fun p => (shD above which p.1, p.2)
  | [], _, _, _, _ => ⟨rfl, rfl⟩
  | e :: r, t, s, b, f => by
    have b2 := b.step f.1
    obtain ⟨h1, h2⟩ := bes_all b2 (by rw [stP_len f.1]; exact f.2)
    constructor
    · show (stP t e.2, e.1) :: pthF (stP t e.2) r = _
      rw [h1, b2.up]; rfl
    · show (stP s e.2, e.1) :: pthF (stP s e.2) r = _
      rw [h2, b2.down]; rfl
/-- the first step behind a piece -/
theorem bes_first {above s t : List Nat} {which h : Nat} (hq : stP s above.length = above ++ [which]) (hs : above.length ≤ s.length) (ht : t.take (above.length + 1) = above ++ [which]) (hh : h ≤ above.length) : Bes above which (stP t h) (stP s h) := by
  have hl : above.length < t.length := by
    have := congrArg List.length ht
    rw [List.length_take] at this
    simp at this
    omega
  have hta : t.take above.length = above := by
    have := congrArg (List.take above.length) ht
    rw [List.take_take, Nat.min_eq_left (by omega)] at this
    rw [this]; simp
  have htw : t[above.length]? = some which := by
    have := congrArg (fun l => l[above.length]?) ht
    simp only [List.getElem?_take, if_pos (Nat.lt_succ_self _)] at this
    rw [this]; simp
  have hsa : s.take above.length = above := by
    have := stP_take hs (Nat.le_refl above.length)
    rw [← this, hq]; simp
  by_cases c : h = above.length
  · subst c
    refine .inl ⟨which, [], Nat.le_refl _, ?_, hq⟩
    rw [stP_lt hl, hta]
    have : t[above.length] = which := by
      have e : t[above.length]? = some t[above.length] := by simp [hl]
      rw [e] at htw; exact Option.some.inj htw
    rw [this]
  · have hlt : h < above.length := by omega
    have e1 : t[h]? = above[h]? := by
      have := congrArg (fun l => l[h]?) hta
      simpa only [List.getElem?_take, if_pos hlt] using this
    have e2 : s[h]? = above[h]? := by
      have := congrArg (fun l => l[h]?) hsa
      simpa only [List.getElem?_take, if_pos hlt] using this
    have t1 : t.take h = above.take h := by
      have := congrArg (List.take h) hta
      rwa [List.take_take, Nat.min_eq_left (by omega)] at this
    have t2 : s.take h = above.take h := by
      have := congrArg (List.take h) hsa
      rwa [List.take_take, Nat.min_eq_left (by omega)] at this
    have g1 : t[h] = above[h] := by
      have e : t[h]? = some t[h] := by simp
      rw [e, List.getElem?_eq_getElem hlt] at e1; exact Option.some.inj e1
    have g2 : s[h]'(by omega) = above[h] := by
      have e : s[h]? = some (s[h]'(by omega)) := by simp
      rw [e, List.getElem?_eq_getElem hlt] at e2; exact Option.some.inj e2
    refine .inr ⟨?_, ⟨h, hlt, by rw [stP_len (by omega)]; omega, by rw [stP_take (by omega) (Nat.le_refl _)]; exact t2, ?_⟩⟩
    · rw [stP_lt (by omega), stP_lt (by omega), t1, t2, g1, g2]
    · rw [stP_lt (by omega), t2, List.getElem?_append_right (by rw [List.length_take]; omega), List.length_take, Nat.min_eq_left (by omega), g2]
      simp [hlt]
end T

/-! W: a piece put, a piece taken, told by paths. -/
namespace T
variable {α : Type}
theorem bes_B {above s t : List Nat} {which : Nat} {B : List (α × Nat)} (hq : stP s above.length = above ++ [which]) (hs : above.length ≤ s.length) (ht : t.take (above.length + 1) = above ++ [which]) (hB : ∀ e ∈ B.head?, e.2 ≤ above.length) (f : Fit s.length B) :
    pthF t B = (pthF s B).map (fun p => (shU above which p.1, p.2)) ∧ pthF s B = ((pthF t B).map fun p => (shD above which p.1, p.2)) ∧ ∀ p ∈ pthF t B, ∃ s', Bes above which p.1 s' := by
  cases B with
  | nil => exact ⟨rfl, rfl, fun p hp => by cases hp⟩
  | cons e r =>
    have b := bes_first hq hs ht (hB e rfl)
    have f2 : Fit (stP s e.2).length r := by rw [stP_len f.1]; exact f.2
    obtain ⟨h1, h2⟩ := bes_all b f2
    refine ⟨?_, ?_, ?_⟩
    · show (stP t e.2, e.1) :: pthF (stP t e.2) r = _
      rw [h1, b.up]; rfl
    · show (stP s e.2, e.1) :: pthF (stP s e.2) r = _
      rw [h2, b.down]; rfl
    · have key : ∀ (r : List (α × Nat)) (t s : List Nat), Bes above which t s → Fit s.length r → ∀ p ∈ pthF t r, ∃ s', Bes above which p.1 s' := by
        intro r
        induction r with
        | nil => intro t s _ _ p hp; cases hp
        | cons e r ih =>
          intro t s b f p hp
          have b2 := b.step f.1
          rcases List.mem_cons.mp hp with rfl | hp
          · exact ⟨_, b2⟩
          · exact ih _ _ b2 (by rw [stP_len f.1]; exact f.2) p hp
      intro p hp
      rcases List.mem_cons.mp hp with rfl | hp
      · exact ⟨_, b⟩
      · exact key r _ _ b f2 p hp
theorem not_lt {which y : Nat} (hy : which ≤ y) : ∀ (a u : List Nat), ¬ (a ++ y :: u < a ++ [which])
  | [], u, h => by
    cases h with
    | rel l => omega
    | cons l => cases l
  | x :: a, u, h => by
    cases h with
    | rel l => exact Nat.lt_irrefl _ l
    | cons l => exact not_lt hy a u l
theorem shU_lt {above p : List Nat} {which : Nat} (h : PLt p (above ++ [which])) : shU above which p = p := by
  unfold shU
  rw [if_neg]
  rintro ⟨h1, h2, h3⟩
  have e : p = above ++ p[above.length] :: p.drop (above.length + 1) := by
    conv => lhs; rw [← List.take_append_drop above.length p, h2, List.drop_eq_getElem_cons h1]
  have e3 : p[above.length]? = some p[above.length] := by simp [h1]
  rw [e3] at h3
  have l := plt_iff.mp h
  rw [e] at l
  exact not_lt h3 _ _ l
theorem shD_lt {above p : List Nat} {which : Nat} (h : PLt p (above ++ [which])) : shD above which p = p := by
  have := shU_lt h
  unfold shU at this
  unfold shD
  by_cases c : above.length < p.length ∧ p.take above.length = above ∧ which ≤ p[above.length]?.getD 0
  · rw [if_pos c] at this
    exfalso
    have e := congrArg (fun l => l[above.length]?) this
    simp only [List.getElem?_append_right (Nat.le_refl _), Nat.sub_self, List.getElem?_cons_zero] at e
    rw [List.getElem?_eq_getElem c.1] at e
    simp at e
  · rw [if_neg c]
theorem pre_lt {q p : List Nat} (h : PLt p q) : p.take q.length ≠ q := by
  intro e
  have : p = q ++ p.drop q.length := by
    conv => lhs; rw [← List.take_append_drop q.length p, e]
  rw [this] at h
  have l := plt_iff.mp h
  have key : ∀ (a u : List Nat), ¬ (a ++ u < a) := by
    intro a
    induction a with
    | nil => intro u h; cases h
    | cons x a ih => intro u h; cases h with
      | rel l => exact Nat.lt_irrefl _ l
      | cons l => exact ih u l
  exact key _ _ l
theorem bes_pre {above t s : List Nat} {which : Nat} (b : Bes above which t s) : t.take (above.length + 1) ≠ above ++ [which] := by
  rcases b with ⟨w, u, hw, rfl, rfl⟩ | ⟨rfl, a⟩
  · intro e
    have : (above ++ (w + 1) :: u).take (above.length + 1) = above ++ [w + 1] := by rw [List.take_length_add_append]; rfl
    rw [this] at e
    have := List.append_cancel_left e
    simp at this
    omega
  · intro e
    have := congrArg (List.take above.length) e
    rw [List.take_take, Nat.min_eq_left (by omega)] at this
    exact a.no (by rw [this]; simp)
theorem pthF_le {A : List (α × Nat)} {above : List Nat} {which : Nat} (hf : Fit 0 A) (hs : above.length ≤ (stF [] A).length) (hq : stP (stF [] A) above.length = above ++ [which]) : ∀ p ∈ pthF [] A, PLt p.1 (above ++ [which]) := by
  intro p hp
  have g := stP_gt hs
  rw [hq] at g
  rcases stF_mem (s := []) hf p hp with e | e
  · rw [e]; exact g
  · exact e.trans g
def liftE (g : Nat) (x : List (α × Nat)) : List (α × Nat) := x.map fun e => (e.1, e.2 + g)
theorem low_lift {g h : Nat} {x : List (α × Nat)} (hx : ∀ e ∈ x, h ≤ e.2) : lowE (g + h) (liftE g x) = lowE h x := by
  unfold lowE liftE
  rw [List.map_map]
  refine List.map_congr_left fun e he => ?_
  show (e.1, e.2 + g - (g + h)) = (e.1, e.2 - h)
  have := hx e he
  congr 1
  omega
/-- a piece put -/
theorem pth_put {A B R : List (α × Nat)} {a : α} {above : List Nat} {which : Nat} (hf : Fit 0 (A ++ B)) (hs : above.length ≤ (stF [] A).length) (hq : stP (stF [] A) above.length = above ++ [which]) (hB : ∀ e ∈ B.head?, e.2 ≤ above.length) (hR : ∀ e ∈ R, 1 ≤ e.2) :
    pthF [] (A ++ liftE above.length ((a, 0) :: R) ++ B) = (pthF [] A).map (fun p => (shU above which p.1, p.2)) ++ (above ++ [which], a) :: ((pthF [] (lowE 1 R)).map fun p => (above ++ [which] ++ p.1, p.2)) ++ (pthF (stF [] A) B).map fun p => (shU above which p.1, p.2) := by
  have fA := hf.app.1
  have fB := hf.app.2 [] rfl
  have eA : (pthF [] A).map (fun p => (shU above which p.1, p.2)) = pthF [] A := by
    conv => rhs; rw [← List.map_id (pthF [] A)]
    refine List.map_congr_left fun p hp => ?_
    rw [shU_lt (pthF_le fA hs hq p hp)]; rfl
  have hl : (above ++ [which]).length = above.length + 1 := by simp
  have hR2 : ∀ e ∈ liftE above.length R, (above ++ [which]).length ≤ e.2 := by
    intro e he
    unfold liftE at he
    obtain ⟨e', h1, rfl⟩ := List.mem_map.mp he
    have := hR e' h1
    simp; omega
  have e1 : liftE above.length ((a, 0) :: R) = (a, above.length) :: liftE above.length R := by simp [liftE]
  have low : lowE (above ++ [which]).length (liftE above.length R) = lowE 1 R := by rw [hl]; exact low_lift hR
  have p1 := pthF_pre (q := above ++ [which]) (s := []) hR2
  have s1 := stF_pre (q := above ++ [which]) (s := []) hR2
  rw [List.append_nil] at p1 s1
  rw [low] at p1 s1
  rw [List.append_assoc, pthF_app, eA, e1]
  show _ ++ (stP (stF [] A) above.length, a) :: pthF (stP (stF [] A) above.length) (liftE above.length R ++ B) = _
  rw [hq, pthF_app, p1, s1]
  have tt : (above ++ [which] ++ stF [] (lowE 1 R)).take (above.length + 1) = above ++ [which] := by
    rw [List.take_append_of_le_length (by simp), List.take_of_length_le (by simp)]
  rw [(bes_B hq hs tt hB fB).1]
  simp
/-- a piece taken -/
theorem pth_take {A B R : List (α × Nat)} {a : α} {g : Nat} {above : List Nat} {which : Nat} (hf : Fit 0 (A ++ (a, g) :: R ++ B)) (hg : g = above.length) (hq : stP (stF [] A) g = above ++ [which]) (hB : ∀ e ∈ B.head?, e.2 ≤ g) (hR : ∀ e ∈ R, g + 1 ≤ e.2) :
    ((pthF [] (A ++ (a, g) :: R ++ B)).filter fun p => decide (p.1.take (g + 1) = above ++ [which])) = (above ++ [which], a) :: ((pthF [] (lowE (g + 1) R)).map fun p => (above ++ [which] ++ p.1, p.2)) ∧
    (((pthF [] (A ++ (a, g) :: R ++ B)).filter fun p => decide (p.1.take (g + 1) ≠ above ++ [which])).map fun p => (shD above which p.1, p.2)) = pthF [] (A ++ B) := by
  subst hg
  have f1 : Fit 0 (A ++ ((a, above.length) :: R ++ B)) := by simpa using hf
  have fA := f1.app.1
  have f2 := f1.app.2 [] rfl
  have hs : above.length ≤ (stF [] A).length := f2.1
  have hl : (above ++ [which]).length = above.length + 1 := by simp
  have hR2 : ∀ e ∈ R, (above ++ [which]).length ≤ e.2 := by rw [hl]; exact hR
  have p1 := pthF_pre (q := above ++ [which]) (s := []) hR2
  have s1 := stF_pre (q := above ++ [which]) (s := []) hR2
  rw [List.append_nil, hl] at p1 s1
  have tt : (above ++ [which] ++ stF [] (lowE (above.length + 1) R)).take (above.length + 1) = above ++ [which] := by
    rw [List.take_append_of_le_length (by simp), List.take_of_length_le (by simp)]
  have fB : Fit (stF [] A).length B := by
    have f3 : Fit (above.length + 1) (R ++ B) := f2.2
    have := f3.app.2 (List.replicate (above.length + 1) 0) (by simp)
    cases B with
    | nil => trivial
    | cons e r => exact ⟨by have := hB e rfl; omega, this.2⟩
  obtain ⟨b1, b2, b3⟩ := bes_B hq hs tt hB fB
  have whole : pthF [] (A ++ (a, above.length) :: R ++ B) = pthF [] A ++ ((above ++ [which], a) :: ((pthF [] (lowE (above.length + 1) R)).map fun p => (above ++ [which] ++ p.1, p.2)) ++ pthF (above ++ [which] ++ stF [] (lowE (above.length + 1) R)) B) := by
    rw [List.append_assoc, pthF_app]
    show _ ++ (stP (stF [] A) above.length, a) :: pthF (stP (stF [] A) above.length) (R ++ B) = _
    rw [hq, pthF_app, p1, s1]
    simp
  have nA : ∀ p ∈ pthF [] A, p.1.take (above.length + 1) ≠ above ++ [which] := fun p hp => by
    have := pre_lt (pthF_le fA hs hq p hp)
    rwa [hl] at this
  have yP : ∀ p ∈ (above ++ [which], a) :: ((pthF [] (lowE (above.length + 1) R)).map fun p => (above ++ [which] ++ p.1, p.2)), p.1.take (above.length + 1) = above ++ [which] := by
    intro p hp
    rcases List.mem_cons.mp hp with rfl | hp
    · exact List.take_of_length_le (by simp)
    · obtain ⟨p', _, rfl⟩ := List.mem_map.mp hp
      show (above ++ [which] ++ p'.1).take _ = _
      rw [List.take_append_of_le_length (by simp), List.take_of_length_le (by simp)]
  have nB : ∀ p ∈ pthF (above ++ [which] ++ stF [] (lowE (above.length + 1) R)) B, p.1.take (above.length + 1) ≠ above ++ [which] := fun p hp => by
    obtain ⟨s', b⟩ := b3 p hp
    exact bes_pre b
  rw [whole]
  constructor
  · rw [List.filter_append, List.filter_append, List.filter_eq_nil_iff.mpr fun p hp => by simpa using nA p hp, List.filter_eq_self.mpr fun p hp => by simpa using yP p hp, List.filter_eq_nil_iff.mpr fun p hp => by simpa using nB p hp]
    simp
  · rw [List.filter_append, List.filter_append, List.filter_eq_self.mpr fun p hp => by simpa using nA p hp, List.filter_eq_nil_iff.mpr fun p hp => by simpa using yP p hp, List.filter_eq_self.mpr fun p hp => by simpa using nB p hp]
    rw [List.nil_append, List.map_append, ← b2, pthF_app]
    congr 1
    conv => rhs; rw [← List.map_id (pthF [] A)]
    refine List.map_congr_left fun p hp => ?_
    rw [shD_lt (pthF_le fA hs hq p hp)]; rfl
end T

/-! W: paths and places of nodes. -/
namespace T
open PySem PySem.Spec PyProof.Rows L2
theorem Vd.fit : ∀ {d : Doc} {m : Nat}, Vd m d → Fit m d
  | [], _, _ => trivial
  | _ :: _, _, h => ⟨h.2.1, Vd.fit h.2.2⟩
/-- the path of what stands at o, [] for the top -/
def ptO (d : Doc) : Option Nat → List Nat
  | none => []
  | some p => stF [] (d.take (p + 1))
/-- how many of the first n nodes are children of o -/
def cntB (d : Doc) (n : Nat) (o : Option Nat) : Nat := ((List.range n).filter fun c => decide (parA d c = o)).length
theorem cntB_succ {d : Doc} {n : Nat} {o : Option Nat} : cntB d (n + 1) o = cntB d n o + if parA d n = o then 1 else 0 := by
  unfold cntB
  rw [List.range_succ, List.filter_append, List.length_append]
  congr 1
  by_cases c : parA d n = o <;> simp [c]
theorem cntB_self {d : Doc} {n : Nat} : ∀ m, m ≤ n + 1 → cntB d m (some n) = 0 := by
  intro m hm
  unfold cntB
  rw [List.length_eq_zero_iff, List.filter_eq_nil_iff]
  intro c hc
  have hc : c < m := by simpa using hc
  simp
  intro e
  have := par_lt e
  omega
def parO (st : List Nat) (g : Nat) : Option Nat := if g = 0 then none else st[g - 1]?
/-- what stands open ahead of node n, beside the path there -/
structure OpenP (d : Doc) (n : Nat) (st s : List Nat) : Prop where
  path : Path d n st
  len : st.length = s.length
  pre : ∀ i, i < s.length → s.take i = ptO d (parO st i)
  cnt : ∀ i (h : i < s.length), s[i] + 1 = cntB d n (parO st i)
  last : 0 < n → st[st.length - 1]? = some (n - 1) ∧ 0 < st.length
  nil : n = 0 → st = []
  eq : s = stF [] (d.take n)
theorem take_succ' {d : Doc} {n : Nat} (h : n < d.length) : d.take (n + 1) = d.take n ++ [d[n]] := by
  rw [List.take_succ_eq_append_getElem h]
theorem OpenP.pos {d : Doc} {n : Nat} {st s : List Nat} (P : OpenP d n st s) : s.length = 0 → n = 0 := by
  intro h
  rcases Nat.eq_zero_or_pos n with c | c
  · exact c
  · have := (P.last c).2
    have := P.len
    omega
/-- the next path -/
theorem OpenP.next {d : Doc} {n : Nat} {st s : List Nat} (P : OpenP d n st s) (hn : n ≤ d.length) {g : Nat} (hg : g ≤ s.length) : stP s g = ptO d (parO st g) ++ [cntB d n (parO st g)] := by
  by_cases c : g < s.length
  · rw [stP_lt c, P.pre g c, P.cnt g c]
  · have e : g = s.length := by omega
    subst e
    rw [stP_eq rfl]
    by_cases c0 : s.length = 0
    · have n0 := P.pos c0
      have : s = [] := List.eq_nil_of_length_eq_zero c0
      subst this
      subst n0
      rfl
    · have hn0 : 0 < n := by
        rcases Nat.eq_zero_or_pos n with z | z
        · have := P.nil z
          rw [this] at P
          have := P.len
          simp at this
          omega
        · exact z
      have l := (P.last hn0).1
      have e1 : parO st s.length = some (n - 1) := by
        unfold parO
        rw [if_neg c0, ← P.len]; exact l
      rw [e1, cntB_self n (by omega)]
      show s ++ [0] = stF [] (d.take (n - 1 + 1)) ++ [0]
      rw [show n - 1 + 1 = n by omega, ← P.eq]
theorem OpenP.inj {d : Doc} {n : Nat} {st s : List Nat} (P : OpenP d n st s) {i j : Nat} (hi : i < s.length + 1) (hj : j < s.length + 1) (h : parO st i = parO st j) : i = j := by
  have hl := P.len
  unfold parO at h
  by_cases a : i = 0
  · by_cases b : j = 0
    · omega
    · rw [if_pos a, if_neg b] at h
      have : j - 1 < st.length := by omega
      rw [List.getElem?_eq_getElem this] at h; cases h
  · by_cases b : j = 0
    · rw [if_neg a, if_pos b] at h
      have : i - 1 < st.length := by omega
      rw [List.getElem?_eq_getElem this] at h; cases h
    · rw [if_neg a, if_neg b] at h
      have h1 : i - 1 < st.length := by omega
      have h2 : j - 1 < st.length := by omega
      have e1 : st[i - 1]? = some st[i - 1] := by simp [h1]
      have e2 : st[j - 1]? = some st[j - 1] := by simp [h2]
      have q1 := (P.path.at_ _ _ e1).2.1
      rw [h] at e1
      have q2 := (P.path.at_ _ _ e1).2.1
      have q3 := (P.path.at_ _ _ e2).2.1
      rw [e2] at e1
      have e3 := Option.some.inj e1
      rw [e3] at q3
      omega
theorem parO_cut {st : List Nat} {i h n : Nat} (hi : i ≤ h) (hh : h ≤ st.length) : parO (st.take h ++ [n]) i = parO st i := by
  unfold parO
  split
  · rfl
  · rw [List.getElem?_append_left (by rw [List.length_take]; omega), List.getElem?_take, if_pos (by omega)]
theorem open_all {d : Doc} (hv : Vd 0 d) : ∀ n, n ≤ d.length → ∃ st, OpenP d n st (stF [] (d.take n))
  | 0, _ => ⟨[], ⟨⟨fun i k e => by simp at e⟩, rfl, fun i h => absurd h (Nat.not_lt_zero _), fun i h => absurd h (Nat.not_lt_zero _), fun h => absurd h (Nat.lt_irrefl _), fun _ => rfl, rfl⟩⟩
  | n + 1, hn => by
    obtain ⟨st, P⟩ := open_all hv n (by omega)
    have hlt : n < d.length := by omega
    have es : stF [] (d.take (n + 1)) = stP (stF [] (d.take n)) d[n].2 := by rw [take_succ' hlt, stF_app]; rfl
    have hfit := (Fit.app (m := 0) (x := d.take n) (y := d.drop n) (by rw [List.take_append_drop]; exact hv.fit)).2 [] rfl
    rw [List.drop_eq_getElem_cons hlt] at hfit
    have hh := hfit.1
    have hd : depA d n = d[n].2 := depA_at (by simp [hlt])
    generalize hs : stF [] (d.take n) = s at P es hh
    generalize hgg : d[n].2 = h at es hh hd
    have hl := P.len
    have tl : (st.take h).length = h := by rw [List.length_take]; omega
    have hpar : parA d n = parO st h := by
      have := (P.path.pop h).par (n := n) (by rw [tl, hd])
      rw [this, hd]
      unfold parO
      split
      · rfl
      · rw [tl, List.getElem?_take, if_pos (by omega)]
    have nx := P.next (by omega) hh
    refine ⟨st.take h ++ [n], ⟨?_, ?_, ?_, ?_, ?_, ?_, rfl⟩⟩
    · exact (P.path.pop h).push (by rw [tl, hd])
    · rw [es, stP_len hh]; simp [tl]
    · rw [es]
      intro i hi
      rw [stP_len hh] at hi
      rw [parO_cut (by omega) (by omega)]
      rcases Nat.lt_or_ge i h with c | c
      · rw [stP_take hh (by omega)]
        exact P.pre i (by omega)
      · have : i = h := by omega
        subst this
        rw [nx, List.take_append_of_le_length]
        · have := congrArg List.length nx
          rw [stP_len hh] at this
          simp at this
          rw [List.take_of_length_le (by omega)]
        · have := congrArg List.length nx
          rw [stP_len hh] at this
          simp at this
          omega
    · rw [es]
      intro i hi
      rw [stP_len hh] at hi
      rw [parO_cut (by omega) (by omega), cntB_succ, hpar]
      rcases Nat.lt_or_ge i h with c | c
      · rw [if_neg fun e => by have := P.inj (by omega) (by omega) e; omega, Nat.add_zero, ← P.cnt i (by omega)]
        have e := congrArg (fun l => l[i]?) (stP_take hh (Nat.le_refl h))
        simp only [List.getElem?_take, if_pos c] at e
        rw [List.getElem?_eq_getElem (by rw [stP_len hh]; omega), List.getElem?_eq_getElem (by omega)] at e
        rw [Option.some.inj e]
      · have : i = h := by omega
        subst this
        rw [if_pos rfl]
        congr 1
        have len := congrArg List.length nx
        rw [stP_len hh] at len
        simp at len
        have e := congrArg (fun l => l[i]?) nx
        simp only [List.getElem?_append_right (Nat.le_of_eq len.symm)] at e
        rw [List.getElem?_eq_getElem (by rw [stP_len hh]; omega), show i - (ptO d (parO st i)).length = 0 by omega] at e
        exact Option.some.inj e
    · intro _
      simp
    · intro h; omega
/-- the path of a node -/
theorem pt_node {d : Doc} (hv : Vd 0 d) {k : Nat} (hk : k < d.length) : stP (stF [] (d.take k)) (depA d k) = ptO d (parA d k) ++ [cntB d k (parA d k)] ∧ depA d k ≤ (stF [] (d.take k)).length ∧ ptO d (some k) = stP (stF [] (d.take k)) (depA d k) := by
  obtain ⟨st, P⟩ := open_all hv k (by omega)
  have hfit := (Fit.app (m := 0) (x := d.take k) (y := d.drop k) (by rw [List.take_append_drop]; exact hv.fit)).2 [] rfl
  rw [List.drop_eq_getElem_cons hk] at hfit
  have hh := hfit.1
  have hd : depA d k = d[k].2 := depA_at (by simp [hk])
  rw [← hd] at hh
  have hl := P.len
  have tl : (st.take (depA d k)).length = depA d k := by rw [List.length_take]; omega
  have hpar : parA d k = parO st (depA d k) := by
    have := (P.path.pop (depA d k)).par (n := k) tl
    rw [this]
    unfold parO
    split
    · rfl
    · rw [tl, List.getElem?_take, if_pos (by omega)]
  refine ⟨?_, hh, ?_⟩
  · rw [hpar]; exact P.next (by omega) hh
  · show stF [] (d.take (k + 1)) = _
    rw [take_succ' hk, stF_app, hd]; rfl
theorem ptO_len {d : Doc} (hv : Vd 0 d) {k : Nat} (hk : k < d.length) : (ptO d (some k)).length = depA d k + 1 := by
  obtain ⟨_, h2, h3⟩ := pt_node hv hk
  rw [h3, stP_len h2]
/-- where a piece is put -/
def depO (d : Doc) : Option Nat → Nat
  | none => 0
  | some k => depA d k + 1
def endO (d : Doc) : Option Nat → Nat
  | none => d.length
  | some k => endA d k
def spotN (d : Doc) (o : Option Nat) (w : Nat) : Nat := ((chA d o)[w]?).getD (endO d o)
theorem cnt_at {d : Doc} {o : Option Nat} {w c : Nat} (h : (chA d o)[w]? = some c) : cntB d c o = w ∧ parA d c = o ∧ c < d.length := by
  have hm := List.mem_of_getElem? h
  have hm2 := hm
  unfold chA at hm2
  rw [List.mem_filter] at hm2
  have hc : c < d.length := by simpa using hm2.1
  have hp : parA d c = o := by simpa using hm2.2
  refine ⟨?_, hp, hc⟩
  have sp : chA d o = ((List.range c).filter fun c => decide (parA d c = o)) ++ c :: ((List.range' (c + 1) (d.length - (c + 1))).filter fun c => decide (parA d c = o)) := by
    unfold chA
    have : List.range d.length = List.range c ++ c :: List.range' (c + 1) (d.length - (c + 1)) := by
      rw [List.range_eq_range', List.range_eq_range']
      have := range_cut (i := 0) (j := c) (k := d.length) (by omega) (by omega)
      simp only [Nat.sub_zero] at this
      rw [this]
      congr 1
      rw [show d.length - c = (d.length - (c + 1)) + 1 by omega, List.range'_succ]
    rw [this, List.filter_append, List.filter_cons, if_pos (by simpa using hp)]
  have nd : (chA d o).Nodup := List.nodup_range.sublist (List.filter_sublist ..)
  obtain ⟨hw, ew⟩ := List.getElem?_eq_some_iff.mp h
  have e2 : (chA d o)[cntB d c o]? = some c := by
    rw [sp]
    unfold cntB
    rw [List.getElem?_append_right (Nat.le_refl _)]
    simp
  obtain ⟨hw2, ew2⟩ := List.getElem?_eq_some_iff.mp e2
  have q1 := nd.idxOf_getElem w hw
  have q2 := nd.idxOf_getElem _ hw2
  rw [ew] at q1
  rw [ew2] at q2
  exact q2.symm.trans q1
theorem spot_ok {d : Doc} (hv : Vd 0 d) {o : Option Nat} {w : Nat} (ho : ∀ k, o = some k → k < d.length) (hw : w ≤ (chA d o).length) :
    spotN d o w ≤ d.length ∧ (ptO d o).length = depO d o ∧ depO d o ≤ (stF [] (d.take (spotN d o w))).length ∧ stP (stF [] (d.take (spotN d o w))) (depO d o) = ptO d o ++ [w] ∧ ∀ e ∈ (d.drop (spotN d o w)).head?, e.2 ≤ depO d o := by
  have hpl : (ptO d o).length = depO d o := by
    cases o with
    | none => rfl
    | some k => exact ptO_len hv (ho k rfl)
  rcases Nat.lt_or_ge w (chA d o).length with c | c
  · have e1 : (chA d o)[w]? = some (chA d o)[w] := by simp [c]
    have en : spotN d o w = (chA d o)[w] := by unfold spotN; rw [e1]; rfl
    obtain ⟨h1, h2, h3⟩ := cnt_at e1
    rw [en]
    generalize (chA d o)[w] = n at h1 h2 h3
    obtain ⟨p1, p2, p3⟩ := pt_node hv h3
    have hd : depA d n = depO d o := by
      cases o with
      | none => exact (par_none hv h3).mp h2
      | some k => exact ((par_some hv h3 (ho k rfl)).mp h2).2.2
    rw [h2, h1, hd] at p1
    rw [hd] at p2
    refine ⟨by omega, hpl, p2, p1, fun e he => ?_⟩
    rw [List.drop_eq_getElem_cons h3] at he
    cases he
    have : depA d n = d[n].2 := depA_at (by simp [h3])
    omega
  · have e0 : w = (chA d o).length := by omega
    have en : spotN d o w = endO d o := by unfold spotN; rw [List.getElem?_eq_none c]; rfl
    rw [en]
    have hle : endO d o ≤ d.length := by
      cases o with
      | none => exact Nat.le_refl _
      | some k => exact (endA_ok (ho k rfl)).le
    obtain ⟨st, P⟩ := open_all hv (endO d o) hle
    have hl := P.len
    have hcnt : cntB d (endO d o) o = w := by
      rw [e0]
      unfold cntB chA
      cases o with
      | none => rfl
      | some k =>
        have hk := ho k rfl
        have E := endA_ok hk
        congr 1
        have h0 : List.range d.length = List.range (endA d k) ++ List.range' (endA d k) (d.length - endA d k) := by
          rw [List.range_eq_range', List.range_eq_range']
          have := range_cut (i := 0) (j := endA d k) (k := d.length) (by omega) E.le
          simpa only [Nat.sub_zero] using this
        show (List.range (endA d k)).filter _ = _
        rw [h0, List.filter_append]
        conv => lhs; rw [← List.append_nil ((List.range (endA d k)).filter fun c => decide (parA d c = some k))]
        congr 1
        symm
        rw [List.filter_eq_nil_iff]
        intro x hx
        have := List.mem_range'.mp hx
        obtain ⟨i, hi, rfl⟩ := this
        simp
        intro e
        have := ((par_some hv (by omega) hk).mp e).2.1
        omega
    have hsl : depO d o ≤ (stF [] (d.take (endO d o))).length ∧ parO st (depO d o) = o := by
      cases o with
      | none => exact ⟨Nat.zero_le _, rfl⟩
      | some k =>
        have hk := ho k rfl
        have E := endA_ok hk
        have lt := E.lt
        have l := (P.last (show 0 < endA d k by omega))
        have q := P.path.at_ _ _ l.1
        have dl : depA d k ≤ depA d (endA d k - 1) := by
          rcases Nat.lt_or_ge k (endA d k - 1) with c2 | c2
          · exact Nat.le_of_lt (E.deep _ c2 (by omega))
          · have : k = endA d k - 1 := by omega
            rw [← this]; exact Nat.le_refl _
        have hge : depA d k < st.length := by
          have := q.2.1
          simp only [endO] at this l
          omega
        refine ⟨by show depA d k + 1 ≤ _; omega, ?_⟩
        show (if depA d k + 1 = 0 then none else st[depA d k + 1 - 1]?) = some k
        rw [if_neg (by omega), Nat.add_sub_cancel]
        have e1 : st[depA d k]? = some st[depA d k] := by simp [hge]
        rw [e1]
        obtain ⟨q1, q2, q3⟩ := P.path.at_ _ _ e1
        congr 1
        generalize st[depA d k] = j at q1 q2 q3
        rcases Nat.lt_trichotomy j k with c2 | c2 | c2
        · have := q3 k c2 lt; omega
        · exact c2
        · have := E.deep j c2 q1; omega
    refine ⟨hle, hpl, hsl.1, ?_, fun e he => ?_⟩
    · rw [P.next hle hsl.1, hsl.2, hcnt]
    · cases o with
      | none =>
        have : d.drop d.length = [] := List.drop_length
        simp only [endO, this] at he
        cases he
      | some k =>
        have E := endA_ok (ho k rfl)
        simp only [endO] at he
        by_cases c2 : endA d k < d.length
        · rw [List.drop_eq_getElem_cons c2] at he
          cases he
          have := E.stop c2
          have hd : depA d (endA d k) = d[endA d k].2 := depA_at (by simp [c2])
          show _ ≤ depA d k + 1
          omega
        · rw [List.drop_of_length_le (by omega)] at he
          cases he
end T

/-! X: places. -/
namespace T
open PySem PySem.Spec PyProof.Rows L2
def placeT (o : Option Nat) (w : Nat) : Tr := .tup [optT o, .int w]
def okO (d : Doc) (o : Option Nat) : Prop := ∀ k, o = some k → k < d.length
end T

/-! Y: rows and places of children, plain. -/
namespace T
open PySem PySem.Spec PyProof.Rows L2
theorem blw_nat {k n : Nat} (h : k < n) : blw (.int k) (n : Int) = true := by simp; omega
@[simp ↓] theorem kL_doc {d : Doc} {M : Ms} {PN : Nat → Prop} : kL (docT d) M PN = PN d.length := by unfold docT; simp
theorem ch_mem {d : Doc} {k : Nat} (hk : k < d.length) : k ∈ chA d (parA d k) := by
  unfold chA
  rw [List.mem_filter]
  exact ⟨by simpa using hk, by simp⟩
theorem ch_idx {d : Doc} {k : Nat} (hk : k < d.length) : (chA d (parA d k))[cntB d k (parA d k)]? = some k := by
  obtain ⟨w, hw⟩ := List.getElem?_of_mem (ch_mem hk)
  rw [(cnt_at hw).1]; exact hw
theorem ch_nd {d : Doc} {o : Option Nat} : (chA d o).Nodup := List.nodup_range.sublist (List.filter_sublist ..)
theorem idx_ch {d : Doc} {o : Option Nat} {k w : Nat} {a : Addr} {M : Ms} {Q : Q2} {fx : Fx Q} (ea : M a = some (.lst (chT d o))) (hw : (chA d o)[w]? = some k) (hq : Q (.int (w : Nat)) M) : IdxS a (natT k) M Q fx := by
  refine ⟨_, w, natT k, ea, rfl, ?_, ?_, ?_, ?_, hq⟩
  · unfold chT; rw [List.all_map, List.all_eq_true]; exact fun _ _ => rfl
  · unfold chT; rw [List.getElem?_map, hw]; rfl
  · exact beq_self_eq_true _
  · intro m z' hm hz
    unfold chT at hz
    rw [List.getElem?_map] at hz
    cases ec : (chA d o)[m]? with
    | none => rw [ec] at hz; cases hz
    | some c =>
      rw [ec] at hz
      have : natT c = z' := by simpa using hz
      subst this
      have h1 := (cnt_at ec).1
      have h2 := (cnt_at hw).1
      have ne : c ≠ k := fun e => by subst e; omega
      show ((c : Int) == (k : Int)) = false
      rw [beq_eq_false_iff_ne]; omega
end T

/-! I: need_document of any thing. -/
namespace T
open PySem PySem.Spec PyProof.Rows L2
def spx_need_document (cn : Cn) : Sp2 := A1 fun a M Q E => Wf M a ∧ ((docB a = false ∧ E (cn.cl "BadDocument") none M) ∨ ∃ d, a = docT d ∧ Val d ∧ Q .non M)
def bx_need_document (cn : Cn) : TS2 := (sIf (tNo (tTr (eCall sp_is_forest [] (aCons (eVar 0) aNil)))) (sRaise (cn.cl "BadDocument")) sNx)
theorem semx_need_document (cn : Cn) : ∀ ds M Q E, spx_need_document cn ds M Q E → bx_need_document cn (fEnds Q E) (start2 n_need_document ds) M := by
  rintro ds M Q E ⟨a, rfl, hw, h⟩
  simp only [bx_need_document, start2, n_need_document]
  rcases h with ⟨hd, hq⟩ | ⟨d, rfl, hv, hq⟩
  · simp
    refine ⟨_, rfl, .inr ⟨hw, ?_⟩⟩
    rw [hd]
    simp
    exact FgX.same hq
  · simp
    refine ⟨_, rfl, .inl ⟨d, rfl, hv, ?_⟩⟩
    simp
    exact Fg.same hq
end T

/-! L: the functions of documents, of any thing. -/
namespace T
open PySem PySem.Spec PyProof.Rows L2
/-- a document is wanted -/
def DocAsk (cn : Cn) (M : Ms) (E : X2) (a : Tr) (P : Doc → Prop) : Prop := Wf M a ∧ ((docB a = false ∧ E (cn.cl "BadDocument") none M) ∨ ∃ d, a = docT d ∧ Val d ∧ P d)
def spx_need_node (cn : Cn) : Sp2 := A2 fun a b M Q E => ∃ (d : Doc) (t : String), a = docT d ∧ tyT b M = some t ∧ (blw b (d.length : Int) = true → Q .non M) ∧ (blw b (d.length : Int) = false → E (cn.cl "BadNode") none M)
def bx_need_node (cn : Cn) : TS2 := (sIf (tNo (tTr (eCall sp_is_below [] (aCons (eVar 1) (aCons (eB rLen2 (aCons (eVar 0) aNil)) aNil))))) (sRaise (cn.cl "BadNode")) sNx)
theorem semx_need_node (cn : Cn) : ∀ ds M Q E, spx_need_node cn ds M Q E → bx_need_node cn (fEnds Q E) (start2 n_need_node ds) M := by
  rintro ds M Q E ⟨a, b, rfl, d, t, rfl, ht, h1, h2⟩
  simp only [bx_need_node, start2, n_need_node]
  simp
  refine ⟨_, _, rfl, t, (d.length : Int), ht, rfl, ?_⟩
  cases c : blw b (d.length : Int) with
  | true =>
    simp
    exact Fg.same (h1 c)
  | false =>
    simp
    exact FgX.same (h2 c)
theorem blw_natL {k n : Nat} (h : k < n) : blw (.int k) (n : Int) = true := by simp; omega
def spx_parents (cn : Cn) : Sp2 := A1 fun a M Q E => DocAsk cn M E a fun d => Q (.tup (parsT d d.length)) M
def bx_parents (cn : Cn) : TS2 := (sSq (sDr (eCall (spx_need_document cn) [] (aCons (eVar 0) aNil)))
  (sRt (eB rTuple2 (aCons (eCall sp_parents_of [] (aCons (eVar 0) aNil)) aNil))))
theorem semx_parents (cn : Cn) : ∀ ds M Q E, spx_parents cn ds M Q E → bx_parents cn (fEnds Q E) (start2 n_parents ds) M := by
  rintro ds M Q E ⟨a, rfl, h⟩
  simp only [bx_parents, start2, n_parents]
  simp
  rcases h with ⟨wa, ⟨hd, hE⟩ | ⟨d, rfl, hv, hq⟩⟩
  · exact ⟨_, rfl, wa, .inl ⟨hd, FgX.same hE⟩⟩
  refine ⟨_, rfl, wa, .inr ⟨d, rfl, hv, ?_⟩⟩
  have hl := hv.2
  simp
  refine ⟨_, rfl, d, rfl, hv, fun p hp => ?_⟩
  simp
  exact Fg.le (Le.new hp) hq
def spx_sizes (cn : Cn) : Sp2 := A1 fun a M Q E => DocAsk cn M E a fun d => Q (.tup (sizT d)) M
def bx_sizes (cn : Cn) : TS2 := (sSq (sDr (eCall (spx_need_document cn) [] (aCons (eVar 0) aNil)))
  (sRt (eB rTuple2 (aCons (eLc (iEn (aCons (eCall sp_ends_of [] (aCons (eVar 0) aNil)) aNil)) (gT 2 (gCo (gN 1) (gCo (gN 2) gNil2))) tYes2 (eOp rSub2 (eVar 2) (eVar 1)) [1, 2]) aNil))))
theorem semx_sizes (cn : Cn) : ∀ ds M Q E, spx_sizes cn ds M Q E → bx_sizes cn (fEnds Q E) (start2 n_sizes ds) M := by
  rintro ds M Q E ⟨a, rfl, h⟩
  simp only [bx_sizes, start2, n_sizes]
  simp
  rcases h with ⟨wa, ⟨hd, hE⟩ | ⟨d, rfl, hv, hq⟩⟩
  · exact ⟨_, rfl, wa, .inl ⟨hd, FgX.same hE⟩⟩
  refine ⟨_, rfl, wa, .inr ⟨d, rfl, hv, ?_⟩⟩
  have hl := hv.2
  simp
  refine ⟨_, rfl, d, rfl, hv, fun g hg => ?_⟩
  simp
  have hl := hv.2
  have el : (endsT d).length = d.length := by simp [endsT]
  refine fun p hp => lc_fmE (fun k => some (.int ((endA d k : Int) - k))) (by rw [el]; omega) (fun M' fr => seqT_lst (by rw [fr g (by intro e; subst e; rw [up_same] at hp; cases hp)]; exact up_same)) ?_ ?_
  · rw [fm_all, el]
    simp
    exact Fg.le ((Le.new hg).trans (Le.new hp)) hq
  · intro i e M' he fr KY KN h1 h2
    have hi : i < d.length := by have := (List.getElem?_eq_some_iff.mp he).1; omega
    have : (endsT d)[i]? = some (natT (endA d i)) := by simp [endsT, hi]
    rw [this] at he
    cases he
    simp [wipe2]
    exact h1 _ rfl
def spx_depth_of (cn : Cn) : Sp2 := A1 fun a M Q E => DocAsk cn M E a fun d => Q (.int (mxD (depL d) 0)) M
def bx_depth_of (cn : Cn) : TS2 := (sSq (sDr (eCall (spx_need_document cn) [] (aCons (eVar 0) aNil)))
  (sRt (eBK rMaxD (aCons (eLc (iSq (eVar 0)) (gT 2 (gCo (gN 1) (gCo (gN 2) gNil2))) tYes2 (eOp rAdd2 (eVar 2) (eC (.int 1))) [1, 2]) aNil) (aCons (eC (.int 0)) aNil))))
theorem semx_depth_of (cn : Cn) : ∀ ds M Q E, spx_depth_of cn ds M Q E → bx_depth_of cn (fEnds Q E) (start2 n_depth_of ds) M := by
  rintro ds M Q E ⟨a, rfl, h⟩
  simp only [bx_depth_of, start2, n_depth_of]
  simp
  rcases h with ⟨wa, ⟨hd, hE⟩ | ⟨d, rfl, hv, hq⟩⟩
  · exact ⟨_, rfl, wa, .inl ⟨hd, FgX.same hE⟩⟩
  refine ⟨_, rfl, wa, .inr ⟨d, rfl, hv, ?_⟩⟩
  have hl := hv.2
  simp [docT]
  refine fun p hp => lc_fmL (fun k => some (.int ((depA d k : Int) + 1))) (by rw [List.length_map]; omega) (fun M' fr => rfl) ?_ ?_
  · simp only [aNil_ap, eC_ap, aCons_ap]
    rw [fm_all, List.length_map]
    simp
    refine ⟨depL d, seqT_lst ?_, (fun _ e => nomatch e), Fg.le (Le.new hp) hq⟩
    rw [up_same]
    congr 2
    apply List.ext_getElem?
    intro k
    rw [List.getElem?_map, List.getElem?_map]
    unfold depL
    rw [List.getElem?_map]
    by_cases hk : k < d.length
    · rw [List.getElem?_range hk]
      have : d[k]? = some d[k] := by simp [hk]
      rw [this, Option.map_some, Option.map_some, Option.map_some, depA_at this]
    · rw [List.getElem?_eq_none (by simp; omega), List.getElem?_eq_none (by omega)]; rfl
  · intro i e M' he fr KY KN h1 h2
    obtain ⟨en, hen, rfl⟩ := ent_at he
    simp [wipe2]
    exact h1 _ rfl
def spx_breadth_of (cn : Cn) : Sp2 := A1 fun a M Q E => DocAsk cn M E a fun d => ∀ m, IsMx (rowsL d) m → Q (.int m) M
def bx_breadth_of (cn : Cn) : TS2 := (sSq (sDr (eCall (spx_need_document cn) [] (aCons (eVar 0) aNil)))
  (sRt (eB (rMaxL fun y m => y ≤ m) (aCons (eLc (iSq (eCall sp_rows_of [] (aCons (eVar 0) aNil))) (gN 1) tYes2 (eB rLen2 (aCons (eVar 1) aNil)) [1]) aNil))))
theorem semx_breadth_of (cn : Cn) : ∀ ds M Q E, spx_breadth_of cn ds M Q E → bx_breadth_of cn (fEnds Q E) (start2 n_breadth_of ds) M := by
  rintro ds M Q E ⟨a, rfl, h⟩
  simp only [bx_breadth_of, start2, n_breadth_of]
  simp
  rcases h with ⟨wa, ⟨hd, hE⟩ | ⟨d, rfl, hv, hq⟩⟩
  · exact ⟨_, rfl, wa, .inl ⟨hd, FgX.same hE⟩⟩
  refine ⟨_, rfl, wa, .inr ⟨d, rfl, hv, ?_⟩⟩
  have hl := hv.2
  simp
  refine ⟨_, rfl, d, rfl, hv, fun M' p qs hp h1 h2 h3 h4 h5 h6 => ?_⟩
  simp [h4]
  refine fun g hg => lc_fmL (fun k => some (.int ((rowI d k d.length).length : Int))) (by rw [List.length_map]; omega) (fun M2 fr => seqT_lst (by rw [fr p (m_ne h4 hg)]; exact h4)) ?_ ?_
  · rw [fm_all, List.length_map, h1]
    simp
    refine ⟨rowsL d, seqT_lst ?_, (fun _ e => nomatch e), ?_, fun m m1 m2 => Fg.le (h6.trans (Le.new hg)) (hq m ⟨m1, m2⟩)⟩
    · rw [up_same]; simp [rowsL]
    · simp [rowsL]
  · intro i e M2 he fr KY KN h7 h8
    rw [List.getElem?_map] at he
    cases hc : qs[i]? with
    | none => rw [hc] at he; cases he
    | some q =>
      rw [hc] at he
      cases he
      have e5 := h5 i q hc
      have : M2 q = some (.lst (rowI d i d.length)) := by rw [fr q (m_ne e5 hg)]; exact e5
      simp [wipe2, this]
      exact h7 _ rfl
def spx_flipped (cn : Cn) : Sp2 := A1 fun a M Q E => DocAsk cn M E a fun d => Q (.tup ((FO d).map (entAt d))) M
def bx_flipped (cn : Cn) : TS2 := (sSq (sDr (eCall (spx_need_document cn) [] (aCons (eVar 0) aNil)))
  (sSq (sAs (eCall sp_rows_of [] (aCons (eVar 0) aNil)) (gN 1))
  (sSq (sAs (eLst aNil) (gN 2))
  (sSq (sAs (eM0 "list" rPop2 (eVar 1)) (gN 3))
  (sSq (sWh (tCm (eOp rGtI (eB rLen2 (aCons (eVar 3) aNil)) (eC (.int 0)))) (sSq (sAs (eM0 "list" rPop2 (eVar 3)) (gN 4))
  (sSq (sDr (eM "list" rApp2 (eVar 2) (aCons (eOp rIx2 (eVar 0) (eVar 4)) aNil)))
  (sDr (eM "list" rExt2 (eVar 3) (aCons (eOp rIx2 (eVar 1) (eVar 4)) aNil))))))
  (sRt (eB rTuple2 (aCons (eVar 2) aNil))))))))
theorem semx_flipped (cn : Cn) : ∀ ds M Q E, spx_flipped cn ds M Q E → bx_flipped cn (fEnds Q E) (start2 n_flipped ds) M := by
  rintro ds M Q E ⟨a, rfl, h⟩
  simp only [bx_flipped, start2, n_flipped]
  simp
  rcases h with ⟨wa, ⟨hd, hE⟩ | ⟨d, rfl, hv, hq⟩⟩
  · exact ⟨_, rfl, wa, .inl ⟨hd, FgX.same hE⟩⟩
  refine ⟨_, rfl, wa, .inr ⟨d, rfl, hv, ?_⟩⟩
  have hl := hv.2
  have hFO : (FO d).length ≤ 100000 := by rw [FO_len hv.1]; omega
  simp
  refine ⟨_, rfl, d, rfl, hv, fun M1 p qs hp hqs hnd hfr ep erow L1 => ?_⟩
  simp
  intro g hg
  have pg : p ≠ g := m_ne ep hg
  have hqn : d.length < qs.length := by omega
  have eqn : qs[d.length]? = some qs[d.length] := by simp [hqn]
  have elast : (qs.map Tr.loc)[(qs.map Tr.loc).length - 1]? = some (.loc qs[d.length]) := by
    rw [List.length_map, show qs.length - 1 = d.length by omega]; simp [hqn]
  have mg : M g = none := Le.none L1 hg
  simp [up_ne pg, ep, ↓kLast_of elast]
  generalize hw : qs[d.length] = w at eqn elast
  have hwm : w ∈ qs := List.mem_of_getElem? eqn
  have mw := (hfr w hwm).1
  have wp := (hfr w hwm).2
  have ew := erow _ _ eqn
  have wg : w ≠ g := m_ne ew hg
  have qw : ∀ k q, k < d.length → qs[k]? = some q → q ≠ w := fun k q hk hq1 e => by
    subst e
    obtain ⟨h1, h2⟩ := List.getElem?_eq_some_iff.mp hq1
    obtain ⟨h3, h4⟩ := List.getElem?_eq_some_iff.mp eqn
    have := (List.getElem_inj hnd).mp (h2.trans h4.symm)
    omega
  rw [rowI_root] at ew
  refine sWh_of (fun m σ M2 => ∃ (out S : List Nat) (x : Option Tr), σ = [some (docT d), some (.loc p), some (.loc g), some (.loc w), x] ∧ M2 p = some (.lst (qs.map Tr.loc).dropLast) ∧ M2 g = some (.lst (out.map (entAt d))) ∧ M2 w = some (.lst (S.map natT)) ∧
    (∀ k q, k < d.length → qs[k]? = some q → M2 q = some (.lst (rowI d k d.length))) ∧ (∀ a o, M a = some o → M2 a = some o) ∧ out ++ S.reverse.flatMap (FL d) = FO d ∧ (S.reverse.flatMap (FL d)).length = m ∧ ∀ s ∈ S, s < d.length) ((chA d none).reverse.flatMap (FL d)).length ?_ ?_
  · refine ⟨[], chA d none, none, rfl, up_same, by rw [up_ne (fun e => pg e.symm), up_same]; rfl, by rw [up_ne wp, up_ne wg]; exact ew, fun k q hk hq1 => ?_, fun a o h => ?_, rfl, rfl, fun c hc => ?_⟩
    · have hqm := List.mem_of_getElem? hq1
      have e := erow k q hq1
      rw [up_ne (hfr q hqm).2, up_ne (m_ne e hg)]; exact e
    · rw [up_ne (m_ne h hp), up_ne (m_ne h mg)]; exact L1 a o h
    · unfold chA at hc
      rw [List.mem_filter] at hc
      simpa using hc.1
  · rintro m σ M2 ⟨out, S, x, rfl, e1, e2, e3, e4, fr, e5, e6, e7⟩
    have hout : out.length + (S.reverse.flatMap (FL d)).length = (FO d).length := by rw [← e5, List.length_append]
    simp [e3]
    by_cases c : S = []
    · subst c
      simp [e2]
      simp at e5
      rw [e5]
      exact Fg.le fr hq
    · obtain ⟨S0, r, rfl⟩ : ∃ S0 r, S = S0 ++ [r] := ⟨S.dropLast, S.getLast c, (List.dropLast_concat_getLast c).symm⟩
      have hr := e7 r (by simp)
      have hrq : r < qs.length := by omega
      have eqr : qs[r]? = some qs[r] := by simp [hrq]
      have erow2 := e4 r _ hr eqr
      rw [rowI_ch hr] at erow2
      have rw2 := qw r _ hr eqr
      have edl : ((qs.map Tr.loc).dropLast)[r]? = some (.loc qs[r]) := by
        rw [List.getElem?_dropLast, if_pos (by simp; omega)]
        simp [hrq]
      have eFL : (S0 ++ [r]).reverse.flatMap (FL d) = r :: ((S0 ++ chA d (some r)).reverse.flatMap (FL d)) := by
        rw [List.reverse_append, List.reverse_append, List.flatMap_append, List.flatMap_append]
        simp only [List.reverse_cons, List.reverse_nil, List.nil_append, List.flatMap_cons, List.flatMap_nil, List.append_nil]
        rw [FL_eq]
        simp
      have hlen := @fl_len d (S0 ++ chA d (some r)).reverse
      rw [eFL, List.length_cons] at hout e6
      rw [List.length_reverse, List.length_append] at hlen
      rw [if_pos (by simp)]
      refine WhT.of fun NX hN => ?_
      have gw : g ≠ w := fun e => wg e.symm
      have pw : p ≠ w := fun e => wp e.symm
      have gp : g ≠ p := fun e => pg e.symm
      have hqm := List.mem_of_getElem? eqr
      have rg : qs[r] ≠ g := by
        have e := erow r _ eqr
        exact m_ne e hg
      have e3' : M2 w = some (.lst (S0.map natT ++ [natT r])) := by rw [e3, List.map_append]; rfl
      have hz1 : out.length < sizeLine := small_lt (by omega)
      simp [docT, e3', up_ne gw, up_ne pw, up_ne rw2, up_ne gp, up_ne pg, up_ne wg, up_ne rg, e1, e2, hz1, ↓kAt_get edl, ↓kAt_get (entAt_get hr), erow2]
      refine ⟨small_line (by omega), hN _ _ _ ?_ ⟨out ++ [r], S0 ++ chA d (some r), _, rfl, ?_, ?_, ?_, fun k q hk hq1 => ?_, fun a o h => ?_, ?_, rfl, fun s hs => ?_⟩⟩
      · omega
      · rw [up_ne pw, up_ne pg, up_ne pw]; exact e1
      · rw [up_ne gw, up_same]; simp
      · rw [up_same]; simp
      · have h1 := qw k q hk hq1
        have h2 : q ≠ g := m_ne (erow k q hq1) hg
        rw [up_ne h1, up_ne h2, up_ne h1]; exact e4 k q hk hq1
      · have h1 : a ≠ w := m_ne h mw
        have h2 : a ≠ g := m_ne h mg
        rw [up_ne h1, up_ne h2, up_ne h1]; exact fr a o h
      · rw [List.append_assoc]
        rw [eFL] at e5
        simpa using e5
      · rcases List.mem_append.mp hs with h | h
        · exact e7 s (by simp [h])
        · exact (ch_lt h).2
def spx_write_document (cn : Cn) : Sp2 := A1 fun a M Q E => DocAsk cn M E a fun d => Q (.str (sOf (textG 0 d))) M
def bx_write_document (cn : Cn) : TS2 := (sSq (sDr (eCall (spx_need_document cn) [] (aCons (eVar 0) aNil)))
  (sRt (eCall sp_text_of [] (aCons (eVar 0) aNil))))
theorem semx_write_document (cn : Cn) : ∀ ds M Q E, spx_write_document cn ds M Q E → bx_write_document cn (fEnds Q E) (start2 n_write_document ds) M := by
  rintro ds M Q E ⟨a, rfl, h⟩
  simp only [bx_write_document, start2, n_write_document]
  simp
  rcases h with ⟨wa, ⟨hd, hE⟩ | ⟨d, rfl, hv, hq⟩⟩
  · exact ⟨_, rfl, wa, .inl ⟨hd, FgX.same hE⟩⟩
  refine ⟨_, rfl, wa, .inr ⟨d, rfl, hv, ?_⟩⟩
  have hl := hv.2
  simp
  exact ⟨_, rfl, d, rfl, hv, Fg.same hq⟩
def spx_piece_of (cn : Cn) : Sp2 := A2 fun a b M Q E => DocAsk cn M E a fun d => (∃ (t : String), tyT b M = some t) ∧ ((blw b (d.length : Int) = false ∧ E (cn.cl "BadNode") none M) ∨ ∃ k : Nat, b = .int k ∧ k < d.length ∧ Q (docT (subD d k)) M)
def bx_piece_of (cn : Cn) : TS2 := (sSq (sDr (eCall (spx_need_document cn) [] (aCons (eVar 0) aNil)))
  (sSq (sDr (eCall (spx_need_node cn) [] (aCons (eVar 0) (aCons (eVar 1) aNil))))
  (sRt (eCall sp_lowered [] (aCons (eVar 0) (aCons (eVar 1) (aCons (eCall sp_end_of [] (aCons (eVar 0) (aCons (eVar 1) aNil))) (aCons (eC (.int 0)) aNil))))))))
theorem semx_piece_of (cn : Cn) : ∀ ds M Q E, spx_piece_of cn ds M Q E → bx_piece_of cn (fEnds Q E) (start2 n_piece_of ds) M := by
  rintro ds M Q E ⟨a, b, rfl, h⟩
  simp only [bx_piece_of, start2, n_piece_of]
  simp
  rcases h with ⟨wa, ⟨hd, hE⟩ | ⟨d, rfl, hv, hq⟩⟩
  · exact ⟨_, rfl, wa, .inl ⟨hd, FgX.same hE⟩⟩
  refine ⟨_, rfl, wa, .inr ⟨d, rfl, hv, ?_⟩⟩
  have hl := hv.2
  simp
  obtain ⟨⟨tb, htb⟩, ⟨hb, hE⟩ | ⟨k, rfl, hk, hq⟩⟩ := hq
  · exact ⟨_, _, rfl, d, tb, rfl, htb, (fun h => by rw [hb] at h; cases h), fun _ => FgX.same hE⟩
  refine ⟨_, _, rfl, d, "int", rfl, rfl, fun _ => ?_, fun h => by rw [blw_natL hk] at h; cases h⟩
  simp
  refine ⟨_, _, rfl, d, k, rfl, rfl, hk, ?_⟩
  simp
  have E1 := endA_ok hk
  exact ⟨_, _, _, _, rfl, d, k, endA d k, 0, rfl, rfl, rfl, rfl, Nat.le_of_lt E1.lt, E1.le, hv.2, fun x hx => sub_ge hk x hx, Fg.same (by rw [reD_sub]; exact hq)⟩
def spx_place_of (cn : Cn) : Sp2 := A2 fun a b M Q E => DocAsk cn M E a fun d => (∃ (t : String), tyT b M = some t) ∧ ((blw b (d.length : Int) = false ∧ E (cn.cl "BadNode") none M) ∨ ∃ k : Nat, b = .int k ∧ k < d.length ∧ Q (placeT (parA d k) (cntB d k (parA d k))) M)
def n_place_of : List Str := "document" :: "node" :: "parent" :: []
def bx_place_of_1 (cn : Cn) : TS2 := (sRt (eTup (aCons (eVar 2) (aCons (eM "list" rIdx2 (eCall sp_row_of [] (aCons (eVar 0) (aCons (eVar 2) aNil))) (aCons (eVar 1) aNil)) aNil))))
def bx_place_of_2 (cn : Cn) : TS2 := (sSq (sAs (eOp rIx2 (eCall sp_parents_of [] (aCons (eVar 0) aNil)) (eVar 1)) (gN 2))
  (bx_place_of_1 cn))
def bx_place_of_3 (cn : Cn) : TS2 := (sSq (sDr (eCall (spx_need_node cn) [] (aCons (eVar 0) (aCons (eVar 1) aNil))))
  (bx_place_of_2 cn))
def bx_place_of (cn : Cn) : TS2 := (sSq (sDr (eCall (spx_need_document cn) [] (aCons (eVar 0) aNil)))
  (bx_place_of_3 cn))
theorem semx_place_of (cn : Cn) : ∀ ds M Q E, spx_place_of cn ds M Q E → bx_place_of cn (fEnds Q E) (start2 n_place_of ds) M := by
  rintro ds M Q E ⟨a, b, rfl, h⟩
  have l2 : 2 ≤ sizeLine := small_line (by decide)
  simp only [bx_place_of, start2, n_place_of]
  simp
  rcases h with ⟨wa, ⟨hd, hE⟩ | ⟨d, rfl, hv, hq⟩⟩
  · exact ⟨_, rfl, wa, .inl ⟨hd, FgX.same hE⟩⟩
  refine ⟨_, rfl, wa, .inr ⟨d, rfl, hv, ?_⟩⟩
  have hl := hv.2
  simp
  simp only [bx_place_of_3]
  simp
  obtain ⟨⟨tb, htb⟩, ⟨hb, hE⟩ | ⟨k, rfl, hk, hq⟩⟩ := hq
  · exact ⟨_, _, rfl, d, tb, rfl, htb, (fun h => by rw [hb] at h; cases h), fun _ => FgX.same hE⟩
  refine ⟨_, _, rfl, d, "int", rfl, rfl, fun _ => ?_, fun h => by rw [blw_natL hk] at h; cases h⟩
  simp
  simp only [bx_place_of_2]
  simp
  refine ⟨_, rfl, d, rfl, hv, fun p hp => ?_⟩
  have L1 : Le M (up M p (.lst (parsT d d.length))) := Le.new hp
  have ep : up M p (.lst (parsT d d.length)) p = some (.lst (parsT d d.length)) := up_same
  generalize up M p (.lst (parsT d d.length)) = M1 at L1 ep
  have e1 : (parsT d d.length)[k]? = some (optT (parA d k)) := by simp [parsT, hk]
  simp [ep, ↓kAt_get e1]
  simp only [bx_place_of_1]
  simp
  refine ⟨_, _, rfl, d, parA d k, rfl, rfl, hv, fun j hj => Nat.lt_trans (par_lt hj) hk, fun q hq1 => ?_⟩
  have eq1 : up M1 q (.lst (chT d (parA d k))) q = some (.lst (chT d (parA d k))) := up_same
  simp [eq1]
  refine idx_ch eq1 (ch_idx hk) ?_
  simp [l2]
  exact Fg.le (L1.trans (Le.new hq1)) hq
def spx_children (cn : Cn) : Sp2 := A2 fun a b M Q E => DocAsk cn M E a fun d => (∃ (t : String), tyT b M = some t) ∧ ((isNon b = false ∧ blw b (d.length : Int) = false ∧ E (cn.cl "BadNode") none M) ∨ ∃ o : Option Nat, b = optT o ∧ (∀ k, o = some k → k < d.length) ∧ Q (.tup (chT d o)) M)
def bx_children_1 (cn : Cn) : TS2 := (sRt (eB rTuple2 (aCons (eCall sp_row_of [] (aCons (eVar 0) (aCons (eVar 1) aNil))) aNil)))
def bx_children_2 (cn : Cn) : TS2 := (sSq (sIf (tAn (tCm (eOp (rIsG not) (eVar 1) (eC .non))) (tNo (tTr (eCall sp_is_below [] (aCons (eVar 1) (aCons (eB rLen2 (aCons (eVar 0) aNil)) aNil)))))) (sRaise (cn.cl "BadNode")) sNx)
  (bx_children_1 cn))
def bx_children (cn : Cn) : TS2 := (sSq (sDr (eCall (spx_need_document cn) [] (aCons (eVar 0) aNil)))
  (bx_children_2 cn))
theorem semx_children (cn : Cn) : ∀ ds M Q E, spx_children cn ds M Q E → bx_children cn (fEnds Q E) (start2 n_children ds) M := by
  rintro ds M Q E ⟨a, b, rfl, h⟩
  simp only [bx_children, start2, n_children]
  simp
  rcases h with ⟨wa, ⟨hd, hE⟩ | ⟨d, rfl, hv, ⟨tb, htb⟩, h⟩⟩
  · exact ⟨_, rfl, wa, .inl ⟨hd, FgX.same hE⟩⟩
  refine ⟨_, rfl, wa, .inr ⟨d, rfl, hv, ?_⟩⟩
  simp
  simp only [bx_children_2]
  rcases h with ⟨hn, hb, hE⟩ | ⟨o, rfl, ho, hq⟩
  · simp [hn, docT]
    refine ⟨_, _, rfl, tb, d.length, htb, rfl, ?_⟩
    rw [hb]
    simp
    exact FgX.same hE
  cases o with
  | none =>
    simp [optT]
    simp only [bx_children_1]
    simp
    exact ⟨_, _, rfl, d, none, rfl, rfl, hv, ho, fun p hp => by simp; exact Fg.le (Le.new hp) hq⟩
  | some k =>
    have hk := ho k rfl
    simp [optT, docT]
    refine ⟨_, _, rfl, "int", d.length, rfl, rfl, ?_⟩
    rw [blw_natL hk]
    simp
    simp only [bx_children_1]
    simp
    exact ⟨_, _, rfl, d, some k, rfl, rfl, hv, ho, fun p hp => by simp; exact Fg.le (Le.new hp) hq⟩
end T

/-! L: is_place and node_at of any thing. -/
namespace T
open PySem PySem.Spec PyProof.Rows L2
/-- a place of a child -/
def PlIs (d : Doc) (a : Tr) : Prop := ∃ (o : Option Nat) (w : Nat), a = placeT o w ∧ okO d o ∧ w < (chA d o).length
def sp_is_place : Sp2 := A3 fun a b c M Q _ => ∃ (d : Doc), b = docT d ∧ c = .int 0 ∧ Val d ∧ Wf M a ∧ (PlIs d a → Q (.bl true) M) ∧ (¬ PlIs d a → Q (.bl false) M)
theorem place_two {d : Doc} {l : List Tr} (h : PlIs d (.tup l)) : l.length = 2 := by
  obtain ⟨o, w, e, _⟩ := h
  injection e with e
  rw [e]; rfl
theorem place_par {d : Doc} {x y : Tr} (h : PlIs d (.tup [x, y])) (hn : isNon x = false) : blw x (d.length : Int) = true := by
  obtain ⟨o, w, e, ho, _⟩ := h
  injection e with e
  injection e with e1 e2
  subst e1
  cases o with
  | none => cases hn
  | some k => exact blw_natL (ho k rfl)
theorem place_y {d : Doc} {x y : Tr} (h : PlIs d (.tup [x, y])) : ∃ w : Nat, y = .int w := by
  obtain ⟨o, w, e, ho, _⟩ := h
  injection e with e
  injection e with e1 e2
  injection e2 with e2 _
  exact ⟨w, e2⟩
theorem opt_inj {o o' : Option Nat} (h : optT o = optT o') : o = o' := by
  cases o <;> cases o' <;> simp [optT] at h ⊢
  omega
def n_is_place : List Str := "thing" :: "document" :: "more" :: "parent" :: "which" :: []
def b_is_place_1 : TS2 := (sRt (eAn (eCall sp_is_integer [] (aCons (eVar 4) aNil)) (eChain rLeI rLtI (eC (.int 0)) (eVar 4) (eOp rAdd2 (eB rLen2 (aCons (eCall sp_row_of [] (aCons (eVar 1) (aCons (eVar 3) aNil))) aNil)) (eVar 2)))))
def b_is_place_2 : TS2 := (sSq (sIf (tAn (tCm (eOp (rIsG not) (eVar 3) (eC .non))) (tNo (tTr (eCall sp_is_below [] (aCons (eVar 3) (aCons (eB rLen2 (aCons (eVar 1) aNil)) aNil)))))) (sRt (eC (.bl false))) sNx)
  b_is_place_1)
def b_is_place_3 : TS2 := (sSq (sAs (eVar 0) (gT 2 (gCo (gN 3) (gCo (gN 4) gNil2))))
  b_is_place_2)
def b_is_place : TS2 := (sSq (sIf (tOrr (tNo (tTr (eB rIsi2 (aCons (eVar 0) (aCons (eC (.ty "tuple")) aNil))))) (tCm (eOp (rEqG not) (eB rLen2 (aCons (eVar 0) aNil)) (eC (.int 2))))) (sRt (eC (.bl false))) sNx)
  b_is_place_3)
theorem sem_is_place : ∀ ds M Q E, sp_is_place ds M Q E → b_is_place (fEnds Q E) (start2 n_is_place ds) M := by
  rintro ds M Q E ⟨a, b, c, rfl, d, rfl, rfl, hv, wa, h1, h2⟩
  simp only [b_is_place, start2, n_is_place]
  cases wa with
  | leaf _ s hs hz hn =>
    have no : ¬ PlIs d a := by
      rintro ⟨o, w, e, _⟩
      subst e
      exact hn (Option.some.inj hs).symm
    simp [↓kY_ntup hs hn]
    exact Fg.same (h2 no)
  | tup l hl hll =>
    simp [↓kY_tup]
    by_cases c : l.length = 2
    · have c' : ¬ ¬ ((l.length : Int) = 2) := by omega
      match l, c with
      | [x, y], _ =>
      simp
      simp only [b_is_place_3]
      simp
      simp only [b_is_place_2]
      have wx := hl x (by simp)
      have wy := hl y (by simp)
      obtain ⟨tx, htx⟩ := wx.ty
      obtain ⟨ty, hty⟩ := wy.ty
      have rest : ∀ o : Option Nat, x = optT o → okO d o → b_is_place_1 (fEnds Q E) [some (.tup [x, y]), some (docT d), some (.int 0), some x, some y] M := by
        intro o ex ho
        subst ex
        simp only [b_is_place_1]
        simp
        refine ⟨_, rfl, ty, hty, ?_⟩
        by_cases ci : ty = "int"
        · subst ci
          obtain ⟨i, rfl⟩ := tyT_int hty
          simp
          by_cases c0 : 0 ≤ i
          · obtain ⟨w, rfl⟩ : ∃ w : Nat, i = w := ⟨i.toNat, by omega⟩
            simp
            refine ⟨_, _, rfl, d, o, rfl, rfl, hv, ho, fun p hp => ?_⟩
            have el : (chT d o).length = (chA d o).length := by unfold chT; rw [List.length_map]
            simp [up_same, el]
            by_cases cw : w < (chA d o).length
            · simp [cw]
              exact Fg.le (Le.new hp) (h1 ⟨o, w, rfl, ho, cw⟩)
            · simp [cw]
              refine Fg.le (Le.new hp) (h2 ?_)
              rintro ⟨o', w', e, ho', hw'⟩
              injection e with e
              injection e with e1 e2
              injection e2 with e2 _
              injection e2 with e2
              rw [opt_inj e1] at cw
              omega
          · simp [c0]
            refine Fg.same (h2 fun h => ?_)
            obtain ⟨w, e⟩ := place_y h
            injection e with e
            omega
        · simp [ci]
          refine Fg.same (h2 fun h => ?_)
          obtain ⟨w, e⟩ := place_y h
          subst e
          exact ci (Option.some.inj hty).symm
      cases hn : isNon x with
      | true =>
        have ex : x = optT none := by cases x <;> first | rfl | cases hn
        simp [hn]
        exact rest none ex (fun k h => by cases h)
      | false =>
        simp [hn, docT]
        refine ⟨_, _, rfl, tx, d.length, htx, rfl, ?_⟩
        cases hb : blw x (d.length : Int) with
        | true =>
          obtain ⟨k, rfl, hk⟩ : ∃ k : Nat, x = .int k ∧ k < d.length := by
            cases x with
            | int i =>
              have : 0 ≤ i ∧ i < (d.length : Int) := by simpa using hb
              exact ⟨i.toNat, by congr 1; omega, by omega⟩
            | _ => cases hb
          simp
          exact rest (some k) rfl (fun j h => by cases h; exact hk)
        | false =>
          simp
          refine Fg.same (h2 fun h => ?_)
          rw [place_par h hn] at hb
          cases hb
    · have c' : ¬ ((l.length : Int) = 2) := by omega
      simp [c, c']
      exact Fg.same (h2 fun h => c (place_two h))
def spx_node_at (cn : Cn) : Sp2 := A2 fun a b M Q E => DocAsk cn M E a fun d => Wf M b ∧ ((¬ PlIs d b ∧ E (cn.cl "BadPlace") none M) ∨ ∃ (o : Option Nat) (w k : Nat), b = placeT o w ∧ okO d o ∧ (chA d o)[w]? = some k ∧ Q (natT k) M)
def n_node_at : List Str := "document" :: "place" :: []
def bx_node_at_1 (cn : Cn) : TS2 := (sRt (eOp rIx2 (eCall sp_row_of [] (aCons (eVar 0) (aCons (eOp rIx2 (eVar 1) (eC (.int 0))) aNil))) (eOp rIx2 (eVar 1) (eC (.int 1)))))
def bx_node_at_2 (cn : Cn) : TS2 := (sSq (sIf (tNo (tTr (eCall sp_is_place [] (aCons (eVar 1) (aCons (eVar 0) (aCons (eC (.int 0)) aNil)))))) (sRaise (cn.cl "BadPlace")) sNx)
  (bx_node_at_1 cn))
def bx_node_at (cn : Cn) : TS2 := (sSq (sDr (eCall (spx_need_document cn) [] (aCons (eVar 0) aNil)))
  (bx_node_at_2 cn))
theorem semx_node_at (cn : Cn) : ∀ ds M Q E, spx_node_at cn ds M Q E → bx_node_at cn (fEnds Q E) (start2 n_node_at ds) M := by
  rintro ds M Q E ⟨a, b, rfl, h⟩
  simp only [bx_node_at, start2, n_node_at]
  simp
  rcases h with ⟨wa, ⟨hd, hE⟩ | ⟨d, rfl, hv, wb, h⟩⟩
  · exact ⟨_, rfl, wa, .inl ⟨hd, FgX.same hE⟩⟩
  refine ⟨_, rfl, wa, .inr ⟨d, rfl, hv, ?_⟩⟩
  simp
  simp only [bx_node_at_2]
  simp
  rcases h with ⟨hn, hE⟩ | ⟨o, w, k, rfl, ho, hw, hq⟩
  · refine ⟨_, _, _, rfl, d, rfl, rfl, hv, wb, fun h => absurd h hn, fun _ => ?_⟩
    simp
    exact FgX.same hE
  have hwl := (List.getElem?_eq_some_iff.mp hw).1
  refine ⟨_, _, _, rfl, d, rfl, rfl, hv, wb, fun _ => ?_, fun h => absurd ⟨o, w, rfl, ho, hwl⟩ h⟩
  simp
  simp only [bx_node_at_1]
  simp [placeT]
  refine ⟨_, _, rfl, d, o, rfl, rfl, hv, ho, fun q hq1 => ?_⟩
  have e1 : (chT d o)[w]? = some (natT k) := by unfold chT; rw [List.getElem?_map, hw]; rfl
  simp [up_same, ↓kAt_get e1]
  exact Fg.le (Le.new hq1) hq
end T

/-! L: the law's own look at documents. -/
namespace T
open PySem PySem.Spec PyProof.Rows L2
def marks8 : List Tr := [.str "a", .str "b", .str "c", .str "d", .str "e", .str "f", .str "g", .str "h"]
theorem mk_eight {z : Str} : isMk (.str z) = inT (.str z) marks8 := by
  rw [Bool.eq_iff_iff]
  constructor
  · intro h
    obtain ⟨c, ez, _⟩ := mk_chS h
    subst ez
    have h2 : (decide ((chS c).length = 1) && strIn (chS c) "abcdefgh") = true := h
    rw [Bool.and_eq_true] at h2
    have h3 : strIn (chS c) "abcdefgh" = decide (c ∈ (("abcdefgh" : Str)).cps.toList) := PySem.StrLaws.found_one "abcdefgh" c
    rw [h3, decide_eq_true_eq] at h2
    have h4 : c ∈ [97, 98, 99, 100, 101, 102, 103, 104] := by
      have e : (("abcdefgh" : Str)).cps.toList = [97, 98, 99, 100, 101, 102, 103, 104] := by decide
      rw [e] at h2; exact of_decide_eq_true h2.2
    simp only [List.mem_cons, List.not_mem_nil, or_false] at h4
    rcases h4 with rfl | rfl | rfl | rfl | rfl | rfl | rfl | rfl <;> decide +kernel
  · intro h
    unfold inT marks8 at h
    simp only [List.any_cons, List.any_nil, Bool.or_false, Bool.or_eq_true] at h
    have key : ∀ w : Str, isMk (.str w) = true → eqT (.str w) (.str z) = true → isMk (.str z) = true := fun w hw e => by
      have e : w = z := eq_of_beq e
      rw [← e]; exact hw
    rcases h with h | h | h | h | h | h | h | h
    · exact key _ (by decide +kernel) h
    · exact key _ (by decide +kernel) h
    · exact key _ (by decide +kernel) h
    · exact key _ (by decide +kernel) h
    · exact key _ (by decide +kernel) h
    · exact key _ (by decide +kernel) h
    · exact key _ (by decide +kernel) h
    · exact key _ (by decide +kernel) h
/-- a tuple of two -/
def twoB : Tr → Bool
  | .tup [_, _] => true
  | _ => false
def ctI : Tr → Bool
  | .int z => decide (0 ≤ z)
  | _ => false
def intV : Tr → Int
  | .int z => z
  | _ => 0
def twoT (p : Tr × Tr) : Tr := .tup [p.1, p.2]
def chainB : Int → List Int → Bool
  | _, [] => true
  | m, z :: r => decide (z ≤ m) && chainB (z + 1) r
theorem two_of_all {l : List Tr} (h : ∀ x ∈ l, twoB x = true) : ∃ L : List (Tr × Tr), l = L.map twoT := by
  induction l with
  | nil => exact ⟨[], rfl⟩
  | cons x r ih =>
    obtain ⟨L, rfl⟩ := ih fun y hy => h y (List.mem_cons_of_mem _ hy)
    have hx := h x List.mem_cons_self
    match x, hx with
    | .tup [a, b], _ => exact ⟨(a, b) :: L, rfl⟩
theorem ents_no {l : List Tr} {m : Nat} (h : ∃ x ∈ l, twoB x = false) : entsB m l = false := by
  cases e : entsB m l with
  | false => rfl
  | true =>
    obtain ⟨d, hd, hv⟩ := entsB_iff.mp e
    obtain ⟨x, hx, h2⟩ := h
    rw [hd] at hx
    obtain ⟨en, _, rfl⟩ := List.mem_map.mp hx
    cases h2
theorem ents_pairs : ∀ {L : List (Tr × Tr)} {m : Nat}, entsB m (L.map twoT) = ((L.all fun p => isMk p.1) && ((L.all fun p => ctI p.2) && chainB m (L.map fun p => intV p.2)))
  | [], _ => rfl
  | (a, b) :: L, m => by
    cases b with
    | int z =>
      show (isMk a && (decide (0 ≤ z) && (decide (z ≤ m) && entsB (z.toNat + 1) (L.map twoT)))) = ((isMk a && L.all fun p => isMk p.1) && ((decide (0 ≤ z) && L.all fun p => ctI p.2) && (decide (z ≤ m) && chainB (z + 1) (L.map fun p => intV p.2))))
      rw [ents_pairs (L := L)]
      by_cases c : 0 ≤ z
      · have e : (((z.toNat + 1 : Nat)) : Int) = z + 1 := by omega
        rw [e]
        cases isMk a <;> cases decide (z ≤ m) <;> simp [c]
      · simp [c]
    | _ =>
      show false = _
      show false = ((isMk a && L.all fun p => isMk p.1) && ((false && L.all fun p => ctI p.2) && _))
      simp
theorem allS_genL {M : Ms} {Q : Q2} {p : Addr} {bs : List Bool} {fx : Fx Q} (e : M p = some (.lst (bs.map Tr.bl))) (hq : Q (.bl (bs.all id)) M) : AllS (fun bs => bs.all id) (.loc p) M Q fx :=
  ⟨bs, seqT_lst e, (fun _ e => nomatch e), hq⟩
theorem fm_mapL {α : Type} {L : List α} {f : α → Tr} : (List.range L.length).filterMap (fun i => Option.map f L[i]?) = L.map f := by
  have key : ∀ k, k ≤ L.length → (List.range k).filterMap (fun i => Option.map f L[i]?) = (L.take k).map f := by
    intro k
    induction k with
    | zero => intro _; simp
    | succ k ih =>
      intro hk
      have hkl : k < L.length := by omega
      rw [List.range_succ, List.filterMap_append, ih (by omega), List.take_add_one, List.map_append]
      congr 1
      have e : L[k]? = some L[k] := by simp [hkl]
      simp [e]
  rw [key _ (Nat.le_refl _), List.take_length]
theorem chain_zip : ∀ {Z : List Int} {m : Int}, chainB m Z = ((List.zip ((m - 1) :: Z) Z).map fun p => decide (p.2 ≤ p.1 + 1)).all id
  | [], _ => rfl
  | z :: r, m => by
    show (decide (z ≤ m) && chainB (z + 1) r) = (decide (z ≤ m - 1 + 1) && ((List.zip (z :: r) r).map fun p => decide (p.2 ≤ p.1 + 1)).all id)
    rw [chain_zip (m := z + 1), show z + 1 - 1 = z by omega, show m - 1 + 1 = m by omega]
def sp__law_is_document : Sp2 := A1 fun a M Q _ => Wf M a ∧ Q (.bl (docB a)) M
def n__law_is_document : List Str := "thing" :: "marks" :: "depths" :: "entry" :: "mark" :: "depth" :: "ahead" :: []
def b__law_is_document_1 : TS2 := (sRt (eB rAll2 (aCons (eLc (iZp (aCons (eOp rAdd2 (eLst (aCons (eUn rNeg2 (eC (.int 1))) aNil)) (eVar 2)) (aCons (eVar 2) aNil))) (gT 2 (gCo (gN 6) (gCo (gN 5) gNil2))) tYes2 (eOp rLeI (eVar 5) (eOp rAdd2 (eVar 6) (eC (.int 1)))) [6, 5]) aNil)))
def b__law_is_document_2 : TS2 := (sSq (sIf (tNo (tTr (eB rAll2 (aCons (eLc (iSq (eVar 2)) (gN 5) tYes2 (eAn (eB rIsi2 (aCons (eVar 5) (aCons (eC (.ty "int")) aNil))) (eAn (eNo (eB rIsi2 (aCons (eVar 5) (aCons (eC (.ty "bool")) aNil)))) (eOp rGeI (eVar 5) (eC (.int 0))))) [5]) aNil)))) (sRt (eC (.bl false))) sNx)
  b__law_is_document_1)
def b__law_is_document_3 : TS2 := (sSq (sIf (tNo (tTr (eB rAll2 (aCons (eLc (iSq (eVar 1)) (gN 4) tYes2 (eAn (eB rIsi2 (aCons (eVar 4) (aCons (eC (.ty "str")) aNil))) (eOp (rInX id) (eVar 4) (eTup (aCons (eC (.str "a")) (aCons (eC (.str "b")) (aCons (eC (.str "c")) (aCons (eC (.str "d")) (aCons (eC (.str "e")) (aCons (eC (.str "f")) (aCons (eC (.str "g")) (aCons (eC (.str "h")) aNil))))))))))) [4]) aNil)))) (sRt (eC (.bl false))) sNx)
  b__law_is_document_2)
def b__law_is_document_4 : TS2 := (sSq (sPr 1 2 (aCons (eLc (iSq (eVar 0)) (gN 3) tYes2 (eOp rIx2 (eVar 3) (eC (.int 0))) [3]) (aCons (eLc (iSq (eVar 0)) (gN 3) tYes2 (eOp rIx2 (eVar 3) (eC (.int 1))) [3]) aNil)))
  b__law_is_document_3)
def b__law_is_document_5 : TS2 := (sSq (sIf (tNo (tTr (eB rAll2 (aCons (eLc (iSq (eVar 0)) (gN 3) tYes2 (eAn (eB rIsi2 (aCons (eVar 3) (aCons (eC (.ty "tuple")) aNil))) (eOp (rEqG id) (eB rLen2 (aCons (eVar 3) aNil)) (eC (.int 2)))) [3]) aNil)))) (sRt (eC (.bl false))) sNx)
  b__law_is_document_4)
def b__law_is_document : TS2 := (sSq (sIf (tOrr (tNo (tTr (eB rIsi2 (aCons (eVar 0) (aCons (eC (.ty "tuple")) aNil))))) (tCm (eOp rGtI (eB rLen2 (aCons (eVar 0) aNil)) (eC (.int 20000))))) (sRt (eC (.bl false))) sNx)
  b__law_is_document_5)
theorem sem__law_is_document : ∀ ds M Q E, sp__law_is_document ds M Q E → b__law_is_document (fEnds Q E) (start2 n__law_is_document ds) M := by
  rintro ds M Q E ⟨a, rfl, wa, hq⟩
  simp only [b__law_is_document, start2, n__law_is_document]
  cases wa with
  | leaf _ s hs hz hn =>
    have e : docB a = false := by cases a <;> first | rfl | exact absurd (Option.some.inj hs).symm hn
    rw [e] at hq
    simp [↓kY_ntup hs hn]
    exact Fg.same hq
  | tup l hl hll =>
    simp [↓kY_tup]
    by_cases c : 20000 < l.length
    · have c' : (20000 : Int) < (l.length : Int) := by omega
      have e : docB (.tup l) = false := by
        show (decide (l.length ≤ 20000) && _) = false
        rw [decide_eq_false (by omega)]; rfl
      rw [e] at hq
      simp [c, c']
      exact Fg.same hq
    have c' : ¬ (20000 : Int) < (l.length : Int) := by omega
    simp [c, c']
    simp only [b__law_is_document_5]
    simp
    have ed : docB (.tup l) = entsB 0 l := by
      show (decide (l.length ≤ 20000) && entsB 0 l) = _
      rw [decide_eq_true (by omega)]; rfl
    refine fun p hp => lc_fmL (fun i => (l[i]?).map fun x => .bl (twoB x)) (by omega) (fun M' _ => rfl) ?_ ?_
    rotate_left
    · intro i e M' he fr KY KN q1 q2
      have q : KY (.bl (twoB e)) M' := q1 _ (by rw [he]; rfl)
      have L1 : Le M M' := fun x u hx => by rw [fr x (m_ne hx hp)]; exact hx
      have we := (hl e (List.mem_of_getElem? he)).le L1
      simp [wipe2]
      cases we with
      | leaf _ s hs hz hn =>
        have e2 : twoB e = false := by
          cases e with
          | tup _ => exact absurd (Option.some.inj hs).symm hn
          | _ => rfl
        simp [↓kY_ntup hs hn]
        rw [e2] at q
        exact q
      | tup m hm hml =>
        have e2 : twoB (.tup m) = decide (m.length = 2) := by
          match m with
          | [] => rfl
          | [_] => rfl
          | [_, _] => rfl
          | _ :: _ :: _ :: r =>
            show false = decide (r.length + 1 + 1 + 1 = 2)
            rw [decide_eq_false (by omega)]
        rw [e2] at q
        have e3 : decide ((m.length : Int) = 2) = decide (m.length = 2) := by
          rw [decide_eq_decide]; omega
        simp [↓kY_tup]
        rw [e3]
        exact q
    · rw [fm_mapL]
      have L1 : Le M (up M p (.lst (l.map fun x => .bl (twoB x)))) := Le.new hp
      have e1 : up M p (.lst (l.map fun x => .bl (twoB x))) p = some (.lst ((l.map twoB).map Tr.bl)) := by rw [up_same, List.map_map]; rfl
      generalize up M p (.lst (l.map fun x => .bl (twoB x))) = M1 at L1 e1
      simp
      refine allS_genL e1 ?_
      cases hb : (l.map twoB).all id with
      | false =>
        have hno : ∃ x ∈ l, twoB x = false := by
          rw [List.all_map, List.all_eq_false] at hb
          obtain ⟨x, hx, h⟩ := hb
          exact ⟨x, hx, by simpa using h⟩
        rw [ed, ents_no hno] at hq
        simp
        exact Fg.le L1 hq
      | true =>
        have hall : ∀ x ∈ l, twoB x = true := by
          rw [List.all_map, List.all_eq_true] at hb
          exact fun x hx => hb x hx
        obtain ⟨L, rfl⟩ := two_of_all hall
        rw [ed, ents_pairs] at hq
        have hlen : (L.map twoT).length = L.length := List.length_map ..
        have hL : L.length ≤ 20000 := by omega
        clear hb hall e1 ed c c' hll
        simp
        simp only [b__law_is_document_4]
        simp
        have item : ∀ {i : Nat} {e : Tr}, (L.map twoT)[i]? = some e → ∃ q, L[i]? = some q ∧ e = .tup [q.1, q.2] := by
          intro i e he
          rw [List.getElem?_map] at he
          obtain ⟨q, h1, h2⟩ := Option.map_eq_some_iff.mp he
          exact ⟨q, h1, h2.symm⟩
        refine fun pm hpm => lc_fmL (fun i => Option.map (fun q : Tr × Tr => q.1) L[i]?) (by omega) (fun M' _ => rfl) ?_ ?_
        rotate_left
        · intro i e M' he fr KY KN q1 q2
          obtain ⟨q, h1, rfl⟩ := item he
          simp [wipe2]
          exact q1 _ (by rw [h1]; rfl)
        rw [hlen, fm_mapL]
        have L2 := L1.trans (Le.new (o := .lst (L.map fun q => q.1)) hpm)
        have em : up M1 pm (.lst (L.map fun q => q.1)) pm = some (.lst (L.map fun q => q.1)) := up_same
        generalize up M1 pm (.lst (L.map fun q => q.1)) = M2 at L2 em
        simp
        refine fun pd hpd => lc_fmL (fun i => Option.map (fun q : Tr × Tr => q.2) L[i]?) (by omega) (fun M' _ => rfl) ?_ ?_
        rotate_left
        · intro i e M' he fr KY KN q1 q2
          obtain ⟨q, h1, rfl⟩ := item he
          simp [wipe2]
          exact q1 _ (by rw [h1]; rfl)
        rw [hlen, fm_mapL]
        have L3 := L2.trans (Le.new (o := .lst (L.map fun q => q.2)) hpd)
        have em3 := Le.new (o := .lst (L.map fun q => q.2)) hpd _ _ em
        have ed3 : up M2 pd (.lst (L.map fun q => q.2)) pd = some (.lst (L.map fun q => q.2)) := up_same
        generalize up M2 pd (.lst (L.map fun q => q.2)) = M3 at L3 em3 ed3
        simp
        simp only [b__law_is_document_3]
        simp [em3]
        have l8 : 8 ≤ sizeLine := small_line (by decide)
        have wq : ∀ {i : Nat} {q : Tr × Tr}, L[i]? = some q → Wf M q.1 ∧ Wf M q.2 := by
          intro i q h
          have h1 := hl (twoT q) (List.mem_map.mpr ⟨q, List.mem_of_getElem? h, rfl⟩)
          unfold twoT at h1
          cases h1 with
          | leaf _ s hs _ hn => exact absurd (Option.some.inj hs).symm hn
          | tup _ h2 _ => exact ⟨h2 _ (by simp), h2 _ (by simp)⟩
        refine fun pa hpa => lc_fmL (fun i => Option.map (fun q : Tr × Tr => .bl (isMk q.1)) L[i]?) (by rw [List.length_map]; omega) (fun M' fr => seqT_lst (by rw [fr _ (m_ne em3 hpa)]; exact em3)) ?_ ?_
        rotate_left
        · intro i e M' he fr KY KN q1 q2
          rw [List.getElem?_map] at he
          obtain ⟨q, h1, rfl⟩ := Option.map_eq_some_iff.mp he
          have hq1 : KY (.bl (isMk q.1)) M' := q1 _ (by rw [h1]; rfl)
          have L4 : Le M M' := L3.trans fun x u hx => by rw [fr x (m_ne hx hpa)]; exact hx
          obtain ⟨tq, htq⟩ := ((wq h1).1.le L4).ty
          simp [wipe2]
          by_cases ct : tq = "str"
          · subst ct
            obtain ⟨z, hz⟩ := tyT_str htq
            have kb : kitB "str" "str" = some true := rfl
            rw [hz] at hq1 htq ⊢
            simp [↓kY_of (d := .str z) (M := M') rfl kb, l8]
            refine rInX_seq (l := marks8) rfl rfl (by decide) ?_
            rw [← mk_eight]
            exact hq1
          · have kb : kitB tq "str" = some false := by
              rcases tyT_mem htq with h | h | h | h | h | h | h <;> subst h <;> first | rfl | exact absurd rfl ct
            have e : isMk q.1 = false := by
              cases hx : q.1 with
              | str z => rw [hx] at htq; exact absurd (Option.some.inj htq).symm ct
              | _ => rfl
            rw [e] at hq1
            simp [↓kY_of htq kb]
            exact hq1
        rw [List.length_map, fm_mapL]
        have L4 := L3.trans (Le.new (o := .lst (L.map fun q => .bl (isMk q.1))) hpa)
        have ed4 := Le.new (o := .lst (L.map fun q => .bl (isMk q.1))) hpa _ _ ed3
        have ea : up M3 pa (.lst (L.map fun q => .bl (isMk q.1))) pa = some (.lst ((L.map fun q => isMk q.1).map Tr.bl)) := by rw [up_same, List.map_map]; rfl
        generalize up M3 pa (.lst (L.map fun q => .bl (isMk q.1))) = M4 at L4 ed4 ea
        simp
        refine allS_genL ea ?_
        have eall : (L.map fun q => isMk q.1).all id = L.all fun p => isMk p.1 := by rw [List.all_map]; rfl
        rw [eall]
        cases hb : (L.all fun p => isMk p.1) with
        | false =>
          rw [hb, Bool.false_and] at hq
          simp
          exact Fg.le L4 hq
        | true =>
        rw [hb, Bool.true_and] at hq
        simp
        simp only [b__law_is_document_2]
        simp [ed4]
        refine fun pb hpb => lc_fmL (fun i => Option.map (fun q : Tr × Tr => .bl (ctI q.2)) L[i]?) (by rw [List.length_map]; omega) (fun M' fr => seqT_lst (by rw [fr _ (m_ne ed4 hpb)]; exact ed4)) ?_ ?_
        rotate_left
        · intro i e M' he fr KY KN q1 q2
          rw [List.getElem?_map] at he
          obtain ⟨q, h1, rfl⟩ := Option.map_eq_some_iff.mp he
          have hq1 : KY (.bl (ctI q.2)) M' := q1 _ (by rw [h1]; rfl)
          have L5 : Le M M' := L4.trans fun x u hx => by rw [fr x (m_ne hx hpb)]; exact hx
          obtain ⟨tq, htq⟩ := ((wq h1).2.le L5).ty
          simp [wipe2]
          cases hx : q.2 with
          | int z =>
            have kb : kitB "int" "int" = some true := rfl
            have kb2 : kitB "int" "bool" = some false := rfl
            have e : ctI (.int z) = decide (0 ≤ z) := rfl
            rw [hx, e] at hq1
            simp [↓kY_of (d := .int z) (M := M') rfl kb, ↓kY_of (d := .int z) (M := M') rfl kb2]
            exact hq1
          | bl b =>
            have kb : kitB "bool" "int" = some true := rfl
            have kb2 : kitB "bool" "bool" = some true := rfl
            rw [hx] at hq1
            simp [↓kY_of (d := .bl b) (M := M') rfl kb, ↓kY_of (d := .bl b) (M := M') rfl kb2]
            exact hq1
          | _ =>
            rw [hx] at hq1 htq
            have kb : kitB tq "int" = some false := by
              have n1 : tq ≠ "int" := by
                rintro rfl
                obtain ⟨i, hi⟩ := tyT_int htq
                cases hi
              have n2 : tq ≠ "bool" := by
                rintro rfl
                revert htq
                simp only [tyT]
                try (split <;> simp)
                try simp
              rcases tyT_mem htq with h | h | h | h | h | h | h <;> subst h <;> first | rfl | exact absurd rfl n1 | exact absurd rfl n2
            simp [↓kY_of htq kb]
            exact hq1
        rw [List.length_map, fm_mapL]
        have L5 := L4.trans (Le.new (o := .lst (L.map fun q => .bl (ctI q.2))) hpb)
        have ed5 := Le.new (o := .lst (L.map fun q => .bl (ctI q.2))) hpb _ _ ed4
        have eb : up M4 pb (.lst (L.map fun q => .bl (ctI q.2))) pb = some (.lst ((L.map fun q => ctI q.2).map Tr.bl)) := by rw [up_same, List.map_map]; rfl
        generalize up M4 pb (.lst (L.map fun q => .bl (ctI q.2))) = M5 at L5 ed5 eb
        simp
        refine allS_genL eb ?_
        have eall2 : (L.map fun q => ctI q.2).all id = L.all fun p => ctI p.2 := by rw [List.all_map]; rfl
        rw [eall2]
        cases hb2 : (L.all fun p => ctI p.2) with
        | false =>
          rw [hb2, Bool.false_and] at hq
          simp
          exact Fg.le L5 hq
        | true =>
        rw [hb2, Bool.true_and] at hq
        simp
        simp only [b__law_is_document_1]
        simp [ed5]
        refine ⟨small_line (by decide), fun pc hpc => ?_⟩
        have L6 := L5.trans (Le.new (o := .lst [.int (-1)]) hpc)
        have ed6 := Le.new (o := .lst [.int (-1)]) hpc _ _ ed5
        have ec : up M5 pc (.lst [.int (-1)]) pc = some (.lst [.int (-1)]) := up_same
        generalize up M5 pc (.lst [.int (-1)]) = M6 at L6 ed6 ec
        simp [ec, ed6]
        refine ⟨small_line (by omega), fun pe hpe => ?_⟩
        have hZ : (L.map fun q => q.2) = (L.map fun p => intV p.2).map Tr.int := by
          rw [List.map_map]
          refine List.map_congr_left fun q hq1 => ?_
          have := (List.all_eq_true.mp hb2) q hq1
          cases hx : q.2 with
          | int z => show Tr.int z = Tr.int (intV q.2); rw [hx]; rfl
          | _ => rw [hx] at this; cases this
        rw [hZ] at ed6 ⊢
        have lZ : (L.map fun p => intV p.2).length = L.length := List.length_map ..
        generalize (L.map fun p => intV p.2) = Z at hq ed6 lZ
        have L7 := L6.trans (Le.new (o := .lst (.int (-1) :: Z.map Tr.int)) hpe)
        have ed7 := Le.new (o := .lst (.int (-1) :: Z.map Tr.int)) hpe _ _ ed6
        have ee : up M6 pe (.lst (.int (-1) :: Z.map Tr.int)) pe = some (.lst (.int (-1) :: Z.map Tr.int)) := up_same
        generalize up M6 pe (.lst (.int (-1) :: Z.map Tr.int)) = M7 at L7 ed7 ee
        simp [ee, ed7]
        have hlz : (zipT (.int (-1) :: Z.map Tr.int) (Z.map Tr.int)).length = Z.length := by rw [zipT_len]; simp
        have hlz2 : (List.zip ((-1) :: Z) Z).length = Z.length := by simp
        refine fun pf hpf => lc_fmL (fun i => Option.map (fun p : Int × Int => Tr.bl (decide (p.2 ≤ p.1 + 1))) (List.zip ((-1) :: Z) Z)[i]?) (by rw [hlz]; omega) (fun M' fr => ⟨seqT_lst (by rw [fr _ (m_ne ee hpf)]; exact ee), seqT_lst (by rw [fr _ (m_ne ed7 hpf)]; exact ed7)⟩) ?_ ?_
        rotate_left
        · intro i e M' he fr KY KN q1 q2
          obtain ⟨x, y, h1, h2, rfl⟩ := zipT_get he
          rw [show (Tr.int (-1) :: Z.map Tr.int) = ((-1) :: Z).map Tr.int from rfl, List.getElem?_map] at h1
          rw [List.getElem?_map] at h2
          obtain ⟨u, hu, rfl⟩ := Option.map_eq_some_iff.mp h1
          obtain ⟨v, hv, rfl⟩ := Option.map_eq_some_iff.mp h2
          simp [wipe2]
          refine q1 _ ?_
          have ezp : (List.zip ((-1) :: Z) Z)[i]? = some (u, v) := List.getElem?_zip_eq_some.mpr ⟨hu, hv⟩
          rw [ezp]
          rfl
        rw [hlz, ← hlz2, fm_mapL]
        have L8 := L7.trans (Le.new (o := .lst ((List.zip ((-1) :: Z) Z).map fun p => Tr.bl (decide (p.2 ≤ p.1 + 1)))) hpf)
        have ef : up M7 pf (.lst ((List.zip ((-1) :: Z) Z).map fun p => Tr.bl (decide (p.2 ≤ p.1 + 1)))) pf = some (.lst (((List.zip ((-1) :: Z) Z).map fun p => decide (p.2 ≤ p.1 + 1)).map Tr.bl)) := by rw [up_same, List.map_map]; rfl
        generalize up M7 pf (.lst ((List.zip ((-1) :: Z) Z).map fun p => Tr.bl (decide (p.2 ≤ p.1 + 1)))) = M8 at L8 ef
        refine allS_genL ef ?_
        have ez := @chain_zip Z 0
        rw [show (0 : Int) - 1 = -1 by omega] at ez
        rw [← ez]
        exact Fg.le L8 hq
end T

/-! U: reprs of pure trees: how long, of which signs. -/
namespace T
open PySem PySem.Spec PyProof.Rows L2
theorem cpsA {x y : Str} : (x ++ y).cps.toList = x.cps.toList ++ y.cps.toList := by
  show (x.cps ++ y.cps).toList = _
  simp
/-- signs that there are -/
def cB (z : Str) : Prop := ∀ c ∈ z.cps.toList, c < 0x110000
theorem cB_ok {z : Str} (h : cB z) : PyData.strOk z = true := by
  unfold PyData.strOk
  rw [← Array.all_toList, List.all_eq_true]
  intro c hc
  exact decide_eq_true (h c hc)
theorem cB_lit (s : String) : cB (Str.ofString s) := by
  intro c hc
  rw [PySem.Str.ofString_eq_toList] at hc
  simp only [List.mem_map] at hc
  obtain ⟨d, _, rfl⟩ := hc
  rcases d.valid with h | h
  · have : d.val.toNat < 0xd800 := h
    show d.val.toNat < _
    omega
  · exact h.2
theorem cB_app {x y : Str} (h : cB x) (h' : cB y) : cB (x ++ y) := by
  intro c hc
  rw [cpsA] at hc
  rcases List.mem_append.mp hc with hc | hc
  · exact h c hc
  · exact h' c hc
theorem cB_join {s : Str} (hs : cB s) : ∀ {ts : List Str}, (∀ t ∈ ts, cB t) → cB (Str.join s ts)
  | [], _ => by intro c hc; have : c ∈ ([] : List Nat) := hc; simp at this
  | [x], h => h x List.mem_cons_self
  | x :: y :: r, h => by
    show cB (x ++ s ++ Str.join s (y :: r))
    exact cB_app (cB_app (h x List.mem_cons_self) hs) (cB_join hs fun t ht => h t (List.mem_cons_of_mem _ ht))
theorem cB_digits {c : Nat} : ∀ x ∈ ((Nat.toDigits 16 c).map Char.toNat), x < 0x110000 := by
  intro x hx
  obtain ⟨d, _, rfl⟩ := List.mem_map.mp hx
  rcases d.valid with h | h
  · have : d.val.toNat < 0xd800 := h
    show d.val.toNat < _
    omega
  · exact h.2
theorem cB_char {q c : Nat} (h : c < 0x110000) : ∀ x ∈ Builtin.Str.reprChar q c, x < 0x110000 := by
  intro x hx
  have hex : ∀ w : Nat, x ∈ (List.replicate (w - ((Nat.toDigits 16 c).map Char.toNat).length) 48 ++ (Nat.toDigits 16 c).map Char.toNat) → x < 0x110000 := fun w hx => by
    rcases List.mem_append.mp hx with hx | hx
    · have := List.eq_of_mem_replicate hx; omega
    · exact cB_digits x hx
  unfold Builtin.Str.reprChar at hx
  dsimp only at hx
  split at hx
  · simp at hx; omega
  split at hx
  · simp at hx; omega
  split at hx
  · simp at hx; omega
  split at hx
  · simp at hx; omega
  split at hx
  · simp at hx; omega
  split at hx
  · rcases List.mem_append.mp hx with hx | hx
    · simp at hx; omega
    · exact hex 2 hx
  split at hx
  · rcases List.mem_append.mp hx with hx | hx
    · simp at hx; omega
    · exact hex 4 hx
  · rcases List.mem_append.mp hx with hx | hx
    · simp at hx; omega
    · exact hex 8 hx
theorem cB_fold {q : Nat} : ∀ (l : List Nat) (acc : Array Nat), (∀ c ∈ l, c < 0x110000) → (∀ x ∈ acc.toList, x < 0x110000) → ∀ x ∈ (l.foldl (fun out c => out ++ (Builtin.Str.reprChar q c).toArray) acc).toList, x < 0x110000
  | [], acc, _, h => h
  | c :: r, acc, hl, h => by
    rw [List.foldl_cons]
    refine cB_fold r _ (fun x hx => hl x (List.mem_cons_of_mem _ hx)) fun x hx => ?_
    rw [Array.toList_append] at hx
    rcases List.mem_append.mp hx with hx | hx
    · exact h x hx
    · exact cB_char (hl c List.mem_cons_self) x hx
theorem cB_reprText {z : Str} (h : cB z) : cB (reprText z) := by
  have hq : reprQuote z < 0x110000 := by
    unfold reprQuote
    split <;> decide
  intro c hc
  unfold reprText at hc
  rw [Array.toList_push] at hc
  rcases List.mem_append.mp hc with hc | hc
  · rw [← Array.foldl_toList] at hc
    exact cB_fold z.cps.toList _ h (fun x hx => by
      have : x = reprQuote z := by simpa using hx
      omega) c hc
  · have : c = reprQuote z := by simpa using hc
    omega
mutual
/-- a tree whose text is told -/
def shB : Tr → Bool
  | .non => true
  | .bl _ => true
  | .int i => decide (i.natAbs.log2 < 1920)
  | .str z => z.cps.toList.all fun c => decide (c < 0x110000)
  | .tup ds => shL ds
  | .fro ds => shL ds
  | _ => false
def shL : List Tr → Bool
  | [] => true
  | d :: r => shB d && shL r
end
mutual
/-- at most so long -/
def wT : Tr → Nat
  | .non => 4
  | .bl _ => 5
  | .int i => if i.natAbs < 1000000 then 7 else 1921
  | .str z => 10 * z.length + 2
  | .tup ds => wL ds + 3
  | .fro ds => wL ds + 3
  | _ => 0
def wL : List Tr → Nat
  | [] => 0
  | d :: r => wT d + 2 + wL r
end
theorem shL_mem : ∀ {ds : List Tr}, shL ds = true ↔ ∀ d ∈ ds, shB d = true
  | [] => by simp [shL]
  | d :: r => by
    show (shB d && shL r) = true ↔ _
    rw [Bool.and_eq_true, shL_mem (ds := r)]
    simp
theorem wL_le {k : Nat} : ∀ {ds : List Tr}, (∀ d ∈ ds, wT d ≤ k) → wL ds ≤ ds.length * (k + 2)
  | [], _ => by simp [wL]
  | d :: r, h => by
    have h1 := h d List.mem_cons_self
    have h2 := wL_le (ds := r) fun x hx => h x (List.mem_cons_of_mem _ hx)
    show wT d + 2 + wL r ≤ _
    rw [List.length_cons, Nat.add_mul]
    omega
theorem cB_of_all {z : Str} (h : (z.cps.toList.all fun c => decide (c < 0x110000)) = true) : cB z := fun c hc => of_decide_eq_true (List.all_eq_true.mp h c hc)
theorem listText_eq (ts : List Str) : ∃ u : Str, listText ts = u ∧ ((∀ t ∈ ts, cB t) → cB u) := by
  refine ⟨_, rfl, fun h => ?_⟩
  have key : ∀ (ts : List Str) (k : Nat) (acc : Str), cB acc → (∀ t ∈ ts, cB t) → cB (textFrom k acc ts) := by
    intro ts
    induction ts with
    | nil => intro k acc ha _; exact ha
    | cons t r ih =>
      intro k acc ha ht
      show cB (textFrom (k + 1) (acc ++ (if k > 0 then ", " else "" : String) ++ t) r)
      exact ih _ _ (cB_app (cB_app ha (cB_lit _)) (ht t List.mem_cons_self)) fun x hx => ht x (List.mem_cons_of_mem _ hx)
  exact cB_app (key ts 0 "[" (cB_lit _) h) (cB_lit _)
mutual
theorem sh_ok : ∀ {t : Tr}, shB t = true → pureT t = true ∧ (toP t).showable = true ∧ (toP t).hasDict = false ∧ cB (toP t).shown ∧ (toP t).shown.length ≤ wT t
  | .non, _ => ⟨rfl, rfl, rfl, cB_lit "None", by decide⟩
  | .bl b, _ => ⟨rfl, rfl, rfl, by cases b <;> exact cB_lit _, by cases b <;> decide⟩
  | .int i, h => by
    have h' : i.natAbs.log2 < 1920 := of_decide_eq_true h
    refine ⟨rfl, decide_eq_true h', rfl, cB_lit (toString i), ?_⟩
    show (PySem.Str.ofString (toString i)).length ≤ if i.natAbs < 1000000 then 7 else 1921
    split
    · rename_i q
      rw [PySem.ofString_length]
      exact PySem.int_text_length_le10 (k := 6) (by decide) (by have : (10 : Nat) ^ 6 = 1000000 := by decide
                                                                omega)
    · exact int_text_len_1921 h'
  | .str z, h => by
    have hz := cB_of_all h
    refine ⟨rfl, rfl, rfl, cB_reprText hz, ?_⟩
    exact PySem.StrLaws.reprText_len z fun c hc => by
      have := hz c hc
      have e : (16 : Nat) ^ 8 = 4294967296 := by decide
      omega
  | .tup ds, h => by
    obtain ⟨a, b, c, d, e⟩ := shL_ok (ds := ds) h
    refine ⟨a, b, c, ?_, ?_⟩
    · show cB (("(" : Str) ++ Str.join ", " (PyData.shownAll (toPs ds)) ++ (if (PyData.shownAll (toPs ds)).length == 1 then ",)" else ")" : String))
      exact cB_app (cB_app (cB_lit _) (cB_join (cB_lit _) d)) (cB_lit _)
    · show (tupleText (PyData.shownAll (toPs ds))).length ≤ wL ds + 3
      have hj : (Str.join ", " (PyData.shownAll (toPs ds))).length ≤ piled (PyData.shownAll (toPs ds)) := by
        cases hc : PyData.shownAll (toPs ds) with
        | nil => exact Nat.zero_le _
        | cons t r => have := join_length_add (t :: r) (by simp); omega
      unfold tupleText
      rw [strLen_append, strLen_append]
      have e1 : (("(" : String) : Str).length = 1 := rfl
      have e2 : ((if ((PyData.shownAll (toPs ds)).length == 1) = true then ",)" else ")" : String) : Str).length ≤ 2 := by split <;> decide
      omega
  | .fro ds, h => by
    obtain ⟨a, b, c, d, e⟩ := shL_ok (ds := ds) h
    obtain ⟨u, hu, hc⟩ := listText_eq (PyData.shownAll (toPs ds))
    refine ⟨a, b, c, ?_, ?_⟩
    · show cB (listText (PyData.shownAll (toPs ds)))
      rw [hu]; exact hc d
    · show (listText (PyData.shownAll (toPs ds))).length ≤ wL ds + 3
      have h1 := listText_len_le (PyData.shownAll (toPs ds))
      have h2 : ((PyData.shownAll (toPs ds)).map (·.length)).sum + 2 * (PyData.shownAll (toPs ds)).length = piled (PyData.shownAll (toPs ds)) := by
        generalize PyData.shownAll (toPs ds) = ts
        induction ts with
        | nil => rfl
        | cons t r ih => rw [piled_cons, List.map_cons, List.sum_cons, List.length_cons]; omega
      omega
  | .loc _, h => by cases h
  | .ty _, h => by cases h
theorem shL_ok : ∀ {ds : List Tr}, shL ds = true → pureL ds = true ∧ PyData.showableAll (toPs ds) = true ∧ PyData.hasDictAll (toPs ds) = false ∧ (∀ t ∈ PyData.shownAll (toPs ds), cB t) ∧ piled (PyData.shownAll (toPs ds)) ≤ wL ds
  | [], _ => ⟨rfl, rfl, rfl, (fun _ h => nomatch (show _ ∈ ([] : List Str) from h)), Nat.le_refl _⟩
  | d :: r, h => by
    have h' : (shB d && shL r) = true := h
    rw [Bool.and_eq_true] at h'
    obtain ⟨a, b, c, e, l⟩ := sh_ok h'.1
    obtain ⟨a', b', c', e', l'⟩ := shL_ok h'.2
    refine ⟨?_, ?_, ?_, ?_, ?_⟩
    · show (pureT d && pureL r) = true
      rw [a, a']; rfl
    · show ((toP d).showable && PyData.showableAll (toPs r)) = true
      rw [b, b']; rfl
    · show ((toP d).hasDict || PyData.hasDictAll (toPs r)) = false
      rw [c, c']; rfl
    · intro t ht
      have ht' : t ∈ (toP d).shown :: PyData.shownAll (toPs r) := ht
      rcases List.mem_cons.mp ht' with rfl | ht'
      · exact e
      · exact e' t ht'
    · show piled ((toP d).shown :: PyData.shownAll (toPs r)) ≤ wT d + 2 + wL r
      rw [piled_cons]; omega
end
theorem reprS_sh {t : Tr} {M : Ms} {Q : Q2} {fx : Fx Q} (h : shB t = true) (hd : hT t ≤ 50) (hw : wT t ≤ 16000000) (hq : Q (.str (toP t).shown) M) : ReprS t M Q fx := by
  obtain ⟨a, b, c, d, e⟩ := sh_ok h
  exact ⟨toP t, dat_pure a, b, c, by rw [hT_ok]; exact hd, by rw [sizeLine_eq]; omega, hq⟩
theorem reprS_shL {a : Addr} {l : List Tr} {M : Ms} {Q : Q2} {fx : Fx Q} (ea : M a = some (.lst l)) (h : shL l = true) (hd : hL l ≤ 49) (hw : wL l ≤ 16000000) (hq : Q (.str (PyData.list (toPs l)).shown) M) : ReprS (.loc a) M Q fx := by
  obtain ⟨p1, p2, p3, p4, p5⟩ := shL_ok h
  obtain ⟨_, _, _, _, e⟩ := sh_ok (t := .fro l) h
  refine ⟨.list (toPs l), ⟨_, seqT_lst ea, (fun _ e => nomatch e), datL_pure p1⟩, p2, p3, ?_, ?_, hq⟩
  · show PyData.depthAll (toPs l) + 1 ≤ 50
    rw [hL_ok]; omega
  · have e2 : (PyData.list (toPs l)).shown.length ≤ wL l + 3 := e
    rw [sizeLine_eq]; omega
theorem wT_int {i : Int} (h : i.natAbs < 1000000) : wT (.int i) = 7 := if_pos h
theorem sh_nat {i : Int} (h : i.natAbs < 1000000) : shB (.int i) = true := decide_eq_true (by
  by_cases c : i.natAbs = 0
  · rw [c]; decide
  · have : i.natAbs < 2 ^ 20 := by omega
    have := (Nat.log2_lt c).mpr this
    omega)
/-- what is shown is a text that can be compared -/
theorem nb_shown {t : Tr} (h : shB t = true) : nbT (.str (toP t).shown) = true := cB_ok (sh_ok h).2.2.2.1
end T

/-! L: things that are told, in a store; entries near to right ones. -/
namespace T
open PySem PySem.Spec PyProof.Rows L2
mutual
theorem dat_le {M M' : Ms} (L : Le M M') : ∀ {p : PyData} {d : Tr}, Dat M p d → Dat M' p d
  | .none, _, h => h
  | .bool _, _, h => h
  | .int _, _, h => h
  | .str _, _, h => h
  | .list ps, d, h => by
    obtain ⟨ds, e, n, h⟩ := h
    refine ⟨ds, ?_, n, datL_le L h⟩
    cases d with
    | loc a => exact seqT_lst (L _ _ (seqT_loc e))
    | _ => exact e
  | .tuple ps, d, h => by
    obtain ⟨ds, e, h⟩ := h
    exact ⟨ds, e, datL_le L h⟩
  | .dict _, _, h => h.elim
theorem datL_le {M M' : Ms} (L : Le M M') : ∀ {ps : List PyData} {ds : List Tr}, DatL M ps ds → DatL M' ps ds
  | [], _, h => h
  | p :: ps, _, h => by
    obtain ⟨d, r, e, h1, h2⟩ := h
    exact ⟨d, r, e, dat_le L h1, datL_le L h2⟩
end
/-- the store without the feed -/
def hideM (f : Addr) (M : Ms) : Ms := fun a => if a = f then none else M a
theorem le_hide {f : Addr} {M : Ms} : Le (hideM f M) M := fun a o h => by
  unfold hideM at h
  split at h
  · cases h
  · exact h
theorem hide_at {f a : Addr} {M : Ms} {o : MO} (h : M a = some o) (n : a ≠ f) : hideM f M a = some o := by unfold hideM; rw [if_neg n]; exact h
theorem Kf.hide {f : Addr} {M M' : Ms} (k : Kf f M M') : Le (hideM f M) (hideM f M') := fun a o h => by
  unfold hideM at h ⊢
  split at h
  · cases h
  · rename_i n
    rw [if_neg n]
    exact k a o n h
/-- a thing whose text is told -/
def TrOk (M : Ms) (h w : Nat) (t : Tr) : Prop := Wf M t ∧ ∃ t', shB t' = true ∧ hT t' ≤ h ∧ wT t' ≤ w ∧ Dat M (toP t') t
theorem TrOk.le {M M' : Ms} {h w : Nat} {t : Tr} (L : Le M M') (x : TrOk M h w t) : TrOk M' h w t := by
  obtain ⟨x1, t', a, b, c, d⟩ := x
  exact ⟨x1.le L, t', a, b, c, dat_le L d⟩
theorem TrOk.mono {M : Ms} {h w h2 w2 : Nat} {t : Tr} (x : TrOk M h w t) (hh : h ≤ h2) (hw : w ≤ w2) : TrOk M h2 w2 t := by
  obtain ⟨x1, t', a, b, c, d⟩ := x
  exact ⟨x1, t', a, by omega, by omega, d⟩
theorem tr_non {M : Ms} : TrOk M 0 4 .non := ⟨.leaf _ "NoneType" rfl (fun _ h => by cases h) (by decide), .non, rfl, Nat.zero_le _, Nat.le_refl _, rfl⟩
theorem tr_bl {M : Ms} {b : Bool} : TrOk M 0 5 (.bl b) := ⟨.leaf _ "bool" rfl (fun _ h => by cases h) (by decide), .bl b, rfl, Nat.zero_le _, Nat.le_refl _, rfl⟩
theorem tr_int {M : Ms} {i : Int} (h : i.natAbs.log2 < 1920) : TrOk M 0 1921 (.int i) := ⟨.leaf _ "int" rfl (fun _ h => by cases h) (by decide), .int i, decide_eq_true h, Nat.zero_le _, by
  show (if i.natAbs < 1000000 then 7 else 1921) ≤ 1921
  split <;> omega, rfl⟩
theorem tr_nat {M : Ms} {i : Int} (h : i.natAbs < 1000000) : TrOk M 0 7 (.int i) := ⟨.leaf _ "int" rfl (fun _ h => by cases h) (by decide), .int i, sh_nat h, Nat.zero_le _, by rw [wT_int h]; exact Nat.le_refl _, rfl⟩
theorem tr_str {M : Ms} {z : Str} (h : shB (.str z) = true) (hl : z.length ≤ 10) : TrOk M 0 102 (.str z) := ⟨.leaf _ "str" rfl (fun _ e => by cases e; omega) (by decide), .str z, h, Nat.zero_le _, by
  show 10 * z.length + 2 ≤ 102
  omega, rfl⟩
theorem tr_list {M : Ms} {h w : Nat} : ∀ {l : List Tr}, (∀ x ∈ l, TrOk M h w x) → ∃ l', l'.length = l.length ∧ shL l' = true ∧ (∀ x ∈ l', hT x ≤ h) ∧ (∀ x ∈ l', wT x ≤ w) ∧ DatL M (toPs l') l
  | [], _ => ⟨[], rfl, rfl, (fun _ h => by cases h), (fun _ h => by cases h), rfl⟩
  | x :: r, hx => by
    obtain ⟨_, t', a, b, c, d⟩ := hx x List.mem_cons_self
    obtain ⟨l', e1, e2, e3, e4, e5⟩ := tr_list (l := r) fun y hy => hx y (List.mem_cons_of_mem _ hy)
    refine ⟨t' :: l', by simp [e1], ?_, ?_, ?_, ⟨x, r, rfl, d, e5⟩⟩
    · show (shB t' && shL l') = true
      rw [a, e2]; rfl
    · intro y hy
      rcases List.mem_cons.mp hy with rfl | hy
      · exact b
      · exact e3 y hy
    · intro y hy
      rcases List.mem_cons.mp hy with rfl | hy
      · exact c
      · exact e4 y hy
theorem tr_tup {M : Ms} {h w : Nat} {l : List Tr} (hl : l.length ≤ 1000) (hx : ∀ x ∈ l, TrOk M h w x) : TrOk M (h + 1) (l.length * (w + 2) + 3) (.tup l) := by
  obtain ⟨l', e1, e2, e3, e4, e5⟩ := tr_list hx
  refine ⟨.tup l (fun x h => (hx x h).1) (by omega), .tup l', e2, ?_, ?_, ⟨l, rfl, e5⟩⟩
  · show hL l' + 1 ≤ h + 1
    have := hL_le e3
    omega
  · show wL l' + 3 ≤ _
    have := wL_le e4
    rw [← e1]; omega
theorem tr_lst {M : Ms} {h w : Nat} {a : Addr} {l : List Tr} (ea : M a = some (.lst l)) (hx : ∀ x ∈ l, TrOk M h w x) : TrOk M (h + 1) (l.length * (w + 2) + 3) (.loc a) := by
  obtain ⟨l', e1, e2, e3, e4, e5⟩ := tr_list hx
  refine ⟨.leaf _ "list" (by simp [tyT, ea]) (fun _ h => by cases h) (by decide), .fro l', e2, ?_, ?_, ⟨l, seqT_lst ea, (fun _ e => nomatch e), e5⟩⟩
  · show hL l' + 1 ≤ h + 1
    have := hL_le e3
    omega
  · show wL l' + 3 ≤ _
    have := wL_le e4
    rw [← e1]; omega
/-- things: these, {} and {("a", 0): True} -/
def ThOk (M : Ms) (t : Tr) : Prop := TrOk M 10 1000000 t ∨ ∃ a, t = .loc a ∧ (M a = some (.dic []) ∨ M a = some (.odd (OddX "a" 0 true)))
theorem ThOk.le {M M' : Ms} {t : Tr} (L : Le M M') (h : ThOk M t) : ThOk M' t := by
  rcases h with h | ⟨a, rfl, h | h⟩
  · exact .inl (h.le L)
  · exact .inr ⟨a, rfl, .inl (L _ _ h)⟩
  · exact .inr ⟨a, rfl, .inr (L _ _ h)⟩
theorem ThOk.wf {M : Ms} {t : Tr} (h : ThOk M t) : Wf M t := by
  rcases h with h | ⟨a, rfl, h | h⟩
  · exact h.1
  · exact .leaf _ "dict" (by simp [tyT, h]) (fun _ h => by cases h) (by decide)
  · exact .leaf _ "dict" (by simp [tyT, h]) (fun _ h => by cases h) (by decide)
/-- its text is one, wherever it is told -/
theorem ThOk.text {M : Ms} {t : Tr} (h : ThOk M t) : ∃ s : Str, ∀ M' Q fx, Le M M' → Q (.str s) M' → ReprXS t M' Q fx := by
  rcases h with ⟨_, t', a, b, c, d⟩ | ⟨p, rfl, h | h⟩
  · obtain ⟨p1, p2, p3, p4, p5⟩ := sh_ok a
    exact ⟨(toP t').shown, fun M' Q fx L hq => .inl ⟨toP t', dat_le L d, p2, p3, by rw [hT_ok]; omega, by rw [sizeLine_eq]; omega, hq⟩⟩
  · exact ⟨emS, fun M' Q fx L hq => .inr (.inl ⟨p, rfl, L _ _ h, hq⟩)⟩
  · exact ⟨(oddS "a" 0 true).shown, fun M' Q fx L hq => .inr (.inr ⟨p, "a", 0, true, rfl, L _ _ h, by decide +kernel, by
      have : (oddS "a" 0 true).shown.length = 16 := by decide +kernel
      rw [this, sizeLine_eq]; omega, by decide +kernel, hq⟩)⟩
end T

/-! Q: one error of each class, and of which classes it is (printed by mkQA.py). -/
namespace T
open PySem PySem.Spec PyProof.Rows L2
def kinds00 : List Str := "BadDocument" :: "BadNode" :: "BadPlace" :: "BadText" :: "BadEdit" :: "BadPairs" :: "BadSaying" :: "BadNodes" :: "BadNames" :: "BadMachine" :: "BadLaying" :: "BadMachines" :: "BadName" :: "TooMany" :: "BadSayings" :: "BadShape" :: "BadCount" :: "BadBalance" :: "BadNumber" :: "BadEdition" :: "BadIndex" :: []
abbrev ExF (cn : Cn) : Prop := cn.ex (cn.cl "BadNode") (cn.cl "MatchError") = some true ∧ cn.ex (cn.cl "BadText") (cn.cl "MatchError") = some true ∧ cn.ex (cn.cl "BadPlace") (cn.cl "BadPlace") = some true ∧ IsxsP cn.isx cn.cl "MatchError" kinds00 ∧ True
theorem newE_cut {M : Ms} {C : Value} {Q : Q2} {z : Fx Q} (h : ∀ a M', Le M M' → M' a = some (.exc C none) → Q (.loc a) M') : NewE M C Q z := fun a ha => h a _ (Le.new ha) up_same
theorem newEI_cut {M : Ms} {C : Value} {f : Str} {d : Tr} {Q : Q2} {z : Fx Q} (h : ∀ a dx M', Le M M' → M' a = some (.exc C (some dx)) → M' dx = some (.xd [(f, d)]) → Q (.loc a) M') : NewEI M C f d Q z := fun dx a hd ha ne =>
  h a dx _ ((Le.new hd).trans (Le.new (by rw [up_ne (Ne.symm ne)]; exact ha))) up_same (by rw [up_ne ne]; exact up_same)
theorem ErrAt.one {M : Ms} {a : Addr} {C : Value} (h : M a = some (.exc C none)) : ErrAt M a C := ⟨none, h, fun _ z => nomatch z⟩
theorem ErrAt.two {M : Ms} {a dx : Addr} {C : Value} {fs : List (Str × Tr)} (h : M a = some (.exc C (some dx))) (h2 : M dx = some (.xd fs)) : ErrAt M a C := ⟨some dx, h, fun _ z => by cases z; exact ⟨fs, h2⟩⟩
theorem ErrAt.le {M M' : Ms} {a : Addr} {C : Value} (L : Le M M') (h : ErrAt M a C) : ErrAt M' a C := by
  obtain ⟨dd, e, h⟩ := h
  exact ⟨dd, L _ _ e, fun dx z => by obtain ⟨fs, h⟩ := h dx z; exact ⟨fs, L _ _ h⟩⟩
def spx__law_made (cn : Cn) : Sp2 := A2 fun a b M Q _ => ∃ (z : Str) (i : Int), a = .str z ∧ b = .int i ∧ ∀ (as : List Addr) p M', Le M M' → M' p = some (.lst (as.map .loc)) → as.length = 21 →
  (∀ (j : Nat) e, as[j]? = some e → ∃ y, kinds00[j]? = some y ∧ ErrAt M' e (cn.cl y)) → (∃ e dx, as[3]? = some e ∧ M' e = some (.exc (cn.cl "BadText") (some dx)) ∧ M' dx = some (.xd [("place", .int i)])) → Q (.loc p) M'
def n__law_made : List Str := "words" :: "place" :: "got" :: []
def bx__law_made_1 (cn : Cn) : TS2 := (sRt (eOp rAdd2 (eVar 2) (eLst (aCons (eMkX (cn.cl "BadCount") (eVar 0)) (aCons (eMkX (cn.cl "BadBalance") (eVar 0)) (aCons (eMkX (cn.cl "BadNumber") (eVar 0)) (aCons (eMkX (cn.cl "BadEdition") (eVar 0)) (aCons (eMkX (cn.cl "BadIndex") (eVar 0)) aNil))))))))
def bx__law_made_2 (cn : Cn) : TS2 := (sSq (sAs (eOp rAdd2 (eVar 2) (eLst (aCons (eMkX (cn.cl "BadMachines") (eVar 0)) (aCons (eMkX (cn.cl "BadName") (eVar 0)) (aCons (eMkX (cn.cl "TooMany") (eVar 0)) (aCons (eMkX (cn.cl "BadSayings") (eVar 0)) (aCons (eMkX (cn.cl "BadShape") (eVar 0)) aNil))))))) (gN 2))
  (bx__law_made_1 cn))
def bx__law_made_3 (cn : Cn) : TS2 := (sSq (sAs (eOp rAdd2 (eVar 2) (eLst (aCons (eMkX (cn.cl "BadSaying") (eVar 0)) (aCons (eMkX (cn.cl "BadNodes") (eVar 0)) (aCons (eMkX (cn.cl "BadNames") (eVar 0)) (aCons (eMkX (cn.cl "BadMachine") (eVar 0)) (aCons (eMkX (cn.cl "BadLaying") (eVar 0)) aNil))))))) (gN 2))
  (bx__law_made_2 cn))
def bx__law_made (cn : Cn) : TS2 := (sSq (sAs (eLst (aCons (eMkX (cn.cl "BadDocument") (eVar 0)) (aCons (eMkX (cn.cl "BadNode") (eVar 0)) (aCons (eMkX (cn.cl "BadPlace") (eVar 0)) (aCons (eMkI (cn.cl "BadText") "place" (eVar 1)) (aCons (eMkX (cn.cl "BadEdit") (eVar 0)) (aCons (eMkX (cn.cl "BadPairs") (eVar 0)) aNil))))))) (gN 2))
  (bx__law_made_3 cn))
theorem semx__law_made (cn : Cn) : ∀ ds M Q E, spx__law_made cn ds M Q E → bx__law_made cn (fEnds Q E) (start2 n__law_made ds) M := by
  rintro ds M Q E ⟨a, b, rfl, z, i, rfl, rfl, hq⟩
  have l5 : 5 ≤ sizeLine := small_line (by decide)
  have l6 : 6 ≤ sizeLine := small_line (by decide)
  have l11 : 11 ≤ sizeLine := small_line (by decide)
  have l16 : 16 ≤ sizeLine := small_line (by decide)
  have l21 : 21 ≤ sizeLine := small_line (by decide)
  simp only [bx__law_made, start2, n__law_made]
  have L0 : Le M M := Le.refl
  simp
  refine newE_cut fun a0 N1 L1 e0 => ?_
  simp
  refine newE_cut fun a1 N2 L2 e1 => ?_
  simp
  refine newE_cut fun a2 N3 L3 e2 => ?_
  simp
  refine newEI_cut fun a3 dx N4 L4 e3 f3 => ?_
  simp
  refine newE_cut fun a4 N5 L5 e4 => ?_
  simp
  refine newE_cut fun a5 N6 L6 e5 => ?_
  simp [l5, l6]
  refine newL_cut fun p0 N7 L7 q0 => ?_
  try simp
  simp only [bx__law_made_3]
  simp
  refine newE_cut fun a6 N8 L8 e6 => ?_
  simp
  refine newE_cut fun a7 N9 L9 e7 => ?_
  simp
  refine newE_cut fun a8 N10 L10 e8 => ?_
  simp
  refine newE_cut fun a9 N11 L11 e9 => ?_
  simp
  refine newE_cut fun a10 N12 L12 e10 => ?_
  simp [l5, l6]
  refine newL_cut fun p1 N13 L13 q1 => ?_
  have g1 := (L8.trans (L9.trans (L10.trans (L11.trans (L12.trans (L13)))))) _ _ q0
  simp [g1, q1, l11, l16, l21]
  refine newL_cut fun r1 N14 L14 u1 => ?_
  try simp
  simp only [bx__law_made_2]
  simp
  refine newE_cut fun a11 N15 L15 e11 => ?_
  simp
  refine newE_cut fun a12 N16 L16 e12 => ?_
  simp
  refine newE_cut fun a13 N17 L17 e13 => ?_
  simp
  refine newE_cut fun a14 N18 L18 e14 => ?_
  simp
  refine newE_cut fun a15 N19 L19 e15 => ?_
  simp [l5, l6]
  refine newL_cut fun p2 N20 L20 q2 => ?_
  have g2 := (L15.trans (L16.trans (L17.trans (L18.trans (L19.trans (L20)))))) _ _ u1
  simp [g2, q2, l11, l16, l21]
  refine newL_cut fun r2 N21 L21 u2 => ?_
  try simp
  simp only [bx__law_made_1]
  simp
  refine newE_cut fun a16 N22 L22 e16 => ?_
  simp
  refine newE_cut fun a17 N23 L23 e17 => ?_
  simp
  refine newE_cut fun a18 N24 L24 e18 => ?_
  simp
  refine newE_cut fun a19 N25 L25 e19 => ?_
  simp
  refine newE_cut fun a20 N26 L26 e20 => ?_
  simp [l5, l6]
  refine newL_cut fun p3 N27 L27 q3 => ?_
  have g3 := (L22.trans (L23.trans (L24.trans (L25.trans (L26.trans (L27)))))) _ _ u2
  simp [g3, q3, l11, l16, l21]
  refine newL_cut fun r3 N28 L28 u3 => ?_
  try simp
  have T28 : Le N28 N28 := Le.refl
  have T27 := L28.trans T28
  have T26 := L27.trans T27
  have T25 := L26.trans T26
  have T24 := L25.trans T25
  have T23 := L24.trans T24
  have T22 := L23.trans T23
  have T21 := L22.trans T22
  have T20 := L21.trans T21
  have T19 := L20.trans T20
  have T18 := L19.trans T19
  have T17 := L18.trans T18
  have T16 := L17.trans T17
  have T15 := L16.trans T16
  have T14 := L15.trans T15
  have T13 := L14.trans T14
  have T12 := L13.trans T13
  have T11 := L12.trans T12
  have T10 := L11.trans T11
  have T9 := L10.trans T10
  have T8 := L9.trans T9
  have T7 := L8.trans T8
  have T6 := L7.trans T7
  have T5 := L6.trans T6
  have T4 := L5.trans T5
  have T3 := L4.trans T4
  have T2 := L3.trans T3
  have T1 := L2.trans T2
  have T0 := L1.trans T1
  refine Fg.same (hq [a0, a1, a2, a3, a4, a5, a6, a7, a8, a9, a10, a11, a12, a13, a14, a15, a16, a17, a18, a19, a20] _ _ T0 (by rw [u3]; rfl) rfl ?_ ⟨a3, dx, rfl, T4 _ _ e3, T4 _ _ f3⟩)
  intro j e he
  match j, he with
  | 0, he => cases he; exact ⟨_, rfl, (ErrAt.one e0).le T1⟩
  | 1, he => cases he; exact ⟨_, rfl, (ErrAt.one e1).le T2⟩
  | 2, he => cases he; exact ⟨_, rfl, (ErrAt.one e2).le T3⟩
  | 3, he => cases he; exact ⟨_, rfl, (ErrAt.two e3 f3).le T4⟩
  | 4, he => cases he; exact ⟨_, rfl, (ErrAt.one e4).le T5⟩
  | 5, he => cases he; exact ⟨_, rfl, (ErrAt.one e5).le T6⟩
  | 6, he => cases he; exact ⟨_, rfl, (ErrAt.one e6).le T8⟩
  | 7, he => cases he; exact ⟨_, rfl, (ErrAt.one e7).le T9⟩
  | 8, he => cases he; exact ⟨_, rfl, (ErrAt.one e8).le T10⟩
  | 9, he => cases he; exact ⟨_, rfl, (ErrAt.one e9).le T11⟩
  | 10, he => cases he; exact ⟨_, rfl, (ErrAt.one e10).le T12⟩
  | 11, he => cases he; exact ⟨_, rfl, (ErrAt.one e11).le T15⟩
  | 12, he => cases he; exact ⟨_, rfl, (ErrAt.one e12).le T16⟩
  | 13, he => cases he; exact ⟨_, rfl, (ErrAt.one e13).le T17⟩
  | 14, he => cases he; exact ⟨_, rfl, (ErrAt.one e14).le T18⟩
  | 15, he => cases he; exact ⟨_, rfl, (ErrAt.one e15).le T19⟩
  | 16, he => cases he; exact ⟨_, rfl, (ErrAt.one e16).le T22⟩
  | 17, he => cases he; exact ⟨_, rfl, (ErrAt.one e17).le T23⟩
  | 18, he => cases he; exact ⟨_, rfl, (ErrAt.one e18).le T24⟩
  | 19, he => cases he; exact ⟨_, rfl, (ErrAt.one e19).le T25⟩
  | 20, he => cases he; exact ⟨_, rfl, (ErrAt.one e20).le T26⟩
  | j + 21, he => cases he
def spx__law_kinds (cn : Cn) : Sp2 := A1 fun a M Q _ => ∃ (e : Addr) (j : Nat) (y : Str), a = .loc e ∧ kinds00[j]? = some y ∧ ErrAt M e (cn.cl y) ∧ ∀ p M', Le M M' → M' p = some (.lst ((List.range 21).map fun k => .bl (j == k))) → Q (.loc p) M'
def n__law_kinds : List Str := "made" :: "got" :: []
def bx__law_kinds_1 (cn : Cn) : TS2 := (sRt (eOp rAdd2 (eVar 1) (eLst (aCons (eB (rIsxD cn.isx) (aCons (eVar 0) (aCons (eC (.loc (cn.ad "BadNumber"))) aNil))) (aCons (eB (rIsxD cn.isx) (aCons (eVar 0) (aCons (eC (.loc (cn.ad "BadEdition"))) aNil))) (aCons (eB (rIsxD cn.isx) (aCons (eVar 0) (aCons (eC (.loc (cn.ad "BadIndex"))) aNil))) aNil))))))
def bx__law_kinds_2 (cn : Cn) : TS2 := (sSq (sAs (eOp rAdd2 (eVar 1) (eLst (aCons (eB (rIsxD cn.isx) (aCons (eVar 0) (aCons (eC (.loc (cn.ad "BadShape"))) aNil))) (aCons (eB (rIsxD cn.isx) (aCons (eVar 0) (aCons (eC (.loc (cn.ad "BadCount"))) aNil))) (aCons (eB (rIsxD cn.isx) (aCons (eVar 0) (aCons (eC (.loc (cn.ad "BadBalance"))) aNil))) aNil))))) (gN 1))
  (bx__law_kinds_1 cn))
def bx__law_kinds_3 (cn : Cn) : TS2 := (sSq (sAs (eOp rAdd2 (eVar 1) (eLst (aCons (eB (rIsxD cn.isx) (aCons (eVar 0) (aCons (eC (.loc (cn.ad "BadName"))) aNil))) (aCons (eB (rIsxD cn.isx) (aCons (eVar 0) (aCons (eC (.loc (cn.ad "TooMany"))) aNil))) (aCons (eB (rIsxD cn.isx) (aCons (eVar 0) (aCons (eC (.loc (cn.ad "BadSayings"))) aNil))) aNil))))) (gN 1))
  (bx__law_kinds_2 cn))
def bx__law_kinds_4 (cn : Cn) : TS2 := (sSq (sAs (eOp rAdd2 (eVar 1) (eLst (aCons (eB (rIsxD cn.isx) (aCons (eVar 0) (aCons (eC (.loc (cn.ad "BadMachine"))) aNil))) (aCons (eB (rIsxD cn.isx) (aCons (eVar 0) (aCons (eC (.loc (cn.ad "BadLaying"))) aNil))) (aCons (eB (rIsxD cn.isx) (aCons (eVar 0) (aCons (eC (.loc (cn.ad "BadMachines"))) aNil))) aNil))))) (gN 1))
  (bx__law_kinds_3 cn))
def bx__law_kinds_5 (cn : Cn) : TS2 := (sSq (sAs (eOp rAdd2 (eVar 1) (eLst (aCons (eB (rIsxD cn.isx) (aCons (eVar 0) (aCons (eC (.loc (cn.ad "BadSaying"))) aNil))) (aCons (eB (rIsxD cn.isx) (aCons (eVar 0) (aCons (eC (.loc (cn.ad "BadNodes"))) aNil))) (aCons (eB (rIsxD cn.isx) (aCons (eVar 0) (aCons (eC (.loc (cn.ad "BadNames"))) aNil))) aNil))))) (gN 1))
  (bx__law_kinds_4 cn))
def bx__law_kinds_6 (cn : Cn) : TS2 := (sSq (sAs (eOp rAdd2 (eVar 1) (eLst (aCons (eB (rIsxD cn.isx) (aCons (eVar 0) (aCons (eC (.loc (cn.ad "BadText"))) aNil))) (aCons (eB (rIsxD cn.isx) (aCons (eVar 0) (aCons (eC (.loc (cn.ad "BadEdit"))) aNil))) (aCons (eB (rIsxD cn.isx) (aCons (eVar 0) (aCons (eC (.loc (cn.ad "BadPairs"))) aNil))) aNil))))) (gN 1))
  (bx__law_kinds_5 cn))
def bx__law_kinds (cn : Cn) : TS2 := (sSq (sAs (eLst (aCons (eB (rIsxD cn.isx) (aCons (eVar 0) (aCons (eC (.loc (cn.ad "BadDocument"))) aNil))) (aCons (eB (rIsxD cn.isx) (aCons (eVar 0) (aCons (eC (.loc (cn.ad "BadNode"))) aNil))) (aCons (eB (rIsxD cn.isx) (aCons (eVar 0) (aCons (eC (.loc (cn.ad "BadPlace"))) aNil))) aNil)))) (gN 1))
  (bx__law_kinds_6 cn))
theorem semx__law_kinds (cn : Cn) (hx : ExF cn) : ∀ ds M Q E, spx__law_kinds cn ds M Q E → bx__law_kinds cn (fEnds Q E) (start2 n__law_kinds ds) M := by
  rintro ds M Q E ⟨a, rfl, e, j, y, rfl, hy, hE, hq⟩
  have l3 : 3 ≤ sizeLine := small_line (by decide)
  have l6 : 6 ≤ sizeLine := small_line (by decide)
  have l9 : 9 ≤ sizeLine := small_line (by decide)
  have l12 : 12 ≤ sizeLine := small_line (by decide)
  have l15 : 15 ≤ sizeLine := small_line (by decide)
  have l18 : 18 ≤ sizeLine := small_line (by decide)
  have l21 : 21 ≤ sizeLine := small_line (by decide)
  have fact : ∀ k x, kinds00[k]? = some x → cn.isx (cn.cl y) (cn.cl x) = some (j == k) := fun k x hk => (hx.2.2.2.1 j k y x hy hk).1
  simp only [bx__law_kinds, start2, n__law_kinds]
  simp
  refine ErrAt.s hE (fact 0 "BadDocument" rfl) ?_
  simp [l3]
  refine ErrAt.s hE (fact 1 "BadNode" rfl) ?_
  simp [l3]
  refine ErrAt.s hE (fact 2 "BadPlace" rfl) ?_
  simp [l3]
  refine newL_cut fun p0 N1 L1 q0 => ?_
  have h1 := hE.le L1
  try simp
  simp only [bx__law_kinds_6]
  simp
  refine ErrAt.s h1 (fact 3 "BadText" rfl) ?_
  simp [l3]
  refine ErrAt.s h1 (fact 4 "BadEdit" rfl) ?_
  simp [l3]
  refine ErrAt.s h1 (fact 5 "BadPairs" rfl) ?_
  simp [l3]
  refine newL_cut fun p1 N2 L2 q1 => ?_
  have h2 := h1.le L2
  have g1 := L2 _ _ q0
  simp [g1, q1, l6, l9, l12, l15, l18, l21]
  refine newL_cut fun r1 N3 L3 u1 => ?_
  have h3 := h2.le L3
  try simp
  simp only [bx__law_kinds_5]
  simp
  refine ErrAt.s h3 (fact 6 "BadSaying" rfl) ?_
  simp [l3]
  refine ErrAt.s h3 (fact 7 "BadNodes" rfl) ?_
  simp [l3]
  refine ErrAt.s h3 (fact 8 "BadNames" rfl) ?_
  simp [l3]
  refine newL_cut fun p2 N4 L4 q2 => ?_
  have h4 := h3.le L4
  have g2 := L4 _ _ u1
  simp [g2, q2, l6, l9, l12, l15, l18, l21]
  refine newL_cut fun r2 N5 L5 u2 => ?_
  have h5 := h4.le L5
  try simp
  simp only [bx__law_kinds_4]
  simp
  refine ErrAt.s h5 (fact 9 "BadMachine" rfl) ?_
  simp [l3]
  refine ErrAt.s h5 (fact 10 "BadLaying" rfl) ?_
  simp [l3]
  refine ErrAt.s h5 (fact 11 "BadMachines" rfl) ?_
  simp [l3]
  refine newL_cut fun p3 N6 L6 q3 => ?_
  have h6 := h5.le L6
  have g3 := L6 _ _ u2
  simp [g3, q3, l6, l9, l12, l15, l18, l21]
  refine newL_cut fun r3 N7 L7 u3 => ?_
  have h7 := h6.le L7
  try simp
  simp only [bx__law_kinds_3]
  simp
  refine ErrAt.s h7 (fact 12 "BadName" rfl) ?_
  simp [l3]
  refine ErrAt.s h7 (fact 13 "TooMany" rfl) ?_
  simp [l3]
  refine ErrAt.s h7 (fact 14 "BadSayings" rfl) ?_
  simp [l3]
  refine newL_cut fun p4 N8 L8 q4 => ?_
  have h8 := h7.le L8
  have g4 := L8 _ _ u3
  simp [g4, q4, l6, l9, l12, l15, l18, l21]
  refine newL_cut fun r4 N9 L9 u4 => ?_
  have h9 := h8.le L9
  try simp
  simp only [bx__law_kinds_2]
  simp
  refine ErrAt.s h9 (fact 15 "BadShape" rfl) ?_
  simp [l3]
  refine ErrAt.s h9 (fact 16 "BadCount" rfl) ?_
  simp [l3]
  refine ErrAt.s h9 (fact 17 "BadBalance" rfl) ?_
  simp [l3]
  refine newL_cut fun p5 N10 L10 q5 => ?_
  have h10 := h9.le L10
  have g5 := L10 _ _ u4
  simp [g5, q5, l6, l9, l12, l15, l18, l21]
  refine newL_cut fun r5 N11 L11 u5 => ?_
  have h11 := h10.le L11
  try simp
  simp only [bx__law_kinds_1]
  simp
  refine ErrAt.s h11 (fact 18 "BadNumber" rfl) ?_
  simp [l3]
  refine ErrAt.s h11 (fact 19 "BadEdition" rfl) ?_
  simp [l3]
  refine ErrAt.s h11 (fact 20 "BadIndex" rfl) ?_
  simp [l3]
  refine newL_cut fun p6 N12 L12 q6 => ?_
  have h12 := h11.le L12
  have g6 := L12 _ _ u5
  simp [g6, q6, l6, l9, l12, l15, l18, l21]
  refine newL_cut fun r6 N13 L13 u6 => ?_
  have h13 := h12.le L13
  try simp
  have T13 : Le N13 N13 := Le.refl
  have T12 := L13.trans T13
  have T11 := L12.trans T12
  have T10 := L11.trans T11
  have T9 := L10.trans T10
  have T8 := L9.trans T9
  have T7 := L8.trans T8
  have T6 := L7.trans T7
  have T5 := L6.trans T6
  have T4 := L5.trans T5
  have T3 := L4.trans T4
  have T2 := L3.trans T3
  have T1 := L2.trans T2
  have T0 := L1.trans T1
  exact Fg.same (hq _ _ T0 u6)
end T

/-! L: texts of numbers and places tell them apart; plain. -/
namespace T
open PySem PySem.Spec PyProof.Rows L2
def dg (m : Nat) : List Nat := (Nat.toDigits 10 m).map Char.toNat
theorem dg_inj {a b : Nat} (h : dg a = dg b) : a = b := by
  have h1 := PySem.W.KIN.val_back a
  have h2 := PySem.W.KIN.val_back b
  unfold dg at h
  rw [h] at h1
  exact h1.symm.trans h2
theorem dg_dig {m : Nat} : ∀ x ∈ dg m, 48 ≤ x ∧ x ≤ 57 := by
  intro x hx
  obtain ⟨c, hc, rfl⟩ := List.mem_map.mp hx
  have h := Nat.isDigit_of_mem_toDigits (by decide) (by decide) hc
  unfold Char.isDigit at h
  simp only [Bool.and_eq_true, decide_eq_true_eq] at h
  exact ⟨UInt32.le_iff_toNat_le.mp h.1, UInt32.le_iff_toNat_le.mp h.2⟩
theorem dg_ne {m : Nat} : dg m ≠ [] := by
  unfold dg
  intro e
  exact Nat.toDigits_ne_nil (List.map_eq_nil_iff.mp e)
def sg (t : Tr) : List Nat := (toP t).shown.cps.toList
theorem sg_nat {k : Nat} : sg (.int (k : Int)) = dg k := by
  show ((toString ((k : Nat) : Int) : String) : Str).cps.toList = _
  exact PySem.W.KIN.signs_num k
theorem sg_neg {i : Int} (h : i < 0) : ∃ r, sg (.int i) = 45 :: r := by
  obtain ⟨m, rfl⟩ := Int.eq_negSucc_of_lt_zero h
  refine ⟨(Nat.repr (m + 1)).toList.map Char.toNat, ?_⟩
  show (Str.ofString (toString (Int.negSucc m))).cps.toList = _
  rw [signs_ofString]
  show (("-" ++ Nat.repr (m + 1) : String)).toList.map Char.toNat = _
  rw [String.toList_append]
  rfl
def so : Option Nat → List Nat
  | none => [78, 111, 110, 101]
  | some k => dg k
theorem sg_opt {o : Option Nat} : sg (optT o) = so o := by
  cases o with
  | none => show (("None" : Str)).cps.toList = _; decide +kernel
  | some k => exact sg_nat
theorem sg_place {o : Option Nat} {w : Nat} : sg (placeT o w) = 40 :: (so o ++ ([44, 32] ++ (dg w ++ [41]))) := by
  have e : (toP (placeT o w)).shown = ("(" : Str) ++ ((toP (optT o)).shown ++ ((", " : String) : Str) ++ (toP (.int (w : Int))).shown) ++ (")" : String) := by
    show (PyData.tuple [toP (optT o), toP (.int (w : Int))]).shown = _
    rw [PyData.shown_tuple]
    simp only [PyData.shownAll_cons, PyData.shownAll_nil]
    rfl
  unfold sg
  rw [e]
  simp only [cpsA]
  have h1 : sg (optT o) = so o := sg_opt
  have h2 : sg (.int (w : Int)) = dg w := sg_nat
  unfold sg at h1 h2
  rw [h1, h2]
  have e1 : ((("(" : String) : Str)).cps.toList = [40] := by decide
  have e2 : (((", " : String) : Str)).cps.toList = [44, 32] := by decide
  have e3 : (((")" : String) : Str)).cps.toList = [41] := by decide
  rw [e1, e2, e3]
  simp
/-- no comma among the signs of a parent -/
theorem so_nc {o : Option Nat} : ∀ x ∈ so o, x ≠ 44 := by
  intro x hx
  cases o with
  | none =>
    simp only [so, List.mem_cons, List.not_mem_nil, or_false] at hx
    omega
  | some k => have := dg_dig x hx; omega
theorem so_inj {o o' : Option Nat} (h : so o = so o') : o = o' := by
  cases o with
  | none =>
    cases o' with
    | none => rfl
    | some k =>
      have := dg_dig (m := k) 78 (by rw [← show so (some k) = dg k from rfl, ← h]; simp [so])
      omega
  | some k =>
    cases o' with
    | none =>
      have := dg_dig (m := k) 78 (by rw [← show so (some k) = dg k from rfl, h]; simp [so])
      omega
    | some j => rw [dg_inj h]
theorem comma_split {a b r s : List Nat} (ha : ∀ x ∈ a, x ≠ 44) (hb : ∀ x ∈ b, x ≠ 44) (h : a ++ 44 :: r = b ++ 44 :: s) : a = b ∧ r = s := by
  induction a generalizing b with
  | nil =>
    cases b with
    | nil => simpa using h
    | cons y b => simp at h; exact absurd h.1.symm (hb y (by simp))
  | cons x a ih =>
    cases b with
    | nil => simp at h; exact absurd h.1 (ha x (by simp))
    | cons y b =>
      simp at h
      obtain ⟨h1, h2⟩ := ih (fun z hz => ha z (List.mem_cons_of_mem _ hz)) (fun z hz => hb z (List.mem_cons_of_mem _ hz)) h.2
      exact ⟨by rw [h.1, h1], h2⟩
theorem place_inj {o o' : Option Nat} {w w' : Nat} (h : sg (placeT o w) = sg (placeT o' w')) : o = o' ∧ w = w' := by
  rw [sg_place, sg_place] at h
  injection h with _ h
  obtain ⟨h1, h2⟩ := comma_split so_nc so_nc (show so o ++ 44 :: (32 :: (dg w ++ [41])) = so o' ++ 44 :: (32 :: (dg w' ++ [41])) from h)
  refine ⟨so_inj h1, ?_⟩
  injection h2 with _ h2
  exact dg_inj (List.append_cancel_right h2)
/-- signs that are no number's -/
def NoNum (l : List Nat) : Prop := ∃ x ∈ l, ¬ (48 ≤ x ∧ x ≤ 57)
/-- signs that are no place's -/
def NoPl (l : List Nat) : Prop := l.head? ≠ some 40 ∨ ¬ ∃ r x, l = r ++ [x, 41] ∧ 48 ≤ x ∧ x ≤ 57
theorem no_num {l : List Nat} (h : NoNum l) {k : Nat} : l ≠ dg k := by
  rintro rfl
  obtain ⟨x, hx, h⟩ := h
  exact h (dg_dig x hx)
theorem no_pl {l : List Nat} (h : NoPl l) {o : Option Nat} {w : Nat} : l ≠ sg (placeT o w) := by
  rintro rfl
  rw [sg_place] at h
  rcases h with h | h
  · exact h rfl
  · refine h ⟨40 :: (so o ++ ([44, 32] ++ (dg w).dropLast)), (dg w).getLast dg_ne, ?_, dg_dig _ (List.getLast_mem _)⟩
    have e := List.dropLast_concat_getLast (dg_ne (m := w))
    have : dg w ++ [41] = (dg w).dropLast ++ [(dg w).getLast dg_ne, 41] := by
      conv => lhs; rw [← e]
      simp
    rw [this]
    simp
end T

/-! S: documents drawn. -/
namespace T
open PySem PySem.Spec PyProof.Rows L2
/-- a document is drawn with as many nodes as most, at the most -/
def sp__law_document : Sp2 := A2 fun a b M Q _ => ∃ (f : Addr) (m n : Nat) (o : MO), a = .loc f ∧ b = .int m ∧ m ≤ 1000 ∧ n ≤ 100000000 ∧ M f = some o ∧ FeedO n o ∧ ∀ (d : Doc) o', Val d → d.length ≤ m → FeedO (n + 5000) o' → Q (docT d) (up M f o')
def n__law_document : List Str := "feed" :: "most" :: "marks" :: "many" :: "way" :: "got" :: "depth" :: "turn" :: "steps" :: []
def b__law_document : TS2 := (sSq (sPr3 2 3 4 (aCons (eCall sp__law_one [] (aCons (eVar 0) (aCons (eLst (aCons (eC (.str "a")) (aCons (eC (.str "ab")) (aCons (eC (.str "ab")) (aCons (eC (.str "abc")) (aCons (eC (.str "abcdefgh")) aNil)))))) aNil))) (aCons (eCall sp__law_draw [] (aCons (eVar 0) (aCons (eOp rAdd2 (eVar 1) (eC (.int 1))) aNil))) (aCons (eCall sp__law_draw [] (aCons (eVar 0) (aCons (eC (.int 6)) aNil))) aNil))))
  (sSq (sPr 5 6 (aCons (eLst aNil) (aCons (eUn rNeg2 (eC (.int 1))) aNil)))
  (sSq (sFo (iRg1 (aCons (eVar 3) aNil)) (gN 7) (sSq (sIf (tCm (eOp (rEqG id) (eVar 4) (eC (.int 0)))) (sAs (eIf (tCm (eOp (rEqG id) (eVar 7) (eC (.int 0)))) (eC (.int 0)) (eC (.int 1))) (gN 6)) (sIf (tCm (eOp (rEqG id) (eVar 4) (eC (.int 1)))) (sAs (eIf (tCm (eOp rGtI (eCall sp__law_draw [] (aCons (eVar 0) (aCons (eC (.int 9)) aNil))) (eC (.int 0)))) (eOp rAdd2 (eVar 6) (eC (.int 1))) (eCall sp__law_draw [] (aCons (eVar 0) (aCons (eOp rAdd2 (eVar 6) (eC (.int 2))) aNil)))) (gN 6)) (sSq (sAs (eLst (aCons (eOp rAdd2 (eVar 6) (eC (.int 1))) (aCons (eOp rAdd2 (eVar 6) (eC (.int 1))) (aCons (eVar 6) (aCons (eVar 6) (aCons (eOp rSub2 (eVar 6) (eC (.int 1))) (aCons (eC (.int 0)) (aCons (eCall sp__law_draw [] (aCons (eVar 0) (aCons (eOp rAdd2 (eVar 6) (eC (.int 2))) aNil))) aNil)))))))) (gN 8))
  (sAs (eB rMax2 (aCons (eC (.int 0)) (aCons (eB rMin2 (aCons (eOp rAdd2 (eVar 6) (eC (.int 1))) (aCons (eCall sp__law_one [] (aCons (eVar 0) (aCons (eVar 8) aNil))) aNil))) aNil))) (gN 6)))))
  (sDr (eM "list" rApp2 (eVar 5) (aCons (eTup (aCons (eCall sp__law_one [] (aCons (eVar 0) (aCons (eVar 2) aNil))) (aCons (eVar 6) aNil))) aNil)))))
  (sRt (eB rTuple2 (aCons (eVar 5) aNil))))))
theorem sem__law_document : ∀ ds M Q E, sp__law_document ds M Q E → b__law_document (fEnds Q E) (start2 n__law_document ds) M := by
  rintro ds M Q E ⟨a, b, rfl, f, m, n, o, rfl, rfl, hm, hn, hf, hF, hq⟩
  simp only [b__law_document, start2, n__law_document]
  simp
  intro p hp
  have fp : f ≠ p := m_ne hf hp
  refine ⟨_, _, rfl, f, [.str "a", .str "ab", .str "ab", .str "abc", .str "abcdefgh"], n, o, rfl, ?_, ?_, ?_, by decide, by decide, by omega, by rw [up_ne fp]; exact hf, hF, ?_⟩
  · exact lenT_lst up_same
  · exact seqT_lst up_same
  · intro e; cases e; exact fp rfl
  intro r o1 hr hF1
  obtain ⟨z, rfl, hz⟩ : ∃ z, r = .str z ∧ mkW z := by
    simp at hr
    rcases hr with h | h | h | h <;> subst h
    · exact ⟨_, rfl, .inl rfl⟩
    · exact ⟨_, rfl, .inr (.inl rfl)⟩
    · exact ⟨_, rfl, .inr (.inr (.inl rfl))⟩
    · exact ⟨_, rfl, .inr (.inr (.inr rfl))⟩
  simp
  refine ⟨_, _, rfl, f, _, n + 1, o1, rfl, rfl, by omega, by omega, by omega, up_same, hF1, fun k o2 k0 k1 hF2 => ?_⟩
  simp
  refine ⟨_, _, rfl, f, _, n + 1 + 1, o2, rfl, rfl, by omega, by omega, by omega, up_same, hF2, fun way o3 w0 w1 hF3 => ?_⟩
  simp
  intro g hg
  have fg : f ≠ g := by
    intro e; subst e
    rw [up_same] at hg; cases hg
  have gp : g ≠ p := by
    intro e; subst e
    rw [up_ne (fun e => fp e.symm), up_same] at hg; cases hg
  have hg2 : M g = none := by rw [up_ne (fun e => fg e.symm), up_ne gp] at hg; exact hg
  simp
  refine ⟨⟨by omega, by omega⟩, for_itR (fun i σ M' => ∃ (d : Doc) (x y : Option Tr) (o : MO), σ = [some (.loc f), some (.int m), some (.str z), some (.int k), some (.int way), some (.loc g), some (.int ((nextD d : Int) - 1)), x, y] ∧
    M' f = some o ∧ FeedO (n + 3 + 3 * i) o ∧ M' g = some (.lst (d.map entT)) ∧ Vd 0 d ∧ d.length = i ∧ ∀ a o, a ≠ f → M a = some o → M' a = some o) ?_ ?_ ?_⟩
  · refine ⟨[], none, none, o3, rfl, ?_, hF3, up_same, trivial, rfl, fun a o ha h => ?_⟩
    · rw [up_ne fg]; exact up_same
    · have ag : a ≠ g := m_ne h hg2
      have ap : a ≠ p := m_ne h hp
      rw [up_ne ag, up_ne ha, up_ne ap]; exact h
  · rintro i σ M' hi ⟨d, x, y, o, rfl, hf', hF', hg', hv, hd, hk⟩
    have hn' := nextD_le hv
    simp only [gN_7]
    have dn : 0 < i → 1 ≤ nextD d := by
      intro h
      have : d ≠ [] := by intro e; subst e; simp at hd; omega
      obtain ⟨d0, e, rfl⟩ : ∃ d0 e, d = d0 ++ [e] := ⟨d.dropLast, d.getLast this, (List.dropLast_concat_getLast this).symm⟩
      rw [nextD_snoc]; omega
    refine seq_cut (fun σ1 M1 => ∃ (j : Nat) (x y : Option Tr) (o : MO), σ1 = [some (.loc f), some (.int m), some (.str z), some (.int k), some (.int way), some (.loc g), some (.int j), x, y] ∧ j ≤ nextD d ∧
      M1 f = some o ∧ FeedO (n + 3 + 3 * i + 2) o ∧ M1 g = some (.lst (d.map entT)) ∧ ∀ a o, a ≠ f → M a = some o → M1 a = some o) (fun NX hN => ?_) ?_
    · rcases Decidable.em (way = 0) with rfl | w0'
      · simp
        by_cases i0 : i = 0
        · simp [i0]
          exact hN _ _ ⟨0, _, _, o, rfl, by omega, hf', hF'.mono (by omega), hg', hk⟩
        · simp [i0]
          exact hN _ _ ⟨1, _, _, o, rfl, dn (by omega), hf', hF'.mono (by omega), hg', hk⟩
      · rcases Decidable.em (way = 1) with rfl | w1'
        · simp
          refine ⟨_, _, rfl, f, 9, _, o, rfl, rfl, by omega, by omega, by omega, hf', hF', fun r o1 r0 r1 hF1 => ?_⟩
          have fr : ∀ a o, a ≠ f → M a = some o → up M' f o1 a = some o := fun a o ha h => by rw [up_ne ha]; exact hk a o ha h
          have gg : up M' f o1 g = some (.lst (d.map entT)) := by rw [up_ne (fun e => fg e.symm)]; exact hg'
          by_cases r2 : 0 < r
          · simp [r2]
            exact hN _ _ ⟨nextD d, _, _, o1, rfl, by omega, up_same, hF1.mono (by omega), gg, fr⟩
          · simp [r2]
            refine ⟨_, _, rfl, f, _, _, o1, rfl, rfl, by omega, by omega, by omega, up_same, hF1, fun r' o2 r0' r1' hF2 => ?_⟩
            simp
            obtain ⟨j, rfl⟩ : ∃ j : Nat, r' = (j : Int) := ⟨r'.toNat, by omega⟩
            exact hN _ _ ⟨j, _, _, o2, rfl, by omega, up_same, hF2.mono (by omega), by rw [up_ne (fun e => fg e.symm)]; exact hg', fun a o ha h => by rw [up_ne ha]; exact hk a o ha h⟩
        · simp [w0', w1']
          refine ⟨_, _, rfl, f, _, _, o, rfl, rfl, by omega, by omega, by omega, hf', hF', fun r o1 r0 r1 hF1 => ?_⟩
          simp
          intro q hq1
          simp
          have fq : f ≠ q := m_ne up_same hq1
          have gq : g ≠ q := m_ne (o := .lst (d.map entT)) (by rw [up_ne (fun e => fg e.symm)]; exact hg') hq1
          refine ⟨_, _, rfl, f, _, _, o1, rfl, lenT_lst up_same, seqT_lst up_same, ?_, by simp, by simp, ?_, by rw [up_ne fq]; exact up_same, hF1, fun s o2 hs hF2 => ?_⟩
          · intro e; cases e; exact fq rfl
          · omega
          obtain ⟨v, rfl⟩ : ∃ v, s = .int v := by
            simp at hs
            rcases hs with h | h | h | h | h <;> exact ⟨_, h⟩
          simp
          obtain ⟨j, hj, hj2⟩ : ∃ j : Nat, (if 0 < (if v < (nextD d : Int) then v else (nextD d : Int)) then (if v < (nextD d : Int) then v else (nextD d : Int)) else 0) = (j : Int) ∧ j ≤ nextD d := by
            refine ⟨(if 0 < (if v < (nextD d : Int) then v else (nextD d : Int)) then (if v < (nextD d : Int) then v else (nextD d : Int)) else 0).toNat, ?_, ?_⟩
            · split <;> split <;> omega
            · split <;> split <;> omega
          rw [hj]
          refine hN _ _ ⟨j, _, _, o2, rfl, hj2, up_same, hF2.mono (by omega), ?_, fun a o ha h => ?_⟩
          · rw [up_ne (fun e => fg e.symm), up_ne gq, up_ne (fun e => fg e.symm)]; exact hg'
          · have aq : a ≠ q := m_ne (o := o) (by rw [up_ne ha]; exact hk a o ha h) hq1
            rw [up_ne ha, up_ne aq, up_ne ha]; exact hk a o ha h
    · rintro σ1 M1 ⟨j, x, y, o, rfl, hj, hf1, hF1, hg1, hk1⟩
      obtain ⟨z1, z2, z3⟩ := mkW_len hz
      simp [hg1]
      refine ⟨_, _, rfl, f, (z.cps.toList.map fun k => Tr.str ⟨#[k]⟩), _, o, rfl, ?_, rfl, (fun e => nomatch e), by rw [List.length_map]; omega, by rw [List.length_map]; omega, by omega, hf1, hF1, fun r o1 hr hF2 => ?_⟩
      · rw [lenT_str' (small_line (by omega)), List.length_map, z3]
      obtain ⟨mk, rfl, hmk⟩ := mkW_mem hz r hr
      simp [up_ne (fun e => fg e.symm : g ≠ f), hg1]
      refine ⟨small_lt (by omega), d ++ [(mk, j)], ?_, ?_⟩
      · rw [nextD_snoc]; simp
      · refine ⟨o1, by rw [up_ne fg]; exact up_same, hF2.mono (by omega), by simp [entT], Val.snoc hv hmk hj, by simp [hd], fun a o ha h => ?_⟩
        by_cases ag : a = g
        · subst ag
          rw [hg2] at h; cases h
        · rw [up_ne ag, up_ne ha]; exact hk1 a o ha h
  · rintro σ M' ⟨d, x, y, o, rfl, hf', hF', hg', hv, hd, hk⟩
    simp [hg']
    refine Fg.le (M := up M f o) (fun a u e => ?_) (hq d o ⟨hv, by omega⟩ (by omega) (hF'.mono (by omega)))
    by_cases c : a = f
    · subst c
      rw [up_same] at e
      rw [hf', ← e]
    · rw [up_ne c] at e
      exact hk a u c e
end T

/-! S: a document grown out of cells. -/
namespace T
open PySem PySem.Spec PyProof.Rows L2
def sp__law_grown : Sp2 := A1 fun a M Q _ => ∃ ns : List Int, seqS a M = some (ns.map Tr.int) ∧ ns.length ≤ 100 ∧ ∀ d : Doc, Val d → d.length = ns.length → Q (docT d) M
def n__law_grown : List Str := "cells" :: "got" :: "most" :: "cell" :: "depth" :: []
def b__law_grown : TS2 := (sSq (sPr 1 2 (aCons (eLst aNil) (aCons (eC (.int 0)) aNil)))
  (sSq (sFo (iSq (eVar 0)) (gN 3) (sSq (sAs (eOp rMod2 (eB rInt2 (aCons (eVar 3) aNil)) (eOp rAdd2 (eVar 2) (eC (.int 1)))) (gN 4))
  (sSq (sDr (eM "list" rApp2 (eVar 1) (aCons (eTup (aCons (eOp rIx2 (eC (.str "abcdefgh")) (eOp rMod2 (eB rInt2 (aCons (eOp rDiv2 (eVar 3) (eOp rAdd2 (eVar 2) (eC (.int 1)))) aNil)) (eC (.int 8)))) (aCons (eVar 4) aNil))) aNil)))
  (sAs (eOp rAdd2 (eVar 4) (eC (.int 1))) (gN 2)))))
  (sRt (eB rTuple2 (aCons (eVar 1) aNil)))))
theorem sem__law_grown : ∀ ds M Q E, sp__law_grown ds M Q E → b__law_grown (fEnds Q E) (start2 n__law_grown ds) M := by
  rintro ds M Q E ⟨a, rfl, ns, hs, hl, hq⟩
  simp only [b__law_grown, start2, n__law_grown]
  simp
  intro p hp
  simp
  have hs1 : seqS a (up M p (.lst [])) = some (ns.map Tr.int) := by
    cases a with
    | loc g =>
      have e := seqT_loc hs
      exact seqT_lst (by rw [up_ne (m_ne e hp)]; exact e)
    | _ => exact hs
  rw [kSS_some hs1]
  refine for_itL (fun i σ M' => ∃ (d : Doc) (x y : Option Tr), σ = [some a, some (.loc p), some (.int (nextD d)), x, y] ∧ M' = up M p (.lst (d.map entT)) ∧ Vd 0 d ∧ d.length = i) ?_ ?_ ?_ ?_
  · exact ⟨[], none, none, rfl, rfl, trivial, rfl⟩
  · rintro i σ M' _ ⟨d, x, y, rfl, rfl, _⟩
    cases a with
    | loc g =>
      have e := seqT_loc hs
      exact seqT_lst (by rw [up_ne (m_ne e hp)]; exact e)
    | _ => exact hs
  · rintro i e σ M' he ⟨d, x, y, rfl, rfl, hv, hd⟩
    rw [List.getElem?_map] at he
    cases hc : ns[i]? with
    | none => rw [hc] at he; cases he
    | some n =>
      rw [hc] at he
      cases he
      simp
      have hn := nextD_le hv
      have hi := (List.getElem?_eq_some_iff.mp hc).1
      have g0 := Int.emod_nonneg (n / ((nextD d : Int) + 1)) (show (8 : Int) ≠ 0 by decide)
      have g1 := Int.emod_lt_of_pos (n / ((nextD d : Int) + 1)) (show (0 : Int) < 8 by decide)
      obtain ⟨k, hk⟩ : ∃ k : Nat, n / ((nextD d : Int) + 1) % 8 = (k : Int) := ⟨(n / ((nextD d : Int) + 1) % 8).toNat, by omega⟩
      obtain ⟨c, hc1, hc2⟩ := mark8 k (by omega)
      rw [hk]
      have f0 := Int.emod_nonneg n (show (nextD d : Int) + 1 ≠ 0 by omega)
      have f1 := Int.emod_lt_of_pos n (show (0 : Int) < (nextD d : Int) + 1 by omega)
      obtain ⟨j, hj⟩ : ∃ j : Nat, n % ((nextD d : Int) + 1) = (j : Int) := ⟨(n % ((nextD d : Int) + 1)).toNat, by omega⟩
      rw [hj]
      refine ⟨CDv.of (by omega) (by omega), small_line (by decide), ?_⟩
      rw [kChr_get hc1]
      refine ⟨small_lt (by omega), d ++ [(⟨#[c]⟩, j)], ?_, ?_, Val.snoc hv hc2 (by show j ≤ nextD d; omega), by simp [hd]⟩
      · rw [nextD_snoc]; simp
      · simp [entT]
  · rintro σ M' ⟨d, x, y, rfl, rfl, hv, hd⟩
    simp
    refine Fg.le (Le.new hp) (hq d ⟨hv, ?_⟩ ?_)
    · rw [hd]; simp; omega
    · rw [hd]; simp
def sp__law_drawn : Sp2 := A3 fun a b c M Q _ => ∃ (f : Addr) (ns : List Int) (m n : Nat) (o : MO), a = .loc f ∧ b = scT ns ∧ c = .int m ∧ Script ns ∧ m ≤ 1000 ∧ n ≤ 100000000 ∧ M f = some o ∧ FeedO n o ∧ ∀ (d : Doc) o', Val d → d.length ≤ 62 + m → FeedO (n + 1) o' → Q (docT d) (up M f o')
def n__law_drawn : List Str := "feed" :: "script" :: "most" :: []
def b__law_drawn : TS2 := (sSq (sIf (tCm (eOp (rEqG id) (eCall sp__law_draw [] (aCons (eVar 0) (aCons (eC (.int 2)) aNil))) (eC (.int 0)))) (sRt (eCall sp__law_grown [] (aCons (eSl rSl2 (eVar 1) (oPart (eC (.int 1))) (oPart (eC (.int 63)))) aNil))) sNx)
  (sRt (eCall sp__law_document [] (aCons (eCall sp__law_feed [] (aCons (eVar 1) (aCons (eC (.int 1)) aNil))) (aCons (eVar 2) aNil)))))
theorem sem__law_drawn : ∀ ds M Q E, sp__law_drawn ds M Q E → b__law_drawn (fEnds Q E) (start2 n__law_drawn ds) M := by
  rintro ds M Q E ⟨a, b, c, rfl, f, ns, m, n, o, rfl, rfl, rfl, hs, hm, hn, hf, hF, hq⟩
  simp only [b__law_drawn, start2, n__law_drawn]
  simp
  refine ⟨_, _, rfl, f, _, n, o, rfl, rfl, by omega, by omega, by omega, hf, hF, fun r o1 r0 r1 hF1 => ?_⟩
  by_cases h : r = 0
  · simp [h]
    intro p hp
    have fp : f ≠ p := m_ne up_same hp
    have hc : cutT (ns.map Tr.int) (some 1) (some 63) = ((ns.drop 1).take 62).map Tr.int := by
      have e := cutT_both (ns.map Tr.int) 1 63
      rw [show (some (1 : Int)) = some ((1 : Nat) : Int) from rfl, show (some (63 : Int)) = some ((63 : Nat) : Int) from rfl, e, List.map_take, List.map_drop]
    rw [hc]
    refine ⟨_, rfl, _, seqT_lst up_same, by simp; omega, fun d hd hl => ?_⟩
    have e : (((ns.drop 1).take 62).length) ≤ 62 := by simp; omega
    exact Fg.le (Le.new hp) (hq d o1 hd (by omega) hF1)
  · simp [h]
    refine ⟨_, _, rfl, ns, 1, rfl, rfl, hs, by decide, fun p o2 hp hF2 => ?_⟩
    have fp : f ≠ p := m_ne up_same hp
    simp
    refine ⟨_, _, rfl, p, m, 0, o2, rfl, rfl, hm, by decide, up_same, hF2, fun d o3 hd hl hF3 => ?_⟩
    rw [up_up]
    exact Fg.le (Le.new hp) (hq d o1 hd (by omega) hF1)
end T

/-! Q: places and what is near to them (law k00). -/
namespace T
open PySem PySem.Spec PyProof.Rows L2
def TxO (M : Ms) (t : Tr) (s : Str) : Prop := ∀ M' Q fx, Le M M' → Q (.str s) M' → ReprXS t M' Q fx
/-- a thing whose text is a place's just if it is that place -/
def Pg (M : Ms) (t : Tr) : Prop := Wf M t ∧ ∃ s, TxO M t s ∧ ∀ o w, s.cps.toList = sg (placeT o w) ↔ t = placeT o w
theorem TxO.le {M M' : Ms} {t : Tr} {s : Str} (L : Le M M') (h : TxO M t s) : TxO M' t s := fun M2 Q fx L2 hq => h M2 Q fx (L.trans L2) hq
theorem Pg.le {M M' : Ms} {t : Tr} (L : Le M M') (h : Pg M t) : Pg M' t := by
  obtain ⟨h1, s, h2, h3⟩ := h
  exact ⟨h1.le L, s, h2.le L, h3⟩
/-- t looks like t' -/
structure Lk (M : Ms) (h w : Nat) (t t' : Tr) : Prop where
  wf : Wf M t
  sh : shB t' = true
  ht : hT t' ≤ h
  wd : wT t' ≤ w
  dat : Dat M (toP t') t
theorem Lk.mono {M : Ms} {h w h2 w2 : Nat} {t t' : Tr} (x : Lk M h w t t') (a : h ≤ h2) (b : w ≤ w2) : Lk M h2 w2 t t' := ⟨x.wf, x.sh, Nat.le_trans x.ht a, Nat.le_trans x.wd b, x.dat⟩
theorem Lk.pg {M : Ms} {h w : Nat} {t t' : Tr} (x : Lk M h w t t') (h1 : h ≤ 10) (h2 : w ≤ 1000000) (h3 : ∀ o w, sg t' = sg (placeT o w) ↔ t = placeT o w) : Pg M t :=
  ⟨x.wf, _, fun M' Q fx L hq => by
    obtain ⟨p1, p2, p3, p4, p5⟩ := sh_ok x.sh
    have := x.ht
    have := x.wd
    exact .inl ⟨toP t', dat_le L x.dat, p2, p3, by rw [hT_ok]; omega, by rw [sizeLine_eq]; omega, hq⟩, h3⟩
theorem lk_non {M : Ms} : Lk M 0 4 .non .non := ⟨tr_non.1, rfl, Nat.zero_le _, Nat.le_refl _, rfl⟩
theorem lk_bl {M : Ms} {b : Bool} : Lk M 0 5 (.bl b) (.bl b) := ⟨tr_bl.1, rfl, Nat.zero_le _, Nat.le_refl _, rfl⟩
theorem lk_int {M : Ms} {i : Int} (h : i.natAbs.log2 < 1920) : Lk M 0 1921 (.int i) (.int i) := ⟨(tr_int h).1, decide_eq_true h, Nat.zero_le _, by
  show (if i.natAbs < 1000000 then 7 else 1921) ≤ 1921
  split <;> omega, rfl⟩
theorem lk_nat {M : Ms} {i : Int} (h : i.natAbs < 1000000) : Lk M 0 7 (.int i) (.int i) := ⟨(tr_nat h).1, sh_nat h, Nat.zero_le _, by rw [wT_int h]; exact Nat.le_refl _, rfl⟩
theorem lk_str {M : Ms} {z : Str} (h : shB (.str z) = true) (hl : z.length ≤ 10) : Lk M 0 102 (.str z) (.str z) := ⟨(tr_str h hl).1, h, Nat.zero_le _, by
  show 10 * z.length + 2 ≤ 102
  omega, rfl⟩
theorem lk_opt {M : Ms} {o : Option Nat} (h : ∀ k, o = some k → k < 1000000) : Lk M 0 7 (optT o) (optT o) := by
  cases o with
  | none => exact lk_non.mono (Nat.le_refl 0) (by omega)
  | some k => exact lk_nat (i := (k : Int)) (by have := h k rfl; omega)
theorem lk_one {M : Ms} {h w : Nat} {x x' : Tr} (a : Lk M h w x x') : Lk M (h + 1) (w + 5) (.tup [x]) (.tup [x']) := by
  refine ⟨.tup _ (fun y hy => by rw [List.mem_singleton.mp hy]; exact a.wf) (by show 1 ≤ 100000; decide), ?_, ?_, ?_, ⟨[x], rfl, ⟨x, [], rfl, a.dat, rfl⟩⟩⟩
  · show (shB x' && true) = true
    rw [a.sh]; rfl
  · show max (hT x') 0 + 1 ≤ h + 1
    have := a.ht; omega
  · show (wT x' + 2 + 0) + 3 ≤ w + 5
    have := a.wd; omega
theorem lk_two {M : Ms} {h w : Nat} {x x' y y' : Tr} (a : Lk M h w x x') (b : Lk M h w y y') : Lk M (h + 1) (2 * w + 7) (.tup [x, y]) (.tup [x', y']) := by
  refine ⟨.tup _ (fun z hz => ?_) (by show 2 ≤ 100000; decide), ?_, ?_, ?_, ⟨[x, y], rfl, ⟨x, [y], rfl, a.dat, ⟨y, [], rfl, b.dat, rfl⟩⟩⟩⟩
  · simp only [List.mem_cons, List.not_mem_nil, or_false] at hz
    rcases hz with rfl | rfl
    · exact a.wf
    · exact b.wf
  · show (shB x' && (shB y' && true)) = true
    rw [a.sh, b.sh]; rfl
  · show max (hT x') (max (hT y') 0) + 1 ≤ h + 1
    have := a.ht; have := b.ht; omega
  · show (wT x' + 2 + (wT y' + 2 + 0)) + 3 ≤ 2 * w + 7
    have := a.wd; have := b.wd; omega
theorem lk_three {M : Ms} {h w : Nat} {x x' y y' z z' : Tr} (a : Lk M h w x x') (b : Lk M h w y y') (c : Lk M h w z z') : Lk M (h + 1) (3 * w + 9) (.tup [x, y, z]) (.tup [x', y', z']) := by
  refine ⟨.tup _ (fun z hz => ?_) (by show 3 ≤ 100000; decide), ?_, ?_, ?_, ⟨[x, y, z], rfl, ⟨x, [y, z], rfl, a.dat, ⟨y, [z], rfl, b.dat, ⟨z, [], rfl, c.dat, rfl⟩⟩⟩⟩⟩
  · simp only [List.mem_cons, List.not_mem_nil, or_false] at hz
    rcases hz with rfl | rfl | rfl
    · exact a.wf
    · exact b.wf
    · exact c.wf
  · show (shB x' && (shB y' && (shB z' && true))) = true
    rw [a.sh, b.sh, c.sh]; rfl
  · show max (hT x') (max (hT y') (max (hT z') 0)) + 1 ≤ h + 1
    have := a.ht; have := b.ht; have := c.ht; omega
  · show (wT x' + 2 + (wT y' + 2 + (wT z' + 2 + 0))) + 3 ≤ 3 * w + 9
    have := a.wd; have := b.wd; have := c.wd; omega
theorem lk_lst2 {M : Ms} {h w : Nat} {p : Addr} {x x' y y' : Tr} (ep : M p = some (.lst [x, y])) (a : Lk M h w x x') (b : Lk M h w y y') : Lk M (h + 1) (2 * w + 7) (.loc p) (.fro [x', y']) := by
  refine ⟨.leaf _ "list" (by simp [tyT, ep]) (fun _ h => by cases h) (by decide), ?_, ?_, ?_, ⟨[x, y], seqT_lst ep, (fun _ e => nomatch e), ⟨x, [y], rfl, a.dat, ⟨y, [], rfl, b.dat, rfl⟩⟩⟩⟩
  · show (shB x' && (shB y' && true)) = true
    rw [a.sh, b.sh]; rfl
  · show max (hT x') (max (hT y') 0) + 1 ≤ h + 1
    have := a.ht; have := b.ht; omega
  · show (wT x' + 2 + (wT y' + 2 + 0)) + 3 ≤ 2 * w + 7
    have := a.wd; have := b.wd; omega
theorem lk_lst1 {M : Ms} {h w : Nat} {p : Addr} {x x' : Tr} (ep : M p = some (.lst [x])) (a : Lk M h w x x') : Lk M (h + 1) (w + 5) (.loc p) (.fro [x']) := by
  refine ⟨.leaf _ "list" (by simp [tyT, ep]) (fun _ h => by cases h) (by decide), ?_, ?_, ?_, ⟨[x], seqT_lst ep, (fun _ e => nomatch e), ⟨x, [], rfl, a.dat, rfl⟩⟩⟩
  · show (shB x' && true) = true
    rw [a.sh]; rfl
  · show max (hT x') 0 + 1 ≤ h + 1
    have := a.ht; omega
  · show (wT x' + 2 + 0) + 3 ≤ w + 5
    have := a.wd; omega
/-! texts of tuples -/
theorem c40 : ((("(" : String) : Str)).cps.toList = [40] := by decide
theorem c41 : (((")" : String) : Str)).cps.toList = [41] := by decide
theorem c4441 : (((",)" : String) : Str)).cps.toList = [44, 41] := by decide
theorem c4432 : (((", " : String) : Str)).cps.toList = [44, 32] := by decide
theorem sg_one1 {x : Tr} : sg (.tup [x]) = 40 :: (sg x ++ [44, 41]) := by
  have e : (toP (.tup [x])).shown = ("(" : Str) ++ (toP x).shown ++ (",)" : String) := by
    show (PyData.tuple [toP x]).shown = _
    rw [PyData.shown_tuple]
    simp only [PyData.shownAll_cons, PyData.shownAll_nil]
    rfl
  unfold sg
  rw [e]
  simp only [cpsA]
  rw [c40, c4441]
  simp
theorem sg_two2 {x y : Tr} : sg (.tup [x, y]) = 40 :: (sg x ++ 44 :: 32 :: (sg y ++ [41])) := by
  have e : (toP (.tup [x, y])).shown = ("(" : Str) ++ ((toP x).shown ++ ((", " : String) : Str) ++ (toP y).shown) ++ (")" : String) := by
    show (PyData.tuple [toP x, toP y]).shown = _
    rw [PyData.shown_tuple]
    simp only [PyData.shownAll_cons, PyData.shownAll_nil]
    rfl
  unfold sg
  rw [e]
  simp only [cpsA]
  rw [c40, c41, c4432]
  simp
theorem sg_three3 {x y z : Tr} : sg (.tup [x, y, z]) = 40 :: (sg x ++ 44 :: 32 :: (sg y ++ 44 :: 32 :: (sg z ++ [41]))) := by
  have e : (toP (.tup [x, y, z])).shown = ("(" : Str) ++ ((toP x).shown ++ ((", " : String) : Str) ++ ((toP y).shown ++ ((", " : String) : Str) ++ (toP z).shown)) ++ (")" : String) := by
    show (PyData.tuple [toP x, toP y, toP z]).shown = _
    rw [PyData.shown_tuple]
    simp only [PyData.shownAll_cons, PyData.shownAll_nil]
    rfl
  unfold sg
  rw [e]
  simp only [cpsA]
  rw [c40, c41, c4432]
  simp
theorem sg_fro {l : List Tr} : ∃ r, sg (.fro l) = 91 :: r := by
  have e : (toP (.fro l)).shown = ("[" : Str) ++ Str.join ", " (PyData.shownAll (toPs l)) ++ ("]" : String) := PyData.shown_list _
  unfold sg
  rw [e]
  simp only [cpsA]
  exact ⟨_, rfl⟩
theorem so_head {o : Option Nat} {r s : List Nat} {c : Nat} (h : c :: r = so o ++ s) : c = 78 ∨ (48 ≤ c ∧ c ≤ 57) := by
  cases o with
  | none =>
    have h : c :: r = 78 :: (111 :: 110 :: 101 :: s) := h
    injection h with h _
    exact .inl h
  | some k =>
    have h : c :: r = dg k ++ s := h
    cases hd : dg k with
    | nil => exact absurd hd dg_ne
    | cons x l =>
      rw [hd] at h
      injection h with h _
      exact .inr (by rw [h]; exact dg_dig (m := k) x (by rw [hd]; simp))
/-- what may stand first in a pair -/
def FstP (x x' : Tr) : Prop := (∃ o, x = optT o ∧ x' = optT o) ∨ ((∀ o, x ≠ optT o) ∧ ∃ c r, sg x' = c :: r ∧ c ≠ 78 ∧ ¬ (48 ≤ c ∧ c ≤ 57))
def SndP (y y' : Tr) : Prop := (∃ w : Nat, y = .int w ∧ y' = .int w) ∨ ((∀ w : Nat, y ≠ .int w) ∧ ∃ c r, sg y' = c :: r ∧ ¬ (48 ≤ c ∧ c ≤ 57))
theorem pair_pg {x x' y y' : Tr} (hx : FstP x x') (hy : SndP y y') (o : Option Nat) (w : Nat) : sg (.tup [x', y']) = sg (placeT o w) ↔ .tup [x, y] = placeT o w := by
  rcases hx with ⟨o1, rfl, rfl⟩ | ⟨hn, c, r, hc, h1, h2⟩
  · rcases hy with ⟨w1, rfl, rfl⟩ | ⟨hn, c, r, hc, h2⟩
    · constructor
      · intro h
        obtain ⟨a, b⟩ := place_inj (o := o1) (w := w1) h
        rw [a, b]; rfl
      · intro h
        rw [h]
    · constructor
      · intro h
        rw [sg_two2, sg_place, sg_opt] at h
        injection h with _ h
        obtain ⟨_, h⟩ := comma_split so_nc so_nc (show so o1 ++ 44 :: (32 :: (sg y' ++ [41])) = so o ++ 44 :: (32 :: (dg w ++ [41])) from h)
        injection h with _ h
        have h := List.append_cancel_right h
        rw [hc] at h
        exact absurd (dg_dig (m := w) c (by rw [← h]; simp)) h2
      · intro h
        injection h with h
        injection h with _ h
        injection h with h _
        exact absurd h (hn w)
  · constructor
    · intro h
      rw [sg_two2, sg_place, hc] at h
      injection h with _ h
      have h : c :: (r ++ 44 :: 32 :: (sg y' ++ [41])) = so o ++ ([44, 32] ++ (dg w ++ [41])) := h
      rcases so_head h with h | h
      · exact absurd h h1
      · exact absurd h h2
    · intro h
      injection h with h
      injection h with h _
      exact absurd h (hn o)
theorem no40 {l r : List Nat} {c : Nat} (h : l = c :: r) (hc : c ≠ 40) {t : Tr} (ht : ∀ o w, t ≠ placeT o w) (o : Option Nat) (w : Nat) : l = sg (placeT o w) ↔ t = placeT o w :=
  ⟨fun e => by rw [h, sg_place] at e; injection e with e _; exact absurd e hc, fun e => absurd e (ht o w)⟩
theorem one_pg {x x' : Tr} (o : Option Nat) (w : Nat) : sg (.tup [x']) = sg (placeT o w) ↔ .tup [x] = placeT o w := by
  constructor
  · intro h
    rw [sg_one1, sg_place] at h
    injection h with _ h
    have e1 : sg x' ++ [44, 41] = (sg x' ++ [44]) ++ [41] := by simp
    have e2 : so o ++ ([44, 32] ++ (dg w ++ [41])) = (so o ++ ([44, 32] ++ dg w)) ++ [41] := by simp
    rw [e1, e2] at h
    have h := List.append_cancel_right h
    have h3 : (sg x' ++ [44]).getLast? = (so o ++ ([44, 32] ++ dg w)).getLast? := by rw [h]
    rw [List.getLast?_concat, List.getLast?_append, List.getLast?_append, List.getLast?_eq_some_getLast (dg_ne (m := w))] at h3
    simp at h3
    have := dg_dig (m := w) 44 (by rw [h3]; exact List.getLast_mem _)
    omega
  · intro h
    injection h with h
    injection h with _ h
    cases h
theorem three_pg {o1 : Option Nat} {y y' z z' : Tr} (o : Option Nat) (w : Nat) : sg (.tup [optT o1, y', z']) = sg (placeT o w) ↔ .tup [optT o1, y, z] = placeT o w := by
  constructor
  · intro h
    rw [sg_three3, sg_place, sg_opt] at h
    injection h with _ h
    obtain ⟨_, h⟩ := comma_split so_nc so_nc (show so o1 ++ 44 :: (32 :: (sg y' ++ 44 :: 32 :: (sg z' ++ [41]))) = so o ++ 44 :: (32 :: (dg w ++ [41])) from h)
    injection h with _ h
    have hm : 44 ∈ dg w ++ [41] := by rw [← h]; simp
    rcases List.mem_append.mp hm with h | h
    · have := dg_dig (m := w) 44 h; omega
    · simp at h
  · intro h
    injection h with h
    injection h with _ h
    injection h with _ h
    cases h
end T

/-! Q: places and things near to them. -/
namespace T
open PySem PySem.Spec PyProof.Rows L2
def oQ (d : Doc) (h : Nat) : Option Nat := if h = d.length then none else some h
theorem rowI_oQ {d : Doc} {k : Nat} (h : k ≤ d.length) : rowI d k d.length = (chA d (oQ d k)).map natT := by
  unfold oQ
  by_cases c : k = d.length
  · rw [if_pos c, c, rowI_root]
  · rw [if_neg c, rowI_ch (by omega)]
theorem ch_le {d : Doc} {o : Option Nat} : (chA d o).length ≤ d.length := by
  unfold chA
  exact Nat.le_trans (List.length_filter_le _ _) (by simp)
theorem one_newQ {M : Ms} {Q : Q2} {E : X2} {f p : Addr} {n : Nat} {o : MO} {l : List Tr} {P : Ms → Tr → Prop} (hP : ∀ {M M' : Ms} {t : Tr}, Le M M' → P M t → P M' t) (hp : M p = none) (hn : n ≤ 10000000) (hf : M f = some o) (hF : FeedO n o) (h0 : 0 < l.length) (h100 : l.length ≤ 1000)
    (hw : ∀ x ∈ l, P (hideM f M) x) (hq : ∀ r M' o', Kf f M M' → M' f = some o' → FeedO (n + 1) o' → P (hideM f M') r → Q r M') : sp__law_one [.loc f, .loc p] (up M p (.lst l)) Q E := by
  have fp : f ≠ p := m_ne hf hp
  have L : Le M (up M p (.lst l)) := Le.new hp
  have ep : up M p (.lst l) p = some (.lst l) := up_same
  generalize up M p (.lst l) = M1 at L ep
  exact ⟨_, _, rfl, f, l, n, o, rfl, lenT_lst ep, seqT_lst ep, (fun e => by injection e with e; exact fp e.symm), h0, by omega, by omega, L _ _ hf, hF, fun r o' hr hF' => hq r _ o' (L.kf.trans Kf.feed) up_same hF' (hP (L.kf.trans Kf.feed).hide (hw r hr))⟩
theorem cpow20 : CPow 10 20 := by unfold CPow; decide
def FstM (M : Ms) (x : Tr) : Prop := ∃ x', Lk M 1 3000 x x' ∧ FstP x x'
def SndM (M : Ms) (x : Tr) : Prop := ∃ x', Lk M 1 3000 x x' ∧ SndP x x'
theorem Lk.le {M M' : Ms} {h w : Nat} {t t' : Tr} (L : Le M M') (x : Lk M h w t t') : Lk M' h w t t' := ⟨x.wf.le L, x.sh, x.ht, x.wd, dat_le L x.dat⟩
theorem FstM.le {M M' : Ms} {t : Tr} (L : Le M M') (h : FstM M t) : FstM M' t := by
  obtain ⟨x, a, b⟩ := h
  exact ⟨x, a.le L, b⟩
theorem SndM.le {M M' : Ms} {t : Tr} (L : Le M M') (h : SndM M t) : SndM M' t := by
  obtain ⟨x, a, b⟩ := h
  exact ⟨x, a.le L, b⟩
theorem pair_of {M : Ms} {x y : Tr} (hx : FstM M x) (hy : SndM M y) : Pg M (.tup [x, y]) := by
  obtain ⟨x', a, b⟩ := hx
  obtain ⟨y', c, e⟩ := hy
  exact (lk_two a c).pg (by omega) (by omega) (pair_pg b e)
theorem fst_opt {M : Ms} {o : Option Nat} (h : ∀ k, o = some k → k < 1000000) : FstM M (optT o) := ⟨_, (lk_opt h).mono (by omega) (by omega), .inl ⟨o, rfl, rfl⟩⟩
theorem fst_no {M : Ms} {h w : Nat} {x x' : Tr} (a : Lk M h w x x') (h1 : h ≤ 1) (h2 : w ≤ 3000) (hn : ∀ o, x ≠ optT o) {c : Nat} (hc : (sg x').head? = some c) (c1 : c ≠ 78 ∧ ¬ (48 ≤ c ∧ c ≤ 57)) : FstM M x := by
  refine ⟨x', a.mono h1 h2, .inr ⟨hn, ?_⟩⟩
  cases hs : sg x' with
  | nil => rw [hs] at hc; cases hc
  | cons y r =>
    rw [hs] at hc
    have e : y = c := Option.some.inj hc
    exact ⟨y, r, rfl, by rw [e]; exact c1⟩
theorem snd_no {M : Ms} {h w : Nat} {x x' : Tr} (a : Lk M h w x x') (h1 : h ≤ 1) (h2 : w ≤ 3000) (hn : ∀ v : Nat, x ≠ .int v) {c : Nat} (hc : (sg x').head? = some c) (c1 : ¬ (48 ≤ c ∧ c ≤ 57)) : SndM M x := by
  refine ⟨x', a.mono h1 h2, .inr ⟨hn, ?_⟩⟩
  cases hs : sg x' with
  | nil => rw [hs] at hc; cases hc
  | cons y r =>
    rw [hs] at hc
    have e : y = c := Option.some.inj hc
    exact ⟨y, r, rfl, by rw [e]; exact c1⟩
theorem opt_bl {b : Bool} (o : Option Nat) : Tr.bl b ≠ optT o := by cases o <;> (intro e; cases e)
theorem opt_str {z : Str} (o : Option Nat) : Tr.str z ≠ optT o := by cases o <;> (intro e; cases e)
theorem opt_tup {l : List Tr} (o : Option Nat) : Tr.tup l ≠ optT o := by cases o <;> (intro e; cases e)
theorem opt_loc {p : Addr} (o : Option Nat) : Tr.loc p ≠ optT o := by cases o <;> (intro e; cases e)
theorem opt_neg {i : Int} (h : i < 0) (o : Option Nat) : Tr.int i ≠ optT o := by
  cases o with
  | none => intro e; cases e
  | some k =>
    intro e
    have e : Tr.int i = Tr.int (k : Int) := e
    injection e with e; omega
theorem sg_negH {i : Int} (h : i < 0) : (sg (.int i)).head? = some 45 := by
  obtain ⟨r, hr⟩ := sg_neg h
  rw [hr]; rfl
theorem snd_int {M : Ms} {i : Int} (h : i.natAbs.log2 < 1920) : SndM M (.int i) := by
  by_cases c : 0 ≤ i
  · obtain ⟨k, rfl⟩ : ∃ k : Nat, i = k := ⟨i.toNat, by omega⟩
    exact ⟨_, (lk_int h).mono (by omega) (by omega), .inl ⟨k, rfl, rfl⟩⟩
  · exact snd_no (lk_int h) (by omega) (by omega) (fun v e => by injection e with e; omega) (sg_negH (by omega)) (by decide)
theorem fst_int {M : Ms} {i : Int} (h : i.natAbs.log2 < 1920) : FstM M (.int i) := by
  by_cases c : 0 ≤ i
  · obtain ⟨k, rfl⟩ : ∃ k : Nat, i = k := ⟨i.toNat, by omega⟩
    exact ⟨_, (lk_int h).mono (by omega) (by omega), .inl ⟨some k, rfl, rfl⟩⟩
  · exact fst_no (lk_int h) (by omega) (by omega) (opt_neg (by omega)) (sg_negH (by omega)) (by decide)
theorem small_log {i : Int} (h : i.natAbs < 2 ^ 70) : i.natAbs.log2 < 1920 := by
  by_cases cz : i.natAbs = 0
  · rw [cz]; decide
  · have := (Nat.log2_lt cz).mpr h
    omega
theorem snd_opt {M : Ms} {o : Option Nat} (h : ∀ k, o = some k → k < 1000000) : SndM M (optT o) := by
  cases o with
  | none => exact snd_no (x' := .non) lk_non (by omega) (by omega) (fun v e => by cases e) (c := 78) (by decide +kernel) (by decide)
  | some k => exact snd_int (i := (k : Int)) (small_log (by have := h k rfl; omega))
theorem pg_no {M : Ms} {h w : Nat} {x x' : Tr} (a : Lk M h w x x') (h1 : h ≤ 10) (h2 : w ≤ 1000000) {c : Nat} (hc : (sg x').head? = some c) (c1 : c ≠ 40) (ht : ∀ o w, x ≠ placeT o w) : Pg M x := by
  cases hs : sg x' with
  | nil => rw [hs] at hc; cases hc
  | cons y r =>
    rw [hs] at hc
    have e : y = c := Option.some.inj hc
    exact a.pg h1 h2 (no40 hs (by rw [e]; exact c1) ht)
theorem pg_int {M : Ms} {i : Int} (h : i.natAbs.log2 < 1920) : Pg M (.int i) := by
  by_cases c : 0 ≤ i
  · obtain ⟨k, rfl⟩ : ∃ k : Nat, i = k := ⟨i.toNat, by omega⟩
    refine (lk_int h).pg (by omega) (by omega) fun o w => ⟨fun e => ?_, fun e => by cases e⟩
    rw [sg_nat, sg_place] at e
    have := dg_dig (m := k) 40 (by rw [e]; simp)
    omega
  · exact pg_no (lk_int h) (by omega) (by omega) (sg_negH (by omega)) (by decide) (fun o w e => by cases e)
theorem pg_opt {M : Ms} {o : Option Nat} (h : ∀ k, o = some k → k < 1000000) : Pg M (optT o) := by
  cases o with
  | none => exact pg_no (x' := .non) lk_non (by omega) (by omega) (c := 78) (by decide +kernel) (by decide) (fun o w e => by cases e)
  | some k => exact pg_int (i := (k : Int)) (small_log (by have := h k rfl; omega))
def sp__law_near : Sp2 := A3 fun a b c M Q _ => ∃ (f : Addr) (d : Doc) (p : Addr) (qs : List Addr) (n : Nat) (o : MO), a = .loc f ∧ b = docT d ∧ c = .loc p ∧ Val d ∧ d.length ≤ 100 ∧ qs.length = d.length + 1 ∧ M p = some (.lst (qs.map .loc)) ∧
  (∀ k q, qs[k]? = some q → M q = some (.lst (rowI d k d.length))) ∧ p ≠ f ∧ (∀ q ∈ qs, q ≠ f) ∧ n ≤ 1000000 ∧ M f = some o ∧ FeedO n o ∧ ∀ r M' o', Kf f M M' → M' f = some o' → FeedO (n + 5) o' → Pg (hideM f M') r → Q r M'
def n__law_near : List Str := "feed" :: "document" :: "rows" :: "many" :: "parent" :: "which" :: "way" :: []
def b__law_near_1 : TS2 := (sRt (eTup (aCons (eVar 4) (aCons (eVar 5) (aCons (eC (.int 0)) aNil)))))
def b__law_near_2 : TS2 := (sRt (eTup (aCons (eCall sp__law_one [] (aCons (eVar 0) (aCons (eLst (aCons (eC (.bl true)) (aCons (eC (.bl false)) (aCons (eUn rNeg2 (eC (.int 1))) (aCons (eVar 3) (aCons (eC (.str "0")) (aCons (eTup aNil) (aCons (eLst (aCons (eC (.int 0)) aNil)) (aCons (eTup (aCons (eC (.int 0)) aNil)) (aCons (eOp rAdd2 (eVar 3) (eOp rPow2 (eC (.int 10)) (eC (.int 20)))) aNil)))))))))) aNil))) (aCons (eVar 5) aNil))))
def b__law_near_3 : TS2 := (sRt (eTup (aCons (eVar 4) (aCons (eCall sp__law_one [] (aCons (eVar 0) (aCons (eLst (aCons (eC (.bl true)) (aCons (eC (.bl false)) (aCons (eC .non) (aCons (eC (.str "0")) (aCons (eTup (aCons (eC (.int 0)) aNil)) (aCons (eOp rPow2 (eC (.int 10)) (eC (.int 20))) aNil))))))) aNil))) aNil))))
def b__law_near_4 : TS2 := (sRt (eCall sp__law_one [] (aCons (eVar 0) (aCons (eLst (aCons (eC .non) (aCons (eC (.int 0)) (aCons (eC (.str "")) (aCons (eTup aNil) (aCons eD0 (aCons (eC (.str "a0")) (aCons (eC (.bl true)) (aCons (eVar 5) (aCons (eVar 4) aNil)))))))))) aNil))))
def b__law_near_5 : TS2 := (sSq (sIf (tCm (eOp (rEqG id) (eVar 6) (eC (.int 6)))) b__law_near_4 sNx)
  (sRt (eTup (aCons (eVar 4) (aCons (eVar 5) aNil)))))
def b__law_near_6 : TS2 := (sSq (sIf (tCm (eOp (rEqG id) (eVar 6) (eC (.int 5)))) b__law_near_3 sNx)
  b__law_near_5)
def b__law_near_7 : TS2 := (sSq (sIf (tCm (eOp (rEqG id) (eVar 6) (eC (.int 4)))) b__law_near_2 sNx)
  b__law_near_6)
def b__law_near_8 : TS2 := (sSq (sIf (tCm (eOp (rEqG id) (eVar 6) (eC (.int 3)))) (sRt (eTup (aCons (eVar 5) (aCons (eVar 4) aNil)))) sNx)
  b__law_near_7)
def b__law_near_9 : TS2 := (sSq (sIf (tCm (eOp (rEqG id) (eVar 6) (eC (.int 2)))) b__law_near_1 sNx)
  b__law_near_8)
def b__law_near_10 : TS2 := (sSq (sIf (tCm (eOp (rEqG id) (eVar 6) (eC (.int 1)))) (sRt (eTup (aCons (eVar 4) aNil))) sNx)
  b__law_near_9)
def b__law_near_11 : TS2 := (sSq (sIf (tCm (eOp (rEqG id) (eVar 6) (eC (.int 0)))) (sRt (eLst (aCons (eVar 4) (aCons (eVar 5) aNil)))) sNx)
  b__law_near_10)
def b__law_near_12 : TS2 := (sSq (sAs (eCall sp__law_draw [] (aCons (eVar 0) (aCons (eC (.int 14)) aNil))) (gN 6))
  b__law_near_11)
def b__law_near_13 : TS2 := (sSq (sAs (eOp rSub2 (eCall sp__law_draw [] (aCons (eVar 0) (aCons (eOp rAdd2 (eB rLen2 (aCons (eOp rIx2 (eVar 2) (eIf (tCm (eOp (rIsG id) (eVar 4) (eC .non))) (eVar 3) (eVar 4))) aNil)) (eC (.int 3))) aNil))) (eC (.int 1))) (gN 5))
  b__law_near_12)
def b__law_near_14 : TS2 := (sSq (sAs (eIf (tOrr (tCm (eOp (rEqG id) (eVar 3) (eC (.int 0)))) (tCm (eOp (rEqG id) (eCall sp__law_draw [] (aCons (eVar 0) (aCons (eC (.int 3)) aNil))) (eC (.int 0))))) (eC .non) (eCall sp__law_draw [] (aCons (eVar 0) (aCons (eVar 3) aNil)))) (gN 4))
  b__law_near_13)
def b__law_near : TS2 := (sSq (sAs (eB rLen2 (aCons (eVar 1) aNil)) (gN 3))
  b__law_near_14)
theorem sem__law_near : ∀ ds M Q E, sp__law_near ds M Q E → b__law_near (fEnds Q E) (start2 n__law_near ds) M := by
  rintro ds M Q E ⟨a, b, c, rfl, f, d, p, qs, n, o, rfl, rfl, rfl, hv, hd, hqs, ep, er, npf, nqf, hn, hf, hF, hq⟩
  have l1 : 1 ≤ sizeLine := small_line (by decide)
  have l2 : 2 ≤ sizeLine := small_line (by decide)
  have l3 : 3 ≤ sizeLine := small_line (by decide)
  have l6 : 6 ≤ sizeLine := small_line (by decide)
  have l9 : 9 ≤ sizeLine := small_line (by decide)
  simp only [b__law_near, start2, n__law_near]
  simp [docT]
  simp only [b__law_near_14]
  refine seq_cut (fun σ M' => ∃ (q : Option Nat) (n' : Nat) (o' : MO), σ = [some (.loc f), some (.tup (d.map entT)), some (.loc p), some (.int d.length), some (optT q), none, none] ∧ okO d q ∧ Kf f M M' ∧ M' f = some o' ∧ FeedO n' o' ∧ n' ≤ n + 2) ?_ ?_
  · intro NX hN
    simp
    by_cases cz : d.length = 0
    · have cz' : d = [] := List.eq_nil_of_length_eq_zero cz
      subst cz'
      simp
      exact hN _ _ ⟨none, n, o, rfl, (fun k h => by cases h), Kf.refl, hf, hF, by omega⟩
    · have cz' : ¬ d = [] := fun e => cz (by rw [e]; rfl)
      simp [cz']
      refine ⟨_, _, rfl, f, 3, _, o, rfl, rfl, by decide, by decide, by omega, hf, hF, fun r1 o1 h1 h2 hF1 => ?_⟩
      have k1 : Kf f M (up M f o1) := Kf.feed
      have hf1 : up M f o1 f = some o1 := up_same
      generalize up M f o1 = M1 at k1 hf1
      simp
      by_cases c0 : r1 = 0
      · simp [c0]
        exact hN _ _ ⟨none, _, o1, rfl, (fun k h => by cases h), k1, hf1, hF1, by omega⟩
      · simp [c0]
        refine ⟨_, _, rfl, f, (d.length : Int), _, o1, rfl, rfl, by omega, by omega, by omega, hf1, hF1, fun r2 o2 h3 h4 hF2 => ?_⟩
        obtain ⟨k, rfl⟩ : ∃ k : Nat, r2 = k := ⟨r2.toNat, by omega⟩
        exact hN _ _ ⟨some k, _, o2, rfl, (fun j h => by cases h; omega), k1.trans Kf.feed, up_same, hF2, by omega⟩
  rintro σ M1 ⟨q, n1, o1, rfl, hk, k1, hf1, hF1, hn1⟩
  simp only [b__law_near_13]
  have ep1 := k1 _ _ npf ep
  have hh : ∃ h, h ≤ d.length ∧ oQ d h = q ∧ (q = none → h = d.length) ∧ ∀ k, q = some k → h = k := by
    cases q with
    | none => exact ⟨d.length, Nat.le_refl _, if_pos rfl, fun _ => rfl, fun k h => by cases h⟩
    | some k =>
      have := hk k rfl
      exact ⟨k, by omega, if_neg (by omega), (fun h => by cases h), fun j h => by cases h; rfl⟩
  obtain ⟨h, hh, eh, hq0, hq1⟩ := hh
  have eqh : qs[h]? = some (qs[h]'(by omega)) := List.getElem?_eq_getElem (by omega)
  generalize qs[h]'(by omega) = q0 at eqh
  have er0 := k1 _ _ (nqf q0 (List.mem_of_getElem? eqh)) (er h q0 eqh)
  rw [rowI_oQ hh, eh] at er0
  have eqh2 : (qs.map Tr.loc)[h]? = some (.loc q0) := by rw [List.getElem?_map, eqh]; rfl
  have hcl := @ch_le d q
  have kq : ∀ k, q = some k → k < 1000000 := fun k h => by have := hk k h; omega
  have step : ∀ (D : Ends2) (E0 : X2), D = fEnds Q E → CallS sp__law_draw [.loc f, .int (((chA d q).length : Int) + 3)] M1 (fun d_1 M => rSub2 d_1 (.int 1) M fun d_1 M => gN 5 d_1 [some (.loc f), some (.tup (d.map entT)), some (.loc p), some (.int d.length), some (optT q), none, none] M (b__law_near_12 D)) E0 .mk := by
    intro D E0 hD
    subst hD
    refine ⟨_, _, rfl, f, (((chA d q).length : Int) + 3), _, o1, rfl, rfl, by omega, by omega, by omega, hf1, hF1, fun r2 o2 h3 h4 hF2 => ?_⟩
    have k2 : Kf f M1 (up M1 f o2) := Kf.feed
    have hf2 : up M1 f o2 f = some o2 := up_same
    generalize up M1 f o2 = M2 at k2 hf2
    simp
    obtain ⟨i, hi⟩ : ∃ i : Int, r2 - 1 = i := ⟨_, rfl⟩
    rw [hi]
    have hi1 : i.natAbs < 2 ^ 70 := by omega
    simp only [b__law_near_12]
    simp
    refine ⟨_, _, rfl, f, 14, _, o2, rfl, rfl, by decide, by decide, by omega, hf2, hF2, fun way o3 w0 w1 hF3 => ?_⟩
    obtain ⟨w, rfl⟩ : ∃ w : Nat, way = w := ⟨way.toNat, by omega⟩
    have k3 : Kf f M2 (up M2 f o3) := Kf.feed
    have hf3 : up M2 f o3 f = some o3 := up_same
    generalize up M2 f o3 = M3 at k3 hf3
    have k03 := (k1.trans k2).trans k3
    have fin : ∀ (r : Tr) (M' : Ms) (o' : MO) (n' : Nat), Kf f M3 M' → M' f = some o' → FeedO n' o' → n' ≤ n + 5 → Pg (hideM f M') r → Fg Q r M' := fun r M' o' n' K h1 h2 h3 h4 => Fg.same (hq r M' o' (k03.trans K) h1 (h2.mono h3) h4)
    have fin0 : ∀ r, Pg (hideM f M3) r → Fg Q r M3 := fun r h => fin r M3 o3 _ Kf.refl hf3 hF3 (by omega) h
    simp only [b__law_near_11]
    simp
    by_cases c0 : w = 0
    · rw [if_pos (by omega)]
      intro pL hpL
      have ne := (m_ne hf3 hpL).symm
      refine fin _ _ o3 _ (Le.new hpL).kf (by rw [up_ne ne.symm]; exact hf3) hF3 (by omega) ?_
      have eL : hideM f (up M3 pL (.lst [optT q, .int i])) pL = some (.lst [optT q, .int i]) := hide_at up_same ne
      obtain ⟨x', a1, a2⟩ := fst_opt (M := hideM f (up M3 pL (.lst [optT q, .int i]))) kq
      obtain ⟨y', b1, b2⟩ := snd_int (M := hideM f (up M3 pL (.lst [optT q, .int i]))) (small_log hi1)
      obtain ⟨r, hr⟩ := sg_fro (l := [x', y'])
      exact pg_no (lk_lst2 eL a1 b1) (by omega) (by omega) (c := 91) (by rw [hr]; rfl) (by decide) (fun o w e => by cases e)
    rw [if_neg (by omega)]
    simp only [b__law_near_10]
    simp
    by_cases c1 : w = 1
    · rw [if_pos (by omega)]
      simp [l1]
      exact fin0 _ ((lk_one (lk_opt kq)).pg (by omega) (by omega) one_pg)
    rw [if_neg (by omega)]
    simp only [b__law_near_9]
    simp
    by_cases c2 : w = 2
    · rw [if_pos (by omega)]
      simp only [b__law_near_1]
      simp [l3]
      exact fin0 _ ((lk_three ((lk_opt kq).mono (Nat.le_refl 0) (show 7 ≤ 1921 by omega)) (lk_int (small_log hi1)) ((lk_nat (i := 0) (by decide)).mono (Nat.le_refl 0) (by omega))).pg (by omega) (by omega) three_pg)
    rw [if_neg (by omega)]
    simp only [b__law_near_8]
    simp
    by_cases c3 : w = 3
    · rw [if_pos (by omega)]
      exact fin0 _ (pair_of (fst_int (small_log hi1)) (snd_opt kq))
    rw [if_neg (by omega)]
    simp only [b__law_near_7]
    simp
    by_cases c4 : w = 4
    · rw [if_pos (by omega)]
      simp only [b__law_near_2]
      simp [l1, l2, l9, cpow20]
      intro pA hpA
      have LA1 : Le M3 (up M3 pA (.lst [.int 0])) := Le.new hpA
      have eA : up M3 pA (.lst [.int 0]) pA = some (.lst [.int 0]) := up_same
      have nA := (m_ne hf3 hpA).symm
      have hfA := LA1 _ _ hf3
      generalize up M3 pA (.lst [.int 0]) = M4 at LA1 eA hfA
      simp [l1, l2, l9, cpow20]
      intro pZ hpZ
      refine one_newQ (P := FstM) FstM.le hpZ (by omega) hfA hF3 (by simp) (by simp) ?_ fun r M' o' K h1 h2 h3 => ?_
      · have gA : hideM f M4 pA = some (.lst [.int 0]) := hide_at eA nA
        intro x hx
        simp only [List.mem_cons, List.not_mem_nil, or_false] at hx
        rcases hx with rfl | rfl | rfl | rfl | rfl | rfl | rfl | rfl | rfl
        · exact fst_no lk_bl (by omega) (by omega) opt_bl (c := 84) (by decide +kernel) (by decide)
        · exact fst_no lk_bl (by omega) (by omega) opt_bl (c := 70) (by decide +kernel) (by decide)
        · exact fst_int (by decide +kernel)
        · exact fst_int (small_log (by omega))
        · exact fst_no (lk_str (by decide +kernel) (by decide)) (by omega) (by omega) opt_str (c := 39) (by decide +kernel) (by decide)
        · exact fst_no (h := 1) (w := 3) (x' := .tup []) ⟨.tup _ (fun x h => by cases h) (by decide), rfl, Nat.le_refl _, Nat.le_refl _, ⟨[], rfl, rfl⟩⟩ (by omega) (by omega) opt_tup (c := 40) (by decide +kernel) (by decide)
        · exact fst_no (lk_lst1 gA (lk_nat (i := 0) (by decide))) (by omega) (by omega) opt_loc (c := 91) (by decide +kernel) (by decide)
        · exact fst_no (lk_one (lk_nat (i := 0) (by decide))) (by omega) (by omega) opt_tup (c := 40) (by decide +kernel) (by decide)
        · exact fst_int (small_log (by omega))
      simp [l2]
      exact fin _ M' o' _ (LA1.kf.trans K) h1 h2 (by omega) (pair_of h3 (snd_int (small_log hi1)))
    rw [if_neg (by omega)]
    simp only [b__law_near_6]
    simp
    by_cases c5 : w = 5
    · rw [if_pos (by omega)]
      simp only [b__law_near_3]
      simp [l1, l2, l6, cpow20]
      intro pZ hpZ
      refine one_newQ (P := SndM) SndM.le hpZ (by omega) hf3 hF3 (by simp) (by simp) ?_ fun r M' o' K h1 h2 h3 => ?_
      · intro x hx
        simp only [List.mem_cons, List.not_mem_nil, or_false] at hx
        rcases hx with rfl | rfl | rfl | rfl | rfl | rfl
        · exact snd_no lk_bl (by omega) (by omega) (fun v e => by cases e) (c := 84) (by decide +kernel) (by decide)
        · exact snd_no lk_bl (by omega) (by omega) (fun v e => by cases e) (c := 70) (by decide +kernel) (by decide)
        · exact snd_no lk_non (by omega) (by omega) (fun v e => by cases e) (c := 78) (by decide +kernel) (by decide)
        · exact snd_no (lk_str (by decide +kernel) (by decide)) (by omega) (by omega) (fun v e => by cases e) (c := 39) (by decide +kernel) (by decide)
        · exact snd_no (lk_one (lk_nat (i := 0) (by decide))) (by omega) (by omega) (fun v e => by cases e) (c := 40) (by decide +kernel) (by decide)
        · exact snd_int (by decide +kernel)
      simp [l2]
      exact fin _ M' o' _ K h1 h2 (by omega) (pair_of (fst_opt kq) h3)
    rw [if_neg (by omega)]
    simp only [b__law_near_5]
    simp
    by_cases c6 : w = 6
    · rw [if_pos (by omega)]
      simp only [b__law_near_4]
      simp [l9]
      intro pD hpD
      have LD : Le M3 (up M3 pD (.dic [])) := Le.new hpD
      have eD : up M3 pD (.dic []) pD = some (.dic []) := up_same
      have nD := (m_ne hf3 hpD).symm
      have hfD := LD _ _ hf3
      generalize up M3 pD (.dic []) = M4 at LD eD hfD
      simp [l9]
      intro pZ hpZ
      refine one_newQ (P := Pg) Pg.le hpZ (by omega) hfD hF3 (by simp) (by simp) ?_ fun r M' o' K h1 h2 h3 => fin _ M' o' _ (LD.kf.trans K) h1 h2 (by omega) h3
      have gD : hideM f M4 pD = some (.dic []) := hide_at eD nD
      intro x hx
      simp only [List.mem_cons, List.not_mem_nil, or_false] at hx
      rcases hx with rfl | rfl | rfl | rfl | rfl | rfl | rfl | rfl | rfl
      · exact pg_no lk_non (by omega) (by omega) (c := 78) (by decide +kernel) (by decide) (fun o w e => by cases e)
      · exact pg_int (by decide +kernel)
      · exact pg_no (lk_str (by decide +kernel) (by decide)) (by omega) (by omega) (c := 39) (by decide +kernel) (by decide) (fun o w e => by cases e)
      · refine Lk.pg (h := 1) (w := 3) (t' := .tup []) ⟨.tup _ (fun x h => by cases h) (by decide), rfl, Nat.le_refl _, Nat.le_refl _, ⟨[], rfl, rfl⟩⟩ (by omega) (by omega) fun o w => ⟨fun e => ?_, fun e => by cases e⟩
        have e0 : sg (.tup []) = [40, 41] := by decide +kernel
        rw [e0, sg_place] at e
        injection e with _ e
        have := so_head (r := []) (c := 41) e
        omega
      · refine ⟨.leaf _ "dict" (by simp [tyT, gD]) (fun _ h => by cases h) (by decide), emS, fun M' Q fx L hq => .inr (.inl ⟨pD, rfl, L _ _ gD, hq⟩), ?_⟩
        have e0 : emS.cps.toList = [123, 125] := by decide +kernel
        rw [e0]
        exact no40 rfl (by decide) (fun o w e => by cases e)
      · exact pg_no (lk_str (by decide +kernel) (by decide)) (by omega) (by omega) (c := 39) (by decide +kernel) (by decide) (fun o w e => by cases e)
      · exact pg_no lk_bl (by omega) (by omega) (c := 84) (by decide +kernel) (by decide) (fun o w e => by cases e)
      · exact pg_int (small_log hi1)
      · exact pg_opt kq
    rw [if_neg (by omega)]
    exact fin0 _ (pair_of (fst_opt kq) (snd_int (small_log hi1)))
  cases q with
  | none =>
    have e := hq0 rfl
    subst e
    simp [optT, ep1, ↓kAt_get eqh2, er0]
    exact step _ _ rfl
  | some k =>
    have e := hq1 k rfl
    subst e
    simp [optT, ep1, ↓kAt_get eqh2, er0]
    exact step _ _ rfl
end T

/-! Q: places asked (law k00). -/
namespace T
open PySem PySem.Spec PyProof.Rows L2
theorem wf_docQ {M : Ms} {d : Doc} (hval : Val d) : Wf M (docT d) := by
  refine .tup _ (fun x hx => ?_) (by rw [List.length_map]; have := hval.2; omega)
  obtain ⟨e, he, rfl⟩ := List.mem_map.mp hx
  obtain ⟨i, hi⟩ := List.mem_iff_getElem?.mp he
  refine .tup _ (fun u hu => ?_) (by show 2 ≤ 100000; decide)
  simp at hu
  rcases hu with rfl | rfl
  · refine .leaf _ "str" rfl (fun _ h => ?_) (by decide)
    cases h
    have h := (hval.1.dep i e hi).1
    have h : (decide (e.1.length = 1) && strIn e.1 "abcdefgh") = true := h
    rw [Bool.and_eq_true, decide_eq_true_eq] at h
    omega
  · exact .leaf _ "int" rfl (fun _ h => by cases h) (by decide)
def spx__law_asked (cn : Cn) : Sp2 := A2 fun a b M Q _ => ∃ d, a = docT d ∧ Val d ∧ Wf M b ∧ ((∃ o w k, b = placeT o w ∧ okO d o ∧ (chA d o)[w]? = some k ∧ Q (.tup [.str "node", natT k]) M) ∨ (¬ PlIs d b ∧ Q (.tup [.str "BadPlace"]) M))
def n__law_asked : List Str := "document" :: "thing" :: "got" :: []
def bx__law_asked_1 (cn : Cn) : TS2 := (sAs (eTup (aCons (eC (.str "node")) (aCons (eCall (spx_node_at cn) [] (aCons (eVar 0) (aCons (eVar 1) aNil))) aNil))) (gN 2))
def bx__law_asked (cn : Cn) : TS2 := (sSq (sTry (fun c => cn.ex c (cn.cl "BadPlace")) (bx__law_asked_1 cn) (sAs (eTup (aCons (eC (.str "BadPlace")) aNil)) (gN 2)))
  (sRt (eVar 2)))
theorem semx__law_asked (cn : Cn) (hx : ExF cn) : ∀ ds M Q E, spx__law_asked cn ds M Q E → bx__law_asked cn (fEnds Q E) (start2 n__law_asked ds) M := by
  rintro ds M Q E ⟨a, b, rfl, d, rfl, hv, wb, h⟩
  have l1 : 1 ≤ sizeLine := small_line (by decide)
  have l2 : 2 ≤ sizeLine := small_line (by decide)
  have x3 := hx.2.2.1
  simp only [bx__law_asked, start2, n__law_asked]
  simp only [sSq_ap, sTry_ap]
  simp only [bx__law_asked_1]
  simp
  rcases h with ⟨o, w, k, e, ho, hk, hq⟩ | ⟨hn, hq⟩
  · refine ⟨_, _, rfl, wf_docQ hv, .inr ⟨d, rfl, hv, wb, .inr ⟨o, w, k, e, ho, hk, ?_⟩⟩⟩
    simp [l2]
    exact Fg.same hq
  · refine ⟨_, _, rfl, wf_docQ hv, .inr ⟨d, rfl, hv, wb, .inl ⟨hn, ?_⟩⟩⟩
    refine ⟨true, x3, fun _ => ?_, fun h => by cases h⟩
    simp [l1]
    exact Fg.same hq
/-- what is known: nodes by the texts of their places -/
structure KnQ (d : Doc) (D : Nat → Nat → Prop) (kvs : List (Key × Tr)) : Prop where
  at_ : ∀ s t, valT kvs (.inr s) = some t → ∃ o v k, okO d o ∧ (chA d o)[v]? = some k ∧ s.cps.toList = sg (placeT o v) ∧ t = natT k
  has : ∀ h v s, D h v → h ≤ d.length → v < (chA d (oQ d h)).length → s.cps.toList = sg (placeT (oQ d h) v) → (valT kvs (.inr s)).isSome = true
theorem KnQ.put {d : Doc} {D D' : Nat → Nat → Prop} {kvs : List (Key × Tr)} (K : KnQ d D kvs) {h v k : Nat} {s : Str} (ho : okO d (oQ d h)) (hk : (chA d (oQ d h))[v]? = some k) (hs : s.cps.toList = sg (placeT (oQ d h) v))
    (hD : ∀ a b, D' a b → D a b ∨ (a = h ∧ b = v)) : KnQ d D' (putT kvs (.inr s) (natT k)) := by
  constructor
  · intro s2 t e
    rw [valT_put] at e
    by_cases c : (Sum.inr s2 : Key) = .inr s
    · rw [if_pos c] at e
      have c : s2 = s := Sum.inr.inj c
      exact ⟨_, _, _, ho, hk, by rw [c]; exact hs, (Option.some.inj e).symm⟩
    · rw [if_neg c] at e
      exact K.at_ _ _ e
  · intro h2 v2 s2 e1 e2 e3 e4
    rw [valT_put]
    by_cases c : (Sum.inr s2 : Key) = .inr s
    · rw [if_pos c]; rfl
    · rw [if_neg c]
      rcases hD _ _ e1 with q | ⟨rfl, rfl⟩
      · exact K.has _ _ _ q e2 e3 e4
      · exact absurd (by rw [str_eq (e4.trans hs.symm)]) c
theorem pg_place {M : Ms} {o : Option Nat} {v : Nat} (ho : ∀ k, o = some k → k < 1000000) (hv : v < 1000000) : Pg M (placeT o v) := pair_of (fst_opt ho) (snd_int (small_log (by omega)))
theorem ok_oQ {d : Doc} {h : Nat} (hh : h ≤ d.length) : okO d (oQ d h) := fun k e => by
  unfold oQ at e
  split at e
  · cases e
  · cases e; omega
theorem of_oQ {d : Doc} {o : Option Nat} (ho : okO d o) : ∃ h, h ≤ d.length ∧ oQ d h = o := by
  cases o with
  | none => exact ⟨d.length, Nat.le_refl _, if_pos rfl⟩
  | some k =>
    have := ho k rfl
    exact ⟨k, by omega, if_neg (by omega)⟩
theorem text_natQ {M : Ms} {k : Nat} (hk : k < 1000000) {Q : Q2} {fx : Fx Q} (hq : Q (.str (toP (natT k)).shown) M) : ReprXS (natT k) M Q fx :=
  .inl (reprS_sh (t := natT k) (sh_nat (by omega)) (by show 0 ≤ 50; decide) (by show wT (.int (k : Int)) ≤ _; rw [wT_int (by omega)]; decide) hq)
theorem text_lk {M : Ms} {h w : Nat} {t t' : Tr} (x : Lk M h w t t') (h1 : h ≤ 10) (h2 : w ≤ 1000000) {Q : Q2} {fx : Fx Q} (hq : Q (.str (toP t').shown) M) : ReprXS t M Q fx := by
  obtain ⟨p1, p2, p3, p4, p5⟩ := sh_ok x.sh
  have := x.ht
  have := x.wd
  exact .inl ⟨toP t', x.dat, p2, p3, by rw [hT_ok]; omega, by rw [sizeLine_eq]; omega, hq⟩
def spx__law_asked_two (cn : Cn) : Sp2 := A1 fun a M Q _ => ∃ ns, a = scT ns ∧ Script ns ∧ ∀ M', Le M M' → Q (.bl true) M'
def n__law_asked_two : List Str := "script" :: "feed" :: "document" :: "rows" :: "known" :: "holder" :: "row" :: "which" :: "node" :: "spot" :: "turn" :: "thing" :: "due" :: []
def bx__law_asked_two_1 (cn : Cn) : TS2 := (sIf (tOrr (tCm (eOp (rEqG not) (eB rReprX (aCons (eCall (spx_place_of cn) [] (aCons (eVar 2) (aCons (eVar 8) aNil))) aNil)) (eB rReprX (aCons (eVar 9) aNil)))) (tCm (eOp (rEqG not) (eB rReprX (aCons (eCall (spx_node_at cn) [] (aCons (eVar 2) (aCons (eVar 9) aNil))) aNil)) (eB rReprX (aCons (eVar 8) aNil))))) (sRt (eC (.bl false))) sNx)
def bx__law_asked_two_2 (cn : Cn) : TS2 := (sSq (sAs (eVar 8) (gSb rPut2 (eVar 4) (eB rReprX (aCons (eVar 9) aNil))))
  (bx__law_asked_two_1 cn))
def bx__law_asked_two_3 (cn : Cn) : TS2 := (sSq (sAs (eTup (aCons (eIf (tCm (eOp (rEqG id) (eVar 5) (eB rLen2 (aCons (eVar 2) aNil)))) (eC .non) (eVar 5)) (aCons (eVar 7) aNil))) (gN 9))
  (bx__law_asked_two_2 cn))
def bx__law_asked_two_4 (cn : Cn) : TS2 := (sFo (iEn (aCons (eVar 6) aNil)) (gT 2 (gCo (gN 7) (gCo (gN 8) gNil2))) (bx__law_asked_two_3 cn))
def bx__law_asked_two_5 (cn : Cn) : TS2 := (sIf (tCm (eOp (rEqG not) (eB rReprX (aCons (eCall (spx__law_asked cn) [] (aCons (eVar 2) (aCons (eVar 11) aNil))) aNil)) (eB rReprX (aCons (eVar 12) aNil)))) (sRt (eC (.bl false))) sNx)
def bx__law_asked_two_6 (cn : Cn) : TS2 := (sSq (sAs (eIf (tCm (eOp (rInX id) (eB rReprX (aCons (eVar 11) aNil)) (eVar 4))) (eTup (aCons (eC (.str "node")) (aCons (eOp rIxD2 (eVar 4) (eB rReprX (aCons (eVar 11) aNil))) aNil))) (eTup (aCons (eC (.str "BadPlace")) aNil))) (gN 12))
  (bx__law_asked_two_5 cn))
def bx__law_asked_two_7 (cn : Cn) : TS2 := (sSq (sAs (eCall sp__law_near [] (aCons (eVar 1) (aCons (eVar 2) (aCons (eVar 3) aNil)))) (gN 11))
  (bx__law_asked_two_6 cn))
def bx__law_asked_two_8 (cn : Cn) : TS2 := (sSq (sFo (iRg1 (aCons (eC (.int 6)) aNil)) (gN 10) (bx__law_asked_two_7 cn))
  (sRt (eC (.bl true))))
def bx__law_asked_two_9 (cn : Cn) : TS2 := (sSq (sFo (iEn (aCons (eVar 3) aNil)) (gT 2 (gCo (gN 5) (gCo (gN 6) gNil2))) (bx__law_asked_two_4 cn))
  (bx__law_asked_two_8 cn))
def bx__law_asked_two_10 (cn : Cn) : TS2 := (sSq (sAs (eCall sp__law_children [] (aCons (eVar 2) aNil)) (gN 3))
  (sSq (sAs eD0 (gN 4))
  (bx__law_asked_two_9 cn)))
def bx__law_asked_two_11 (cn : Cn) : TS2 := (sSq (sAs (eCall sp__law_drawn [] (aCons (eVar 1) (aCons (eVar 0) (aCons (eC (.int 16)) aNil)))) (gN 2))
  (bx__law_asked_two_10 cn))
def bx__law_asked_two (cn : Cn) : TS2 := (sSq (sAs (eCall sp__law_feed [] (aCons (eVar 0) (aCons (eC (.int 0)) aNil))) (gN 1))
  (bx__law_asked_two_11 cn))
theorem semx__law_asked_two (cn : Cn) : ∀ ds M Q E, spx__law_asked_two cn ds M Q E → bx__law_asked_two cn (fEnds Q E) (start2 n__law_asked_two ds) M := by
  rintro ds M Q E ⟨a, rfl, ns, rfl, hs, hq⟩
  have l1 : 1 ≤ sizeLine := small_line (by decide)
  have l2 : 2 ≤ sizeLine := small_line (by decide)
  simp only [bx__law_asked_two, start2, n__law_asked_two]
  simp
  refine ⟨_, _, rfl, ns, 0, rfl, rfl, hs, by decide, fun f o hf hF => ?_⟩
  have hf1 : up M f o f = some o := up_same
  have L1 : Le M (up M f o) := Le.new hf
  have hMf := hf
  generalize up M f o = M1 at hf1 L1
  simp only [bx__law_asked_two_11]
  simp
  refine ⟨_, _, _, rfl, f, ns, 16, _, o, rfl, rfl, rfl, hs, by decide, by decide, hf1, hF, fun d o1 hv hd hF1 => ?_⟩
  have k1 : Kf f M1 (up M1 f o1) := Kf.feed
  have hf2 : up M1 f o1 f = some o1 := up_same
  generalize up M1 f o1 = M2 at k1 hf2
  simp only [bx__law_asked_two_10]
  simp
  refine ⟨_, rfl, d, rfl, hv, fun M3 p qs hp hqs hnd hqn ep er L2 => ?_⟩
  have hf3 := L2 _ _ hf2
  have npf : p ≠ f := (m_ne hf2 hp).symm
  have nqf : ∀ q ∈ qs, q ≠ f := fun q hq => (m_ne hf2 (hqn q hq).1).symm
  simp
  intro g hg
  have L3 : Le M3 (up M3 g (.dic [])) := Le.new hg
  have eg : up M3 g (.dic []) g = some (.dic []) := up_same
  have ngf : f ≠ g := m_ne hf3 hg
  have nqg : ∀ k q, qs[k]? = some q → q ≠ g := fun k q h => m_ne (er k q h) hg
  have npg : p ≠ g := m_ne ep hg
  have hf4 := L3 _ _ hf3
  have ep4 := L3 _ _ ep
  have er4 : ∀ k q, qs[k]? = some q → up M3 g (.dic []) q = some (.lst (rowI d k d.length)) := fun k q h => L3 _ _ (er k q h)
  have hMg : M3 g = none := hg
  generalize up M3 g (.dic []) = M4 at L3 eg hf4 ep4 er4
  simp only [bx__law_asked_two_9]
  simp [ep4]
  refine for_itE (fun i σ M' => ∃ (x5 x6 x7 x8 x9 : Option Tr) (kvs : List (Key × Tr)), σ = [some (scT ns), some (.loc f), some (docT d), some (.loc p), some (.loc g), x5, x6, x7, x8, x9, none, none, none] ∧ Kf g M4 M' ∧ M' g = some (.dic kvs) ∧ kvs.length ≤ i * 100 ∧ KnQ d (fun h v => h < i) kvs)
    ⟨_, _, _, _, _, [], rfl, Kf.refl, eg, by simp, ⟨(fun s t e => by cases e), fun h v s e => by omega⟩⟩ (fun i σ M' hi h => ?_) (fun i z σ M' hz h => ?_) (fun σ M' h => ?_)
  · obtain ⟨x5, x6, x7, x8, x9, kvs, rfl, K4, _⟩ := h
    exact seqT_lst (K4 _ _ npg ep4)
  · obtain ⟨x5, x6, x7, x8, x9, kvs, rfl, K4, egk, hlk, hK⟩ := h
    rw [List.getElem?_map] at hz
    obtain ⟨q, hqi, rfl⟩ := Option.map_eq_some_iff.mp hz
    have hil : i ≤ d.length := by have := (List.getElem?_eq_some_iff.mp hqi).1; omega
    have eq4 := er4 i q hqi
    have nq := nqg i q hqi
    rw [rowI_oQ hil] at eq4
    have hcl := @ch_le d (oQ d i)
    have hoq := ok_oQ (d := d) hil
    have ho6 : ∀ k, oQ d i = some k → k < 1000000 := fun k h => by have := hoq k h; omega
    simp
    refine nx_cut fun NX hN => ?_
    simp only [bx__law_asked_two_4]
    have eq5 := K4 _ _ nq eq4
    simp [eq5]
    refine for_itE (fun j σ M' => ∃ (x7 x8 x9 : Option Tr) (kvs : List (Key × Tr)), σ = [some (scT ns), some (.loc f), some (docT d), some (.loc p), some (.loc g), some (.int i), some (.loc q), x7, x8, x9, none, none, none] ∧ Kf g M4 M' ∧ M' g = some (.dic kvs) ∧ kvs.length ≤ i * 100 + j ∧ KnQ d (fun h v => h < i ∨ (h = i ∧ v < j)) kvs)
      ⟨_, _, _, kvs, rfl, K4, egk, by omega, ⟨hK.at_, fun h v s e => hK.has h v s (by rcases e with e | ⟨_, e⟩ <;> omega)⟩⟩ (fun j σ M' hj h => ?_) (fun j z σ M' hz h => ?_) (fun σ M' h => ?_)
    · obtain ⟨x7, x8, x9, kvs, rfl, K4, _⟩ := h
      exact seqT_lst (K4 _ _ nq eq4)
    · obtain ⟨x7, x8, x9, kvs2, rfl, K5, eg5, hl5, hK5⟩ := h
      rw [List.getElem?_map] at hz
      obtain ⟨k, hk, rfl⟩ := Option.map_eq_some_iff.mp hz
      have hjl := (List.getElem?_eq_some_iff.mp hk).1
      obtain ⟨ck, pk, kl⟩ := cnt_at hk
      obtain ⟨wpl, s, ts, hsp⟩ := pg_place (M := M') (o := oQ d i) (v := j) ho6 (by omega)
      have hss : s.cps.toList = sg (placeT (oQ d i) j) := (hsp _ _).mpr rfl
      have hK6 := hK5.put (D' := fun h v => h < i ∨ (h = i ∧ v < j + 1)) hoq hk hss (fun a b h => by omega)
      have fin : ∀ (D : Ends2), D.nx = NX → True := fun _ _ => trivial
      simp
      refine nx_cut fun NX2 hN2 => ?_
      have last : ∀ D : Ends2, D.nx = NX2 → bx__law_asked_two_2 cn D [some (scT ns), some (.loc f), some (docT d), some (.loc p), some (.loc g), some (.int i), some (.loc q), some (.int j), some (natT k), some (placeT (oQ d i) j), none, none, none] M' := by
        intro D hD
        simp only [bx__law_asked_two_2]
        simp
        refine ts _ _ _ Le.refl ?_
        simp
        refine ⟨kvs2, eg5, small_lt (by omega), ?_⟩
        have K6 : Kf g M' (up M' g (.dic (putT kvs2 (.inr s) (natT k)))) := Kf.feed
        have eg6 : up M' g (.dic (putT kvs2 (.inr s) (natT k))) g = some (.dic (putT kvs2 (.inr s) (natT k))) := up_same
        generalize up M' g (.dic (putT kvs2 (.inr s) (natT k))) = M6 at K6 eg6
        have lk : Lk M6 1 3849 (placeT (oQ d i) j) (placeT (oQ d i) j) := lk_two ((lk_opt ho6).mono (Nat.le_refl 0) (show 7 ≤ 1921 by omega)) (lk_int (small_log (by omega)))
        simp only [bx__law_asked_two_1]
        simp
        refine ⟨_, _, rfl, wf_docQ hv, .inr ⟨d, rfl, hv, ⟨"int", rfl⟩, .inr ⟨k, rfl, kl, ?_⟩⟩⟩
        rw [pk, ck]
        refine text_lk lk (by omega) (by omega) ?_
        simp
        refine text_lk lk (by omega) (by omega) ?_
        simp
        refine ⟨_, _, rfl, wf_docQ hv, .inr ⟨d, rfl, hv, lk.wf, .inr ⟨oQ d i, j, k, rfl, hoq, hk, ?_⟩⟩⟩
        refine text_natQ (by omega) ?_
        simp
        refine text_natQ (by omega) ?_
        simp
        rw [hD]
        have hl6 := @putT_len1 kvs2 (.inr s) (natT k)
        exact hN2 _ _ ⟨⟨_, _, _, rfl⟩, K5.trans K6, _, eg6, by omega, hK6⟩
      simp only [bx__law_asked_two_3]
      by_cases ci : i = d.length
      · have eo : oQ d i = none := if_pos ci
        rw [eo] at last
        have ci' : (i : Int) = (d.length : Int) := by omega
        simp only [ci'] at last
        simp [ci', l2]
        refine last _ ?_
        rfl
      · have eo : oQ d i = some i := if_neg ci
        rw [eo] at last
        have ci' : ¬ (i : Int) = (d.length : Int) := by omega
        simp [ci, ci', l2]
        refine last _ ?_
        rfl
    · obtain ⟨x7, x8, x9, kvs2, rfl, K5, eg5, hl5, hK5⟩ := h
      rw [List.length_map] at hl5 hK5
      exact hN _ _ ⟨⟨_, _, _, _, _, rfl⟩, K5, _, eg5, by omega, ⟨hK5.at_, fun h v s e e2 e3 => hK5.has h v s (by
        by_cases c : h = i
        · subst c; exact .inr ⟨rfl, e3⟩
        · exact .inl (by omega)) e2 e3⟩⟩
  obtain ⟨x5, x6, x7, x8, x9, kvs, rfl, K4, egk, hlk, hK⟩ := h
  rw [List.length_map, hqs] at hK
  have hf5 := K4 _ _ ngf hf4
  simp only [bx__law_asked_two_8]
  simp
  refine ⟨rg_small (by decide) (by decide), ?_⟩
  refine for_itR (fun i σ M5 => ∃ (x10 x11 x12 : Option Tr) (n : Nat) (o' : MO), σ = [some (scT ns), some (.loc f), some (docT d), some (.loc p), some (.loc g), x5, x6, x7, x8, x9, x10, x11, x12] ∧ Kf f M' M5 ∧ M5 f = some o' ∧ FeedO n o' ∧ n ≤ 1 + 5 * i)
    ⟨_, _, _, _, o1, rfl, Kf.refl, hf5, hF1, by omega⟩ (fun i σ M5 hi h => ?_) (fun σ M5 h => ?_)
  · obtain ⟨x10, x11, x12, n, o', rfl, K5, hf6, hF6, hn⟩ := h
    simp
    refine nx_cut fun NX hN => ?_
    simp only [bx__law_asked_two_7]
    simp
    have ep5 := K5 _ _ npf (K4 _ _ npg ep4)
    refine ⟨_, _, _, rfl, f, d, p, qs, n, o', rfl, rfl, rfl, hv, by omega, hqs, ep5, (fun k q h => K5 _ _ (nqf q (List.mem_of_getElem? h)) (K4 _ _ (nqg k q h) (er4 k q h))), npf, nqf, by omega, hf6, hF6, fun r M6 o6 K6 hf7 hF7 hr => ?_⟩
    have eg6 := K6 _ _ ngf.symm (K5 _ _ ngf.symm egk)
    obtain ⟨wr, s, ts, hsp⟩ := hr.le le_hide
    simp only [bx__law_asked_two_6]
    simp
    refine ts _ _ _ Le.refl ?_
    simp
    refine rInX_dic eg6 rfl ?_
    have hN2 : ∀ x12, NX [some (scT ns), some (.loc f), some (docT d), some (.loc p), some (.loc g), x5, x6, x7, x8, x9, some (.int i), some r, x12] M6 := fun x12 => hN _ _ ⟨⟨_, _, _, rfl⟩, K5.trans K6, _, _, hf7, hF7, by omega⟩
    cases hval : valT kvs (.inr s) with
    | some t =>
      obtain ⟨o2, v, k, ho, hk, hss, rfl⟩ := hK.at_ _ _ hval
      have er := (hsp o2 v).mp hss
      have kl := (cnt_at hk).2.2
      simp
      refine ts _ _ _ Le.refl ?_
      simp
      refine ⟨kvs, .inr s, natT k, eg6, rfl, hval, ?_⟩
      simp [l2]
      simp only [bx__law_asked_two_5]
      simp
      have lk : Lk M6 1 211 (.tup [.str "node", natT k]) (.tup [.str "node", natT k]) := lk_two (lk_str (by decide +kernel) (by decide)) ((lk_nat (i := (k : Int)) (by omega)).mono (Nat.le_refl 0) (by omega))
      refine ⟨_, _, rfl, d, rfl, hv, wr, .inl ⟨o2, v, k, er, ho, hk, ?_⟩⟩
      refine text_lk lk (by omega) (by omega) ?_
      simp
      refine text_lk lk (by omega) (by omega) ?_
      simp
      exact hN2 _
    | none =>
      simp [l1]
      simp only [bx__law_asked_two_5]
      simp
      have lk : Lk M6 1 107 (.tup [.str "BadPlace"]) (.tup [.str "BadPlace"]) := lk_one (lk_str (by decide +kernel) (by decide))
      refine ⟨_, _, rfl, d, rfl, hv, wr, .inr ⟨?_, ?_⟩⟩
      · rintro ⟨o2, v, er, ho, hv2⟩
        obtain ⟨h, hh, eh⟩ := of_oQ ho
        have := hK.has h v s (by omega) hh (by rw [eh]; exact hv2) (by rw [eh]; exact (hsp o2 v).mpr er)
        rw [hval] at this
        cases this
      refine text_lk lk (by omega) (by omega) ?_
      simp
      refine text_lk lk (by omega) (by omega) ?_
      simp
      exact hN2 _
  · obtain ⟨x10, x11, x12, n, o', rfl, K5, hf6, hF6, hn⟩ := h
    simp
    have KM : Le M M5 := by
      have k34 : Le M3 M' := Kf.up hMg (L3.kf.trans K4)
      have : Kf f M M5 := ((L1.kf.trans k1).trans (L2.trans k34).kf).trans K5
      exact Kf.up hMf this
    exact Fg.same (hq _ KM)
end T

/-! L: the first wrong sign of a long text. -/
namespace T
open PySem PySem.Spec PyProof.Rows L2
theorem strIn_one {c : Nat} {w : Str} : strIn (chS c) w = decide (c ∈ w.cps.toList) := PySem.StrLaws.found_one w c
theorem isMk_chS {c : Nat} : isMk (.str (chS c)) = strIn (chS c) "abcdefgh" := by
  have : (chS c).length = 1 := rfl
  simp [isMk, this]
/-- the signs one after the other: where it stops, or what it ends with -/
def goP (s : PSt) (i : Nat) : Cps → Nat ⊕ PSt
  | [] => .inr s
  | c :: r => match stepP s c with
    | some s' => goP s' (i + 1) r
    | none => .inl i
def finL (z : Cps) : Nat ⊕ Doc := match goP ([], 0, 32) 0 z with
  | .inl i => .inl i
  | .inr s => if (z ≠ [] ∧ (s.2.2 = 32 ∨ 0 < s.2.1)) ∨ 20000 < s.1.length then .inl z.length else .inr s.1
def FoOut (cn : Cn) (r : Nat ⊕ Doc) (M : Ms) (Q : Q2) (E : X2) : Prop := match r with
  | .inl i => ∀ dx, M dx = none → E (cn.cl "BadText") (some dx) (up M dx (.xd [("place", .int (i : Nat))]))
  | .inr d => Q (docT d) M
def spx_forest_in (cn : Cn) : Sp2 := A1 fun a M Q E => ∃ z : Str, a = .str z ∧ z.length ≤ 100000 ∧ FoOut cn (finL z.cps.toList) M Q E
def bx_forest_in_1 (cn : Cn) : TS2 := (sDr (eM "list" rApp2 (eVar 1) (aCons (eTup (aCons (eVar 5) (aCons (eVar 2) aNil))) aNil)))
def bx_forest_in_2 (cn : Cn) : TS2 := (sSq (sAs (eOp (rInX id) (eVar 5) (eC (.str "abcdefgh"))) (gN 6))
  (bx_forest_in_1 cn))
def bx_forest_in_3 (cn : Cn) : TS2 := (sSq (sAs (eOp (rEqG not) (eVar 3) (eC (.str ")"))) (gN 6))
  (sAu 2 rIpA (eC (.int 1))))
def bx_forest_in_4 (cn : Cn) : TS2 := (sSq (sAs (eOp rGtI (eVar 2) (eC (.int 0))) (gN 6))
  (sAu 2 rIpS (eC (.int 1))))
def bx_forest_in_5 (cn : Cn) : TS2 := (sIf (tCm (eOp (rEqG id) (eVar 5) (eC (.str ")")))) (bx_forest_in_4 cn) (sAs (eOp (rEqG id) (eVar 5) (eC (.str " "))) (gN 6)))
def bx_forest_in_6 (cn : Cn) : TS2 := (sIf (tCm (eOp (rEqG id) (eVar 5) (eC (.str "(")))) (bx_forest_in_3 cn) (bx_forest_in_5 cn))
def bx_forest_in_7 (cn : Cn) : TS2 := (sSq (sIf (tNo (tTr (eVar 6))) (sRaiseI (cn.cl "BadText") "place" (eVar 4)) sNx)
  (sAs (eVar 5) (gN 3)))
def bx_forest_in_8 (cn : Cn) : TS2 := (sSq (sIf (tOrr (tCm (eOp (rEqG id) (eVar 3) (eC (.str " ")))) (tCm (eOp (rEqG id) (eVar 3) (eC (.str "("))))) (bx_forest_in_2 cn) (bx_forest_in_6 cn))
  (bx_forest_in_7 cn))
def bx_forest_in_9 (cn : Cn) : TS2 := (sSq (sIf (tOrr (tAn (tCm (eOp (rEqG not) (eVar 0) (eC (.str "")))) (tOrr (tCm (eOp (rEqG id) (eVar 3) (eC (.str " ")))) (tCm (eOp rGtI (eVar 2) (eC (.int 0)))))) (tCm (eOp rGtI (eB rLen2 (aCons (eVar 1) aNil)) (eC (.int 20000))))) (sRaiseI (cn.cl "BadText") "place" (eB rLen2 (aCons (eVar 0) aNil))) sNx)
  (sRt (eB rTuple2 (aCons (eVar 1) aNil))))
def bx_forest_in_10 (cn : Cn) : TS2 := (sSq (sFo (iEnS (aCons (eVar 0) aNil)) (gT 2 (gCo (gN 4) (gCo (gN 5) gNil2))) (bx_forest_in_8 cn))
  (bx_forest_in_9 cn))
def bx_forest_in_11 (cn : Cn) : TS2 := (sSq (sAs (eC (.int 0)) (gN 2))
  (sSq (sAs (eC (.str " ")) (gN 3))
  (bx_forest_in_10 cn)))
def bx_forest_in (cn : Cn) : TS2 := (sSq (sAs (eLst aNil) (gN 1))
  (bx_forest_in_11 cn))
theorem foX {cn : Cn} {z : Str} {i : Nat} {M : Ms} {Q : Q2} {E : X2} {p : Addr} {ls : List Tr} (h : FoOut cn (.inl i) M Q E) (hp : M p = none) (dx : Addr) (hd : up M p (.lst ls) dx = none) :
    FgX E (cn.cl "BadText") (some dx) (up (up M p (.lst ls)) dx (.xd [("place", .int (i : Nat))])) := by
  have hd0 : M dx = none := Le.none (Le.new hp) hd
  exact FgX.le (Le.up (Le.new hp)) (h dx hd0)
theorem semx_forest_in (cn : Cn) : ∀ ds M Q E, spx_forest_in cn ds M Q E → bx_forest_in cn (fEnds Q E) (start2 n_forest_in ds) M := by
  rintro ds M Q E ⟨a, rfl, z, rfl, hz, hq⟩
  have hzl : z.cps.toList.length ≤ 100000 := by rw [← len_cps]; exact hz
  simp only [bx_forest_in, start2, n_forest_in, bx_forest_in_11]
  simp
  intro p hp
  simp only [bx_forest_in_10]
  simp
  have len : (chrs z).length = z.cps.toList.length := by simp [chrs]
  refine for_itE (fun i σ M' => ∃ (s : PSt) (ls : List Tr) (x y w : Option Tr), σ = [some (.str z), some (.loc p), some (.int s.2.1), some (.str (chS s.2.2)), x, y, w] ∧ M' = up M p (.lst ls) ∧ ls = s.1.map entT ∧ goP s i (z.cps.toList.drop i) = goP ([], 0, 32) 0 z.cps.toList ∧ s.1.length ≤ i) ?_ ?_ ?_ ?_
  · exact ⟨([], 0, 32), [], none, none, none, rfl, rfl, rfl, rfl, Nat.le_refl _⟩
  · rintro i σ M' _ _
    trivial
  · rintro i e σ M' he ⟨⟨N, h, a⟩, ls, x, y, w, rfl, rfl, rfl, hrun, hN⟩
    have hi : i < z.cps.toList.length := by rw [← len]; exact (List.getElem?_eq_some_iff.mp he).1
    obtain ⟨c, hc⟩ : ∃ c, z.cps.toList[i]? = some c := ⟨z.cps.toList[i], List.getElem?_eq_getElem hi⟩
    have ee : e = .str (chS c) := by
      unfold chrs at he
      rw [List.getElem?_map, hc] at he
      exact (Option.some.inj he).symm
    subst ee
    have hdr : z.cps.toList.drop i = c :: z.cps.toList.drop (i + 1) := by
      rw [List.drop_eq_getElem_cons hi]
      have := List.getElem?_eq_getElem hi
      rw [this] at hc
      rw [Option.some.inj hc]
    rw [hdr] at hrun
    simp only at hrun hN
    have hrun2 : (match stepP (N, h, a) c with
      | some s' => goP s' (i + 1) (z.cps.toList.drop (i + 1))
      | none => .inl i) = goP ([], 0, 32) 0 z.cps.toList := hrun
    simp only [gT_ap, gCo_ap, gN_4, gN_5, gNil2_ap, List.length_cons, List.length_nil, true_and]
    refine nx_cut fun NX hN2 => ?_
    simp only [bx_forest_in_8]
    refine seq_cut (fun σ1 M1 => ∃ (dp : Int) (ls : List Tr), σ1 = [some (.str z), some (.loc p), some (.int dp), some (.str (chS a)), some (.int i), some (.str (chS c)), some (.bl (stepP (N, h, a) c).isSome)] ∧ M1 = up M p (.lst ls) ∧
      ∀ s', stepP (N, h, a) c = some s' → dp = s'.2.1 ∧ ls = s'.1.map entT ∧ s'.1.length ≤ i + 1 ∧ s'.2.2 = c) (fun NY hY => ?_) ?_
    · by_cases c1 : a = 32 ∨ a = 40
      · have hs : stepP (N, h, a) c = if isMk (.str (chS c)) = true then some (N ++ [(chS c, h)], h, c) else none := by unfold stepP; rw [if_pos c1]
        have hb : strIn (chS c) "abcdefgh" = (stepP (N, h, a) c).isSome := by
          rw [hs, ← isMk_chS]
          by_cases c2 : isMk (.str (chS c)) = true
          · rw [if_pos c2, c2]; rfl
          · rw [if_neg c2]
            simpa using c2
        have cont : NY [some (.str z), some (.loc p), some (.int h), some (.str (chS a)), some (.int i), some (.str (chS c)), some (.bl (stepP (N, h, a) c).isSome)] (up M p (.lst (N.map entT ++ [.tup [.str (chS c), .int h]]))) := by
          refine hY _ _ ⟨_, _, rfl, rfl, fun s' hs' => ?_⟩
          rw [hs] at hs'
          split at hs'
          · cases hs'
            exact ⟨rfl, by simp [entT], by simp; omega, rfl⟩
          · cases hs'
        have hln : N.length < sizeLine := by rw [sizeLine_eq]; omega
        have l2 : 2 ≤ sizeLine := small_line (by decide)
        rcases c1 with c1 | c1
        · subst c1
          simp [s32, s40, s41, chS_eq, bx_forest_in_2, bx_forest_in_1, hb, l2, hln]
          exact cont
        · subst c1
          simp [s32, s40, s41, chS_eq, bx_forest_in_2, bx_forest_in_1, hb, l2, hln]
          exact cont
      · have n1 : ¬ a = 32 := fun e => c1 (.inl e)
        have n2 : ¬ a = 40 := fun e => c1 (.inr e)
        by_cases d1 : c = 40
        · subst d1
          have hs : stepP (N, h, a) 40 = if a ≠ 41 then some (N, h + 1, 40) else none := by unfold stepP; rw [if_neg c1, if_pos rfl]
          have cont := hY [some (.str z), some (.loc p), some (.int ((h : Int) + 1)), some (.str (chS a)), some (.int i), some (.str (chS 40)), some (.bl (stepP (N, h, a) 40).isSome)] (up M p (.lst (N.map entT))) ⟨_, _, rfl, rfl, fun s' hs' => by
            rw [hs] at hs'
            split at hs'
            · cases hs'
              exact ⟨by simp, rfl, by simp; omega, rfl⟩
            · cases hs'⟩
          rw [hs] at cont
          by_cases d2 : a = 41
          · simp [d2] at cont
            simp [s32, s40, s41, chS_eq, n1, n2, d2, bx_forest_in_6, bx_forest_in_3]
            exact cont
          · simp [d2] at cont
            simp [s32, s40, s41, chS_eq, n1, n2, d2, bx_forest_in_6, bx_forest_in_3]
            exact cont
        · by_cases d2 : c = 41
          · subst d2
            have hs : stepP (N, h, a) 41 = if 0 < h then some (N, h - 1, 41) else none := by unfold stepP; rw [if_neg c1, if_neg (by decide), if_pos rfl]
            have cont := hY [some (.str z), some (.loc p), some (.int ((h : Int) - 1)), some (.str (chS a)), some (.int i), some (.str (chS 41)), some (.bl (stepP (N, h, a) 41).isSome)] (up M p (.lst (N.map entT))) ⟨_, _, rfl, rfl, fun s' hs' => by
              rw [hs] at hs'
              split at hs'
              · cases hs'
                exact ⟨by simp only; omega, rfl, by simp; omega, rfl⟩
              · cases hs'⟩
            rw [hs] at cont
            by_cases d3 : 0 < h
            · simp [d3] at cont
              simp [s32, s40, s41, chS_eq, n1, n2, d3, bx_forest_in_6, bx_forest_in_5, bx_forest_in_4]
              exact cont
            · simp [d3] at cont
              simp [s32, s40, s41, chS_eq, n1, n2, d3, bx_forest_in_6, bx_forest_in_5, bx_forest_in_4]
              exact cont
          · have hs : stepP (N, h, a) c = if c = 32 then some (N, h, 32) else none := by unfold stepP; rw [if_neg c1, if_neg d1, if_neg d2]
            have cont := hY [some (.str z), some (.loc p), some (.int (h : Int)), some (.str (chS a)), some (.int i), some (.str (chS c)), some (.bl (stepP (N, h, a) c).isSome)] (up M p (.lst (N.map entT))) ⟨_, _, rfl, rfl, fun s' hs' => by
              rw [hs] at hs'
              split at hs'
              · rename_i q
                cases hs'
                exact ⟨rfl, rfl, by simp; omega, q.symm⟩
              · cases hs'⟩
            rw [hs] at cont
            by_cases d3 : c = 32
            · simp [d3] at cont
              simp [s32, s40, s41, chS_eq, n1, n2, d1, d2, d3, bx_forest_in_6, bx_forest_in_5]
              exact cont
            · simp [d3] at cont
              simp [s32, s40, s41, chS_eq, n1, n2, d1, d2, d3, bx_forest_in_6, bx_forest_in_5]
              exact cont
    · rintro σ1 M1 ⟨dp, ls, rfl, rfl, hst⟩
      cases hs : stepP (N, h, a) c with
      | none =>
        rw [hs] at hrun2
        have eF : finL z.cps.toList = .inl i := by unfold finL; rw [← hrun2]
        rw [eF] at hq
        simp [bx_forest_in_7]
        exact fun dx hd => foX (z := z) hq hp dx hd
      | some s' =>
        rw [hs] at hrun2
        obtain ⟨rfl, rfl, h3, h4⟩ := hst s' hs
        simp [bx_forest_in_7]
        exact hN2 _ _ ⟨s', _, _, _, _, by rw [h4], rfl, rfl, hrun2, h3⟩
  · rintro σ M' ⟨⟨N, h, a⟩, ls, x, y, w, rfl, rfl, rfl, hrun, hN⟩
    rw [len, List.drop_length] at hrun
    have eF : Sum.inr (N, h, a) = goP ([], 0, 32) 0 z.cps.toList := hrun
    have hf : finL z.cps.toList = if (z.cps.toList ≠ [] ∧ (a = 32 ∨ 0 < h)) ∨ 20000 < N.length then .inl z.cps.toList.length else .inr N := by unfold finL; rw [← eF]
    have hN2 : N.length ≤ z.cps.toList.length := by rw [len] at hN; exact hN
    have hzs : z.length ≤ sizeLine := small_line (by omega)
    rw [hf] at hq
    simp only [bx_forest_in_9, sSq_ap]
    by_cases z0 : z = ""
    · have z1 : z.cps.toList = [] := by rw [z0]; rfl
      rw [z1] at hN2
      have hl2 : ¬ ((20000 : Int) < N.length) := by simp at hN2; simp [hN2]
      have hl3 : ¬ (20000 < N.length) := by omega
      rw [if_neg (by simp [z1, hl3])] at hq
      simp [z0, hl2, hl3]
      exact Fg.le (Le.new hp) hq
    · have hne : z.cps.toList ≠ [] := fun e => z0 (str_eq (by rw [e]; rfl))
      by_cases f1 : a = 32
      · rw [if_pos (.inl ⟨hne, .inl f1⟩)] at hq
        simp [z0, s32, chS_eq, f1, ↓kL_str hzs]
        rw [len_cps]
        exact fun dx hd => foX (z := z) hq hp dx hd
      · by_cases f2 : 0 < h
        · rw [if_pos (.inl ⟨hne, .inr f2⟩)] at hq
          simp [z0, s32, chS_eq, f1, f2, ↓kL_str hzs]
          rw [len_cps]
          exact fun dx hd => foX (z := z) hq hp dx hd
        · by_cases f3 : 20000 < N.length
          · have f4 : (20000 : Int) < N.length := by omega
            rw [if_pos (.inr f3)] at hq
            simp [z0, s32, chS_eq, f1, f2, f3, f4, ↓kL_str hzs]
            rw [len_cps]
            exact fun dx hd => foX (z := z) hq hp dx hd
          · have f4 : ¬ (20000 : Int) < N.length := by omega
            rw [if_neg (by simp [f1, f2, f3])] at hq
            simp [z0, s32, chS_eq, f1, f2, f3, f4]
            exact Fg.le (Le.new hp) hq
/-! read_document, asked -/
def spx_read_document (cn : Cn) : Sp2 := A1 fun a M Q E => (∃ z : Str, a = .str z ∧ z.length ≤ 100000 ∧ FoOut cn (finL z.cps.toList) M Q E) ∨ ∃ t, tyT a M = some t ∧ t ≠ "str" ∧ FoOut cn (.inl 0) M Q E
def bx_read_document (cn : Cn) : TS2 := (sSq (sIf (tNo (tTr (eB rIsi2 (aCons (eVar 0) (aCons (eC (.ty "str")) aNil))))) (sRaiseI (cn.cl "BadText") "place" (eC (.int 0))) sNx)
  (sRt (eCall (spx_forest_in cn) [] (aCons (eVar 0) aNil))))
theorem semx_read_document (cn : Cn) : ∀ ds M Q E, spx_read_document cn ds M Q E → bx_read_document cn (fEnds Q E) (start2 n_read_document ds) M := by
  rintro ds M Q E ⟨a, rfl, h⟩
  simp only [bx_read_document, start2, n_read_document]
  rcases h with ⟨z, rfl, hz, hq⟩ | ⟨t, ht, hn, hq⟩
  · have kb : ∀ P, kY (.str z) M "str" P = P true := fun P => kY_of rfl rfl
    simp [kb]
    refine ⟨_, rfl, z, rfl, hz, ?_⟩
    cases hf : finL z.cps.toList with
    | inl i => rw [hf] at hq; exact fun dx hd => FgX.same (hq dx hd)
    | inr d => rw [hf] at hq; exact Fg.same hq
  · have kb : ∀ P, kY a M "str" P = P false := fun P => kY_of ht (by
      rcases tyT_mem ht with h | h | h | h | h | h | h <;> subst h <;> first | rfl | exact absurd rfl hn)
    simp [kb]
    exact fun dx hd => FgX.same (hq dx hd)
end T

/-! Z: comprehensions that draw. -/
namespace T
open PySem PySem.Spec PyProof.Rows L2
section
variable {g : TG2} {t : TT2} {te : TE2} {vs : List Nat} {σ : St2} {M1 : Ms} {Q : Q2} {f : Addr} {o : MO} {N c : Nat} {P : Nat → Tr → Prop}
/-- what holds behind i turns -/
def FdV (P : Nat → Tr → Prop) (f p : Addr) (M1 : Ms) (N c i : Nat) (M : Ms) : Prop := ∃ ys o', M p = some (.lst ys) ∧ ys.length = i ∧ (∀ j y, ys[j]? = some y → P j y) ∧ Kf f M1 M ∧ M f = some o' ∧ FeedO (N + c * i) o'
theorem FdV.step {p : Addr} {i : Nat} {M M' : Ms} {o' : MO} {y : Tr} (hp : M1 p = none) (hf : M1 f = some o) (h : FdV P f p M1 N c i M) (hi : i < 100000) (hy : P i y) (k : Kf f M M') (hf' : M' f = some o') (hF : FeedO (N + c * (i + 1)) o') :
    ∃ acc, M' p = some (.lst acc) ∧ acc.length < sizeLine ∧ FdV P f p M1 N c (i + 1) (up M' p (.lst (acc ++ [y]))) := by
  obtain ⟨ys, o1, e1, e2, e3, e4, e5, e6⟩ := h
  have fp : f ≠ p := m_ne hf hp
  refine ⟨ys, k p _ fp.symm e1, by rw [sizeLine_eq]; omega, ys ++ [y], o', up_same, by simp [e2], ?_, ?_, by rw [up_ne fp]; exact hf', hF⟩
  · intro j z hz
    by_cases c : j < ys.length
    · rw [List.getElem?_append_left c] at hz; exact e3 j z hz
    · rw [List.getElem?_append_right (by omega)] at hz
      have : j - ys.length = 0 := by
        cases q : j - ys.length with
        | zero => rfl
        | succ n => rw [q] at hz; simp at hz
      rw [this] at hz
      have hz : y = z := by simpa using hz
      have : j = i := by omega
      rw [← hz, this]; exact hy
  · intro a u h1 h2
    rw [up_ne (m_ne h2 hp)]
    exact k a u h1 (e4 a u h1 h2)
theorem lc_fdL {ds : List Tr} {ok : Ms → Prop} {fx : Fx (itL ds ok, g, t, te, σ, Q)} (hf : M1 f = some o) (hF : FeedO N o) (hn : ds.length ≤ 100000) (hok : ∀ M, Kf f M1 M → ok M)
    (hs : ∀ (i : Nat) d M o1 (KY : Tr → Ms → Prop) (KN : Ms → Prop), ds[i]? = some d → Kf f M1 M → M f = some o1 → FeedO (N + c * i) o1 → (∀ y M' o', P i y → Kf f M M' → M' f = some o' → FeedO (N + c * (i + 1)) o' → KY y M') →
      g d (wipe2 σ vs) M fun σ2 M2 => t σ2 M2 (fun b M3 => if b = true then te σ2 M3 KY X0 else KN M3) X0)
    (hd : ∀ p M' o' ys, M1 p = none → Kf f M1 M' → M' f = some o' → FeedO (N + c * ds.length) o' → M' p = some (.lst ys) → ys.length = ds.length → (∀ j y, ys[j]? = some y → P j y) → Q (.loc p) M') :
    LcS (itL ds ok) g t te vs σ M1 Q fx := by
  intro p hp
  have fp : f ≠ p := m_ne hf hp
  refine lc_itL (FdV P f p M1 N c) ⟨[], o, up_same, rfl, (fun j y h => by simp at h), (Le.new hp).kf, by rw [up_ne fp]; exact hf, by simpa using hF⟩ (fun i M _ ⟨_, _, _, _, _, k, _⟩ => hok M k) (fun i d M hd h => ?_) (fun M ⟨ys, o', e1, e2, e3, e4, e5, e6⟩ => hd p M o' ys hp e4 e5 e6 e1 e2 e3)
  obtain ⟨ys, o1, e1, e2, e3, e4, e5, e6⟩ := id h
  have hi : i < ds.length := (List.getElem?_eq_some_iff.mp hd).1
  exact hs i d M o1 _ _ hd e4 e5 e6 fun y M' o' hy k hf' hF' => FdV.step hp hf h (by omega) hy k hf' hF'
theorem lc_fdR {lo : Int} {n : Nat} {fx : Fx (itR lo n, g, t, te, σ, Q)} (hf : M1 f = some o) (hF : FeedO N o) (hn : n ≤ 100000)
    (hs : ∀ (i : Nat) M o1 (KY : Tr → Ms → Prop) (KN : Ms → Prop), i < n → Kf f M1 M → M f = some o1 → FeedO (N + c * i) o1 → (∀ y M' o', P i y → Kf f M M' → M' f = some o' → FeedO (N + c * (i + 1)) o' → KY y M') →
      g (.int (lo + i)) (wipe2 σ vs) M fun σ2 M2 => t σ2 M2 (fun b M3 => if b = true then te σ2 M3 KY X0 else KN M3) X0)
    (hd : ∀ p M' o' ys, M1 p = none → Kf f M1 M' → M' f = some o' → FeedO (N + c * n) o' → M' p = some (.lst ys) → ys.length = n → (∀ j y, ys[j]? = some y → P j y) → Q (.loc p) M') :
    LcS (itR lo n) g t te vs σ M1 Q fx := by
  intro p hp
  have fp : f ≠ p := m_ne hf hp
  refine lc_itR (FdV P f p M1 N c) ⟨[], o, up_same, rfl, (fun j y h => by simp at h), (Le.new hp).kf, by rw [up_ne fp]; exact hf, by simpa using hF⟩ (fun i M hi h => ?_) (fun M ⟨ys, o', e1, e2, e3, e4, e5, e6⟩ => hd p M o' ys hp e4 e5 e6 e1 e2 e3)
  obtain ⟨ys, o1, e1, e2, e3, e4, e5, e6⟩ := id h
  exact hs i M o1 _ _ hi e4 e5 e6 fun y M' o' hy k hf' hF' => FdV.step hp hf h (by omega) hy k hf' hF'
end
end T

/-! Q: errors asked, the law (law k00). -/
namespace T
open PySem PySem.Spec PyProof.Rows L2
theorem finQ : ∀ n : Nat, n < 9 → finL (repS "a " n ++ ("bc" : Str)).cps.toList = .inl ((repS "a " n).length + 1) := by
  decide +kernel
def blsQ (j : Nat) : List Tr := (List.range 21).map fun k => Tr.bl (j == k)
theorem shQ : ∀ j : Nat, j < 21 → (SeqAt.shaped (.list (toPs (blsQ j))) && PyData.eqv (.list (toPs (blsQ j))) (.list (toPs (blsQ j))) && pureL (blsQ j)) = true := by decide +kernel
theorem eqS_bls {M : Ms} {Q : Q2} {f : Bool → Bool} {fx : Fx Q} {a b : Addr} {j : Nat} (hj : j < 21) (ea : M a = some (.lst (blsQ j))) (eb : M b = some (.lst (blsQ j))) (hq : Q (.bl (f true)) M) : EqS f (.loc a) (.loc b) M Q fx := by
  have h := shQ j hj
  rw [Bool.and_eq_true, Bool.and_eq_true] at h
  obtain ⟨⟨h1, h2⟩, h3⟩ := h
  exact ⟨.list (toPs (blsQ j)), .list (toPs (blsQ j)), ⟨_, seqT_lst ea, (fun _ e => nomatch e), datL_pure h3⟩, ⟨_, seqT_lst eb, (fun _ e => nomatch e), datL_pure h3⟩, h1, h1, by rw [h2]; exact hq⟩
theorem cpow30 : CPow 10 30 := by unfold CPow; decide
theorem text_intQ {M : Ms} {i : Int} (h : i.natAbs.log2 < 1920) {Q : Q2} {fx : Fx Q} (hq : Q (.str (toP (.int i)).shown) M) : ReprXS (.int i) M Q fx := text_lk (lk_int h) (by omega) (by omega) hq
theorem len_one {z : Cps} (h : z.length = 1) : ∃ c, z = [c] := List.length_eq_one_iff.mp h
theorem chrs_strs : ∀ {ys : List Tr}, (∀ (j : Nat) (y : Tr), ys[j]? = some y → ∃ c, y = Tr.str (chS c)) → ∃ zs : List Str, ys = zs.map Tr.str ∧ (zs.map (·.length)).sum = ys.length ∧ zs.length = ys.length
  | [], _ => ⟨[], rfl, rfl, rfl⟩
  | y :: r, h => by
    obtain ⟨c, rfl⟩ := h 0 y rfl
    obtain ⟨zs, e1, e2, e3⟩ := chrs_strs (ys := r) fun j y hj => h (j + 1) y hj
    refine ⟨chS c :: zs, by rw [e1]; rfl, ?_, by simp [e3]⟩
    rw [List.map_cons, List.sum_cons, e2, List.length_cons]
    show 1 + _ = _
    omega
def spx__law_asked_one (cn : Cn) : Sp2 := A1 fun a M Q _ => ∃ ns, a = scT ns ∧ Script ns ∧ ∀ M', Le M M' → Q (.bl true) M'
def n__law_asked_one : List Str := "script" :: "feed" :: "words" :: "number" :: "errors" :: "turn" :: "made" :: "caught" :: "error" :: "ahead" :: "told" :: "wrong" :: "problem" :: "other" :: []
def bx__law_asked_one_1 (cn : Cn) : TS2 := (sIf (tCm (eOp (rEqG not) (eCall (spx__law_kinds cn) [] (aCons (eVar 6) aNil)) (eLc (iRg1 (aCons (eC (.int 21)) aNil)) (gN 13) tYes2 (eOp (rEqG id) (eVar 5) (eVar 13)) [13]))) (sRt (eC (.bl false))) sNx)
def bx__law_asked_one_2 (cn : Cn) : TS2 := (sSq (sIf (tOrr (tNo (tTr (eB (rIsxD cn.isx) (aCons (eVar 6) (aCons (eC (.loc (cn.ad "MatchError"))) aNil))))) (tNo (tTr (eB (rIsxD cn.isx) (aCons (eVar 6) (aCons (eC (.ty "ValueError")) aNil)))))) (sRt (eC (.bl false))) sNx)
  (bx__law_asked_one_1 cn))
def bx__law_asked_one_3 (cn : Cn) : TS2 := (sDr (eCall (spx_children cn) [] (aCons (eTup (aCons (eTup (aCons (eC (.str "a")) (aCons (eC (.int 0)) aNil))) aNil)) (aCons (eOp rAdd2 (eC (.int 1)) (eCall sp__law_draw [] (aCons (eVar 1) (aCons (eOp rPow2 (eC (.int 10)) (eC (.int 9))) aNil)))) aNil))))
def bx__law_asked_one_4 (cn : Cn) : TS2 := (sAs (eB (rIsxD cn.isx) (aCons (eVar 8) (aCons (eC (.loc (cn.ad "BadNode"))) aNil))) (gN 7))
def bx__law_asked_one_5 (cn : Cn) : TS2 := (sDr (eCall (spx_read_document cn) [] (aCons (eOp rAdd2 (eVar 9) (eC (.str "bc"))) aNil)))
def bx__law_asked_one_6 (cn : Cn) : TS2 := (sAs (eIf (tTr (eVar 10)) (eXf (cn.cl "BadText") "place" (eVar 12)) (eUn rNeg2 (eC (.int 1)))) (gN 11))
def bx__law_asked_one_7 (cn : Cn) : TS2 := (sSq (sAs (eB (rIsxD cn.isx) (aCons (eVar 12) (aCons (eC (.loc (cn.ad "BadText"))) aNil))) (gN 10))
  (bx__law_asked_one_6 cn))
def bx__law_asked_one_8 (cn : Cn) : TS2 := (sRt (eAn (eVar 7) (eAn (eVar 10) (eOp (rEqG id) (eB rReprX (aCons (eVar 11) aNil)) (eB rReprX (aCons (eOp rAdd2 (eB rLen2 (aCons (eVar 9) aNil)) (eC (.int 1))) aNil))))))
def bx__law_asked_one_9 (cn : Cn) : TS2 := (sSq (sTryAs (fun c => cn.ex c (cn.cl "MatchError")) 12 (bx__law_asked_one_5 cn) (bx__law_asked_one_7 cn))
  (bx__law_asked_one_8 cn))
def bx__law_asked_one_10 (cn : Cn) : TS2 := (sSq (sAs (eTup (aCons (eC (.bl false)) (aCons (eUn rNeg2 (eC (.int 1))) aNil))) (gT 2 (gCo (gN 10) (gCo (gN 11) gNil2))))
  (bx__law_asked_one_9 cn))
def bx__law_asked_one_11 (cn : Cn) : TS2 := (sSq (sAs (eOp rMul3 (eC (.str "a ")) (eCall sp__law_draw [] (aCons (eVar 1) (aCons (eC (.int 9)) aNil)))) (gN 9))
  (bx__law_asked_one_10 cn))
def bx__law_asked_one_12 (cn : Cn) : TS2 := (sSq (sTryAs (fun c => cn.ex c (cn.cl "MatchError")) 8 (bx__law_asked_one_3 cn) (bx__law_asked_one_4 cn))
  (bx__law_asked_one_11 cn))
def bx__law_asked_one_13 (cn : Cn) : TS2 := (sSq (sIf (tOrr (tCm (eOp (rEqG not) (eB rReprX (aCons (eXf (cn.cl "BadText") "place" (eOp rIx2 (eVar 4) (eC (.int 3)))) aNil)) (eB rReprX (aCons (eVar 3) aNil)))) (tCm (eOp (rEqG not) (eB rReprX (aCons (eXf (cn.cl "BadText") "place" (eMkIK (cn.cl "BadText") "place" (aCons (eVar 3) aNil))) aNil)) (eB rReprX (aCons (eVar 3) aNil))))) (sRt (eC (.bl false))) sNx)
  (sSq (sAs (eC (.bl false)) (gN 7))
  (bx__law_asked_one_12 cn)))
def bx__law_asked_one_14 (cn : Cn) : TS2 := (sSq (sFo (iEn (aCons (eVar 4) aNil)) (gT 2 (gCo (gN 5) (gCo (gN 6) gNil2))) (bx__law_asked_one_2 cn))
  (bx__law_asked_one_13 cn))
def bx__law_asked_one_15 (cn : Cn) : TS2 := (sSq (sAs (eCall (spx__law_made cn) [] (aCons (eVar 2) (aCons (eVar 3) aNil))) (gN 4))
  (bx__law_asked_one_14 cn))
def bx__law_asked_one_16 (cn : Cn) : TS2 := (sSq (sAs (eCall sp__law_draw [] (aCons (eVar 1) (aCons (eOp rPow2 (eC (.int 10)) (eC (.int 30))) aNil))) (gN 3))
  (bx__law_asked_one_15 cn))
def bx__law_asked_one_17 (cn : Cn) : TS2 := (sSq (sAs (eM1 rJoin2 (eC (.str "")) (eLc (iRg1 (aCons (eCall sp__law_draw [] (aCons (eVar 1) (aCons (eC (.int 12)) aNil))) aNil)) (gN 5) tYes2 (eCall sp__law_one [] (aCons (eVar 1) (aCons (eC (.str "abz X.-1")) aNil))) [5])) (gN 2))
  (bx__law_asked_one_16 cn))
def bx__law_asked_one (cn : Cn) : TS2 := (sSq (sAs (eCall sp__law_feed [] (aCons (eVar 0) (aCons (eC (.int 0)) aNil))) (gN 1))
  (bx__law_asked_one_17 cn))
theorem semx__law_asked_one (cn : Cn) (hx : ExF cn) : ∀ ds M Q E, spx__law_asked_one cn ds M Q E → bx__law_asked_one cn (fEnds Q E) (start2 n__law_asked_one ds) M := by
  rintro ds M Q E ⟨a, rfl, ns, rfl, hs, hq⟩
  have l1 : 1 ≤ sizeLine := small_line (by decide)
  have l2 : 2 ≤ sizeLine := small_line (by decide)
  obtain ⟨x1, x2, x3, x4, _⟩ := hx
  simp only [bx__law_asked_one, start2, n__law_asked_one]
  simp
  refine ⟨_, _, rfl, ns, 0, rfl, rfl, hs, by decide, fun f o hf hF => ?_⟩
  have hf1 : up M f o f = some o := up_same
  have L1 : Le M (up M f o) := Le.new hf
  have hMf := hf
  generalize up M f o = M1 at hf1 L1
  simp only [bx__law_asked_one_17]
  simp
  refine ⟨_, _, rfl, f, 12, _, o, rfl, rfl, by decide, by decide, by decide, hf1, hF, fun r o1 h1 h2 hF1 => ?_⟩
  have k1 : Kf f M1 (up M1 f o1) := Kf.feed
  have hf2 : up M1 f o1 f = some o1 := up_same
  generalize up M1 f o1 = M2 at k1 hf2
  obtain ⟨m, rfl⟩ : ∃ m : Nat, r = m := ⟨r.toNat, by omega⟩
  simp
  refine ⟨rg_small (by omega) (by omega), ?_⟩
  refine lc_fdR (c := 1) (P := fun _ y => ∃ c, y = .str (chS c)) hf2 hF1 (by omega) (fun i M3 o2 KY KN hi K hf3 hF3 hk => ?_) (fun p M3 o2 ys hp K hf3 hF3 ep hl hy => ?_)
  · simp [wipe2]
    have e9 : (("abz X.-1" : Str)).cps.toList = [97, 98, 122, 32, 88, 46, 45, 49] := by decide
    refine ⟨_, _, rfl, f, (("abz X.-1" : Str)).cps.toList.map (fun k => .str ⟨#[k]⟩), _, o2, rfl, by rw [lenT_str' (small_line (by decide))]; rfl, rfl, (fun e => by cases e), by rw [e9]; decide, by rw [e9]; decide, by omega, hf3, hF3, fun r1 o3 hr hF4 => ?_⟩
    obtain ⟨ch, hch, rfl⟩ := List.mem_map.mp hr
    exact hk _ _ o3 ⟨ch, rfl⟩ Kf.feed up_same (by simpa [Nat.add_assoc] using hF4)
  obtain ⟨zs, e1, e2, e3⟩ := chrs_strs hy
  subst e1
  show rJoin2 _ _ _ _
  rw [rJoin2_ap]
  refine ⟨zs, seqT_lst ep, by show _ + zs.length * 0 ≤ _; omega, ?_⟩
  simp only [bx__law_asked_one_16]
  simp [cpow30]
  refine ⟨_, _, rfl, f, 1000000000000000000000000000000, _, o2, rfl, rfl, by decide, by decide, by omega, hf3, hF3, fun i o3 i1 i2 hF4 => ?_⟩
  have k3 : Kf f M3 (up M3 f o3) := Kf.feed
  have hf4 : up M3 f o3 f = some o3 := up_same
  generalize up M3 f o3 = M4 at k3 hf4
  have hi : i.natAbs.log2 < 1920 := by
    by_cases cz : i.natAbs = 0
    · rw [cz]; decide
    · have : i.natAbs < 2 ^ 100 := by omega
      have := (Nat.log2_lt cz).mpr this
      omega
  simp only [bx__law_asked_one_15]
  simp
  refine ⟨_, _, rfl, _, i, rfl, rfl, fun as pe M5 L5 epe hal has ⟨e, dx, he3, hex, hxd⟩ => ?_⟩
  have hf5 := L5 _ _ hf4
  simp only [bx__law_asked_one_14]
  simp [epe]
  have L05 : Kf f M M5 := (((L1.kf.trans k1).trans K).trans k3).trans L5.kf
  refine for_itE (fun j σ M' => ∃ (x5 x6 x13 : Option Tr), σ = [some (scT ns), some (.loc f), some (.str (Txt.join "" zs)), some (.int i), some (.loc pe), x5, x6, none, none, none, none, none, none, x13] ∧ Le M5 M')
    ⟨_, _, _, rfl, Le.refl⟩ (fun j σ M' hj h => ?_) (fun j z σ M' hz h => ?_) (fun σ M' h => ?_)
  · obtain ⟨x5, x6, x13, rfl, L6⟩ := h
    exact seqT_lst (L6 _ _ epe)
  · obtain ⟨x5, x6, x13, rfl, L6⟩ := h
    rw [List.getElem?_map] at hz
    obtain ⟨ea, haj, rfl⟩ := Option.map_eq_some_iff.mp hz
    have hj21 : j < 21 := by have := (List.getElem?_eq_some_iff.mp haj).1; omega
    obtain ⟨y, hy2, hE⟩ := has j ea haj
    have hE6 := hE.le L6
    have f1 := (x4 j j y y hy2 hy2).2
    simp
    refine nx_cut fun NX hN => ?_
    simp only [bx__law_asked_one_2]
    simp
    refine hE6.s f1.1 ?_
    simp
    refine hE6.sT f1.2 ?_
    simp
    simp only [bx__law_asked_one_1]
    simp
    refine ⟨_, rfl, ea, j, y, rfl, hy2, hE6, fun pk M7 L7 epk => ?_⟩
    simp
    refine ⟨rg_small (by decide) (by decide), fun pz hpz => lc_fmR (fun k => some (.bl (decide ((j : Int) = (k : Nat))))) (by decide) ?_ ?_⟩
    rotate_left
    · intro k M8 hk fr KY KN q1 q2
      simp [wipe2]
      exact q1 _ rfl
    rw [fm_all]
    have L8 : Le M7 (up M7 pz (.lst ((List.range 21).map fun k => .bl (decide ((j : Int) = (k : Nat)))))) := Le.new hpz
    have e8 : up M7 pz (.lst ((List.range 21).map fun k => .bl (decide ((j : Int) = (k : Nat))))) pz = some (.lst ((List.range 21).map fun k => .bl (decide ((j : Int) = (k : Nat))))) := up_same
    generalize up M7 pz (.lst ((List.range 21).map fun k => .bl (decide ((j : Int) = (k : Nat))))) = M8 at L8 e8
    have eq2 : ((List.range 21).map fun k => Tr.bl (decide ((j : Int) = (k : Nat)))) = (List.range 21).map fun k => .bl (j == k) := by
      refine List.map_congr_left fun k _ => ?_
      by_cases c : j = k
      · simp [c]
      · have : ¬ ((j : Int) = (k : Int)) := by omega
        simp [c, this]
    rw [eq2] at e8
    show rEqG _ _ _ _ _
    simp
    refine eqS_bls hj21 (L8 _ _ epk) e8 ?_
    simp
    exact hN _ _ ⟨⟨_, _, _, rfl⟩, (L6.trans L7).trans L8⟩
  obtain ⟨x5, x6, x13, rfl, L6⟩ := h
  have hf6 := L6 _ _ hf5
  simp only [bx__law_asked_one_13]
  have ee : (as.map Tr.loc)[3]? = some (.loc e) := by rw [List.getElem?_map, he3]; rfl
  simp [L6 _ _ epe]
  refine (kAt_get (i := 3) ee).mpr ?_
  refine ⟨e, dx, .int i, rfl, L6 _ _ hex, L6 _ _ hxd, ?_⟩
  refine text_intQ hi ?_
  simp
  refine text_intQ hi ?_
  simp
  refine newEI_cut fun a2 dx2 M7 L7 ea2 ed2 => ?_
  refine ⟨a2, dx2, .int i, rfl, ea2, ed2, ?_⟩
  refine text_intQ hi ?_
  simp
  refine text_intQ hi ?_
  simp
  have hf7 := L7 _ _ hf6
  simp only [bx__law_asked_one_12]
  refine seq_cut (fun σ M' => ∃ (o' : MO) (n' : Nat), σ = [some (scT ns), some (.loc f), some (.str (Txt.join "" zs)), some (.int i), some (.loc pe), x5, x6, some (.bl true), none, none, none, none, none, x13] ∧ Kf f M7 M' ∧ M' f = some o' ∧ FeedO n' o' ∧ n' ≤ 10000) ?_ ?_
  · intro NX hN
    simp
    simp only [bx__law_asked_one_3]
    simp [l1, l2, cpow9]
    refine ⟨_, _, rfl, f, 1000000000, _, o3, rfl, rfl, by decide, by decide, by omega, hf7, hF4, fun r o4 h3 h4 hF5 => ?_⟩
    have k8 : Kf f M7 (up M7 f o4) := Kf.feed
    have hf8 : up M7 f o4 f = some o4 := up_same
    generalize up M7 f o4 = M8 at k8 hf8
    simp
    have hv1 : Val [("a", 0)] := ⟨⟨by decide +kernel, Nat.le_refl _, trivial⟩, by decide⟩
    refine ⟨_, _, rfl, wf_docQ hv1, .inr ⟨[("a", 0)], rfl, hv1, ⟨"int", rfl⟩, .inl ⟨rfl, ?_, ?_⟩⟩⟩
    · simp
      omega
    refine .inr ⟨x1, fun a ha => ?_⟩
    have L9 : Le M8 (up M8 a (.exc (cn.cl "BadNode") none)) := Le.new ha
    have e9 : up M8 a (.exc (cn.cl "BadNode") none) a = some (.exc (cn.cl "BadNode") none) := up_same
    generalize up M8 a (.exc (cn.cl "BadNode") none) = M9 at L9 e9
    simp only [bx__law_asked_one_4]
    simp
    refine (ErrAt.one e9).s (x4 1 1 "BadNode" "BadNode" rfl rfl).1 ?_
    simp
    exact hN _ _ ⟨o4, _, rfl, k8.trans L9.kf, L9 _ _ hf8, hF5, by omega⟩
  rintro σ M8 ⟨o4, n4, rfl, k8, hf8, hF8, hn4⟩
  simp only [bx__law_asked_one_11]
  simp
  refine ⟨_, _, rfl, f, 9, _, o4, rfl, rfl, by decide, by decide, by omega, hf8, hF8, fun r o5 h3 h4 hF9 => ?_⟩
  have k9 : Kf f M8 (up M8 f o5) := Kf.feed
  have hf9 : up M8 f o5 f = some o5 := up_same
  generalize up M8 f o5 = M9 at k9 hf9
  obtain ⟨m2, rfl⟩ : ∃ m : Nat, r = m := ⟨r.toNat, by omega⟩
  have lz : (repS "a " m2).length ≤ 20 := by
    rw [repS_len]
    have : (("a " : Str)).length = 2 := by decide
    rw [this]; omega
  have hfin := finQ m2 (by omega)
  have lz2 : (repS "a " m2 ++ ("bc" : Str)).length ≤ 100 := by
    rw [strLen_append]
    have : (("bc" : Str)).length = 2 := by decide
    omega
  have e2 : (("a " : Str)).length ≤ 8 := by decide
  simp [e2]
  refine ⟨by omega, ?_⟩
  generalize repS "a " m2 = ah at lz hfin lz2
  simp only [bx__law_asked_one_10]
  simp
  simp only [bx__law_asked_one_9]
  refine seq_cut (fun σ M' => ∃ x12, σ = [some (scT ns), some (.loc f), some (.str (Txt.join "" zs)), some (.int i), some (.loc pe), x5, x6, some (.bl true), none, some (.str ah), some (.bl true), some (.int ((ah.length + 1 : Nat) : Int)), x12, x13] ∧ Kf f M9 M') ?_ ?_
  · intro NX hN
    simp
    simp only [bx__law_asked_one_5]
    simp
    refine ⟨by rw [strLen_append] at lz2; rw [sizeLine_eq]; omega, ?_⟩
    refine ⟨_, rfl, .inl ⟨_, rfl, by omega, ?_⟩⟩
    rw [hfin]
    intro dx3 hdx3
    refine .inr ⟨x2, fun a ha => ?_⟩
    have L9 : Le M9 (up M9 dx3 (.xd [("place", .int ((ah.length + 1 : Nat) : Int))])) := Le.new hdx3
    have e9 : up M9 dx3 (.xd [("place", .int ((ah.length + 1 : Nat) : Int))]) dx3 = some (.xd [("place", .int ((ah.length + 1 : Nat) : Int))]) := up_same
    generalize up M9 dx3 (.xd [("place", .int ((ah.length + 1 : Nat) : Int))]) = M10 at L9 e9 ha
    have L10 : Le M10 (up M10 a (.exc (cn.cl "BadText") (some dx3))) := Le.new ha
    have e10 : up M10 a (.exc (cn.cl "BadText") (some dx3)) a = some (.exc (cn.cl "BadText") (some dx3)) := up_same
    generalize up M10 a (.exc (cn.cl "BadText") (some dx3)) = M11 at L10 e10
    simp only [bx__law_asked_one_7]
    simp
    refine (ErrAt.two e10 (L10 _ _ e9)).s (x4 3 3 "BadText" "BadText" rfl rfl).1 ?_
    simp
    simp only [bx__law_asked_one_6]
    simp
    refine ⟨a, dx3, _, rfl, e10, L10 _ _ e9, ?_⟩
    exact hN _ _ ⟨_, rfl, (L9.trans L10).kf⟩
  rintro σ M10 ⟨x12, rfl, k10⟩
  simp only [bx__law_asked_one_8]
  simp
  refine text_intQ (small_log (by omega)) ?_
  simp
  have zl : ah.length ≤ sizeLine := by rw [sizeLine_eq]; omega
  simp [↓kL_str zl]
  refine text_intQ (i := (ah.length : Int) + 1) (small_log (by omega)) ?_
  simp
  exact Fg.same (hq _ (Kf.up hMf ((((L05.trans L6.kf).trans L7.kf).trans k8).trans (k9.trans k10))))
def n_law : List Str := "script" :: []
def bx_law (cn : Cn) : TS2 := (sRt (eAn (eCall (spx__law_asked_one cn) [] (aCons (eVar 0) aNil)) (eCall (spx__law_asked_two cn) [] (aCons (eVar 0) aNil))))
theorem semx_law (cn : Cn) : ∀ ds M Q E, spLaw ds M Q E → bx_law cn (fEnds Q E) (start2 n_law ds) M := by
  rintro ds M Q E ⟨ns, rfl, hl, hb, hq⟩
  simp only [bx_law, start2, n_law]
  simp
  refine ⟨_, rfl, ns, rfl, ⟨hl, hb⟩, fun M1 L1 => ?_⟩
  simp
  exact ⟨_, rfl, ns, rfl, ⟨hl, hb⟩, fun M2 L2 => Fg.same (hq _)⟩
end T

namespace G
open PySem PySem.Spec PyProof.Rows L2 T
section
variable {P : Program} {w : World} {K : PySem.W.Frag} {mg : Str → Option Value} {base h : Heap}
theorem ini0_BadText (X : K.In h) (G : h.Ns mainGlobals mg) (c : SaysM fa fn fb K) : IniF P w K mg base 2 "BadText" (He.ga K "BadText") "place" := by
  obtain ⟨fd, F⟩ := c.d.def_ 30 (d := di_BadText) rfl
  have T := initB_ok (c.fb 0 (f := .ini "BadText" "MatchError" "place") rfl)
  have oD := He.glo_ok X G (c.d.fact 43 (f := .glo "MatchError") rfl)
  refine iniF_of (m := "no text of a value goes on like this") (He.glo_ok X G (c.d.fact 50 (f := .glo "BadText") rfl)) F ⟨rfl, rfl, rfl, by decide +kernel, rfl, by decide +kernel, by decide +kernel⟩ T (F.bindsN fun _ _ _ _ _ _ us hl => match us, hl with | [_, _], _ => rfl) ?_
  intro cdv A outer s H E
  exact pss_cons (ps_expr (pe_meinit rfl oD T.gD T.rD T.vD (pa_cons (pe_var rfl (.inl rfl)) (pa_cons pe_str pa_nil)))) (pss_one (ps_ost (pe_var rfl (.inl rfl)) (pe_var rfl (.inl rfl))))
theorem inik0_BadText (X : K.In h) (G : h.Ns mainGlobals mg) (c : SaysM fa fn fb K) : IniK P w K mg base 2 "BadText" (He.ga K "BadText") "place" := by
  obtain ⟨fd, F⟩ := c.d.def_ 30 (d := di_BadText) rfl
  have T := initB_ok (c.fb 0 (f := .ini "BadText" "MatchError" "place") rfl)
  have oD := He.glo_ok X G (c.d.fact 43 (f := .glo "MatchError") rfl)
  refine iniK_of (m := "no text of a value goes on like this") (He.glo_ok X G (c.d.fact 50 (f := .glo "BadText") rfl)) F ⟨rfl, rfl, rfl, by decide +kernel, rfl, by decide +kernel, by decide +kernel⟩ T (kbt_gK [0] F fun _ _ _ _ _ _ us ws hl hw => match us, ws, hl, hw with | [_], [_], _, _ => rfl) ?_
  intro cdv A outer s H E
  exact pss_cons (ps_expr (pe_meinit rfl oD T.gD T.rD T.vD (pa_cons (pe_var rfl (.inl rfl)) (pa_cons pe_str pa_nil)))) (pss_one (ps_ost (pe_var rfl (.inl rfl)) (pe_var rfl (.inl rfl))))
theorem sc_is_integer : FnScope n_is_integer ["thing"] (defScope (top 26)) := ⟨rfl, rfl, rfl, by decide +kernel, rfl, by decide +kernel, by decide +kernel⟩
theorem ok_is_integer (X : K.In h) (G : h.Ns mainGlobals mg) (c : SaysM fa fn fb K) : OkF P w K mg base 1 "is_integer" ["thing"] [] (sp_is_integer) := by
  obtain ⟨fd, F⟩ := c.d.def_ 0 (d := d_is_integer) rfl
  have m_bool := He.free_ok X G (c.d.fact 31 (f := .free "bool") rfl)
  have m_int := He.free_ok X G (c.d.fact 33 (f := .free "int") rfl)
  have m_isinstance := He.free_ok X G (c.d.fact 34 (f := .free "isinstance") rfl)
  refine okF_of F (He.glo_ok X G (c.d.fact 0 (f := .glo "is_integer") rfl)) (F.bindsN fun _ _ _ _ _ _ us hl => match us, hl with | [_], _ => rfl) sc_is_integer len1 (sem_is_integer) ?_
  intro cdv A outer s H E hr hgd tk hl hp
  have nd := (sc_is_integer).nd
  have hu := hu_of hr
  have hu64 := room_hu64 hr
  have hu65 := room_hu65 hr
  exact (qss_one (qs_ret (qe_and (qe_callB b_isi m_isinstance bt_isinstance (qa_cons (qv 0) (qa_cons (qe_bltn (.ty "int") (.ty "int") m_int bt_int rfl fun _ => rfl) qa_nil))) (qe_one (qe_not (qe_callB b_isi m_isinstance bt_isinstance (qa_cons (qv 0) (qa_cons (qe_bltn (.ty "bool") (.ty "bool") m_bool bt_bool rfl fun _ => rfl) qa_nil))))))))
theorem sc_is_below : FnScope n_is_below ["thing", "bound"] (defScope (top 27)) := ⟨rfl, rfl, rfl, by decide +kernel, rfl, by decide +kernel, by decide +kernel⟩
theorem ok_is_below (X : K.In h) (G : h.Ns mainGlobals mg) (c : SaysM fa fn fb K) : OkF P w K mg base 2 "is_below" ["thing", "bound"] [] (sp_is_below) := by
  obtain ⟨fd, F⟩ := c.d.def_ 1 (d := d_is_below) rfl
  have c_is_integer := ok_is_integer (P := P) (w := w) (base := base) X G c
  refine okF_of F (He.glo_ok X G (c.d.fact 1 (f := .glo "is_below") rfl)) (F.bindsN fun _ _ _ _ _ _ us hl => match us, hl with | [_, _], _ => rfl) sc_is_below len2 (sem_is_below) ?_
  intro cdv A outer s H E hr hgd tk hl hp
  have nd := (sc_is_below).nd
  have hu := hu_of hr
  have hu64 := room_hu64 hr
  have hu65 := room_hu65 hr
  exact (qss_one (qs_ret (qe_and (q_call c_is_integer (hr.mono (by first | decide | omega)) hgd hl (qa_cons (qv 0) qa_nil)) (qe_one (q_chain (pe_chain o_leI o_ltI qe_int (qv 0) (qv 1)))))))
theorem sc_is_mark : FnScope n_is_mark ["thing"] (defScope (top 28)) := ⟨rfl, rfl, rfl, by decide +kernel, rfl, by decide +kernel, by decide +kernel⟩
theorem ok_is_mark (X : K.In h) (G : h.Ns mainGlobals mg) (c : SaysM fa fn fb K) : OkF P w K mg base 1 "is_mark" ["thing"] [] (sp_is_mark) := by
  obtain ⟨fd, F⟩ := c.d.def_ 2 (d := d_is_mark) rfl
  have m_isinstance := He.free_ok X G (c.d.fact 34 (f := .free "isinstance") rfl)
  have m_len := He.free_ok X G (c.d.fact 35 (f := .free "len") rfl)
  have m_str := He.free_ok X G (c.d.fact 40 (f := .free "str") rfl)
  obtain ⟨_, g_MARKS⟩ := He.str_ok X G (c.d.fact 88 (f := .str "MARKS" "abcdefgh") rfl)
  refine okF_of F (He.glo_ok X G (c.d.fact 2 (f := .glo "is_mark") rfl)) (F.bindsN fun _ _ _ _ _ _ us hl => match us, hl with | [_], _ => rfl) sc_is_mark len1 (sem_is_mark) ?_
  intro cdv A outer s H E hr hgd tk hl hp
  have nd := (sc_is_mark).nd
  have hu := hu_of hr
  have hu64 := room_hu64 hr
  have hu65 := room_hu65 hr
  exact (qss_one (qs_ret (qe_and (qe_callB b_isi m_isinstance bt_isinstance (qa_cons (qv 0) (qa_cons (qe_bltn (.ty "str") (.ty "str") m_str bt_str rfl fun _ => rfl) qa_nil))) (qe_and (qe_cmp (o_eq hu64) (qe_callB b_len m_len bt_len (qa_cons (qv 0) qa_nil)) qe_int) (qe_one (qe_cmp (o_inX hu65) (qv 0) (qe_glob (.str "abcdefgh") (.str "abcdefgh") g_MARKS ⟨_, rfl⟩ fun _ => rfl)))))))
theorem sc_forest_in : FnScope n_forest_in ["text"] (defScope (top 30)) := ⟨rfl, rfl, rfl, by decide +kernel, rfl, by decide +kernel, by decide +kernel⟩
theorem ok_forest_in (X : K.In h) (G : h.Ns mainGlobals mg) (c : SaysM fa fn fb K) : OkF P w K mg base 4 "forest_in" ["text"] [] (spx_forest_in (cnOf K)) := by
  obtain ⟨fd, F⟩ := c.d.def_ 3 (d := d_forest_in) rfl
  have T_BadText := initB_ok (c.fb 0 (f := .ini "BadText" "MatchError" "place") rfl)
  have ini_BadText := ini0_BadText (P := P) (w := w) (base := base) X G c
  have m_enumerate := He.free_ok X G (c.d.fact 32 (f := .free "enumerate") rfl)
  have m_len := He.free_ok X G (c.d.fact 35 (f := .free "len") rfl)
  have m_tuple := He.free_ok X G (c.d.fact 42 (f := .free "tuple") rfl)
  obtain ⟨_, g_MOST_NODES⟩ := He.int_ok X G (c.d.fact 89 (f := .int "MOST_NODES" 20000) rfl)
  obtain ⟨_, g_MARKS⟩ := He.str_ok X G (c.d.fact 88 (f := .str "MARKS" "abcdefgh") rfl)
  refine okF_of F (He.glo_ok X G (c.d.fact 3 (f := .glo "forest_in") rfl)) (F.bindsN fun _ _ _ _ _ _ us hl => match us, hl with | [_], _ => rfl) sc_forest_in len1 (semx_forest_in (cnOf K)) ?_
  intro cdv A outer s H E hr hgd tk hl hp
  have nd := (sc_forest_in).nd
  have hu := hu_of hr
  have hu64 := room_hu64 hr
  have hu65 := room_hu65 hr
  exact (qss_cons (qs_set nd (qe_lst qa_nil)) (qss_cons (qs_set nd qe_int) (qss_cons (qs_set nd qe_str) (qss_cons (qs_for hp rfl (qi_enumS m_enumerate (qa_cons (qv 0) qa_nil)) (qg_tup rfl (qgs_cons (qg_name nd) (qgs_cons (qg_name nd) qgs_nil))) (qss_cons (qs_if (QW.pt (qw_or (qt_cmp (o_eq hu64) (qv 3) qe_str) (qw_or1 (qt_cmp (o_eq hu64) (qv 3) qe_str)))) (qss_cons (qs_set nd (qe_cmp (o_inX hu65) (qv 5) (qe_glob (.str "abcdefgh") (.str "abcdefgh") g_MARKS ⟨_, rfl⟩ fun _ => rfl))) (qss_one (qs_expr (q_bm (pe_bm PySem.F.plainAttrs_list PySem.F.slot_list_append PySem.F.type_list_append m_append (qv 1) (qa_cons (qe_tup (qa_cons (qv 5) (qa_cons (qv 2) qa_nil))) qa_nil)))))) (qss_one (qs_if (qt_cmp (o_eq hu64) (qv 5) qe_str) (qss_cons (qs_set nd (qe_cmp (o_ne hu64) (qv 3) qe_str)) (qss_one (qs_aug nd qe_int i_add))) (qss_one (qs_if (qt_cmp (o_eq hu64) (qv 5) qe_str) (qss_cons (qs_set nd (qe_cmp o_gtI (qv 2) qe_int)) (qss_one (qs_aug nd qe_int i_sub))) (qss_one (qs_set nd (qe_cmp (o_eq hu64) (qv 5) qe_str)))))))) (qss_cons (qs_if (qt_not (qt_tru (qv 6))) (qss_one (qs_raiseI rfl tk ini_BadText (hr.mono (by first | decide | omega)) (qv 4))) qss_nil) (qss_one (qs_set nd (qv 5)))))) (qss_cons (qs_if (QW.pt (qw_or (QW.pt (qw_and (qt_cmp (o_ne hu64) (qv 0) qe_str) (qw_and1 (QW.pt (qw_or (qt_cmp (o_eq hu64) (qv 3) qe_str) (qw_or1 (qt_cmp o_gtI (qv 2) qe_int))))))) (qw_or1 (qt_cmp o_gtI (qe_callB b_len m_len bt_len (qa_cons (qv 1) qa_nil)) (qe_glob (.int 20000) (.int 20000) g_MOST_NODES ⟨_, rfl⟩ fun _ => rfl))))) (qss_one (qs_raiseI rfl tk ini_BadText (hr.mono (by first | decide | omega)) (qe_callB b_len m_len bt_len (qa_cons (qv 0) qa_nil)))) qss_nil) (qss_one (qs_ret (qe_callTy b_tuple m_tuple bt_tuple (qa_cons (qv 1) qa_nil)))))))))
theorem sc_is_forest : FnScope n_is_forest ["thing"] (defScope (top 32)) := ⟨rfl, rfl, rfl, by decide +kernel, rfl, by decide +kernel, by decide +kernel⟩
theorem ok_is_forest (X : K.In h) (G : h.Ns mainGlobals mg) (c : SaysM fa fn fb K) : OkF P w K mg base 3 "is_forest" ["thing"] [] (sp_is_forest) := by
  obtain ⟨fd, F⟩ := c.d.def_ 4 (d := d_is_forest) rfl
  have c_is_below := ok_is_below (P := P) (w := w) (base := base) X G c
  have c_is_mark := ok_is_mark (P := P) (w := w) (base := base) X G c
  have m_isinstance := He.free_ok X G (c.d.fact 34 (f := .free "isinstance") rfl)
  have m_len := He.free_ok X G (c.d.fact 35 (f := .free "len") rfl)
  have m_tuple := He.free_ok X G (c.d.fact 42 (f := .free "tuple") rfl)
  obtain ⟨_, g_MOST_NODES⟩ := He.int_ok X G (c.d.fact 89 (f := .int "MOST_NODES" 20000) rfl)
  refine okF_of F (He.glo_ok X G (c.d.fact 4 (f := .glo "is_forest") rfl)) (F.bindsN fun _ _ _ _ _ _ us hl => match us, hl with | [_], _ => rfl) sc_is_forest len1 (sem_is_forest) ?_
  intro cdv A outer s H E hr hgd tk hl hp
  have nd := (sc_is_forest).nd
  have hu := hu_of hr
  have hu64 := room_hu64 hr
  have hu65 := room_hu65 hr
  exact (qss_cons (qs_if (QW.pt (qw_or (qt_not (qt_tru (qe_callB b_isi m_isinstance bt_isinstance (qa_cons (qv 0) (qa_cons (qe_bltn (.ty "tuple") (.ty "tuple") m_tuple bt_tuple rfl fun _ => rfl) qa_nil))))) (qw_or1 (qt_cmp o_gtI (qe_callB b_len m_len bt_len (qa_cons (qv 0) qa_nil)) (qe_glob (.int 20000) (.int 20000) g_MOST_NODES ⟨_, rfl⟩ fun _ => rfl))))) (qss_one (qs_ret qe_bl)) qss_nil) (qss_cons (qs_set nd qe_int) (qss_cons (qs_for hp rfl (qi_any (qv 0)) (qg_name nd) (qss_cons (qs_if (QW.pt (qw_or (qt_not (qt_tru (qe_callB b_isi m_isinstance bt_isinstance (qa_cons (qv 2) (qa_cons (qe_bltn (.ty "tuple") (.ty "tuple") m_tuple bt_tuple rfl fun _ => rfl) qa_nil))))) (qw_or1 (qt_cmp (o_ne hu64) (qe_callB b_len m_len bt_len (qa_cons (qv 2) qa_nil)) qe_int)))) (qss_one (qs_ret qe_bl)) qss_nil) (qss_cons (qs_if (QW.pt (qw_or (qt_not (qt_tru (q_call c_is_mark (hr.mono (by first | decide | omega)) hgd hl (qa_cons (qe_ix (qv 2) qe_int) qa_nil)))) (qw_or1 (qt_not (qt_tru (q_call c_is_below (hr.mono (by first | decide | omega)) hgd hl (qa_cons (qe_ix (qv 2) qe_int) (qa_cons (qe_op o_add (qv 1) qe_int) qa_nil)))))))) (qss_one (qs_ret qe_bl)) qss_nil) (qss_one (qs_set nd (qe_op o_add (qe_ix (qv 2) qe_int) qe_int)))))) (qss_one (qs_ret qe_bl)))))
theorem sc_need_document : FnScope n_need_document ["document"] (defScope (top 33)) := ⟨rfl, rfl, rfl, by decide +kernel, rfl, by decide +kernel, by decide +kernel⟩
theorem ok_need_document (X : K.In h) (G : h.Ns mainGlobals mg) (c : SaysM fa fn fb K) : OkF P w K mg base 4 "need_document" ["document"] [] (spx_need_document (cnOf K)) := by
  obtain ⟨fd, F⟩ := c.d.def_ 5 (d := d_need_document) rfl
  have c_is_forest := ok_is_forest (P := P) (w := w) (base := base) X G c
  have e_BadDocument := He.exc_ok (c.d.fact 45 (f := .exc "BadDocument") rfl)
  have o_BadDocument := He.glo_ok X G (c.d.fact 44 (f := .glo "BadDocument") rfl)
  refine okF_of F (He.glo_ok X G (c.d.fact 5 (f := .glo "need_document") rfl)) (F.bindsN fun _ _ _ _ _ _ us hl => match us, hl with | [_], _ => rfl) sc_need_document len1 (semx_need_document (cnOf K)) ?_
  intro cdv A outer s H E hr hgd tk hl hp
  have nd := (sc_need_document).nd
  have hu := hu_of hr
  have hu64 := room_hu64 hr
  have hu65 := room_hu65 hr
  exact (qss_one (qs_if (qt_not (qt_tru (q_call c_is_forest (hr.mono (by first | decide | omega)) hgd hl (qa_cons (qv 0) qa_nil)))) (qss_one (qs_raise rfl tk e_BadDocument o_BadDocument)) qss_nil))
theorem sc_need_node : FnScope n_need_node ["document", "node"] (defScope (top 34)) := ⟨rfl, rfl, rfl, by decide +kernel, rfl, by decide +kernel, by decide +kernel⟩
theorem ok_need_node (X : K.In h) (G : h.Ns mainGlobals mg) (c : SaysM fa fn fb K) : OkF P w K mg base 3 "need_node" ["document", "node"] [] (spx_need_node (cnOf K)) := by
  obtain ⟨fd, F⟩ := c.d.def_ 6 (d := d_need_node) rfl
  have c_is_below := ok_is_below (P := P) (w := w) (base := base) X G c
  have e_BadNode := He.exc_ok (c.d.fact 47 (f := .exc "BadNode") rfl)
  have m_len := He.free_ok X G (c.d.fact 35 (f := .free "len") rfl)
  have o_BadNode := He.glo_ok X G (c.d.fact 46 (f := .glo "BadNode") rfl)
  refine okF_of F (He.glo_ok X G (c.d.fact 6 (f := .glo "need_node") rfl)) (F.bindsN fun _ _ _ _ _ _ us hl => match us, hl with | [_, _], _ => rfl) sc_need_node len2 (semx_need_node (cnOf K)) ?_
  intro cdv A outer s H E hr hgd tk hl hp
  have nd := (sc_need_node).nd
  have hu := hu_of hr
  have hu64 := room_hu64 hr
  have hu65 := room_hu65 hr
  exact (qss_one (qs_if (qt_not (qt_tru (q_call c_is_below (hr.mono (by first | decide | omega)) hgd hl (qa_cons (qv 1) (qa_cons (qe_callB b_len m_len bt_len (qa_cons (qv 0) qa_nil)) qa_nil))))) (qss_one (qs_raise rfl tk e_BadNode o_BadNode)) qss_nil))
theorem sc_parents_of : FnScope n_parents_of ["document"] (defScope (top 35)) := ⟨rfl, rfl, rfl, by decide +kernel, rfl, by decide +kernel, by decide +kernel⟩
theorem ok_parents_of (X : K.In h) (G : h.Ns mainGlobals mg) (c : SaysM fa fn fb K) : OkF P w K mg base 1 "parents_of" ["document"] [] (sp_parents_of) := by
  obtain ⟨fd, F⟩ := c.d.def_ 7 (d := d_parents_of) rfl
  have m_enumerate := He.free_ok X G (c.d.fact 32 (f := .free "enumerate") rfl)
  have m_len := He.free_ok X G (c.d.fact 35 (f := .free "len") rfl)
  refine okF_of F (He.glo_ok X G (c.d.fact 7 (f := .glo "parents_of") rfl)) (F.bindsN fun _ _ _ _ _ _ us hl => match us, hl with | [_], _ => rfl) sc_parents_of len1 (sem_parents_of) ?_
  intro cdv A outer s H E hr hgd tk hl hp
  have nd := (sc_parents_of).nd
  have hu := hu_of hr
  have hu64 := room_hu64 hr
  have hu65 := room_hu65 hr
  exact (qss_cons (qs_set nd (qe_lst qa_nil)) (qss_cons (qs_set nd (qe_lst qa_nil)) (qss_cons (qs_for hp rfl (qi_enum m_enumerate (qa_cons (qv 0) qa_nil)) (qg_tup rfl (qgs_cons (qg_name nd) (qgs_cons (qg_tup rfl (qgs_cons (qg_name nd) (qgs_cons (qg_name nd) qgs_nil))) qgs_nil))) (qss_cons (qs_while hp (qt_cmp o_gtI (qe_callB b_len m_len bt_len (qa_cons (qv 2) qa_nil)) (qv 5)) (qss_one (qs_expr (q_bm0 (pe_bm0 PySem.F.plainAttrs_list PySem.F.slot_list_pop PySem.F.type_list_pop m_pop (qv 2)))))) (qss_cons (qs_expr (q_bm (pe_bm PySem.F.plainAttrs_list PySem.F.slot_list_append PySem.F.type_list_append m_append (qv 1) (qa_cons (qe_if (qt_cmp o_gtI (qv 5) qe_int) (qe_ix (qv 2) (qe_un o_neg qe_int)) qe_non) qa_nil)))) (qss_one (qs_expr (q_bm (pe_bm PySem.F.plainAttrs_list PySem.F.slot_list_append PySem.F.type_list_append m_append (qv 2) (qa_cons (qv 3) qa_nil)))))))) (qss_one (qs_ret (qv 1))))))
theorem sc_end_of : FnScope n_end_of ["document", "node"] (defScope (top 36)) := ⟨rfl, rfl, rfl, by decide +kernel, rfl, by decide +kernel, by decide +kernel⟩
theorem ok_end_of (X : K.In h) (G : h.Ns mainGlobals mg) (c : SaysM fa fn fb K) : OkF P w K mg base 1 "end_of" ["document", "node"] [] (sp_end_of) := by
  obtain ⟨fd, F⟩ := c.d.def_ 8 (d := d_end_of) rfl
  have m_len := He.free_ok X G (c.d.fact 35 (f := .free "len") rfl)
  refine okF_of F (He.glo_ok X G (c.d.fact 8 (f := .glo "end_of") rfl)) (F.bindsN fun _ _ _ _ _ _ us hl => match us, hl with | [_, _], _ => rfl) sc_end_of len2 (sem_end_of) ?_
  intro cdv A outer s H E hr hgd tk hl hp
  have nd := (sc_end_of).nd
  have hu := hu_of hr
  have hu64 := room_hu64 hr
  have hu65 := room_hu65 hr
  exact (qss_cons (qs_set nd (qe_op o_add (qv 1) qe_int)) (qss_cons (qs_while hp (QW.pt (qw_and (qt_cmp o_ltI (qv 2) (qe_callB b_len m_len bt_len (qa_cons (qv 0) qa_nil))) (qw_and1 (qt_cmp o_gtI (qe_ix (qe_ix (qv 0) (qv 2)) qe_int) (qe_ix (qe_ix (qv 0) (qv 1)) qe_int))))) (qss_one (qs_aug nd qe_int i_add))) (qss_one (qs_ret (qv 2)))))
theorem sc_row_of : FnScope n_row_of ["document", "node"] (defScope (top 37)) := ⟨rfl, rfl, rfl, by decide +kernel, rfl, by decide +kernel, by decide +kernel⟩
theorem ok_row_of (X : K.In h) (G : h.Ns mainGlobals mg) (c : SaysM fa fn fb K) : OkF P w K mg base 2 "row_of" ["document", "node"] [] (sp_row_of) := by
  obtain ⟨fd, F⟩ := c.d.def_ 9 (d := d_row_of) rfl
  have c_end_of := ok_end_of (P := P) (w := w) (base := base) X G c
  have m_enumerate := He.free_ok X G (c.d.fact 32 (f := .free "enumerate") rfl)
  have m_range := He.free_ok X G (c.d.fact 38 (f := .free "range") rfl)
  refine okF_of F (He.glo_ok X G (c.d.fact 9 (f := .glo "row_of") rfl)) (F.bindsN fun _ _ _ _ _ _ us hl => match us, hl with | [_, _], _ => rfl) sc_row_of len2 (sem_row_of) ?_
  intro cdv A outer s H E hr hgd tk hl hp
  have nd := (sc_row_of).nd
  have hu := hu_of hr
  have hu64 := room_hu64 hr
  have hu65 := room_hu65 hr
  exact (qss_cons (qs_if (qt_cmp o_is (qv 1) qe_non) (qss_one (qs_ret (qe_lc (own := [("child", 3), ("mark", 4), ("depth", 5)]) (js := ([3] ++ (([4] ++ ([5] ++ [])) ++ []))) rfl nd (qi_enum m_enumerate (qa_cons (qv 0) qa_nil)) (blkOk_by (N := n_row_of) (sc := defScope (top 37)) (by decide +kernel)) (by decide) (fun _ _ _ _ _ => (qg_tup rfl (qgs_cons (qg_name nd) (qgs_cons (qg_tup rfl (qgs_cons (qg_name nd) (qgs_cons (qg_name nd) qgs_nil))) qgs_nil)))) (fun _ _ _ _ _ => (qts_one (qt_cmp (o_eq hu64) (qv 5) qe_int))) (fun _ _ _ _ _ => (qv 3))))) qss_nil) (qss_cons (qs_set nd (qe_op o_add (qe_ix (qe_ix (qv 0) (qv 1)) qe_int) qe_int)) (qss_one (qs_ret (qe_lc (own := [("child", 3)]) (js := [3]) rfl nd (qi_range2 m_range (qa_cons (qe_op o_add (qv 1) qe_int) (qa_cons (q_call c_end_of (hr.mono (by first | decide | omega)) hgd hl (qa_cons (qv 0) (qa_cons (qv 1) qa_nil))) qa_nil))) (blkOk_by (N := n_row_of) (sc := defScope (top 37)) (by decide +kernel)) (by decide) (fun _ _ _ _ _ => (qg_name nd)) (fun _ _ _ _ _ => (qts_one (qt_cmp (o_eq hu64) (qe_ix (qe_ix (qv 0) (qv 3)) qe_int) (qv 2)))) (fun _ _ _ _ _ => (qv 3)))))))
theorem sc_is_place : FnScope n_is_place ["thing", "document", "more"] (defScope (top 38)) := ⟨rfl, rfl, rfl, by decide +kernel, rfl, by decide +kernel, by decide +kernel⟩
theorem ok_is_place (X : K.In h) (G : h.Ns mainGlobals mg) (c : SaysM fa fn fb K) : OkF P w K mg base 3 "is_place" ["thing", "document", "more"] [] (sp_is_place) := by
  obtain ⟨fd, F⟩ := c.d.def_ 10 (d := d_is_place) rfl
  have c_is_below := ok_is_below (P := P) (w := w) (base := base) X G c
  have c_row_of := ok_row_of (P := P) (w := w) (base := base) X G c
  have c_is_integer := ok_is_integer (P := P) (w := w) (base := base) X G c
  have m_isinstance := He.free_ok X G (c.d.fact 34 (f := .free "isinstance") rfl)
  have m_len := He.free_ok X G (c.d.fact 35 (f := .free "len") rfl)
  have m_tuple := He.free_ok X G (c.d.fact 42 (f := .free "tuple") rfl)
  refine okF_of F (He.glo_ok X G (c.d.fact 10 (f := .glo "is_place") rfl)) (F.bindsN fun _ _ _ _ _ _ us hl => match us, hl with | [_, _, _], _ => rfl) sc_is_place len3 (sem_is_place) ?_
  intro cdv A outer s H E hr hgd tk hl hp
  have nd := (sc_is_place).nd
  have hu := hu_of hr
  have hu64 := room_hu64 hr
  have hu65 := room_hu65 hr
  exact (qss_cons (qs_if (QW.pt (qw_or (qt_not (qt_tru (qe_callB b_isi m_isinstance bt_isinstance (qa_cons (qv 0) (qa_cons (qe_bltn (.ty "tuple") (.ty "tuple") m_tuple bt_tuple rfl fun _ => rfl) qa_nil))))) (qw_or1 (qt_cmp (o_ne hu64) (qe_callB b_len m_len bt_len (qa_cons (qv 0) qa_nil)) qe_int)))) (qss_one (qs_ret qe_bl)) qss_nil) (qss_cons (qs_asg (qv 0) (qg_tup rfl (qgs_cons (qg_name nd) (qgs_cons (qg_name nd) qgs_nil)))) (qss_cons (qs_if (QW.pt (qw_and (qt_cmp o_isnot (qv 3) qe_non) (qw_and1 (qt_not (qt_tru (q_call c_is_below (hr.mono (by first | decide | omega)) hgd hl (qa_cons (qv 3) (qa_cons (qe_callB b_len m_len bt_len (qa_cons (qv 1) qa_nil)) qa_nil)))))))) (qss_one (qs_ret qe_bl)) qss_nil) (qss_one (qs_ret (qe_and (q_call c_is_integer (hr.mono (by first | decide | omega)) hgd hl (qa_cons (qv 4) qa_nil)) (qe_one (q_chain (pe_chain o_leI o_ltI qe_int (qv 4) (qe_op o_add (qe_callB b_len m_len bt_len (qa_cons (q_call c_row_of (hr.mono (by first | decide | omega)) hgd hl (qa_cons (qv 1) (qa_cons (qv 3) qa_nil))) qa_nil)) (qv 2)))))))))))
theorem sc_children : FnScope n_children ["document", "node"] (defScope (top 40)) := ⟨rfl, rfl, rfl, by decide +kernel, rfl, by decide +kernel, by decide +kernel⟩
theorem ok_children (X : K.In h) (G : h.Ns mainGlobals mg) (c : SaysM fa fn fb K) : OkF P w K mg base 5 "children" ["document", "node"] [] (spx_children (cnOf K)) := by
  obtain ⟨fd, F⟩ := c.d.def_ 11 (d := d_children) rfl
  have c_need_document := ok_need_document (P := P) (w := w) (base := base) X G c
  have c_is_below := ok_is_below (P := P) (w := w) (base := base) X G c
  have c_row_of := ok_row_of (P := P) (w := w) (base := base) X G c
  have e_BadNode := He.exc_ok (c.d.fact 47 (f := .exc "BadNode") rfl)
  have m_len := He.free_ok X G (c.d.fact 35 (f := .free "len") rfl)
  have m_tuple := He.free_ok X G (c.d.fact 42 (f := .free "tuple") rfl)
  have o_BadNode := He.glo_ok X G (c.d.fact 46 (f := .glo "BadNode") rfl)
  refine okF_of F (He.glo_ok X G (c.d.fact 11 (f := .glo "children") rfl)) (F.bindsN fun _ _ _ _ _ _ us hl => match us, hl with | [_, _], _ => rfl) sc_children len2 (semx_children (cnOf K)) ?_
  intro cdv A outer s H E hr hgd tk hl hp
  have nd := (sc_children).nd
  have hu := hu_of hr
  have hu64 := room_hu64 hr
  have hu65 := room_hu65 hr
  exact (qss_cons (qs_expr (q_call c_need_document (hr.mono (by first | decide | omega)) hgd hl (qa_cons (qv 0) qa_nil))) (qss_cons (qs_if (QW.pt (qw_and (qt_cmp o_isnot (qv 1) qe_non) (qw_and1 (qt_not (qt_tru (q_call c_is_below (hr.mono (by first | decide | omega)) hgd hl (qa_cons (qv 1) (qa_cons (qe_callB b_len m_len bt_len (qa_cons (qv 0) qa_nil)) qa_nil)))))))) (qss_one (qs_raise rfl tk e_BadNode o_BadNode)) qss_nil) (qss_one (qs_ret (qe_callTy b_tuple m_tuple bt_tuple (qa_cons (q_call c_row_of (hr.mono (by first | decide | omega)) hgd hl (qa_cons (qv 0) (qa_cons (qv 1) qa_nil))) qa_nil))))))
theorem sc_place_of : FnScope n_place_of ["document", "node"] (defScope (top 41)) := ⟨rfl, rfl, rfl, by decide +kernel, rfl, by decide +kernel, by decide +kernel⟩
theorem ok_place_of (X : K.In h) (G : h.Ns mainGlobals mg) (c : SaysM fa fn fb K) : OkF P w K mg base 5 "place_of" ["document", "node"] [] (spx_place_of (cnOf K)) := by
  obtain ⟨fd, F⟩ := c.d.def_ 12 (d := d_place_of) rfl
  have c_need_document := ok_need_document (P := P) (w := w) (base := base) X G c
  have c_need_node := ok_need_node (P := P) (w := w) (base := base) X G c
  have c_parents_of := ok_parents_of (P := P) (w := w) (base := base) X G c
  have c_row_of := ok_row_of (P := P) (w := w) (base := base) X G c
  refine okF_of F (He.glo_ok X G (c.d.fact 12 (f := .glo "place_of") rfl)) (F.bindsN fun _ _ _ _ _ _ us hl => match us, hl with | [_, _], _ => rfl) sc_place_of len2 (semx_place_of (cnOf K)) ?_
  intro cdv A outer s H E hr hgd tk hl hp
  have nd := (sc_place_of).nd
  have hu := hu_of hr
  have hu64 := room_hu64 hr
  have hu65 := room_hu65 hr
  exact (qss_cons (qs_expr (q_call c_need_document (hr.mono (by first | decide | omega)) hgd hl (qa_cons (qv 0) qa_nil))) (qss_cons (qs_expr (q_call c_need_node (hr.mono (by first | decide | omega)) hgd hl (qa_cons (qv 0) (qa_cons (qv 1) qa_nil)))) (qss_cons (qs_set nd (qe_ix (q_call c_parents_of (hr.mono (by first | decide | omega)) hgd hl (qa_cons (qv 0) qa_nil)) (qv 1))) (qss_one (qs_ret (qe_tup (qa_cons (qv 2) (qa_cons (q_bm (pe_bm PySem.F.plainAttrs_list PySem.F.slot_list_index PySem.F.type_list_index m_index (q_call c_row_of (hr.mono (by first | decide | omega)) hgd hl (qa_cons (qv 0) (qa_cons (qv 2) qa_nil))) (qa_cons (qv 1) qa_nil))) qa_nil))))))))
theorem sc_node_at : FnScope n_node_at ["document", "place"] (defScope (top 42)) := ⟨rfl, rfl, rfl, by decide +kernel, rfl, by decide +kernel, by decide +kernel⟩
theorem ok_node_at (X : K.In h) (G : h.Ns mainGlobals mg) (c : SaysM fa fn fb K) : OkF P w K mg base 5 "node_at" ["document", "place"] [] (spx_node_at (cnOf K)) := by
  obtain ⟨fd, F⟩ := c.d.def_ 13 (d := d_node_at) rfl
  have c_need_document := ok_need_document (P := P) (w := w) (base := base) X G c
  have c_is_place := ok_is_place (P := P) (w := w) (base := base) X G c
  have c_row_of := ok_row_of (P := P) (w := w) (base := base) X G c
  have e_BadPlace := He.exc_ok (c.d.fact 49 (f := .exc "BadPlace") rfl)
  have o_BadPlace := He.glo_ok X G (c.d.fact 48 (f := .glo "BadPlace") rfl)
  refine okF_of F (He.glo_ok X G (c.d.fact 13 (f := .glo "node_at") rfl)) (F.bindsN fun _ _ _ _ _ _ us hl => match us, hl with | [_, _], _ => rfl) sc_node_at len2 (semx_node_at (cnOf K)) ?_
  intro cdv A outer s H E hr hgd tk hl hp
  have nd := (sc_node_at).nd
  have hu := hu_of hr
  have hu64 := room_hu64 hr
  have hu65 := room_hu65 hr
  exact (qss_cons (qs_expr (q_call c_need_document (hr.mono (by first | decide | omega)) hgd hl (qa_cons (qv 0) qa_nil))) (qss_cons (qs_if (qt_not (qt_tru (q_call c_is_place (hr.mono (by first | decide | omega)) hgd hl (qa_cons (qv 1) (qa_cons (qv 0) (qa_cons qe_int qa_nil)))))) (qss_one (qs_raise rfl tk e_BadPlace o_BadPlace)) qss_nil) (qss_one (qs_ret (qe_ix (q_call c_row_of (hr.mono (by first | decide | omega)) hgd hl (qa_cons (qv 0) (qa_cons (qe_ix (qv 1) qe_int) qa_nil))) (qe_ix (qv 1) qe_int))))))
theorem sc_read_document : FnScope n_read_document ["text"] (defScope (top 43)) := ⟨rfl, rfl, rfl, by decide +kernel, rfl, by decide +kernel, by decide +kernel⟩
theorem ok_read_document (X : K.In h) (G : h.Ns mainGlobals mg) (c : SaysM fa fn fb K) : OkF P w K mg base 5 "read_document" ["text"] [] (spx_read_document (cnOf K)) := by
  obtain ⟨fd, F⟩ := c.d.def_ 14 (d := d_read_document) rfl
  have c_forest_in := ok_forest_in (P := P) (w := w) (base := base) X G c
  have T_BadText := initB_ok (c.fb 0 (f := .ini "BadText" "MatchError" "place") rfl)
  have ini_BadText := ini0_BadText (P := P) (w := w) (base := base) X G c
  have m_isinstance := He.free_ok X G (c.d.fact 34 (f := .free "isinstance") rfl)
  have m_str := He.free_ok X G (c.d.fact 40 (f := .free "str") rfl)
  refine okF_of F (He.glo_ok X G (c.d.fact 14 (f := .glo "read_document") rfl)) (F.bindsN fun _ _ _ _ _ _ us hl => match us, hl with | [_], _ => rfl) sc_read_document len1 (semx_read_document (cnOf K)) ?_
  intro cdv A outer s H E hr hgd tk hl hp
  have nd := (sc_read_document).nd
  have hu := hu_of hr
  have hu64 := room_hu64 hr
  have hu65 := room_hu65 hr
  exact (qss_cons (qs_if (qt_not (qt_tru (qe_callB b_isi m_isinstance bt_isinstance (qa_cons (qv 0) (qa_cons (qe_bltn (.ty "str") (.ty "str") m_str bt_str rfl fun _ => rfl) qa_nil))))) (qss_one (qs_raiseI rfl tk ini_BadText (hr.mono (by first | decide | omega)) qe_int)) qss_nil) (qss_one (qs_ret (q_call c_forest_in (hr.mono (by first | decide | omega)) hgd hl (qa_cons (qv 0) qa_nil)))))
theorem sc__law_feed : FnScope n__law_feed ["script", "k"] (defScope (top 45)) := ⟨rfl, rfl, rfl, by decide +kernel, rfl, by decide +kernel, by decide +kernel⟩
theorem ok__law_feed (X : K.In h) (G : h.Ns mainGlobals mg) (c : SaysM fa fn fb K) : OkF P w K mg base 1 "_law_feed" ["script", "k"] [] (sp__law_feed) := by
  obtain ⟨fd, F⟩ := c.d.def_ 15 (d := d__law_feed) rfl
  have m_int := He.free_ok X G (c.d.fact 33 (f := .free "int") rfl)
  have m_len := He.free_ok X G (c.d.fact 35 (f := .free "len") rfl)
  have m_max := He.free_ok X G (c.d.fact 36 (f := .free "max") rfl)
  have m_sum := He.free_ok X G (c.d.fact 41 (f := .free "sum") rfl)
  refine okF_of F (He.glo_ok X G (c.d.fact 15 (f := .glo "_law_feed") rfl)) (F.bindsN fun _ _ _ _ _ _ us hl => match us, hl with | [_, _], _ => rfl) sc__law_feed len2 (sem__law_feed) ?_
  intro cdv A outer s H E hr hgd tk hl hp
  have nd := (sc__law_feed).nd
  have hu := hu_of hr
  have hu64 := room_hu64 hr
  have hu65 := room_hu65 hr
  exact (qss_cons (qs_set nd (qe_op o_add (qe_op o_mul qe_int (qv 1)) (qe_callB (b_sum rfl) m_sum bt_sum (qa_cons (qe_slice (qv 0) qo_none (qo_some qe_int)) qa_nil)))) (qss_cons (qs_if (qt_cmp o_ltI (qv 1) (qe_callB b_len m_len bt_len (qa_cons (qv 0) qa_nil))) (qss_one (qs_set nd (qe_ix (qv 0) (qv 1)))) qss_nil) (qss_one (qs_ret (qe_lst (qa_cons (qe_callB (b_max2 rfl) m_max bt_max (qa_cons qe_int (qa_cons (qe_op o_sub (qv 2) (qe_op o_pow qe_int qe_int)) qa_nil))) (qa_cons (qe_op o_mod (qe_callTy b_int m_int bt_int (qa_cons (qe_op o_add (qe_op o_mul (qv 2) qe_int) (qe_op o_mul qe_int (qv 1))) qa_nil)) (qe_op o_add (qe_op o_pow qe_int qe_int) qe_int)) (qa_cons qe_int qa_nil))))))))
theorem sc__law_draw : FnScope n__law_draw ["feed", "many"] (defScope (top 46)) := ⟨rfl, rfl, rfl, by decide +kernel, rfl, by decide +kernel, by decide +kernel⟩
theorem ok__law_draw (X : K.In h) (G : h.Ns mainGlobals mg) (c : SaysM fa fn fb K) : OkF P w K mg base 1 "_law_draw" ["feed", "many"] [] (sp__law_draw) := by
  obtain ⟨fd, F⟩ := c.d.def_ 16 (d := d__law_draw) rfl
  have m_int := He.free_ok X G (c.d.fact 33 (f := .free "int") rfl)
  refine okF_of F (He.glo_ok X G (c.d.fact 16 (f := .glo "_law_draw") rfl)) (F.bindsN fun _ _ _ _ _ _ us hl => match us, hl with | [_, _], _ => rfl) sc__law_draw len2 (sem__law_draw) ?_
  intro cdv A outer s H E hr hgd tk hl hp
  have nd := (sc__law_draw).nd
  have hu := hu_of hr
  have hu64 := room_hu64 hr
  have hu65 := room_hu65 hr
  exact (qss_cons (qs_if (qt_cmp o_gtI (qe_ix (qv 0) qe_int) qe_int) (qss_cons (qs_set nd (qe_op o_fdiv (qe_ix (qv 0) qe_int) (qv 1))) (qss_cons (qs_set nd (qe_op o_sub (qe_ix (qv 0) qe_int) (qe_op o_mul (qv 2) (qv 1)))) (qss_cons (qs_asg (qv 2) (q_sub (pg_sub (qv 0) qe_int (p_set hu)))) (qss_one (qs_ret (qv 3)))))) qss_nil) (qss_cons (qs_asg (qe_op o_add (qe_ix (qv 0) qe_int) qe_int) (q_sub (pg_sub (qv 0) qe_int (p_set hu)))) (qss_cons (qs_set nd (qe_op o_add (qe_ix (qv 0) qe_int) (qe_op o_mul qe_int (qe_ix (qv 0) qe_int)))) (qss_cons (qs_set nd (qe_op o_mod (qe_callTy b_int m_int bt_int (qa_cons (qe_op o_add (qe_op o_mul (qe_op o_mul (qv 4) (qv 4)) (qv 4)) (qe_op o_mul qe_int (qe_ix (qv 0) qe_int))) qa_nil)) (qe_op o_add (qe_op o_pow qe_int qe_int) qe_int))) (qss_cons (qs_set nd (qe_op o_mod (qe_callTy b_int m_int bt_int (qa_cons (qe_op o_add (qe_op o_mul (qv 4) (qv 4)) qe_int) qa_nil)) (qe_op o_add (qe_op o_pow qe_int qe_int) qe_int))) (qss_one (qs_ret (qe_op o_mod (qe_callTy b_int m_int bt_int (qa_cons (qe_op o_fdiv (qv 4) (qe_op o_pow qe_int qe_int)) qa_nil)) (qv 1)))))))))
theorem sc__law_one : FnScope n__law_one ["feed", "things"] (defScope (top 47)) := ⟨rfl, rfl, rfl, by decide +kernel, rfl, by decide +kernel, by decide +kernel⟩
theorem ok__law_one (X : K.In h) (G : h.Ns mainGlobals mg) (c : SaysM fa fn fb K) : OkF P w K mg base 2 "_law_one" ["feed", "things"] [] (sp__law_one) := by
  obtain ⟨fd, F⟩ := c.d.def_ 17 (d := d__law_one) rfl
  have c__law_draw := ok__law_draw (P := P) (w := w) (base := base) X G c
  have m_len := He.free_ok X G (c.d.fact 35 (f := .free "len") rfl)
  refine okF_of F (He.glo_ok X G (c.d.fact 17 (f := .glo "_law_one") rfl)) (F.bindsN fun _ _ _ _ _ _ us hl => match us, hl with | [_, _], _ => rfl) sc__law_one len2 (sem__law_one) ?_
  intro cdv A outer s H E hr hgd tk hl hp
  have nd := (sc__law_one).nd
  have hu := hu_of hr
  have hu64 := room_hu64 hr
  have hu65 := room_hu65 hr
  exact (qss_one (qs_ret (qe_ix (qv 1) (q_call c__law_draw (hr.mono (by first | decide | omega)) hgd hl (qa_cons (qv 0) (qa_cons (qe_callB b_len m_len bt_len (qa_cons (qv 1) qa_nil)) qa_nil))))))
theorem sc__law_made : FnScope n__law_made ["words", "place"] (defScope (top 48)) := ⟨rfl, rfl, rfl, by decide +kernel, rfl, by decide +kernel, by decide +kernel⟩
theorem ok__law_made (X : K.In h) (G : h.Ns mainGlobals mg) (c : SaysM fa fn fb K) : OkF P w K mg base 4 "_law_made" ["words", "place"] [] (spx__law_made (cnOf K)) := by
  obtain ⟨fd, F⟩ := c.d.def_ 18 (d := d__law_made) rfl
  have T_BadText := initB_ok (c.fb 0 (f := .ini "BadText" "MatchError" "place") rfl)
  have ini_BadText := ini0_BadText (P := P) (w := w) (base := base) X G c
  have e_BadBalance := He.exc_ok (c.d.fact 78 (f := .exc "BadBalance") rfl)
  have e_BadCount := He.exc_ok (c.d.fact 76 (f := .exc "BadCount") rfl)
  have e_BadDocument := He.exc_ok (c.d.fact 45 (f := .exc "BadDocument") rfl)
  have e_BadEdit := He.exc_ok (c.d.fact 52 (f := .exc "BadEdit") rfl)
  have e_BadEdition := He.exc_ok (c.d.fact 82 (f := .exc "BadEdition") rfl)
  have e_BadIndex := He.exc_ok (c.d.fact 84 (f := .exc "BadIndex") rfl)
  have e_BadLaying := He.exc_ok (c.d.fact 64 (f := .exc "BadLaying") rfl)
  have e_BadMachine := He.exc_ok (c.d.fact 62 (f := .exc "BadMachine") rfl)
  have e_BadMachines := He.exc_ok (c.d.fact 66 (f := .exc "BadMachines") rfl)
  have e_BadName := He.exc_ok (c.d.fact 68 (f := .exc "BadName") rfl)
  have e_BadNames := He.exc_ok (c.d.fact 60 (f := .exc "BadNames") rfl)
  have e_BadNode := He.exc_ok (c.d.fact 47 (f := .exc "BadNode") rfl)
  have e_BadNodes := He.exc_ok (c.d.fact 58 (f := .exc "BadNodes") rfl)
  have e_BadNumber := He.exc_ok (c.d.fact 80 (f := .exc "BadNumber") rfl)
  have e_BadPairs := He.exc_ok (c.d.fact 54 (f := .exc "BadPairs") rfl)
  have e_BadPlace := He.exc_ok (c.d.fact 49 (f := .exc "BadPlace") rfl)
  have e_BadSaying := He.exc_ok (c.d.fact 56 (f := .exc "BadSaying") rfl)
  have e_BadSayings := He.exc_ok (c.d.fact 72 (f := .exc "BadSayings") rfl)
  have e_BadShape := He.exc_ok (c.d.fact 74 (f := .exc "BadShape") rfl)
  have e_TooMany := He.exc_ok (c.d.fact 70 (f := .exc "TooMany") rfl)
  have o_BadBalance := He.glo_ok X G (c.d.fact 77 (f := .glo "BadBalance") rfl)
  have o_BadCount := He.glo_ok X G (c.d.fact 75 (f := .glo "BadCount") rfl)
  have o_BadDocument := He.glo_ok X G (c.d.fact 44 (f := .glo "BadDocument") rfl)
  have o_BadEdit := He.glo_ok X G (c.d.fact 51 (f := .glo "BadEdit") rfl)
  have o_BadEdition := He.glo_ok X G (c.d.fact 81 (f := .glo "BadEdition") rfl)
  have o_BadIndex := He.glo_ok X G (c.d.fact 83 (f := .glo "BadIndex") rfl)
  have o_BadLaying := He.glo_ok X G (c.d.fact 63 (f := .glo "BadLaying") rfl)
  have o_BadMachine := He.glo_ok X G (c.d.fact 61 (f := .glo "BadMachine") rfl)
  have o_BadMachines := He.glo_ok X G (c.d.fact 65 (f := .glo "BadMachines") rfl)
  have o_BadName := He.glo_ok X G (c.d.fact 67 (f := .glo "BadName") rfl)
  have o_BadNames := He.glo_ok X G (c.d.fact 59 (f := .glo "BadNames") rfl)
  have o_BadNode := He.glo_ok X G (c.d.fact 46 (f := .glo "BadNode") rfl)
  have o_BadNodes := He.glo_ok X G (c.d.fact 57 (f := .glo "BadNodes") rfl)
  have o_BadNumber := He.glo_ok X G (c.d.fact 79 (f := .glo "BadNumber") rfl)
  have o_BadPairs := He.glo_ok X G (c.d.fact 53 (f := .glo "BadPairs") rfl)
  have o_BadPlace := He.glo_ok X G (c.d.fact 48 (f := .glo "BadPlace") rfl)
  have o_BadSaying := He.glo_ok X G (c.d.fact 55 (f := .glo "BadSaying") rfl)
  have o_BadSayings := He.glo_ok X G (c.d.fact 71 (f := .glo "BadSayings") rfl)
  have o_BadShape := He.glo_ok X G (c.d.fact 73 (f := .glo "BadShape") rfl)
  have o_TooMany := He.glo_ok X G (c.d.fact 69 (f := .glo "TooMany") rfl)
  refine okF_of F (He.glo_ok X G (c.d.fact 18 (f := .glo "_law_made") rfl)) (F.bindsN fun _ _ _ _ _ _ us hl => match us, hl with | [_, _], _ => rfl) sc__law_made len2 (semx__law_made (cnOf K)) ?_
  intro cdv A outer s H E hr hgd tk hl hp
  have nd := (sc__law_made).nd
  have hu := hu_of hr
  have hu64 := room_hu64 hr
  have hu65 := room_hu65 hr
  exact (qss_cons (qs_set nd (qe_lst (qa_cons (qe_mkX e_BadDocument o_BadDocument (qv 0)) (qa_cons (qe_mkX e_BadNode o_BadNode (qv 0)) (qa_cons (qe_mkX e_BadPlace o_BadPlace (qv 0)) (qa_cons (qe_mkI ini_BadText (hr.mono (by first | decide | omega)) (qv 1)) (qa_cons (qe_mkX e_BadEdit o_BadEdit (qv 0)) (qa_cons (qe_mkX e_BadPairs o_BadPairs (qv 0)) qa_nil)))))))) (qss_cons (qs_set nd (qe_op o_add (qv 2) (qe_lst (qa_cons (qe_mkX e_BadSaying o_BadSaying (qv 0)) (qa_cons (qe_mkX e_BadNodes o_BadNodes (qv 0)) (qa_cons (qe_mkX e_BadNames o_BadNames (qv 0)) (qa_cons (qe_mkX e_BadMachine o_BadMachine (qv 0)) (qa_cons (qe_mkX e_BadLaying o_BadLaying (qv 0)) qa_nil)))))))) (qss_cons (qs_set nd (qe_op o_add (qv 2) (qe_lst (qa_cons (qe_mkX e_BadMachines o_BadMachines (qv 0)) (qa_cons (qe_mkX e_BadName o_BadName (qv 0)) (qa_cons (qe_mkX e_TooMany o_TooMany (qv 0)) (qa_cons (qe_mkX e_BadSayings o_BadSayings (qv 0)) (qa_cons (qe_mkX e_BadShape o_BadShape (qv 0)) qa_nil)))))))) (qss_one (qs_ret (qe_op o_add (qv 2) (qe_lst (qa_cons (qe_mkX e_BadCount o_BadCount (qv 0)) (qa_cons (qe_mkX e_BadBalance o_BadBalance (qv 0)) (qa_cons (qe_mkX e_BadNumber o_BadNumber (qv 0)) (qa_cons (qe_mkX e_BadEdition o_BadEdition (qv 0)) (qa_cons (qe_mkX e_BadIndex o_BadIndex (qv 0)) qa_nil))))))))))))
theorem sc__law_kinds : FnScope n__law_kinds ["made"] (defScope (top 49)) := ⟨rfl, rfl, rfl, by decide +kernel, rfl, by decide +kernel, by decide +kernel⟩
theorem ok__law_kinds (X : K.In h) (G : h.Ns mainGlobals mg) (c : SaysM fa fn fb K) : OkF P w K mg base 1 "_law_kinds" ["made"] [] (spx__law_kinds (cnOf K)) := by
  obtain ⟨fd, F⟩ := c.d.def_ 19 (d := d__law_kinds) rfl
  have hx : ExF (cnOf K) := ⟨He.exm_ok (c.d.fact 85 (f := .exm "BadNode" "MatchError" true) rfl), He.exm_ok (c.d.fact 86 (f := .exm "BadText" "MatchError" true) rfl), He.exm_ok (c.d.fact 87 (f := .exm "BadPlace" "BadPlace" true) rfl), isxs_ok (c.fb 1 (f := .isxs "MatchError" ("BadDocument" :: "BadNode" :: "BadPlace" :: "BadText" :: "BadEdit" :: "BadPairs" :: "BadSaying" :: "BadNodes" :: "BadNames" :: "BadMachine" :: "BadLaying" :: "BadMachines" :: "BadName" :: "TooMany" :: "BadSayings" :: "BadShape" :: "BadCount" :: "BadBalance" :: "BadNumber" :: "BadEdition" :: "BadIndex" :: [])) rfl), trivial⟩
  have m_isinstance := He.free_ok X G (c.d.fact 34 (f := .free "isinstance") rfl)
  have o_BadBalance := He.glo_ok X G (c.d.fact 77 (f := .glo "BadBalance") rfl)
  have o_BadCount := He.glo_ok X G (c.d.fact 75 (f := .glo "BadCount") rfl)
  have o_BadDocument := He.glo_ok X G (c.d.fact 44 (f := .glo "BadDocument") rfl)
  have o_BadEdit := He.glo_ok X G (c.d.fact 51 (f := .glo "BadEdit") rfl)
  have o_BadEdition := He.glo_ok X G (c.d.fact 81 (f := .glo "BadEdition") rfl)
  have o_BadIndex := He.glo_ok X G (c.d.fact 83 (f := .glo "BadIndex") rfl)
  have o_BadLaying := He.glo_ok X G (c.d.fact 63 (f := .glo "BadLaying") rfl)
  have o_BadMachine := He.glo_ok X G (c.d.fact 61 (f := .glo "BadMachine") rfl)
  have o_BadMachines := He.glo_ok X G (c.d.fact 65 (f := .glo "BadMachines") rfl)
  have o_BadName := He.glo_ok X G (c.d.fact 67 (f := .glo "BadName") rfl)
  have o_BadNames := He.glo_ok X G (c.d.fact 59 (f := .glo "BadNames") rfl)
  have o_BadNode := He.glo_ok X G (c.d.fact 46 (f := .glo "BadNode") rfl)
  have o_BadNodes := He.glo_ok X G (c.d.fact 57 (f := .glo "BadNodes") rfl)
  have o_BadNumber := He.glo_ok X G (c.d.fact 79 (f := .glo "BadNumber") rfl)
  have o_BadPairs := He.glo_ok X G (c.d.fact 53 (f := .glo "BadPairs") rfl)
  have o_BadPlace := He.glo_ok X G (c.d.fact 48 (f := .glo "BadPlace") rfl)
  have o_BadSaying := He.glo_ok X G (c.d.fact 55 (f := .glo "BadSaying") rfl)
  have o_BadSayings := He.glo_ok X G (c.d.fact 71 (f := .glo "BadSayings") rfl)
  have o_BadShape := He.glo_ok X G (c.d.fact 73 (f := .glo "BadShape") rfl)
  have o_BadText := He.glo_ok X G (c.d.fact 50 (f := .glo "BadText") rfl)
  have o_TooMany := He.glo_ok X G (c.d.fact 69 (f := .glo "TooMany") rfl)
  refine okF_of F (He.glo_ok X G (c.d.fact 19 (f := .glo "_law_kinds") rfl)) (F.bindsN fun _ _ _ _ _ _ us hl => match us, hl with | [_], _ => rfl) sc__law_kinds len1 (semx__law_kinds (cnOf K) hx) ?_
  intro cdv A outer s H E hr hgd tk hl hp
  have nd := (sc__law_kinds).nd
  have hu := hu_of hr
  have hu64 := room_hu64 hr
  have hu65 := room_hu65 hr
  exact (qss_cons (qs_set nd (qe_lst (qa_cons (qe_callB b_isxD m_isinstance bt_isinstance (qa_cons (qv 0) (qa_cons (qe_cls o_BadDocument) qa_nil))) (qa_cons (qe_callB b_isxD m_isinstance bt_isinstance (qa_cons (qv 0) (qa_cons (qe_cls o_BadNode) qa_nil))) (qa_cons (qe_callB b_isxD m_isinstance bt_isinstance (qa_cons (qv 0) (qa_cons (qe_cls o_BadPlace) qa_nil))) qa_nil))))) (qss_cons (qs_set nd (qe_op o_add (qv 1) (qe_lst (qa_cons (qe_callB b_isxD m_isinstance bt_isinstance (qa_cons (qv 0) (qa_cons (qe_cls o_BadText) qa_nil))) (qa_cons (qe_callB b_isxD m_isinstance bt_isinstance (qa_cons (qv 0) (qa_cons (qe_cls o_BadEdit) qa_nil))) (qa_cons (qe_callB b_isxD m_isinstance bt_isinstance (qa_cons (qv 0) (qa_cons (qe_cls o_BadPairs) qa_nil))) qa_nil)))))) (qss_cons (qs_set nd (qe_op o_add (qv 1) (qe_lst (qa_cons (qe_callB b_isxD m_isinstance bt_isinstance (qa_cons (qv 0) (qa_cons (qe_cls o_BadSaying) qa_nil))) (qa_cons (qe_callB b_isxD m_isinstance bt_isinstance (qa_cons (qv 0) (qa_cons (qe_cls o_BadNodes) qa_nil))) (qa_cons (qe_callB b_isxD m_isinstance bt_isinstance (qa_cons (qv 0) (qa_cons (qe_cls o_BadNames) qa_nil))) qa_nil)))))) (qss_cons (qs_set nd (qe_op o_add (qv 1) (qe_lst (qa_cons (qe_callB b_isxD m_isinstance bt_isinstance (qa_cons (qv 0) (qa_cons (qe_cls o_BadMachine) qa_nil))) (qa_cons (qe_callB b_isxD m_isinstance bt_isinstance (qa_cons (qv 0) (qa_cons (qe_cls o_BadLaying) qa_nil))) (qa_cons (qe_callB b_isxD m_isinstance bt_isinstance (qa_cons (qv 0) (qa_cons (qe_cls o_BadMachines) qa_nil))) qa_nil)))))) (qss_cons (qs_set nd (qe_op o_add (qv 1) (qe_lst (qa_cons (qe_callB b_isxD m_isinstance bt_isinstance (qa_cons (qv 0) (qa_cons (qe_cls o_BadName) qa_nil))) (qa_cons (qe_callB b_isxD m_isinstance bt_isinstance (qa_cons (qv 0) (qa_cons (qe_cls o_TooMany) qa_nil))) (qa_cons (qe_callB b_isxD m_isinstance bt_isinstance (qa_cons (qv 0) (qa_cons (qe_cls o_BadSayings) qa_nil))) qa_nil)))))) (qss_cons (qs_set nd (qe_op o_add (qv 1) (qe_lst (qa_cons (qe_callB b_isxD m_isinstance bt_isinstance (qa_cons (qv 0) (qa_cons (qe_cls o_BadShape) qa_nil))) (qa_cons (qe_callB b_isxD m_isinstance bt_isinstance (qa_cons (qv 0) (qa_cons (qe_cls o_BadCount) qa_nil))) (qa_cons (qe_callB b_isxD m_isinstance bt_isinstance (qa_cons (qv 0) (qa_cons (qe_cls o_BadBalance) qa_nil))) qa_nil)))))) (qss_one (qs_ret (qe_op o_add (qv 1) (qe_lst (qa_cons (qe_callB b_isxD m_isinstance bt_isinstance (qa_cons (qv 0) (qa_cons (qe_cls o_BadNumber) qa_nil))) (qa_cons (qe_callB b_isxD m_isinstance bt_isinstance (qa_cons (qv 0) (qa_cons (qe_cls o_BadEdition) qa_nil))) (qa_cons (qe_callB b_isxD m_isinstance bt_isinstance (qa_cons (qv 0) (qa_cons (qe_cls o_BadIndex) qa_nil))) qa_nil)))))))))))))
theorem sc__law_asked_one : FnScope n__law_asked_one ["script"] (defScope (top 50)) := ⟨rfl, rfl, rfl, by decide +kernel, rfl, by decide +kernel, by decide +kernel⟩
theorem ok__law_asked_one (X : K.In h) (G : h.Ns mainGlobals mg) (c : SaysM fa fn fb K) : OkF P w K mg base 6 "_law_asked_one" ["script"] [] (spx__law_asked_one (cnOf K)) := by
  obtain ⟨fd, F⟩ := c.d.def_ 20 (d := d__law_asked_one) rfl
  have c__law_feed := ok__law_feed (P := P) (w := w) (base := base) X G c
  have c__law_draw := ok__law_draw (P := P) (w := w) (base := base) X G c
  have c__law_one := ok__law_one (P := P) (w := w) (base := base) X G c
  have c__law_made := ok__law_made (P := P) (w := w) (base := base) X G c
  have c__law_kinds := ok__law_kinds (P := P) (w := w) (base := base) X G c
  have c_children := ok_children (P := P) (w := w) (base := base) X G c
  have c_read_document := ok_read_document (P := P) (w := w) (base := base) X G c
  have hx : ExF (cnOf K) := ⟨He.exm_ok (c.d.fact 85 (f := .exm "BadNode" "MatchError" true) rfl), He.exm_ok (c.d.fact 86 (f := .exm "BadText" "MatchError" true) rfl), He.exm_ok (c.d.fact 87 (f := .exm "BadPlace" "BadPlace" true) rfl), isxs_ok (c.fb 1 (f := .isxs "MatchError" ("BadDocument" :: "BadNode" :: "BadPlace" :: "BadText" :: "BadEdit" :: "BadPairs" :: "BadSaying" :: "BadNodes" :: "BadNames" :: "BadMachine" :: "BadLaying" :: "BadMachines" :: "BadName" :: "TooMany" :: "BadSayings" :: "BadShape" :: "BadCount" :: "BadBalance" :: "BadNumber" :: "BadEdition" :: "BadIndex" :: [])) rfl), trivial⟩
  have T_BadText := initB_ok (c.fb 0 (f := .ini "BadText" "MatchError" "place") rfl)
  have ini_BadText := ini0_BadText (P := P) (w := w) (base := base) X G c
  have inik_BadText := inik0_BadText (P := P) (w := w) (base := base) X G c
  have m_ValueError := He.free_ok X G (c.d.fact 30 (f := .free "ValueError") rfl)
  have m_enumerate := He.free_ok X G (c.d.fact 32 (f := .free "enumerate") rfl)
  have m_isinstance := He.free_ok X G (c.d.fact 34 (f := .free "isinstance") rfl)
  have m_len := He.free_ok X G (c.d.fact 35 (f := .free "len") rfl)
  have m_range := He.free_ok X G (c.d.fact 38 (f := .free "range") rfl)
  have m_repr := He.free_ok X G (c.d.fact 39 (f := .free "repr") rfl)
  have o_BadNode := He.glo_ok X G (c.d.fact 46 (f := .glo "BadNode") rfl)
  have o_BadText := He.glo_ok X G (c.d.fact 50 (f := .glo "BadText") rfl)
  have o_MatchError := He.glo_ok X G (c.d.fact 43 (f := .glo "MatchError") rfl)
  refine okF_of F (He.glo_ok X G (c.d.fact 20 (f := .glo "_law_asked_one") rfl)) (F.bindsN fun _ _ _ _ _ _ us hl => match us, hl with | [_], _ => rfl) sc__law_asked_one len1 (semx__law_asked_one (cnOf K) hx) ?_
  intro cdv A outer s H E hr hgd tk hl hp
  have nd := (sc__law_asked_one).nd
  have hu := hu_of hr
  have hu64 := room_hu64 hr
  have hu65 := room_hu65 hr
  exact (qss_cons (qs_set nd (q_call c__law_feed (hr.mono (by first | decide | omega)) hgd hl (qa_cons (qv 0) (qa_cons qe_int qa_nil)))) (qss_cons (qs_set nd (q_m1 (pe_m1 PySem.F.slot_str_join PySem.F.type_str_join m_join qe_str (qe_lc (own := [("turn", 5)]) (js := [5]) rfl nd (qi_range1 m_range (qa_cons (q_call c__law_draw (hr.mono (by first | decide | omega)) hgd hl (qa_cons (qv 1) (qa_cons qe_int qa_nil))) qa_nil)) (blkOk_by (N := n__law_asked_one) (sc := defScope (top 50)) (by decide +kernel)) (by decide) (fun _ _ _ _ _ => (qg_name nd)) (fun _ _ _ _ _ => qts_nil) (fun _ _ _ _ _ => (q_call c__law_one (hr.mono (by first | decide | omega)) hgd lets_never (qa_cons (qv 1) (qa_cons qe_str qa_nil)))))))) (qss_cons (qs_set nd (q_call c__law_draw (hr.mono (by first | decide | omega)) hgd hl (qa_cons (qv 1) (qa_cons (qe_op o_pow qe_int qe_int) qa_nil)))) (qss_cons (qs_set nd (q_call c__law_made (hr.mono (by first | decide | omega)) hgd hl (qa_cons (qv 2) (qa_cons (qv 3) qa_nil)))) (qss_cons (qs_for hp rfl (qi_enum m_enumerate (qa_cons (qv 4) qa_nil)) (qg_tup rfl (qgs_cons (qg_name nd) (qgs_cons (qg_name nd) qgs_nil))) (qss_cons (qs_if (QW.pt (qw_or (qt_not (qt_tru (qe_callB b_isxD m_isinstance bt_isinstance (qa_cons (qv 6) (qa_cons (qe_cls o_MatchError) qa_nil))))) (qw_or1 (qt_not (qt_tru (qe_callB b_isxD m_isinstance bt_isinstance (qa_cons (qv 6) (qa_cons (qe_bltn (.ty "ValueError") (.ty "ValueError") m_ValueError bt_ValueError rfl fun _ => rfl) qa_nil)))))))) (qss_one (qs_ret qe_bl)) qss_nil) (qss_one (qs_if (qt_cmp (o_ne hu64) (q_call c__law_kinds (hr.mono (by first | decide | omega)) hgd hl (qa_cons (qv 6) qa_nil)) (qe_lc (own := [("other", 13)]) (js := [13]) rfl nd (qi_range1 m_range (qa_cons qe_int qa_nil)) (blkOk_by (N := n__law_asked_one) (sc := defScope (top 50)) (by decide +kernel)) (by decide) (fun _ _ _ _ _ => (qg_name nd)) (fun _ _ _ _ _ => qts_nil) (fun _ _ _ _ _ => (qe_cmp (o_eq hu64) (qv 5) (qv 13))))) (qss_one (qs_ret qe_bl)) qss_nil)))) (qss_cons (qs_if (QW.pt (qw_or (qt_cmp (o_ne hu64) (qe_callB (b_reprX hu64 hgd) m_repr bt_repr (qa_cons (qe_xf T_BadText (qe_ix (qv 4) qe_int)) qa_nil)) (qe_callB (b_reprX hu64 hgd) m_repr bt_repr (qa_cons (qv 3) qa_nil))) (qw_or1 (qt_cmp (o_ne hu64) (qe_callB (b_reprX hu64 hgd) m_repr bt_repr (qa_cons (qe_xf T_BadText (qe_mkIK inik_BadText (hr.mono (by first | decide | omega)) (qk_cons (qv 3) qk_nil))) qa_nil)) (qe_callB (b_reprX hu64 hgd) m_repr bt_repr (qa_cons (qv 3) qa_nil)))))) (qss_one (qs_ret qe_bl)) qss_nil) (qss_cons (qs_set nd qe_bl) (qss_cons (qs_tryAs rfl rfl rfl nd rfl rfl ⟨rfl, by decide, .inl o_MatchError⟩ tk (fun W2 pn xe tk hp => have hl := passAt tk; (qss_one (qs_expr (q_call c_children (hr.mono (by first | decide | omega)) hgd hl (qa_cons (qe_tup (qa_cons (qe_tup (qa_cons qe_str (qa_cons qe_int qa_nil))) qa_nil)) (qa_cons (qe_op o_add qe_int (q_call c__law_draw (hr.mono (by first | decide | omega)) hgd hl (qa_cons (qv 1) (qa_cons (qe_op o_pow qe_int qe_int) qa_nil)))) qa_nil)))))) (fun a pn => (qss_one (qs_set nd (qe_callB b_isxD m_isinstance bt_isinstance (qa_cons (qv 8) (qa_cons (qe_cls o_BadNode) qa_nil))))))) (qss_cons (qs_set nd (qe_op o_mul3 qe_str (q_call c__law_draw (hr.mono (by first | decide | omega)) hgd hl (qa_cons (qv 1) (qa_cons qe_int qa_nil))))) (qss_cons (qs_asg (qe_tup (qa_cons qe_bl (qa_cons (qe_un o_neg qe_int) qa_nil))) (qg_tup rfl (qgs_cons (qg_name nd) (qgs_cons (qg_name nd) qgs_nil)))) (qss_cons (qs_tryAs rfl rfl rfl nd rfl rfl ⟨rfl, by decide, .inl o_MatchError⟩ tk (fun W2 pn xe tk hp => have hl := passAt tk; (qss_one (qs_expr (q_call c_read_document (hr.mono (by first | decide | omega)) hgd hl (qa_cons (qe_op o_add (qv 9) qe_str) qa_nil))))) (fun a pn => (qss_cons (qs_set nd (qe_callB b_isxD m_isinstance bt_isinstance (qa_cons (qv 12) (qa_cons (qe_cls o_BadText) qa_nil)))) (qss_one (qs_set nd (qe_if (qt_tru (qv 10)) (qe_xf T_BadText (qv 12)) (qe_un o_neg qe_int))))))) (qss_one (qs_ret (qe_and (qv 7) (qe_and (qv 10) (qe_one (qe_cmp (o_eq hu64) (qe_callB (b_reprX hu64 hgd) m_repr bt_repr (qa_cons (qv 11) qa_nil)) (qe_callB (b_reprX hu64 hgd) m_repr bt_repr (qa_cons (qe_op o_add (qe_callB b_len m_len bt_len (qa_cons (qv 9) qa_nil)) qe_int) qa_nil)))))))))))))))))))
theorem sc__law_document : FnScope n__law_document ["feed", "most"] (defScope (top 51)) := ⟨rfl, rfl, rfl, by decide +kernel, rfl, by decide +kernel, by decide +kernel⟩
theorem ok__law_document (X : K.In h) (G : h.Ns mainGlobals mg) (c : SaysM fa fn fb K) : OkF P w K mg base 3 "_law_document" ["feed", "most"] [] (sp__law_document) := by
  obtain ⟨fd, F⟩ := c.d.def_ 21 (d := d__law_document) rfl
  have c__law_draw := ok__law_draw (P := P) (w := w) (base := base) X G c
  have c__law_one := ok__law_one (P := P) (w := w) (base := base) X G c
  have m_max := He.free_ok X G (c.d.fact 36 (f := .free "max") rfl)
  have m_min := He.free_ok X G (c.d.fact 37 (f := .free "min") rfl)
  have m_range := He.free_ok X G (c.d.fact 38 (f := .free "range") rfl)
  have m_tuple := He.free_ok X G (c.d.fact 42 (f := .free "tuple") rfl)
  refine okF_of F (He.glo_ok X G (c.d.fact 21 (f := .glo "_law_document") rfl)) (F.bindsN fun _ _ _ _ _ _ us hl => match us, hl with | [_, _], _ => rfl) sc__law_document len2 (sem__law_document) ?_
  intro cdv A outer s H E hr hgd tk hl hp
  have nd := (sc__law_document).nd
  have hu := hu_of hr
  have hu64 := room_hu64 hr
  have hu65 := room_hu65 hr
  exact (qss_cons (qs_par3 rfl nd (by decide) (by decide) (by decide) (qa_cons (q_call c__law_one (hr.mono (by first | decide | omega)) hgd hl (qa_cons (qv 0) (qa_cons (qe_lst (qa_cons qe_str (qa_cons qe_str (qa_cons qe_str (qa_cons qe_str (qa_cons qe_str qa_nil)))))) qa_nil))) (qa_cons (q_call c__law_draw (hr.mono (by first | decide | omega)) hgd hl (qa_cons (qv 0) (qa_cons (qe_op o_add (qv 1) qe_int) qa_nil))) (qa_cons (q_call c__law_draw (hr.mono (by first | decide | omega)) hgd hl (qa_cons (qv 0) (qa_cons qe_int qa_nil))) qa_nil)))) (qss_cons (qs_par rfl nd (by decide) (qa_cons (qe_lst qa_nil) (qa_cons (qe_un o_neg qe_int) qa_nil))) (qss_cons (qs_for hp rfl (qi_range1 m_range (qa_cons (qv 3) qa_nil)) (qg_name nd) (qss_cons (qs_if (qt_cmp (o_eq hu64) (qv 4) qe_int) (qss_one (qs_set nd (qe_if (qt_cmp (o_eq hu64) (qv 7) qe_int) qe_int qe_int))) (qss_one (qs_if (qt_cmp (o_eq hu64) (qv 4) qe_int) (qss_one (qs_set nd (qe_if (qt_cmp o_gtI (q_call c__law_draw (hr.mono (by first | decide | omega)) hgd hl (qa_cons (qv 0) (qa_cons qe_int qa_nil))) qe_int) (qe_op o_add (qv 6) qe_int) (q_call c__law_draw (hr.mono (by first | decide | omega)) hgd hl (qa_cons (qv 0) (qa_cons (qe_op o_add (qv 6) qe_int) qa_nil)))))) (qss_cons (qs_set nd (qe_lst (qa_cons (qe_op o_add (qv 6) qe_int) (qa_cons (qe_op o_add (qv 6) qe_int) (qa_cons (qv 6) (qa_cons (qv 6) (qa_cons (qe_op o_sub (qv 6) qe_int) (qa_cons qe_int (qa_cons (q_call c__law_draw (hr.mono (by first | decide | omega)) hgd hl (qa_cons (qv 0) (qa_cons (qe_op o_add (qv 6) qe_int) qa_nil))) qa_nil))))))))) (qss_one (qs_set nd (qe_callB (b_max2 rfl) m_max bt_max (qa_cons qe_int (qa_cons (qe_callB (b_min2 rfl) m_min bt_min (qa_cons (qe_op o_add (qv 6) qe_int) (qa_cons (q_call c__law_one (hr.mono (by first | decide | omega)) hgd hl (qa_cons (qv 0) (qa_cons (qv 8) qa_nil))) qa_nil))) qa_nil))))))))) (qss_one (qs_expr (q_bm (pe_bm PySem.F.plainAttrs_list PySem.F.slot_list_append PySem.F.type_list_append m_append (qv 5) (qa_cons (qe_tup (qa_cons (q_call c__law_one (hr.mono (by first | decide | omega)) hgd hl (qa_cons (qv 0) (qa_cons (qv 2) qa_nil))) (qa_cons (qv 6) qa_nil))) qa_nil))))))) (qss_one (qs_ret (qe_callTy b_tuple m_tuple bt_tuple (qa_cons (qv 5) qa_nil)))))))
theorem sc__law_grown : FnScope n__law_grown ["cells"] (defScope (top 52)) := ⟨rfl, rfl, rfl, by decide +kernel, rfl, by decide +kernel, by decide +kernel⟩
theorem ok__law_grown (X : K.In h) (G : h.Ns mainGlobals mg) (c : SaysM fa fn fb K) : OkF P w K mg base 1 "_law_grown" ["cells"] [] (sp__law_grown) := by
  obtain ⟨fd, F⟩ := c.d.def_ 22 (d := d__law_grown) rfl
  have m_int := He.free_ok X G (c.d.fact 33 (f := .free "int") rfl)
  have m_tuple := He.free_ok X G (c.d.fact 42 (f := .free "tuple") rfl)
  refine okF_of F (He.glo_ok X G (c.d.fact 22 (f := .glo "_law_grown") rfl)) (F.bindsN fun _ _ _ _ _ _ us hl => match us, hl with | [_], _ => rfl) sc__law_grown len1 (sem__law_grown) ?_
  intro cdv A outer s H E hr hgd tk hl hp
  have nd := (sc__law_grown).nd
  have hu := hu_of hr
  have hu64 := room_hu64 hr
  have hu65 := room_hu65 hr
  exact (qss_cons (qs_par rfl nd (by decide) (qa_cons (qe_lst qa_nil) (qa_cons qe_int qa_nil))) (qss_cons (qs_for hp rfl (qi_any (qv 0)) (qg_name nd) (qss_cons (qs_set nd (qe_op o_mod (qe_callTy b_int m_int bt_int (qa_cons (qv 3) qa_nil)) (qe_op o_add (qv 2) qe_int))) (qss_cons (qs_expr (q_bm (pe_bm PySem.F.plainAttrs_list PySem.F.slot_list_append PySem.F.type_list_append m_append (qv 1) (qa_cons (qe_tup (qa_cons (qe_ix qe_str (qe_op o_mod (qe_callTy b_int m_int bt_int (qa_cons (qe_op o_fdiv (qv 3) (qe_op o_add (qv 2) qe_int)) qa_nil)) qe_int)) (qa_cons (qv 4) qa_nil))) qa_nil)))) (qss_one (qs_set nd (qe_op o_add (qv 4) qe_int)))))) (qss_one (qs_ret (qe_callTy b_tuple m_tuple bt_tuple (qa_cons (qv 1) qa_nil))))))
theorem sc__law_drawn : FnScope n__law_drawn ["feed", "script", "most"] (defScope (top 53)) := ⟨rfl, rfl, rfl, by decide +kernel, rfl, by decide +kernel, by decide +kernel⟩
theorem ok__law_drawn (X : K.In h) (G : h.Ns mainGlobals mg) (c : SaysM fa fn fb K) : OkF P w K mg base 4 "_law_drawn" ["feed", "script", "most"] [] (sp__law_drawn) := by
  obtain ⟨fd, F⟩ := c.d.def_ 23 (d := d__law_drawn) rfl
  have c__law_draw := ok__law_draw (P := P) (w := w) (base := base) X G c
  have c__law_grown := ok__law_grown (P := P) (w := w) (base := base) X G c
  have c__law_document := ok__law_document (P := P) (w := w) (base := base) X G c
  have c__law_feed := ok__law_feed (P := P) (w := w) (base := base) X G c
  refine okF_of F (He.glo_ok X G (c.d.fact 23 (f := .glo "_law_drawn") rfl)) (F.bindsN fun _ _ _ _ _ _ us hl => match us, hl with | [_, _, _], _ => rfl) sc__law_drawn len3 (sem__law_drawn) ?_
  intro cdv A outer s H E hr hgd tk hl hp
  have nd := (sc__law_drawn).nd
  have hu := hu_of hr
  have hu64 := room_hu64 hr
  have hu65 := room_hu65 hr
  exact (qss_cons (qs_if (qt_cmp (o_eq hu64) (q_call c__law_draw (hr.mono (by first | decide | omega)) hgd hl (qa_cons (qv 0) (qa_cons qe_int qa_nil))) qe_int) (qss_one (qs_ret (q_call c__law_grown (hr.mono (by first | decide | omega)) hgd hl (qa_cons (qe_slice (qv 1) (qo_some qe_int) (qo_some qe_int)) qa_nil)))) qss_nil) (qss_one (qs_ret (q_call c__law_document (hr.mono (by first | decide | omega)) hgd hl (qa_cons (q_call c__law_feed (hr.mono (by first | decide | omega)) hgd hl (qa_cons (qv 1) (qa_cons qe_int qa_nil))) (qa_cons (qv 2) qa_nil))))))
theorem sc__law_parents : FnScope n__law_parents ["document"] (defScope (top 54)) := ⟨rfl, rfl, rfl, by decide +kernel, rfl, by decide +kernel, by decide +kernel⟩
theorem ok__law_parents (X : K.In h) (G : h.Ns mainGlobals mg) (c : SaysM fa fn fb K) : OkF P w K mg base 1 "_law_parents" ["document"] [] (sp__law_parents) := by
  obtain ⟨fd, F⟩ := c.d.def_ 24 (d := d__law_parents) rfl
  have m_enumerate := He.free_ok X G (c.d.fact 32 (f := .free "enumerate") rfl)
  refine okF_of F (He.glo_ok X G (c.d.fact 24 (f := .glo "_law_parents") rfl)) (F.bindsN fun _ _ _ _ _ _ us hl => match us, hl with | [_], _ => rfl) sc__law_parents len1 (sem__law_parents) ?_
  intro cdv A outer s H E hr hgd tk hl hp
  have nd := (sc__law_parents).nd
  have hu := hu_of hr
  have hu64 := room_hu64 hr
  have hu65 := room_hu65 hr
  exact (qss_cons (qs_par rfl nd (by decide) (qa_cons (qe_lst qa_nil) (qa_cons (qe_lst qa_nil) qa_nil))) (qss_cons (qs_for hp rfl (qi_enum m_enumerate (qa_cons (qv 0) qa_nil)) (qg_tup rfl (qgs_cons (qg_name nd) (qgs_cons (qg_tup rfl (qgs_cons (qg_name nd) (qgs_cons (qg_name nd) qgs_nil))) qgs_nil))) (qss_cons (qs_set nd (qe_slice (qv 2) qo_none (qo_some (qv 5)))) (qss_cons (qs_expr (q_bm (pe_bm PySem.F.plainAttrs_list PySem.F.slot_list_append PySem.F.type_list_append m_append (qv 1) (qa_cons (qe_if (qt_cmp (o_ne hu64) (qv 2) (qe_lst qa_nil)) (qe_ix (qv 2) (qe_un o_neg qe_int)) qe_non) qa_nil)))) (qss_one (qs_expr (q_bm (pe_bm PySem.F.plainAttrs_list PySem.F.slot_list_append PySem.F.type_list_append m_append (qv 2) (qa_cons (qv 3) qa_nil)))))))) (qss_one (qs_ret (qv 1)))))
theorem sc__law_children : FnScope n__law_children ["document"] (defScope (top 55)) := ⟨rfl, rfl, rfl, by decide +kernel, rfl, by decide +kernel, by decide +kernel⟩
theorem ok__law_children (X : K.In h) (G : h.Ns mainGlobals mg) (c : SaysM fa fn fb K) : OkF P w K mg base 2 "_law_children" ["document"] [] (sp__law_children) := by
  obtain ⟨fd, F⟩ := c.d.def_ 25 (d := d__law_children) rfl
  have c__law_parents := ok__law_parents (P := P) (w := w) (base := base) X G c
  have m_enumerate := He.free_ok X G (c.d.fact 32 (f := .free "enumerate") rfl)
  have m_len := He.free_ok X G (c.d.fact 35 (f := .free "len") rfl)
  have m_range := He.free_ok X G (c.d.fact 38 (f := .free "range") rfl)
  refine okF_of F (He.glo_ok X G (c.d.fact 25 (f := .glo "_law_children") rfl)) (F.bindsN fun _ _ _ _ _ _ us hl => match us, hl with | [_], _ => rfl) sc__law_children len1 (sem__law_children) ?_
  intro cdv A outer s H E hr hgd tk hl hp
  have nd := (sc__law_children).nd
  have hu := hu_of hr
  have hu64 := room_hu64 hr
  have hu65 := room_hu65 hr
  exact (qss_cons (qs_setLc (own := [("node", 2)]) (js := [2]) rfl nd rfl (sw_true rfl rfl rfl (by decide +kernel)) (qi_range1 m_range (qa_cons (qe_op o_add (qe_callB b_len m_len bt_len (qa_cons (qv 0) qa_nil)) qe_int) qa_nil)) (blkOk_by (N := n__law_children) (sc := defScope (top 55)) (by decide +kernel)) (by decide) (fun _ _ _ _ _ => (qg_name nd)) (fun _ _ _ _ _ => qts_nil) (fun _ _ _ _ _ => (qe_lst qa_nil))) (qss_cons (qs_for hp rfl (qi_enum m_enumerate (qa_cons (q_call c__law_parents (hr.mono (by first | decide | omega)) hgd hl (qa_cons (qv 0) qa_nil)) qa_nil)) (qg_tup rfl (qgs_cons (qg_name nd) (qgs_cons (qg_name nd) qgs_nil))) (qss_cons (qs_set nd (qe_ix (qv 1) (qe_if (qt_cmp o_is (qv 3) qe_non) (qe_callB b_len m_len bt_len (qa_cons (qv 0) qa_nil)) (qv 3)))) (qss_one (qs_expr (q_bm (pe_bm PySem.F.plainAttrs_list PySem.F.slot_list_append PySem.F.type_list_append m_append (qv 4) (qa_cons (qv 2) qa_nil))))))) (qss_one (qs_ret (qv 1)))))
theorem sc__law_near : FnScope n__law_near ["feed", "document", "rows"] (defScope (top 56)) := ⟨rfl, rfl, rfl, by decide +kernel, rfl, by decide +kernel, by decide +kernel⟩
theorem ok__law_near (X : K.In h) (G : h.Ns mainGlobals mg) (c : SaysM fa fn fb K) : OkF P w K mg base 3 "_law_near" ["feed", "document", "rows"] [] (sp__law_near) := by
  obtain ⟨fd, F⟩ := c.d.def_ 26 (d := d__law_near) rfl
  have c__law_draw := ok__law_draw (P := P) (w := w) (base := base) X G c
  have c__law_one := ok__law_one (P := P) (w := w) (base := base) X G c
  have m_len := He.free_ok X G (c.d.fact 35 (f := .free "len") rfl)
  refine okF_of F (He.glo_ok X G (c.d.fact 26 (f := .glo "_law_near") rfl)) (F.bindsN fun _ _ _ _ _ _ us hl => match us, hl with | [_, _, _], _ => rfl) sc__law_near len3 (sem__law_near) ?_
  intro cdv A outer s H E hr hgd tk hl hp
  have nd := (sc__law_near).nd
  have hu := hu_of hr
  have hu64 := room_hu64 hr
  have hu65 := room_hu65 hr
  exact (qss_cons (qs_set nd (qe_callB b_len m_len bt_len (qa_cons (qv 1) qa_nil))) (qss_cons (qs_set nd (qe_if (QW.pt (qw_or (qt_cmp (o_eq hu64) (qv 3) qe_int) (qw_or1 (qt_cmp (o_eq hu64) (q_call c__law_draw (hr.mono (by first | decide | omega)) hgd hl (qa_cons (qv 0) (qa_cons qe_int qa_nil))) qe_int)))) qe_non (q_call c__law_draw (hr.mono (by first | decide | omega)) hgd hl (qa_cons (qv 0) (qa_cons (qv 3) qa_nil))))) (qss_cons (qs_set nd (qe_op o_sub (q_call c__law_draw (hr.mono (by first | decide | omega)) hgd hl (qa_cons (qv 0) (qa_cons (qe_op o_add (qe_callB b_len m_len bt_len (qa_cons (qe_ix (qv 2) (qe_if (qt_cmp o_is (qv 4) qe_non) (qv 3) (qv 4))) qa_nil)) qe_int) qa_nil))) qe_int)) (qss_cons (qs_set nd (q_call c__law_draw (hr.mono (by first | decide | omega)) hgd hl (qa_cons (qv 0) (qa_cons qe_int qa_nil)))) (qss_cons (qs_if (qt_cmp (o_eq hu64) (qv 6) qe_int) (qss_one (qs_ret (qe_lst (qa_cons (qv 4) (qa_cons (qv 5) qa_nil))))) qss_nil) (qss_cons (qs_if (qt_cmp (o_eq hu64) (qv 6) qe_int) (qss_one (qs_ret (qe_tup (qa_cons (qv 4) qa_nil)))) qss_nil) (qss_cons (qs_if (qt_cmp (o_eq hu64) (qv 6) qe_int) (qss_one (qs_ret (qe_tup (qa_cons (qv 4) (qa_cons (qv 5) (qa_cons qe_int qa_nil)))))) qss_nil) (qss_cons (qs_if (qt_cmp (o_eq hu64) (qv 6) qe_int) (qss_one (qs_ret (qe_tup (qa_cons (qv 5) (qa_cons (qv 4) qa_nil))))) qss_nil) (qss_cons (qs_if (qt_cmp (o_eq hu64) (qv 6) qe_int) (qss_one (qs_ret (qe_tup (qa_cons (q_call c__law_one (hr.mono (by first | decide | omega)) hgd hl (qa_cons (qv 0) (qa_cons (qe_lst (qa_cons qe_bl (qa_cons qe_bl (qa_cons (qe_un o_neg qe_int) (qa_cons (qv 3) (qa_cons qe_str (qa_cons (qe_tup qa_nil) (qa_cons (qe_lst (qa_cons qe_int qa_nil)) (qa_cons (qe_tup (qa_cons qe_int qa_nil)) (qa_cons (qe_op o_add (qv 3) (qe_op o_pow qe_int qe_int)) qa_nil)))))))))) qa_nil))) (qa_cons (qv 5) qa_nil))))) qss_nil) (qss_cons (qs_if (qt_cmp (o_eq hu64) (qv 6) qe_int) (qss_one (qs_ret (qe_tup (qa_cons (qv 4) (qa_cons (q_call c__law_one (hr.mono (by first | decide | omega)) hgd hl (qa_cons (qv 0) (qa_cons (qe_lst (qa_cons qe_bl (qa_cons qe_bl (qa_cons qe_non (qa_cons qe_str (qa_cons (qe_tup (qa_cons qe_int qa_nil)) (qa_cons (qe_op o_pow qe_int qe_int) qa_nil))))))) qa_nil))) qa_nil))))) qss_nil) (qss_cons (qs_if (qt_cmp (o_eq hu64) (qv 6) qe_int) (qss_one (qs_ret (q_call c__law_one (hr.mono (by first | decide | omega)) hgd hl (qa_cons (qv 0) (qa_cons (qe_lst (qa_cons qe_non (qa_cons qe_int (qa_cons qe_str (qa_cons (qe_tup qa_nil) (qa_cons qe_d0 (qa_cons qe_str (qa_cons qe_bl (qa_cons (qv 5) (qa_cons (qv 4) qa_nil)))))))))) qa_nil))))) qss_nil) (qss_one (qs_ret (qe_tup (qa_cons (qv 4) (qa_cons (qv 5) qa_nil))))))))))))))))
theorem sc__law_asked : FnScope n__law_asked ["document", "thing"] (defScope (top 57)) := ⟨rfl, rfl, rfl, by decide +kernel, rfl, by decide +kernel, by decide +kernel⟩
theorem ok__law_asked (X : K.In h) (G : h.Ns mainGlobals mg) (c : SaysM fa fn fb K) : OkF P w K mg base 6 "_law_asked" ["document", "thing"] [] (spx__law_asked (cnOf K)) := by
  obtain ⟨fd, F⟩ := c.d.def_ 27 (d := d__law_asked) rfl
  have c_node_at := ok_node_at (P := P) (w := w) (base := base) X G c
  have hx : ExF (cnOf K) := ⟨He.exm_ok (c.d.fact 85 (f := .exm "BadNode" "MatchError" true) rfl), He.exm_ok (c.d.fact 86 (f := .exm "BadText" "MatchError" true) rfl), He.exm_ok (c.d.fact 87 (f := .exm "BadPlace" "BadPlace" true) rfl), isxs_ok (c.fb 1 (f := .isxs "MatchError" ("BadDocument" :: "BadNode" :: "BadPlace" :: "BadText" :: "BadEdit" :: "BadPairs" :: "BadSaying" :: "BadNodes" :: "BadNames" :: "BadMachine" :: "BadLaying" :: "BadMachines" :: "BadName" :: "TooMany" :: "BadSayings" :: "BadShape" :: "BadCount" :: "BadBalance" :: "BadNumber" :: "BadEdition" :: "BadIndex" :: [])) rfl), trivial⟩
  have o_BadPlace := He.glo_ok X G (c.d.fact 48 (f := .glo "BadPlace") rfl)
  refine okF_of F (He.glo_ok X G (c.d.fact 27 (f := .glo "_law_asked") rfl)) (F.bindsN fun _ _ _ _ _ _ us hl => match us, hl with | [_, _], _ => rfl) sc__law_asked len2 (semx__law_asked (cnOf K) hx) ?_
  intro cdv A outer s H E hr hgd tk hl hp
  have nd := (sc__law_asked).nd
  have hu := hu_of hr
  have hu64 := room_hu64 hr
  have hu65 := room_hu65 hr
  exact (qss_cons (qs_try rfl rfl ⟨rfl, by decide, .inl o_BadPlace⟩ tk (fun W2 pn xe tk hp => have hl := passAt tk; (qss_one (qs_set nd (qe_tup (qa_cons qe_str (qa_cons (q_call c_node_at (hr.mono (by first | decide | omega)) hgd hl (qa_cons (qv 0) (qa_cons (qv 1) qa_nil))) qa_nil)))))) (fun a pn => (qss_one (qs_set nd (qe_tup (qa_cons qe_str qa_nil)))))) (qss_one (qs_ret (qv 2))))
theorem sc__law_asked_two : FnScope n__law_asked_two ["script"] (defScope (top 58)) := ⟨rfl, rfl, rfl, by decide +kernel, rfl, by decide +kernel, by decide +kernel⟩
theorem ok__law_asked_two (X : K.In h) (G : h.Ns mainGlobals mg) (c : SaysM fa fn fb K) : OkF P w K mg base 7 "_law_asked_two" ["script"] [] (spx__law_asked_two (cnOf K)) := by
  obtain ⟨fd, F⟩ := c.d.def_ 28 (d := d__law_asked_two) rfl
  have c__law_feed := ok__law_feed (P := P) (w := w) (base := base) X G c
  have c__law_drawn := ok__law_drawn (P := P) (w := w) (base := base) X G c
  have c__law_children := ok__law_children (P := P) (w := w) (base := base) X G c
  have c_node_at := ok_node_at (P := P) (w := w) (base := base) X G c
  have c_place_of := ok_place_of (P := P) (w := w) (base := base) X G c
  have c__law_near := ok__law_near (P := P) (w := w) (base := base) X G c
  have c__law_asked := ok__law_asked (P := P) (w := w) (base := base) X G c
  have m_enumerate := He.free_ok X G (c.d.fact 32 (f := .free "enumerate") rfl)
  have m_len := He.free_ok X G (c.d.fact 35 (f := .free "len") rfl)
  have m_range := He.free_ok X G (c.d.fact 38 (f := .free "range") rfl)
  have m_repr := He.free_ok X G (c.d.fact 39 (f := .free "repr") rfl)
  refine okF_of F (He.glo_ok X G (c.d.fact 28 (f := .glo "_law_asked_two") rfl)) (F.bindsN fun _ _ _ _ _ _ us hl => match us, hl with | [_], _ => rfl) sc__law_asked_two len1 (semx__law_asked_two (cnOf K)) ?_
  intro cdv A outer s H E hr hgd tk hl hp
  have nd := (sc__law_asked_two).nd
  have hu := hu_of hr
  have hu64 := room_hu64 hr
  have hu65 := room_hu65 hr
  exact (qss_cons (qs_set nd (q_call c__law_feed (hr.mono (by first | decide | omega)) hgd hl (qa_cons (qv 0) (qa_cons qe_int qa_nil)))) (qss_cons (qs_set nd (q_call c__law_drawn (hr.mono (by first | decide | omega)) hgd hl (qa_cons (qv 1) (qa_cons (qv 0) (qa_cons qe_int qa_nil))))) (qss_cons (qs_set nd (q_call c__law_children (hr.mono (by first | decide | omega)) hgd hl (qa_cons (qv 2) qa_nil))) (qss_cons (qs_set nd qe_d0) (qss_cons (qs_for hp rfl (qi_enum m_enumerate (qa_cons (qv 3) qa_nil)) (qg_tup rfl (qgs_cons (qg_name nd) (qgs_cons (qg_name nd) qgs_nil))) (qss_one (qs_for hp rfl (qi_enum m_enumerate (qa_cons (qv 6) qa_nil)) (qg_tup rfl (qgs_cons (qg_name nd) (qgs_cons (qg_name nd) qgs_nil))) (qss_cons (qs_set nd (qe_tup (qa_cons (qe_if (qt_cmp (o_eq hu64) (qv 5) (qe_callB b_len m_len bt_len (qa_cons (qv 2) qa_nil))) qe_non (qv 5)) (qa_cons (qv 7) qa_nil)))) (qss_cons (qs_asg (qv 8) (q_sub (pg_sub (qv 4) (qe_callB (b_reprX hu64 hgd) m_repr bt_repr (qa_cons (qv 9) qa_nil)) (p_set hu)))) (qss_one (qs_if (QW.pt (qw_or (qt_cmp (o_ne hu64) (qe_callB (b_reprX hu64 hgd) m_repr bt_repr (qa_cons (q_call c_place_of (hr.mono (by first | decide | omega)) hgd hl (qa_cons (qv 2) (qa_cons (qv 8) qa_nil))) qa_nil)) (qe_callB (b_reprX hu64 hgd) m_repr bt_repr (qa_cons (qv 9) qa_nil))) (qw_or1 (qt_cmp (o_ne hu64) (qe_callB (b_reprX hu64 hgd) m_repr bt_repr (qa_cons (q_call c_node_at (hr.mono (by first | decide | omega)) hgd hl (qa_cons (qv 2) (qa_cons (qv 9) qa_nil))) qa_nil)) (qe_callB (b_reprX hu64 hgd) m_repr bt_repr (qa_cons (qv 8) qa_nil)))))) (qss_one (qs_ret qe_bl)) qss_nil))))))) (qss_cons (qs_for hp rfl (qi_range1 m_range (qa_cons qe_int qa_nil)) (qg_name nd) (qss_cons (qs_set nd (q_call c__law_near (hr.mono (by first | decide | omega)) hgd hl (qa_cons (qv 1) (qa_cons (qv 2) (qa_cons (qv 3) qa_nil))))) (qss_cons (qs_set nd (qe_if (qt_cmp (o_inX hu65) (qe_callB (b_reprX hu64 hgd) m_repr bt_repr (qa_cons (qv 11) qa_nil)) (qv 4)) (qe_tup (qa_cons qe_str (qa_cons (qe_ixD hu (qv 4) (qe_callB (b_reprX hu64 hgd) m_repr bt_repr (qa_cons (qv 11) qa_nil))) qa_nil))) (qe_tup (qa_cons qe_str qa_nil)))) (qss_one (qs_if (qt_cmp (o_ne hu64) (qe_callB (b_reprX hu64 hgd) m_repr bt_repr (qa_cons (q_call c__law_asked (hr.mono (by first | decide | omega)) hgd hl (qa_cons (qv 2) (qa_cons (qv 11) qa_nil))) qa_nil)) (qe_callB (b_reprX hu64 hgd) m_repr bt_repr (qa_cons (qv 12) qa_nil))) (qss_one (qs_ret qe_bl)) qss_nil))))) (qss_one (qs_ret qe_bl))))))))
theorem sc_law : FnScope n_law ["script"] (defScope (top 59)) := ⟨rfl, rfl, rfl, by decide +kernel, rfl, by decide +kernel, by decide +kernel⟩
theorem fn_law (X : K.In h) (G : h.Ns mainGlobals mg) (c : SaysM fa fn fb K) {fd : FuncData} (F : FunD K d_law.name d_law.qual d_law.params d_law.body d_law.scope (d_law.dvs K) (d_law.kws K) (He.fAd K d_law.at_) fd) : FnT P w K mg base 8 (He.fAd K d_law.at_) fd ["script"] spLaw := by
  have c__law_asked_two := ok__law_asked_two (P := P) (w := w) (base := base) X G c
  have c__law_asked_one := ok__law_asked_one (P := P) (w := w) (base := base) X G c
  refine fnT_by F sc_law (fun _ _ _ _ ⟨_, e, _⟩ => by rw [e]; rfl) (semx_law (cnOf K)) ?_
  intro cdv A outer s H E hr hgd tk hl hp
  have nd := (sc_law).nd
  have hu := hu_of hr
  have hu64 := room_hu64 hr
  have hu65 := room_hu65 hr
  exact (qss_one (qs_ret (qe_and (q_call c__law_asked_one (hr.mono (by first | decide | omega)) hgd hl (qa_cons (qv 0) qa_nil)) (qe_one (q_call c__law_asked_two (hr.mono (by first | decide | omega)) hgd hl (qa_cons (qv 0) qa_nil))))))
end
theorem facts {P : Program} {w : World} {K : PySem.W.Frag} {h : Heap} {mg : Str → Option Value} {f : Addr} (X : K.In h) (G : h.Ns mainGlobals mg) (hfa : mg ("law" : Str) = some (.ref f)) (c : SaysM fa fn fb K) :
    ∃ fd : FuncData, (∀ (s : Shared) (v : Value), BindsTo s fd ⟨[v], []⟩ [("script", v)]) ∧ ∀ base : Heap, K.In base → base.Ns mainGlobals mg → FnT P w K mg base 8 f fd ["script"] spLaw := by
  obtain ⟨fd, F⟩ := c.d.def_ 29 (d := d_law) rfl
  have gl := He.glo_ok X G (c.d.fact 29 (f := .glo "law") rfl)
  have e := hfa.symm.trans gl
  have b := FunD.bindsA (ps := ["script"]) F fun _ _ _ _ _ _ us hl => match us, hl with | [_], _ => rfl
  cases e
  exact ⟨fd, fun s v => b s [v] rfl, fun base _ _ => fn_law X G c F⟩

end G
open PySem PySem.W PySem.Calls PyProof.Rows
theorem PySem.Challenge.cw_lawfulpages_k00_errors_and_places_holds : PySem.Challenge.rw_lawfulpages_k00_errors_and_places.Holds := by
  w_on; o_law
  refine HandSHeadRun.head_any (r := OpenLaw.row PySem.Challenge.rw_lawfulpages_k00_errors_and_places) (q := view (OpenLaw.row PySem.Challenge.rw_lawfulpages_k00_errors_and_places).prog [59]) (H := G.hk) (ob := G.ob) (M := 6000) (loose := G.loose) (d := HandSHeadRun.topDef (OpenLaw.row PySem.Challenge.rw_lawfulpages_k00_errors_and_places).prog 59) (kwd := []) G.ob_eq
    (by kernel_rfl) (fun s => by kernel_rfl) G.run (by kernel_rfl) (by kernel_rfl) (by kernel_rfl) (by rfl) (by first | assumption | decide +kernel) (by decide +kernel) ⟨rfl, rfl, rfl, rfl, rfl, by decide +kernel⟩ ?hw ?hc
  case hw => w_witness2
  case hc =>
    refine T.walkT (l := PySem.Challenge.rw_lawfulpages_k00_errors_and_places) (k := 8) (x := "script") rfl (by kernel_rfl) ⟨rfl, by decide, by decide⟩ ?F
    intro w mg fa h Y G0 hmg0
    obtain ⟨K, KX, c⟩ := Y
    have hmg : mg ("law" : PySem.Str) = some (.ref fa) := by
      have e : (HandSHeadRun.topDef (OpenLaw.row PySem.Challenge.rw_lawfulpages_k00_errors_and_places).prog 59).name = ("law" : PySem.Str) := by kernel_rfl
      rw [← e]
      exact hmg0
    obtain ⟨fd, hb, hF⟩ := G.facts (P := (PySem.Challenge.rw_lawfulpages_k00_errors_and_places).prog) (w := w) KX G0 hmg c
    exact ⟨K, fd, KX, hb, hF⟩
